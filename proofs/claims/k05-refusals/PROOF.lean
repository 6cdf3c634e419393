import PyProof.Rows.All
import HandS.TryOnly
import PySem.Syntax
import PyProof.ReprReads
import HandS.ForMost
import HandS.ForExc
import HandS.Lambda
import HandS.TupAny
import HandS.TupLe
import HandS.Deep
import HandS.IsInst
import HandS.CallSlots
import HandS.Style
import HandS.ExcInit
import HandS.ExcOwn
import HandS.ExcIs
import HandS.ExcSuper
import HandS.Words
import KE.KExcSuper
import KE.KSuper
import HandS.TryMany
import HandS.TupSets
import KE.SortData
import HandS.EndTab
import HandS.Zip
import HandS.Zip0
import KE.KDictZip
import HandS.GenList
import KE.DataCmp
import KE.DataMinMax
import KE.DataFind
import HandS.Codes
import HandS.Dict
import HandS.OwnEq
import HandS.SlotsOwn
import HandS.More
import HandS.TupMul
import HandS.Wide
import HandS.Conv
import KE.GoesMore
import KE.KIntText
import HandS.Steps
import HandS.Head0
import HandS.Head1
import HandS.Head2
import HandS.HeadEnd
import HandS.HeadHook1
import HandS.HeadHook2
import HandS.HeadHook3
import HandS.HeadHook4
import PySem.Challenge.RW_dotpolygons_k05_refusals_of_shapes_and_d
section
set_option linter.all false
/-! Part A: the mirror language: data, store, results, the building blocks of mirrored code. No model in sight. -/
namespace Il
open PySem (Str PyData)

inductive D where
  | non | bl (b : Bool) | int (i : Int) | str (s : Str)
  | tup (xs : List D) | lst (xs : List D) | dct (kvs : List (D × D))
  | ref (n : Nat)
  /-- the law's own argument, only read -/
  | scr (xs : List D)
  deriving Inhabited

/-- what the store holds: a shared list, an instance -/
inductive O where
  | lst (xs : List D)
  | dct (kvs : List (D × D))
  /-- a dict whose keys are tuples of ints and texts -/
  | dtt (kvs : List (List D × D))
  | ins (c : Nat) (fs : List (Str × D))
  /-- a code table -/
  | tab (j : Nat) (q : Str)
abbrev Store := List O

inductive Res (α : Type) where
  | ok (a : α) (st : Store)
  | exc (c : Nat) (f : Option D) (st : Store)
  | stuck
def Res.bind {α β : Type} : Res α → (α → Store → Res β) → Res β
  | .ok a st, k => k a st
  | .exc c f st, _ => .exc c f st
  | .stuck, _ => .stuck
def Res.ofOpt {α : Type} (st : Store) : Option α → Res α
  | some a => .ok a st
  | none => .stuck

/-- a slot: frozen data, a list of this frame's own, a caught error, a thunk -/
inductive Sl where
  | fro (d : D)
  | own (xs : List D)
  | exn (c : Nat) (f : Option D)
  | thk (f : Store → Res D)
abbrev En := List (Option Sl)
abbrev Ex := En → Store → Res D
abbrev Tx := En → Store → Res Bool
abbrev Lx := En → Store → Res (List D)
inductive Out where
  | next (en : En) (st : Store)
  | ret (d : D) (st : Store)
  | brk (en : En) (st : Store)
  | cont (en : En) (st : Store)
  | exc (c : Nat) (f : Option D) (en : En) (st : Store)
  | stuck
abbrev Bk := En → Store → Out

/-! ### data -/
mutual
def D.eqv : D → D → Bool
  | .non, .non => true
  | .bl a, .bl b => a == b
  | .bl a, .int j => (if a then 1 else 0) == j
  | .int i, .bl b => i == (if b then 1 else 0)
  | .int i, .int j => i == j
  | .str x, .str y => x == y
  | .lst xs, .lst ys => D.eqvL xs ys
  | .tup xs, .tup ys => D.eqvL xs ys
  | _, _ => false
def D.eqvL : List D → List D → Bool
  | [], [] => true
  | x :: xs, y :: ys => D.eqv x y && D.eqvL xs ys
  | _, _ => false
end
mutual
/-- no references, no dicts -/
def D.flat : D → Bool
  | .tup xs => D.flatL xs
  | .lst xs => D.flatL xs
  | .ref _ => false
  | .dct _ => false
  | .scr _ => false
  | .str s => s.cps.all (· < 0x110000)
  | _ => true
def D.flatL : List D → Bool
  | [] => true
  | x :: xs => D.flat x && D.flatL xs
end
mutual
def D.depth : D → Nat
  | .tup xs => D.depthL xs + 1
  | .lst xs => D.depthL xs + 1
  | _ => 0
def D.depthL : List D → Nat
  | [] => 0
  | x :: xs => max (D.depth x) (D.depthL xs)
end
def D.ok (d : D) : Bool := d.flat && decide (d.depth ≤ 60)

/-! ### data as the library has it -/
mutual
def toPy : D → PyData
  | .bl b => .bool b
  | .int i => .int i
  | .str s => .str s
  | .tup xs => .tuple (toPyL xs)
  | .lst xs => .list (toPyL xs)
  | _ => .none
def toPyL : List D → List PyData
  | [] => []
  | x :: xs => toPy x :: toPyL xs
end
/-- repr: the text that the library tells -/
def D.text (d : D) : Str := (toPy d).shown
def D.canText (d : D) : Bool := d.ok && (toPy d).showable && decide ((toPy d).shown.length ≤ 16777216)
/-- the place of an index -/
def ixN (n : Nat) (i : Int) : Option Nat := if 0 ≤ i then (if i < n then some i.toNat else none) else if -(n : Int) ≤ i then some (i + n).toNat else none
def atI {α : Type} (xs : List α) (i : Int) : Option α := (ixN xs.length i).bind fun j => xs[j]?
/-- the bounds of a slice -/
def sIx (n d : Nat) : Option Int → Nat
  | none => d
  | some v => if v < 0 then (v + (n : Int)).toNat else min v.toNat n
def cut {α : Type} (xs : List α) (lo hi : Option Int) : List α := (xs.drop (sIx xs.length 0 lo)).take (sIx xs.length xs.length hi - sIx xs.length 0 lo)

def BIG : Nat := 16777216

/-! ### expressions -/
def xC (d : D) : Ex := fun _ st => .ok d st
/-- a name in a place where its value goes on -/
def xVar (i : Nat) : Ex := fun en st => match en[i]? with
  | some (some (.fro d)) => .ok d st
  | _ => .stuck
/-- a name whose value is only looked at -/
def xRd (i : Nat) : Ex := fun en st => match en[i]? with
  | some (some (.fro d)) => .ok d st
  | some (some (.own xs)) => .ok (.lst xs) st
  | _ => .stuck
def xOp2 (f : Store → D → D → Option D) (a b : Ex) : Ex := fun en st => (a en st).bind fun x s1 => (b en s1).bind fun y s2 => Res.ofOpt s2 (f s2 x y)
def xOp1 (f : Store → D → Option D) (a : Ex) : Ex := fun en st => (a en st).bind fun x s1 => Res.ofOpt s1 (f s1 x)
/-- an argument list -/
def lNil : Lx := fun _ st => .ok [] st
def lCons (a : Ex) (r : Lx) : Lx := fun en st => (a en st).bind fun x s1 => (r en s1).bind fun xs s2 => .ok (x :: xs) s2
def xTup (l : Lx) : Ex := fun en st => (l en st).bind fun xs s1 => if xs.length ≤ 1000 then .ok (.tup xs) s1 else .stuck
/-- a new list as data -/
def xLst (l : Lx) : Ex := fun en st => (l en st).bind fun xs s1 => .ok (.lst xs) s1
def lDisp (l : Lx) : Lx := fun en st => (l en st).bind fun xs s1 => if xs.length ≤ 1000 then .ok xs s1 else .stuck
def lOp1 (f : Store → D → Option (List D)) (a : Ex) : Lx := fun en st => (a en st).bind fun x s1 => Res.ofOpt s1 (f s1 x)
def lOp2 (f : Store → D → D → Option (List D)) (a b : Ex) : Lx := fun en st => (a en st).bind fun x s1 => (b en s1).bind fun y s2 => Res.ofOpt s2 (f s2 x y)
/-- optional parts of a slice -/
abbrev Px := En → Store → Res (Option Int)
def pNo : Px := fun _ st => .ok none st
def pSome (a : Ex) : Px := fun en st => (a en st).bind fun x s1 => match x with
  | .int i => .ok (some i) s1
  | _ => .stuck
/-- and, or, not, if as values and tests -/
def tOf (a : Ex) : Tx := fun en st => (a en st).bind fun x s1 => match x with
  | .bl b => .ok b s1
  | _ => .stuck
def tAnd (a b : Tx) : Tx := fun en st => (a en st).bind fun x s1 => if x then b en s1 else .ok false s1
def tOr (a b : Tx) : Tx := fun en st => (a en st).bind fun x s1 => if x then .ok true s1 else b en s1
def tNot (a : Tx) : Tx := fun en st => (a en st).bind fun x s1 => .ok (!x) s1
def xAnd (a b : Ex) : Ex := fun en st => (a en st).bind fun x s1 => match x with
  | .bl true => b en s1
  | .bl false => .ok (.bl false) s1
  | _ => .stuck
def xOr (a b : Ex) : Ex := fun en st => (a en st).bind fun x s1 => match x with
  | .bl true => .ok (.bl true) s1
  | .bl false => b en s1
  | _ => .stuck
def xNot (a : Ex) : Ex := fun en st => (a en st).bind fun x s1 => match x with
  | .bl b => .ok (.bl (!b)) s1
  | _ => .stuck
def xIf (t : Tx) (a b : Ex) : Ex := fun en st => (t en st).bind fun x s1 => if x then a en s1 else b en s1
/-- a < b < c, b once -/
def xChain (f g : Store → D → D → Option D) (a b c : Ex) : Ex := fun en st => (a en st).bind fun x s1 => (b en s1).bind fun y s2 => (Res.ofOpt s2 (f s2 x y)).bind fun z s3 => match z with
  | .bl true => (c en s3).bind fun w s4 => Res.ofOpt s4 (g s4 y w)
  | .bl false => .ok (.bl false) s3
  | _ => .stuck
def xChainT (f g : Store → D → D → Option D) (a b c : Ex) : Tx := tOf (xChain f g a b c)

/-- a list that is only looked at -/
def lRd (a : Ex) : Lx := fun en st => (a en st).bind fun x s1 => match x with
  | .lst xs => .ok xs s1
  | _ => .stuck
/-! ### operations on values -/
def deref (st : Store) : D → D
  | .ref n => match st[n]? with
    | some (.lst xs) => .lst xs
    | _ => .ref n
  | d => d
def oAdd (st : Store) (x y : D) : Option D := match x, y with
  | .int i, .int j => some (.int (i + j))
  | .str a, .str b => if a.length + b.length ≤ BIG then some (.str (a ++ b)) else none
  | .tup a, .tup b => if a.length + b.length ≤ BIG then some (.tup (a ++ b)) else none
  | _, _ => none
def oSub (st : Store) (x y : D) : Option D := match x, y with
  | .int i, .int j => some (.int (i - j))
  | _, _ => none
def oMul (st : Store) (x y : D) : Option D := match x, y with
  | .int i, .int j => if (i.natAbs < 2 ^ 64 ∨ j.natAbs < 2 ^ 64) then some (.int (i * j)) else none
  | _, _ => none
def oDiv (st : Store) (x y : D) : Option D := match x, y with
  | .int i, .int j => if j ≠ 0 ∧ j.natAbs < 1073741824 then some (.int (i.fdiv j)) else none
  | _, _ => none
def oMod (st : Store) (x y : D) : Option D := match x, y with
  | .int i, .int j => if j ≠ 0 then some (.int (i.fmod j)) else none
  | _, _ => none
def oPow (st : Store) (x y : D) : Option D := match x, y with
  | .int i, .int j => if 0 ≤ j ∧ j ≤ 1000000 ∧ i.natAbs < 2 ^ 64 then some (.int (i ^ j.toNat)) else none
  | _, _ => none
def oNeg (st : Store) (x : D) : Option D := match x with
  | .int i => some (.int (-i))
  | _ => none
def oEq (st : Store) (x y : D) : Option D := if (deref st x).ok && (deref st y).ok then some (.bl ((deref st x).eqv (deref st y))) else none
def oNe (st : Store) (x y : D) : Option D := if (deref st x).ok && (deref st y).ok then some (.bl (!(deref st x).eqv (deref st y))) else none
def oLt (st : Store) (x y : D) : Option D := match x, y with
  | .int i, .int j => some (.bl (decide (i < j)))
  | _, _ => none
def oLe (st : Store) (x y : D) : Option D := match x, y with
  | .int i, .int j => some (.bl (decide (i ≤ j)))
  | _, _ => none
def oGt (st : Store) (x y : D) : Option D := match x, y with
  | .int i, .int j => some (.bl (decide (j < i)))
  | _, _ => none
def oGe (st : Store) (x y : D) : Option D := match x, y with
  | .int i, .int j => some (.bl (decide (j ≤ i)))
  | _, _ => none
def isNon : D → Bool
  | .non => true
  | _ => false
def oIsN (st : Store) (x : D) : Option D := some (.bl (isNon x))
def oNotN (st : Store) (x : D) : Option D := some (.bl (!isNon x))
/-- an item -/
def oIx (st : Store) (x y : D) : Option D := match deref st x, y with
  | .lst xs, .int i => atI xs i
  | .tup xs, .int i => atI xs i
  | _, _ => none
def oLen (st : Store) (x : D) : Option D := match deref st x with
  | .scr xs => some (.int xs.length)
  | .lst xs => some (.int xs.length)
  | .tup xs => some (.int xs.length)
  | _ => none
def oAbs (st : Store) (x : D) : Option D := match x with
  | .int i => some (.int (if i < 0 then -i else i))
  | _ => none
def oInt (st : Store) (x : D) : Option D := match x with
  | .int i => some (.int i)
  | .bl b => some (.int (if b then 1 else 0))
  | _ => none
def oMax2 (st : Store) (x y : D) : Option D := match x, y with
  | .int i, .int j => some (.int (if j > i then j else i))
  | _, _ => none
def oMin2 (st : Store) (x y : D) : Option D := match x, y with
  | .int i, .int j => some (.int (if j < i then j else i))
  | _, _ => none
def boolsOf : List D → Option (List Bool)
  | [] => some []
  | .bl b :: r => (boolsOf r).map (b :: ·)
  | _ :: _ => none
def intsOf : List D → Option (List Int)
  | [] => some []
  | .int b :: r => (intsOf r).map (b :: ·)
  | _ :: _ => none
def oAll (st : Store) (x : D) : Option D := match deref st x with
  | .lst xs => (boolsOf xs).map fun bs => .bl (bs.all id)
  | _ => none
def oAny (st : Store) (x : D) : Option D := match deref st x with
  | .lst xs => (boolsOf xs).map fun bs => .bl (bs.any id)
  | _ => none
def oSum (st : Store) (x : D) : Option D := match deref st x with
  | .lst xs => (intsOf xs).map fun is => .int is.sum
  | _ => none
def maxI : List Int → Int
  | [] => 0
  | [x] => x
  | x :: y :: r => let m := maxI (y :: r); if m < x then x else m
def minI : List Int → Int
  | [] => 0
  | [x] => x
  | x :: y :: r => let m := minI (y :: r); if x < m then x else m
def oMax (st : Store) (x : D) : Option D := match deref st x with
  | .lst xs => (intsOf xs).bind fun is => if is.isEmpty then none else some (.int (maxI is))
  | _ => none
def oMin (st : Store) (x : D) : Option D := match deref st x with
  | .lst xs => (intsOf xs).bind fun is => if is.isEmpty then none else some (.int (minI is))
  | _ => none
def oTupOf (st : Store) (x : D) : Option D := match deref st x with
  | .lst xs => some (.tup xs)
  | .tup xs => some (.tup xs)
  | _ => none
def lListOf (st : Store) (x : D) : Option (List D) := match deref st x with
  | .lst xs => some xs
  | .tup xs => some xs
  | _ => none
def lCat (st : Store) (x y : D) : Option (List D) := match deref st x, deref st y with
  | .lst xs, .lst ys => if xs.length + ys.length ≤ BIG then some (xs ++ ys) else none
  | _, _ => none
def lRep (st : Store) (x y : D) : Option (List D) := match deref st x, y with
  | .lst xs, .int k => if -(2 ^ 63) ≤ k ∧ k < 2 ^ 63 ∧ xs.length * k.toNat ≤ BIG then some (List.replicate k.toNat xs).flatten else none
  | _, _ => none
def lSlice (a : Ex) (lo hi : Px) : Lx := fun en st => (a en st).bind fun x s1 => (lo en s1).bind fun l s2 => (hi en s2).bind fun h s3 => match deref s3 x with
  | .lst xs => .ok (cut xs l h) s3
  | .scr xs => .ok (cut xs l h) s3
  | _ => .stuck
/-- a slice of a tuple that is not the whole, or is -/
def xSliceT (a : Ex) (lo hi : Px) : Ex := fun en st => (a en st).bind fun x s1 => (lo en s1).bind fun l s2 => (hi en s2).bind fun h s3 => match deref s3 x with
  | .tup xs => .ok (.tup (cut xs l h)) s3
  | .lst xs => .ok (.lst (cut xs l h)) s3
  | _ => .stuck
/-- kinds -/
inductive Ty where
  | int | bool | str | tuple | list | dict
  deriving DecidableEq
def isTy : Ty → D → Bool
  | .int, .int _ => true
  | .int, .bl _ => true
  | .bool, .bl _ => true
  | .str, .str _ => true
  | .tuple, .tup _ => true
  | .list, .lst _ => true
  | .dict, .dct _ => true
  | _, _ => false
def notRef : D → Bool
  | .ref _ => false
  | .scr _ => false
  | _ => true
def oIsTy (ts : List Ty) (st : Store) (x : D) : Option D := if notRef x then some (.bl (ts.any fun t => isTy t x)) else none

/-! ### calls -/
/-- the meaning of the defs: by number -/
abbrev Calls := Nat → List D → Store → Res D
def xCall (C : Calls) (f : Nat) (l : Lx) : Ex := fun en st => (l en st).bind fun vs s1 => C f vs s1

/-! ### comprehensions -/
def wipe (en : En) : List Nat → En
  | [] => en
  | v :: vs => (wipe en vs).set v none
/-- targets -/
inductive Tg where
  | nm (i : Nat)
  | tp (ts : List Tg)
mutual
def Tg.put : Tg → D → En → Option En
  | .nm i, d, en => some (en.set i (some (.fro d)))
  | .tp ts, .tup ds, en => Tg.putL ts ds en
  | .tp ts, .lst ds, en => Tg.putL ts ds en
  | .tp _, _, _ => none
def Tg.putL : List Tg → List D → En → Option En
  | [], [], en => some en
  | t :: ts, d :: ds, en => (Tg.put t d en).bind (Tg.putL ts ds)
  | _, _, _ => none
end
mutual
def Tg.slots : Tg → List Nat
  | .nm i => [i]
  | .tp ts => Tg.slotsL ts
def Tg.slotsL : List Tg → List Nat
  | [] => []
  | t :: ts => Tg.slots t ++ Tg.slotsL ts
end
def compL (g : Tg) (t : Tx) (e : Ex) (en : En) : List D → List D → Store → Res (List D)
  | [], acc, st => .ok acc st
  | d :: ds, acc, st => match g.put d en with
    | none => .stuck
    | some en1 => (t en1 st).bind fun b s1 => if b then (e en1 s1).bind fun y s2 => if acc.length < BIG then compL g t e en ds (acc ++ [y]) s2 else .stuck else compL g t e en ds acc s1
def noExc {α : Type} : Res α → Res α
  | .exc _ _ _ => .stuck
  | r => r
def lComp (it : Lx) (g : Tg) (vs : List Nat) (t : Tx) (e : Ex) : Lx := fun en st => (it en st).bind fun ds s1 => noExc (compL g t e (wipe en vs) ds [] s1)
def tYes : Tx := fun _ st => .ok true st
/-- what is walked -/
def iSeq (a : Ex) : Lx := fun en st => (a en st).bind fun x s1 => match x with
  | .lst xs => .ok xs s1
  | .tup xs => .ok xs s1
  | _ => .stuck
def rangeL (lo hi : Int) : List D := (List.range (hi - lo).toNat).map fun (i : Nat) => D.int (lo + (i : Int))
def iRange1 (a : Ex) : Lx := fun en st => (a en st).bind fun x s1 => match x with
  | .int j => if -(2 ^ 62) ≤ j ∧ j < 2 ^ 62 then .ok (rangeL 0 j) s1 else .stuck
  | _ => .stuck
def iRange2 (a b : Ex) : Lx := fun en st => (a en st).bind fun x s1 => (b en s1).bind fun y s2 => match x, y with
  | .int i, .int j => if -(2 ^ 62) ≤ i ∧ i < 2 ^ 62 ∧ -(2 ^ 62) ≤ j ∧ j < 2 ^ 62 then .ok (rangeL i j) s2 else .stuck
  | _, _ => .stuck

/-! ### statements -/
def sNil : Bk := fun en st => .next en st
def Out.seq : Out → Bk → Out
  | .next en st, k => k en st
  | r, _ => r
def sSeq (a b : Bk) : Bk := fun en st => (a en st).seq b
def ofRes {α : Type} (en : En) (r : Res α) (k : α → Store → Out) : Out := match r with
  | .ok a st => k a st
  | .exc c f st => .exc c f en st
  | .stuck => .stuck
def sDrop (a : Ex) : Bk := fun en st => ofRes en (a en st) fun _ s1 => .next en s1
def sRet (a : Ex) : Bk := fun en st => ofRes en (a en st) fun d s1 => .ret d s1
def sAsg (g : Tg) (a : Ex) : Bk := fun en st => ofRes en (a en st) fun d s1 => match g.put d en with
  | some en1 => .next en1 s1
  | none => .stuck
/-- a new list, this frame's own -/
def sOwn (i : Nat) (a : Lx) : Bk := fun en st => ofRes en (a en st) fun xs s1 => if i < en.length then .next (en.set i (some (.own xs))) s1 else .stuck
def sFrz (i : Nat) : Bk := fun en st => match en[i]? with
  | some (some (.own xs)) => .next (en.set i (some (.fro (.lst xs)))) st
  | _ => .next en st
def sIf (t : Tx) (a b : Bk) : Bk := fun en st => ofRes en (t en st) fun x s1 => if x then a en s1 else b en s1
def forL (g : Tg) (b : Bk) : List D → Bk
  | [], en, st => .next en st
  | d :: ds, en, st => match g.put d en with
    | none => .stuck
    | some en1 => match b en1 st with
      | .next en2 s2 => forL g b ds en2 s2
      | .cont en2 s2 => forL g b ds en2 s2
      | .brk en2 s2 => .next en2 s2
      | r => r
def sFor (it : Lx) (g : Tg) (b : Bk) : Bk := fun en st => ofRes en (it en st) fun ds s1 => forL g b ds en s1
def whileN (t : Tx) (b : Bk) : Nat → Bk
  | 0, _, _ => .stuck
  | n + 1, en, st => ofRes en (t en st) fun x s1 => if x then match b en s1 with
      | .next en2 s2 => whileN t b n en2 s2
      | .cont en2 s2 => whileN t b n en2 s2
      | .brk en2 s2 => .next en2 s2
      | r => r
    else .next en s1
def sWhile (n : Nat) (t : Tx) (b : Bk) : Bk := whileN t b n
/-- xs.append(e), xs.extend(e), xs.pop() of an own list -/
def sApp (i : Nat) (a : Ex) : Bk := fun en st => match en[i]? with
  | some (some (.own xs)) => ofRes en (a en st) fun y s1 => if xs.length < BIG then .next (en.set i (some (.own (xs ++ [y])))) s1 else .stuck
  | _ => .stuck
def sExt (i : Nat) (a : Lx) : Bk := fun en st => match en[i]? with
  | some (some (.own xs)) => ofRes en (a en st) fun ys s1 => if xs.length + ys.length ≤ BIG then .next (en.set i (some (.own (xs ++ ys)))) s1 else .stuck
  | _ => .stuck
def sPop (i : Nat) : Bk := fun en st => match en[i]? with
  | some (some (.own xs)) => if xs.isEmpty then .stuck else .next (en.set i (some (.own xs.dropLast))) st
  | _ => .stuck
/-- o[i] = v, o a shared list -/
def sSetItem (o i v : Ex) : Bk := fun en st => ofRes en (v en st) fun y s1 => ofRes en (o en s1) fun x s2 => ofRes en (i en s2) fun k s3 => match x, k with
  | .ref n, .int k => match s3[n]? with
    | some (.lst xs) => match ixN xs.length k with
      | some j => .next en (s3.set n (.lst (xs.set j y)))
      | none => .stuck
    | _ => .stuck
  | _, _ => .stuck
/-- what a lambda sees of the slots: data -/
def lamEn (en : En) : En := en.map fun
  | some (.fro d) => some (.fro d)
  | _ => none
/-- word(lambda: x), the code table the store's k-th object -/
def xLam (k j : Nat) (q : Str) (word : (Store → Res D) → Store → Res D) (x : Ex) : Ex := fun en st => match st[k]? with
  | some (.tab j' q') => if j' = j ∧ q' = q then word (fun s => x (lamEn en) s) st else .stuck
  | _ => .stuck
/-- call() of the thunk in slot 0 -/
def xAct : Ex := fun en st => match en[(0 : Nat)]? with
  | some (some (.thk f)) => f st
  | _ => .stuck
/-- a def that gets a thunk -/
def runK (n : Nat) (b : Bk) (f : Store → Res D) (st : Store) : Res D := match b (some (.thk f) :: List.replicate (n - 1) none) st with
  | .ret d s1 => .ok d s1
  | .next _ s1 => .ok .non s1
  | .exc c f _ s1 => .exc c f s1
  | _ => .stuck
/-- raise -/
def sRaise0 (c : Nat) : Bk := fun en st => .exc c none en st
def sRaise1 (c : Nat) (a : Ex) : Bk := fun en st => ofRes en (a en st) fun d s1 => .exc c (some d) en s1
/-- try: b / except .. as slot i: h; cls: whether the clause takes the class -/
def noExn (en : En) : En := en.map fun
  | some (.exn _ _) => none
  | x => x
def Out.fin (i : Nat) : Out → Out
  | .next en st => .next (noExn (en.set i none)) st
  | .brk en st => .brk (noExn (en.set i none)) st
  | .cont en st => .cont (noExn (en.set i none)) st
  | .ret d st => .ret d st
  | _ => .stuck
def sTry (i : Nat) (cls : Nat → Option Bool) (b h : Bk) : Bk := fun en st => match b en st with
  | .exc c f en1 s1 => match cls c with
    | some true => (h (en1.set i (some (.exn c f))) s1).fin i
    | some false => .exc c f en1 s1
    | none => .stuck
  | r => r
/-- isinstance(e, C) of a caught error; its field -/
def xIsE (i : Nat) (sub : Nat → Option Bool) : Ex := fun en st => match en[i]? with
  | some (some (.exn c _)) => match sub c with
    | some b => .ok (.bl b) st
    | none => .stuck
  | _ => .stuck
def xFldE (i : Nat) : Ex := fun en st => match en[i]? with
  | some (some (.exn _ (some d))) => .ok d st
  | _ => .stuck
/-- a new shared list -/
def xCell (l : Lx) : Ex := fun en st => (l en st).bind fun xs s1 => if xs.length ≤ BIG then .ok (.ref s1.length) (s1 ++ [.lst xs]) else .stuck
/-- the def's own: parameters, then nothing -/
def startE (n : Nat) (vs : List D) : En := vs.map (fun d => some (.fro d)) ++ List.replicate (n - vs.length) none
def runB (n : Nat) (b : Bk) (vs : List D) (st : Store) : Res D := match b (startE n vs) st with
  | .ret d s1 => .ok d s1
  | .next _ s1 => .ok .non s1
  | .exc c f _ s1 => .exc c f s1
  | _ => .stuck
/-! ### instances -/
def putD (f : Str) (v : D) : List (Str × D) → List (Str × D)
  | [] => [(f, v)]
  | (g, x) :: r => if g = f then (g, v) :: r else (g, x) :: putD f v r
/-- C(..): a new instance of the class c, the def f is its __init__ -/
def xNew (C : Calls) (f c : Nat) (l : Lx) : Ex := fun en st => (l en st).bind fun vs s1 => match C f (.ref s1.length :: vs) (s1 ++ [.ins c []]) with
  | .ok .non s2 => .ok (.ref s1.length) s2
  | .ok _ _ => .stuck
  | .exc k v s2 => .exc k v s2
  | .stuck => .stuck
/-- o.f -/
def xFld (ok : Nat → Bool) (f : Str) (a : Ex) : Ex := fun en st => (a en st).bind fun x s1 => match x with
  | .ref n => match s1[n]? with
    | some (.ins c fs) => if ok c then Res.ofOpt s1 (fs.lookup f) else .stuck
    | _ => .stuck
  | _ => .stuck
/-- o.f = v -/
def sFldSet (ok : Nat → Bool) (f : Str) (o v : Ex) : Bk := fun en st => ofRes en (v en st) fun y s1 => ofRes en (o en s1) fun x s2 => match x with
  | .ref n => match s2[n]? with
    | some (.ins c fs) => if ok c && decide (fs.length < 1000) then .next en (s2.set n (.ins c (putD f y fs))) else .stuck
    | _ => .stuck
  | _ => .stuck
/-- o.m(..), o of the class c, the def f -/
def xMeth (C : Calls) (f c : Nat) (m : Str) (o : Ex) (l : Lx) : Ex := fun en st => (o en st).bind fun x s1 => match x with
  | .ref n => match s1[n]? with
    | some (.ins c' fs) => if c' = c ∧ fs.lookup m = none then (l en s1).bind fun vs s2 => C f (x :: vs) s2 else .stuck
    | _ => .stuck
  | _ => .stuck
/-- a new shared dict -/
def xDct0 : Ex := fun _ st => .ok (.ref st.length) (st ++ [.dct []])
/-! ### sorted sets of pairs -/
def leP (p q : Int × Int) : Bool := decide (p.1 < q.1 ∨ (p.1 = q.1 ∧ p.2 ≤ q.2))
def dd : List (Int × Int) → List (Int × Int)
  | [] => []
  | x :: xs => if x ∈ xs then dd xs else x :: dd xs
def sortU (ps : List (Int × Int)) : List (Int × Int) := (dd ps).mergeSort leP
theorem leP_trans (a b c : Int × Int) (h1 : leP a b = true) (h2 : leP b c = true) : leP a c = true := by
  unfold leP at *
  simp only [decide_eq_true_eq] at *
  omega
theorem leP_total (a b : Int × Int) : (leP a b || leP b a) = true := by
  unfold leP
  simp only [Bool.or_eq_true, decide_eq_true_eq]
  omega
theorem leP_anti {a b : Int × Int} (h1 : leP a b = true) (h2 : leP b a = true) : a = b := by
  unfold leP at *
  simp only [decide_eq_true_eq] at *
  exact Prod.ext (by omega) (by omega)
theorem dd_mem {x : Int × Int} : ∀ {l : List (Int × Int)}, x ∈ dd l ↔ x ∈ l
  | [] => by simp [dd]
  | y :: l => by
    simp only [dd]
    split
    · rename_i h
      rw [dd_mem, List.mem_cons]
      constructor
      · exact fun z => .inr z
      · rintro (z | z)
        · rw [z]; exact h
        · exact z
    · rw [List.mem_cons, List.mem_cons, dd_mem]
theorem dd_nodup : ∀ (l : List (Int × Int)), (dd l).Nodup
  | [] => by simp [dd]
  | y :: l => by
    simp only [dd]
    split
    · exact dd_nodup l
    · rename_i h
      rw [List.nodup_cons]
      exact ⟨fun z => h (dd_mem.mp z), dd_nodup l⟩
theorem sortU_mem {x : Int × Int} {l : List (Int × Int)} : x ∈ sortU l ↔ x ∈ l := by
  unfold sortU
  rw [(List.mergeSort_perm _ _).mem_iff, dd_mem]
theorem sortU_nodup (l : List (Int × Int)) : (sortU l).Nodup := (List.mergeSort_perm _ _).nodup_iff.mpr (dd_nodup l)
theorem sortU_sorted (l : List (Int × Int)) : (sortU l).Pairwise (fun a b => leP a b = true) := List.pairwise_mergeSort leP_trans leP_total _
theorem sortU_unique {l k : List (Int × Int)} (hn : k.Nodup) (hs : k.Pairwise (fun a b => leP a b = true)) (hm : ∀ x, x ∈ k ↔ x ∈ l) : k = sortU l :=
  List.Perm.eq_of_pairwise (le := fun a b => leP a b = true) (fun _ _ _ _ h1 h2 => leP_anti h1 h2) hs (sortU_sorted l) ((List.perm_ext_iff_of_nodup hn (sortU_nodup l)).mpr fun x => by rw [hm x, sortU_mem])
def pairD (p : Int × Int) : D := .tup [.int p.1, .int p.2]
def pairsOf : List D → Option (List (Int × Int))
  | [] => some []
  | .tup [.int x, .int y] :: r => (pairsOf r).map ((x, y) :: ·)
  | _ :: _ => none
def lSortSet (st : Store) (x : D) : Option (List D) := match deref st x with
  | .lst xs => (pairsOf xs).bind fun ps => if ps.length < 64 then some ((sortU ps).map pairD) else none
  | .tup xs => (pairsOf xs).bind fun ps => if ps.length < 64 then some ((sortU ps).map pairD) else none
  | _ => none
/-! ### repr; a pair of stores -/
def oRepr (st : Store) (x : D) : Option D := if (deref st x).canText then some (.str (deref st x).text) else none
/-- a function on numbers, told by a list -/
def tabB (l : List (Nat × Bool)) (c : Nat) : Option Bool := l.lookup c
/-- xs[::-1] -/
def lRev (st : Store) (x : D) : Option (List D) := match deref st x with
  | .lst xs => some xs.reverse
  | _ => none
end Il
end
section
set_option Elab.async false
set_option linter.all false
set_option maxRecDepth 100000
set_option maxHeartbeats 2000000
/-! Part C1: data and the heap: what represents what; a step; what a reading of mirrored code is. -/
namespace Il
open PySem PySem.Spec L2

structure Gh where
  K : PySem.W.Frag
  A : List Addr
  W : Addr → Prop
def keyD : D → Option Key
  | .int i => some (.inl i)
  | .str s => some (.inr s)
  | _ => none
/-- the law's argument: locked, or the module's own -/
def Scr (g : Gh) (H : Hp) (a : Addr) (xs : List V) : Prop := (∃ o, H a = some (.frz o (.lst xs)) ∧ ¬ g.W a) ∨ ∀ H' : Hp, SqL g.K H' a xs
mutual
inductive Rep (g : Gh) (H : Hp) : D → V → Prop
  | non : Rep g H .non .non
  | bl (b : Bool) : Rep g H (.bl b) (.bl b)
  | int (i : Int) : Rep g H (.int i) (.int i)
  | str (s : Str) : Rep g H (.str s) (.str s)
  | tup {a : Addr} {xs : List V} {ds : List D} : H a = some (.tup xs) → ¬ g.W a → RepL g H ds xs → Rep g H (.tup ds) (.ref a)
  | scr {a : Addr} {xs : List V} {ds : List D} : Scr g H a xs → RepL g H ds xs → Rep g H (.scr ds) (.ref a)
  | lst {a : Addr} {xs : List V} {ds : List D} : H a = some (.lst xs) → ¬ g.W a → RepL g H ds xs → Rep g H (.lst ds) (.ref a)
  | dct {a : Addr} {xs : List (Key × V)} {ds : List (D × D)} : H a = some (.dK xs) → ¬ g.W a → RepK g H ds xs → Rep g H (.dct ds) (.ref a)
  | ref {n : Nat} {a : Addr} : g.A[n]? = some a → Rep g H (.ref n) (.ref a)
inductive RepL (g : Gh) (H : Hp) : List D → List V → Prop
  | nil : RepL g H [] []
  | cons {d : D} {v : V} {ds : List D} {vs : List V} : Rep g H d v → RepL g H ds vs → RepL g H (d :: ds) (v :: vs)
inductive RepK (g : Gh) (H : Hp) : List (D × D) → List (Key × V) → Prop
  | nil : RepK g H [] []
  | cons {k d : D} {kk : Key} {v : V} {ds : List (D × D)} {vs : List (Key × V)} : keyD k = some kk → Rep g H d v → RepK g H ds vs → RepK g H ((k, d) :: ds) ((kk, v) :: vs)
end

abbrev NT (o : HO) : Prop := ∀ ps, o ≠ .tbl ps
/-- what an expression may change -/
structure Step (g : Gh) (H : Hp) (g' : Gh) (H' : Hp) : Prop where
  K : g'.K = g.K
  A : ∃ B, g'.A = g.A ++ B ∧ ∀ a ∈ B, H a = none
  keep : ∀ a o, H a = some o → a ∉ g.A → NT o → H' a = some o
  there : ∀ a, H a ≠ none → H' a ≠ none
  W1 : ∀ a, g.W a → g'.W a
  W2 : ∀ a, g'.W a → g.W a ∨ H a = none
/-- what a statement may change -/
structure SStep (g : Gh) (H : Hp) (g' : Gh) (H' : Hp) : Prop where
  K : g'.K = g.K
  A : ∃ B, g'.A = g.A ++ B ∧ ∀ a ∈ B, H a = none
  keep : ∀ a o, H a = some o → ¬ g.W a → NT o → H' a = some o
  there : ∀ a, H a ≠ none → H' a ≠ none
  W2 : ∀ a, g'.W a → g.W a ∨ H a = none

section
variable {g g1 g2 : Gh} {H H1 H2 : Hp}
theorem back_none (h : ∀ a, H a ≠ none → H1 a ≠ none) {a : Addr} (e : H1 a = none) : H a = none := by
  cases q : H a with
  | none => rfl
  | some o => exact absurd e (h a (by rw [q]; simp))
theorem Step.refl : Step g H g H := ⟨rfl, ⟨[], by simp, fun _ z => absurd z (by simp)⟩, fun _ _ e _ _ => e, fun _ e => e, fun _ e => e, fun _ e => .inl e⟩
theorem Step.mem (s : Step g H g1 H1) {a : Addr} (h : a ∈ g.A) : a ∈ g1.A := by
  obtain ⟨B, e, _⟩ := s.A
  rw [e]; exact List.mem_append_left _ h
theorem Step.notMem (s : Step g H g1 H1) {a : Addr} (h : a ∉ g.A) (t : H a ≠ none) : a ∉ g1.A := by
  obtain ⟨B, e, n⟩ := s.A
  rw [e]; intro z
  rcases List.mem_append.mp z with z | z
  · exact h z
  · exact t (n a z)
theorem Step.trans (s : Step g H g1 H1) (t : Step g1 H1 g2 H2) : Step g H g2 H2 := by
  obtain ⟨B1, e1, n1⟩ := s.A
  obtain ⟨B2, e2, n2⟩ := t.A
  refine ⟨t.K.trans s.K, ⟨B1 ++ B2, by rw [e2, e1, List.append_assoc], fun a ha => ?_⟩, fun a o e na nt => ?_, fun a e => t.there a (s.there a e), fun a e => t.W1 a (s.W1 a e), fun a e => ?_⟩
  · rcases List.mem_append.mp ha with z | z
    · exact n1 a z
    · exact back_none s.there (n2 a z)
  · exact t.keep a o (s.keep a o e na nt) (s.notMem na (by rw [e]; simp)) nt
  · rcases t.W2 a e with z | z
    · exact s.W2 a z
    · exact .inr (back_none s.there z)
theorem SStep.refl : SStep g H g H := ⟨rfl, ⟨[], by simp, fun _ z => absurd z (by simp)⟩, fun _ _ e _ _ => e, fun _ e => e, fun _ e => .inl e⟩
theorem Step.s (s : Step g H g1 H1) (aw : ∀ a ∈ g.A, g.W a) : SStep g H g1 H1 := ⟨s.K, s.A, fun a o e n nt => s.keep a o e (fun z => n (aw a z)) nt, s.there, s.W2⟩
theorem SStep.notW (s : SStep g H g1 H1) {a : Addr} (h : ¬ g.W a) (t : H a ≠ none) : ¬ g1.W a := fun z => (s.W2 a z).elim h t
theorem SStep.trans (s : SStep g H g1 H1) (t : SStep g1 H1 g2 H2) : SStep g H g2 H2 := by
  obtain ⟨B1, e1, n1⟩ := s.A
  obtain ⟨B2, e2, n2⟩ := t.A
  refine ⟨t.K.trans s.K, ⟨B1 ++ B2, by rw [e2, e1, List.append_assoc], fun a ha => ?_⟩, fun a o e na nt => ?_, fun a e => t.there a (s.there a e), fun a e => ?_⟩
  · rcases List.mem_append.mp ha with z | z
    · exact n1 a z
    · exact back_none s.there (n2 a z)
  · exact t.keep a o (s.keep a o e na nt) (s.notW na (by rw [e]; simp)) nt
  · rcases t.W2 a e with z | z
    · exact s.W2 a z
    · exact .inr (back_none s.there z)
theorem is_some {a : Addr} {u : HO} (h : H a = some u) : H a ≠ none := by rw [h]; simp
theorem SStep.scr (s : SStep g H g1 H1) {a : Addr} {xs : List V} (h : Scr g H a xs) : Scr g1 H1 a xs := by
  rcases h with ⟨o, h, n⟩ | h
  · exact .inl ⟨o, s.keep a _ h n nofun, s.notW n (is_some h)⟩
  · exact .inr (by rw [s.K]; exact h)
theorem SStep.at_ (s : SStep g H g1 H1) {n : Nat} {a : Addr} (h : g.A[n]? = some a) : g1.A[n]? = some a := by
  obtain ⟨B, e, _⟩ := s.A
  rw [e, List.getElem?_append_left (List.getElem?_eq_some_iff.mp h).1]; exact h
mutual
theorem Rep.step (s : SStep g H g1 H1) : ∀ {d : D} {v : V}, Rep g H d v → Rep g1 H1 d v
  | _, _, .non => .non
  | _, _, .bl b => .bl b
  | _, _, .int i => .int i
  | _, _, .str x => .str x
  | _, _, .tup r n l => .tup (s.keep _ _ r n nofun) (s.notW n (is_some r)) (RepL.step s l)
  | _, _, .scr r l => .scr (s.scr r) (RepL.step s l)
  | _, _, .lst r n l => .lst (s.keep _ _ r n nofun) (s.notW n (is_some r)) (RepL.step s l)
  | _, _, .dct r n l => .dct (s.keep _ _ r n nofun) (s.notW n (is_some r)) (RepK.step s l)
  | _, _, .ref h => .ref (s.at_ h)
theorem RepL.step (s : SStep g H g1 H1) : ∀ {ds : List D} {vs : List V}, RepL g H ds vs → RepL g1 H1 ds vs
  | _, _, .nil => .nil
  | _, _, .cons h t => .cons (Rep.step s h) (RepL.step s t)
theorem RepK.step (s : SStep g H g1 H1) : ∀ {ds : List (D × D)} {vs : List (Key × V)}, RepK g H ds vs → RepK g1 H1 ds vs
  | _, _, .nil => .nil
  | _, _, .cons k h t => .cons k (Rep.step s h) (RepK.step s t)
end
theorem RepL.length : ∀ {ds : List D} {vs : List V}, RepL g H ds vs → ds.length = vs.length
  | _, _, .nil => rfl
  | _, _, .cons _ t => by simp [RepL.length t]
theorem RepL.get : ∀ {ds : List D} {vs : List V} {i : Nat} {d : D}, RepL g H ds vs → ds[i]? = some d → ∃ v, vs[i]? = some v ∧ Rep g H d v
  | _, _, _, _, .nil, e => by simp at e
  | _, _, 0, _, .cons h _, e => by simp at e; subst e; exact ⟨_, rfl, h⟩
  | _, _, i + 1, d, .cons _ t, e => by
    obtain ⟨v, h1, h2⟩ := RepL.get (i := i) (d := d) t (by simpa using e)
    exact ⟨v, by simpa using h1, h2⟩
theorem RepL.append : ∀ {ds es : List D} {vs ws : List V}, RepL g H ds vs → RepL g H es ws → RepL g H (ds ++ es) (vs ++ ws)
  | _, _, _, _, .nil, s => s
  | _, _, _, _, .cons h t, s => .cons h (RepL.append t s)
theorem RepL.take : ∀ {ds : List D} {vs : List V} (n : Nat), RepL g H ds vs → RepL g H (ds.take n) (vs.take n)
  | _, _, 0, _ => by simp only [List.take_zero]; exact .nil
  | _, _, n + 1, .nil => by simp only [List.take_nil]; exact .nil
  | _, _, n + 1, .cons h t => by simp only [List.take_succ_cons]; exact .cons h (RepL.take n t)
theorem RepL.drop : ∀ {ds : List D} {vs : List V} (n : Nat), RepL g H ds vs → RepL g H (ds.drop n) (vs.drop n)
  | _, _, 0, r => r
  | _, _, n + 1, .nil => by simp only [List.drop_nil]; exact .nil
  | _, _, n + 1, .cons h t => by simp only [List.drop_succ_cons]; exact RepL.drop n t
theorem RepL.set {d : D} {v : V} (r : Rep g H d v) : ∀ {ds : List D} {vs : List V} (i : Nat), RepL g H ds vs → RepL g H (ds.set i d) (vs.set i v)
  | _, _, _, .nil => .nil
  | _, _, 0, .cons _ t => .cons r t
  | _, _, i + 1, .cons h t => .cons h (RepL.set r i t)
theorem RepL.one {d : D} {v : V} (r : Rep g H d v) : RepL g H [d] [v] := .cons r .nil
theorem RepL.reverse : ∀ {ds : List D} {vs : List V}, RepL g H ds vs → RepL g H ds.reverse vs.reverse
  | _, _, .nil => .nil
  | _, _, .cons h t => by
    simp only [List.reverse_cons]
    exact RepL.append (RepL.reverse t) (.one h)
theorem RepL.flat {ds : List D} {vs : List V} (r : RepL g H ds vs) : ∀ k : Nat, RepL g H (List.replicate k ds).flatten (List.replicate k vs).flatten
  | 0 => .nil
  | k + 1 => by
    simp only [List.replicate_succ, List.flatten_cons]
    exact RepL.append r (RepL.flat r k)
/- only the avoided addresses differ -/
mutual
theorem Rep.less {W' : Addr → Prop} (h : ∀ a, W' a → g.W a) : ∀ {d : D} {v : V}, Rep g H d v → Rep ⟨g.K, g.A, W'⟩ H d v
  | _, _, .non => .non
  | _, _, .bl b => .bl b
  | _, _, .int i => .int i
  | _, _, .str x => .str x
  | _, _, .tup r n l => .tup r (fun z => n (h _ z)) (RepL.less h l)
  | _, _, .scr r l => .scr (r.imp (fun ⟨o, e, n⟩ => ⟨o, e, fun z => n (h _ z)⟩) id) (RepL.less h l)
  | _, _, .lst r n l => .lst r (fun z => n (h _ z)) (RepL.less h l)
  | _, _, .dct r n l => .dct r (fun z => n (h _ z)) (RepK.less h l)
  | _, _, .ref e => .ref e
theorem RepL.less {W' : Addr → Prop} (h : ∀ a, W' a → g.W a) : ∀ {ds : List D} {vs : List V}, RepL g H ds vs → RepL ⟨g.K, g.A, W'⟩ H ds vs
  | _, _, .nil => .nil
  | _, _, .cons r t => .cons (Rep.less h r) (RepL.less h t)
theorem RepK.less {W' : Addr → Prop} (h : ∀ a, W' a → g.W a) : ∀ {ds : List (D × D)} {vs : List (Key × V)}, RepK g H ds vs → RepK ⟨g.K, g.A, W'⟩ H ds vs
  | _, _, .nil => .nil
  | _, _, .cons k r t => .cons k (Rep.less h r) (RepK.less h t)
end
end

/-! ### the store -/
/-- the class at a number -/
abbrev ClsT := Nat → Addr
inductive RepF (g : Gh) (H : Hp) : List (Str × D) → List (Str × V) → Prop
  | nil : RepF g H [] []
  | cons {x : Str} {d : D} {v : V} {ds : List (Str × D)} {vs : List (Str × V)} : Rep g H d v → RepF g H ds vs → RepF g H ((x, d) :: ds) ((x, v) :: vs)
def keyL : List D → Option (List Key)
  | [] => some []
  | d :: ds => (keyD d).bind fun k => (keyL ds).map (k :: ·)
inductive RepKT (g : Gh) (H : Hp) : List (List D × D) → List (List Key × V) → Prop
  | nil : RepKT g H [] []
  | cons {k : List D} {d : D} {kk : List Key} {v : V} {ds : List (List D × D)} {vs : List (List Key × V)} : keyL k = some kk → Rep g H d v → RepKT g H ds vs → RepKT g H ((k, d) :: ds) ((kk, v) :: vs)
theorem RepKT.step {g g1 : Gh} {H H1 : Hp} (s : SStep g H g1 H1) : ∀ {ds : List (List D × D)} {vs : List (List Key × V)}, RepKT g H ds vs → RepKT g1 H1 ds vs
  | _, _, .nil => .nil
  | _, _, .cons k h t => .cons k (h.step s) (RepKT.step s t)
theorem RepKT.less {g : Gh} {H : Hp} {W' : Addr → Prop} (h : ∀ a, W' a → g.W a) : ∀ {ds : List (List D × D)} {vs : List (List Key × V)}, RepKT g H ds vs → RepKT ⟨g.K, g.A, W'⟩ H ds vs
  | _, _, .nil => .nil
  | _, _, .cons k r t => .cons k (r.less h) (RepKT.less h t)
def ObR (ct : ClsT) (g : Gh) (H : Hp) (a : Addr) : O → Prop
  | .lst xs => ∃ vs, H a = some (.lst vs) ∧ RepL g H xs vs
  | .dct kvs => ∃ vs, H a = some (.dK vs) ∧ RepK g H kvs vs
  | .dtt kvs => ∃ vs, H a = some (.dT vs) ∧ RepKT g H kvs vs
  | .ins c fs => ∃ dx vs, H a = some (.ins (ct c) dx vs) ∧ RepF g H fs vs
  | .tab j q => a = ct j ∧ ∃ ps : Array Value, H a = some (.tbl ps) ∧ TriplesOk ps.toList ∧ ∀ (pos : Pos) (cv : Value), codeAmong pos ps.toList = some cv → ∃ c, cv = .ref c ∧ H c = some (LamX.CodeO c q) ∧ ¬ g.W c
structure Sto (ct : ClsT) (g : Gh) (H : Hp) (st : Store) : Prop where
  len : g.A.length = st.length
  nd : g.A.Nodup
  aw : ∀ a ∈ g.A, g.W a
  tr : ∀ a, g.W a → H a ≠ none
  /-- what is avoided is no tuple -/
  nt : ∀ a, g.W a → ∀ xs, H a ≠ some (.tup xs)
  ob : ∀ (n : Nat) o a, st[n]? = some o → g.A[n]? = some a → ObR ct g H a o

theorem nt_keep {H H' : Hp} {a : Addr} (h1 : H a ≠ none) (h2 : ∀ xs, H a ≠ some (.tup xs)) (e : ∀ u, H a = some u → H' a = some u) : ∀ xs, H' a ≠ some (.tup xs) := by
  intro xs z
  cases q : H a with
  | none => exact h1 q
  | some u => rw [e u q] at z; cases z; exact h2 xs q
theorem ObR.nt {ct : ClsT} {g : Gh} {H : Hp} {a : Addr} {o : O} (h : ObR ct g H a o) : ∀ xs, H a ≠ some (.tup xs) := by
  intro xs z
  cases o with
  | lst ys => obtain ⟨vs, q, _⟩ := h; rw [q] at z; cases z
  | dct kvs => obtain ⟨vs, q, _⟩ := h; rw [q] at z; cases z
  | dtt kvs => obtain ⟨vs, q, _⟩ := h; rw [q] at z; cases z
  | ins c fs => obtain ⟨dx, vs, q, _⟩ := h; rw [q] at z; cases z
  | tab j x => obtain ⟨_, ps, q, _⟩ := h; rw [q] at z; cases z
/-- the error class at a number: its class, its field's name -/
abbrev ExT := Nat → Addr × Option Str
structure Fc where
  K : PySem.W.Frag
  ct : ClsT
  xt : ExT
  H0 : Hp
  g0 : Gh
  /-- what is let of an error that leaves: its class, its field, the slots, the store -/
  EW : Nat → Option D → En → Store → Prop
  /-- slots of another kind: a caught error, a thunk -/
  sx : (Nat → Option D → V → Gh → Hp → Prop)
  th : ((Store → Res D) → V → Gh → Hp → Prop)
  /-- whatever stays true -/
  lk : Gh → Hp → Prop
/-- what other slots lean on stays -/
structure Fc.Ok (F : Fc) : Prop where
  kk : F.g0.K = F.K
  tr0 : ∀ a, F.g0.W a → F.H0 a ≠ none
  sx : ∀ c f v g H g' H', F.sx c f v g H → SStep g H g' H' → F.sx c f v g' H'
  th : ∀ f v g H g' H', F.th f v g H → SStep g H g' H' → F.th f v g' H'
  lk : ∀ g H g' H', F.lk g H → SStep g H g' H' → F.lk g' H'
def SlR (F : Fc) (g : Gh) (H : Hp) (ov : Option (Option V)) : Sl → Prop
  | .fro d => ∃ v, ov = some (some v) ∧ Rep g H d v
  | .own xs => ∃ p vs, ov = some (some (.ref p)) ∧ H p = some (.lst vs) ∧ RepL g H xs vs ∧ g.W p ∧ p ∉ g.A ∧ F.H0 p = none
  | .exn c f => ∃ v, ov = some (some v) ∧ F.sx c f v g H
  | .thk f => ∃ v, ov = some (some v) ∧ F.th f v g H
structure Rel (F : Fc) (σ : L2.St) (H : Hp) (en : En) (st : Store) (g : Gh) : Prop where
  len : σ.length = en.length
  sl : ∀ (i : Nat) s, en[i]? = some (some s) → SlR F g H (σ[i]?) s
  dj : ∀ (i j : Nat) xs ys, en[i]? = some (some (.own xs)) → en[j]? = some (some (.own ys)) → i ≠ j → σ[i]? ≠ σ[j]?
  sto : Sto F.ct g H st
  ext : Step F.g0 F.H0 g H
  ok : F.Ok
  lk : F.lk g H

section
variable {F : Fc} {σ : L2.St} {H H1 H2 : Hp} {en : En} {st st1 : Store} {g g1 g2 : Gh}
theorem Rel.step (r : Rel F σ H en st g) (s : Step g H g1 H1) (t : Sto F.ct g1 H1 st1) : Rel F σ H1 en st1 g1 := by
  have ss := s.s r.sto.aw
  refine ⟨r.len, fun i x e => ?_, r.dj, t, r.ext.trans s, r.ok, r.ok.lk _ _ _ _ r.lk ss⟩
  have q := r.sl i x e
  cases x with
  | fro d =>
    obtain ⟨v, e1, e2⟩ := q
    exact ⟨v, e1, e2.step ss⟩
  | own xs =>
    obtain ⟨p, vs, e1, e2, e3, e4, e5, e6⟩ := q
    exact ⟨p, vs, e1, s.keep p _ e2 e5 nofun, e3.step ss, s.W1 p e4, s.notMem e5 (by rw [e2]; simp), e6⟩
  | exn c f =>
    obtain ⟨v, e1, e2⟩ := q
    exact ⟨v, e1, r.ok.sx _ _ _ _ _ _ _ e2 ss⟩
  | thk f =>
    obtain ⟨v, e1, e2⟩ := q
    exact ⟨v, e1, r.ok.th _ _ _ _ _ _ e2 ss⟩
/-- a list, its items data, itself perhaps one's own -/
def RepT (g : Gh) (H : Hp) (d : D) (v : V) : Prop := Rep g H d v ∨ ∃ p xs ds, d = .lst ds ∧ v = .ref p ∧ H p = some (.lst xs) ∧ RepL g H ds xs ∧ p ∉ g.A
theorem RepT.step (s : Step g H g1 H1) (aw : ∀ a ∈ g.A, g.W a) {d : D} {v : V} (r : RepT g H d v) : RepT g1 H1 d v := by
  rcases r with r | ⟨p, xs, ds, rfl, rfl, h, l, n⟩
  · exact .inl (r.step (s.s aw))
  · exact .inr ⟨p, xs, ds, rfl, rfl, s.keep p _ h n nofun, l.step (s.s aw), s.notMem n (by rw [h]; simp)⟩

/-- an error: c with the field f stands as the class cls with its own dict dd -/
def ExR (xt : ExT) (g : Gh) (H : Hp) (c : Nat) (f : Option D) (cls : Value) (dd : Option Addr) : Prop :=
  cls = .ref (xt c).1 ∧ match (xt c).2, f with
    | none, none => dd = none
    | some nm, some d => ∃ a v, dd = some a ∧ H a = some (.xd [(nm, v)]) ∧ Rep g H d v ∧ ¬ g.W a
    | _, _ => False
/-- what is let of an error in the air -/
def wF (F : Fc) : WX := fun cls dd σ H => ∃ en st g c f, Rel F σ H en st g ∧ ExR F.xt g H c f cls dd ∧ F.EW c f en st
/-! ### readings -/
/-- behind r, from g H -/
def Go {α β : Type} (F : Fc) (R : Gh → Hp → α → β → Prop) (σ : L2.St) (en : En) (g : Gh) (H : Hp) (Q : β → Hp → Prop) : Res α → Prop
  | .ok a st => ∀ b H' g', Rel F σ H' en st g' → Step g H g' H' → R g' H' a b → Q b H'
  | .exc c f st => F.EW c f en st
  | .stuck => False
def Sem {α β : Type} (F : Fc) (R : Gh → Hp → α → β → Prop) (x : En → Store → Res α) : L2.St → Hp → (β → Hp → Prop) → Prop := fun σ H Q =>
  ∃ en st g, Rel F σ H en st g ∧ Go F R σ en g H Q (x en st)
theorem Go.from {α β : Type} {R : Gh → Hp → α → β → Prop} {Q : β → Hp → Prop} {r : Res α} (h : Go F R σ en g H Q r) (s : Step g H g1 H1) : Go F R σ en g1 H1 Q r := by
  cases r with
  | ok a st => exact fun b H' g' rel st' q => h b H' g' rel (s.trans st') q
  | exc c f st => exact h
  | stuck => exact h
/-- the first part of two -/
theorem Go.bind {α β γ δ : Type} {R : Gh → Hp → α → β → Prop} {S : Gh → Hp → γ → δ → Prop} {Q : δ → Hp → Prop} {P : β → Hp → Prop} {r : Res α} {k : α → Store → Res γ} (h : Go F S σ en g H Q (r.bind k))
    (n : ∀ a st b H' g', r = .ok a st → Rel F σ H' en st g' → Step g H g' H' → R g' H' a b → Go F S σ en g' H' Q (k a st) → P b H') : Go F R σ en g H P r := by
  cases r with
  | ok a st => exact fun b H' g' rel s q => n a st b H' g' rfl rel s q (Go.from (r := k a st) h s)
  | exc c f st => exact h
  | stuck => exact h
theorem Go.ofOpt {α β : Type} {R : Gh → Hp → α → β → Prop} {Q : β → Hp → Prop} {o : Option α} (h : Go F R σ en g H Q (Res.ofOpt st o)) : ∃ a, o = some a ∧ Go F R σ en g H Q (.ok a st) := by
  cases o with
  | none => exact h.elim
  | some a => exact ⟨a, rfl, h⟩
/-- nothing changes -/
theorem Go.here {α β : Type} {R : Gh → Hp → α → β → Prop} {Q : β → Hp → Prop} {a : α} {b : β} (h : Go F R σ en g H Q (.ok a st)) (r : Rel F σ H en st g) (q : R g H a b) : Q b H := h b H g r Step.refl q
abbrev RB : Gh → Hp → Bool → Bool → Prop := fun _ _ a b => a = b
abbrev RO : Gh → Hp → Option Int → Option Int → Prop := fun _ _ a b => a = b

def Ext (H H' : Hp) : Prop := ∀ a o, H a = some o → H' a = some o
theorem Ext.new {H : Hp} {p : Addr} {o : HO} (h : H p = none) : Ext H (upd H p o) := fun a u e => by
  rw [upd_ne (ne_of_none e h)]; exact e
theorem Ext.some {H H' : Hp} (e : Ext H H') {a : Addr} (h : H a ≠ Option.none) : H' a ≠ Option.none := by
  cases q : H a with
  | none => exact absurd q h
  | some o => rw [e a o q]; simp
theorem Step.same {H H' : Hp} (e : Ext H H') : Step g H g H' := ⟨rfl, ⟨[], by simp, fun _ z => absurd z (by simp)⟩, fun a o h _ _ => e a o h, fun _ h => e.some h, fun _ h => h, fun _ h => .inl h⟩
theorem SStep.same {H H' : Hp} (e : Ext H H') : SStep g H g H' := ⟨rfl, ⟨[], by simp, fun _ z => absurd z (by simp)⟩, fun a o h _ _ => e a o h, fun _ h => e.some h, fun _ h => .inl h⟩
theorem RepF.step {g1 : Gh} {H1 : Hp} (s : SStep g H g1 H1) : ∀ {ds : List (Str × D)} {vs : List (Str × V)}, RepF g H ds vs → RepF g1 H1 ds vs
  | _, _, .nil => .nil
  | _, _, .cons r t => .cons (r.step s) (RepF.step s t)
theorem RepF.less {W' : Addr → Prop} (h : ∀ a, W' a → g.W a) : ∀ {ds : List (Str × D)} {vs : List (Str × V)}, RepF g H ds vs → RepF ⟨g.K, g.A, W'⟩ H ds vs
  | _, _, .nil => .nil
  | _, _, .cons r t => .cons (r.less h) (RepF.less h t)
theorem ObR.step {ct : ClsT} {g1 : Gh} {H1 : Hp} {a : Addr} {o : O} (s : SStep g H g1 H1) (e : ∀ u, H a = some u → H1 a = some u) (h : ObR ct g H a o) : ObR ct g1 H1 a o := by
  cases o with
  | lst xs =>
    obtain ⟨vs, q1, q2⟩ := h
    exact ⟨vs, e _ q1, q2.step s⟩
  | dct kvs =>
    obtain ⟨vs, q1, q2⟩ := h
    exact ⟨vs, e _ q1, q2.step s⟩
  | dtt kvs =>
    obtain ⟨vs, q1, q2⟩ := h
    exact ⟨vs, e _ q1, q2.step s⟩
  | ins c fs =>
    obtain ⟨dx, vs, q1, q2⟩ := h
    exact ⟨dx, vs, e _ q1, q2.step s⟩
  | tab j q =>
    obtain ⟨q0, ps, q1, q2, q3⟩ := h
    exact ⟨q0, ps, e _ q1, q2, fun pos cv hc => by
      obtain ⟨c, r1, r2, r3⟩ := q3 pos cv hc
      exact ⟨c, r1, s.keep c _ r2 r3 (LamX.codeO_ne), s.notW r3 (is_some r2)⟩⟩
theorem ObR.less {ct : ClsT} {W' : Addr → Prop} (hw : ∀ a, W' a → g.W a) {a : Addr} {o : O} (h : ObR ct g H a o) : ObR ct ⟨g.K, g.A, W'⟩ H a o := by
  cases o with
  | lst xs =>
    obtain ⟨vs, q1, q2⟩ := h
    exact ⟨vs, q1, q2.less hw⟩
  | dct kvs =>
    obtain ⟨vs, q1, q2⟩ := h
    exact ⟨vs, q1, q2.less hw⟩
  | dtt kvs =>
    obtain ⟨vs, q1, q2⟩ := h
    exact ⟨vs, q1, q2.less hw⟩
  | ins c fs =>
    obtain ⟨dx, vs, q1, q2⟩ := h
    exact ⟨dx, vs, q1, q2.less hw⟩
  | tab j q =>
    obtain ⟨q0, ps, q1, q2, q3⟩ := h
    exact ⟨q0, ps, q1, q2, fun pos cv hc => by
      obtain ⟨c, r1, r2, r3⟩ := q3 pos cv hc
      exact ⟨c, r1, r2, fun z => r3 (hw _ z)⟩⟩
theorem Sto.same {ct : ClsT} {H H' : Hp} (t : Sto ct g H st) (e : Ext H H') : Sto ct g H' st :=
  ⟨t.len, t.nd, t.aw, fun a h => e.some (t.tr a h), fun a h => nt_keep (t.tr a h) (t.nt a h) (e a), fun n o a h1 h2 => (t.ob n o a h1 h2).step (.same e) (e a)⟩
theorem Rel.same {H H' : Hp} (r : Rel F σ H en st g) (e : Ext H H') : Rel F σ H' en st g := r.step (.same e) (r.sto.same e)
/-- a new object, no store changed -/
theorem Go.new {α β : Type} {R : Gh → Hp → α → β → Prop} {Q : β → Hp → Prop} {a : α} {b : β} {p : Addr} {o : HO} (h : Go F R σ en g H Q (.ok a st)) (r : Rel F σ H en st g) (n : H p = none) (q : R g (upd H p o) a b) : Q b (upd H p o) :=
  h b _ g (r.same (.new n)) (.same (.new n)) q
theorem Rel.newW (r : Rel F σ H en st g) {p : Addr} (n : H p = none) : ¬ g.W p := fun z => r.sto.tr p z n
/-- p is avoided, too -/
abbrev Gh.and (g : Gh) (p : Addr) : Gh := ⟨g.K, g.A, fun a => g.W a ∨ a = p⟩
/-- p is avoided no more -/
abbrev Gh.but (g : Gh) (p : Addr) : Gh := ⟨g.K, g.A, fun a => g.W a ∧ a ≠ p⟩
theorem Step.and {p : Addr} (np : H p = none) {o : HO} : Step g H (g.and p) (upd H p o) :=
  ⟨rfl, ⟨[], by simp, fun _ z => absurd z (by simp)⟩, fun a u h _ _ => Ext.new np a u h, fun _ h => (Ext.new np).some h, fun _ h => .inl h, fun a h => h.imp id fun e => by rw [e]; exact np⟩
/-- a new object that is avoided -/
theorem Rel.and (r : Rel F σ H en st g) {p : Addr} (np : H p = none) {o : HO} (ho : ∀ xs, o ≠ .tup xs := by intro _ h; cases h) : Rel F σ (upd H p o) en st (g.and p) := by
  have s : Step g H (g.and p) (upd H p o) := .and np
  have t := r.sto
  refine r.step s ⟨t.len, t.nd, fun a h => .inl (t.aw a h), fun a h => ?_, fun a h => ?_, fun n o a h1 h2 => (t.ob n o a h1 h2).step (s.s t.aw) (Ext.new np a)⟩
  · rcases h with h | h
    · exact (Ext.new np).some (t.tr a h)
    · rw [h, upd_same]; simp
  · rcases h with h | h
    · exact nt_keep (t.tr a h) (t.nt a h) (Ext.new np a)
    · rw [h, upd_same]; exact fun xs z => ho xs (Option.some.inj z)
/-- what no slot owns is let go -/
theorem Rel.but (r : Rel F σ H en st g) {p : Addr} (no : ∀ (i : Nat) xs, en[i]? = some (some (.own xs)) → σ[i]? ≠ some (some (.ref p))) (n0 : F.H0 p = none) (na : p ∉ g.A) : Rel F σ H en st (g.but p) := by
  have t := r.sto
  have lw : ∀ a, (g.but p).W a → g.W a := fun a h => h.1
  have ex := r.ext
  have ss : SStep g H (g.but p) H := ⟨rfl, ⟨[], by simp, fun _ z => absurd z (by simp)⟩, fun _ _ h _ _ => h, fun _ h => h, fun a h => .inl h.1⟩
  refine ⟨r.len, fun i s e => ?_, r.dj, ⟨t.len, t.nd, fun a h => ⟨t.aw a h, fun z => na (z ▸ h)⟩, fun a h => t.tr a h.1, fun a h => t.nt a h.1, fun n o a h1 h2 => (t.ob n o a h1 h2).less lw⟩, ⟨ex.K, ex.A, ex.keep, ex.there, fun a h => ⟨ex.W1 a h, fun z => r.ok.tr0 a h (by rw [z]; exact n0)⟩, fun a h => ex.W2 a h.1⟩, r.ok, r.ok.lk _ _ _ _ r.lk ss⟩
  have q := r.sl i s e
  cases s with
  | fro d =>
    obtain ⟨v, e1, e2⟩ := q
    exact ⟨v, e1, e2.less lw⟩
  | own xs =>
    obtain ⟨p', vs, e1, e2, e3, e4, e5, e6⟩ := q
    exact ⟨p', vs, e1, e2, e3.less lw, ⟨e4, fun z => no i xs e (by rw [e1, z])⟩, e5, e6⟩
  | exn c f =>
    obtain ⟨v, e1, e2⟩ := q
    exact ⟨v, e1, r.ok.sx _ _ _ _ _ _ _ e2 ss⟩
  | thk f =>
    obtain ⟨v, e1, e2⟩ := q
    exact ⟨v, e1, r.ok.th _ _ _ _ _ _ e2 ss⟩
/-- what was not there is no slot's own -/
theorem Rel.notOwn (r : Rel F σ H en st g) {p : Addr} (np : H p = none) (i : Nat) (xs : List D) (e : en[i]? = some (some (.own xs))) : σ[i]? ≠ some (some (.ref p)) := fun z => by
  obtain ⟨p', vs, e1, e2, _⟩ := r.sl i _ e
  rw [e1] at z
  cases z
  rw [np] at e2
  cases e2
end

section
variable {X : Cx} {e : Expr} {t t' : TE}
theorem wkE (h : PE X e t) (w : ∀ σ H Q, t' σ H Q → t σ H Q) : PE X e t' := ⟨fun pins s σ H Q I q => h.run pins s σ H Q I (w σ H Q q)⟩
theorem wkT {t t' : TT} (h : PT X e t) (w : ∀ σ H Q, t' σ H Q → t σ H Q) : PT X e t' := ⟨fun pins s σ H Q I q => h.run pins s σ H Q I (w σ H Q q)⟩
theorem wkW {t t' : TT} (h : PW X e t) (w : ∀ σ H Q, t' σ H Q → t σ H Q) : PW X e t' := ⟨fun wh pins s σ H Q I q => h.run wh pins s σ H Q I (w σ H Q q)⟩
theorem wkA {es : List Expr} {t t' : TA} (h : PA X es t) (w : ∀ σ H Q, t' σ H Q → t σ H Q) : PA X es t' := ⟨fun pos pins s σ H Q I q => h.run pos pins s σ H Q I (w σ H Q q)⟩
theorem wkS {st : Stmt} {t t' : TS} (h : PS X st t) (w : ∀ D σ H, t' D σ H → t D σ H) : PS X st t' := ⟨fun pins s σ H D I q => h.run pins s σ H D I (w D σ H q)⟩
theorem wkSs {st : List Stmt} {t t' : TS} (h : PSs X st t) (w : ∀ D σ H, t' D σ H → t D σ H) : PSs X st t' := ⟨fun pins s σ H D I q => h.run pins s σ H D I (w D σ H q)⟩
theorem wkO {e : Option Expr} {t t' : TO} (h : PO X e t) (w : ∀ σ H Q, t' σ H Q → t σ H Q) : PO X e t' := ⟨fun pins s σ H Q I q => h.run pins s σ H Q I (w σ H Q q)⟩
end
/-- the readings of mirrored expressions -/
abbrev SE (F : Fc) (x : Ex) : TE := Sem F Rep x
abbrev SR (F : Fc) (x : Ex) : TE := Sem F RepT x
abbrev SA (F : Fc) (x : Lx) : TA := Sem F RepL x
abbrev ST (F : Fc) (x : Tx) : TT := Sem F RB x
abbrev SO (F : Fc) (x : Px) : TO := Sem F RO x
/-- a new list -/
def RepN (H : Hp) (g' : Gh) (H' : Hp) (ds : List D) (v : V) : Prop := ∃ p vs, v = .ref p ∧ H p = none ∧ H' p = some (.lst vs) ∧ RepL g' H' ds vs ∧ g'.W p ∧ p ∉ g'.A
def SN (F : Fc) (x : Lx) : TE := fun σ H Q => ∃ en st g, Rel F σ H en st g ∧ Go F (RepN H) σ en g H Q (x en st)
end Il
end
section
set_option Elab.async false
set_option linter.all false
set_option maxRecDepth 100000
set_option maxHeartbeats 2000000
/-! Part C2: the expressions. -/
namespace Il
open PySem PySem.Spec L2
theorem Step.back {g g' : Gh} {H H' : Hp} (s : Step g H g' H') {a : Addr} (n : H' a = none) : H a = none := back_none s.there n

/-! ### names, constants -/
section
variable {X : Cx} {F : Fc} {pos : Pos}
theorem q_name {i : Nat} {x : Str} (hN : X.N[i]? = some x) (hv : Vis X.env.scope x) (hd : (x == ("__debug__" : Str)) = false) (hcd : (x == ("__classdict__" : Str)) = false) : PE X (.Name x pos) (SE F (xVar i)) := by
  refine wkE (pe_var hN hv hd hcd) fun σ H Q h => ?_
  obtain ⟨en, st, g, rel, go⟩ := h
  unfold xVar at go
  split at go
  · rename_i d e
    obtain ⟨v, e1, e2⟩ := rel.sl i _ e
    exact ⟨v, e1, go.here rel e2⟩
  · exact go.elim
theorem q_rd {i : Nat} {x : Str} (hN : X.N[i]? = some x) (hv : Vis X.env.scope x) (hd : (x == ("__debug__" : Str)) = false) (hcd : (x == ("__classdict__" : Str)) = false) : PE X (.Name x pos) (SR F (xRd i)) := by
  refine wkE (pe_var hN hv hd hcd) fun σ H Q h => ?_
  obtain ⟨en, st, g, rel, go⟩ := h
  unfold xRd at go
  split at go
  · rename_i d e
    obtain ⟨v, e1, e2⟩ := rel.sl i _ e
    exact ⟨v, e1, go.here rel (.inl e2)⟩
  · rename_i xs e
    obtain ⟨p, vs, e1, e2, e3, e4, e5, e6⟩ := rel.sl i _ e
    exact ⟨.ref p, e1, go.here rel (.inr ⟨p, vs, xs, rfl, rfl, e2, e3, e5⟩)⟩
  · exact go.elim
theorem q_toR {e : Expr} {x : Ex} (h : PE X e (SE F x)) : PE X e (SR F x) := by
  refine wkE h fun σ H Q h => ?_
  obtain ⟨en, st, g, rel, go⟩ := h
  refine ⟨en, st, g, rel, ?_⟩
  cases q : x en st with
  | ok d s1 => rw [q] at go; exact fun b H' g' r1 s r2 => go b H' g' r1 s (.inl r2)
  | exc c f s1 => rw [q] at go; exact go
  | stuck => rw [q] at go; exact go
theorem q_const {e : Expr} {d : D} {v : V} (h : PE X e (tC v)) (r : ∀ g H, Rep g H d v) : PE X e (SE F (xC d)) := by
  refine wkE h fun σ H Q h => ?_
  obtain ⟨en, st, g, rel, go⟩ := h
  exact go.here rel (r g H)
theorem q_int {i : Int} {j : Nat} : PE X (.Constant (.int i) j pos) (SE F (xC (.int i))) := q_const pe_int fun _ _ => .int i
theorem q_bl {b : Bool} {j : Nat} : PE X (.Constant (.bool b) j pos) (SE F (xC (.bl b))) := q_const pe_bl fun _ _ => .bl b
theorem q_non {j : Nat} : PE X (.Constant .none j pos) (SE F (xC .non)) := q_const pe_non fun _ _ => .non
theorem q_str {s : Str} {j : Nat} : PE X (.Constant (.str s) j pos) (SE F (xC (.str s))) := q_const pe_str fun _ _ => .str s

/-! ### operations -/
/-- what an operation's rule asks, from what the mirrored one gives -/
def Good2 (F : Fc) (f : Store → D → D → Option D) (rr : R2) : Prop :=
  ∀ σ en st g H x y z u v (Q : VK), Rel F σ H en st g → f st x y = some z → RepT g H x u → RepT g H y v → Go F Rep σ en g H Q (.ok z st) → rr u v H Q
def Good1 (F : Fc) (f : Store → D → Option D) (rr : V → Hp → VK → Prop) : Prop :=
  ∀ σ en st g H x z u (Q : VK), Rel F σ H en st g → f st x = some z → RepT g H x u → Go F Rep σ en g H Q (.ok z st) → rr u H Q
variable {a b c : Expr} {xa xb xc : Ex} {f f' : Store → D → D → Option D} {f1 : Store → D → Option D} {rr rr' : R2}
theorem op2_read (hf : Good2 F f rr) {σ : L2.St} {H : Hp} {Q : VK} (h : SE F (xOp2 f xa xb) σ H Q) : tOp rr (SR F xa) (SR F xb) σ H Q := by
  obtain ⟨en, st, g, rel, go⟩ := h
  refine ⟨en, st, g, rel, Go.bind go fun x s1 u H1 g1 e1 rel1 st1 r1 go1 => ?_⟩
  refine ⟨en, s1, g1, rel1, Go.bind go1 fun y s2 v H2 g2 e2 rel2 st2 r2 go2 => ?_⟩
  obtain ⟨z, ez, go3⟩ := Go.ofOpt go2
  exact hf σ en s2 g2 H2 x y z u v Q rel2 ez (r1.step st2 rel1.sto.aw) r2 go3
theorem q_bin {op : Operator} (ho : OpR X (binaryOp op) rr) (hf : Good2 F f rr) (ha : PE X a (SR F xa)) (hb : PE X b (SR F xb)) : PE X (.BinOp a op b pos) (SE F (xOp2 f xa xb)) :=
  wkE (pe_op ho ha hb) fun _ _ _ h => op2_read hf h
theorem q_cmp {op : CmpOp} (ho : OpR X (compareOp op) rr) (hf : Good2 F f rr) (ha : PE X a (SR F xa)) (hb : PE X b (SR F xb)) (hm : behindInMarks op b = false) : PE X (.Compare a [op] [b] pos) (SE F (xOp2 f xa xb)) :=
  wkE (pe_cmpR ho ha hb hm) fun _ _ _ h => op2_read hf h
theorem tOf_read {x : Ex} {σ : L2.St} {H : Hp} {Q : Bool → Hp → Prop} (h : ST F (tOf x) σ H Q) : SE F x σ H fun v H' => ∃ k, v = .bl k ∧ Q k H' := by
  obtain ⟨en, st, g, rel, go⟩ := h
  refine ⟨en, st, g, rel, Go.bind go fun d s1 v H1 g1 e1 rel1 st1 r1 go1 => ?_⟩
  split at go1
  · cases r1
    exact ⟨_, rfl, go1.here rel1 rfl⟩
  · exact go1.elim
theorem q_cmpT {op : CmpOp} (ho : OpR X (compareOp op) rr) (hf : Good2 F f rr) (ha : PE X a (SR F xa)) (hb : PE X b (SR F xb)) (hm : behindInMarks op b = false) : PT X (.Compare a [op] [b] pos) (ST F (tOf (xOp2 f xa xb))) :=
  wkT (pt_cmpR ho ha hb hm) fun _ _ _ h => op2_read hf (tOf_read h)
theorem chain_read (hf : Good2 F f rr) (hf' : Good2 F f' rr') {σ : L2.St} {H : Hp} {Q : VK} (h : SE F (xChain f f' xa xb xc) σ H Q) : tChain rr rr' (SR F xa) (SR F xb) (SR F xc) σ H Q := by
  obtain ⟨en, st, g, rel, go⟩ := h
  refine ⟨en, st, g, rel, Go.bind go fun x s1 u H1 g1 e1 rel1 st1 r1 go1 => ?_⟩
  refine ⟨en, s1, g1, rel1, Go.bind go1 fun y s2 v H2 g2 e2 rel2 st2 r2 go2 => ?_⟩
  cases ez : f s2 x y with
  | none => rw [ez] at go2; exact go2.elim
  | some z =>
    rw [ez] at go2
    refine hf σ en s2 g2 H2 x y z u v _ rel2 ez (r1.step st2 rel1.sto.aw) r2 (Go.bind (R := Rep) (S := Rep) (r := Res.ok z s2) go2 fun z' s3 w H3 g3 e3 rel3 st3 r3 go3 => ?_)
    obtain ⟨rfl, rfl⟩ : z = z' ∧ s2 = s3 := by cases e3; exact ⟨rfl, rfl⟩
    split at go3
    · cases r3
      refine ⟨true, rfl, iteT ⟨en, s2, g3, rel3, Go.bind go3 fun w' s4 v4 H4 g4 e4 rel4 st4 r4 go4 => ?_⟩⟩
      obtain ⟨z5, ez5, go5⟩ := Go.ofOpt go4
      exact hf' σ en s4 g4 H4 y w' z5 v v4 Q rel4 ez5 ((r2.step st3 rel2.sto.aw).step st4 rel3.sto.aw) r4 go5
    · cases r3
      exact ⟨false, rfl, iteF (go3.here rel3 (.bl false))⟩
    · exact go3.elim
end
end Il
end
section
set_option Elab.async false
set_option linter.all false
set_option maxRecDepth 100000
set_option maxHeartbeats 2000000
/-! Part C3: the operations. -/
namespace Il
open PySem PySem.Spec L2
theorem big_line : BIG ≤ sizeLine := by rw [sizeLine_eq]; decide
theorem line_of {n : Nat} (h : n ≤ BIG) : n ≤ sizeLine := Nat.le_trans h big_line
theorem line_lt {n : Nat} (h : n < BIG) : n < sizeLine := Nat.lt_of_lt_of_le h big_line
theorem line_k {n : Nat} (h : n ≤ 1000) : n ≤ sizeLine := Nat.le_trans h (by rw [sizeLine_eq]; decide)

section
variable {g : Gh} {H : Hp} {st : Store} {ct : ClsT}
theorem RepT.scal {d : D} {v : V} (r : RepT g H d v) (h : ∀ xs, d ≠ .lst xs) : Rep g H d v := by
  rcases r with r | ⟨p, xs, ds, rfl, _⟩
  · exact r
  · exact absurd rfl (h ds)
theorem RepT.int {i : Int} {v : V} (r : RepT g H (.int i) v) : v = .int i := by
  cases r.scal (fun _ z => nomatch z); rfl
theorem RepT.bl {i : Bool} {v : V} (r : RepT g H (.bl i) v) : v = .bl i := by
  cases r.scal (fun _ z => nomatch z); rfl
theorem RepT.str {i : Str} {v : V} (r : RepT g H (.str i) v) : v = .str i := by
  cases r.scal (fun _ z => nomatch z); rfl
theorem RepT.tup {ds : List D} {v : V} (r : RepT g H (.tup ds) v) : ∃ p xs, v = .ref p ∧ H p = some (.tup xs) ∧ RepL g H ds xs ∧ ¬ g.W p := by
  cases r.scal (fun _ z => nomatch z) with
  | tup h n l => exact ⟨_, _, rfl, h, l, n⟩
theorem RepT.lst {ds : List D} {v : V} (r : RepT g H (.lst ds) v) : ∃ p xs, v = .ref p ∧ H p = some (.lst xs) ∧ RepL g H ds xs := by
  rcases r with r | ⟨p, xs, ds', e, rfl, h, l, _⟩
  · cases r with
    | lst h n l => exact ⟨_, _, rfl, h, l⟩
  · cases e
    exact ⟨p, xs, rfl, h, l⟩
theorem der_lst {x : D} {v : V} {ds : List D} (t : Sto ct g H st) (r : RepT g H x v) (e : deref st x = .lst ds) : ∃ p xs, v = .ref p ∧ H p = some (.lst xs) ∧ RepL g H ds xs := by
  cases x with
  | ref n =>
    cases r.scal (fun _ z => nomatch z) with
    | ref ha =>
      rename_i a
      unfold deref at e
      split at e
      · rename_i e0
        split at e
        · rename_i ys e1
          cases e
          cases e0
          obtain ⟨vs, q1, q2⟩ := t.ob _ _ a e1 ha
          exact ⟨a, vs, rfl, q1, q2⟩
        · cases e
      · rename_i z; exact absurd rfl (z n)
  | lst ys => cases e; exact r.lst
  | tup ys => cases e
  | non => cases e
  | bl b => cases e
  | int i => cases e
  | str s => cases e
  | dct k => cases e
  | scr k => cases e
theorem der_tup {x : D} {ds : List D} (e : deref st x = .tup ds) : x = .tup ds := by
  cases x with
  | ref n =>
    simp only [deref] at e
    split at e <;> cases e
  | _ => exact e
theorem der_not {x : D} (h : ∀ n, x ≠ .ref n) : deref st x = x := by
  cases x with
  | ref n => exact absurd rfl (h n)
  | _ => rfl
theorem sq (K : PySem.W.Frag) {p : Addr} {xs : List V} (h : H p = some (.lst xs)) : SqL K H p xs := .inl (.inl h)
theorem sqT (K : PySem.W.Frag) {p : Addr} {xs : List V} (h : H p = some (.tup xs)) : SqT K H p xs := .inl (.inl h)
end

section
variable {X : Cx} {F : Fc}
/-! ### ints -/
theorem g2_int {f : Store → D → D → Option D} {C : Int → Int → Prop} {k : Int → Int → V} (hf : ∀ st x y z, f st x y = some z → ∃ i j, x = .int i ∧ y = .int j ∧ C i j ∧ ∀ g H, Rep g H z (k i j)) : Good2 F f (rI C k) := by
  intro σ en st g H x y z u v Q rel e r1 r2 go
  obtain ⟨i, j, rfl, rfl, c, q⟩ := hf st x y z e
  exact ⟨i, j, r1.int, r2.int, c, go.here rel (q g H)⟩
theorem g2_int0 {f : Store → D → D → Option D} {k : Int → Int → V} (hf : ∀ st x y z, f st x y = some z → ∃ i j, x = .int i ∧ y = .int j ∧ ∀ g H, Rep g H z (k i j)) : Good2 F f (rI0 k) := by
  intro σ en st g H x y z u v Q rel e r1 r2 go
  obtain ⟨i, j, rfl, rfl, q⟩ := hf st x y z e
  exact ⟨i, j, r1.int, r2.int, go.here rel (q g H)⟩
theorem good_sub : Good2 F oSub (rI0 fun i j => .int (i - j)) := g2_int0 fun st x y z e => by
  unfold oSub at e
  split at e
  · cases e; exact ⟨_, _, rfl, rfl, fun _ _ => .int _⟩
  · cases e
theorem natAbs_lt {i : Int} {n : Nat} (h : i.natAbs < n) : -(n : Int) < i ∧ i < n := by omega
theorem good_mul : Good2 F oMul (rI CMul fun i j => .int (i * j)) := g2_int fun st x y z e => by
  unfold oMul at e
  split at e
  · split at e
    · rename_i h
      cases e
      refine ⟨_, _, rfl, rfl, ?_, fun _ _ => .int _⟩
      rcases h with h | h
      · have := natAbs_lt h
        exact .inl (by simpa using this)
      · have := natAbs_lt h
        exact .inr (by simpa using this)
    · cases e
  · cases e
theorem good_div : Good2 F oDiv (rI CDivN fun i j => .int (i.fdiv j)) := g2_int fun st x y z e => by
  unfold oDiv at e
  split at e
  · split at e
    · rename_i h
      cases e
      exact ⟨_, _, rfl, rfl, h, fun _ _ => .int _⟩
    · cases e
  · cases e
theorem good_mod : Good2 F oMod (rI (fun _ j => j ≠ 0) fun i j => .int (i.fmod j)) := g2_int fun st x y z e => by
  unfold oMod at e
  split at e
  · split at e
    · rename_i h
      cases e
      exact ⟨_, _, rfl, rfl, h, fun _ _ => .int _⟩
    · cases e
  · cases e
theorem good_pow : Good2 F oPow (rI CPow fun i j => .int (i ^ j.toNat)) := g2_int fun st x y z e => by
  unfold oPow at e
  split at e
  · split at e
    · rename_i h
      cases e
      exact ⟨_, _, rfl, rfl, h, fun _ _ => .int _⟩
    · cases e
  · cases e
theorem good_lt : Good2 F oLt (rI0 fun i j => .bl (decide (i < j))) := g2_int0 fun st x y z e => by
  unfold oLt at e
  split at e
  · cases e; exact ⟨_, _, rfl, rfl, fun _ _ => .bl _⟩
  · cases e
theorem good_le : Good2 F oLe (rI0 fun i j => .bl (decide (i ≤ j))) := g2_int0 fun st x y z e => by
  unfold oLe at e
  split at e
  · cases e; exact ⟨_, _, rfl, rfl, fun _ _ => .bl _⟩
  · cases e
theorem good_gt : Good2 F oGt (rI0 fun i j => .bl (decide (j < i))) := g2_int0 fun st x y z e => by
  unfold oGt at e
  split at e
  · cases e; exact ⟨_, _, rfl, rfl, fun _ _ => .bl _⟩
  · cases e
theorem good_ge : Good2 F oGe (rI0 fun i j => .bl (decide (j ≤ i))) := g2_int0 fun st x y z e => by
  unfold oGe at e
  split at e
  · cases e; exact ⟨_, _, rfl, rfl, fun _ _ => .bl _⟩
  · cases e
/-! ### + of ints, texts, tuples -/
def rAddA (K : PySem.W.Frag) : R2 := fun x y H Q => rI0 (fun i j => .int (i + j)) x y H Q ∨ (∃ i j, x = .str i ∧ y = .str j ∧ i.length + j.length ≤ sizeLine ∧ Q (.str (i ++ j)) H) ∨ rCatA K x y H Q
theorem op_addA : OpR X (binaryOp .Add) (rAddA X.K) := op_add.or (op_add_str.or op_catA)
theorem good_add : Good2 F oAdd (rAddA X.K) := by
  intro σ en st g H x y z u v Q rel e r1 r2 go
  unfold oAdd at e
  split at e
  · cases e
    exact .inl ⟨_, _, r1.int, r2.int, go.here rel (.int _)⟩
  · split at e
    · rename_i h
      cases e
      exact .inr (.inl ⟨_, _, r1.str, r2.str, line_of h, go.here rel (.str _)⟩)
    · cases e
  · split at e
    · rename_i h
      cases e
      obtain ⟨p, xs, rfl, h1, l1, n1⟩ := r1.tup
      obtain ⟨q, ys, rfl, h2, l2, n2⟩ := r2.tup
      refine .inr (.inr ⟨p, q, xs, ys, rfl, rfl, sqT _ h1, sqT _ h2, ?_, fun e0 => ?_, fun e0 e1 => ?_, fun e0 e1 t nt => ?_⟩)
      · rw [← l1.length, ← l2.length]; exact line_of h
      · subst e0
        cases l1
        exact go.here rel (.tup h2 n2 l2)
      · subst e1
        cases l2
        rw [List.append_nil] at go
        exact go.here rel (.tup h1 n1 l1)
      · refine Go.new go rel nt (.tup upd_same (rel.newW nt) ?_)
        exact (l1.append l2).step (.same (.new nt))
    · cases e
  · cases e
/-! ### one operand -/
theorem good_neg : Good1 F oNeg (rU fun i => .int (-i)) := by
  intro σ en st g H x z u Q rel e r1 go
  unfold oNeg at e
  split at e
  · cases e
    exact ⟨_, r1.int, go.here rel (.int _)⟩
  · cases e
theorem op1_read {f1 : Store → D → Option D} {r1 : V → Hp → VK → Prop} {xa : Ex} (hf : Good1 F f1 r1) {σ : L2.St} {H : Hp} {Q : VK} (h : SE F (xOp1 f1 xa) σ H Q) : SR F xa σ H fun x H1 => r1 x H1 Q := by
  obtain ⟨en, st, g, rel, go⟩ := h
  refine ⟨en, st, g, rel, Go.bind go fun x s1 u H1 g1 e1 rel1 st1 q1 go1 => ?_⟩
  obtain ⟨z, ez, go3⟩ := Go.ofOpt go1
  exact hf σ en s1 g1 H1 x z u Q rel1 ez q1 go3
variable {a b c : Expr} {xa xb xc : Ex} {pos : Pos}
theorem q_un {op : UnaryOp} {f1 : Store → D → Option D} {r1 : V → Hp → VK → Prop} (ho : UnR X (unaryOp op) r1) (hf : Good1 F f1 r1) (ha : PE X a (SR F xa)) : PE X (.UnaryOp op a pos) (SE F (xOp1 f1 xa)) :=
  wkE (pe_un ho ha) fun _ _ _ h => op1_read hf h
/-! ### is None -/
theorem isNon_rep {g : Gh} {H : Hp} {d : D} {v : V} (r : RepT g H d v) : decide (v = .non) = isNon d := by
  rcases r with r | ⟨p, xs, ds, rfl, rfl, _⟩
  · cases r <;> rfl
  · rfl
theorem q_isNT {j : Nat} {pos' : Pos} (ha : PE X a (SR F xa)) : PT X (.Compare a [.Is] [.Constant .none j pos'] pos) (ST F (tOf (xOp1 oIsN xa))) := by
  refine wkT (pt_cmp (pc_isN ha) rfl) fun σ H Q h => op1_read (r1 := fun x H1 Q => Q (.bl (decide (x = .non))) H1) (fun σ en st g H x z u Q rel e r1 go => ?_) (tOf_read h)
  cases e
  show Q (.bl (decide (u = .non))) H
  rw [isNon_rep r1]
  exact go.here rel (.bl _)
/-! ### and, or, not, if -/
variable {ta tb : Tx} {rest : List Expr}
theorem tAnd_read {σ : L2.St} {H : Hp} {Q : Bool → Hp → Prop} (h : ST F (tAnd ta tb) σ H Q) : L2.tAnd (ST F ta) (ST F tb) σ H Q := by
  obtain ⟨en, st, g, rel, go⟩ := h
  refine ⟨en, st, g, rel, Go.bind go fun x s1 u H1 g1 e1 rel1 st1 r1 go1 => ?_⟩
  cases r1
  cases x with
  | true => exact iteT ⟨en, s1, g1, rel1, go1⟩
  | false => exact iteF (go1.here rel1 rfl)
theorem tOr_read {σ : L2.St} {H : Hp} {Q : Bool → Hp → Prop} (h : ST F (tOr ta tb) σ H Q) : L2.tOr (ST F ta) (ST F tb) σ H Q := by
  obtain ⟨en, st, g, rel, go⟩ := h
  refine ⟨en, st, g, rel, Go.bind go fun x s1 u H1 g1 e1 rel1 st1 r1 go1 => ?_⟩
  cases r1
  cases x with
  | true => exact iteT (go1.here rel1 rfl)
  | false => exact iteF ⟨en, s1, g1, rel1, go1⟩
theorem q_andT (ha : PT X a (ST F ta)) (hb : PW X (.BoolOp .And (b :: rest) pos) (ST F tb)) : PW X (.BoolOp .And (a :: b :: rest) pos) (ST F (tAnd ta tb)) := wkW (pw_and ha hb) fun _ _ _ h => tAnd_read h
theorem q_orT (ha : PT X a (ST F ta)) (hb : PW X (.BoolOp .Or (b :: rest) pos) (ST F tb)) : PW X (.BoolOp .Or (a :: b :: rest) pos) (ST F (tOr ta tb)) := wkW (pw_or ha hb) fun _ _ _ h => tOr_read h
theorem q_notT (ha : PT X a (ST F ta)) : PT X (.UnaryOp .Not a pos) (ST F (tNot ta)) := wkT (pt_not ha) fun σ H Q h => by
  obtain ⟨en, st, g, rel, go⟩ := h
  refine ⟨en, st, g, rel, Go.bind go fun x s1 u H1 g1 e1 rel1 st1 r1 go1 => ?_⟩
  cases r1
  exact go1.here rel1 rfl
theorem q_and (ha : PE X a (SE F xa)) (hb : PE X (.BoolOp .And (b :: rest) pos) (SE F xb)) : PE X (.BoolOp .And (a :: b :: rest) pos) (SE F (xAnd xa xb)) := wkE (pe_and ha hb) fun σ H Q h => by
  obtain ⟨en, st, g, rel, go⟩ := h
  refine ⟨en, st, g, rel, Go.bind go fun x s1 u H1 g1 e1 rel1 st1 r1 go1 => ?_⟩
  split at go1
  · cases r1
    exact ⟨true, rfl, iteT ⟨en, s1, g1, rel1, go1⟩⟩
  · cases r1
    exact ⟨false, rfl, iteF (go1.here rel1 (.bl _))⟩
  · exact go1.elim
theorem q_not (ha : PE X a (SE F xa)) : PE X (.UnaryOp .Not a pos) (SE F (xNot xa)) := wkE (pe_not ha) fun σ H Q h => by
  obtain ⟨en, st, g, rel, go⟩ := h
  refine ⟨en, st, g, rel, Go.bind go fun x s1 u H1 g1 e1 rel1 st1 r1 go1 => ?_⟩
  split at go1
  · cases r1
    exact ⟨_, rfl, go1.here rel1 (.bl _)⟩
  · exact go1.elim
theorem if_read {σ : L2.St} {H : Hp} {Q : VK} (h : SE F (xIf ta xa xb) σ H Q) : tIf (ST F ta) (SE F xa) (SE F xb) σ H Q := by
  obtain ⟨en, st, g, rel, go⟩ := h
  refine ⟨en, st, g, rel, Go.bind go fun x s1 u H1 g1 e1 rel1 st1 r1 go1 => ?_⟩
  cases r1
  cases x with
  | true => exact iteT ⟨en, s1, g1, rel1, go1⟩
  | false => exact iteF ⟨en, s1, g1, rel1, go1⟩
theorem q_if (hc : PT X c (ST F ta)) (ha : PE X a (SE F xa)) (hb : PE X b (SE F xb)) : PE X (.IfExp c a b pos) (SE F (xIf ta xa xb)) := wkE (pe_ifExp hc ha hb) fun _ _ _ h => if_read h
/-- any expression that gives a flag -/
theorem q_val (h : PE X a (SE F xa)) (he : ∀ whole, isTrue a X.env whole = (do let v ← whole; standAt a.pos; holding [v] (truthy v))) : PT X a (ST F (tOf xa)) := wkT (pt_val h he) fun _ _ _ h => tOf_read h
theorem q_chain {op op' : CmpOp} {f f' : Store → D → D → Option D} {rr rr' : R2} (ho : OpR X (compareOp op) rr) (ho' : OpR X (compareOp op') rr') (hf : Good2 F f rr) (hf' : Good2 F f' rr') (ha : PE X a (SR F xa)) (hb : PE X b (SR F xb)) (hc : PE X c (SR F xc)) (hm : lastMarks [op, op'] [b, c] = false) :
    PE X (.Compare a [op, op'] [b, c] pos) (SE F (xChain f f' xa xb xc)) := wkE (pe_chain ho ho' ha hb hc hm) fun _ _ _ h => chain_read hf hf' h
theorem q_chainT {op op' : CmpOp} {f f' : Store → D → D → Option D} {rr rr' : R2} (ho : OpR X (compareOp op) rr) (ho' : OpR X (compareOp op') rr') (hf : Good2 F f rr) (hf' : Good2 F f' rr') (ha : PE X a (SR F xa)) (hb : PE X b (SR F xb)) (hc : PE X c (SR F xc)) (hm : lastMarks [op, op'] [b, c] = false) :
    PT X (.Compare a [op, op'] [b, c] pos) (ST F (tOf (xChain f f' xa xb xc))) := wkT (pt_chain ho ho' ha hb hc hm) fun _ _ _ h => chain_read hf hf' (tOf_read h)
/-! ### displays -/
variable {es : List Expr} {la lb : Lx}
theorem q_nil : PA X [] (SA F lNil) := wkA pa_nil fun σ H Q h => by
  obtain ⟨en, st, g, rel, go⟩ := h
  exact go.here rel .nil
theorem q_cons (ha : PE X a (SE F xa)) (hr : PA X es (SA F la)) (hs : starEach (a :: es) X.env = (false, eval a X.env) :: starEach es X.env) : PA X (a :: es) (SA F (lCons xa la)) := wkA (pa_cons ha hr hs) fun σ H Q h => by
  obtain ⟨en, st, g, rel, go⟩ := h
  refine ⟨en, st, g, rel, Go.bind go fun x s1 u H1 g1 e1 rel1 st1 r1 go1 => ?_⟩
  refine ⟨en, s1, g1, rel1, Go.bind go1 fun xs s2 us H2 g2 e2 rel2 st2 r2 go2 => ?_⟩
  exact go2.here rel2 (.cons (r1.step (st2.s rel1.sto.aw)) r2)
theorem q_tup {k : Nat} (h : PA X es (SA F la)) : PE X (.Tuple es k pos) (SE F (xTup la)) := wkE (pe_tup h) fun σ H Q h => by
  obtain ⟨en, st, g, rel, go⟩ := h
  refine ⟨en, st, g, rel, Go.bind go fun xs s1 us H1 g1 e1 rel1 st1 r1 go1 => ?_⟩
  split at go1
  · rename_i hl
    refine ⟨by rw [← r1.length]; exact line_k hl, fun p np => ?_⟩
    exact Go.new go1 rel1 np (.tup upd_same (rel1.newW np) (r1.step (.same (.new np))))
  · exact go1.elim
/-- a new list, from its rule -/
theorem new_read {H H1 : Hp} {g g1 : Gh} {σ : L2.St} {en : En} {s1 : Store} {ds : List D} {vs : List V} {Q : VK} (rel1 : Rel F σ H1 en s1 g1) (st1 : Step g H g1 H1) (r1 : RepL g1 H1 ds vs) (go : Go F (RepN H) σ en g1 H1 Q (.ok ds s1)) {p : Addr} (np : H1 p = none) : Q (.ref p) (upd H1 p (.lst vs)) := by
  have s : Step g1 H1 (g1.and p) (upd H1 p (.lst vs)) := .and np
  exact go (.ref p) _ (g1.and p) (rel1.and np) s ⟨p, vs, rfl, st1.back np, upd_same, r1.step (s.s rel1.sto.aw), .inr rfl, fun z => rel1.newW np (rel1.sto.aw p z)⟩
theorem q_disp (h : PA X es (SA F la)) : PE X (.List es pos) (SN F (lDisp la)) := wkE (pe_lst h) fun σ H Q h => by
  obtain ⟨en, st, g, rel, go⟩ := h
  refine ⟨en, st, g, rel, Go.bind go fun xs s1 us H1 g1 e1 rel1 st1 r1 go1 => ?_⟩
  split at go1
  · rename_i hl
    exact ⟨by rw [← r1.length]; exact line_k hl, fun p np => new_read rel1 st1 r1 go1 np⟩
  · exact go1.elim
/-- as data -/
theorem q_data {e : Expr} (h : PE X e (SN F la)) : PE X e (SE F (xLst la)) := wkE h fun σ H Q h => by
  obtain ⟨en, st, g, rel, go⟩ := h
  refine ⟨en, st, g, rel, Go.bind go fun xs s1 us H1 g1 e1 rel1 st1 r1 go1 => ?_⟩
  obtain ⟨p, vs, rfl, np, h1, l, w, na⟩ := r1
  have lw : ∀ a, (g1.but p).W a → g1.W a := fun a h => h.1
  have n0 : F.H0 p = none := rel.ext.back np
  have rel2 := rel1.but (p := p) (fun i ys e => rel.notOwn np i ys e) n0 na
  have stp : Step g H (g1.but p) H1 := ⟨st1.K, st1.A, st1.keep, st1.there, fun a h => ⟨st1.W1 a h, fun z => rel.sto.tr a h (by rw [z]; exact np)⟩, fun a h => st1.W2 a h.1⟩
  have go2 : Go F Rep σ en g H Q (.ok (.lst xs) s1) := by
    have z := go
    unfold xLst at z
    rw [e1] at z
    exact z
  exact go2 (.ref p) H1 (g1.but p) rel2 stp (.lst h1 (fun z => z.2 rfl) (l.less lw))
end
end Il
end
section
set_option Elab.async false
set_option linter.all false
set_option maxRecDepth 100000
set_option maxHeartbeats 2000000
/-! Part C4: equality, items, slices, built-ins. -/
namespace Il
open PySem PySem.Spec L2
mutual
theorem eqv_py : ∀ (x y : D), x.flat = true → y.flat = true → PyData.eqv (toPy x) (toPy y) = D.eqv x y
  | .non, y, _, h => by cases y <;> simp [toPy, PyData.eqv, D.eqv, D.flat] at *
  | .bl _, y, _, h => by cases y <;> simp [toPy, PyData.eqv, D.eqv, D.flat] at *
  | .int _, y, _, h => by cases y <;> simp [toPy, PyData.eqv, D.eqv, D.flat] at *
  | .str _, y, _, h => by cases y <;> simp [toPy, PyData.eqv, D.eqv, D.flat] at *
  | .tup xs, y, h1, h => by
    cases y with
    | tup ys =>
      simp only [D.flat] at h1 h
      simp only [toPy, PyData.eqv, D.eqv]
      exact eqvL_py xs ys h1 h
    | _ => simp [toPy, PyData.eqv, D.eqv, D.flat] at *
  | .lst xs, y, h1, h => by
    cases y with
    | lst ys =>
      simp only [D.flat] at h1 h
      simp only [toPy, PyData.eqv, D.eqv]
      exact eqvL_py xs ys h1 h
    | _ => simp [toPy, PyData.eqv, D.eqv, D.flat] at *
  | .dct _, _, h, _ => by simp [D.flat] at h
  | .ref _, _, h, _ => by simp [D.flat] at h
  | .scr _, _, h, _ => by simp [D.flat] at h
theorem eqvL_py : ∀ (xs ys : List D), D.flatL xs = true → D.flatL ys = true → PyData.eqvAll (toPyL xs) (toPyL ys) = D.eqvL xs ys
  | [], [], _, _ => by simp [toPyL, PyData.eqvAll, D.eqvL]
  | [], _ :: _, _, _ => by simp [toPyL, PyData.eqvAll, D.eqvL]
  | _ :: _, [], _, _ => by simp [toPyL, PyData.eqvAll, D.eqvL]
  | x :: xs, y :: ys, h1, h2 => by
    simp only [D.flatL, Bool.and_eq_true] at h1 h2
    simp only [toPyL, PyData.eqvAll, D.eqvL]
    rw [eqv_py x y h1.1 h2.1, eqvL_py xs ys h1.2 h2.2]
end
mutual
theorem lay_py : ∀ (x : D), x.flat = true → (toPy x).canLay0 = true
  | .non, _ => by simp [toPy, PyData.canLay0]
  | .bl _, _ => by simp [toPy, PyData.canLay0]
  | .int _, _ => by simp [toPy, PyData.canLay0]
  | .str s, h => by
    simp only [D.flat] at h
    simpa [toPy, PyData.canLay0, PyData.strOk] using h
  | .tup xs, h => by
    simp only [D.flat] at h
    simpa [toPy, PyData.canLay0] using layL_py xs h
  | .lst xs, h => by
    simp only [D.flat] at h
    simpa [toPy, PyData.canLay0] using layL_py xs h
  | .dct _, h => by simp [D.flat] at h
  | .ref _, h => by simp [D.flat] at h
  | .scr _, h => by simp [D.flat] at h
theorem layL_py : ∀ (xs : List D), D.flatL xs = true → PyData.canLayAll0 (toPyL xs) = true
  | [], _ => by simp [toPyL, PyData.canLayAll0]
  | x :: xs, h => by
    simp only [D.flatL, Bool.and_eq_true] at h
    simp only [toPyL, PyData.canLayAll0, lay_py x h.1, layL_py xs h.2, Bool.and_self]
end
mutual
theorem depth_py : ∀ (x : D), (toPy x).depth = x.depth
  | .non => by simp [toPy, PyData.depth, D.depth]
  | .bl _ => by simp [toPy, PyData.depth, D.depth]
  | .int _ => by simp [toPy, PyData.depth, D.depth]
  | .str s => by simp [toPy, PyData.depth, D.depth]
  | .tup xs => by simp [toPy, PyData.depth, D.depth, depthL_py xs]
  | .lst xs => by simp [toPy, PyData.depth, D.depth, depthL_py xs]
  | .dct _ => by simp [toPy, PyData.depth, D.depth]
  | .ref _ => by simp [toPy, PyData.depth, D.depth]
  | .scr _ => by simp [toPy, PyData.depth, D.depth]
theorem depthL_py : ∀ (xs : List D), PyData.depthAll (toPyL xs) = D.depthL xs
  | [] => by simp [toPyL, PyData.depthAll, D.depthL]
  | x :: xs => by simp [toPyL, PyData.depthAll, D.depthL, depth_py x, depthL_py xs]
end
theorem shaped_py {x : D} (h : x.ok = true) : SeqAt.shaped (toPy x) = true := by
  unfold D.ok at h
  rw [Bool.and_eq_true, decide_eq_true_eq] at h
  unfold SeqAt.shaped
  rw [Bool.and_eq_true, decide_eq_true_eq, depth_py]
  exact ⟨lay_py x h.1, by omega⟩
section
variable {g : Gh} {H : Hp} {st : Store} {ct : ClsT} (K : PySem.W.Frag)
mutual
theorem rep_dp : ∀ {d : D} {v : V}, Rep g H d v → d.flat = true → Dp K H v (toPy d)
  | _, _, .non, _ => .non
  | _, _, .bl b, _ => .bl b
  | _, _, .int i, _ => .int i
  | _, _, .str s, _ => .str s
  | _, _, .tup h n l, f => by
    simp only [D.flat] at f
    exact .tup (sqT K h) (repL_dp l f)
  | _, _, .lst h n l, f => by
    simp only [D.flat] at f
    exact .lst (sq K h) (repL_dp l f)
  | _, _, .scr _ _, f => by simp [D.flat] at f
  | _, _, .dct _ _ _, f => by simp [D.flat] at f
  | _, _, .ref _, f => by simp [D.flat] at f
theorem repL_dp : ∀ {ds : List D} {vs : List V}, RepL g H ds vs → D.flatL ds = true → DpAll K H vs (toPyL ds)
  | _, _, .nil, _ => .nil
  | _, _, .cons h t, f => by
    simp only [D.flatL, Bool.and_eq_true] at f
    exact .cons (rep_dp h f.1) (repL_dp t f.2)
end
theorem der_dp {x : D} {v : V} (t : Sto ct g H st) (r : RepT g H x v) (f : (deref st x).flat = true) : Dp K H v (toPy (deref st x)) := by
  cases e : deref st x with
  | lst ds =>
    obtain ⟨p, xs, rfl, h, l⟩ := der_lst t r e
    rw [e] at f
    simp only [D.flat] at f
    exact .lst (sq K h) (repL_dp K l f)
  | ref n => rw [e] at f; simp [D.flat] at f
  | _ =>
    have ne : ∀ n, x ≠ .ref n := fun n z => by
      subst z
      simp only [deref] at e
      split at e <;> cases e
    rw [der_not ne] at e
    subst e
    rw [der_not ne] at f
    exact rep_dp K (r.scal fun _ z => nomatch z) f
end
section
variable {X : Cx} {F : Fc}
theorem good_eq : Good2 F oEq (rEqD X.K) := by
  intro σ en st g H x y z u v Q rel e r1 r2 go
  unfold oEq at e
  split at e
  · rename_i h
    rw [Bool.and_eq_true] at h
    cases e
    have f1 : (deref st x).flat = true := by have := h.1; unfold D.ok at this; rw [Bool.and_eq_true] at this; exact this.1
    have f2 : (deref st y).flat = true := by have := h.2; unfold D.ok at this; rw [Bool.and_eq_true] at this; exact this.1
    refine ⟨_, _, der_dp X.K rel.sto r1 f1, der_dp X.K rel.sto r2 f2, shaped_py h.1, shaped_py h.2, ?_⟩
    rw [eqv_py _ _ f1 f2]
    exact go.here rel (.bl _)
  · cases e
theorem good_ne : Good2 F oNe (rNeD X.K) := by
  intro σ en st g H x y z u v Q rel e r1 r2 go
  unfold oNe at e
  split at e
  · rename_i h
    rw [Bool.and_eq_true] at h
    cases e
    have f1 : (deref st x).flat = true := by have := h.1; unfold D.ok at this; rw [Bool.and_eq_true] at this; exact this.1
    have f2 : (deref st y).flat = true := by have := h.2; unfold D.ok at this; rw [Bool.and_eq_true] at this; exact this.1
    refine ⟨_, _, der_dp X.K rel.sto r1 f1, der_dp X.K rel.sto r2 f2, shaped_py h.1, shaped_py h.2, ?_⟩
    rw [eqv_py _ _ f1 f2]
    exact go.here rel (.bl _)
  · cases e
/-! ### items -/
theorem at_rep {g : Gh} {H : Hp} {ds : List D} {vs : List V} {i : Int} {d : D} (l : RepL g H ds vs) (h : atI ds i = some d) : ∃ v, L2.atI vs i = some v ∧ Rep g H d v := by
  unfold atI at h
  cases e : ixN ds.length i with
  | none => rw [e] at h; cases h
  | some j =>
    rw [e] at h
    obtain ⟨v, h1, h2⟩ := l.get (show ds[j]? = some d from h)
    refine ⟨v, ?_, h2⟩
    unfold L2.atI
    rw [← l.length]
    show (ixN ds.length i).bind _ = _
    rw [e]
    exact h1
def rIxA (K : PySem.W.Frag) : R2 := fun x y H Q => rIxL K x y H Q ∨ rIxT K x y H Q
theorem ix_A : IxR X (rIxA X.K) := ix_list.or ix_tup
theorem good_ix : Good2 F oIx (rIxA X.K) := by
  intro σ en st g H x y z u v Q rel e r1 r2 go
  unfold oIx at e
  split at e
  · rename_i xs i ex
    obtain ⟨p, vs, rfl, h, l⟩ := der_lst rel.sto r1 ex
    obtain ⟨w, h1, h2⟩ := at_rep l e
    exact .inl ⟨p, vs, i, w, rfl, r2.int, sq _ h, h1, go.here rel h2⟩
  · rename_i xs i ex
    have ex' := der_tup ex
    subst ex'
    obtain ⟨p, vs, rfl, h, l, _⟩ := r1.tup
    obtain ⟨w, h1, h2⟩ := at_rep l e
    exact .inr ⟨p, vs, i, w, rfl, r2.int, sqT _ h, h1, go.here rel h2⟩
  · cases e
variable {a b c : Expr} {xa xb xc : Ex} {pos : Pos} {es : List Expr} {la lb : Lx}
theorem q_ix (ha : PE X a (SR F xa)) (hb : PE X b (SR F xb)) (hs : PlainIx b) : PE X (.Subscript a b pos) (SE F (xOp2 oIx xa xb)) := wkE (pe_ix ix_A ha hb hs) fun _ _ _ h => op2_read good_ix h
/-! ### slices -/
theorem cut_rep {g : Gh} {H : Hp} {ds : List D} {vs : List V} (lo hi : Option Int) (l : RepL g H ds vs) : RepL g H (cut ds lo hi) (cutV vs lo hi) := by
  unfold cut cutV
  rw [← l.length]
  exact (l.drop _).take _
variable {pl ph : Px} {lo hi : Option Expr}
theorem q_pNo : PO X none (SO F pNo) := wkO po_none fun σ H Q h => by
  obtain ⟨en, st, g, rel, go⟩ := h
  exact go.here rel rfl
theorem q_pSome (ha : PE X a (SR F xa)) : PO X (some a) (SO F (pSome xa)) := wkO (po_some ha) fun σ H Q h => by
  obtain ⟨en, st, g, rel, go⟩ := h
  refine ⟨en, st, g, rel, Go.bind go fun x s1 u H1 g1 e1 rel1 st1 r1 go1 => ?_⟩
  split at go1
  · exact ⟨_, r1.int, go1.here rel1 rfl⟩
  · exact go1.elim
theorem q_slL (hK : F.K = X.K) (ha : PE X a (SR F xa)) (hl : PO X lo (SO F pl)) (hh : PO X hi (SO F ph)) {p2 : Pos} : PE X (.Subscript a (.Slice lo hi none p2) pos) (SN F (lSlice xa pl ph)) := wkE (pe_slice sl_list ha hl hh) fun σ H Q h => by
  obtain ⟨en, st, g, rel, go⟩ := h
  refine ⟨en, st, g, rel, Go.bind go fun x s1 u H1 g1 e1 rel1 st1 r1 go1 => ?_⟩
  refine ⟨en, s1, g1, rel1, Go.bind go1 fun l s2 l' H2 g2 e2 rel2 st2 r2 go2 => ?_⟩
  cases r2
  refine ⟨en, s2, g2, rel2, Go.bind go2 fun k s3 k' H3 g3 e3 rel3 st3 r3 go3 => ?_⟩
  cases r3
  have rx := (r1.step st2 rel1.sto.aw).step st3 rel2.sto.aw
  split at go3
  · rename_i xs ex
    obtain ⟨p, vs, rfl, h, l⟩ := der_lst rel3.sto rx ex
    exact ⟨p, vs, rfl, sq _ h, fun p np => new_read rel3 ((st1.trans st2).trans st3) (cut_rep _ _ l) go3 np⟩
  · rename_i xs ex
    have ex' : x = .scr xs := by
      cases x with
      | ref n => simp only [deref] at ex; split at ex <;> cases ex
      | _ => exact ex
    subst ex'
    cases rx.scal (fun _ z => nomatch z) with
    | scr hs l =>
      rename_i p vs
      refine ⟨p, vs, rfl, ?_, fun p np => new_read rel3 ((st1.trans st2).trans st3) (cut_rep _ _ l) go3 np⟩
      rcases hs with ⟨o, e, _⟩ | hs
      · exact .inl (.inr ⟨o, e⟩)
      · have := hs H3
        rw [show g3.K = X.K from rel3.ext.K.trans (rel3.ok.kk.trans hK)] at this
        exact this
  · exact go3.elim
end
end Il
end
section
set_option Elab.async false
set_option linter.all false
set_option maxRecDepth 100000
set_option maxHeartbeats 2000000
/-! Part C5: calls of built-ins, new lists, isinstance. -/
namespace Il
open PySem PySem.Spec L2
def isStar : Expr → Bool
  | .Starred _ _ => true
  | _ => false
theorem star_of {a : Expr} {es : List Expr} {env : Env} (h : isStar a = false) : starEach (a :: es) env = (false, eval a env) :: starEach es env := by
  cases a <;> first | rfl | (simp [isStar] at h)
theorem plain_of {es : List Expr} {env : Env} {pos : Pos} (h : es.all (fun e => !isStar e) = true) : (backTo pos (starEach es env)).any (·.1) = false := by
  induction es with
  | nil => rfl
  | cons a es ih =>
    simp only [List.all_cons, Bool.and_eq_true, Bool.not_eq_true'] at h
    rw [star_of h.1]
    show (false || (backTo pos (starEach es env)).any (·.1)) = false
    rw [Bool.false_or]
    exact ih h.2
section
variable {X : Cx} {F : Fc} {a b c : Expr} {xa xb xc : Ex} {p pos : Pos} {es : List Expr} {la lb : Lx} {x : Str} {id T : String} {r : List V → Hp → VK → Prop} {f1 : Store → D → Option D} {f2 : Store → D → D → Option D}
/-- a built-in's call of one, of two -/
theorem q_biB1 (hc : CallR X (.builtin id) r) (hf : Good1 F f1 fun x H Q => r [x] H Q) (hg : Gl X x) (hm : X.mg x = none) (hv : bootBuiltins x = some (.builtin id)) (hn : x ≠ "__name__") (hd : (x == ("__debug__" : Str)) = false) (hs : isStar a = false)
    (ha : PE X a (SR F xa)) : PE X (.Call (.Name x p) [a] [] pos) (SE F (xOp1 f1 xa)) :=
  wkE (pe_callB hc hg hm hv (pa_cons ha pa_nil (star_of hs)) hn hd (star_of hs) rfl) fun _ _ _ h => op1_read hf h
theorem q_biT1 (hc : CallR X (.type T) r) (hf : Good1 F f1 fun x H Q => r [x] H Q) (hg : Gl X x) (hm : X.mg x = none) (hv : bootBuiltins x = some (.type T)) (hn : x ≠ "__name__") (hd : (x == ("__debug__" : Str)) = false) (hs : isStar a = false)
    (ha : PE X a (SR F xa)) : PE X (.Call (.Name x p) [a] [] pos) (SE F (xOp1 f1 xa)) :=
  wkE (pe_callTy hc hg hm hv (pa_cons ha pa_nil (star_of hs)) hn hd (star_of hs) rfl) fun _ _ _ h => op1_read hf h
theorem q_biB2 (hc : CallR X (.builtin id) r) (hf : Good2 F f2 fun x y H Q => r [x, y] H Q) (hg : Gl X x) (hm : X.mg x = none) (hv : bootBuiltins x = some (.builtin id)) (hn : x ≠ "__name__") (hd : (x == ("__debug__" : Str)) = false) (hs : isStar a = false) (hs2 : isStar b = false)
    (ha : PE X a (SR F xa)) (hb : PE X b (SR F xb)) : PE X (.Call (.Name x p) [a, b] [] pos) (SE F (xOp2 f2 xa xb)) :=
  wkE (pe_callB hc hg hm hv (pa_cons ha (pa_cons hb pa_nil (star_of hs2)) (star_of hs)) hn hd (star_of hs) (plain_of (by simp [hs2]))) fun _ _ _ h => op2_read hf h
/-! ### what the mirrored ones give -/
theorem good_abs : Good1 F oAbs fun x H Q => ∃ i, [x] = [V.int i] ∧ Q (.int (if i < 0 then -i else i)) H := by
  intro σ en st g H x z u Q rel e r1 go
  unfold oAbs at e
  split at e
  · cases e
    exact ⟨_, by rw [r1.int], go.here rel (.int _)⟩
  · cases e
theorem good_int : Good1 F oInt fun x H Q => (∃ i, [x] = [V.int i] ∧ Q (.int i) H) ∨ ∃ k, [x] = [V.bl k] ∧ Q (.int (if k then 1 else 0)) H := by
  intro σ en st g H x z u Q rel e r1 go
  unfold oInt at e
  split at e
  · cases e
    exact .inl ⟨_, by rw [r1.int], go.here rel (.int _)⟩
  · cases e
    exact .inr ⟨_, by rw [r1.bl], go.here rel (.int _)⟩
  · cases e
theorem good_max2 : Good2 F oMax2 fun x y H Q => ∃ i j, [x, y] = [V.int i, V.int j] ∧ Q (.int (if j > i then j else i)) H := by
  intro σ en st g H x y z u v Q rel e r1 r2 go
  unfold oMax2 at e
  split at e
  · cases e
    exact ⟨_, _, by rw [r1.int, r2.int], go.here rel (.int _)⟩
  · cases e
theorem ref_not {g : Gh} {H : Hp} {st : Store} {x : D} {ds : List D} (e : deref st x = .scr ds) : x = .scr ds := by
  cases x with
  | ref n => simp only [deref] at e; split at e <;> cases e
  | _ => exact e
theorem scr_sq {g : Gh} {σ : L2.St} {H : Hp} {en : En} {st : Store} {ds : List D} {u : V} (hK : F.K = X.K) (rel : Rel F σ H en st g) (r : RepT g H (.scr ds) u) : ∃ p vs, u = .ref p ∧ SqL X.K H p vs ∧ RepL g H ds vs := by
  cases r.scal (fun _ z => nomatch z) with
  | scr hs l =>
    rename_i p vs
    refine ⟨p, vs, rfl, ?_, l⟩
    rcases hs with ⟨o, e, _⟩ | hs
    · exact .inl (.inr ⟨o, e⟩)
    · have := hs H
      rw [show g.K = X.K from rel.ext.K.trans (rel.ok.kk.trans hK)] at this
      exact this
theorem good_len (hK : F.K = X.K) : Good1 F oLen fun x H Q => ∃ p ys, [x] = [V.ref p] ∧ (SqL X.K H p ys ∨ SqT X.K H p ys) ∧ Q (.int ys.length) H := by
  intro σ en st g H x z u Q rel e r1 go
  unfold oLen at e
  split at e
  · rename_i xs ex
    cases e
    obtain rfl := ref_not (g := g) (H := H) ex
    obtain ⟨p, vs, rfl, h, l⟩ := scr_sq hK rel r1
    refine ⟨p, vs, rfl, .inl h, ?_⟩
    rw [← l.length]
    exact go.here rel (.int _)
  · rename_i xs ex
    cases e
    obtain ⟨p, vs, rfl, h, l⟩ := der_lst rel.sto r1 ex
    refine ⟨p, vs, rfl, .inl (sq _ h), ?_⟩
    rw [← l.length]
    exact go.here rel (.int _)
  · rename_i xs ex
    cases e
    obtain rfl := der_tup ex
    obtain ⟨p, vs, rfl, h, l, _⟩ := r1.tup
    refine ⟨p, vs, rfl, .inr (sqT _ h), ?_⟩
    rw [← l.length]
    exact go.here rel (.int _)
  · cases e
theorem bools_rep {g : Gh} {H : Hp} : ∀ {ds : List D} {vs : List V} {bs : List Bool}, RepL g H ds vs → boolsOf ds = some bs → vs = bs.map V.bl
  | _, _, _, .nil, e => by cases e; rfl
  | d :: ds, _, bs, .cons h t, e => by
    cases d with
    | bl b =>
      cases h
      simp only [boolsOf] at e
      cases q : boolsOf ds with
      | none => rw [q] at e; cases e
      | some cs =>
        rw [q] at e
        cases e
        rw [bools_rep t q]; rfl
    | _ => simp [boolsOf] at e
theorem ints_rep {g : Gh} {H : Hp} : ∀ {ds : List D} {vs : List V} {bs : List Int}, RepL g H ds vs → intsOf ds = some bs → vs = bs.map V.int
  | _, _, _, .nil, e => by cases e; rfl
  | d :: ds, _, bs, .cons h t, e => by
    cases d with
    | int b =>
      cases h
      simp only [intsOf] at e
      cases q : intsOf ds with
      | none => rw [q] at e; cases e
      | some cs =>
        rw [q] at e
        cases e
        rw [ints_rep t q]; rfl
    | _ => simp [intsOf] at e
theorem good_all : Good1 F oAll fun x H Q => rAll X.K [x] H Q := by
  intro σ en st g H x z u Q rel e r1 go
  unfold oAll at e
  split at e
  · rename_i xs ex
    cases q : boolsOf xs with
    | none => rw [q] at e; cases e
    | some bs =>
      rw [q] at e
      cases e
      obtain ⟨p, vs, rfl, h, l⟩ := der_lst rel.sto r1 ex
      have := bools_rep l q
      subst this
      exact ⟨p, bs, rfl, sq _ h, go.here rel (.bl _)⟩
  · cases e
theorem maxI_spec : ∀ (l : List Int), l ≠ [] → maxI l ∈ l ∧ ∀ y ∈ l, y ≤ maxI l
  | [], h => absurd rfl h
  | [x], _ => by simp [maxI]
  | x :: y :: r, _ => by
    obtain ⟨h1, h2⟩ := maxI_spec (y :: r) (by simp)
    simp only [maxI]
    by_cases q : maxI (y :: r) < x
    · rw [if_pos q]
      exact ⟨List.mem_cons_self, fun z hz => by
        rcases List.mem_cons.mp hz with e | e
        · omega
        · have := h2 z e; omega⟩
    · rw [if_neg q]
      exact ⟨List.mem_cons_of_mem _ h1, fun z hz => by
        rcases List.mem_cons.mp hz with e | e
        · omega
        · exact h2 z e⟩
theorem minI_spec : ∀ (l : List Int), l ≠ [] → minI l ∈ l ∧ ∀ y ∈ l, minI l ≤ y
  | [], h => absurd rfl h
  | [x], _ => by simp [minI]
  | x :: y :: r, _ => by
    obtain ⟨h1, h2⟩ := minI_spec (y :: r) (by simp)
    simp only [minI]
    by_cases q : x < minI (y :: r)
    · rw [if_pos q]
      exact ⟨List.mem_cons_self, fun z hz => by
        rcases List.mem_cons.mp hz with e | e
        · omega
        · have := h2 z e; omega⟩
    · rw [if_neg q]
      exact ⟨List.mem_cons_of_mem _ h1, fun z hz => by
        rcases List.mem_cons.mp hz with e | e
        · omega
        · exact h2 z e⟩
theorem good_max : Good1 F oMax fun x H Q => rMax X.K [x] H Q := by
  intro σ en st g H x z u Q rel e r1 go
  unfold oMax at e
  split at e
  · rename_i xs ex
    cases q : intsOf xs with
    | none => rw [q] at e; cases e
    | some bs =>
      rw [q] at e
      obtain ⟨p, vs, rfl, h, l⟩ := der_lst rel.sto r1 ex
      have := ints_rep l q
      subst this
      simp only [Option.bind_some] at e
      cases bs with
      | nil => simp at e
      | cons b bs =>
        rw [if_neg (by simp)] at e
        cases e
        refine ⟨p, b :: bs, rfl, sq _ h, by simp, fun m hm hle => ?_⟩
        obtain ⟨h1, h2⟩ := maxI_spec (b :: bs) (by simp)
        have e1 := h2 m hm
        have e2 := hle _ h1
        have e3 : m = maxI (b :: bs) := by omega
        rw [e3]
        exact go.here rel (.int _)
  · cases e
theorem good_min : Good1 F oMin fun x H Q => rMin X.K [x] H Q := by
  intro σ en st g H x z u Q rel e r1 go
  unfold oMin at e
  split at e
  · rename_i xs ex
    cases q : intsOf xs with
    | none => rw [q] at e; cases e
    | some bs =>
      rw [q] at e
      obtain ⟨p, vs, rfl, h, l⟩ := der_lst rel.sto r1 ex
      have := ints_rep l q
      subst this
      simp only [Option.bind_some] at e
      cases bs with
      | nil => simp at e
      | cons b bs =>
        rw [if_neg (by simp)] at e
        cases e
        refine ⟨p, b :: bs, rfl, sq _ h, by simp, fun m hm hle => ?_⟩
        obtain ⟨h1, h2⟩ := minI_spec (b :: bs) (by simp)
        have e1 := h2 m hm
        have e2 := hle _ h1
        have e3 : m = minI (b :: bs) := by omega
        rw [e3]
        exact go.here rel (.int _)
  · cases e
theorem good_tupOf : Good1 F oTupOf fun x H Q => ∃ p ys, [x] = [V.ref p] ∧ ((SqL X.K H p ys ∧ ∀ l, H l = none → Q (.ref l) (upd H l (.tup ys))) ∨ (SqT X.K H p ys ∧ Q (.ref p) H)) := by
  intro σ en st g H x z u Q rel e r1 go
  unfold oTupOf at e
  split at e
  · rename_i xs ex
    cases e
    obtain ⟨p, vs, rfl, h, l⟩ := der_lst rel.sto r1 ex
    refine ⟨p, vs, rfl, .inl ⟨sq _ h, fun q nq => Go.new go rel nq (.tup upd_same (rel.newW nq) (l.step (.same (.new nq))))⟩⟩
  · rename_i xs ex
    cases e
    obtain rfl := der_tup ex
    obtain ⟨p, vs, rfl, h, l, n⟩ := r1.tup
    exact ⟨p, vs, rfl, .inr ⟨sqT _ h, go.here rel (.tup h n l)⟩⟩
  · cases e
/-! ### new lists -/
def GoodN1 (F : Fc) (f : Store → D → Option (List D)) (rr : V → Hp → VK → Prop) : Prop :=
  ∀ σ en st g0 H0 g H x ds u (Q : VK), Rel F σ H en st g → Step g0 H0 g H → f st x = some ds → RepT g H x u → Go F (RepN H0) σ en g H Q (.ok ds st) → rr u H Q
def GoodN2 (F : Fc) (f : Store → D → D → Option (List D)) (rr : R2) : Prop :=
  ∀ σ en st g0 H0 g H x y ds u v (Q : VK), Rel F σ H en st g → Step g0 H0 g H → f st x y = some ds → RepT g H x u → RepT g H y v → Go F (RepN H0) σ en g H Q (.ok ds st) → rr u v H Q
theorem n1_read {f : Store → D → Option (List D)} {rr : V → Hp → VK → Prop} (hf : GoodN1 F f rr) {σ : L2.St} {H : Hp} {Q : VK} (h : SN F (lOp1 f xa) σ H Q) : SR F xa σ H fun x H1 => rr x H1 Q := by
  obtain ⟨en, st, g, rel, go⟩ := h
  refine ⟨en, st, g, rel, Go.bind go fun x s1 u H1 g1 e1 rel1 st1 r1 go1 => ?_⟩
  obtain ⟨z, ez, go3⟩ := Go.ofOpt go1
  exact hf σ en s1 g H g1 H1 x z u Q rel1 st1 ez r1 go3
theorem n2_read {f : Store → D → D → Option (List D)} {rr : R2} (hf : GoodN2 F f rr) {σ : L2.St} {H : Hp} {Q : VK} (h : SN F (lOp2 f xa xb) σ H Q) : tOp rr (SR F xa) (SR F xb) σ H Q := by
  obtain ⟨en, st, g, rel, go⟩ := h
  refine ⟨en, st, g, rel, Go.bind go fun x s1 u H1 g1 e1 rel1 st1 r1 go1 => ?_⟩
  refine ⟨en, s1, g1, rel1, Go.bind go1 fun y s2 v H2 g2 e2 rel2 st2 r2 go2 => ?_⟩
  obtain ⟨z, ez, go3⟩ := Go.ofOpt go2
  exact hf σ en s2 g H g2 H2 x y z u v Q rel2 (st1.trans st2) ez (r1.step st2 rel1.sto.aw) r2 go3
theorem good_listOf : GoodN1 F lListOf fun x H Q => ∃ p ys, [x] = [V.ref p] ∧ (SqL X.K H p ys ∨ SqT X.K H p ys) ∧ ∀ l, H l = none → Q (.ref l) (upd H l (.lst ys)) := by
  intro σ en st g0 H0 g H x ds u Q rel s0 e r1 go
  unfold lListOf at e
  split at e
  · rename_i xs ex
    cases e
    obtain ⟨p, vs, rfl, h, l⟩ := der_lst rel.sto r1 ex
    exact ⟨p, vs, rfl, .inl (sq _ h), fun q nq => new_read rel s0 l go nq⟩
  · rename_i xs ex
    cases e
    obtain rfl := der_tup ex
    obtain ⟨p, vs, rfl, h, l, n⟩ := r1.tup
    exact ⟨p, vs, rfl, .inr (sqT _ h), fun q nq => new_read rel s0 l go nq⟩
  · cases e
theorem good_cat : GoodN2 F lCat rCat := by
  intro σ en st g0 H0 g H x y ds u v Q rel s0 e r1 r2 go
  unfold lCat at e
  split at e
  · rename_i xs ys ex ey
    split at e
    · rename_i hl
      cases e
      obtain ⟨p, vs, rfl, h, l⟩ := der_lst rel.sto r1 ex
      obtain ⟨q, ws, rfl, h2, l2⟩ := der_lst rel.sto r2 ey
      exact ⟨p, q, vs, ws, rfl, rfl, h, h2, by rw [← l.length, ← l2.length]; exact line_of hl, fun t nt => new_read rel s0 (l.append l2) go nt⟩
    · cases e
  · cases e
theorem good_rep : GoodN2 F lRep rRep := by
  intro σ en st g0 H0 g H x y ds u v Q rel s0 e r1 r2 go
  unfold lRep at e
  split at e
  · rename_i xs k ex
    split at e
    · rename_i hl
      cases e
      obtain ⟨p, vs, rfl, h, l⟩ := der_lst rel.sto r1 ex
      exact ⟨p, k, vs, rfl, r2.int, h, hl.1, hl.2.1, by rw [← l.length]; exact line_of hl.2.2, fun t nt => new_read rel s0 (l.flat _) go nt⟩
    · cases e
  · cases e
theorem q_cat (ha : PE X a (SR F xa)) (hb : PE X b (SR F xb)) : PE X (.BinOp a .Add b pos) (SN F (lOp2 lCat xa xb)) := wkE (pe_op op_cat ha hb) fun _ _ _ h => n2_read good_cat h
theorem q_rep (ha : PE X a (SR F xa)) (hb : PE X b (SR F xb)) : PE X (.BinOp a .Mult b pos) (SN F (lOp2 lRep xa xb)) := wkE (pe_op op_rep ha hb) fun _ _ _ h => n2_read good_rep h
theorem q_listOf (hg : Gl X x) (hm : X.mg x = none) (hv : bootBuiltins x = some (.type "list")) (hn : x ≠ "__name__") (hd : (x == ("__debug__" : Str)) = false) (hs : isStar a = false) (ha : PE X a (SR F xa)) : PE X (.Call (.Name x p) [a] [] pos) (SN F (lOp1 lListOf xa)) :=
  wkE (pe_callTy call_list_of hg hm hv (pa_cons ha pa_nil (star_of hs)) hn hd (star_of hs) rfl) fun _ _ _ h => n1_read good_listOf h
theorem good_rev : GoodN1 F lRev fun x H1 Q => ∃ a xs, x = .ref a ∧ SqL X.K H1 a xs ∧ ∀ p, H1 p = none → Q (.ref p) (upd H1 p (.lst xs.reverse)) := by
  intro σ en st g0 H0 g H x ds u Q rel s0 e r1 go
  unfold lRev at e
  split at e
  · rename_i xs ex
    cases e
    obtain ⟨p, vs, rfl, h, l⟩ := der_lst rel.sto r1 ex
    exact ⟨p, vs, rfl, sq _ h, fun q nq => new_read rel s0 l.reverse go nq⟩
  · cases e
theorem q_rev {k : Nat} {p1 p2 p3 : Pos} (ha : PE X a (SR F xa)) : PE X (.Subscript a (.Slice none none (some (.UnaryOp .USub (.Constant (.int 1) k p1) p2)) p3) pos) (SN F (lOp1 lRev xa)) :=
  wkE (pe_revL ha) fun _ _ _ h => n1_read good_rev h
/-! ### isinstance with built-in kinds -/
def tyName : Ty → String
  | .int => "int"
  | .bool => "bool"
  | .str => "str"
  | .tuple => "tuple"
  | .list => "list"
  | .dict => "dict"
/-- the kind of data -/
def kindOf : D → String
  | .non => "NoneType"
  | .bl _ => "bool"
  | .int _ => "int"
  | .str _ => "str"
  | .tup _ => "tuple"
  | .lst _ => "list"
  | .dct _ => "dict"
  | _ => "object"
theorem ty_rep {g : Gh} {H : Hp} {d : D} {v : V} {K : PySem.W.Frag} (r : RepT g H d v) (n : notRef d = true) : TyX K H v (.type (kindOf d)) := by
  rcases r with r | ⟨p, xs, ds, rfl, rfl, h, _⟩
  · cases r with
    | non => exact .base .non
    | bl b => exact .base (.bl b)
    | int b => exact .base (.int b)
    | str b => exact .base (.str b)
    | tup h _ _ => exact .base (.tup h)
    | lst h _ _ => exact .base (.lst h)
    | dct h _ _ => exact .base (.dK h)
    | scr _ _ => simp [notRef] at n
    | ref _ => simp [notRef] at n
  · exact .base (.lst h)
theorem kit_D (d : D) (t : Ty) (n : notRef d = true) : kitB (kindOf d) (tyName t) = some (isTy t d) := by
  cases d <;> cases t <;> first | (simp [notRef] at n; done) | (simp only [kindOf, tyName, isTy]; decide +kernel)
theorem good_isTy1 (t : Ty) : Good1 F (oIsTy [t]) fun x H Q => rIsi X.K [x, .ty (tyName t)] H Q := by
  intro σ en st g H x z u Q rel e r1 go
  unfold oIsTy at e
  split at e
  · rename_i n
    cases e
    refine ⟨u, .ty (tyName t), .type (kindOf x), .type (tyName t), isTy t x, rfl, .ty _, ty_rep r1 n, kit_ty (kit_D x t n), ?_⟩
    have : ([t].any fun t => isTy t x) = isTy t x := by simp
    rw [this] at go
    exact go.here rel (.bl _)
  · cases e
/-- isinstance(x, T) -/
theorem q_isTy1 {t : Ty} {y : Str} {q : Pos} (hg : Gl X x) (hm : X.mg x = none) (hv : bootBuiltins x = some (.builtin "isinstance")) (hn : x ≠ "__name__") (hd : (x == ("__debug__" : Str)) = false) (hs : isStar a = false)
    (hg2 : Gl X y) (hm2 : X.mg y = none) (hv2 : bootBuiltins y = some (.type (tyName t))) (hn2 : y ≠ "__name__") (hd2 : (y == ("__debug__" : Str)) = false) (ha : PE X a (SR F xa)) : PE X (.Call (.Name x p) [a, .Name y q] [] pos) (SE F (xOp1 (oIsTy [t]) xa)) :=
  wkE (pe_callB call_isi hg hm hv (pa_cons ha (pa_cons (pe_bltn (v := .ty (tyName t)) hg2 hm2 hv2 rfl hn2 hd2) pa_nil rfl) (star_of hs)) hn hd (star_of hs) rfl) fun _ _ _ h => op1_read (good_isTy1 t) h
end
end Il
end
section
set_option Elab.async false
set_option linter.all false
set_option maxRecDepth 100000
set_option maxHeartbeats 2000000
/-! Part C6: targets, walks, comprehensions, statements, loops. -/
namespace Il
open PySem PySem.Spec L2
/-! ### the slots -/
section
variable {F : Fc} {σ : L2.St} {H H' : Hp} {en en' : En} {st : Store} {g g' : Gh}
/-- a slot is stored -/
theorem Rel.put (r : Rel F σ H en st g) {i : Nat} {d : D} {v : V} (h : Rep g H d v) : Rel F (σ.set i (some v)) H (en.set i (some (.fro d))) st g := by
  refine ⟨by simp [r.len], fun j s e => ?_, fun j k xs ys e1 e2 ne => ?_, r.sto, r.ext, r.ok, r.lk⟩
  · by_cases q : i = j
    · subst q
      have hl : i < en.length := by
        by_cases hl : i < en.length
        · exact hl
        · rw [List.getElem?_eq_none (by simpa using hl)] at e; cases e
      rw [List.getElem?_set_self hl] at e
      cases e
      exact ⟨v, by rw [List.getElem?_set_self (by rw [r.len]; exact hl)], h⟩
    · rw [List.getElem?_set_ne q] at e
      rw [List.getElem?_set_ne q]
      exact r.sl j s e
  · have a1 : i ≠ j := fun q => by
      subst q
      rw [List.getElem?_set] at e1
      split at e1
      · split at e1 <;> cases e1
      · rename_i z; exact z rfl
    have a2 : i ≠ k := fun q => by
      subst q
      rw [List.getElem?_set] at e2
      split at e2
      · split at e2 <;> cases e2
      · rename_i z; exact z rfl
    rw [List.getElem?_set_ne a1] at e1
    rw [List.getElem?_set_ne a2] at e2
    rw [List.getElem?_set_ne a1, List.getElem?_set_ne a2]
    exact r.dj j k xs ys e1 e2 ne
/-- a slot is forgotten -/
theorem Rel.drop (r : Rel F σ H en st g) (i : Nat) : Rel F (σ.set i none) H (en.set i none) st g := by
  refine ⟨by simp [r.len], fun j s e => ?_, fun j k xs ys e1 e2 ne => ?_, r.sto, r.ext, r.ok, r.lk⟩
  · have a1 : i ≠ j := fun q => by
      subst q
      rw [List.getElem?_set] at e
      split at e
      · split at e <;> cases e
      · rename_i z; exact z rfl
    rw [List.getElem?_set_ne a1] at e
    rw [List.getElem?_set_ne a1]
    exact r.sl j s e
  · have a1 : i ≠ j := fun q => by
      subst q
      rw [List.getElem?_set] at e1
      split at e1
      · split at e1 <;> cases e1
      · rename_i z; exact z rfl
    have a2 : i ≠ k := fun q => by
      subst q
      rw [List.getElem?_set] at e2
      split at e2
      · split at e2 <;> cases e2
      · rename_i z; exact z rfl
    rw [List.getElem?_set_ne a1] at e1
    rw [List.getElem?_set_ne a2] at e2
    rw [List.getElem?_set_ne a1, List.getElem?_set_ne a2]
    exact r.dj j k xs ys e1 e2 ne
theorem Rel.wipe (r : Rel F σ H en st g) : ∀ vs : List Nat, Rel F (L2.wipe σ vs) H (wipe en vs) st g
  | [] => r
  | v :: vs => (Rel.wipe r vs).drop v
end
/-! ### targets -/
section
variable {X : Cx} {F : Fc}
/-- only these slots -/
def Chg (is : List Nat) (σ σ' : L2.St) : Prop := σ'.length = σ.length ∧ ∀ i, i ∉ is → σ'[i]? = σ[i]?
/-- d goes to the target -/
def SG (F : Fc) (t : Tg) : TG := fun v σ H Q => ∃ en st g d en', Rel F σ H en st g ∧ Rep g H d v ∧ t.put d en = some en' ∧ ∀ σ', Rel F σ' H en' st g → Chg t.slots σ σ' → Q σ' H
def SGs (F : Fc) (ts : List Tg) : TGs := fun vs σ H Q => ∃ en st g ds en', Rel F σ H en st g ∧ RepL g H ds vs ∧ Tg.putL ts ds en = some en' ∧ ∀ σ', Rel F σ' H en' st g → Chg (Tg.slotsL ts) σ σ' → Q σ' H
theorem wkG {e : Expr} {t t' : TG} (h : PG X e t) (w : ∀ v σ H Q, t' v σ H Q → t v σ H Q) : PG X e t' := ⟨fun pins s σ H v u Q I r q => h.run pins s σ H v u Q I r (w v σ H Q q)⟩
theorem wkGs {e : List Expr} {t t' : TGs} (h : PGs X e t) (w : ∀ v σ H Q, t' v σ H Q → t v σ H Q) : PGs X e t' := ⟨fun pins s σ H v u Q I r q => h.run pins s σ H v u Q I r (w v σ H Q q)⟩
variable {x : Str} {i : Nat} {pos : Pos}
theorem g_nm (hN : X.N.Nodup) (hi : X.N[i]? = some x) (hx : Loc X.env.scope x) (hf : X.fn x = true ∨ X.env.scope.names.lookup x = some .local) : PG X (.Name x pos) (SG F (.nm i)) :=
  wkG (pg_name hN hi hx hf) fun v σ H Q h => by
    obtain ⟨en, st, g, d, en', rel, r, e, k⟩ := h
    cases e
    refine k _ (rel.put r) ⟨by simp, fun j hj => ?_⟩
    rw [List.getElem?_set_ne (fun z => hj (by simp [Tg.slots, z]))]
theorem g_nil : PGs X [] (SGs F []) := wkGs pgs_nil fun vs σ H Q h => by
  obtain ⟨en, st, g, ds, en', rel, r, e, k⟩ := h
  cases r with
  | nil => cases e; exact ⟨rfl, k _ rel ⟨rfl, fun _ _ => rfl⟩⟩
  | cons _ _ => cases e
theorem g_cons {e : Expr} {es : List Expr} {t : Tg} {ts : List Tg} (h1 : PG X e (SG F t)) (h2 : PGs X es (SGs F ts)) (hs : isStar e = false) : PGs X (e :: es) (SGs F (t :: ts)) :=
  wkGs (pgs_cons h1 h2 (by cases e <;> first | rfl | (simp [isStar] at hs))) fun vs σ H Q h => by
    obtain ⟨en, st, g, ds, en', rel, r, e, k⟩ := h
    cases r with
    | nil => cases e
    | cons r rr =>
      rename_i d v ds vs
      simp only [Tg.putL] at e
      cases q : t.put d en with
      | none => rw [q] at e; cases e
      | some en1 =>
        rw [q] at e
        exact ⟨v, vs, rfl, en, st, g, d, en1, rel, r, q, fun σ' rel' ch => ⟨en1, st, g, ds, en', rel', rr, e, fun σ2 rel2 ch2 => k σ2 rel2 ⟨ch2.1.trans ch.1, fun j hj => by
          simp only [Tg.slotsL, List.mem_append, not_or] at hj
          rw [ch2.2 j hj.2, ch.2 j hj.1]⟩⟩⟩
theorem putL_len : ∀ {ts : List Tg} {ds : List D} {en en' : En}, Tg.putL ts ds en = some en' → ds.length = ts.length
  | [], [], _, _, _ => rfl
  | [], _ :: _, _, _, h => by simp [Tg.putL] at h
  | _ :: _, [], _, _, h => by simp [Tg.putL] at h
  | t :: ts, d :: ds, en, en', h => by
    simp only [Tg.putL] at h
    cases q : t.put d en with
    | none => rw [q] at h; cases h
    | some en1 => rw [q] at h; simp [putL_len (ts := ts) (ds := ds) h]
theorem each_len {es : List Expr} {env : Env} (h : es.all (fun e => !isStar e) = true) : (assignEach es env).length = es.length ∧ (assignEach es env).findIdx? (·.1) = none := by
  induction es with
  | nil => exact ⟨rfl, rfl⟩
  | cons a es ih =>
    simp only [List.all_cons, Bool.and_eq_true, Bool.not_eq_true'] at h
    obtain ⟨h1, h2⟩ := ih h.2
    have e : assignEach (a :: es) env = (false, assign a env) :: assignEach es env := by
      have := h.1
      cases a <;> first | rfl | (simp [isStar] at this)
    rw [e]
    refine ⟨by simp [h1], ?_⟩
    rw [List.findIdx?_cons, if_neg (by simp), h2]; rfl
theorem PG.or {e : Expr} {t t' : TG} (h : PG X e t) (h' : PG X e t') : PG X e (fun v σ H Q => t v σ H Q ∨ t' v σ H Q) := ⟨fun pins s σ H v u Q I r q => q.elim (h.run pins s σ H v u Q I r) (h'.run pins s σ H v u Q I r)⟩
theorem g_tup {es : List Expr} {k : Nat} {ts : List Tg} (hc : X.calm = true) (h : PGs X es (SGs F ts)) (hs : es.all (fun e => !isStar e) = true) (hl : ts.length = es.length) : PG X (.Tuple es k pos) (SG F (.tp ts)) :=
  wkG (PG.or (pg_tup hc h (each_len hs).1 (each_len hs).2) (pg_lst hc h (each_len hs).1 (each_len hs).2)) fun v σ H Q h => by
    obtain ⟨en, st, g, d, en', rel, r, e, k⟩ := h
    cases d with
    | tup ds =>
      cases r with
      | tup h n l =>
        simp only [Tg.put] at e
        refine .inl ⟨_, _, rfl, sqT _ h, ?_, en, st, g, ds, en', rel, l, e, fun σ' rel' ch => k σ' rel' (by simpa only [Tg.slots] using ch)⟩
        rw [← l.length, putL_len e, hl]
    | lst ds =>
      cases r with
      | lst h n l =>
        simp only [Tg.put] at e
        refine .inr ⟨_, _, rfl, sq _ h, ?_, en, st, g, ds, en', rel, l, e, fun σ' rel' ch => k σ' rel' (by simpa only [Tg.slots] using ch)⟩
        rw [← l.length, putL_len e, hl]
    | _ => simp [Tg.put] at e
end
/-! ### walks -/
/-- the iterator J goes through ds -/
def Wk (g : Gh) (H : Hp) (ds : List D) (J : It) : Prop :=
  ∀ g1 H1, SStep g H g1 H1 → (∀ a, g1.W a → H1 a ≠ none) → (∀ i d, ds[i]? = some d → J.go i H1 ∧ ∀ x H', J.yld i H1 x H' → Ext H1 H' ∧ Rep g1 H' d x) ∧ (∀ i, ds.length ≤ i → J.stop i H1)
abbrev SI (F : Fc) (it : Lx) : TI := Sem F Wk it
section
variable {X : Cx} {F : Fc} {a b : Expr} {xa xb : Ex} {pos p : Pos} {tg : Expr} {x : Str}
theorem wkI {e : Expr} {t t' : TI} (h : PI X tg e t) (w : ∀ σ H Q, t' σ H Q → t σ H Q) : PI X tg e t' := ⟨fun pins s σ H Q I q => h.run pins s σ H Q I (w σ H Q q)⟩
theorem PI.or {e : Expr} {t t' : TI} (h : PI X tg e t) (h' : PI X tg e t') : PI X tg e (fun σ H Q => t σ H Q ∨ t' σ H Q) := ⟨fun pins s σ H Q I q => q.elim (h.run pins s σ H Q I) (h'.run pins s σ H Q I)⟩
theorem wk_list {K : PySem.W.Frag} {g : Gh} {H : Hp} {p : Addr} {vs : List V} {ds : List D} (h : H p = some (.lst vs)) (n : ¬ g.W p) (l : RepL g H ds vs) : Wk g H ds (Itl K p) := by
  intro g1 H1 s tr
  have h1 := s.keep p _ h n nofun
  have l1 := l.step s
  refine ⟨fun i d e => ?_, fun i hi => ⟨vs, sq K h1, by rw [← l.length]; exact hi⟩⟩
  obtain ⟨v, e1, e2⟩ := l1.get e
  refine ⟨⟨vs, v, sq K h1, e1⟩, fun x H' y => ?_⟩
  obtain ⟨rfl, y⟩ := y
  have := (y vs (sq K h1)).symm.trans e1
  cases this
  exact ⟨fun _ _ z => z, e2⟩
theorem wk_tup {K : PySem.W.Frag} {g : Gh} {H : Hp} {p : Addr} {vs : List V} {ds : List D} (h : H p = some (.tup vs)) (n : ¬ g.W p) (l : RepL g H ds vs) : Wk g H ds (Itt K p) := by
  intro g1 H1 s tr
  have h1 := s.keep p _ h n nofun
  have l1 := l.step s
  refine ⟨fun i d e => ?_, fun i hi => ⟨vs, sqT K h1, by rw [← l.length]; exact hi⟩⟩
  obtain ⟨v, e1, e2⟩ := l1.get e
  refine ⟨⟨vs, v, sqT K h1, e1⟩, fun x H' y => ?_⟩
  obtain ⟨rfl, y⟩ := y
  have := (y vs (sqT K h1)).symm.trans e1
  cases this
  exact ⟨fun _ _ z => z, e2⟩
/-- pi_list or pi_tup: the value tells which -/
def iSeqT (K : PySem.W.Frag) (tl : TE) : TI := fun σ H R => tl σ H fun x H1 => ∃ a, x = .ref a ∧ (((∃ xs, SqL K H1 a xs) ∧ R (Itl K a) H1) ∨ ((∃ xs, SqT K H1 a xs) ∧ R (Itt K a) H1))
theorem pi_seq {l : Expr} {tl : TE} (hl : PE X l tl) : PI X tg l (iSeqT X.K tl) := by
  refine ⟨fun pins s σ H R I h => ?_⟩
  refine thn (hl.run pins s σ H _ I h) fun v s1 ⟨x, H1, I1, r1, q1⟩ => ?_
  obtain ⟨a, e, q⟩ := q1
  subst e
  cases r1
  rcases q with ⟨⟨xs, hq⟩, q⟩ | ⟨⟨xs, hq⟩, q⟩
  · obtain ⟨its, rv, p, hz⟩ := I1.list hq
    refine wpAny_pyIter_list p.isList ?_
    refine ⟨s1.heap.objs.size, [s1.heap.objs.size], _, _, H1, rfl, I1.kept (t' := s1.toks) fun b o e => Heap.get?_push_of_some _ e, turn_list a _, ⟨_, Heap.get?_push_size _ rfl, rfl, rfl⟩, fun b hb => ?_, q⟩
    have e : b = s1.heap.objs.size := by simpa using hb
    subst e
    exact I1.fpOk (Nat.le_refl _) (I1.hok.fresh (Nat.le_refl _))
  · obtain ⟨its, rv, p, hz⟩ := I1.tuple hq
    refine wpAny_pyIter_tuple (show s1.heap.IsTuple a its.toArray from p) ?_
    refine ⟨s1.heap.objs.size, [s1.heap.objs.size], _, _, H1, rfl, I1.kept (t' := s1.toks) fun b o e => Heap.get?_push_of_some _ e, turn_tuple a _, ⟨_, Heap.get?_push_size _ rfl, rfl, rfl⟩, fun b hb => ?_, q⟩
    have e : b = s1.heap.objs.size := by simpa using hb
    subst e
    exact I1.fpOk (Nat.le_refl _) (I1.hok.fresh (Nat.le_refl _))
theorem i_seq (ha : PE X a (SE F xa)) : PI X tg a (SI F (iSeq xa)) := wkI (pi_seq ha) fun σ H Q h => by
  obtain ⟨en, st, g, rel, go⟩ := h
  refine ⟨en, st, g, rel, Go.bind go fun x s1 u H1 g1 e1 rel1 st1 r1 go1 => ?_⟩
  split at go1
  · cases r1 with
    | lst h n l => exact ⟨_, rfl, .inl ⟨⟨_, sq _ h⟩, go1.here rel1 (wk_list h n l)⟩⟩
  · cases r1 with
    | tup h n l => exact ⟨_, rfl, .inr ⟨⟨_, sqT _ h⟩, go1.here rel1 (wk_tup h n l)⟩⟩
  · exact go1.elim
theorem wk_range {g : Gh} {H : Hp} (lo hi : Int) : Wk g H (rangeL lo hi) (Itr lo (hi - lo).toNat) := by
  intro g1 H1 s tr
  have hl : (rangeL lo hi).length = (hi - lo).toNat := by simp [rangeL]
  refine ⟨fun i d e => ?_, fun i hi' => by rw [hl] at hi'; exact hi'⟩
  have hi' : i < (hi - lo).toNat := by rw [← hl]; exact (List.getElem?_eq_some_iff.mp e).1
  refine ⟨hi', fun x H' y => ?_⟩
  obtain ⟨rfl, rfl⟩ := y
  refine ⟨fun _ _ z => z, ?_⟩
  have : d = .int (lo + (i : Int)) := by
    simp only [rangeL, List.getElem?_map, List.getElem?_range hi', Option.map_some] at e
    exact (Option.some.inj e).symm
  rw [this]
  exact .int _
theorem i_range1 (hg : Gl X "range") (hm : X.mg "range" = none) (hs : isStar a = false) (ha : PE X a (SR F xa)) : PI X tg (.Call (.Name "range" p) [a] [] pos) (SI F (iRange1 xa)) :=
  wkI (pi_range1 hg hm (pa_cons ha pa_nil (star_of hs)) (star_of hs)) fun σ H Q h => by
    obtain ⟨en, st, g, rel, go⟩ := h
    refine ⟨en, st, g, rel, Go.bind go fun x s1 u H1 g1 e1 rel1 st1 r1 go1 => ?_⟩
    split at go1
    · split at go1
      · rename_i hb
        refine ⟨_, by rw [r1.int], hb.1, hb.2, ?_⟩
        have := wk_range (g := g1) (H := H1) 0 (by assumption)
        rw [Int.sub_zero] at this
        exact go1.here rel1 this
      · exact go1.elim
    · exact go1.elim
/-! ### statements -/
def GoS (F : Fc) (D : Ends) (g : Gh) (H : Hp) : Out → Prop
  | .next en st => ∀ σ' H' g', Rel F σ' H' en st g' → SStep g H g' H' → D.nx σ' H'
  | .brk en st => ∀ σ' H' g', Rel F σ' H' en st g' → SStep g H g' H' → D.bk σ' H'
  | .cont en st => ∀ σ' H' g', Rel F σ' H' en st g' → SStep g H g' H' → D.ct σ' H'
  | .ret d st => ∀ v σ' H' en' g', Rel F σ' H' en' st g' → SStep g H g' H' → Rep g' H' d v → D.rt v H'
  | .exc c f en st => F.EW c f en st
  | .stuck => False
def SS (F : Fc) (m : Bk) : TS := fun D σ H => ∃ en st g, Rel F σ H en st g ∧ GoS F D g H (m en st)
theorem GoS.from {D : Ends} {g g1 : Gh} {H H1 : Hp} {o : Out} (h : GoS F D g H o) (s : SStep g H g1 H1) : GoS F D g1 H1 o := by
  cases o with
  | next en st => exact fun σ' H' g' r s' => h σ' H' g' r (s.trans s')
  | brk en st => exact fun σ' H' g' r s' => h σ' H' g' r (s.trans s')
  | cont en st => exact fun σ' H' g' r s' => h σ' H' g' r (s.trans s')
  | ret d st => exact fun v σ' H' en' g' r s' => h v σ' H' en' g' r (s.trans s')
  | exc c f en st => exact h
  | stuck => exact h
theorem GoS.ofRes {α β : Type} {R : Gh → Hp → α → β → Prop} {D : Ends} {σ : L2.St} {en : En} {st : Store} {g : Gh} {H : Hp} {P : β → Hp → Prop} {r : Res α} {k : α → Store → Out} (rel : Rel F σ H en st g) (h : GoS F D g H (ofRes en r k))
    (n : ∀ a st1 b H' g', r = .ok a st1 → Rel F σ H' en st1 g' → Step g H g' H' → R g' H' a b → GoS F D g' H' (k a st1) → P b H') : Go F R σ en g H P r := by
  cases r with
  | ok a st1 => exact fun b H' g' rel' s q => n a st1 b H' g' rfl rel' s q (GoS.from (o := k a st1) h (s.s rel.sto.aw))
  | exc c f st => exact h
  | stuck => exact h
variable {st₀ : Stmt} {rest : List Stmt} {ma mb : Bk} {la : Lx} {ta : Tx}
theorem s_nil : PSs X [] (SS F sNil) := wkSs pss_nil fun D σ H h => by
  obtain ⟨en, st, g, rel, go⟩ := h
  exact go σ H g rel .refl
theorem s_seq (h1 : PS X st₀ (SS F ma)) (h2 : PSs X rest (SS F mb)) : PSs X (st₀ :: rest) (SS F (sSeq ma mb)) := wkSs (pss_cons h1 h2) fun D σ H h => by
  obtain ⟨en, st, g, rel, go⟩ := h
  refine ⟨en, st, g, rel, ?_⟩
  unfold sSeq at go
  cases q : ma en st with
  | next en1 st1 =>
    rw [q] at go
    exact fun σ' H' g' r s => ⟨en1, st1, g', r, GoS.from (o := mb en1 st1) go s⟩
  | brk en1 st1 => rw [q] at go; exact go
  | cont en1 st1 => rw [q] at go; exact go
  | ret d st1 => rw [q] at go; exact go
  | exc c f en1 st1 => rw [q] at go; exact go
  | stuck => rw [q] at go; exact go
theorem s_drop (ha : PE X a (SE F xa)) (hs : swapsWith a none pos.line X.env = pure false) : PS X (.Expr a pos) (SS F (sDrop xa)) := wkS (ps_expr ha hs) fun D σ H h => by
  obtain ⟨en, st, g, rel, go⟩ := h
  exact ⟨en, st, g, rel, GoS.ofRes rel go fun d s1 v H1 g1 e rel1 st1 r go1 => go1 σ H1 g1 rel1 .refl⟩
theorem s_ret (ha : PE X a (SE F xa)) : PS X (.Return (some a) pos) (SS F (sRet xa)) := wkS (ps_ret ha) fun D σ H h => by
  obtain ⟨en, st, g, rel, go⟩ := h
  exact ⟨en, st, g, rel, GoS.ofRes rel go fun d s1 v H1 g1 e rel1 st1 r go1 => go1 v σ H1 en g1 rel1 .refl r⟩
theorem s_if {bb cc : List Stmt} (ht : PT X a (ST F ta)) (h1 : PSs X bb (SS F ma)) (h2 : PSs X cc (SS F mb)) : PS X (.If a bb cc pos) (SS F (sIf ta ma mb)) := wkS (ps_if ht h1 h2) fun D σ H h => by
  obtain ⟨en, st, g, rel, go⟩ := h
  refine ⟨en, st, g, rel, GoS.ofRes rel go fun x s1 y H1 g1 e rel1 st1 r go1 => ?_⟩
  cases r
  cases x with
  | true => exact iteT ⟨en, s1, g1, rel1, go1⟩
  | false => exact iteF ⟨en, s1, g1, rel1, go1⟩
/-- target = value -/
theorem s_asg {tge : Expr} {t : Tg} (ha : PE X a (SE F xa)) (hg : PG X tge (SG F t)) (hs : swapsWithSole [tge] a pos.line X.env = pure false) (hw : swappedStores [tge] a X.env = pure none) (h1 : isStar tge = false) : PS X (.Assign [tge] a pos) (SS F (sAsg t xa)) :=
  wkS (ps_asg ha hg hs hw (by cases tge <;> first | rfl | (simp [isStar] at h1))) fun D σ H h => by
    obtain ⟨en, st, g, rel, go⟩ := h
    refine ⟨en, st, g, rel, GoS.ofRes rel go fun d s1 v H1 g1 e rel1 st1 r go1 => ?_⟩
    split at go1
    · rename_i en1 q
      exact ⟨en, s1, g1, d, en1, rel1, r, q, fun σ' rel' _ => go1 σ' H1 g1 rel' .refl⟩
    · exact go1.elim
end
end Il
end
section
set_option Elab.async false
set_option linter.all false
set_option maxRecDepth 100000
set_option maxHeartbeats 2000000
/-! Part C7: loops, own lists, comprehensions, calls, defs. -/
namespace Il
open PySem PySem.Spec L2
section
variable {F : Fc} {σ : L2.St} {H H' : Hp} {en en' : En} {st : Store} {g g' : Gh}
/-- an avoided object that nothing tells of changes -/
theorem Rel.mut (r : Rel F σ H en st g) {p : Addr} {o u : HO} (hp : H p = some u) (w : g.W p) (na : p ∉ g.A) (n0 : F.H0 p = none) (no : ∀ (i : Nat) xs, en[i]? = some (some (.own xs)) → σ[i]? ≠ some (some (.ref p))) (ho : ∀ xs, o ≠ .tup xs := by intro _ h; cases h) :
    Rel F σ (upd H p o) en st g ∧ SStep g H g (upd H p o) := by
  have keep : ∀ a x, H a = some x → a ≠ p → upd H p o a = some x := fun a x e n => by rw [upd_ne n]; exact e
  have there : ∀ a, H a ≠ none → upd H p o a ≠ none := fun a e => by
    by_cases q : a = p
    · rw [q, upd_same]; simp
    · rw [upd_ne q]; exact e
  have ss : SStep g H g (upd H p o) := ⟨rfl, ⟨[], by simp, fun _ z => absurd z (by simp)⟩, fun a x e n _ => keep a x e fun z => n (z ▸ w), there, fun _ h => .inl h⟩
  refine ⟨⟨r.len, fun i s e => ?_, r.dj, ?_, ?_, r.ok, r.ok.lk _ _ _ _ r.lk ss⟩, ss⟩
  · have q := r.sl i s e
    cases s with
    | fro d =>
      obtain ⟨v, e1, e2⟩ := q
      exact ⟨v, e1, e2.step ss⟩
    | own xs =>
      obtain ⟨p', vs, e1, e2, e3, e4, e5, e6⟩ := q
      exact ⟨p', vs, e1, keep p' _ e2 fun z => no i xs e (by rw [e1, z]), e3.step ss, e4, e5, e6⟩
    | exn c f =>
      obtain ⟨v, e1, e2⟩ := q
      exact ⟨v, e1, r.ok.sx _ _ _ _ _ _ _ e2 ss⟩
    | thk f =>
      obtain ⟨v, e1, e2⟩ := q
      exact ⟨v, e1, r.ok.th _ _ _ _ _ _ e2 ss⟩
  · have t := r.sto
    exact ⟨t.len, t.nd, t.aw, fun a h => there a (t.tr a h), fun a h xs z => (by
      by_cases q : a = p
      · rw [q, upd_same] at z; exact ho xs (Option.some.inj z)
      · rw [upd_ne q] at z; exact t.nt a h xs z), fun n o' a h1 h2 => (t.ob n o' a h1 h2).step ss fun x e => keep a x e fun z => na (z ▸ List.mem_of_getElem? h2)⟩
  · have ex := r.ext
    exact ⟨ex.K, ex.A, fun a x e n nt => keep a x (ex.keep a x e n nt) fun z => (by rw [z, n0] at e; cases e), fun a e => there a (ex.there a e), ex.W1, ex.W2⟩
/-- one's own list changes -/
theorem Rel.own (r : Rel F σ H en st g) {i : Nat} {xs ys : List D} {p : Addr} {vs ws : List V} (e : en[i]? = some (some (.own xs))) (es : σ[i]? = some (some (.ref p))) (hp : H p = some (.lst vs)) (w : g.W p) (na : p ∉ g.A) (n0 : F.H0 p = none) (l : RepL g H ys ws) :
    Rel F σ (upd H p (.lst ws)) (en.set i (some (.own ys))) st g ∧ SStep g H g (upd H p (.lst ws)) := by
  -- forget the slot, change, tell it anew
  have hi : i < en.length := (List.getElem?_eq_some_iff.mp e).1
  have keep : ∀ a x, H a = some x → a ≠ p → upd H p (.lst ws) a = some x := fun a x e n => by rw [upd_ne n]; exact e
  have there : ∀ a, H a ≠ none → upd H p (.lst ws) a ≠ none := fun a e => by
    by_cases q : a = p
    · rw [q, upd_same]; simp
    · rw [upd_ne q]; exact e
  have ss : SStep g H g (upd H p (.lst ws)) := ⟨rfl, ⟨[], by simp, fun _ z => absurd z (by simp)⟩, fun a x e n _ => keep a x e fun z => n (z ▸ w), there, fun _ h => .inl h⟩
  refine ⟨⟨by simp [r.len], fun j s ej => ?_, fun j k as bs e1 e2 ne => ?_, ?_, ?_, r.ok, r.ok.lk _ _ _ _ r.lk ss⟩, ss⟩
  · by_cases q : i = j
    · subst q
      rw [List.getElem?_set_self hi] at ej
      cases ej
      exact ⟨p, ws, es, upd_same, l.step ss, w, na, n0⟩
    · rw [List.getElem?_set_ne q] at ej
      have q2 := r.sl j s ej
      cases s with
      | fro d =>
        obtain ⟨v, e1, e2⟩ := q2
        exact ⟨v, e1, e2.step ss⟩
      | own zs =>
        obtain ⟨p', us, e1, e2, e3, e4, e5, e6⟩ := q2
        refine ⟨p', us, e1, keep p' _ e2 fun z => ?_, e3.step ss, e4, e5, e6⟩
        exact r.dj i j xs zs e ej q (by rw [es, e1, z])
      | exn c f =>
        obtain ⟨v, e1, e2⟩ := q2
        exact ⟨v, e1, r.ok.sx _ _ _ _ _ _ _ e2 ss⟩
      | thk f =>
        obtain ⟨v, e1, e2⟩ := q2
        exact ⟨v, e1, r.ok.th _ _ _ _ _ _ e2 ss⟩
  · have back : ∀ (m : Nat) zs, (en.set i (some (.own ys)))[m]? = some (some (.own zs)) → ∃ zs', en[m]? = some (some (.own zs')) := fun m zs em => by
      by_cases q : i = m
      · subst q; exact ⟨xs, e⟩
      · rw [List.getElem?_set_ne q] at em; exact ⟨zs, em⟩
    obtain ⟨as', e1'⟩ := back j as e1
    obtain ⟨bs', e2'⟩ := back k bs e2
    exact r.dj j k as' bs' e1' e2' ne
  · have t := r.sto
    exact ⟨t.len, t.nd, t.aw, fun a h => there a (t.tr a h), fun a h xs z => (by
      by_cases q : a = p
      · rw [q, upd_same] at z; cases z
      · rw [upd_ne q] at z; exact t.nt a h xs z), fun n o' a h1 h2 => (t.ob n o' a h1 h2).step ss fun x e => keep a x e fun z => na (z ▸ List.mem_of_getElem? h2)⟩
  · have ex := r.ext
    exact ⟨ex.K, ex.A, fun a x e n nt => keep a x (ex.keep a x e n nt) fun z => (by rw [z, n0] at e; cases e), fun a e => there a (ex.there a e), ex.W1, ex.W2⟩
/-- a new own list goes to a slot -/
theorem Rel.putOwn (r : Rel F σ H en st g) {i : Nat} {xs : List D} {p : Addr} {vs : List V} (hp : H p = some (.lst vs)) (l : RepL g H xs vs) (w : g.W p) (na : p ∉ g.A) (n0 : F.H0 p = none)
    (no : ∀ (j : Nat) ys, en[j]? = some (some (.own ys)) → σ[j]? ≠ some (some (.ref p))) : Rel F (σ.set i (some (.ref p))) H (en.set i (some (.own xs))) st g := by
  have r1 := r.drop i
  have hl := r.len
  refine ⟨by simp [hl], fun j s ej => ?_, fun j k as bs e1 e2 ne => ?_, r.sto, r.ext, r.ok, r.lk⟩
  · by_cases q : i = j
    · subst q
      have hi : i < en.length := by
        by_cases hi : i < en.length
        · exact hi
        · rw [List.getElem?_eq_none (by simpa using hi)] at ej; cases ej
      rw [List.getElem?_set_self hi] at ej
      cases ej
      exact ⟨p, vs, by rw [List.getElem?_set_self (by rw [hl]; exact hi)], hp, l, w, na, n0⟩
    · rw [List.getElem?_set_ne q] at ej
      rw [List.getElem?_set_ne q]
      exact r.sl j s ej
  · have key : ∀ (m n : Nat) as bs, i = m → m ≠ n → (en.set i (some (.own xs)))[m]? = some (some (.own as)) → (en.set i (some (.own xs)))[n]? = some (some (.own bs)) → (σ.set i (some (V.ref p)))[m]? ≠ (σ.set i (some (V.ref p)))[n]? := fun m n as bs q ne e1 e2 => by
      subst q
      have hi : i < en.length := by
        by_cases hi : i < en.length
        · exact hi
        · rw [List.getElem?_eq_none (by simpa using hi)] at e1; cases e1
      rw [List.getElem?_set_ne ne] at e2
      rw [List.getElem?_set_self (by rw [hl]; exact hi), List.getElem?_set_ne ne]
      exact fun z => no n bs e2 z.symm
    by_cases q1 : i = j
    · exact key j k as bs q1 ne e1 e2
    · by_cases q2 : i = k
      · exact fun z => key k j bs as q2 (Ne.symm ne) e2 e1 z.symm
      · rw [List.getElem?_set_ne q1] at e1
        rw [List.getElem?_set_ne q2] at e2
        rw [List.getElem?_set_ne q1, List.getElem?_set_ne q2]
        exact r.dj j k as bs e1 e2 ne
/-- one's own list is let go as data -/
theorem Rel.frz (r : Rel F σ H en st g) {i : Nat} {xs : List D} (e : en[i]? = some (some (.own xs))) : ∃ p, Rel F σ H (en.set i (some (.fro (.lst xs)))) st (g.but p) ∧ SStep g H (g.but p) H := by
  obtain ⟨p, vs, e1, e2, e3, e4, e5, e6⟩ := r.sl i _ e
  have hi : i < en.length := (List.getElem?_eq_some_iff.mp e).1
  have lw : ∀ a, (g.but p).W a → g.W a := fun a h => h.1
  have r1 : Rel F σ H (en.set i none) st g := by
    have z := r.drop i
    refine ⟨by simp [r.len], fun j s ej => ?_, fun j k as bs e1 e2 ne => ?_, r.sto, r.ext, r.ok, r.lk⟩
    · have a1 : i ≠ j := fun q => by
        subst q
        rw [List.getElem?_set_self hi] at ej; cases ej
      rw [List.getElem?_set_ne a1] at ej
      exact r.sl j s ej
    · have a1 : i ≠ j := fun q => by
        subst q
        rw [List.getElem?_set_self hi] at e1; cases e1
      have a2 : i ≠ k := fun q => by
        subst q
        rw [List.getElem?_set_self hi] at e2; cases e2
      rw [List.getElem?_set_ne a1] at e1
      rw [List.getElem?_set_ne a2] at e2
      exact r.dj j k as bs e1 e2 ne
  have no : ∀ (j : Nat) ys, (en.set i none)[j]? = some (some (.own ys)) → σ[j]? ≠ some (some (.ref p)) := fun j ys ej => by
    have a1 : i ≠ j := fun q => by
      subst q
      rw [List.getElem?_set_self hi] at ej; cases ej
    rw [List.getElem?_set_ne a1] at ej
    intro z
    exact r.dj i j xs ys e ej a1 (by rw [e1, z])
  have r2 := r1.but no e6 e5
  refine ⟨p, ?_, ⟨rfl, ⟨[], by simp, fun _ z => absurd z (by simp)⟩, fun _ _ h _ _ => h, fun _ h => h, fun a h => .inl h.1⟩⟩
  have rep : Rep (g.but p) H (.lst xs) (.ref p) := .lst e2 (fun z => z.2 rfl) (e3.less lw)
  have r3 := r2.put (i := i) rep
  have hs : σ.set i (some (.ref p)) = σ := by
    apply List.ext_getElem?
    intro j
    by_cases q : i = j
    · subst q
      rw [List.getElem?_set_self (by rw [r.len]; exact hi), e1]
    · rw [List.getElem?_set_ne q]
  rw [hs, List.set_set] at r3
  exact r3
end
section
variable {X : Cx} {F : Fc} {a b : Expr} {xa xb : Ex} {pos p : Pos} {tg : Expr} {x : Str} {ma mb : Bk} {la : Lx} {ta : Tx} {body : List Stmt} {i : Nat}
/-! ### loops -/
theorem drop_cons {α : Type} {l : List α} {i : Nat} (h : i < l.length) : ∃ d, l[i]? = some d ∧ l.drop i = d :: l.drop (i + 1) := ⟨l[i], by simp [h], by rw [List.drop_eq_getElem_cons h]⟩
theorem s_for {t : Tg} (hp : PassesOwn (model X.prog X.w) X.A X.env X.xe) (hc : X.calm = true) (hi : PI X tg a (SI F la)) (hg : PG X tg (SG F t)) (hb : PSs X body (SS F ma)) (hs : ∀ x, foldedSetIterable a X.env x = pure x) : PS X (.For tg a body [] pos) (SS F (sFor la t ma)) :=
  wkS (ps_for hp hc hi hg hb hs) fun D σ H h => by
    obtain ⟨en, st, g, rel, go⟩ := h
    refine ⟨en, st, g, rel, GoS.ofRes rel go fun ds s1 J H1 g1 e rel1 st1 wk go1 => ?_⟩
    refine ⟨fun i m σ' H' => m = ds.length - i ∧ i ≤ ds.length ∧ ∃ en' st' g', Rel F σ' H' en' st' g' ∧ SStep g1 H1 g' H' ∧ GoS F D g' H' (forL t ma (ds.drop i) en' st'), ⟨ds.length, by simp, by simp, en, s1, g1, rel1, .refl, by simpa using go1⟩, ?_⟩
    rintro i m σ' H' ⟨rfl, hi', en', st', g', rel', ss', go'⟩
    obtain ⟨w1, w2⟩ := wk g' H' ss' rel'.sto.tr
    by_cases hlt : i < ds.length
    · obtain ⟨d, ed, edr⟩ := drop_cons hlt
      obtain ⟨w3, w4⟩ := w1 i d ed
      rw [edr] at go'
      refine .inr ⟨w3, fun σ2 H2 => ∃ en2 st2 g2, Rel F σ2 H2 en2 st2 g2 ∧ SStep g1 H1 g2 H2 ∧ GoS F D g2 H2 (forL t ma (ds.drop (i + 1)) en2 st2), fun σ2 H2 h2 => ⟨ds.length - (i + 1), by omega, rfl, hlt, h2⟩, fun x H2 y => ?_⟩
      obtain ⟨ex, rp⟩ := w4 x H2 y
      have rel2 := rel'.same ex
      cases q : t.put d en' with
      | none =>
        simp only [forL, q] at go'
        exact go'.elim
      | some en1 =>
        refine ⟨en', st', g', d, en1, rel2, rp, q, fun σ3 rel3 _ => ⟨en1, st', g', rel3, ?_⟩⟩
        simp only [forL, q] at go'
        have s2 : SStep g' H' g' H2 := .same ex
        cases q2 : ma en1 st' with
        | next en2 st2 =>
          rw [q2] at go'
          exact fun σ4 H4 g4 r4 s4 => ⟨en2, st2, g4, r4, (ss'.trans s2).trans s4, GoS.from (o := forL t ma _ en2 st2) go' (s2.trans s4)⟩
        | cont en2 st2 =>
          rw [q2] at go'
          exact fun σ4 H4 g4 r4 s4 => ⟨en2, st2, g4, r4, (ss'.trans s2).trans s4, GoS.from (o := forL t ma _ en2 st2) go' (s2.trans s4)⟩
        | brk en2 st2 =>
          rw [q2] at go'
          exact fun σ4 H4 g4 r4 s4 => go' σ4 H4 g4 r4 (s2.trans s4)
        | ret d2 st2 =>
          rw [q2] at go'
          exact fun v σ4 H4 en4 g4 r4 s4 => go' v σ4 H4 en4 g4 r4 (s2.trans s4)
        | exc c f en2 st2 => rw [q2] at go'; exact go'
        | stuck => rw [q2] at go'; exact go'
    · have e2 : i = ds.length := by omega
      subst e2
      rw [List.drop_length] at go'
      exact .inl ⟨w2 _ (Nat.le_refl _), go' σ' H' g' rel' .refl⟩
theorem s_while {n : Nat} (hp : PassesOwn (model X.prog X.w) X.A X.env X.xe) (hc : PT X a (ST F ta)) (hb : PSs X body (SS F ma)) : PS X (.While a body [] pos) (SS F (sWhile n ta ma)) :=
  wkS (ps_while hp hc hb) fun D σ H h => by
    obtain ⟨en, st, g, rel, go⟩ := h
    refine ⟨fun m σ' H' => ∃ en' st' g', Rel F σ' H' en' st' g' ∧ GoS F D g' H' (whileN ta ma m en' st'), ⟨n, en, st, g, rel, go⟩, ?_⟩
    rintro m σ' H' ⟨en', st', g', rel', go'⟩
    cases m with
    | zero => exact go'.elim
    | succ m =>
      refine ⟨en', st', g', rel', GoS.ofRes rel' go' fun x s1 y H1 g1 e rel1 st1 r go1 => ?_⟩
      cases r
      cases x with
      | false => exact iteF (go1 σ' H1 g1 rel1 .refl)
      | true =>
        refine iteT ⟨fun σ2 H2 => ∃ en2 st2 g2, Rel F σ2 H2 en2 st2 g2 ∧ GoS F D g2 H2 (whileN ta ma m en2 st2), fun σ2 H2 h2 => ⟨m, Nat.lt_succ_self m, h2⟩, en', s1, g1, rel1, ?_⟩
        simp only [if_true] at go1
        cases q2 : ma en' s1 with
        | next en2 st2 =>
          rw [q2] at go1
          exact fun σ4 H4 g4 r4 s4 => ⟨en2, st2, g4, r4, GoS.from (o := whileN ta ma m en2 st2) go1 s4⟩
        | cont en2 st2 =>
          rw [q2] at go1
          exact fun σ4 H4 g4 r4 s4 => ⟨en2, st2, g4, r4, GoS.from (o := whileN ta ma m en2 st2) go1 s4⟩
        | brk en2 st2 => rw [q2] at go1; exact go1
        | ret d2 st2 => rw [q2] at go1; exact go1
        | exc c f en2 st2 => rw [q2] at go1; exact go1
        | stuck => rw [q2] at go1; exact go1
/-! ### names stored -/
theorem s_own {st₀ : Stmt} (h : PS X st₀ (tAsg (SN F la) (gName i))) : PS X st₀ (SS F (sOwn i la)) := wkS h fun D σ H h => by
  obtain ⟨en, st, g, rel, go⟩ := h
  refine ⟨en, st, g, rel, GoS.ofRes rel go fun ds s1 v H1 g1 e rel1 st1 r go1 => ?_⟩
  obtain ⟨p, vs, rfl, np, h1, l, w, na⟩ := r
  split at go1
  · exact go1 _ H1 g1 (rel1.putOwn h1 l w na (rel.ext.back np) fun j ys ej => rel.notOwn np j ys ej) .refl
  · exact go1.elim
/-- a name's list becomes data -/
theorem s_frz {st₀ : Stmt} (h : PS X st₀ (SS F ma)) : PS X st₀ (SS F (sSeq (sFrz i) ma)) := wkS h fun D σ H h => by
  obtain ⟨en, st, g, rel, go⟩ := h
  unfold sSeq sFrz at go
  split at go
  · rename_i xs e
    obtain ⟨p, r1, s1⟩ := rel.frz e
    exact ⟨_, st, _, r1, GoS.from (o := ma _ st) go s1⟩
  · exact ⟨en, st, g, rel, go⟩
/-- the arguments and the object of a method of a built-in type -/
theorem tyL {K : PySem.W.Frag} {p : Addr} {xs : List V} {H : Hp} (h : H p = some (.lst xs)) : tyV K "list" (.ref p) H := .inl ⟨rfl, _, sq K h⟩
/-- xs.append(e) -/
theorem s_app {apos npos : Pos} (hN : X.N[i]? = some x) (hv : Vis X.env.scope x) (hd : (x == ("__debug__" : Str)) = false) (hcd : (x == ("__classdict__" : Str)) = false) (hs : isStar a = false) (hl : (apos.endLine == p.line) = true) (ha : PE X a (SE F xa)) :
    PS X (.Expr (.Call (.Attribute (.Name x npos) "append" apos) [a] [] p) pos) (SS F (sApp i xa)) :=
  wkS (ps_expr (pe_bm PySem.F.plainAttrs_list PySem.F.slot_list_append PySem.F.type_list_append mt_append (pe_var hN hv hd hcd) (pa_cons ha pa_nil (star_of hs)) rfl (by rw [star_of hs]; rfl) hl (star_of hs) rfl)) fun D σ H h => by
    obtain ⟨en, st, g, rel, go⟩ := h
    unfold sApp at go
    split at go
    · rename_i xs e
      obtain ⟨q, vs, e1, e2, e3, e4, e5, e6⟩ := rel.sl i _ e
      refine ⟨_, e1, tyL e2, en, st, g, rel, GoS.ofRes rel go fun y s1 v H1 g1 ee rel1 st1 r go1 => ?_⟩
      split at go1
      · rename_i hz
        obtain ⟨q', vs', f1, f2, f3, f4, f5, f6⟩ := rel1.sl i _ e
        rw [e1] at f1
        cases f1
        obtain ⟨r2, s2⟩ := rel1.own e e1 f2 f4 f5 f6 (f3.append (.one r))
        exact ⟨q, vs', v, rfl, rfl, f2, by rw [← f3.length]; exact line_lt hz, go1 σ _ g1 r2 s2⟩
      · exact go1.elim
    · exact go.elim
/-- xs.pop() -/
theorem dropLast_rep {g : Gh} {H : Hp} {ds : List D} {vs : List V} (l : RepL g H ds vs) : RepL g H ds.dropLast vs.dropLast := by
  rw [List.dropLast_eq_take, List.dropLast_eq_take, ← l.length]
  exact l.take _
theorem s_pop {apos npos : Pos} (hN : X.N[i]? = some x) (hv : Vis X.env.scope x) (hd : (x == ("__debug__" : Str)) = false) (hcd : (x == ("__classdict__" : Str)) = false) (hl : (apos.endLine == p.line) = true) :
    PS X (.Expr (.Call (.Attribute (.Name x npos) "pop" apos) [] [] p) pos) (SS F (sPop i)) :=
  wkS (ps_expr (pe_bm0 PySem.F.plainAttrs_list PySem.F.slot_list_pop PySem.F.type_list_pop mt_pop (pe_var hN hv hd hcd) rfl hl)) fun D σ H h => by
    obtain ⟨en, st, g, rel, go⟩ := h
    unfold sPop at go
    split at go
    · rename_i xs e
      obtain ⟨q, vs, e1, e2, e3, e4, e5, e6⟩ := rel.sl i _ e
      split at go
      · exact go.elim
      · rename_i hz
        have hne : vs ≠ [] := fun z => by
          subst z
          cases e3
          exact hz rfl
        have hlt : vs.length - 1 < vs.length := by
          have := List.length_pos_iff.mpr hne
          omega
        obtain ⟨r2, s2⟩ := rel.own e e1 e2 e4 e5 e6 (dropLast_rep e3)
        exact ⟨_, e1, tyL e2, q, vs, vs[vs.length - 1], rfl, rfl, e2, List.getElem?_eq_getElem hlt, go σ _ g r2 s2⟩
    · exact go.elim
/-! ### shared lists -/
theorem sto_set {ct : ClsT} {g : Gh} {H : Hp} {st : Store} {n : Nat} {o : O} {p : Addr} {u : HO} (t : Sto ct g H st) (hp : g.A[n]? = some p) (ob : ObR ct g (upd H p u) p o) : Sto ct g (upd H p u) (st.set n o) := by
  have keep : ∀ a x, H a = some x → a ≠ p → upd H p u a = some x := fun a x e n => by rw [upd_ne n]; exact e
  have there : ∀ a, H a ≠ none → upd H p u a ≠ none := fun a e => by
    by_cases q : a = p
    · rw [q, upd_same]; simp
    · rw [upd_ne q]; exact e
  have wp : g.W p := t.aw p (List.mem_of_getElem? hp)
  have ss : SStep g H g (upd H p u) := ⟨rfl, ⟨[], by simp, fun _ z => absurd z (by simp)⟩, fun a x e n _ => keep a x e fun z => n (z ▸ wp), there, fun _ h => .inl h⟩
  refine ⟨by rw [List.length_set]; exact t.len, t.nd, t.aw, fun a h => there a (t.tr a h), fun a h xs z => (by
    by_cases q : a = p
    · rw [q] at z; exact ob.nt xs z
    · rw [upd_ne q] at z; exact t.nt a h xs z), fun m o' a h1 h2 => ?_⟩
  by_cases q : n = m
  · subst q
    have hn : n < st.length := by rw [← t.len]; exact (List.getElem?_eq_some_iff.mp hp).1
    rw [List.getElem?_set_self hn] at h1
    cases h1
    rw [hp] at h2
    cases h2
    exact ob
  · rw [List.getElem?_set_ne q] at h1
    have ne : a ≠ p := fun z => by
      subst z
      obtain ⟨i1, j1⟩ := List.getElem?_eq_some_iff.mp hp
      obtain ⟨i2, j2⟩ := List.getElem?_eq_some_iff.mp h2
      exact q ((List.getElem_inj t.nd).mp (j1.trans j2.symm))
    exact (t.ob m o' a h1 h2).step ss fun x e => keep a x e ne
theorem step_cell {g : Gh} {H : Hp} {p : Addr} {u : HO} (hp : p ∈ g.A) : Step g H g (upd H p u) :=
  ⟨rfl, ⟨[], by simp, fun _ z => absurd z (by simp)⟩, fun a x e n _ => by rw [upd_ne (show a ≠ p from fun z => n (by rw [z]; exact hp))]; exact e, fun a e => by
    by_cases q : a = p
    · rw [q, upd_same]; simp
    · rw [upd_ne q]; exact e, fun _ h => h, fun _ h => .inl h⟩
/-- o[i] = v -/
theorem s_item {v : Expr} {xv xo xi : Ex} {o k : Expr} {spos : Pos} (hv : PE X v (SE F xv)) (ho : PE X o (SE F xo)) (hi : PE X k (SE F xi)) (hs : swapsWithSole [.Subscript o k spos] v pos.line X.env = pure false) (hw : swappedStores [.Subscript o k spos] v X.env = pure none)
    (ha : ∀ v, assign (.Subscript o k spos) X.env v = (do
      let ov ← holding [v] (eval o X.env)
      let iv ← holding [v, ov] (eval k X.env)
      standAt spos
      holding [v, ov, iv] (setItem ov iv v)
      release [v, ov, iv] [])) : PS X (.Assign [.Subscript o k spos] v pos) (SS F (sSetItem xo xi xv)) :=
  wkS (ps_asg hv (pg_sub ho hi set_list ha) hs hw rfl) fun D σ H h => by
    obtain ⟨en, st, g, rel, go⟩ := h
    refine ⟨en, st, g, rel, GoS.ofRes rel go fun y s1 vv H1 g1 e1 rel1 st1 r1 go1 => ?_⟩
    refine ⟨en, s1, g1, rel1, GoS.ofRes rel1 go1 fun x s2 vx H2 g2 e2 rel2 st2 r2 go2 => ?_⟩
    refine ⟨en, s2, g2, rel2, GoS.ofRes rel2 go2 fun kk s3 vk H3 g3 e3 rel3 st3 r3 go3 => ?_⟩
    have ry := (r1.step (st2.s rel1.sto.aw)).step (st3.s rel2.sto.aw)
    have rx := r2.step (st3.s rel2.sto.aw)
    split at go3
    · rename_i n ki
      split at go3
      · rename_i xs en3
        split at go3
        · rename_i j ej
          cases rx with
          | ref hA =>
            rename_i q
            cases r3
            obtain ⟨vs, q1, q2⟩ := rel3.sto.ob n _ q en3 hA
            refine ⟨q, vs, ki, j, rfl, rfl, q1, by rw [← q2.length]; exact ej, ?_⟩
            have mem : q ∈ g3.A := List.mem_of_getElem? hA
            have s4 : Step g3 H3 g3 (upd H3 q (.lst (vs.set j vv))) := step_cell mem
            have l4 : RepL g3 (upd H3 q (.lst (vs.set j vv))) (xs.set j y) (vs.set j vv) := (q2.set ry j).step (s4.s rel3.sto.aw)
            have t4 : Sto F.ct g3 (upd H3 q (.lst (vs.set j vv))) (s3.set n (.lst (xs.set j y))) := sto_set rel3.sto hA ⟨_, upd_same, l4⟩
            exact go3 σ _ g3 (rel3.step s4 t4) (s4.s rel3.sto.aw)
        · exact go3.elim
      · exact go3.elim
    · exact go3.elim
end
end Il
end
section
set_option Elab.async false
set_option linter.all false
set_option maxRecDepth 100000
set_option maxHeartbeats 2000000
/-! Part C8: comprehensions, calls, defs. -/
namespace Il
open PySem PySem.Spec L2
/-- nothing is let out -/
abbrev Fc.no (F : Fc) : Fc := { F with EW := fun _ _ _ _ => False }
section
variable {F : Fc} {σ : L2.St} {H H' : Hp} {en en' : En} {st : Store} {g g' : Gh}
theorem Rel.no (r : Rel F σ H en st g) : Rel F.no σ H en st g := ⟨r.len, r.sl, r.dj, r.sto, r.ext, ⟨r.ok.kk, r.ok.tr0, r.ok.sx, r.ok.th, r.ok.lk⟩, r.lk⟩
/-- the first part of two, where nothing may be raised -/
theorem Go.bindX {α β γ δ : Type} {F' : Fc} {R : Gh → Hp → α → β → Prop} {S : Gh → Hp → γ → δ → Prop} {Q : δ → Hp → Prop} {P : β → Hp → Prop} {σ' : L2.St} {en1 : En} {g0 : Gh} {H0 : Hp} {r : Res α} {k : α → Store → Res γ} (h : Go F S σ en g0 H0 Q (noExc (r.bind k)))
    (n : ∀ a st b H' g', r = .ok a st → Rel F'.no σ' H' en1 st g' → Step g H g' H' → R g' H' a b → Go F S σ en g0 H0 Q (noExc (k a st)) → P b H') : Go F'.no R σ' en1 g H P r := by
  cases r with
  | ok a st => exact fun b H' g' rel s q => n a st b H' g' rfl rel s q h
  | exc c f st => exact h
  | stuck => exact h
theorem wipe_eq {is : List Nat} {σ σ' : L2.St} (c : Chg is σ σ') : ∀ {vs : List Nat}, (∀ i ∈ is, i ∈ vs) → L2.wipe σ' vs = L2.wipe σ vs := fun {vs} h => by
  apply List.ext_getElem?
  intro i
  by_cases hv : i ∈ vs
  · have key : ∀ (τ : L2.St) (ws : List Nat), i ∈ ws → (L2.wipe τ ws)[i]? = if i < τ.length then some none else none := by
      intro τ ws
      induction ws with
      | nil => intro h; cases h
      | cons w ws ih =>
        intro h
        show ((L2.wipe τ ws).set w none)[i]? = _
        by_cases q : w = i
        · subst q
          by_cases hl : w < τ.length
          · rw [List.getElem?_set_self (by rw [wipe_length]; exact hl), if_pos hl]
          · rw [List.getElem?_eq_none (by rw [List.length_set, wipe_length]; omega), if_neg hl]
        · rw [List.getElem?_set_ne q]
          exact ih ((List.mem_cons.mp h).resolve_left fun z => q z.symm)
    rw [key σ' vs hv, key σ vs hv, c.1]
  · have key : ∀ (τ : L2.St) (ws : List Nat), i ∉ ws → (L2.wipe τ ws)[i]? = τ[i]? := by
      intro τ ws
      induction ws with
      | nil => intro h; rfl
      | cons w ws ih =>
        intro h
        show ((L2.wipe τ ws).set w none)[i]? = _
        rw [List.getElem?_set_ne (fun z => h (by simp [z]))]
        exact ih fun z => h (List.mem_cons_of_mem _ z)
    rw [key σ' vs hv, key σ vs hv]
    exact c.2 i fun z => hv (h i z)
end
section
variable {X : Cx} {F : Fc} {elt iter tg : Expr} {ifs : List Expr} {scope : Scope} {own : List (Str × Nat)} {pos : Pos} {la : Lx} {t : Tg} {tt : Tx} {xe : Ex}
theorem comp_read {K : PySem.W.Frag} (hsl : ∀ i ∈ t.slots, i ∈ own.map (·.2)) {σ : L2.St} {H : Hp} {Q : VK} (h : SN F (lComp la t (own.map (·.2)) tt xe) σ H Q) :
    tLc (SI F la) (SG F.no t) (ST F.no tt) (SE F.no xe) (own.map (·.2)) σ H Q := by
  obtain ⟨en, st, g, rel, go⟩ := h
  refine ⟨en, st, g, rel, Go.bind go fun ds s1 J H1 g1 e1 rel1 st1 wk go1 => ?_⟩
  intro D hD
  have sD : Step g1 H1 (g1.and D) (upd H1 D (.lst [])) := .and hD
  have notD : ∀ (i : Nat) xs, en[i]? = some (some (.own xs)) → σ[i]? ≠ some (some (.ref D)) := fun i xs e => rel1.notOwn hD i xs e
  have nDA : D ∉ g1.A := fun z => rel1.newW hD (rel1.sto.aw D z)
  have n0 : F.H0 D = none := rel1.ext.back hD
  refine ⟨fun i m Hc => m = ds.length - i ∧ i ≤ ds.length ∧ ∃ gc sc acc vacc, Rel F σ Hc en sc gc ∧ Step g1 H1 gc Hc ∧ Hc D = some (.lst vacc) ∧ RepL gc Hc acc vacc ∧ gc.W D ∧ D ∉ gc.A ∧
    Go F (RepN H) σ en g1 H1 Q (noExc (compL t tt xe (wipe en (own.map (·.2))) (ds.drop i) acc sc)), ⟨ds.length, by simp, by simp, g1.and D, s1, [], [], rel1.and hD, sD, upd_same, .nil, .inr rfl, nDA, go1⟩, ?_⟩
  rintro i m Hc ⟨rfl, hi, gc, sc, acc, vacc, relc, stc, hDc, lc, wD, nA, goc⟩
  obtain ⟨w1, w2⟩ := wk gc Hc (stc.s rel1.sto.aw) relc.sto.tr
  by_cases hlt : i < ds.length
  · obtain ⟨d, ed, edr⟩ := drop_cons hlt
    obtain ⟨w3, w4⟩ := w1 i d ed
    rw [edr] at goc
    refine .inr ⟨w3, fun Hn => ∃ gn sn acc' vacc', Rel F σ Hn en sn gn ∧ Step g1 H1 gn Hn ∧ Hn D = some (.lst vacc') ∧ RepL gn Hn acc' vacc' ∧ gn.W D ∧ D ∉ gn.A ∧
      Go F (RepN H) σ en g1 H1 Q (noExc (compL t tt xe (wipe en (own.map (·.2))) (ds.drop (i + 1)) acc' sn)), fun Hn hn => ⟨ds.length - (i + 1), by omega, rfl, hlt, hn⟩, fun x H2 y => ?_⟩
    obtain ⟨ex, rp⟩ := w4 x H2 y
    have rel2 := relc.same ex
    have st2 : Step gc Hc gc H2 := .same ex
    cases q : t.put d (wipe en (own.map (·.2))) with
    | none =>
      simp only [compL, q] at goc
      exact goc.elim
    | some en1 =>
      simp only [compL, q] at goc
      refine ⟨wipe en (own.map (·.2)), sc, gc, d, en1, (rel2.wipe _).no, rp, q, fun σ3 rel3 ch => ⟨?_, en1, sc, gc, rel3, ?_⟩⟩
      · rw [wipe_eq ch hsl]
        exact wipe_eq (is := own.map (·.2)) ⟨wipe_length _ _, fun j hj => by
          have key : ∀ (ws : List Nat), j ∉ ws → (L2.wipe σ ws)[j]? = σ[j]? := by
            intro ws
            induction ws with
            | nil => intro h; rfl
            | cons w ws ih =>
              intro h
              show ((L2.wipe σ ws).set w none)[j]? = _
              rw [List.getElem?_set_ne (fun z => h (by simp [z]))]
              exact ih fun z => h (List.mem_cons_of_mem _ z)
          exact key _ hj⟩ fun _ z => z
      · refine Go.bindX (F' := F) goc fun b s2 bb H3 g3 e3 rel4 st4 rb go4 => ?_
        cases rb
        -- back at the def's own slots
        have back : ∀ {s5 H5 g5} {τ : L2.St} {en5 : En}, Rel F.no τ H5 en5 s5 g5 → Step gc H2 g5 H5 → Rel F σ H5 en s5 g5 := fun r s => rel2.step s r.sto
        have stay : ∀ {H5 g5}, Step gc H2 g5 H5 → H5 D = some (.lst vacc) ∧ D ∉ g5.A ∧ g5.W D := fun s => by
          have e2 := ex D _ hDc
          exact ⟨s.keep D _ e2 nA nofun, s.notMem nA (by rw [e2]; simp), s.W1 D wD⟩
        cases b with
        | false =>
          simp only [Bool.false_eq_true, if_false] at go4
          refine iteF ⟨g3, s2, acc, vacc, back rel4 st4, (stc.trans st2).trans st4, (stay st4).1, (lc.step (st2.s relc.sto.aw)).step (st4.s rel2.sto.aw), (stay st4).2.2, (stay st4).2.1, go4⟩
        | true =>
          simp only [if_true] at go4
          refine iteT ⟨en1, s2, g3, rel4, Go.bindX (F' := F) go4 fun y2 s5 yv H5 g5 e5 rel5 st5 ry go5 => ?_⟩
          have s25 : Step gc H2 g5 H5 := st4.trans st5
          obtain ⟨q1, q2, q3⟩ := stay s25
          have l5 := (lc.step (st2.s relc.sto.aw)).step (s25.s rel2.sto.aw)
          split at go5
          · rename_i hz
            refine ⟨vacc, q1, by rw [← l5.length]; exact line_lt hz, ?_⟩
            have r5 := back rel5 s25
            obtain ⟨r6, s6⟩ := r5.mut (o := .lst (vacc ++ [yv])) q1 q3 q2 n0 notD
            have stn : Step g1 H1 g5 H5 := (stc.trans st2).trans s25
            refine ⟨g5, s5, acc ++ [y2], vacc ++ [yv], r6, ⟨stn.K, stn.A, fun a o e n nt => ?_, fun a e => s6.there a (stn.there a e), stn.W1, stn.W2⟩, upd_same, (l5.append (.one ry)).step s6, q3, q2, go5⟩
            rw [upd_ne (fun z => by rw [z, hD] at e; cases e)]
            exact stn.keep a o e n nt
          · exact go5.elim
  · have e2 : i = ds.length := by omega
    subst e2
    rw [List.drop_length] at goc
    exact .inl ⟨w2 _ (Nat.le_refl _), goc (.ref D) Hc gc relc stc ⟨D, vacc, rfl, st1.back hD, hDc, lc, wD, nA⟩⟩
theorem q_comp (hc : X.calm = true) (hN : X.N.Nodup) (hi : PI X tg iter (SI F la)) (ok : BlkOk X.N X.env.scope scope own) (hsl : ∀ i ∈ t.slots, i ∈ own.map (·.2))
    (hg : ∀ (s : Shared) (H : Hp) (C : Addr) (cl : List (Str × Addr)) (fp : List Addr), PG (X.blk s H scope (compEnvC scope cl C X.env) fp) tg (SG F.no t)) (ht : ∀ (s : Shared) (H : Hp) (C : Addr) (cl : List (Str × Addr)) (fp : List Addr), PTs (X.blk s H scope (compEnvC scope cl C X.env) fp) ifs (ST F.no tt))
    (he : ∀ (s : Shared) (H : Hp) (C : Addr) (cl : List (Str × Addr)) (fp : List Addr), PE (X.blk s H scope (compEnvC scope cl C X.env) fp) elt (SE F.no xe)) (hs : ∀ x, foldedSetIterable iter X.env x = pure x) :
    PE X (.ListComp elt [⟨tg, iter, ifs, 0⟩] scope pos) (SN F (lComp la t (own.map (·.2)) tt xe)) := wkE (pe_lc hc hN hi ok hg ht he hs) fun _ _ _ h => comp_read (K := X.K) hsl h
/-- name = [..] on one line, the name a local -/
theorem q_setComp {i : Nat} {y : Str} {py spos : Pos} (hc : X.calm = true) (hN : X.N.Nodup) (hy : X.N[i]? = some y) (hyl : X.env.scope.names.lookup y = some .local) (hsw : swapsWith (.ListComp elt [⟨tg, iter, ifs, 0⟩] scope pos) (some (.Name y py)) spos.line X.env = pure true)
    (hi : PI X tg iter (SI F la)) (ok : BlkOk X.N X.env.scope scope own) (hsl : ∀ i ∈ t.slots, i ∈ own.map (·.2))
    (hg : ∀ (s : Shared) (H : Hp) (C : Addr) (cl : List (Str × Addr)) (fp : List Addr), PG (X.blk s H scope (compEnvC scope cl C X.env) fp) tg (SG F.no t)) (ht : ∀ (s : Shared) (H : Hp) (C : Addr) (cl : List (Str × Addr)) (fp : List Addr), PTs (X.blk s H scope (compEnvC scope cl C X.env) fp) ifs (ST F.no tt))
    (he : ∀ (s : Shared) (H : Hp) (C : Addr) (cl : List (Str × Addr)) (fp : List Addr), PE (X.blk s H scope (compEnvC scope cl C X.env) fp) elt (SE F.no xe)) (hs : ∀ x, foldedSetIterable iter X.env x = pure x) :
    PS X (.Assign [.Name y py] (.ListComp elt [⟨tg, iter, ifs, 0⟩] scope pos) spos) (tAsg (SN F (lComp la t (own.map (·.2)) tt xe)) (gName i)) := wkS (ps_setLc hc hN hy hyl hsw hi ok hg ht he hs) fun D σ H h => comp_read (K := X.K) hsl h
theorem q_tsNil : PTs X [] (ST F tYes) := ⟨fun pins s σ H Q I h => by
  obtain ⟨en, st, g, rel, go⟩ := h
  exact pts_nil.run pins s σ H Q I (go.here rel rfl)⟩
end
/-! ### calls -/
/-- room, and no repr under way -/
structure RG (k : Nat) (A : Around) : Prop where
  r : Room k A
  g : A.guards = some []
theorem RG.mono {j k : Nat} {A : Around} (r : RG k A) (h : j ≤ k) : RG j A := ⟨r.r.mono h, r.g⟩
theorem RG.deeper {k : Nat} {A : Around} (r : RG (k + 1) A) (env : Env) : RG k (A.deeper env) := ⟨r.r.deeper env, by
  show (A.deeper env).guards = some []
  first | exact r.g | (simp [Around.deeper]; exact r.g)⟩
theorem RG.make {k : Nat} {A : Around} (r : RG (k + 1) A) (C : Addr) (us : List Value) (kw : List (Str × Value)) : RG k (A.under (.builtin "type.__call__" ⟨.ref C :: us, kw⟩)) := ⟨r.r.make C us kw, by
  have z := r.g
  first | exact z | simp [Around.under, Code.guards, Code.isGuard, guardIds, pushGuards, z]⟩
/-- a def's promise, told where no repr is under way -/
structure FnG (P : Program) (w : World) (K : PySem.W.Frag) (mg : Str → Option Value) (base : Heap) (k : Nat) (f : Addr) (fd : FuncData) (ps : List Str) (sp : Sp) : Prop where
  len : ∀ vs H Q E, sp vs H Q E → vs.length = ps.length
  run : ∀ (A : Around) (outer : List Env) (s : Shared) (H : Hp) (args : Args) (us : List Value) (vs : List V) (Q : VK) (E : XK), RG k A → Env0 P w K mg base A outer s H → BindsTo s fd args (ps.zip us) → Vals vs us → sp vs H Q E →
    codeAny (model P w) A (.call (.ref f) args) (CR (L2.CX P w) outer P w H s Q E) s
section
variable {X : Cx} {k : Nat} {f : Addr} {fd : FuncData} {ps : List Str} {sp : Sp} {x : Str} {p pos : Pos} {e : Expr} {es : List Expr} {t : TA}
theorem FnG.call {pins : List (Addr × Obj)} {σ : L2.St} {H : Hp} {s : Shared} {Q : VK} {us : List Value} {vs : List V} {E : XK} (FO : FnG X.prog X.w X.K X.mg X.base k f fd ps sp) (hr : RG k X.A) (hb : Binds X.K fd ps []) (hx : PassesAt (L2.CX X.prog X.w) X σ E)
    (I : Inv X pins σ H s) (r : Vals vs us) (h : sp vs H Q E) : wpAny (model X.prog X.w) X.A (call (.ref f) us) (EP X pins σ Q) X.xe s := by
  have hl : us.length = ps.length := by
    rw [← r.length]
    exact FO.len _ _ _ _ h
  have b := hb s us I.kIn (by rw [List.append_nil]; exact hl)
  rw [List.append_nil] at b
  refine wpAny_call (codeAny_mono (FO.run X.A X.stack s H ⟨us, []⟩ us vs Q E hr I.env0 b r h) fun r s' hq => ?_)
  match r, hq with
  | .error e, hq => exact hx pins H s e s' I hq
  | .ok (.ret u), hq => exact I.after hq
  | .ok .next, hq => exact hq.elim
  | .ok .brk, hq => exact hq.elim
  | .ok .cont, hq => exact hq.elim
theorem pe_callG {E : L2.St → XK} (FO : FnG X.prog X.w X.K X.mg X.base k f fd ps sp) (hr : RG k X.A) (hg : Gl X x) (hm : X.mg x = some (.ref f)) (hk : PySem.W.keepIn X.K (.ref f) = true) (hb : Binds X.K fd ps []) (hx : ∀ σ, PassesAt (L2.CX X.prog X.w) X σ (E σ))
    (ha : PA X (e :: es) t) (hdb : (x == ("__debug__" : Str)) = false) (he : starEach (e :: es) X.env = (false, eval e X.env) :: starEach es X.env) (hpl : (backTo pos (starEach es X.env)).any (·.1) = false) :
    PE X (.Call (.Name x p) (e :: es) [] pos) (tCallS sp E t) := ⟨fun pins s σ H Q I h => by
  refine wpAny_Call_Name_kw (ld_glob I hg hm ?_ hdb)
  refine PySem.W.callWith_K (h₀ := X.base) I.ok.mod.kin hk (thn (ha.run pos pins s σ H _ I h) fun us s1 hh => ?_) he hpl
  obtain ⟨vs, H1, I1, r, q⟩ := hh
  exact ⟨I1.kIn, FO.call hr hb (hx σ) I1 r q⟩⟩
end
/-- a def's promise: what cf gives of its arguments -/
def spM (K : PySem.W.Frag) (ct : ClsT) (xt : ExT) (cf : List D → Store → Res D) (n : Nat) : Sp := fun vs H Q E => ∃ g ds st, g.K = K ∧ RepL g H ds vs ∧ Sto ct g H st ∧ vs.length = n ∧ match cf ds st with
  | .ok d st' => ∀ v H' g', Step g H g' H' → Sto ct g' H' st' → Rep g' H' d v → Q v H'
  | .exc c f st' => ∀ cls dd H' g', Step g H g' H' → Sto ct g' H' st' → ExR xt g' H' c f cls dd → E cls dd H'
  | .stuck => False
section
variable {X : Cx} {F : Fc} {k : Nat} {f : Addr} {fd : FuncData} {ps : List Str} {x : Str} {p pos : Pos} {e : Expr} {es : List Expr} {la : Lx} {C : Calls} {nf : Nat}
theorem sp_read (hK : F.K = X.K) {σ : L2.St} {H : Hp} {Q : VK} {en : En} {st : Store} {g : Gh} {ds : List D} {vs : List V} {n : Nat} {cf : List D → Store → Res D} (rel : Rel F σ H en st g) (r : RepL g H ds vs) (hl : ds.length = n) (go : Go F Rep σ en g H Q (cf ds st)) :
    spM X.K F.ct F.xt cf n vs H Q fun cls dd H' => wF F cls dd σ H' := by
  refine ⟨g, ds, st, rel.ext.K.trans (rel.ok.kk.trans hK), r, rel.sto, by rw [← r.length]; exact hl, ?_⟩
  cases q : cf ds st with
  | ok d s1 =>
    rw [q] at go
    exact fun v H' g' s t rp => go v H' g' (rel.step s t) s rp
  | exc c f s1 =>
    rw [q] at go
    exact fun cls dd H' g' s t ex => ⟨en, s1, g', c, f, rel.step s t, ex, go⟩
  | stuck => rw [q] at go; exact go
theorem q_call (hK : F.K = X.K) (tk : Takes X (wF F)) (FO : FnG X.prog X.w X.K X.mg X.base k f fd ps (spM X.K F.ct F.xt (C nf) ps.length)) (hr : RG k X.A) (hg : Gl X x) (hm : X.mg x = some (.ref f)) (hk : PySem.W.keepIn X.K (.ref f) = true) (hb : Binds X.K fd ps [])
    (ha : PA X (e :: es) (SA F la)) (hd : (x == ("__debug__" : Str)) = false) (hs : (e :: es).all (fun e => !isStar e) = true) (hll : ∀ en st ds s1, la en st = .ok ds s1 → ds.length = ps.length) : PE X (.Call (.Name x p) (e :: es) [] pos) (SE F (xCall C nf la)) := by
  have hs' := hs
  simp only [List.all_cons, Bool.and_eq_true, Bool.not_eq_true'] at hs'
  refine wkE (pe_callG (E := WE (wF F)) FO hr hg hm hk hb (fun σ => passAt tk σ) ha hd (star_of hs'.1) (plain_of hs'.2)) fun σ H Q h => ?_
  obtain ⟨en, st, g, rel, go⟩ := h
  exact ⟨en, st, g, rel, Go.bind go fun ds s1 vs H1 g1 e1 rel1 st1 r1 go1 => sp_read hK rel1 r1 (hll _ _ _ _ e1) go1⟩
end
/-! ### defs -/
/-- the fixed part of a def's run -/
abbrev fcOf (K : PySem.W.Frag) (ct : ClsT) (xt : ExT) (H : Hp) (g : Gh) (E : XK) (sx : Nat → Option D → V → Gh → Hp → Prop) (th : (Store → Res D) → V → Gh → Hp → Prop) : Fc where
  K := K
  ct := ct
  xt := xt
  H0 := H
  g0 := g
  EW := fun c f _ st' => ∀ cls dd H' g', Step g H g' H' → Sto ct g' H' st' → ExR xt g' H' c f cls dd → E cls dd H'
  sx := sx
  th := th
  lk := fun _ _ => True
theorem start_rel {F : Fc} {H : Hp} {g : Gh} {ds : List D} {vs : List V} {st : Store} {n : Nat} {N : List Str} (r : RepL g H ds vs) (t : Sto F.ct g H st) (hn : N.length = n) (hl : vs.length ≤ n) (h0 : F.H0 = H) (hg : F.g0 = g) (ok : F.Ok) (lk : F.lk g H) : Rel F (L2.start N vs) H (startE n ds) st g := by
  have e1 := r.length
  refine ⟨by simp [L2.start, startE, e1, hn], fun i s e => ?_, fun i j xs ys ei ej ne => ?_, t, by rw [h0, hg]; exact .refl, ok, lk⟩
  · unfold startE at e
    by_cases hi : i < ds.length
    · rw [List.getElem?_append_left (by simpa using hi), List.getElem?_map] at e
      cases q : ds[i]? with
      | none => rw [q] at e; cases e
      | some d =>
        rw [q] at e
        cases e
        obtain ⟨v, h1, h2⟩ := r.get q
        refine ⟨v, ?_, h2⟩
        unfold L2.start
        rw [List.getElem?_append_left (by simp; omega), List.getElem?_map, h1]; rfl
    · rw [List.getElem?_append_right (by simpa using hi), List.getElem?_replicate] at e
      split at e <;> cases e
  · unfold startE at ei
    by_cases hi : i < ds.length
    · rw [List.getElem?_append_left (by simpa using hi), List.getElem?_map] at ei
      cases q : ds[i]? with
      | none => rw [q] at ei; cases ei
      | some d => rw [q] at ei; cases ei
    · rw [List.getElem?_append_right (by simpa using hi), List.getElem?_replicate] at ei
      split at ei <;> cases ei
/-- the result is told to the caller -/
theorem Rel.result {F : Fc} {σ : L2.St} {H H' : Hp} {en : En} {st : Store} {g g' : Gh} {d : D} {v : V} (r : Rel F σ H' en st g') (rp : Rep g' H' d v) : ∃ g2, Step F.g0 F.H0 g2 H' ∧ Sto F.ct g2 H' st ∧ Rep g2 H' d v := by
  have lw : ∀ a, (F.g0.W a ∨ a ∈ g'.A) → g'.W a := fun a h => h.elim (r.ext.W1 a) (r.sto.aw a)
  have ex := r.ext
  have t := r.sto
  refine ⟨⟨g'.K, g'.A, fun a => F.g0.W a ∨ a ∈ g'.A⟩, ⟨ex.K, ex.A, ex.keep, ex.there, fun a h => .inl h, fun a h => ?_⟩, ⟨t.len, t.nd, fun a h => .inr h, fun a h => t.tr a (lw a h), fun a h => t.nt a (lw a h), fun n o a h1 h2 => (t.ob n o a h1 h2).less lw⟩, rp.less lw⟩
  exact ex.W2 a (lw a h)
section
variable {P : Program} {w : World} {K : PySem.W.Frag} {mg : Str → Option Value} {base : Heap} {ct : ClsT} {xt : ExT}
/-- errors of the body leave the def -/
theorem takes_fn {N : List Str} {qual : Str} {sc : Scope} {f : Addr} {cdv : Value} {A : Around} {outer : List Env} {s : Shared} {H : Hp} {E : XK} {g : Gh} {sx th} : Takes (cxOf (L2.CX P w) P w K mg base N qual sc f cdv A outer s H E) (wF (fcOf K ct xt H g E sx th)) := by
  refine Takes.imp (W := fun cls d _ H => E cls d H) (takes_of rfl rfl rfl rfl) fun cls dd σ H' h => ?_
  obtain ⟨en, st, g', c, f', rel, ex, hE⟩ := h
  exact hE cls dd H' g' rel.ext rel.sto ex
theorem passes_fn {N : List Str} {qual : Str} {sc : Scope} {f : Addr} {cdv : Value} {A : Around} {outer : List Env} {s : Shared} {H : Hp} {E : XK} : PassesOwn (model P w) (cxOf (L2.CX P w) P w K mg base N qual sc f cdv A outer s H E).A (cxOf (L2.CX P w) P w K mg base N qual sc f cdv A outer s H E).env (cxOf (L2.CX P w) P w K mg base N qual sc f cdv A outer s H E).xe := passes_of rfl
end
end Il
end
section
set_option Elab.async false
set_option linter.all false
set_option maxRecDepth 100000
set_option maxHeartbeats 2000000
/-! Lambdas without parameters: word(lambda: e), the word a def that calls what it got. -/
namespace Il
open PySem PySem.Spec L2 LamX
/-! ### the code table changes -/
section
variable {F : Fc} {σ : L2.St} {H : Hp} {en : En} {st : Store} {g : Gh} {n j : Nat} {P c' : Addr} {q : Str} {ps more : Array Value}
theorem set_self {α : Type} {l : List α} {n : Nat} {o : α} (h : l[n]? = some o) : l.set n o = l := by
  apply List.ext_getElem?
  intro i
  by_cases z : n = i
  · subst z
    have := (List.getElem?_eq_some_iff.mp h).1
    rw [List.getElem?_set_self this, h]
  · rw [List.getElem?_set_ne z]
/-- a new code object is noted -/
theorem Rel.noted (r : Rel F σ H en st g) (hA : g.A[n]? = some P) (hs : st[n]? = some (.tab j q)) (hP : H P = some (.tbl ps)) (nc : H c' = none) (ht : TriplesOk (ps ++ more).toList)
    (hm : ∀ pos cv, codeAmong pos (ps ++ more).toList = some cv → codeAmong pos ps.toList = some cv ∨ cv = .ref c') :
    Rel F σ (upd (upd H P (.tbl (ps ++ more))) c' (CodeO c' q)) en st g ∧ Step g H g (upd (upd H P (.tbl (ps ++ more))) c' (CodeO c' q)) := by
  have nPc : P ≠ c' := ne_of_none hP nc
  have ew : upd (upd H P (.tbl (ps ++ more))) c' (CodeO c' q) = upd (upd H c' (CodeO c' q)) P (.tbl (ps ++ more)) := by
    funext b
    by_cases h1 : b = c'
    · subst h1; rw [upd_same, upd_ne (Ne.symm nPc), upd_same]
    · by_cases h2 : b = P
      · subst h2; rw [upd_ne h1, upd_same, upd_same]
      · rw [upd_ne h1, upd_ne h2, upd_ne h2, upd_ne h1]
  rw [ew]
  have r1 := r.same (Ext.new (p := c') (o := CodeO c' q) nc)
  have s1 : Step g H g (upd H c' (CodeO c' q)) := .same (Ext.new nc)
  have s2 : Step g (upd H c' (CodeO c' q)) g (upd (upd H c' (CodeO c' q)) P (.tbl (ps ++ more))) := step_cell (List.mem_of_getElem? hA)
  have nW : ¬ g.W c' := r.newW nc
  obtain ⟨aj, ps0, q1, q2, q3⟩ := r.sto.ob n _ P hs hA
  rw [hP] at q1
  cases q1
  have t2 : Sto F.ct g (upd (upd H c' (CodeO c' q)) P (.tbl (ps ++ more))) st := by
    have z := sto_set (o := .tab j q) (u := .tbl (ps ++ more)) r1.sto hA ⟨aj, ps ++ more, upd_same, ht, fun pos cv hc => ?_⟩
    · rw [set_self hs] at z
      exact z
    · rcases hm pos cv hc with hc | hc
      · obtain ⟨c, e1, e2, e3⟩ := q3 pos cv hc
        refine ⟨c, e1, ?_, e3⟩
        rw [upd_ne (fun z => by rw [z, hP] at e2; exact absurd (Option.some.inj e2.symm) (codeO_ne _)), upd_ne (ne_of_none e2 nc)]
        exact e2
      · exact ⟨c', hc, by rw [upd_ne (Ne.symm nPc), upd_same], nW⟩
  exact ⟨r1.step s2 t2, s1.trans s2⟩
end
/-! ### the making -/
section
variable {X : Cx} {F : Fc} {pins : List (Addr × Obj)} {σ : L2.St} {H : Hp} {s : Shared} {en : En} {st : Store} {g : Gh}
theorem lam_new {n j : Nat} {c P : Addr} {params : Arguments} {body : Expr} {scope : Scope} {pos : Pos} {E : Value → Shared → Prop} {Q : Value → Shared → Prop} (I : Inv X pins σ H s) (rel : Rel F σ H en st g) (TB : TabB X.base X.mg c P) (hcode : X.env.code = .ref c)
    (hP : F.ct j = P) (hs : st[n]? = some (.tab j (X.env.qual ++ "<lambda>"))) (hdef : defaultsOf params X.env = ([], [])) (hfree : ∀ y ∈ scope.names, y.2 = .free → ∃ c, X.env.cells.lookup y.1 = some c)
    (h : ∀ (f c' : Addr) (pm ctv : Value) (H1 : Hp) (s' : Shared), Inv X pins σ H1 s' → Rel F σ H1 en st g → Step g H g H1 → H1 c' = some (CodeO c' (X.env.qual ++ "<lambda>")) → ¬ g.W c' →
      s'.heap.get? f = some (PySem.W.kla_obj "<lambda>" (X.env.qual ++ "<lambda>") params body scope (cloFrom X.env.cells scope.names []) pm c' ctv) → H1 f = none → f ∉ frs X.stack → Q (.ref f) s') :
    wpAny (model X.prog X.w) X.A (eval (.Lambda params body scope pos) X.env) Q E s := by
  have hn : n < g.A.length := by
    rw [rel.sto.len]
    exact (List.getElem?_eq_some_iff.mp hs).1
  obtain ⟨aj, ps, hT, ht, ha⟩ := rel.sto.ob n _ _ hs (List.getElem?_eq_getElem hn)
  have hA : g.A[n]? = some P := by rw [List.getElem?_eq_getElem hn, aj, hP]
  rw [aj, hP] at hT
  have onP : s.heap.get? P = some { cls := .none, data := .fields ps } := I.hok P _ hT
  have far : ∀ f, s.heap.objs.size ≤ f → f ∉ frs X.stack := fun f hf z => by
    rcases List.mem_cons.mp (I.stkSub _ z) with e | e
    · have hl := I.lt
      rw [← e] at hl
      exact Nat.lt_irrefl _ (Nat.lt_of_lt_of_le hl hf)
    · exact I.nofs hf e
  have bltP := TB.bm.keeps I.bk
  refine PySem.W.kla_eval hdef ?_
  cases hc : codeAmong pos ps.toList with
  | some cv =>
    obtain ⟨c', e, hco, nW⟩ := ha pos cv hc
    subst e
    refine PySem.W.kla_makeFunctionHit (mg := X.mg) (c := c) (P := P) (ps := ps) (closure_ok hfree) I.ok.glob (I.mod.glob.keeps I.bk) hcode (TB.code.keeps I.bk) onP ht hc bltP fun ctv h' tk hx hsz => ?_
    exact h _ c' _ ctv H _ (I.kept (t' := tk) fun b o e => Heap.get?_push_of_some _ (hx b o e)) rel .refl hco nW (Heap.get?_push_size _ rfl) (I.hok.fresh hsz) (far _ hsz)
  | none =>
    refine PySem.W.kla_makeFunction (mg := X.mg) (c := c) (P := P) (ps := ps) (closure_ok hfree) I.ok.glob (I.mod.glob.keeps I.bk) hcode (TB.code.keeps I.bk) onP ht hc TB.gP bltP fun c' ctv h' tk hx hge hlt hrec htb => ?_
    obtain ⟨c2, oc, vs, t, e2, hoc, hd, hv⟩ := hrec
    obtain rfl : c' = c2 := by cases e2; rfl
    have big : s.heap.objs.size ≤ h'.objs.size := Nat.le_trans hge (Nat.le_of_lt hlt)
    have nC : H c' = none := I.hok.fresh hge
    have eL : (ps ++ #[rawInt pos.line, rawInt pos.col, .ref c']).toList = ps.toList ++ [rawInt pos.line, rawInt pos.col, .ref c'] := by simp
    obtain ⟨rel1, st1⟩ := rel.noted (P := P) (c' := c') (more := #[rawInt pos.line, rawInt pos.col, .ref c']) hA hs hT nC (by rw [eL]; exact PySem.TriplesOk_snoc _ _ _ _ ht) (fun p' cv hcv => by
      rw [eL] at hcv
      exact among_app _ ht hcv)
    refine h h'.objs.size c' _ ctv _ _ (inv_table (t' := tk) (q := X.env.qual ++ "<lambda>") (more := #[rawInt pos.line, rawInt pos.col, .ref c']) (h' := h'.push (PySem.W.kla_obj "<lambda>" (X.env.qual ++ "<lambda>") params body scope (cloFrom X.env.cells scope.names []) ((X.mg "__name__").getD .none) c' ctv)) I hT
      (fun b o hb e => Heap.get?_push_of_some _ (hx b o hb e)) (Heap.get?_push_of_some _ htb) hge ⟨oc, vs, t, Heap.get?_push_of_some _ hoc, hd, hv⟩) rel1 st1 upd_same (rel.newW nC) (Heap.get?_push_size _ rfl) ?_ (far _ big)
    rw [upd_ne (Nat.ne_of_gt hlt), upd_ne (Nat.ne_of_gt (Nat.lt_of_lt_of_le (Heap.lt_size onP) big))]
    exact I.hok.fresh big
end
/-! ### the call of what was got -/
/-- x's meaning as a lambda's body, at the slots' data -/
def SLam (K : PySem.W.Frag) (ct : ClsT) (xt : ExT) (x : Ex) (E : XK) : TE := fun σ H Q => ∃ en st g, Rel (fcOf K ct xt H g E (fun _ _ _ _ _ => False) (fun _ _ _ _ => False)) σ H en st g ∧ Go (fcOf K ct xt H g E (fun _ _ _ _ _ => False) (fun _ _ _ _ => False)) Rep σ en g H Q (x en st)
theorem slam_of {K : PySem.W.Frag} {ct : ClsT} {xt : ExT} {x : Ex} {E : XK} {X : Cx} {e : Expr} (h : ∀ (H : Hp) (g : Gh), PE X e (SE (fcOf K ct xt H g E (fun _ _ _ _ _ => False) (fun _ _ _ _ => False)) x)) : PE X e (SLam K ct xt x E) :=
  ⟨fun pins s σ H Q I q => by
    obtain ⟨en, st, g, rel, go⟩ := q
    exact (h H g).run pins s σ H Q I ⟨en, st, g, rel, go⟩⟩
/-- call a() in the def that got the thunk -/
def ActOk (Z : Cx) (F : Fc) (a : Str) : Prop := ∀ (EW : Nat → Option D → En → Store → Prop) (lk : Gh → Hp → Prop) (pn : List (Addr × Obj)) (xe : Value → Shared → Prop) (p1 p2 : Pos), Takes (Z.tr pn xe) (wF { F with EW := EW, lk := lk }) → PE (Z.tr pn xe) (.Call (.Name a p1) [] [] p2) (SE { F with EW := EW, lk := lk } xAct)
section
variable {X : Cx} {F : Fc} {pins : List (Addr × Obj)} {σ : L2.St} {H : Hp} {s : Shared} {en : En} {st : Store} {g : Gh}
theorem lamEn_get {i : Nat} {sl : Sl} (h : (lamEn en)[i]? = some (some sl)) : ∃ d, sl = .fro d ∧ en[i]? = some (some (.fro d)) := by
  unfold lamEn at h
  rw [List.getElem?_map] at h
  cases q : en[i]? with
  | none => rw [q] at h; cases h
  | some o =>
    rw [q] at h
    simp only [Option.map_some, Option.some.injEq] at h
    split at h
    · cases h; exact ⟨_, rfl, rfl⟩
    · cases h
/-- the slots' data, told from here on -/
theorem Rel.lam (r : Rel F σ H en st g) {K : PySem.W.Frag} (hK : F.K = K) {g1 : Gh} {H1 : Hp} {st1 : Store} (s : Step g H g1 H1) (t : Sto F.ct g1 H1 st1) {E : XK} : Rel (fcOf K F.ct F.xt H1 g1 E (fun _ _ _ _ _ => False) (fun _ _ _ _ => False)) σ H1 (lamEn en) st1 g1 := by
  have r1 := r.step s t
  refine ⟨by rw [r.len]; simp [lamEn], fun i sl e => ?_, fun i k xs ys e _ _ => ?_, t, .refl, ⟨?_, t.tr, fun _ _ _ _ _ _ _ z => z.elim, fun _ _ _ _ _ _ z => z.elim, fun _ _ _ _ _ _ => True.intro⟩, True.intro⟩
  · obtain ⟨d, rfl, e2⟩ := lamEn_get e
    exact r1.sl i _ e2
  · obtain ⟨d, z, _⟩ := lamEn_get e
    cases z
  · show g1.K = K
    rw [← hK, ← r1.ok.kk]
    exact r1.ext.K
variable {CXg : CXT} {Eg : XK} {Ng : List Str} {qg : Str} {sg : Scope} {gf f c' : Addr} {cdg pm ctv : Value} {params : Arguments} {body : Expr} {scope : Scope} {k : Nat} {a : Str} {x : Ex}
theorem act_ok (I : Inv X pins σ H s) (rel : Rel F σ H en st g) (hK : F.K = X.K) (L : LamS X.env.scope scope) (hf : s.heap.get? f = some (PySem.W.kla_obj "<lambda>" (X.env.qual ++ "<lambda>") params body scope (cloFrom X.env.cells scope.names []) pm c' ctv)) (hfn : H f = none) (hfr : f ∉ frs X.stack)
    (hbind : bindArgs (PySem.W.kla_fn "<lambda>" (X.env.qual ++ "<lambda>") params body scope (cloFrom X.env.cells scope.names []) pm (.ref c') ctv) ⟨[], []⟩ = pure [])
    (hr : RG (k + 1) (X.A.deeper (PyProof.Rows.envOfC qg sg s.heap.objs.size gf cdg)))
    (hbody : ∀ (A : Around) (outer : List Env) (s : Shared) (H : Hp) (E : XK), RG k (A.deeper (lamEnv X scope s.heap.objs.size f c')) → PE (lamCx X A outer s H E scope f c') body (SLam X.K F.ct F.xt x E))
    (hN : Ng[0]? = some a) (hv : Vis sg a) (hd : (a == ("__debug__" : Str)) = false) (hcd : (a == ("__classdict__" : Str)) = false) {F' : Fc} (hg0 : F'.g0 = g) (hH0 : F'.H0 = H) (hct : F'.ct = F.ct) (hxt : F'.xt = F.xt)
    (hth : F'.th = fun fx v g H => v = .ref f ∧ H c' = some (CodeO c' (X.env.qual ++ "<lambda>")) ∧ ¬ g.W c' ∧ fx = fun s => x (lamEn en) s) :
    ActOk (cxOf CXg X.prog X.w X.K X.mg X.base Ng qg sg gf cdg X.A X.stack s H Eg) F' a := by
  intro EW lk pn xe p1 p2 tk
  refine ⟨fun pz sz σz Hz Q IZ hq => ?_⟩
  obtain ⟨ez, stz, gz, relz, go⟩ := hq
  unfold xAct at go
  split at go
  case h_2 => exact go.elim
  rename_i fx e0
  obtain ⟨v, ev, hz⟩ := relz.sl 0 _ e0
  have hz' : F'.th fx v gz Hz := hz
  rw [hth] at hz'
  obtain ⟨rfl, hco, nW, rfl⟩ := hz'
  have go : Go { F' with EW := EW, lk := lk } Rep σz ez gz Hz Q (x (lamEn en) stz) := go
  refine wpAny_Call_Name_kw ?_
  refine thn ((pe_var (pos := p1) (i := 0) hN hv hd hcd).run pz sz σz Hz (fun v H1 => v = .ref f ∧ H1 = Hz) IZ ⟨.ref f, ev, rfl, rfl⟩) fun u s1 hu => ?_
  obtain ⟨v1, H1, I1, r1, rfl, rfl⟩ := hu
  obtain rfl : u = Value.ref f := r1
  have of1 := I1.base.keep f _ hf hfn hfr (fun z => nomatch (show f ∈ ([] : List Addr) from z))
  refine PySem.W.callWith_F0 ⟨_, _, _, _, of1⟩ ?_
  obtain ⟨⟨oc, vs, t, hoc, hdc, hvc⟩, _, _⟩ := I1.hok c' _ hco
  -- the lambda's reading
  have hsl : SLam X.K F.ct F.xt x (fun cls dd H' => wF { F' with EW := EW, lk := lk } cls dd σz H') σ H1 Q := by
    have stp : Step g H gz H1 := by
      have z := relz.ext
      rw [show ({ F' with EW := EW, lk := lk } : Fc).g0 = g from hg0, show ({ F' with EW := EW, lk := lk } : Fc).H0 = H from hH0] at z
      exact z
    have sto : Sto F.ct gz H1 stz := by
      have z := relz.sto
      rw [show ({ F' with EW := EW, lk := lk } : Fc).ct = F.ct from hct] at z
      exact z
    refine ⟨lamEn en, stz, gz, rel.lam hK stp sto, ?_⟩
    cases qx : x (lamEn en) stz with
    | ok d s1 =>
      rw [qx] at go
      intro b H' g' rl stq rp
      exact go b H' g' (relz.step stq (by
        have z := rl.sto
        show Sto F'.ct g' H' s1
        rw [hct]; exact z)) stq rp
    | exc cx fx s1 =>
      rw [qx] at go
      intro cls dd H' g' stq stoq ex
      refine ⟨ez, s1, g', cx, fx, relz.step stq (by
        show Sto F'.ct g' H' s1
        rw [hct]; exact stoq), ?_, go⟩
      show ExR F'.xt g' H' cx fx cls dd
      rw [hxt]; exact ex
    | stuck => rw [qx] at go; exact go
  have un : Un (frs X.stack) [] H H1 s.heap s1.heap := I1.base
  have rc : codeAny (model X.prog X.w) (X.A.deeper (PyProof.Rows.envOfC qg sg s.heap.objs.size gf cdg)) (.call (.ref f) ⟨[], []⟩) (CR (L2.CX X.prog X.w) (PyProof.Rows.envOfC qg sg s.heap.objs.size gf cdg :: X.stack) X.prog X.w H1 s1 Q fun cls dd H' => wF { F' with EW := EW, lk := lk } cls dd σz H') s1 := by
    refine PySem.W.kla_callFunE hr.r.depth of1 rfl L.co L.gen rfl ⟨c', oc, vs, t, rfl, hoc, hdc, hvc⟩ ?_
    rw [hbind]
    refine wpAny_pure (wpAny_newFunctionEnv (fun y hy => (L.own y hy).2) (fun y hy => absurd hy (by simp)) (fun h₁ hns hsb => ⟨I1.nolimit.fresh _ hsb, ?_⟩) L.kind)
    show codeAny _ _ (.expr body (lamEnv X scope s1.heap.objs.size f c')) _ _
    have J := lam_start2 (c' := c') (f := f) (tk := s1.toks + ([] : List (Str × Value)).length) (E := fun cls dd H' => wF { F' with EW := EW, lk := lk } cls dd σz H') I L I1.env0 hr.r.hd un hns (fun b o e => hsb.extBut b o (Nat.ne_of_lt (Heap.lt_size e)) (Heap.get?_push_of_some _ e))
    refine PySem.W.kla_codeExpr (wpAny_mono ((hbody _ _ s1 H1 _ (hr.deeper _)).run [] _ _ H1 Q J hsl) (fun v s' hv => ?_) fun e s' he => he)
    obtain ⟨w', H', J', rv, q⟩ := hv
    exact ⟨w', H', J'.os, J'.bare, J'.base, J'.hok, rv, q⟩
  refine wpAny_call (codeAny_mono rc fun r s' hv => ?_)
  match r, hv with
  | .error e, hv => exact passAt tk σz pz H1 s1 e s' I1 hv
  | .ok (.ret u), hv => exact I1.after hv
  | .ok .next, hv => exact hv.elim
  | .ok .brk, hv => exact hv.elim
  | .ok .cont, hv => exact hv.elim
end
/-- what a def promises that calls what it got -/
def WordOk (P : Program) (w : World) (K : PySem.W.Frag) (mg : Str → Option Value) (base : Heap) (ct : ClsT) (xt : ExT) (stw : Stmt) (x a : Str) (Ng : List Str) (b : Bk) (k : Nat) : Prop :=
  ∀ (gf : Addr) (cdg : Value) (A : Around) (outer : List Env) (s : Shared) (H : Hp) (E : XK) (g : Gh) (th : (Store → Res D) → V → Gh → Hp → Prop), g.K = K → RG k (A.deeper (PyProof.Rows.envOfC x (defScope stw) s.heap.objs.size gf cdg)) →
    ActOk (cxOf (L2.CX P w) P w K mg base Ng x (defScope stw) gf cdg A outer s H E) (fcOf K ct xt H g E (fun _ _ _ _ _ => False) th) a →
    PSs (cxOf (L2.CX P w) P w K mg base Ng x (defScope stw) gf cdg A outer s H E) (defBody stw) (SS (fcOf K ct xt H g E (fun _ _ _ _ _ => False) th) b)
section
variable {X : Cx} {F : Fc} {n j k : Nat} {x a : Str} {c P gf : Addr} {fd : FuncData} {stw : Stmt} {Ng : List Str} {b : Bk} {params : Arguments} {body : Expr} {scope : Scope} {xb : Ex} {p lpos pos : Pos} {ql : Str} {nw : Nat}
/-- x(lambda: body) -/
theorem q_lam (hnw : Ng.length = nw) (hK : F.K = X.K) (tk : Takes X (wF F)) (hg : Gl X x) (hm : X.mg x = some (.ref gf)) (FU : Fun X.K x x stw gf fd) (Sg : FnScope Ng [a] (defScope stw)) (W : WordOk X.prog X.w X.K X.mg X.base F.ct F.xt stw x a Ng b (k + 1)) (hb : L2.Binds X.K fd [a] [])
    (TB : TabB X.base X.mg c P) (hcode : X.env.code = .ref c) (hP : F.ct j = P) (hq : X.env.qual ++ "<lambda>" = ql) (hr : RG (k + 2) X.A) (L : LamS X.env.scope scope) (hdef : defaultsOf params X.env = ([], []))
    (hbind : ∀ (q : Str) (cl : List (Str × Addr)) (pm cv ctv : Value), bindArgs (PySem.W.kla_fn "<lambda>" q params body scope cl pm cv ctv) ⟨[], []⟩ = pure [])
    (hbody : ∀ (A : Around) (outer : List Env) (s : Shared) (H : Hp) (E : XK) (f c' : Addr), RG k (A.deeper (lamEnv X scope s.heap.objs.size f c')) → PE (lamCx X A outer s H E scope f c') body (SLam X.K F.ct F.xt xb E))
    (hNg : Ng[0]? = some a) (hva : Vis (defScope stw) a) (hdb : (x == ("__debug__" : Str)) = false) (hd : (a == ("__debug__" : Str)) = false) (hcd : (a == ("__classdict__" : Str)) = false) :
    PE X (.Call (.Name x p) [.Lambda params body scope lpos] [] pos) (SE F (xLam n j ql (runK nw b) xb)) := by
  subst hnw
  obtain ⟨oc, od, kV, doc, pm, an, cdv, ct, osl, rfl, lk, hcd'⟩ := FU.ex
  refine ⟨fun pins s σ H Q I h => ?_⟩
  obtain ⟨en, st, g, rel, go⟩ := h
  unfold xLam at go
  split at go
  case h_2 => exact go.elim
  rename_i j' q' hs
  split at go
  case isFalse => exact go.elim
  rename_i hjq
  obtain ⟨rfl, rfl⟩ := hjq
  subst hq
  refine wpAny_Call_Name_kw (ld_glob I hg hm ?_ hdb)
  refine PySem.W.callWith_K (h₀ := X.base) I.ok.mod.kin FU.kp ?_ (by rfl) (by rfl)
  show wpAny _ _ (spliced ((false, eval (.Lambda params body scope lpos) X.env) :: backTo pos (starEach [] X.env))) _ _ s
  refine Calls.spliced_cons (lam_new I rel TB hcode hP hs hdef (L.has I.ok) fun f c' pm' ctv H1 s' I1 rel1 st1 hco nW hf hfn hfr => ?_)
  refine Calls.spliced_nil ⟨I1.kIn, ?_⟩
  have rc : codeAny (model X.prog X.w) X.A (.call (.ref gf) ⟨[.ref f], []⟩) (CR (L2.CX X.prog X.w) X.stack X.prog X.w H1 s' Q (WE (wF F) σ)) s' := by
    refine run_ofS (N := Ng) (ps := [a]) (us := [.ref f]) (vs := [.ref f]) lk hcd' Sg hr.r I1.env0 (hb s' [.ref f] I1.kIn rfl) (.cons rfl .nil) rfl fun _ => ?_
    have hr' := hr.deeper (PyProof.Rows.envOfC x (defScope stw) s'.heap.objs.size gf cdv)
    let th : (Store → Res D) → V → Gh → Hp → Prop := fun fx v g H => v = .ref f ∧ H c' = some (CodeO c' (X.env.qual ++ "<lambda>")) ∧ ¬ g.W c' ∧ fx = fun s => xb (lamEn en) s
    have gK : g.K = X.K := by
      have z := rel.ext.K
      rw [rel.ok.kk] at z
      exact z.trans hK
    have act := act_ok (F' := fcOf X.K F.ct F.xt H1 g (WE (wF F) σ) (fun _ _ _ _ _ => False) th) (CXg := L2.CX X.prog X.w) (Eg := WE (wF F) σ) I1 rel1 hK L hf hfn hfr (hbind _ _ _ _ _) hr' (fun A outer s H E hr2 => hbody A outer s H E f c' hr2) hNg hva hd hcd rfl rfl rfl rfl rfl
    refine ⟨_, W gf cdv X.A X.stack s' H1 (WE (wF F) σ) g th gK hr' act, ?_⟩
    have ok : (fcOf X.K F.ct F.xt H1 g (WE (wF F) σ) (fun _ _ _ _ _ => False) th).Ok := ⟨gK, rel1.sto.tr, fun _ _ _ _ _ _ _ z => z.elim, fun fx v g H g' H' z s => by
      obtain ⟨z1, z2, z3, z4⟩ := z
      exact ⟨z1, s.keep c' _ z2 z3 codeO_ne, s.notW z3 (is_some z2), z4⟩, fun _ _ _ _ _ _ => True.intro⟩
    have r0 : Rel (fcOf X.K F.ct F.xt H1 g (WE (wF F) σ) (fun _ _ _ _ _ => False) th) (L2.start Ng [V.ref f]) H1 (some (.thk fun s => xb (lamEn en) s) :: List.replicate (Ng.length - 1) none) st g := by
      refine ⟨by simp [L2.start], fun i s e => ?_, fun i j xs ys e1 e2 ne => ?_, rel1.sto, .refl, ok, True.intro⟩
      · cases i with
        | zero =>
          cases e
          exact ⟨.ref f, rfl, rfl, hco, nW, rfl⟩
        | succ i =>
          rw [List.getElem?_cons_succ, List.getElem?_replicate] at e
          split at e <;> cases e
      · cases i with
        | zero => cases e1
        | succ i =>
          rw [List.getElem?_cons_succ, List.getElem?_replicate] at e1
          split at e1 <;> cases e1
    refine ⟨_, st, g, r0, ?_⟩
    unfold runK at go
    cases q : b (some (.thk fun s => xb (lamEn en) s) :: List.replicate (Ng.length - 1) none) st with
    | next en s1 =>
      rw [q] at go
      intro σ' H' g' r' ss
      obtain ⟨g2, h1, h2, h3⟩ := r'.result (H := H1) (g := g) (d := .non) (v := .non) .non
      exact go .non H' g2 (rel1.step h1 h2) (st1.trans h1) h3
    | ret d s1 =>
      rw [q] at go
      intro v σ' H' en' g' r' ss rp
      obtain ⟨g2, h1, h2, h3⟩ := r'.result (H := H1) (g := g) rp
      exact go v H' g2 (rel1.step h1 h2) (st1.trans h1) h3
    | exc cx fx en1 s1 =>
      rw [q] at go
      intro cls dd H' g' sq tq ex
      exact ⟨en, s1, g', cx, fx, rel1.step sq tq, ex, go⟩
    | brk en s1 => rw [q] at go; exact go.elim
    | cont en s1 => rw [q] at go; exact go.elim
    | stuck => rw [q] at go; exact go.elim
  refine wpAny_call (codeAny_mono rc fun r s2 hv => ?_)
  match r, hv with
  | .error e, hv => exact passAt tk σ pins H1 s' e s2 I1 hv
  | .ok (.ret u), hv => exact I1.after hv
  | .ok .next, hv => exact hv.elim
  | .ok .brk, hv => exact hv.elim
  | .ok .cont, hv => exact hv.elim
end
end Il
end
section
set_option Elab.async false
set_option linter.all false
set_option maxRecDepth 100000
set_option maxHeartbeats 2000000
/-! Own exceptions over ValueError whose __init__ says super().__init__(..), perhaps a field behind it. -/
namespace Il
open PySem PySem.Spec PySem.W PySem.Calls PyProof.Rows
section
variable {prog : Program} {w : World} {A : Around} {E : Value → Shared → Prop} {h : Heap} {g : Array GenState} {d : Drawn} {t : Nat} {os : OsState}
variable {nm q : Str} {C N : Addr} {bs bm : List Value} {hdct : Bool} {sn : List Str} {sub : List Value} {ab : Bool} {col : Option Bool} {dd : Option Addr} {k0 k1 k2 k3 k5 : Option Value}
/-- the bound ValueError.__init__, called -/
theorem call_mw {u e t0 : Addr} {rest : List Value} {Q : Value → Shared → Prop}
    (hC : h.get? C = some (excClassObj nm q C N bs bm hdct sn sub ab col dd k0 k1 k2 k3 k5 "ValueError.__new__")) (he : h.get? e = some (HandSPX.excO C t0)) (hu : h.get? u = some (kxs_mw "ValueError.__init__" e)) (hrest : rest.length ≤ sizeLine)
    (hq : ∀ h' t1, (∀ b o, b ≠ e → h.get? b = some o → h'.get? b = some o) → h'.get? e = some (HandSPX.excO C t1) → Q .none ⟨h', g, d, t, os⟩) :
    wpAny (model prog w) A (call (.ref u) rest) Q E ⟨h, g, d, t, os⟩ := by
  refine wpAny_call (codeAny_of_tree ?_)
  show wpAny _ A.in1 (callAny (.ref u) ⟨rest, []⟩) _ _ _
  simp only [callAny]
  refine wpAny_bind (wpAny_load hu ?_)
  simp only [kxs_mw, show (Value.type "method-wrapper" == Value.type "method" || Value.type "method-wrapper" == Value.type "builtin_function_or_method" || Value.type "method-wrapper" == Value.type "method-wrapper") = true by decide, if_true]
  refine KFB.if_so (by decide) ?_
  refine wpAny_bind (check_bound_init F.excBase_ValueError.toExcCallFacts hC he rfl ?_)
  refine wpAny_bind (wpAny_pure (wpAny_pure ?_))
  refine ⟨Code.quiet_builtin _ (by decide +kernel), codeAny_builtin F.excBase_ValueError.initEntry ?_⟩
  rw [Around.under_plainId F.excBase_ValueError.init.plain _]
  wp_walk
  refine hq _ h.objs.size (fun b o hb ho => ?_) ?_
  · rw [Heap.get?_update_other _ _ (Ne.symm hb)]
    exact Heap.get?_push_of_some _ ho
  · rw [Heap.get?_update_self _ (Heap.get?_push_of_some _ he) rfl]
    rfl
end

theorem method_ev {o : Expr} {name : Str} {apos pos : Pos} {args : List Expr} {env : Env} (hfew : methodCallForm (args.length + ([] : List Keyword).length) (backTo pos (starEach args env)) (backToKw pos (keywordEach [] env)) = true) (hline : (apos.endLine == pos.line) = true) :
    eval (.Call (.Attribute o name apos) args [] pos) env = (do
      let ov ← attributeBase o name env (eval o env)
      standAt apos.atName
      let (f, first) ← holding [ov] (getMethod ov name (do return (← importBound o env).getD true))
      callWith pos f first (backTo pos (starEach args env)) []) := by
  have hpos : methodCallPos true o env apos pos = pure pos := by unfold methodCallPos; simp [hline]
  rw [arm_eval_Call]
  unfold methodCall
  rw [hfew, hpos]
  rfl
/-- what the text and its written part say of such a class -/
structure SupC (prog : Program) (K : Frag) (C fI : Addr) (params : Arguments) (body : List Stmt) (scope : Scope) : Prop where
  T : L2.OexC K C
  iC : findIn K (.ref C) "__init__" = some (some (.ref fI))
  tI : typeIn K (.ref fI) = some (.type "function")
  fn : ∃ name qual doc pm an cda ct cc oc od osl, K.lookup fI = some ⟨oc, od, .func (ksFn name qual params body scope .none .none doc pm an (.ref cda) ct cc), osl⟩ ∧ codeIn K (.ref cda) qual = true ∧
    (∃ ccl cdd vs ccs file tf, K.lookup cda = some ⟨ccl, cdd, .fields vs, ccs⟩ ∧ vs[2]? = some (.str file tf) ∧ ((prog.main.file : Str) == file) = true) ∧ ∃ cl cld csl, K.lookup cc = some ⟨cl, cld, .cell (some (.ref C)), csl⟩
  up : ∃ cd, clsIn K C = some cd ∧ alongIn K "__init__" ((cd.mro.dropWhile (· != .ref C)).drop 1) = some (some (.builtin "ValueError.__init__"))
  self : mroIn K C (.ref C) = some true
  ve : subIn K (.ref C) (.type "ValueError") = some true
  sup : nsIn K mainGlobals "super" = some none
  opq : nsIn K cStatics "thirdparty.any" = some none
  top : (prog.main.scope.names.lookup ("super" : Str)).isSome = false

section
variable {prog : Program} {w : World} {A : Around} {E : Value → Shared → Prop} {h : Heap} {g : Array GenState} {d : Drawn} {t : Nat} {os : OsState}
variable {K : Frag} {mg mb m : Str → Option Value} {C D fI e t0 L cda cc : Addr} {ct doc pm : Value} {an : Option Addr} {name qual : Str} {params : Arguments} {body body' : List Stmt} {scope : Scope} {ar : Arg}
theorem sup_pre {args : List Expr} {p0 p1 p2 p3 : Pos} {Q : Value → Shared → Prop} {oc ccl cl : Value} {od cdd cld : Option Addr} {osl ccs csl : Array (Option Value)} {vs : Array Value} {file : Str} {tf : Tok} {cd : ClassData}
    (X : K.In h) (G : h.Ns mainGlobals mg) (ms : mg "super" = none) (B : h.Ns builtinsNs mb) (hb : mb "super" = bootBuiltins "super") (NL : h.Ns L m) (hm : m ar.arg = some (.ref e)) (he : h.get? e = some (HandSPX.excO C t0))
    (hf : K.lookup fI = some ⟨oc, od, .func (ksFn name qual params body' scope .none .none doc pm an (.ref cda) ct cc), osl⟩) (hp : (params.posonlyargs ++ params.args).head? = some ar)
    (hcode : K.lookup cda = some ⟨ccl, cdd, .fields vs, ccs⟩) (hvs : vs[2]? = some (.str file tf)) (hfile : ((prog.main.file : Str) == file) = true)
    (hcell : K.lookup cc = some ⟨cl, cld, .cell (some (.ref C)), csl⟩) (hC : clsIn K C = some cd) (hsub : mroIn K C (.ref C) = some true) (hve : subIn K (.ref C) (.type "ValueError") = some true) (hopq : nsIn K cStatics "thirdparty.any" = some none)
    (hup : alongIn K "__init__" ((cd.mro.dropWhile (· != .ref C)).drop 1) = some (some (.builtin "ValueError.__init__")))
    (hks : scope.names.lookup ("super" : Str) = some .globalImplicit) (hkc : scope.names.lookup ("__class__" : Str) = some .free) (hka : scope.names.lookup ar.arg = some .local) (hk : scope.kind = .function)
    (htop : (prog.main.scope.names.lookup ("super" : Str)).isSome = false)
    {pl : PySem.Sem Bool} (hev : eval (.Call (.Attribute (.Call (.Name "super" p0) [] [] p1) "__init__" p2) args [] p3) (ksEnv qual scope L fI (.ref cda) cc) = (do
      let ov ← attributeBase (.Call (.Name "super" p0) [] [] p1) "__init__" (ksEnv qual scope L fI (.ref cda) cc) (eval (.Call (.Name "super" p0) [] [] p1) (ksEnv qual scope L fI (.ref cda) cc))
      standAt p2.atName
      let (f, first) ← holding [ov] (getMethod ov "__init__" pl)
      callWith p3 f first (backTo p3 (starEach args (ksEnv qual scope L fI (.ref cda) cc))) []))
    (hq : ∀ u h' tk, h'.get? u = some (kxs_mw "ValueError.__init__" e) → (∀ b o, h.get? b = some o → h'.get? b = some o) → h.objs.size ≤ u →
      wpAny (model prog w) A (callWith p3 (.ref u) [] (backTo p3 (starEach args (ksEnv qual scope L fI (.ref cda) cc))) []) Q E ⟨h', g, d, tk, os⟩) :
    _root_.PySem.wpAt (model prog w) A (.func body (ksEnv qual scope L fI (.ref cda) cc)) (eval (.Call (.Attribute (.Call (.Name "super" p0) [] [] p1) "__init__" p2) args [] p3) (ksEnv qual scope L fI (.ref cda) cc)) Q E ⟨h, g, d, t, os⟩ := by
  obtain ⟨oD, hD1, hD2⟩ : ∃ oD, h.get? C = some oD ∧ oD.data = .cls cd := by
    unfold clsIn at hC
    split at hC
    · rename_i c d cd' sl ho
      cases hC
      exact ⟨_, X _ _ ho, rfl⟩
    · cases hC
  refine ks_wpAt_MethodCall ?_ hev
  refine ks_wpAt_super_base (env := ksEnv qual scope L fI (.ref cda) cc) hks hkc (by decide) rfl (X _ _ hf) rfl hp rfl (X _ _ hcode) rfl hvs hfile htop ?_
  refine ks_loadName_global hk hks (loadGlobal_builtin (env := ksEnv qual scope L fI (.ref cda) cc) G ms B (hb.trans (by decide +kernel)) ⟨rfl, ?_⟩)
  refine wpAny_loadName_free hk hkc rfl ⟨_, X _ _ hcell, rfl⟩ ?_
  refine wpAny_loadName_local hk hka NL hm ?_
  refine ks_wpAny_isType_cls hD1 hD2 ⟨rfl, ?_⟩
  refine ks_wpAny_call_super hD1 hD2 he rfl (fun c z => by cases z) (looks_mroIn X hsub) (fun h1 e1 k1 => ?_)
  have X1 : K.In h1 := fun b o z => k1 b o (X b o z)
  have I1 : InstAt h1 e (HandSPX.excO C t0) C none := ⟨k1 _ _ he, rfl, rfl, trivial⟩
  refine kxs_getMethod (B := "ValueError") (C := C) (D := C) (x := e) kxs_ValueError e1 (looks_opaque X1 hopq) (l₀ := cd.mro) ?_ rfl X1 hup (I1.type.andThen (looks_subIn X1 hve)) (ks_ne X1 I1 hC) (by decide) ?_
  · exact fun A Q E s k q => wpAny_bind ((looks_clsIn X1 hC) A _ E s k (wpAny_pure q))
  · exact hq _ _ _ (Heap.get?_push_at rfl rfl) (fun b o z => Heap.get?_push_of_some _ (k1 b o z)) (Nat.le_of_lt (Heap.lt_size e1))

/-- super().__init__() as the whole body -/
theorem sup_code0 {R : Result → Shared → Prop} {p0 p1 p2 p3 p4 : Pos} {nm q : Str} {N : Addr} {bs bm : List Value} {hdct : Bool} {sn : List Str} {sub : List Value} {ab : Bool} {col : Option Bool} {dd : Option Addr} {k0 k1 k2 k3 k5 : Option Value} {a0 : Str}
    (S : SupC prog K C fI params [.Expr (.Call (.Attribute (.Call (.Name "super" p0) [] [] p1) "__init__" p2) [] [] p3) p4] scope)
    (X : K.In h) (G : h.Ns mainGlobals mg) (B : h.Ns builtinsNs mb) (hb : mb "super" = bootBuiltins "super") (lim : h.NoLimit) (he : h.get? e = some (HandSPX.excO C t0)) (hroom : A.depth < recursionLimit)
    (hp : params.posonlyargs = [] ∧ params.args.map (·.arg) = [a0] ∧ params.vararg = none ∧ params.kwonlyargs = [] ∧ params.kwarg = none)
    (hbind : ∀ (fd : FuncData), fd.params = params → fd.defaults = .none → fd.kwdefaults = .none → BindsTo ⟨h, g, d, t, os⟩ fd ⟨[.ref e], []⟩ [(a0, .ref e)])
    (hks : scope.names.lookup ("super" : Str) = some .globalImplicit) (hkc : scope.names.lookup ("__class__" : Str) = some .free) (hka : scope.names.lookup a0 = some .local) (hk : scope.kind = .function)
    (hcl : ∀ x ∈ scope.names, x.2 ≠ .cell) (hco : scope.isCoroutine = false) (hge : scope.isGenerator = false)
    (hC : h.get? C = some (excClassObj nm q C N bs bm hdct sn sub ab col dd k0 k1 k2 k3 k5 "ValueError.__new__")) (hline : (p2.endLine == p3.line) = true)
    (hq : ∀ h' t1 tk', (∀ b o, b ≠ e → h.get? b = some o → h'.get? b = some o) → h'.get? e = some (HandSPX.excO C t1) → R (.ok (.ret .none)) ⟨h', g, d, tk', os⟩) :
    codeAny (model prog w) A (.call (.ref fI) ⟨[.ref e], []⟩) R ⟨h, g, d, t, os⟩ := by
  obtain ⟨name, qual, doc, pm, an, cda, ct, cc, oc, od, osl, lk, hcd, ⟨ccl, cdd, vs, ccs, file, tf, lc, hvs, hfile⟩, cl, cld, csl, lcc⟩ := S.fn
  obtain ⟨cd, hcl', hup⟩ := S.up
  obtain ⟨hp1, hp2, _⟩ := hp
  obtain ⟨ar, har, harg⟩ : ∃ ar : Arg, params.args = [ar] ∧ ar.arg = a0 := by
    cases hh : params.args with
    | nil => rw [hh] at hp2; cases hp2
    | cons x r =>
      rw [hh] at hp2
      simp only [List.map_cons, List.cons.injEq, List.map_eq_nil_iff] at hp2
      exact ⟨x, by rw [hp2.2], hp2.1⟩
  subst harg
  have hes : ∀ b o, h.get? b = some o → b < h.objs.size := fun b o z => Heap.lt_size z
  refine ks_codeAny_call_defAt (fd := ksFn name qual params [.Expr (.Call (.Attribute (.Call (.Name "super" p0) [] [] p1) "__init__" p2) [] [] p3) p4] scope .none .none doc pm an (.ref cda) ct cc)
    (body := [.Expr (.Call (.Attribute (.Call (.Name "super" p0) [] [] p1) "__init__" p2) [] [] p3) p4]) (binds := [(ar.arg, .ref e)]) hroom (X _ _ lk) rfl lim (codeRec_of X hcd) rfl (hbind _ rfl rfl rfl) hcl (fun x hx => ?_) (fun h₁ hns hk₁ => ?_) hco hge hk
  · rw [List.mem_singleton.mp hx]; exact hka
  · refine ks_wpAt_execs_cons (ks_wpAt_Expr_any ?_ ?_ ?_)
    · refine sup_pre (L := h.objs.size) (m := fun x => [(ar.arg, Value.ref e)].reverse.lookup x) (args := []) (K := K) (C := C) (e := e) (fun b o z => hk₁ _ _ (X b o z)) (G.keeps hk₁) (mg_none_of X G S.sup) (B.keeps hk₁) hb hns (by simp) (hk₁ _ _ he) lk (by rw [hp1, har]; rfl) lc hvs hfile lcc hcl' S.self S.ve S.opq hup hks hkc hka hk S.top (method_ev rfl hline) ?_
      intro u h2 tk hu k2 hsz
      refine kxs_callWith (i := "ValueError.__init__") (x := e) rfl (evalArgs_empty ⟨hu, ?_⟩)
      refine call_mw (k2 _ _ (hk₁ _ _ hC)) (k2 _ _ (hk₁ _ _ he)) hu (Nat.zero_le _) fun h3 t3 k3 e3 => ?_
      refine wpAt_of_wpAny ?_
      refine wpAny_pure ?_
      exact hq h3 t3 _ (fun b o nb z => k3 b o nb (k2 _ _ (hk₁ _ _ z))) e3
    · show interactive (ksEnv qual scope h.objs.size fI (.ref cda) cc) = false
      unfold interactive
      simp [hk]
    · rfl

end
end Il

/-! ### the rules -/
namespace Il
open PySem PySem.Spec PyProof.Rows L2
section
variable {X : Cx} {C fI : Addr} {params : Arguments} {body : List Stmt} {scope : Scope} {x a0 a1 f : Str} {p pos p0 p1 p2 p3 p4 p5 p6 p7 p8 p9 : Pos} {k : Nat}
/-- C(), C's __init__ only super().__init__() -/
theorem pmk_sup0 (S : SupC X.prog X.K C fI params [.Expr (.Call (.Attribute (.Call (.Name "super" p0) [] [] p1) "__init__" p2) [] [] p3) p4] scope)
    (hp : params.posonlyargs = [] ∧ params.args.map (·.arg) = [a0] ∧ params.vararg = none ∧ params.kwonlyargs = [] ∧ params.kwarg = none)
    (hbind : ∀ (fd : FuncData), fd.params = params → fd.defaults = .none → fd.kwdefaults = .none → ∀ (s : Shared) (u : Value), BindsTo s fd ⟨[u], []⟩ [(a0, u)])
    (hks : scope.names.lookup ("super" : Str) = some .globalImplicit) (hkc : scope.names.lookup ("__class__" : Str) = some .free) (hka : scope.names.lookup a0 = some .local) (hk : scope.kind = .function)
    (hcl : ∀ x ∈ scope.names, x.2 ≠ .cell) (hco : scope.isCoroutine = false) (hge : scope.isGenerator = false) (hline : (p2.endLine == p3.line) = true)
    (hr : Room (k + 1) X.A) (hg : Gl X x) (hm : X.mg x = some (.ref C)) (hdb : (x == ("__debug__" : Str)) = false) :
    PMk X (.Call (.Name x p) [] [] pos) (fun _ H Q => Q (.ref C) none H) := by
  intro pins s σ H Q I h
  obtain ⟨nm, q, N, bs, bm, sn, sub, ab, col, dd, k0, k1, k2, k3, k5, hC, hbm⟩ := S.T.cls
  refine wpAny_Call_Name_kw (ld_glob I hg hm ?_ hdb)
  refine PySem.W.callWith_K0 I.kIn S.T.kC ?_
  show wpAny _ _ (call (.ref C) []) _ _ _
  obtain ⟨hp', g, dr, tk, os⟩ := s
  have kk : ∀ b o, hp'.get? b = some o → ((hp'.push (PySem.W.kdv_tup [])).push (PySem.HandSPX.excO C hp'.objs.size)).get? b = some o := fun b o e => Heap.get?_push_of_some _ (Heap.get?_push_of_some _ e)
  have hget : ((hp'.push (PySem.W.kdv_tup [])).push (PySem.HandSPX.excO C hp'.objs.size)).get? (hp'.objs.size + 1) = some (PySem.HandSPX.excO C hp'.objs.size) := by heap_get
  have hn : H (hp'.objs.size + 1) = none := I.hok.fresh (Nat.le_succ _)
  obtain ⟨mb, hb1, hb2⟩ := I.mod.blt
  refine wpAny_call (PySem.HandSPX.call_own F.excBase_ValueError (fun Y => PySem.HandSPX.refsVE_contains Y bm hbm) (I.kIn _ _ hC) (PySem.W.looks_findIn I.kIn S.iC) (fun self => PySem.W.bind_fn I.kIn self S.tI) (Nat.zero_le _) ?_)
  refine sup_code0 (a0 := a0) S (fun b o z => kk b o (I.kIn b o z)) ((I.mod.glob.keeps I.bk).keeps kk) ((hb1.keeps I.bk).keeps kk) (hb2 _ (by decide)) (I.nolimit.keeps kk) hget (hr.make C [] []).depth hp (fun fd hfd h1 h2 => hbind fd hfd h1 h2 _ _) hks hkc hka hk hcl hco hge (kk _ _ (I.kIn _ _ hC)) hline ?_
  intro h' t1 tk' k' e'
  refine ⟨rfl, ?_⟩
  obtain ⟨G, g1', g2'⟩ := restrict h' fun b => decide (b ≠ hp'.objs.size + 1)
  have gk : ∀ b, b ≠ hp'.objs.size + 1 → G.get? b = h'.get? b := fun b hb => g1' b (decide_eq_true hb)
  have ge : G.get? (hp'.objs.size + 1) = none := g2' _ (by simp)
  have nb : ∀ {b : Addr} {o : Obj}, hp'.get? b = some o → b ≠ hp'.objs.size + 1 := fun {b o} z => Nat.ne_of_lt (Nat.lt_of_lt_of_le (Heap.lt_size z) (Nat.le_succ _))
  refine ⟨hp'.objs.size + 1, _, _, ⟨G, g, dr, tk', os⟩, H, .ref C, none, rfl, I.kept (t' := tk') (h' := G) (fun b u z => (gk b (nb z)).trans (k' b u (nb z) (kk b u z))), fun b o z => ?_, ge, e', ⟨rfl, rfl⟩, rfl, rfl, hn, rfl, I.bare, raises_own S.T.exC S.T.tyC, h⟩
  by_cases hb : b = hp'.objs.size + 1
  · rw [hb, ge] at z; cases z
  · exact (gk b hb).symm.trans z
end
end Il
end
section
set_option Elab.async false
set_option linter.all false
set_option maxRecDepth 100000
set_option maxHeartbeats 2000000
/-! raise, try .. except. -/
namespace Il
open PySem PySem.Spec L2
section
variable {X : Cx} {F : Fc} {c : Nat} {C : Addr} {e : Expr} {pos pos' : Pos} {xa : Ex} {f : Str}
theorem s_raise0 (hc : X.calm = true) (tk : Takes X (wF F)) (mk : PMk X e (fun _ H Q => Q (.ref C) none H)) (hx : F.xt c = (C, none)) : PS X (.Raise (some e) none pos) (SS F (sRaise0 c)) :=
  wkS (ps_raise hc tk mk) fun D σ H h => by
    obtain ⟨en, st, g, rel, go⟩ := h
    refine ⟨en, st, g, c, none, rel, ?_, go⟩
    unfold ExR
    rw [hx]
    exact ⟨rfl, rfl⟩
end
/-! ### try -/
/-- the suite: the caught error stands in a slot -/
abbrev Fc.su (F : Fc) (a : Addr) (cls : Value) (d : Option Addr) : Fc := { F with EW := fun _ _ _ _ => False, sx := fun c f v g H => F.sx c f v g H ∨ (v = .ref a ∧ ExR F.xt g H c f cls d) }
/-- the body -/
abbrev Fc.tr (F : Fc) (EW : Nat → Option D → En → Store → Prop) (lk : Gh → Hp → Prop) : Fc := { F with EW := EW, lk := lk }
section
variable {F : Fc} {σ : L2.St} {H H' : Hp} {en : En} {st : Store} {g g' : Gh}
theorem ExR.step {xt : ExT} {c : Nat} {f : Option D} {cls : Value} {d : Option Addr} (h : ExR xt g H c f cls d) (s : SStep g H g' H') : ExR xt g' H' c f cls d := by
  unfold ExR at h ⊢
  refine ⟨h.1, ?_⟩
  have h2 := h.2
  split at h2
  · exact h2
  · obtain ⟨a, v, e1, e2, e3, e4⟩ := h2
    exact ⟨a, v, e1, s.keep a _ e2 e4 nofun, e3.step s, s.notW e4 (is_some e2)⟩
  · exact h2.elim
theorem Rel.suite (r : Rel F σ H en st g) {a : Addr} {cls : Value} {d : Option Addr} {c i : Nat} {f : Option D} (hi : i < en.length) (ex : ExR F.xt g H c f cls d) : Rel (F.su a cls d) (σ.set i (some (.ref a))) H (en.set i (some (.exn c f))) st g := by
  have r1 := r.drop i
  have hl := r.len
  refine ⟨by simp [hl], fun j s ej => ?_, fun j k as bs e1 e2 ne => ?_, r.sto, r.ext, ⟨r.ok.kk, r.ok.tr0, fun c f v g H g' H' z s => z.elim (fun z => .inl (r.ok.sx _ _ _ _ _ _ _ z s)) fun z => .inr ⟨z.1, z.2.step s⟩, r.ok.th, r.ok.lk⟩, r.lk⟩
  · by_cases q : i = j
    · subst q
      rw [List.getElem?_set_self hi] at ej
      cases ej
      exact ⟨_, by rw [List.getElem?_set_self (by rw [hl]; exact hi)], .inr ⟨rfl, ex⟩⟩
    · rw [List.getElem?_set_ne q] at ej
      rw [List.getElem?_set_ne q]
      have z := r.sl j s ej
      cases s with
      | fro _ => exact z
      | own _ => exact z
      | exn c' f' =>
        obtain ⟨v, e1, e2⟩ := z
        exact ⟨v, e1, .inl e2⟩
      | thk _ => exact z
  · have a1 : i ≠ j := fun q => by
      subst q
      rw [List.getElem?_set_self hi] at e1
      cases e1
    have a2 : i ≠ k := fun q => by
      subst q
      rw [List.getElem?_set_self hi] at e2
      cases e2
    rw [List.getElem?_set_ne a1] at e1
    rw [List.getElem?_set_ne a2] at e2
    rw [List.getElem?_set_ne a1, List.getElem?_set_ne a2]
    exact r.dj j k as bs e1 e2 ne
theorem noExn_get {i : Nat} {s : Sl} (h : (noExn en)[i]? = some (some s)) : en[i]? = some (some s) ∧ ∀ c f, s ≠ .exn c f := by
  unfold noExn at h
  rw [List.getElem?_map] at h
  cases q : en[i]? with
  | none => rw [q] at h; cases h
  | some o =>
    rw [q] at h
    simp only [Option.map_some, Option.some.injEq] at h
    split at h
    · cases h
    · rename_i hne
      subst h
      exact ⟨rfl, fun c f z => hne c f (by rw [z])⟩
theorem Rel.unsuite {a : Addr} {cls : Value} {d : Option Addr} (ok : F.Ok) (r : Rel (F.su a cls d) σ H en st g) : Rel F σ H (noExn en) st g := by
  refine ⟨by rw [r.len]; simp [noExn], fun j s ej => ?_, fun j k as bs e1 e2 ne => r.dj j k as bs (noExn_get e1).1 (noExn_get e2).1 ne, r.sto, r.ext, ok, r.lk⟩
  obtain ⟨e1, e2⟩ := noExn_get ej
  have z := r.sl j s e1
  cases s with
  | fro _ => exact z
  | own _ => exact z
  | exn c f => exact absurd rfl (e2 c f)
  | thk _ => exact z
theorem Rel.ofTr {EW : Nat → Option D → En → Store → Prop} {lk : Gh → Hp → Prop} (ok : F.Ok) (r : Rel (F.tr EW lk) σ H en st g) (hl : F.lk g H) : Rel F σ H en st g := ⟨r.len, r.sl, r.dj, r.sto, r.ext, ok, hl⟩
theorem Rel.toTr {EW : Nat → Option D → En → Store → Prop} {lk : Gh → Hp → Prop} (r : Rel F σ H en st g) (h : ∀ g H g' H', lk g H → SStep g H g' H' → lk g' H') (hl : lk g H) : Rel (F.tr EW lk) σ H en st g := ⟨r.len, r.sl, r.dj, r.sto, r.ext, ⟨r.ok.kk, r.ok.tr0, r.ok.sx, r.ok.th, h⟩, hl⟩
end
section
variable {X : Cx} {F : Fc} {x n : Str} {cC : Value} {i : Nat} {body suite : List Stmt} {b₀ : Stmt} {np pos pos' : Pos} {clsf : Nat → Option Bool} {mb mh : Bk}
theorem s_try (hs : X.stack = X.env :: X.outer) (hf : X.env.frame = some X.env.locals) (hN : X.N.Nodup) (hi : X.N[i]? = some n) (hln : X.env.kindOf n = some .local) (hc : Names X x cC) (tk : Takes X (wF F))
    (hcls : ∀ c b, clsf c = some b → PySem.W.exmOne X.K (.ref (F.xt c).1) cC = some b)
    (hb : ∀ (EW : Nat → Option D → En → Store → Prop) (lk : Gh → Hp → Prop) (pn : List (Addr × Obj)) (xe : Value → Shared → Prop), Takes (X.tr pn xe) (wF (F.tr EW lk)) → PassesOwn (model X.prog X.w) X.A X.env xe → PSs (X.tr pn xe) body (SS (F.tr EW lk) mb))
    (hsu : ∀ (a : Addr) (oe : Obj) (cls : Value) (d : Option Addr) (pn : List (Addr × Obj)), Zc cls d oe → (∃ vs, oe.data = .fields vs) → PSs (X.suite a ((a, oe) :: pn)) (b₀ :: suite) (SS (F.su a cls d) mh)) :
    PS X (.Try body [.ExceptHandler (some (.Name x np)) (some n) (b₀ :: suite) pos'] [] [] pos) (SS F (sTry i clsf mb mh)) := by
  refine wkS (ps_try_as (Wout := wF F) (tb := fun W D σ H => ∃ EW lk, (∀ cls d σ H, σ.length = X.N.length → wF (F.tr EW lk) cls d σ H → W cls d σ H) ∧ SS (F.tr EW lk) mb D σ H) (ts := fun a cls d => SS (F.su a cls d) mh)
    hs hf hN hi hln hc tk (fun W pn xe tk' po => ⟨fun pins s σ H D I h => ?_⟩) hsu) fun D σ H h => ?_
  · obtain ⟨EW, lk, hW, h⟩ := h
    refine (hb EW lk pn xe (fun u s' hx => tk' u s' ?_) po).run pins s σ H D I h
    obtain ⟨a, B, sI, pins, σ, H, cls, d, e, J, nb, up, sky, na, os, ag, w⟩ := hx
    exact ⟨a, B, sI, pins, σ, H, cls, d, e, J, nb, up, sky, na, os, ag, hW _ _ _ _ J.len w⟩
  · obtain ⟨en, st, g, rel, go⟩ := h
    have ok := rel.ok
    have lks : ∀ g1 H1 g2 H2, (F.lk g1 H1 ∧ SStep g H g1 H1) → SStep g1 H1 g2 H2 → (F.lk g2 H2 ∧ SStep g H g2 H2) := fun g1 H1 g2 H2 z s => ⟨ok.lk _ _ _ _ z.1 s, z.2.trans s⟩
    refine ⟨fun c f en1 s1 => match clsf c with
      | some true => GoS F D g H ((mh (en1.set i (some (.exn c f))) s1).fin i)
      | some false => F.EW c f en1 s1
      | none => False, fun g1 H1 => F.lk g1 H1 ∧ SStep g H g1 H1, fun cls d σ1 H1 hlen hw => ?_, en, st, g, rel.toTr lks ⟨rel.lk, .refl⟩, ?_⟩
    · obtain ⟨en1, s1, g1, c, f, rel1, ex, hE⟩ := hw
      have ek : cls = .ref (F.xt c).1 := ex.1
      have relF : Rel F σ1 H1 en1 s1 g1 := rel1.ofTr ok rel1.lk.1
      have hst : SStep g H g1 H1 := rel1.lk.2
      have hE : (match clsf c with
        | some true => GoS F D g H ((mh (en1.set i (some (.exn c f))) s1).fin i)
        | some false => F.EW c f en1 s1
        | none => False) := hE
      cases hcc : clsf c with
      | none => rw [hcc] at hE; exact hE.elim
      | some b =>
        rw [hcc] at hE
        refine ⟨b, by rw [ek]; exact hcls c b hcc, fun hb1 a na => ?_, fun hb1 => ?_⟩
        · subst hb1
          have hi' : i < en1.length := by
            rw [← relF.len, hlen]
            exact (List.getElem?_eq_some_iff.mp hi).1
          refine ⟨_, s1, g1, relF.suite hi' ex, ?_⟩
          have key : ∀ {σ' : L2.St} {H' : Hp} {en' : En} {st' : Store} {g' : Gh}, Rel (F.su a cls d) σ' H' en' st' g' → Rel F (σ'.set i none) H' (noExn (en'.set i none)) st' g' := fun r => (r.drop i).unsuite ok
          cases q : mh (en1.set i (some (.exn c f))) s1 with
          | next en2 s2 =>
            rw [q] at hE
            exact fun σ' H' g' r s => hE _ H' g' (key r) (hst.trans s)
          | brk en2 s2 =>
            rw [q] at hE
            exact fun σ' H' g' r s => hE _ H' g' (key r) (hst.trans s)
          | cont en2 s2 =>
            rw [q] at hE
            exact fun σ' H' g' r s => hE _ H' g' (key r) (hst.trans s)
          | ret d' s2 =>
            rw [q] at hE
            exact fun v σ' H' en' g' r s rp => hE v σ' H' _ g' (r.unsuite ok) (hst.trans s) rp
          | exc c' f' en' st' => rw [q] at hE; exact hE.elim
          | stuck => rw [q] at hE; exact hE.elim
        · subst hb1
          exact ⟨en1, s1, g1, c, f, relF, ex, hE⟩
    · unfold sTry at go
      cases q : mb en st with
      | next en2 s2 =>
        rw [q] at go
        exact fun σ' H' g' r s => go σ' H' g' (r.ofTr ok r.lk.1) s
      | brk en2 s2 =>
        rw [q] at go
        exact fun σ' H' g' r s => go σ' H' g' (r.ofTr ok r.lk.1) s
      | cont en2 s2 =>
        rw [q] at go
        exact fun σ' H' g' r s => go σ' H' g' (r.ofTr ok r.lk.1) s
      | ret d' s2 =>
        rw [q] at go
        exact fun v σ' H' en' g' r s rp => go v σ' H' en' g' (r.ofTr ok r.lk.1) s rp
      | exc c' f' en' st' =>
        rw [q] at go
        show (match clsf c' with
          | some true => GoS F D g H ((mh (en'.set i (some (.exn c' f'))) st').fin i)
          | some false => F.EW c' f' en' st'
          | none => False)
        cases hcc : clsf c' with
        | none => simp only [hcc] at go; exact go.elim
        | some b =>
          cases b with
          | true => simp only [hcc] at go; exact go
          | false => simp only [hcc] at go; exact go
      | stuck => rw [q] at go; exact go.elim
end
end Il
end
section
set_option Elab.async false
set_option linter.all false
set_option maxRecDepth 100000
set_option maxHeartbeats 2000000
/-! Caught errors looked at; globals; instances. -/
namespace Il
open PySem PySem.Spec L2
section
variable {X : Cx} {F : Fc} {pos p np cp : Pos} {n cn x : Str} {i : Nat}
/-- isinstance(e, C), e the caught error, no field told -/
theorem q_isE {a : Addr} {oe : Obj} {cls : Value} {d : Option Addr} {pn : List (Addr × Obj)} {sub : Nat → Option Bool} {cv : V} {cvv : Value} (hz : Zc cls d oe) (hf : ∃ vs, oe.data = .fields vs)
    (hg : Gl X "isinstance") (hm : X.mg "isinstance" = none) (hcl : PE (X.suite a ((a, oe) :: pn)) (.Name cn cp) (tC cv)) (hcv : ∀ u, RelV cv u → u = cvv) (hN : X.N[i]? = some n) (hv : Vis X.env.scope n) (hd : (n == ("__debug__" : Str)) = false) (hcd : (n == ("__classdict__" : Str)) = false)
    (hsub : ∀ c b, sub c = some b → (F.xt c).2 = none ∧ ExcC X.K (F.xt c).1 ∧ PySem.W.kitOne X.K (.ref (F.xt c).1) cvv = some b) (hF : ∀ c f v g H, ¬ F.sx c f v g H) :
    PE (X.suite a ((a, oe) :: pn)) (.Call (.Name "isinstance" p) [.Name n np, .Name cn cp] [] pos) (SE (F.su a cls d) (xIsE i sub)) := by
  refine ⟨fun pins s σ H Q I h => ?_⟩
  obtain ⟨en, st, g, rel, go⟩ := h
  unfold xIsE at go
  split at go
  case h_2 => exact go.elim
  rename_i c f e
  obtain ⟨v, ev, hx⟩ := rel.sl i _ e
  have hx : F.sx c f v g H ∨ (v = .ref a ∧ ExR F.xt g H c f cls d) := hx
  rcases hx with hx | ⟨rfl, ex⟩
  · exact absurd hx (hF _ _ _ _ _)
  split at go
  case h_2 => exact go.elim
  rename_i b hs
  obtain ⟨h1, h2, h3⟩ := hsub c b hs
  have ec : cls = .ref (F.xt c).1 := ex.1
  have ed : d = none := by
    have z := ex.2
    rw [h1] at z
    cases f with
    | none => exact z
    | some _ => exact z.elim
  subst ec ed
  refine (pe_callB (X := X.suite a ((a, oe) :: pn)) (call_isE (X := X) h2 hz hf) hg hm (by decide +kernel) (pa_cons (pe_var hN hv hd hcd) (pa_cons hcl pa_nil rfl) rfl) (by decide) (by decide) rfl rfl).run pins s σ H Q I ?_
  refine ⟨.ref a, ev, cv, cvv, b, rfl, hcv, h3, ?_⟩
  exact go.here rel (.bl b)
/-- a global int -/
theorem q_globI {j : Int} {t : Tok} (hg : Gl X x) (hm : X.mg x = some (.int j t)) (hd : (x == ("__debug__" : Str)) = false) : PE X (.Name x pos) (SE F (xC (.int j))) := q_const (pe_glob (v := .int j) hg hm ⟨t, rfl⟩ hd) fun _ _ => .int j
end
/-! ### instances -/
section
variable {X : Cx} {F : Fc} {k : Nat} {C f : Addr} {fd : FuncData} {ps : List Str} {x : Str} {p pos apos : Pos} {e o : Expr} {es : List Expr} {la : Lx} {Cs : Calls} {nf c : Nat} {xo xv : Ex} {fl m : Str}
theorem run_new {sp : Sp} {E : XK} {pins : List (Addr × Obj)} {σ : L2.St} {H : Hp} {s : Shared} {Q : VK} {us : List Value} {vs : List V} (M : Mk X.K C f) (FO : FnG X.prog X.w X.K X.mg X.base k f fd ps sp) (hr : RG (k + 1) X.A) (hb : Binds X.K fd ps [])
    (hx : PassesAt (L2.CX X.prog X.w) X σ E) (I : Inv X pins σ H s) (r : Vals vs us)
    (h : ∀ x dx, H x = none → H dx = none → dx ≠ x → sp (.ref x :: vs) (upd (upd H dx (.own x)) x (.ins C dx [])) (fun v H2 => v = .non ∧ Q (.ref x) H2) E) :
    wpAny (model X.prog X.w) X.A (call (.ref C) us) (EP X pins σ Q) X.xe s := by
  have fr1 : H (s.heap.objs.size + 1) = none := I.hok.fresh (Nat.le_succ _)
  have fr0 : H s.heap.objs.size = none := I.hok.fresh (Nat.le_refl _)
  have hq := h _ _ fr1 fr0 (Nat.ne_of_lt (Nat.lt_succ_self _))
  have J := Inv.made (C := C) I
  have rr : Vals (V.ref (s.heap.objs.size + 1) :: vs) (Value.ref (s.heap.objs.size + 1) :: us) := .cons rfl r
  have hl : (Value.ref (s.heap.objs.size + 1) :: us).length = ps.length := by
    rw [← rr.length]
    exact FO.len _ _ _ _ hq
  have hbb := hb { s with heap := (s.heap.push PySem.W.emptyDict).push (PySem.W.instObj C s.heap.objs.size) } (Value.ref (s.heap.objs.size + 1) :: us) J.kIn (by rw [List.append_nil]; exact hl)
  rw [List.append_nil] at hbb
  have run := FO.run _ X.stack _ _ ⟨Value.ref (s.heap.objs.size + 1) :: us, []⟩ _ _ _ E (hr.make C us []) (J.env0.make C us []) hbb rr hq
  refine wpAny_call (make_map (f := f) I.kIn M.makes M.init (beq_iff_eq.mp M.fn) (codeAny_mono run fun r s' hq' => ?_))
  match r, hq' with
  | .error e, hq' => exact hx pins _ _ e s' J hq'
  | .ok (.ret u), hq' =>
    obtain ⟨v, H', I3, rv, ev, q3⟩ := J.after hq'
    subst ev
    exact ⟨rv, ⟨V.ref (s.heap.objs.size + 1), H', I3, rfl, q3⟩⟩
  | .ok .next, hq' => exact hq'.elim
  | .ok .brk, hq' => exact hq'.elim
  | .ok .cont, hq' => exact hq'.elim
/-- a new object in the store -/
theorem Rel.born {σ : L2.St} {H H1 : Hp} {en : En} {st : Store} {g : Gh} (r : Rel F σ H en st g) {a : Addr} {o : O} (na : H a = none) (e : Ext H H1) (n1 : H1 a ≠ none) (ob : ObR F.ct ⟨g.K, g.A ++ [a], fun b => g.W b ∨ b = a⟩ H1 a o) :
    Rel F σ H1 en (st ++ [o]) ⟨g.K, g.A ++ [a], fun b => g.W b ∨ b = a⟩ ∧ Step g H ⟨g.K, g.A ++ [a], fun b => g.W b ∨ b = a⟩ H1 := by
  have t := r.sto
  have st1 : Step g H ⟨g.K, g.A ++ [a], fun b => g.W b ∨ b = a⟩ H1 := ⟨rfl, ⟨[a], rfl, fun b hb => by rw [List.mem_singleton.mp hb]; exact na⟩, fun b u h _ _ => e b u h, fun b h => e.some h, fun b h => .inl h, fun b h => h.imp id fun z => by rw [z]; exact na⟩
  have nA : a ∉ g.A := fun z => r.newW na (t.aw a z)
  refine ⟨r.step st1 ⟨by simp [t.len], ?_, fun b hb => ?_, fun b hb => ?_, fun b hb => ?_, fun n o' b h1 h2 => ?_⟩, st1⟩
  · rw [List.nodup_append]
    exact ⟨t.nd, by simp, fun x hx y hy => fun z => nA (by rw [List.mem_singleton.mp hy] at z; rw [← z]; exact hx)⟩
  · rcases List.mem_append.mp hb with hb | hb
    · exact .inl (t.aw b hb)
    · exact .inr (List.mem_singleton.mp hb)
  · rcases hb with hb | hb
    · exact e.some (t.tr b hb)
    · rw [hb]; exact n1
  · rcases hb with hb | hb
    · exact nt_keep (t.tr b hb) (t.nt b hb) (e b)
    · rw [hb]; exact ob.nt
  · by_cases hn : n < st.length
    · rw [List.getElem?_append_left hn] at h1
      rw [List.getElem?_append_left (by rw [t.len]; exact hn)] at h2
      exact (t.ob n o' b h1 h2).step (st1.s t.aw) (e b)
    · have hl := t.len
      have hn' : n = st.length := by
        have := (List.getElem?_eq_some_iff.mp h1).1
        simp at this
        omega
      subst hn'
      rw [List.getElem?_append_right (Nat.le_refl _)] at h1
      rw [List.getElem?_append_right (by omega), hl] at h2
      simp at h1 h2
      subst h1 h2
      exact ob
theorem new_go (hK : F.K = X.K) {σ : L2.St} {H : Hp} {Q : VK} {en : En} {st : Store} {g : Gh} {ds : List D} {vs : List V} {n : Nat} (rel : Rel F σ H en st g) (r : RepL g H ds vs) (hl : ds.length + 1 = n) (hC : F.ct c = C)
    (go : Go F Rep σ en g H Q (match Cs nf (.ref st.length :: ds) (st ++ [.ins c []]) with
      | .ok .non s2 => .ok (.ref st.length) s2
      | .ok _ _ => .stuck
      | .exc k v s2 => .exc k v s2
      | .stuck => .stuck)) :
    ∀ x dx, H x = none → H dx = none → dx ≠ x → spM X.K F.ct F.xt (Cs nf) n (.ref x :: vs) (upd (upd H dx (.own x)) x (.ins C dx [])) (fun v H2 => v = .non ∧ Q (.ref x) H2) (WE (wF F) σ) := by
  intro x dx nx ndx hne
  have e1 : Ext H (upd (upd H dx (.own x)) x (.ins C dx [])) := fun a u h => by
    rw [upd_ne (ne_of_none h nx), upd_ne (ne_of_none h ndx)]; exact h
  obtain ⟨rel1, st1⟩ := rel.born (a := x) (o := .ins c []) nx e1 (by rw [upd_same]; simp) ⟨dx, [], by rw [upd_same, hC], .nil⟩
  have gK : g.K = X.K := by
    have z := rel.ext.K
    rw [rel.ok.kk] at z
    exact z.trans hK
  have hA : (⟨g.K, g.A ++ [x], fun b => g.W b ∨ b = x⟩ : Gh).A[st.length]? = some x := by
    show (g.A ++ [x])[st.length]? = some x
    rw [← rel.sto.len]; simp
  refine ⟨⟨g.K, g.A ++ [x], fun b => g.W b ∨ b = x⟩, .ref st.length :: ds, st ++ [.ins c []], gK, .cons (.ref hA) (r.step (st1.s rel.sto.aw)), rel1.sto, by simp [← hl, r.length], ?_⟩
  cases q : Cs nf (.ref st.length :: ds) (st ++ [.ins c []]) with
  | ok d s2 =>
    rw [q] at go
    cases d with
    | non =>
      intro v H' g' s t rp
      cases rp
      refine ⟨rfl, go (.ref x) H' g' (rel1.step s t) (st1.trans s) (.ref ?_)⟩
      obtain ⟨B, eB, _⟩ := s.A
      rw [eB, List.getElem?_append_left (List.getElem?_eq_some_iff.mp hA).1]
      exact hA
    | _ => exact go.elim
  | exc cx fx s2 =>
    rw [q] at go
    exact fun cls dd H' g' s t ex => ⟨en, s2, g', cx, fx, rel1.step s t, ex, go⟩
  | stuck => rw [q] at go; exact go
theorem q_new (hK : F.K = X.K) (tk : Takes X (wF F)) (M : Mk X.K C f) (FO : FnG X.prog X.w X.K X.mg X.base k f fd ps (spM X.K F.ct F.xt (Cs nf) ps.length)) (hr : RG (k + 1) X.A) (hg : Gl X x) (hm : X.mg x = some (.ref C)) (hC : F.ct c = C) (hb : Binds X.K fd ps [])
    (ha : PA X (e :: es) (SA F la)) (hd : (x == ("__debug__" : Str)) = false) (hs : (e :: es).all (fun e => !isStar e) = true) (hll : ∀ en st ds s1, la en st = .ok ds s1 → ds.length + 1 = ps.length) : PE X (.Call (.Name x p) (e :: es) [] pos) (SE F (xNew Cs nf c la)) := by
  have hs' := hs
  simp only [List.all_cons, Bool.and_eq_true, Bool.not_eq_true'] at hs'
  refine ⟨fun pins s σ H Q I h => ?_⟩
  obtain ⟨en, st, g, rel, go⟩ := h
  refine wpAny_Call_Name_kw (ld_glob I hg hm ?_ hd)
  refine PySem.W.callWith_K (h₀ := X.base) I.ok.mod.kin M.kp (thn (ha.run pos pins s σ H (fun vs H1 => ∀ x dx, H1 x = none → H1 dx = none → dx ≠ x → spM X.K F.ct F.xt (Cs nf) ps.length (.ref x :: vs) (upd (upd H1 dx (.own x)) x (.ins C dx [])) (fun v H2 => v = .non ∧ Q (.ref x) H2) (WE (wF F) σ)) I ⟨en, st, g, rel, ?_⟩) fun us s1 hh => ?_) (star_of hs'.1) (plain_of hs'.2)
  · exact Go.bind go fun ds s1 vs H1 g1 e1 rel1 st1 r1 go1 => new_go hK rel1 r1 (hll _ _ _ _ e1) hC go1
  · obtain ⟨vs, H1, I1, r, q⟩ := hh
    exact ⟨I1.kIn, run_new M FO hr hb (passAt tk σ) I1 r q⟩
/-! ### fields -/
theorem repF_lookup {g : Gh} {H : Hp} {f : Str} {d : D} : ∀ {fs : List (Str × D)} {vs : List (Str × V)}, RepF g H fs vs → fs.lookup f = some d → ∃ v, vs.lookup f = some v ∧ Rep g H d v
  | _, _, .nil, h => by cases h
  | (x, d0) :: fs, (_, v0) :: vs, .cons r t, h => by
    simp only [List.lookup] at h ⊢
    split at h
    · cases h; exact ⟨v0, rfl, r⟩
    · exact repF_lookup t h
theorem repF_len {g : Gh} {H : Hp} : ∀ {fs : List (Str × D)} {vs : List (Str × V)}, RepF g H fs vs → fs.length = vs.length
  | _, _, .nil => rfl
  | _, _, .cons _ t => by simp [repF_len t]
theorem repF_put {g : Gh} {H : Hp} {f : Str} {d : D} {v : V} (r : Rep g H d v) : ∀ {fs : List (Str × D)} {vs : List (Str × V)}, RepF g H fs vs → RepF g H (putD f d fs) (putF f v vs)
  | _, _, .nil => .cons r .nil
  | (x, d0) :: fs, (_, v0) :: vs, .cons r0 t => by
    simp only [putD, putF]
    split
    · exact .cons r t
    · exact .cons r0 (repF_put r t)
theorem q_fld {ok : Nat → Bool} (he : PE X o (SE F xo)) (hb : attributeBase o fl X.env (eval o X.env) = eval o X.env) (hok : ∀ c, ok c = true → Cls X.K (F.ct c) ∧ NoAttr X.K (F.ct c) fl) : PE X (.Attribute o fl pos) (SE F (xFld ok fl xo)) := wkE (pe_fld he hb) fun σ H Q h => by
  obtain ⟨en, st, g, rel, go⟩ := h
  refine ⟨en, st, g, rel, Go.bind go fun d s1 v H1 g1 e1 rel1 st1 r1 go1 => ?_⟩
  split at go1
  case h_2 => exact go1.elim
  rename_i n
  split at go1
  case h_2 => exact go1.elim
  rename_i c fs hs
  split at go1
  case isFalse => exact go1.elim
  rename_i hc
  obtain ⟨d2, e2, go2⟩ := Go.ofOpt go1
  cases r1 with
  | ref hA =>
    obtain ⟨dx, vs, q1, q2⟩ := rel1.sto.ob n _ _ hs hA
    obtain ⟨v2, l2, r2⟩ := repF_lookup q2 e2
    exact ⟨_, _, dx, vs, v2, rfl, q1, (hok c hc).1, (hok c hc).2, l2, go2.here rel1 r2⟩
theorem s_fldSet {ok : Nat → Bool} {value : Expr} {pos' : Pos} (ha : PE X o (SE F xo)) (hv : PE X value (SE F xv)) (hs : swapsWith value (some (.Attribute o fl pos')) pos.line X.env = pure false) (hok : ∀ c, ok c = true → Cls X.K (F.ct c) ∧ NoAttr X.K (F.ct c) fl) :
    PS X (.Assign [.Attribute o fl pos'] value pos) (SS F (sFldSet ok fl xo xv)) := wkS (ps_fld ha hv hs) fun D σ H h => by
  obtain ⟨en, st, g, rel, go⟩ := h
  refine ⟨en, st, g, rel, GoS.ofRes rel go fun y s1 vy H1 g1 e1 rel1 st1 r1 go1 => ?_⟩
  refine ⟨en, s1, g1, rel1, GoS.ofRes rel1 go1 fun d s2 v H2 g2 e2 rel2 st2 r2 go2 => ?_⟩
  split at go2
  case h_2 => exact go2.elim
  rename_i n
  split at go2
  case h_2 => exact go2.elim
  rename_i c fs hs2
  split at go2
  case isFalse => exact go2.elim
  rename_i hc
  simp only [Bool.and_eq_true, decide_eq_true_eq] at hc
  cases r2 with
  | ref hA =>
    rename_i a
    obtain ⟨dx, vs, q1, q2⟩ := rel2.sto.ob n _ _ hs2 hA
    refine ⟨a, _, dx, vs, rfl, q1, (hok c hc.1).1, (hok c hc.1).2, by rw [← repF_len q2]; exact hc.2, ?_⟩
    have sc : Step g2 H2 g2 (upd H2 a (.ins (F.ct c) dx (putF fl vy vs))) := step_cell (List.mem_of_getElem? hA)
    have ry := (r1.step (st2.s rel1.sto.aw)).step (sc.s rel2.sto.aw)
    have q3 := q2.step (sc.s rel2.sto.aw)
    have t2 := sto_set (o := .ins c (putD fl y fs)) (u := .ins (F.ct c) dx (putF fl vy vs)) rel2.sto hA ⟨dx, _, upd_same, repF_put ry q3⟩
    exact go2 σ _ g2 (rel2.step sc t2) (sc.s rel2.sto.aw)
/-- {} as a shared dict -/
theorem q_dct0 : PE X (.Dict [] [] pos) (SE F xDct0) := wkE pe_dnewK fun σ H Q h => by
  obtain ⟨en, st, g, rel, go⟩ := h
  intro p np
  obtain ⟨rel1, st1⟩ := rel.born (a := p) (o := .dct []) np (Ext.new np) (by rw [upd_same]; simp) ⟨[], upd_same, .nil⟩
  refine go (.ref p) _ _ rel1 st1 (.ref ?_)
  show (g.A ++ [p])[st.length]? = some p
  rw [← rel.sto.len]; simp
end
end Il
end
section
set_option Elab.async false
set_option linter.all false
set_option maxRecDepth 100000
set_option maxHeartbeats 3200000
/-! sorted(set(xs)), the items pairs of ints. -/
namespace Il
open PySem PySem.Spec PyProof.Rows L2
section
variable {P : Program} {w : World} {A : Around} {E : Value → Shared → Prop} {s : Shared}
abbrev freshSet (w : World) : Obj := { cls := .type "set", dict := none, data := .set #[] 0 (.fresh 0 0 (!w.params.followText "set-order")) }
/-- set(xs), xs a tuple -/
theorem set_of_tuple {l : Addr} {items : Array Value} (ks : List (Addr × List Int)) {Q : Value → Shared → Prop} (calm : A.handled = none) (isT : s.heap.IsTuple l items)
    (refs : items.toList = ks.map fun p => Value.ref p.1) (tups : ∀ p ∈ ks, IsT P w s.heap p.2 p.1) (few : ks.length < 64) (room : A.units + 3 < cLine)
    (fin : ∀ (h' : Heap) (tk : Nat) L es ep t, SetTR P w h' s.heap.objs.size L es ep t → Got ks ks.length L → (∀ b o, s.heap.get? b = some o → h'.get? b = some o) →
      Q (.ref s.heap.objs.size) { s with heap := h', toks := tk }) :
    wpAny (model P w) A (call (.type "set") [.ref l]) Q E s := by
  have count : items.size = ks.length := by
    have z := congrArg List.length refs
    rwa [Array.length_toList, List.length_map] at z
  have cs := F.called_set
  obtain ⟨c, tl, m0⟩ := cs.mro
  have m1 := cs.made
  have m2 := cs.sub
  have m3 := cs.notType
  have m4 := cs.canCreate
  have m5 := F.typeCall_set_1 (.ref l)
  refine wpAny_call (codeAny_of_tree ?_)
  show wpAny _ _ (callAny (.type "set") _) _ _ _
  refine wpAny_pure ⟨Code.quiet_builtin _ (by decide +kernel), codeAny_builtin F.entry_type_call ?_⟩; rw [Around.under_plain (weight_type_call_type "set" [.ref l] []) rfl]
  repeat (any_goals (first | assumption | wp_step))
  refine codeAny_mono (code_set_led1 (.ref l) (E := E) (Q₁ := fun obj s₁ => obj = .ref s.heap.objs.size ∧ s₁ = { s with heap := s.heap.push (freshSet w) }) ⟨rfl, rfl⟩) fun r s₁ hr => ?_
  match r, hr with
  | .error e, hr => exact hr
  | .ok .next, hr => exact hr.elim
  | .ok .brk, hr => exact hr.elim
  | .ok .cont, hr => exact hr.elim
  | .ok (.ret obj), hr =>
    obtain ⟨rfl, rfl⟩ := hr
    have at1 : (s.heap.push (freshSet w)).get? s.heap.objs.size = some (freshSet w) := Heap.get?_push_size _ rfl
    have ty1 : Shared.TypeIs { s with heap := s.heap.push (freshSet w) } (.ref s.heap.objs.size) "set" := ⟨_, at1, rfl⟩
    have i1 := cs.init.lookup
    have i2 := cs.init.bind (.ref s.heap.objs.size)
    repeat (any_goals (first | assumption | wp_step))
    refine codeAny_mono (codeAny_call_builtin (R := wants (fun r s₂ => r = .none ∧ ∃ h' tk L es ep t, s₂ = { s with heap := h', toks := tk } ∧
      SetTR P w h' s.heap.objs.size L es ep t ∧ Got ks ks.length L ∧ (∀ b o, s.heap.get? b = some o → h'.get? b = some o)) E)
      cs.init.plain F.entry_set_init (check_set_init_1 ty1 ?_)) fun r₂ s₂ hr₂ => ?_
    · obtain ⟨ol, hol, hcl, nl, hdl⟩ := isT
      obtain ⟨ocls, odict, odata, oslots⟩ := ol
      simp only at hcl hdl
      subst hcl; subst hdl
      have q0 : (s.heap.push (freshSet w)).get? l = some { cls := .type "tuple", dict := odict, data := .seq items nl, slots := oslots } := Heap.get?_push_of_some _ hol
      have q1 := F.sub_tuple_set
      have q2 := F.sub_tuple_frozenset
      have q3 : (Value.type "tuple" == Value.type "dict") = false := by decide
      have q4 : (s.heap.push (freshSet w)).IsTuple l items := ⟨_, q0, rfl, nl, rfl⟩
      unfold Builtin.«set.__init__» noKeywords Builtin.Frozenset.updateFrom
      generalize hPI : pyIter = PI
      wp_walk
      subst hPI
      refine wpAny_pyIter_tuple q4 (wpAny_bind (wpAny_runValue ?_))
      have lt : l < s.heap.objs.size := Heap.lt_size hol
      have hh3 : A.in1.in1.in1.handled = none := by simp [calm]
      have sz1 : (s.heap.push (freshSet w)).objs.size = s.heap.objs.size + 1 := Heap.size_push ..
      have ne1 : l ≠ (s.heap.push (freshSet w)).objs.size := by rw [sz1]; exact Nat.ne_of_lt (Nat.lt_succ_of_lt lt)
      have nin : s.heap.objs.size ∉ [(s.heap.push (freshSet w)).objs.size, l] := by
        rw [sz1]
        intro z
        rcases List.mem_cons.mp z with z | z
        · exact absurd z (Nat.ne_of_lt (Nat.lt_succ_self _))
        · exact absurd (List.mem_singleton.mp z) (Nat.ne_of_gt lt)
      have val : ∀ (i : Nat) (v : Value), items[i]? = some v → ∃ p, ks[i]? = some p ∧ v = .ref p.1 := by
        intro i v hv
        have z : items.toList[i]? = some v := by rw [Array.getElem?_toList]; exact hv
        rw [refs, List.getElem?_map] at z
        obtain ⟨p, e1, e2⟩ := Option.map_eq_some_iff.mp z
        exact ⟨p, e1, e2.symm⟩
      have none_of : ∀ b, s.heap.objs.size ≤ b → s.heap.get? b = none := fun b hb => Heap.get?_none_of_le hb
      refine set_update_tups ((Walks.tuple hh3 _ l ne1 items).toS) s.heap.objs.size nin ks count few val s.heap tups (none_of _ (Nat.le_refl _)) (fun b hb => none_of b ?n) room (items.size - 0) 0 _ (by omega) (Nat.zero_le _)
        ⟨⟨_, Heap.get?_push_size _ rfl, rfl, rfl⟩, (q4.push _)⟩ (fun b o e => Heap.get?_push_of_some _ (Heap.get?_push_of_some _ e)) ⟨[], #[], 0, _, setTR_fresh (Heap.get?_push_of_some _ at1), Got.zero ks⟩ ?R
      case n =>
        rw [List.mem_singleton.mp hb, sz1]
        exact Nat.le_succ _
      case R =>
        intro s' L es ep t hm h1 h2 h3
        obtain ⟨h', g2, d', tk', os'⟩ := s'
        obtain rfl : g2 = s.gens := hm.gens
        obtain rfl : d' = s.drawn := hm.drawn
        obtain rfl : os' = s.os := hm.os
        refine wpAny_pure ?_
        show wpAny _ _ (ret Value.none) _ _ _
        rw [count] at h2
        exact wpAny_pure ⟨rfl, h', tk', L, es, ep, t, rfl, h1, h2, h3⟩
    · match r₂, hr₂ with
      | .error e, hr₂ => exact hr₂
      | .ok .next, hr₂ => exact hr₂.elim
      | .ok .brk, hr₂ => exact hr₂.elim
      | .ok .cont, hr₂ => exact hr₂.elim
      | .ok (.ret r), hr₂ =>
        obtain ⟨rfl, h', tk, L, es, ep, t, rfl, h1, h2, h3⟩ := hr₂
        repeat (any_goals (first | assumption | wp_step))
        exact fin _ _ _ _ _ _ h1 h2 h3
/-! ### sorted(a set of pairs) -/
/-- the pair at an address -/
abbrev Row := Addr × (Int × Int)
abbrev Row.lst (p : Row) : Addr × List Int := (p.1, [p.2.1, p.2.2])
abbrev Row.dat (p : Row) : PyData := .tuple [.int p.2.1, .int p.2.2]
theorem each_refs : ∀ (l : List Row), PySem.W.EachIs (fun v b => v = Value.ref b.1) (l.map fun p => Value.ref p.1) l
  | [] => .nil
  | _ :: l => .cons rfl (each_refs l)
theorem refs_each : ∀ {out : List Value} {l : List Row}, PySem.W.EachIs (fun v b => v = Value.ref b.1) out l → out = l.map fun p => Value.ref p.1
  | _, _, .nil => rfl
  | _, _, .cons h t => by rw [List.map_cons, h, refs_each t]
theorem each_of {R : Value → Row → Prop} : ∀ (l : List Row), (∀ b ∈ l, R (.ref b.1) b) → PySem.W.EachIs R (l.map fun p => Value.ref p.1) l
  | [], _ => .nil
  | b :: l, h => .cons (h b List.mem_cons_self) (each_of l fun c hc => h c (List.mem_cons_of_mem _ hc))
theorem row_reads {h : Heap} {p : Row} (x : IsT P w h p.lst.2 p.lst.1) : Reads h (.ref p.1) p.dat [] := by
  obtain ⟨o, items, n, ho, hc, hd, hi⟩ := x
  have hi : ItemsAre (intKind P w) [p.2.1, p.2.2] items.toList := hi
  have hI := ints_of_items hi
  refine Reads.tuple (xs := [.int p.2.1, .int p.2.2]) (as := []) ho hc hd ?_
  cases hq : items.toList with
  | nil => rw [hq] at hI; cases hI
  | cons v vs =>
    rw [hq] at hI
    cases hI with
    | cons k t r =>
      cases r with
      | cons k' t' r' =>
        cases r'
        exact ReadsAll.cons (as := []) (bs := []) (.int _ _) (ReadsAll.cons (as := []) (bs := []) (.int _ _) .nil)
theorem sorted_set_pairs {a : Addr} {L : List Row} {es : Array (Int × Value)} {ep : Nat} {t : SetTable} {Q : Value → Shared → Prop} (R : SetTR P w s.heap a (L.map Row.lst) es ep t) (calm : A.handled = none) (hu : A.units + 20 < cLine)
    (fin : ∀ s' p (out : Array Value) (c : Nat) (L' : List Row), (∀ b o, s.heap.get? b = some o → s'.heap.get? b = some o) → s'.gens = s.gens → s'.os = s.os → s.heap.objs.size ≤ p →
      s'.heap.get? p = some (seqObj "list" out c) → out.toList = L'.map (fun q => Value.ref q.1) → L'.Perm L → L'.Pairwise (fun q r => leP q.2 r.2 = true) → Q (.ref p) s') :
    wpAny (model P w) A (call (.builtin "sorted") [.ref a]) Q E s := by
  obtain ⟨o, ho, hex, hd⟩ := R.ob
  refine Calls.call_function_entry kind_sorted plain_sorted entry_sorted (args_sorted1 _) ?_
  unfold Builtin.«sorted»
  refine wpAny_bind (m := checkCount "sorted" 1 1 _) (wpAny_pure ?_)
  have few : L.length < 64 := by
    have z := R.few
    rwa [List.length_map] at z
  refine wpAny_bind (collect_set (A := A.in1) calm ⟨o, ho, hex.1, hd⟩ R.fits (by rw [R.size, List.length_map]; unfold scanBound; omega) R.tab.ris R.led fun s1 vs k1 hz g1 o1 pm => ?_)
  have ees : es.toList.map (·.2) = L.map fun q => Value.ref q.1 := by
    rw [R.rows]
    unfold rowsOf
    simp only [List.map_map]
    rfl
  rw [ees] at pm
  have inL : ∀ q ∈ L, q.lst ∈ L.map Row.lst := fun q hq => List.mem_map.mpr ⟨q, hq, rfl⟩
  -- an address has one key
  have inj : ∀ q ∈ L, ∀ r ∈ L, q.1 = r.1 → q = r := fun q hq r hr e => by
    have a1 : IsT P w s.heap [q.2.1, q.2.2] q.1 := R.tup _ (inL q hq)
    have a2 : IsT P w s.heap [r.2.1, r.2.2] r.1 := R.tup _ (inL r hr)
    rw [e] at a1
    have e2 := a1.inj a2
    simp only [List.cons.injEq, and_true] at e2
    exact Prod.ext e (Prod.ext e2.1 e2.2)
  have ndL : L.Nodup := nodup_of_map (f := Row.lst) (nodup_of_map (f := (·.2)) R.nd)
  -- the values are rows, in some order
  have ex : ∀ us : List Value, (∀ v ∈ us, ∃ q ∈ L, v = Value.ref q.1) → ∃ L1 : List Row, us = L1.map (fun q => Value.ref q.1) ∧ ∀ q ∈ L1, q ∈ L := by
    intro us
    induction us with
    | nil => exact fun _ => ⟨[], rfl, fun q hq => nomatch hq⟩
    | cons v us ih =>
      intro hv
      obtain ⟨q, hq, e⟩ := hv v List.mem_cons_self
      obtain ⟨L1, e1, hs⟩ := ih fun u hu => hv u (List.mem_cons_of_mem _ hu)
      refine ⟨q :: L1, by rw [List.map_cons, e, e1], fun r hr => ?_⟩
      rcases List.mem_cons.mp hr with z | z
      · rw [z]; exact hq
      · exact hs r z
  obtain ⟨L1, e1, h1⟩ := ex vs fun v hv => by
    obtain ⟨q, hq, e⟩ := List.mem_map.mp (pm.mem_iff.mp hv)
    exact ⟨q, hq, e.symm⟩
  have ndR : (L.map fun q => Value.ref q.1).Nodup := List.pairwise_map.mpr (List.Pairwise.imp_of_mem (fun {q r} hq hr hne e => hne (inj q hq r hr (by injection e))) ndL)
  rw [e1] at pm
  have p1 : L1.Perm L := (List.perm_ext_iff_of_nodup (nodup_of_map (pm.nodup_iff.mpr ndR)) ndL).mpr fun q => ⟨h1 q, fun hq => by
    obtain ⟨r, hr, e⟩ := List.mem_map.mp (pm.mem_iff.mpr (List.mem_map.mpr ⟨q, hq, rfl⟩))
    rw [← inj r (h1 r hr) q hq (by injection e)]
    exact hr⟩
  subst e1
  refine wpAny_bind (wpAny_newList ?_ (by rw [List.length_map, p1.length_eq, sizeLine_eq]; omega))
  have at2 : (s1.heap.push (seqObj "list" (L1.map fun q => Value.ref q.1).toArray 0)).get? s1.heap.objs.size = some (seqObj "list" (L1.map fun q => Value.ref q.1).toArray 0) := Heap.get?_push_size _ rfl
  have rd : ∀ q ∈ L1, Reads (s1.heap.push (seqObj "list" (L1.map fun q => Value.ref q.1).toArray 0)) (.ref q.1) q.dat [] := fun q hq => row_reads (P := P) (w := w) (isT_keep (R.tup _ (inL q (h1 q hq))) fun b u e => Heap.get?_push_of_some _ (k1 b u e))
  refine wpAny_bind (wpAny_holding (PySem.W.list_sort_data (s := { s1 with heap := s1.heap.push (seqObj "list" (L1.map fun q => Value.ref q.1).toArray 0) }) (vs := L1.map fun q => Value.ref q.1) (bs := L1) (enc := Row.dat) at2 (each_refs L1) (each_of L1 fun b hb => ⟨[], rd b hb, by simp⟩)
    (PySem.W.AllAlike.of fun b b' => by simp [PySem.W.alike, PySem.W.alikeAll]) (.inl fun d hd => ?_) (by rw [p1.length_eq, sizeLine_eq]; omega) (fun b _ => ?_) fun out hl ee => ?_))
  · obtain ⟨b, _, rfl⟩ := List.mem_map.mp hd
    exact ⟨_, _, rfl⟩
  · have : (Row.dat b).depth ≤ 10 := by simp [PyData.depth, PyData.depthAll]
    show A.units + 1 + 1 + _ < _
    omega
  · have eo := refs_each ee
    have el : PySem.W.dataLe false Row.dat = fun p q => leP p.2 q.2 := by
      have z := PySem.W.dataLe_ii (β := Row) (fun p => p.2.1) (fun p => p.2.2)
      exact z
    rw [el] at eo ee
    obtain ⟨c, hc⟩ := sortedHeap_at (vs := L1.map fun q => Value.ref q.1) (out := out.toArray) at2
    refine wpAny_pure ⟨_, rfl, fin _ s1.heap.objs.size out.toArray c (L1.mergeSort fun p q => leP p.2 q.2) (fun b u e => ?_) g1 o1 hz hc (by rw [List.toList_toArray]; exact eo) ((List.mergeSort_perm _ _).trans p1) (List.pairwise_mergeSort (le := fun (p q : Row) => leP p.2 q.2) (fun a b c h1 h2 => leP_trans a.2 b.2 c.2 h1 h2) (fun a b => leP_total a.2 b.2) L1)⟩
    have q := k1 b u e
    have hlt := Heap.lt_size q
    show (sortedHeap (s1.heap.push (seqObj "list" (L1.map fun q => Value.ref q.1).toArray 0)) s1.heap.objs.size (L1.map fun q => Value.ref q.1) out.toArray).get? b = some u
    rw [sortedHeap_old (Nat.ne_of_lt hlt) (by rw [size_push']; exact Nat.lt_succ_of_lt hlt)]
    exact Heap.get?_push_of_some _ q
end
/-! ### the rule -/
section
variable {X : Cx} {F : Fc} {a : Expr} {xa : Ex} {p p2 pos pos2 : Pos}
def RowsAt (K : PySem.W.Frag) (H : Hp) (ks : List Row) : Prop := ∀ p ∈ ks, SqT K H p.1 [.int p.2.1, .int p.2.2]
def rSet2 (K : PySem.W.Frag) (P : Program) (w : World) : List V → Hp → VK → Prop := fun xs H Q => ∃ (l : Addr) (ks : List Row), xs = [V.ref l] ∧ (SqL K H l (ks.map fun p => V.ref p.1) ∨ SqT K H l (ks.map fun p => V.ref p.1)) ∧ RowsAt K H ks ∧ ks.length < 64 ∧
  ∀ a (L : List Row), H a = none → (∀ p ∈ L, p ∈ ks) → (∀ p ∈ ks, p.2 ∈ L.map (·.2)) → Q (.ref a) (upd H a (SetTO P w a (L.map Row.lst)))
theorem rows_back {ks : List Row} {L : List (Addr × List Int)} (h : ∀ p ∈ L, p ∈ ks.map Row.lst) : ∃ L2 : List Row, L = L2.map Row.lst ∧ ∀ p ∈ L2, p ∈ ks := by
  induction L with
  | nil => exact ⟨[], rfl, fun p hp => nomatch hp⟩
  | cons x L ih =>
    obtain ⟨L2, e, h2⟩ := ih fun p hp => h p (List.mem_cons_of_mem _ hp)
    obtain ⟨q, hq, eq⟩ := List.mem_map.mp (h x List.mem_cons_self)
    refine ⟨q :: L2, by rw [List.map_cons, eq, e], fun r hr => ?_⟩
    rcases List.mem_cons.mp hr with z | z
    · rw [z]; exact hq
    · exact h2 r z
theorem cr_set2 (hc : X.calm = true) (hu : X.A.units + 64 < cLine) : CallR X (.type "set") (rSet2 X.K X.prog X.w) := by
  intro pins s σ H xs us Q I r h
  obtain ⟨l, ks, rfl, hl, hk, hf, q⟩ := h
  have em : (ks.map Row.lst).map (fun p => V.ref p.1) = ks.map fun p => V.ref p.1 := by simp [List.map_map, Function.comp_def]
  have hk' : ∀ p ∈ ks.map Row.lst, SqT X.K H p.1 (p.2.map V.int) := fun p hp => by
    obtain ⟨q, hq, rfl⟩ := List.mem_map.mp hp
    exact hk q hq
  have fin : ∀ a L, H a = none → (∀ p ∈ L, p ∈ ks.map Row.lst) → (∀ p ∈ ks.map Row.lst, p.2 ∈ L.map (·.2)) → Q (.ref a) (upd H a (SetTO X.prog X.w a L)) := fun a L na h1 h2 => by
    obtain ⟨L2, rfl, h3⟩ := rows_back h1
    refine q a L2 na h3 fun p hp => ?_
    obtain ⟨x, hx, e⟩ := List.mem_map.mp (h2 p.lst (List.mem_map.mpr ⟨p, hp, rfl⟩))
    obtain ⟨y, hy, rfl⟩ := List.mem_map.mp hx
    simp only [List.cons.injEq, and_true] at e
    exact List.mem_map.mpr ⟨y, hy, Prod.ext e.1 e.2⟩
  rcases hl with hl | hl
  · exact cr_setOfT hc hu pins s σ H _ us Q I r ⟨l, ks.map Row.lst, rfl, by rw [em]; exact hl, hk', by rw [List.length_map]; exact hf, fin⟩
  · rw [Vals.ref1 r]
    obtain ⟨its, rv, pl, hz⟩ := I.tuple hl
    have hn : H s.heap.objs.size = none := I.hok.fresh (Nat.le_refl _)
    rw [← em] at rv
    refine set_of_tuple (P := X.prog) (w := X.w) (items := its.toArray) (ks.map Row.lst) (I.ok.hd hc) pl (by simpa using refs_of_vals rv) (fun p hp => I.isT (hk' p hp)) (by rw [List.length_map]; exact hf) (by omega) fun h' tk L es ep t R g k => ?_
    exact ⟨V.ref s.heap.objs.size, _, I.laid (t' := tk) k (Nat.le_refl _) (setTO_new R.t0), rfl, fin _ L hn (fun p hp => List.mem_of_mem_take (g.sub p hp)) fun p hp => g.all p (by rw [List.take_length]; exact hp)⟩
def rSorted2 (K : PySem.W.Frag) (P : Program) (w : World) : List V → Hp → VK → Prop := fun vs H Q => ∃ (a : Addr) (L : List Row), vs = [V.ref a] ∧ H a = some (SetTO P w a (L.map Row.lst)) ∧ RowsAt K H L ∧
  ∀ (L' : List Row) (p : Addr), L'.Perm L → (L'.map (·.2)).Nodup → L'.length < 64 → L'.Pairwise (fun q r => leP q.2 r.2 = true) → H p = none → Q (.ref p) (upd H p (.lst (L'.map fun q => V.ref q.1)))
theorem cr_sorted2 (hc : X.calm = true) (hu : X.A.units + 64 < cLine) : CallR X (.builtin "sorted") (rSorted2 X.K X.prog X.w) := by
  intro pins s σ H vs us Q I r h
  obtain ⟨a, L, rfl, ha, hk, q⟩ := h
  have R0 : SetT0 X.prog X.w s.heap a (L.map Row.lst) := (I.hok a _ ha).1
  obtain ⟨es, ep, t, R⟩ := R0.full fun p hp => by
    obtain ⟨r, hr, rfl⟩ := List.mem_map.mp hp
    exact I.isT (k := [r.2.1, r.2.2]) (hk r hr)
  rw [Vals.ref1 r]
  have few : L.length < 64 := by
    have z := R.few
    rwa [List.length_map] at z
  refine sorted_set_pairs R (I.ok.hd hc) (by omega) fun s' p out c L' k g o hp hg hout pm pw => ?_
  have nd : (L'.map (·.2)).Nodup := (pm.map (·.2)).nodup_iff.mpr (by
    have z := R.nd
    rw [List.map_map] at z
    exact nodup_of_map (f := fun (q : Int × Int) => [q.1, q.2]) (by rw [List.map_map]; exact z))
  have len : (L'.map fun q => V.ref q.1).length ≤ sizeLine := by rw [List.length_map, pm.length_eq, sizeLine_eq]; omega
  have hn : H p = none := I.hok.fresh hp
  have hv : Vals (L'.map fun q => V.ref q.1) out.toList := by
    rw [hout]
    have z := vals_of_refs (L'.map Row.lst)
    simpa [List.map_map, Function.comp_def] using z
  have J := I.call (h' := s'.heap) (g' := s'.gens) (d' := s'.drawn) (t' := s'.toks) (ch := []) (Un.laid k hp hn) (I.hok.laid k hp (o := .lst (L'.map fun q => V.ref q.1)) ⟨len, out.toList, c, hv, hg⟩) (by rw [g]; exact I.bare) (fun _ z => nomatch z)
  obtain ⟨sh, sg, sd, st, so⟩ := s'
  obtain rfl : so = s.os := o
  exact ⟨.ref p, _, J, rfl, q L' p pm nd (by rw [pm.length_eq]; exact few) pw hn⟩
theorem rows_of {g : Gh} {H : Hp} {K : PySem.W.Frag} : ∀ {ds : List D} {vs : List V} {ps : List (Int × Int)}, RepL g H ds vs → pairsOf ds = some ps → ∃ ks : List Row, vs = ks.map (fun p => V.ref p.1) ∧ ks.map (·.2) = ps ∧ (∀ p ∈ ks, H p.1 = some (.tup [.int p.2.1, .int p.2.2]) ∧ ¬ g.W p.1)
  | _, _, _, .nil, h => by
    cases h
    exact ⟨[], rfl, rfl, fun p hp => nomatch hp⟩
  | d :: ds, v :: vs, ps, .cons r t, h => by
    unfold pairsOf at h
    split at h
    · rename_i e; cases e
    · rename_i x y rest e
      cases e
      obtain ⟨ps2, e2, rfl⟩ := Option.map_eq_some_iff.mp h
      obtain ⟨ks, e3, e4, h5⟩ := rows_of (K := K) t e2
      cases r with
      | tup ha nw l =>
        cases l with
        | cons r1 l =>
          cases l with
          | cons r2 l =>
            cases l
            cases r1
            cases r2
            refine ⟨(_, (x, y)) :: ks, by rw [e3]; rfl, by rw [← e4]; rfl, fun p hp => ?_⟩
            rcases List.mem_cons.mp hp with z | z
            · rw [z]; exact ⟨ha, nw⟩
            · exact h5 p z
    · cases h
theorem rows_rep {g : Gh} {H : Hp} : ∀ {L : List Row}, (∀ p ∈ L, H p.1 = some (.tup [.int p.2.1, .int p.2.2]) ∧ ¬ g.W p.1) → RepL g H ((L.map (·.2)).map pairD) (L.map fun p => V.ref p.1)
  | [], _ => .nil
  | p :: L, h => .cons (.tup (h p List.mem_cons_self).1 (h p List.mem_cons_self).2 (.cons (.int _) (.cons (.int _) .nil))) (rows_rep fun q hq => h q (List.mem_cons_of_mem _ hq))
/-- sorted(set(xs)) -/
theorem q_sortSet (hc : X.calm = true) (hu : X.A.units + 64 < cLine) (hg : Gl X "sorted") (hm : X.mg "sorted" = none) (hg2 : Gl X "set") (hm2 : X.mg "set" = none) (hs : isStar a = false) (ha : PE X a (SR F xa)) :
    PE X (.Call (.Name "sorted" p) [.Call (.Name "set" p2) [a] [] pos2] [] pos) (SN F (lOp1 lSortSet xa)) :=
  wkE (pe_callB (cr_sorted2 hc hu) hg hm (by decide +kernel) (pa_cons (pe_callTy (cr_set2 hc hu) hg2 hm2 (by decide +kernel) (pa_cons ha pa_nil (star_of hs)) (by decide) (by decide) (star_of hs) rfl) pa_nil rfl) (by decide) (by decide) rfl rfl) fun σ H Q h => by
    obtain ⟨en, st, g, rel, go⟩ := h
    refine ⟨en, st, g, rel, Go.bind go fun x s1 u H1 g1 e1 rel1 st1 r1 go1 => ?_⟩
    obtain ⟨ds, e2, go2⟩ := Go.ofOpt go1
    have key : ∀ (xs : List D) (l : Addr) (vs : List V), u = .ref l → (H1 l = some (.lst vs) ∨ H1 l = some (.tup vs)) → RepL g1 H1 xs vs → ((pairsOf xs).bind fun ps => if ps.length < 64 then some ((sortU ps).map pairD) else none) = some ds →
        rSet2 X.K X.prog X.w [u] H1 fun v H2 => rSorted2 X.K X.prog X.w [v] H2 Q := by
      intro xs l vs hu2 hl hr h
      obtain ⟨ps, ep, h⟩ := Option.bind_eq_some_iff.mp h
      split at h
      · rename_i hlt
        cases h
        obtain ⟨ks, ek, em, hk⟩ := rows_of (K := X.K) hr ep
        have lk : ks.length = ps.length := by rw [← em, List.length_map]
        refine ⟨l, ks, by rw [hu2], ?_, fun p hp => sqT _ (hk p hp).1, by rw [lk]; exact hlt, fun a L na hL1 hL2 => ?_⟩
        · rw [← ek]
          exact hl.imp (fun z => sq _ z) fun z => sqT _ z
        · have x1 : Ext H1 (upd H1 a (SetTO X.prog X.w a (L.map Row.lst))) := Ext.new na
          refine ⟨a, L, rfl, upd_same, fun p hp => sqT _ (x1 _ _ (hk p (hL1 p hp)).1), fun L' p pm nd hlen pw np => ?_⟩
          have rel2 := rel1.same x1
          have hk' : ∀ q ∈ L', (upd H1 a (SetTO X.prog X.w a (L.map Row.lst))) q.1 = some (.tup [.int q.2.1, .int q.2.2]) ∧ ¬ g1.W q.1 := fun q hq => by
            have z := hk q (hL1 q (pm.mem_iff.mp hq))
            exact ⟨x1 _ _ z.1, z.2⟩
          have eS : L'.map (·.2) = sortU ps := by
            refine sortU_unique nd (List.pairwise_map.mpr pw) fun x => ?_
            rw [← em]
            constructor
            · intro hx
              obtain ⟨q, hq, e⟩ := List.mem_map.mp hx
              exact List.mem_map.mpr ⟨q, hL1 q (pm.mem_iff.mp hq), e⟩
            · intro hx
              obtain ⟨q, hq, e⟩ := List.mem_map.mp hx
              obtain ⟨r, hr, e3⟩ := List.mem_map.mp (hL2 q hq)
              exact List.mem_map.mpr ⟨r, pm.mem_iff.mpr hr, by rw [e3, e]⟩
          have rr := rows_rep (g := g1) hk'
          rw [eS] at rr
          refine new_read (H := H) rel2 (st1.trans (.same x1)) rr (Go.from go2 (.same x1)) np
      · cases h
    unfold lSortSet at e2
    split at e2
    · rename_i xs ex
      obtain ⟨l, vs, h1, h2, h3⟩ := der_lst rel1.sto r1 ex
      exact key xs l vs h1 (.inl h2) h3 e2
    · rename_i xs ex
      rw [der_tup ex] at r1
      obtain ⟨l, vs, h1, h2, h3, _⟩ := r1.tup
      exact key xs l vs h1 (.inr h2) h3 e2
    · cases e2
end
end Il
end
section
set_option Elab.async false
set_option linter.all false
set_option maxRecDepth 100000
set_option maxHeartbeats 2000000
/-! The end of a law: its def called by the judge. -/
namespace Il
open PySem PySem.Spec PyProof.Rows L2 LamX
/-- where the law begins: the tables in the store -/
abbrev gh0 (K : PySem.W.Frag) (cs : List (Addr × Addr)) : Gh := ⟨K, cs.map (·.2), fun b => b ∈ cs.map (·.2)⟩
theorem law_run {P : Program} {w : World} {K : PySem.W.Frag} {mg mb : Str → Option Value} {k : Nat} {fa a : Addr} {cs : List (Addr × Addr)} {fd : FuncData} {x : Str} {sp : Sp} {s : Shared} {vs : List Value} {ns : List Int}
    (KX : K.In s.heap) (G : s.heap.Ns mainGlobals mg) (B : s.heap.Ns builtinsNs mb) (hbb : ∀ x : Str, x ≠ "__name__" → mb x = bootBuiltins x) (lim : s.heap.NoLimit) (hg : s.gens = #[])
    (tab : ∀ p ∈ cs, s.heap.get? p.2 = some { cls := .none, data := .fields #[] }) (ntab : ∀ p ∈ cs, K.lookup p.2 = none) (C : ∀ p ∈ cs, PySem.W.CodeHd s.heap p.1 p.2)
    (bm : ∃ (bm : Addr) (ob : Obj), mg "__builtins__" = some (.ref bm) ∧ bm ≠ builtinsNs ∧ s.heap.get? bm = some ob ∧ ob.cls = .type "module" ∧ ob.dict = some builtinsNs ∧ ob.data = .plain)
    (arg : s.heap.get? a = some { cls := .type "list", data := .seq vs.toArray }) (intsA : IntsAre vs ns) (len : ns.length ≤ sizeLine) (hr : RG k callerA)
    (F : ∀ base : Heap, K.In base → base.Ns mainGlobals mg → (∀ p ∈ cs, TabB base mg p.1 p.2) → FnG P w K mg base k fa fd [x] sp) (bind : ∀ (s : Shared) (u : Value), BindsTo s fd ⟨[u], []⟩ [(x, u)])
    (hsp : ∀ H : Hp, (∀ p ∈ cs, H p.2 = some (.tbl #[])) → Scr (gh0 K cs) H a (ns.map V.int) → sp [.ref a] H (fun v _ => v = .bl true) fun _ _ _ => False) :
    codeAny (model P w) callerA (.call (.ref fa) ⟨[.ref a], []⟩) (fun r s' => r = .ok (.ret (.bool true)) ∧ OldK s.heap s'.heap ∧ s'.os = s.os ∧ AllBare s'.gens) s := by
  have onT : ∀ b ∈ cs.map (·.2), s.heap.get? b = some { cls := .none, data := .fields #[] } := fun b hb => by
    obtain ⟨p, hp, rfl⟩ := List.mem_map.mp hb
    exact tab p hp
  have inT : ∀ p ∈ cs, p.2 ∈ cs.map (·.2) := fun p hp => List.mem_map.mpr ⟨p, hp, rfl⟩
  have aT : a ∉ cs.map (·.2) := fun z => by
    have q := onT a z
    rw [arg] at q
    have q2 : Data.seq vs.toArray _ = Data.fields #[] := congrArg Obj.data (Option.some.inj q)
    cases q2
  -- what is tracked: the tables; the argument, unless it is the text's own
  obtain ⟨H, hT, hA, hN⟩ : ∃ H : Hp, (∀ b ∈ cs.map (·.2), H b = some (.tbl #[])) ∧ (K.lookup a = none → H a = some (.frz { cls := .type "list", data := .seq vs.toArray } (.lst (ns.map V.int)))) ∧
      ∀ b, b ∉ cs.map (·.2) → (b = a → K.lookup a ≠ none) → H b = none := by
    refine ⟨fun b => if b ∈ cs.map (·.2) then some (.tbl #[]) else if b = a ∧ K.lookup a = none then some (.frz { cls := .type "list", data := .seq vs.toArray } (.lst (ns.map V.int))) else none, fun b hb => if_pos hb, fun hk => ?_, fun b hb h => ?_⟩
    · show (if a ∈ cs.map (·.2) then _ else _) = _
      rw [if_neg aT, if_pos ⟨rfl, hk⟩]
    · show (if b ∈ cs.map (·.2) then _ else _) = _
      rw [if_neg hb, if_neg fun z => h z.1 z.2]
  have rv := vals_ints intsA
  have cases3 : ∀ b, b ∈ cs.map (·.2) ∨ (b = a ∧ K.lookup a = none) ∨ H b = none := fun b => by
    by_cases h1 : b ∈ cs.map (·.2)
    · exact .inl h1
    · by_cases h2 : b = a ∧ K.lookup a = none
      · exact .inr (.inl h2)
      · exact .inr (.inr (hN b h1 fun z q => h2 ⟨z, q⟩))
  have hok : HOk P w H s.heap := fun b u e => by
    rcases cases3 b with h1 | ⟨rfl, h2⟩ | h3
    · rw [hT b h1] at e
      cases e
      exact onT b h1
    · rw [hA h2] at e
      cases e
      exact ⟨arg, by rw [List.length_map]; exact len, vs, _, rv, arg⟩
    · rw [h3] at e; cases e
  -- the ground: all but what is tracked
  have low : ∀ {b : Addr} {o : Obj}, s.heap.get? b = some o → H b = none → (hidT s.heap H).get? b = some o := fun e n => hidT_get e n
  have off : ∀ {b : Addr} {o : Obj}, s.heap.get? b = some o → (∀ us n, o.data ≠ .seq us n) → o.data ≠ .fields #[] → H b = none := fun {b o} e h1 h2 => by
    rcases cases3 b with z | ⟨rfl, _⟩ | z
    · rw [onT b z] at e
      cases e
      exact absurd rfl h2
    · rw [arg] at e
      cases e
      exact absurd rfl (h1 _ _)
    · exact z
  have nsL : ∀ {b : Addr} {m : Str → Option Value}, s.heap.Ns b m → (hidT s.heap H).Ns b m := fun {b m} z => by
    obtain ⟨o, es, ep, e, d, r⟩ := z
    refine ⟨o, es, ep, low e (off e (fun us n z => ?_) fun z => ?_), d, r⟩
    · rw [d] at z; cases z
    · rw [d] at z; cases z
  have KL : K.In (hidT s.heap H) := fun b o e => low (KX b o e) (by
    rcases cases3 b with z | ⟨rfl, z⟩ | z
    · obtain ⟨p, hp, rfl⟩ := List.mem_map.mp z
      rw [ntab p hp] at e
      cases e
    · rw [z] at e; cases e
    · exact z)
  have TB : ∀ p ∈ cs, TabB (hidT s.heap H) mg p.1 p.2 := fun p hp => by
    have tp := tab p hp
    refine ⟨?_, ?_, fun z => ?_⟩
    · obtain ⟨o, us, file, tf, flags, tg, inF, text, tt, e1, r1, r2, r3, rr⟩ := C p hp
      refine ⟨o, us, file, tf, flags, tg, inF, text, tt, low e1 (off e1 (fun us n z => ?_) fun z => ?_), r1, r2, r3, rr⟩
      · rw [r2] at z; cases z
      · rw [r2] at z
        cases z
        simp at r3
    · obtain ⟨bm, ob, b1, b2, b3, b4, b5, b6⟩ := bm
      refine ⟨bm, ob, b1, b2, fun q => ?_, fun q => ?_, low b3 (off b3 (fun us n z => ?_) fun z => ?_), b4, b5, b6⟩
      · obtain ⟨o, es, ep, e, d, _⟩ := G
        rw [q, e] at b3
        cases b3
        rw [d] at b6
        cases b6
      · rw [q, tp] at b3
        cases b3
        cases b6
      · rw [b6] at z; cases z
      · rw [b6] at z; cases z
    · obtain ⟨o, es, ep, e, d, _⟩ := G
      rw [z, tp] at e
      cases e
      cases d
  have e0 : Env0 P w K mg (hidT s.heap H) callerA [] s H := ⟨rfl, ⟨KL, nsL G, ⟨mb, nsL B, hbb⟩, let ⟨mc, h1, h2⟩ := lim; ⟨mc, nsL h1, h2⟩⟩, fun b o e => of_hidT e, Nat.le_of_eq (hidT_size _ _), trivial, fun b hb => (nomatch (show b ∈ ([] : List Addr) from hb)), hok, .of_eq hg⟩
  have scr : Scr (gh0 K cs) H a (ns.map V.int) := by
    cases hk : K.lookup a with
    | none => exact .inl ⟨_, hA hk, aT⟩
    | some o =>
      refine .inr fun H' => ?_
      have e := KX a o hk
      rw [arg] at e
      cases e
      exact .inr ⟨_, vs.toArray, _, hk, rfl, rfl, rfl, by rw [List.size_toArray, intsA.length]; exact len, by simpa using rv⟩
  refine codeAny_mono ((F _ KL (nsL G) TB).run callerA [] s H ⟨[.ref a], []⟩ [.ref a] [.ref a] _ _ hr e0 (bind s (.ref a)) (.cons rfl .nil) (hsp H (fun p hp => hT _ (inT p hp)) scr)) fun r s' h => ?_
  match r, h with
  | .error e, h =>
    obtain ⟨_, _, _, _, _, _, _, _, _, _, _, _, z⟩ := h
    exact z.elim
  | .ok .next, h => exact h.elim
  | .ok .brk, h => exact h.elim
  | .ok .cont, h => exact h.elim
  | .ok (.ret u), h =>
    obtain ⟨v, H', os, bare, un, hok', r', q⟩ := h
    obtain rfl : v = .bl true := q
    obtain rfl : u = Value.bool true := r'
    have kept : ∀ b o, b ∉ cs.map (·.2) → s.heap.get? b = some o → s'.heap.get? b = some o := fun b o nb e => by
      rcases cases3 b with z | ⟨rfl, z⟩ | z
      · exact absurd z nb
      · have z2 := un.frzs b _ _ (hA z)
        have e1 := (hok b _ (hA z)).1
        have e2 := (hok' b _ z2).1
        rw [e] at e1
        cases e1
        exact e2
      · exact un.keep b o e z (fun z => nomatch (show b ∈ ([] : List Addr) from z)) (by simp)
    have grown : ∀ p ∈ cs, ∃ more : Array Value, s'.heap.get? p.2 = some { cls := .none, data := .fields (#[] ++ more) } := fun p hp => by
      obtain ⟨more, z⟩ := un.tbls p.2 #[] (hT _ (inT p hp))
      exact ⟨more, hok' p.2 _ z⟩
    refine ⟨rfl, ⟨fun b o e => ?_, fun b o e => ?_⟩, os, bare⟩
    · by_cases hb : b ∈ cs.map (·.2)
      · obtain ⟨p, hp, rfl⟩ := List.mem_map.mp hb
        obtain ⟨more, hm⟩ := grown p hp
        rw [tab p hp] at e
        cases e
        exact .inr (.inl ⟨((C p hp).tab (tab p hp)).isCodeTable, rfl, #[], more, rfl, hm⟩)
      · exact .inl (kept b o hb e)
    · by_cases hb : b ∈ cs.map (·.2)
      · obtain ⟨p, hp, rfl⟩ := List.mem_map.mp hb
        obtain ⟨more, hm⟩ := grown p hp
        exact ⟨_, hm⟩
      · exact ⟨o, kept b o hb e⟩
/-- what is to be shown of a law -/
def LawAt (l : PySem.W.OpenLaw) (w : World) (K : PySem.W.Frag) (k n : Nat) (x : Str) (mg : Str → Option Value) (fa : Addr) (h : Heap) : Prop :=
  ∃ (fd : FuncData) (cs : List (Addr × Addr)) (sp : Sp), (∀ p ∈ cs, h.get? p.2 = some { cls := .none, data := .fields #[] }) ∧ (∀ p ∈ cs, K.lookup p.2 = none) ∧ (∀ p ∈ cs, PySem.W.CodeHd h p.1 p.2) ∧ (∀ (s : Shared) (u : Value), BindsTo s fd ⟨[u], []⟩ [(x, u)]) ∧
    (∀ (H : Hp) (a : Addr) (ns : List Int), ns.length ≤ n → (∀ z ∈ ns, Builtin.Int.intBits z ≤ 1048576) → (∀ p ∈ cs, H p.2 = some (.tbl #[])) → Scr (gh0 K cs) H a (ns.map V.int) → sp [.ref a] H (fun v _ => v = .bl true) fun _ _ _ => False) ∧
    ∀ base : Heap, K.In base → base.Ns mainGlobals mg → (∀ p ∈ cs, TabB base mg p.1 p.2) → FnG l.prog w K mg base k fa fd [x] sp
/-- the law's def as a mirror -/
theorem law_sp {K : PySem.W.Frag} {ct : ClsT} {xt : ExT} {cs : List (Addr × Addr)} {H : Hp} {a : Addr} {ns : List Int} {cf : List D → Store → Res D} {st : Store} (hnd : (cs.map (·.2)).Nodup) (hT : ∀ p ∈ cs, H p.2 = some (.tbl #[])) (hS : Scr (gh0 K cs) H a (ns.map V.int))
    (hst : st.length = cs.length) (hsh : ∀ (n : Nat) (p : Addr × Addr) o, cs[n]? = some p → st[n]? = some o → ∃ j q, o = .tab j q ∧ ct j = p.2) (hcf : ∃ s1, cf [.scr (ns.map D.int)] st = .ok (.bl true) s1) :
    spM K ct xt cf 1 [.ref a] H (fun v _ => v = .bl true) fun _ _ _ => False := by
  have il : ∀ (ns : List Int), RepL (gh0 K cs) H (ns.map D.int) (ns.map V.int) := by
    intro ns
    induction ns with
    | nil => exact .nil
    | cons n ns ih => exact .cons (.int n) ih
  refine ⟨gh0 K cs, [.scr (ns.map D.int)], st, rfl, .cons (.scr hS (il ns)) .nil, ⟨by simp [hst], hnd, fun a h => h, fun a h => ?_, fun a h => ?_, fun n o a h1 h2 => ?_⟩, rfl, ?_⟩
  · obtain ⟨p, hp, rfl⟩ := List.mem_map.mp h
    rw [hT p hp]; simp
  · obtain ⟨p, hp, rfl⟩ := List.mem_map.mp h
    rw [hT p hp]; intro _ z; cases z
  · have h2 : (cs.map (·.2))[n]? = some a := h2
    rw [List.getElem?_map] at h2
    obtain ⟨p, e1, rfl⟩ := Option.map_eq_some_iff.mp h2
    obtain ⟨j, q, rfl, e3⟩ := hsh n p o e1 h1
    exact ⟨e3.symm, #[], hT p (List.mem_of_getElem? e1), True.intro, fun pos cv hc => by simp [codeAmong] at hc⟩
  · obtain ⟨s1, e⟩ := hcf
    rw [e]
    intro v H' g' s t r
    cases r
    rfl
end Il
end
section
set_option Elab.async false
set_option linter.all false
set_option maxRecDepth 100000
set_option maxHeartbeats 2000000
/-! repr; two or three names stored at once. -/
namespace Il
open PySem PySem.Spec L2
section
variable {X : Cx} {F : Fc} {k : Nat} {a b c : Expr} {xa xb xc : Ex} {p pos : Pos}
def rRepr (K : PySem.W.Frag) : List V → Hp → VK → Prop := fun xs H Q => ∃ v d, xs = [v] ∧ Dp K H v d ∧ d.showable = true ∧ d.shown.length ≤ sizeLine ∧ d.hasDict = false ∧ d.depth ≤ 60 ∧ Q (.str d.shown) H
/-! ### stores at once -/
theorem s_par2 {i j : Nat} {x y : Str} {px py pt pt2 : Pos} {kt k2 : Nat} (hc : X.calm = true) (hN : X.N.Nodup) (hi : X.N[i]? = some x) (hj : X.N[j]? = some y) (hij : i ≠ j) (hx : X.env.scope.names.lookup x = some .local) (hy : X.env.scope.names.lookup y = some .local)
    (ha : PE X a (SE F xa)) (hb : PE X b (SE F xb)) (sa : isStar a = false) (sb : isStar b = false) (hw : swappedStores [.Tuple [.Name x px, .Name y py] kt pt] (.Tuple [a, b] k2 pt2) X.env = pure (some [x, y])) (hs : swapsWithSole [.Tuple [.Name x px, .Name y py] kt pt] (.Tuple [a, b] k2 pt2) pos.line X.env = pure false) :
    PS X (.Assign [.Tuple [.Name x px, .Name y py] kt pt] (.Tuple [a, b] k2 pt2) pos) (SS F (sAsg (.tp [.nm i, .nm j]) (xTup (lCons xa (lCons xb lNil))))) :=
  wkS (ps_par hc hN hi hj hij hx hy (q_cons ha (q_cons hb q_nil (star_of sb)) (star_of sa)) hw hs) fun D σ H h => by
    obtain ⟨en, st, g, rel, go⟩ := h
    refine ⟨en, st, g, rel, ?_⟩
    cases q : lCons xa (lCons xb lNil) en st with
    | exc c f s1 => simp only [sAsg, xTup, q, Res.bind, ofRes] at go; exact go
    | stuck => simp only [sAsg, xTup, q, Res.bind, ofRes] at go; exact go.elim
    | ok ds s1 =>
      intro vs H1 g1 rel1 st1 r
      simp only [sAsg, xTup, q, Res.bind] at go
      split at go
      · simp only [ofRes] at go
        split at go
        · rename_i en1 e1
          simp only [Tg.put] at e1
          have hl := putL_len e1
          match ds, r, hl with
          | [d1, d2], .cons (v := v1) r1 (.cons (v := v2) r2 .nil), _ =>
            refine ⟨v1, v2, rfl, ?_⟩
            simp only [Tg.putL, Tg.put, Option.bind_some, Option.some.injEq] at e1
            subst e1
            exact go _ H1 g1 ((rel1.put r1).put r2) (st1.s rel.sto.aw)
        · exact go.elim
      · exact go.elim
theorem s_par3 {i j l : Nat} {x y z : Str} {px py pz pt pt2 : Pos} {kt k2 : Nat} (hc : X.calm = true) (hN : X.N.Nodup) (hi : X.N[i]? = some x) (hj : X.N[j]? = some y) (hl : X.N[l]? = some z) (hij : i ≠ j) (hil : i ≠ l) (hjl : j ≠ l)
    (hx : X.env.scope.names.lookup x = some .local) (hy : X.env.scope.names.lookup y = some .local) (hz : X.env.scope.names.lookup z = some .local)
    (ha : PE X a (SE F xa)) (hb : PE X b (SE F xb)) (hcc : PE X c (SE F xc)) (sa : isStar a = false) (sb : isStar b = false) (sc : isStar c = false) (hw : swappedStores [.Tuple [.Name x px, .Name y py, .Name z pz] kt pt] (.Tuple [a, b, c] k2 pt2) X.env = pure (some [x, y, z]))
    (hs : swapsWithSole [.Tuple [.Name x px, .Name y py, .Name z pz] kt pt] (.Tuple [a, b, c] k2 pt2) pos.line X.env = pure false) :
    PS X (.Assign [.Tuple [.Name x px, .Name y py, .Name z pz] kt pt] (.Tuple [a, b, c] k2 pt2) pos) (SS F (sAsg (.tp [.nm i, .nm j, .nm l]) (xTup (lCons xa (lCons xb (lCons xc lNil)))))) :=
  wkS (ps_par3 hc hN hi hj hl hij hil hjl hx hy hz (q_cons ha (q_cons hb (q_cons hcc q_nil (star_of sc)) (star_of sb)) (star_of sa)) hw hs) fun D σ H h => by
    obtain ⟨en, st, g, rel, go⟩ := h
    refine ⟨en, st, g, rel, ?_⟩
    cases q : lCons xa (lCons xb (lCons xc lNil)) en st with
    | exc c f s1 => simp only [sAsg, xTup, q, Res.bind, ofRes] at go; exact go
    | stuck => simp only [sAsg, xTup, q, Res.bind, ofRes] at go; exact go.elim
    | ok ds s1 =>
      intro vs H1 g1 rel1 st1 r
      simp only [sAsg, xTup, q, Res.bind] at go
      split at go
      · simp only [ofRes] at go
        split at go
        · rename_i en1 e1
          simp only [Tg.put] at e1
          have hl := putL_len e1
          match ds, r, hl with
          | [d1, d2, d3], .cons (v := v1) r1 (.cons (v := v2) r2 (.cons (v := v3) r3 .nil)), _ =>
            refine ⟨v1, v2, v3, rfl, ?_⟩
            simp only [Tg.putL, Tg.put, Option.bind_some, Option.some.injEq] at e1
            subst e1
            exact go _ H1 g1 (((rel1.put r1).put r2).put r3) (st1.s rel.sto.aw)
        · exact go.elim
      · exact go.elim
end
end Il
end
section
set_option Elab.async false
set_option linter.all false
set_option maxRecDepth 100000
set_option maxHeartbeats 2000000
/-! Short rules for the printer. -/
namespace Il
open PySem PySem.Spec L2
section
variable {X : Cx} {F : Fc} {k : Nat} {a b : Expr} {xa xb : Ex} {p pos q : Pos}
theorem bb_len : bootBuiltins "len" = some (.builtin "len") := by decide +kernel
theorem bb_abs : bootBuiltins "abs" = some (.builtin "abs") := by decide +kernel
theorem bb_all : bootBuiltins "all" = some (.builtin "all") := by decide +kernel
theorem bb_max : bootBuiltins "max" = some (.builtin "max") := by decide +kernel
theorem bb_min : bootBuiltins "min" = some (.builtin "min") := by decide +kernel
theorem bb_isinstance : bootBuiltins "isinstance" = some (.builtin "isinstance") := by decide +kernel
theorem bb_tuple : bootBuiltins "tuple" = some (.type "tuple") := by decide +kernel
theorem bb_list : bootBuiltins "list" = some (.type "list") := by decide +kernel
theorem bb_int : bootBuiltins "int" = some (.type "int") := by decide +kernel
theorem bb_bool : bootBuiltins "bool" = some (.type "bool") := by decide +kernel
theorem w_len (hK : F.K = X.K) (hg : Gl X "len") (hm : X.mg "len" = none) (hs : isStar a = false) (ha : PE X a (SR F xa)) : PE X (.Call (.Name "len" p) [a] [] pos) (SE F (xOp1 oLen xa)) := q_biB1 call_len_seq (good_len hK) hg hm bb_len (by decide) (by decide) hs ha
theorem w_abs (hg : Gl X "abs") (hm : X.mg "abs" = none) (hs : isStar a = false) (ha : PE X a (SR F xa)) : PE X (.Call (.Name "abs" p) [a] [] pos) (SE F (xOp1 oAbs xa)) := q_biB1 call_abs good_abs hg hm bb_abs (by decide) (by decide) hs ha
theorem w_all (hc : X.calm = true) (hg : Gl X "all") (hm : X.mg "all" = none) (hs : isStar a = false) (ha : PE X a (SR F xa)) : PE X (.Call (.Name "all" p) [a] [] pos) (SE F (xOp1 oAll xa)) := q_biB1 (cr_all hc) good_all hg hm bb_all (by decide) (by decide) hs ha
theorem w_max (hc : X.calm = true) (hg : Gl X "max") (hm : X.mg "max" = none) (hs : isStar a = false) (ha : PE X a (SR F xa)) : PE X (.Call (.Name "max" p) [a] [] pos) (SE F (xOp1 oMax xa)) := q_biB1 (cr_max hc) good_max hg hm bb_max (by decide) (by decide) hs ha
theorem w_min (hc : X.calm = true) (hg : Gl X "min") (hm : X.mg "min" = none) (hs : isStar a = false) (ha : PE X a (SR F xa)) : PE X (.Call (.Name "min" p) [a] [] pos) (SE F (xOp1 oMin xa)) := q_biB1 (cr_min hc) good_min hg hm bb_min (by decide) (by decide) hs ha
theorem w_max2 (hc : X.calm = true) (hg : Gl X "max") (hm : X.mg "max" = none) (hs : isStar a = false) (hs2 : isStar b = false) (ha : PE X a (SR F xa)) (hb : PE X b (SR F xb)) : PE X (.Call (.Name "max" p) [a, b] [] pos) (SE F (xOp2 oMax2 xa xb)) := q_biB2 (call_max2 hc) good_max2 hg hm bb_max (by decide) (by decide) hs hs2 ha hb
theorem w_tuple (hg : Gl X "tuple") (hm : X.mg "tuple" = none) (hs : isStar a = false) (ha : PE X a (SR F xa)) : PE X (.Call (.Name "tuple" p) [a] [] pos) (SE F (xOp1 oTupOf xa)) := q_biT1 call_tuple_of good_tupOf hg hm bb_tuple (by decide) (by decide) hs ha
theorem w_int (hg : Gl X "int") (hm : X.mg "int" = none) (hs : isStar a = false) (ha : PE X a (SR F xa)) : PE X (.Call (.Name "int" p) [a] [] pos) (SE F (xOp1 oInt xa)) := q_biT1 call_int1 good_int hg hm bb_int (by decide) (by decide) hs ha
theorem w_list (hg : Gl X "list") (hm : X.mg "list" = none) (hs : isStar a = false) (ha : PE X a (SR F xa)) : PE X (.Call (.Name "list" p) [a] [] pos) (SN F (lOp1 lListOf xa)) := q_listOf hg hm bb_list (by decide) (by decide) hs ha
theorem w_isTy {y : Str} (t : Ty) (hy : bootBuiltins y = some (.type (tyName t))) (hn : y ≠ "__name__") (hd : (y == ("__debug__" : Str)) = false) (hg : Gl X "isinstance") (hm : X.mg "isinstance" = none) (hs : isStar a = false) (hg2 : Gl X y) (hm2 : X.mg y = none) (ha : PE X a (SR F xa)) :
    PE X (.Call (.Name "isinstance" p) [a, .Name y q] [] pos) (SE F (xOp1 (oIsTy [t]) xa)) := q_isTy1 hg hm bb_isinstance (by decide) (by decide) hs hg2 hm2 hy hn hd ha
theorem len_nil : ∀ en st ds s1, lNil en st = .ok ds s1 → ds.length = 0 := fun en st ds s1 h => by cases h; rfl
theorem len_cons {la : Lx} {n : Nat} (h : ∀ en st ds s1, la en st = .ok ds s1 → ds.length = n) : ∀ en st ds s1, lCons xa la en st = .ok ds s1 → ds.length = n + 1 := fun en st ds s1 e => by
  unfold lCons at e
  cases q : xa en st with
  | ok x s2 =>
    rw [q] at e
    simp only [Res.bind] at e
    cases q2 : la en s2 with
    | ok xs s3 =>
      rw [q2] at e
      simp only [Res.ok.injEq] at e
      rw [← e.1, List.length_cons, h _ _ _ _ q2]
    | exc c f s3 => rw [q2] at e; cases e
    | stuck => rw [q2] at e; cases e
  | exc c f s2 => rw [q] at e; cases e
  | stuck => rw [q] at e; cases e
theorem len_succ {la : Lx} {n : Nat} (h : ∀ en st ds s1, la en st = .ok ds s1 → ds.length = n) : ∀ en st ds s1, la en st = .ok ds s1 → ds.length + 1 = n + 1 := fun en st ds s1 e => by rw [h _ _ _ _ e]
def blkB (N : List Str) (sc scope : Scope) (own : List (Str × Nat)) : Bool := decide (scope.kind = .function) && (scope.names.all fun y => decide (scope.names.lookup y.1 = some y.2)) && (own.all fun p => decide (N[p.2]? = some p.1)) &&
  (scope.names.all fun y => !decide (y.2 = .free) || (decide (sc.names.lookup y.1 = some .cell) || decide (sc.names.lookup y.1 = some .free))) && (scope.names.all fun y => !(decide (y.2 = .local) || decide (y.2 = .cell)) || ((own.map (·.1)).contains y.1 || !N.contains y.1))
theorem blk_ok {N : List Str} {sc scope : Scope} {own : List (Str × Nat)} (h : blkB N sc scope own = true) : BlkOk N sc scope own := by
  unfold blkB at h
  simp only [Bool.and_eq_true, List.all_eq_true, decide_eq_true_eq, Bool.or_eq_true, Bool.not_eq_true', decide_eq_false_iff_not] at h
  obtain ⟨⟨⟨⟨h1, h2⟩, h3⟩, h4⟩, h5⟩ := h
  refine ⟨h1, h2, h3, fun y hy e => (h4 y hy).resolve_left fun z => z e, fun y hy e => ?_⟩
  rcases h5 y hy with z | z
  · simp only [Bool.or_eq_false_iff, decide_eq_false_iff_not] at z
    exact (e.elim z.1 z.2).elim
  · rcases z with z | z
    · exact .inl (by simpa using z)
    · exact .inr (by simpa using z)
/-- the last of and, or -/
theorem q_and1 (h : PE X a (SE F xa)) : PE X (.BoolOp .And [a] pos) (SE F xa) := ⟨fun pins s σ H Q I q => h.run pins s σ H Q I q⟩
end
end Il
namespace Il
open PySem PySem.Spec L2
/-- a def of the text, its code object known -/
structure FunC (K : PySem.W.Frag) (x qual : Str) (st : Stmt) (f : Addr) (fd : FuncData) (cdv : Value) : Prop where
  ex : ∃ (oc : Value) (od : Option Addr) (kV doc pm : Value) (an : Option Addr) (ct : Value) (osl : Array (Option Value)),
    fd = PySem.W.fnOf x qual (defArgs st) (defBody st) (defScope st) .none kV doc pm an cdv ct ∧ K.lookup f = some ⟨oc, od, .func fd, osl⟩ ∧ PySem.W.codeIn K cdv qual = true
  kp : PySem.W.keepIn K (.ref f) = true
theorem FunC.fu {K : PySem.W.Frag} {x qual : Str} {st : Stmt} {f : Addr} {fd : FuncData} {cdv : Value} (F : FunC K x qual st f fd cdv) : Fun K x qual st f fd := by
  obtain ⟨oc, od, kV, doc, pm, an, ct, osl, h1, h2, h3⟩ := F.ex
  exact ⟨⟨oc, od, kV, doc, pm, an, cdv, ct, osl, h1, h2, h3⟩, F.kp⟩
section
variable {P : Program} {w : World} {K : PySem.W.Frag} {mg : Str → Option Value} {base : Heap} {ct : ClsT} {xt : ExT}
/-- the rule for a def whose code object is known -/
theorem fn_ruleC {x qual : Str} {st : Stmt} {f : Addr} {fd : FuncData} {N ps : List Str} {k n : Nat} {b : Bk} {cf : List D → Store → Res D} {cdv : Value} (FU : FunC K x qual st f fd cdv) (S : FnScope N ps (defScope st)) (hn : N.length = n) (hcf : ∀ ds s, cf ds s = runB n b ds s)
    (hbody : ∀ (A : Around) (outer : List Env) (s : Shared) (H : Hp) (E : XK) (g : Gh), g.K = K → RG k (A.deeper (PyProof.Rows.envOfC qual (defScope st) s.heap.objs.size f cdv)) →
      PSs (cxOf (L2.CX P w) P w K mg base N qual (defScope st) f cdv A outer s H E) (defBody st) (SS (fcOf K ct xt H g E (fun _ _ _ _ _ => False) (fun _ _ _ _ => False)) b)) :
    FnG P w K mg base (k + 1) f fd ps (spM K ct xt cf ps.length) := by
  have hlen : ∀ vs H Q E, spM K ct xt cf ps.length vs H Q E → vs.length = ps.length := by
    intro vs H Q E h
    obtain ⟨g, ds, s, _, _, _, h, _⟩ := h
    exact h
  obtain ⟨oc, od, kV, doc, pm, an, ctv, osl, rfl, lk, hcd⟩ := FU.ex
  refine ⟨hlen, fun A outer s H args us vs Q E hrg e0 hb rv h => LamX.run_ofS lk hcd S hrg.r e0 hb rv (hlen _ _ _ _ h) fun _ => ?_⟩
  obtain ⟨g, ds, s0, hgK, r, t, hl, hgo⟩ := h
  refine ⟨_, hbody A outer s H E g hgK (hrg.deeper _), ?_⟩
  have hpl : ps.length ≤ n := by
    have := congrArg List.length S.pre
    rw [List.length_take] at this; omega
  have ok : (fcOf K ct xt H g E (fun _ _ _ _ _ => False) (fun _ _ _ _ => False)).Ok := ⟨hgK, t.tr, fun _ _ _ _ _ _ _ z => z.elim, fun _ _ _ _ _ _ z => z.elim, fun _ _ _ _ _ _ => True.intro⟩
  have rel := start_rel (F := fcOf K ct xt H g E (fun _ _ _ _ _ => False) (fun _ _ _ _ => False)) r t hn (by omega) rfl rfl ok True.intro
  refine ⟨startE n ds, s0, g, rel, ?_⟩
  rw [hcf] at hgo
  unfold runB at hgo
  cases q : b (startE n ds) s0 with
  | next en s1 =>
    rw [q] at hgo
    intro σ' H' g' r' ss
    obtain ⟨g2, h1, h2, h3⟩ := r'.result (H := H) (g := g) (d := .non) (v := .non) .non
    exact hgo .non H' g2 h1 h2 h3
  | ret d s1 =>
    rw [q] at hgo
    intro v σ' H' en' g' r' ss rp
    obtain ⟨g2, h1, h2, h3⟩ := r'.result (H := H) (g := g) rp
    exact hgo v H' g2 h1 h2 h3
  | exc c f en s1 =>
    rw [q] at hgo
    exact hgo
  | brk en s1 => rw [q] at hgo; exact hgo.elim
  | cont en s1 => rw [q] at hgo; exact hgo.elim
  | stuck => rw [q] at hgo; exact hgo.elim
/-- nothing is let out of a comprehension -/
theorem takes_no {X : Cx} {F : Fc} : Takes X (wF F.no) := Takes.imp takes0 fun _ _ _ _ h => by
  obtain ⟨_, _, _, _, _, _, _, h⟩ := h
  exact h
/-- errors of a lambda's body leave it -/
theorem takes_lam {X : Cx} {A : Around} {outer : List Env} {s : Shared} {H H1 : Hp} {E : XK} {sc : Scope} {f c' : Addr} {g : Gh} {K : PySem.W.Frag} {sx th} : Takes (LamX.lamCx X A outer s H1 E sc f c') (wF (fcOf K ct xt H g E sx th)) := by
  refine Takes.imp (W := fun cls d _ H => E cls d H) (takes_of rfl rfl rfl rfl) fun cls dd σ H' h => ?_
  obtain ⟨en, st, g', c, f', rel, ex, hE⟩ := h
  exact hE cls dd H' g' rel.ext rel.sto ex
end
end Il
end
section
set_option Elab.async false
set_option linter.all false
set_option maxRecDepth 100000
namespace Il
open PySem PySem.Spec PyProof.Rows L2
def zipD (xs ys : List D) : List D := (xs.zip ys).map fun p => .tup [p.1, p.2]
def iZip (l : Lx) : Lx := fun en st => (l en st).bind fun vs s1 => match vs with
  | [.lst xs, .lst ys] => .ok (zipD xs ys) s1
  | [.tup xs, .tup ys] => .ok (zipD xs ys) s1
  | _ => .stuck
theorem zipD_get {xs ys : List D} {i : Nat} {d : D} (e : (zipD xs ys)[i]? = some d) : ∃ x y, xs[i]? = some x ∧ ys[i]? = some y ∧ d = .tup [x, y] := by
  unfold zipD at e
  rw [List.getElem?_map] at e
  cases h : (xs.zip ys)[i]? with
  | none => rw [h] at e; cases e
  | some p =>
    rw [h] at e
    obtain ⟨x, y⟩ := p
    obtain ⟨h1, h2⟩ := List.getElem?_zip_eq_some.mp h
    exact ⟨x, y, h1, h2, (Option.some.inj e).symm⟩
/-- a slice of a tuple -/
def xSlT (a : Ex) (lo hi : Px) : Ex := fun en st => (a en st).bind fun x s1 => (lo en s1).bind fun l s2 => (hi en s2).bind fun h s3 => match x with
  | .tup xs => .ok (.tup (cut xs l h)) s3
  | _ => .stuck
theorem cut_whole {α : Type} {xs : List α} {lo hi : Option Int} (h : sIx xs.length 0 lo = 0 ∧ sIx xs.length xs.length hi = xs.length) : cut xs lo hi = xs := by
  unfold cut
  rw [h.1, h.2]
  simp
theorem sIx_eq (n d : Nat) (x : Option Int) : HT.sIx n d x = sIx n d x := by
  cases x <;> rfl
section
variable {X : Cx} {F : Fc} {a : Expr} {lo hi : Option Expr} {xa : Ex} {pl ph : Px} {pos p2 : Pos}
theorem q_slT (ha : PE X a (SE F xa)) (hl : PO X lo (SO F pl)) (hh : PO X hi (SO F ph)) : PE X (.Subscript a (.Slice lo hi none p2) pos) (SE F (xSlT xa pl ph)) := wkE (pe_slice sl_tupA ha hl hh) fun σ H Q h => by
  obtain ⟨en, st, g, rel, go⟩ := h
  refine ⟨en, st, g, rel, Go.bind go fun x s1 u H1 g1 e1 rel1 st1 r1 go1 => ?_⟩
  refine ⟨en, s1, g1, rel1, Go.bind go1 fun l s2 l' H2 g2 e2 rel2 st2 r2 go2 => ?_⟩
  cases r2
  refine ⟨en, s2, g2, rel2, Go.bind go2 fun k s3 k' H3 g3 e3 rel3 st3 r3 go3 => ?_⟩
  cases r3
  have rx := (r1.step (st2.s rel1.sto.aw)).step (st3.s rel2.sto.aw)
  split at go3
  · cases rx with
    | tup h n l =>
      refine ⟨_, _, rfl, sqT _ h, fun q => ?_, fun _ p np => ?_⟩
      · rw [sIx_eq, sIx_eq, ← l.length] at q
        rw [cut_whole q] at go3
        exact go3.here rel3 (.tup h n l)
      · exact Go.new go3 rel3 np (.tup upd_same (rel3.newW np) ((cut_rep _ _ l).step (.same (.new np))))
  · exact go3.elim
end
end Il
end
section
set_option Elab.async false
set_option linter.all false
set_option maxRecDepth 100000
namespace Il
open PySem PySem.Spec PyProof.Rows L2
/-! x in xs, x not in xs: xs a tuple or a list of data -/
def memD (x : D) (ys : List D) : Bool := ys.any fun y => D.eqv y x
def inB (n : Bool) (st : Store) (x y : D) : Option D := match deref st y with
  | .lst ys => if (deref st x).ok && (D.lst ys).ok then some (.bl (memD (deref st x) ys != n)) else none
  | .tup ys => if (deref st x).ok && (D.tup ys).ok then some (.bl (memD (deref st x) ys != n)) else none
  | _ => none
def oIn (st : Store) (x y : D) : Option D := inB false st x y
def oNotIn (st : Store) (x y : D) : Option D := inB true st x y
def rInA (n : Bool) (K : PySem.W.Frag) : R2 := fun x y H Q => ∃ d ds, Dp K H x d ∧ (Dp K H y (.list ds) ∧ SeqAt.shaped (.list ds) = true ∨ Dp K H y (.tuple ds) ∧ SeqAt.shaped (.tuple ds) = true) ∧ SeqAt.shaped d = true ∧ Q (.bl ((ds.any fun z => PyData.eqv z d) != n)) H
end Il
end
section
set_option Elab.async false
set_option linter.all false
set_option maxRecDepth 100000
/-! list(zip(xs, ys)) of two tuples: the zip's first tuple is kept, so each item is a tuple of its own. -/
namespace Il
open PySem PySem.Spec PyProof.Rows L2 PySem.W RZ
section
variable {prog : Program} {w : World} {A : Around} {E : Value → Shared → Prop} {s : Shared}
/-- what a zip over two tuples at its places stands on -/
structure ZipT (h : Heap) (TI i1 i2 l1 l2 : Addr) (k1 k2 : Nat) (xs ys : Array Value) : Prop where
  ti : IsPair h TI (.ref i1) (.ref i2)
  n1 : h.IsTupleIter i1 l1 k1
  n2 : h.IsTupleIter i2 l2 k2
  t1 : h.IsTuple l1 xs
  t2 : h.IsTuple l2 ys
variable {z TI TO T i1 i2 l1 l2 : Addr} {f : Bool} {oT : Obj} {k1 k2 : Nat} {xs ys : Array Value} {x y : Value}
theorem tupZip_item {Q : Value → Shared → Prop} (D : ZipApart z TI TO i1 i2 l1 l2) (c : IsZipHeld s.heap z TI TO T f) (o : s.heap.get? T = some oT) (t : ZipT s.heap TI i1 i2 l1 l2 k1 k2 xs ys) (ex : xs[k1]? = some x) (ey : ys[k2]? = some y)
    (fin : ∀ g, IsZipHeld g z TI TO T true → g.IsTupleIter i1 l1 (k1 + 1) → g.IsTupleIter i2 l2 (k2 + 1) → IsPair g s.heap.objs.size x y → g.objs.size = s.heap.objs.size + 1 → (∀ a u, a ≠ z → a ≠ i1 → a ≠ i2 → s.heap.get? a = some u → g.get? a = some u) → Q (.ref s.heap.objs.size) { s with heap := g }) :
    wpAny (model prog w) A (Builtin.«zip.__next__» ⟨[.ref z], []⟩) (fun r s' => ∃ v, r = .done (.ret v) ∧ Q v s') E s := by
  show wpAny _ _ (field (.ref z) 2 >>= fun q2 => _) _ _ _
  refine wpAny_bind (wpAny_field (x := .bool false) c rfl rfl ?_)
  show wpAny _ _ (field (.ref z) 3 >>= fun q3 => _) _ _ _
  refine wpAny_bind (wpAny_field (x := .ref TI) c rfl rfl ?_)
  refine wpAny_bind (wpAny_seqItems t.ti rfl ?_)
  show wpAny _ _ (Builtin.SmallTypes.ownedTupleIsFree (.ref z) >>= fun fr => _) _ _ _
  refine wpAny_bind (wpAny_tupleHeld_zip c o fun g1 c1 b1 => ?_)
  rw [if_neg Bool.false_ne_true]
  refine wpAny_bind ?_
  rw [← Array.forIn_toList]
  simp only [List.forIn_nil, List.forIn_cons]
  refine wpAny_bind (wpAny_bind (wpAny_holding (?_ : wpAny _ _ (Builtin.SmallTypes.nextOf (.ref i1) >>= fun d => _) _ _ _)))
  have m1 := t.n1.extBut b1.extBut D.i1z
  have m2 := t.t1.extBut b1.extBut D.l1z
  refine wpAny_bind (nextOf_tuple_item (s := { s with heap := g1 }) m1 m2 ex fun g2 n2 b2 => wpAny_pure (wpAny_pure ?_))
  refine wpAny_bind (wpAny_bind (wpAny_holding (?_ : wpAny _ _ (Builtin.SmallTypes.nextOf (.ref i2) >>= fun d => _) _ _ _)))
  have m3 := (t.n2.extBut b1.extBut D.i2z).extBut b2.extBut D.i12.symm
  have m4 := (t.t2.extBut b1.extBut D.l2z).extBut b2.extBut D.l2i1
  refine wpAny_bind (nextOf_tuple_item (s := { s with heap := g2 }) m3 m4 ey fun g3 n3 b3 => wpAny_pure (wpAny_pure (wpAny_pure ?_)))
  show wpAny _ _ (newTuple [x, y] >>= fun r => _) _ _ _
  refine wpAny_bind (wpAny_newTuple (wpAny_pure ⟨_, rfl, ?_⟩))
  have sz : g3.objs.size = s.heap.objs.size := b3.1.trans (b2.1.trans b1.1)
  have pz : IsPair (g3.push { cls := .type "tuple", data := .seq #[x, y] }) g3.objs.size x y := Heap.get?_push_size _ rfl
  have ps : (g3.push { cls := .type "tuple", data := .seq #[x, y] }).objs.size = g3.objs.size + 1 := Heap.size_push ..
  have cz : IsZipHeld g3 z TI TO T true := b3.extBut _ _ D.i2z.symm (b2.extBut _ _ D.i1z.symm c1)
  have n2' := n2.extBut b3.extBut D.i12
  show Q (.ref g3.objs.size) _
  rw [sz] at pz ps ⊢
  refine fin _ (Heap.get?_push_of_some _ cz) (n2'.at fun _ q => Heap.get?_push_of_some _ q) (n3.at fun _ q => Heap.get?_push_of_some _ q) pz ps fun a u a1 a2 a3 q => ?_
  exact Heap.get?_push_of_some _ (b3.extBut _ _ a3 (b2.extBut _ _ a2 (b1.extBut _ _ a1 q)))
theorem tupZip_end {B : PySem.Fin → Shared → Prop} (hh : A.handled = none) (D : ZipApart z TI TO i1 i2 l1 l2) (c : IsZipHeld s.heap z TI TO T f) (o : s.heap.get? T = some oT) (t : ZipT s.heap TI i1 i2 l1 l2 k1 k2 xs ys) (no : xs[k1]? = none ∨ ys[k2]? = none)
    (fin : ∀ g e, (∀ a u, a ≠ z → a ≠ i1 → a ≠ i2 → s.heap.get? a = some u → g.get? a = some u) → (∃ u, g.get? e = some u ∧ u.cls = .type "StopIteration") → E (.ref e) { s with heap := g }) :
    wpAny (model prog w) A (Builtin.«zip.__next__» ⟨[.ref z], []⟩) B E s := by
  show wpAny _ _ (field (.ref z) 2 >>= fun q2 => _) _ _ _
  refine wpAny_bind (wpAny_field (x := .bool false) c rfl rfl ?_)
  show wpAny _ _ (field (.ref z) 3 >>= fun q3 => _) _ _ _
  refine wpAny_bind (wpAny_field (x := .ref TI) c rfl rfl ?_)
  refine wpAny_bind (wpAny_seqItems t.ti rfl ?_)
  show wpAny _ _ (Builtin.SmallTypes.ownedTupleIsFree (.ref z) >>= fun fr => _) _ _ _
  refine wpAny_bind (wpAny_tupleHeld_zip c o fun g1 c1 b1 => ?_)
  rw [if_neg Bool.false_ne_true]
  refine wpAny_bind ?_
  rw [← Array.forIn_toList]
  simp only [List.forIn_nil, List.forIn_cons]
  refine wpAny_bind (wpAny_bind (wpAny_holding (?_ : wpAny _ _ (Builtin.SmallTypes.nextOf (.ref i1) >>= fun d => _) _ _ _)))
  have m1 := t.n1.extBut b1.extBut D.i1z
  have m2 := t.t1.extBut b1.extBut D.l1z
  cases ex : xs[k1]? with
  | none => exact wpAny_bind (nextOf_tuple_end (s := { s with heap := g1 }) hh m1 m2 ex fun g2 e b2 he => fin g2 e (fun a u a1 a2 _ q => b2 _ _ a2 (b1.extBut _ _ a1 q)) he)
  | some x =>
    have ey : ys[k2]? = none := no.elim (fun q => by rw [ex] at q; cases q) id
    refine wpAny_bind (nextOf_tuple_item (s := { s with heap := g1 }) m1 m2 ex fun g2 n2 b2 => wpAny_pure (wpAny_pure ?_))
    refine wpAny_bind (wpAny_bind (wpAny_holding (?_ : wpAny _ _ (Builtin.SmallTypes.nextOf (.ref i2) >>= fun d => _) _ _ _)))
    have m3 := (t.n2.extBut b1.extBut D.i2z).extBut b2.extBut D.i12.symm
    have m4 := (t.t2.extBut b1.extBut D.l2z).extBut b2.extBut D.l2i1
    exact wpAny_bind (nextOf_tuple_end (s := { s with heap := g2 }) hh m3 m4 ey fun g3 e b3 he => fin g3 e (fun a u a1 a2 a3 q => b3 _ _ a3 (b2.extBut _ _ a2 (b1.extBut _ _ a1 q))) he)
theorem tupZip_nextI {Q : Option Value → Shared → Prop} (D : ZipApart z TI TO i1 i2 l1 l2) (c : IsZipHeld s.heap z TI TO T f) (o : s.heap.get? T = some oT) (t : ZipT s.heap TI i1 i2 l1 l2 k1 k2 xs ys) (ex : xs[k1]? = some x) (ey : ys[k2]? = some y)
    (fin : ∀ g, IsZipHeld g z TI TO T true → g.IsTupleIter i1 l1 (k1 + 1) → g.IsTupleIter i2 l2 (k2 + 1) → IsPair g s.heap.objs.size x y → g.objs.size = s.heap.objs.size + 1 → (∀ a u, a ≠ z → a ≠ i1 → a ≠ i2 → s.heap.get? a = some u → g.get? a = some u) → Q (some (.ref s.heap.objs.size)) { s with heap := g }) :
    wpAny (model prog w) A (pyNext (.ref z)) Q E s := by
  have ty : s.TypeIs (.ref z) "zip" := ⟨_, c, rfl⟩
  unfold pyNext
  exact wpAny_bind (wpAny_attempt (wpAny_callSpecial?_slot (name := Str.ofString "__next__") ty F.slot_zip_next (wpAny_call_entry F.slot_zip_next ty F.entry_zip_next (tupZip_item D c o t ex ey fun g a b d e' f' kp => wpAny_pure (fin g a b d e' f' kp)) (F.args_zip_next_1 _))))
theorem tupZip_nextE {Q : Option Value → Shared → Prop} (hh : A.handled = none) (D : ZipApart z TI TO i1 i2 l1 l2) (c : IsZipHeld s.heap z TI TO T f) (o : s.heap.get? T = some oT) (t : ZipT s.heap TI i1 i2 l1 l2 k1 k2 xs ys) (no : xs[k1]? = none ∨ ys[k2]? = none)
    (fin : ∀ g, (∀ a u, a ≠ z → a ≠ i1 → a ≠ i2 → s.heap.get? a = some u → g.get? a = some u) → Q none { s with heap := g }) : wpAny (model prog w) A (pyNext (.ref z)) Q E s := by
  have ty : s.TypeIs (.ref z) "zip" := ⟨_, c, rfl⟩
  unfold pyNext
  refine wpAny_bind (wpAny_attempt (wpAny_callSpecial?_slot (name := Str.ofString "__next__") ty F.slot_zip_next (wpAny_call_entry F.slot_zip_next ty F.entry_zip_next (tupZip_end hh D c o t no fun g e kp he => ?_) (F.args_zip_next_1 _))))
  obtain ⟨u, hu, hc⟩ := he
  exact wpAny_bind (wpAny_isInstance (b := true) (T := "StopIteration") ⟨u, hu, hc⟩ isSubtype_stop (wpAny_pure (fin _ kp)))
end
end Il
end
section
set_option Elab.async false
set_option linter.all false
set_option maxRecDepth 100000
namespace Il
open PySem PySem.Spec PyProof.Rows L2 PySem.W RZ
/-- amid the drain of a zip of two tuples into the list at S -/
structure ZL (X : Cx) (pins : List (Addr × Obj)) (σ : L2.St) (S z TI TO T i1 i2 l1 l2 : Addr) (us ws : List V) (H0 : Hp) (i : Nat) (s : Shared) (H : Hp) (acc : Array Value) (c : Nat) (vs : List V) : Prop where
  I : Inv X pins σ H s
  held : ∃ f, IsZipHeld s.heap z TI TO T f
  first : ∃ pr, H T = some (.tup pr)
  ti : IsPair s.heap TI (.ref i1) (.ref i2)
  n1 : s.heap.IsTupleIter i1 l1 i
  n2 : s.heap.IsTupleIter i2 l2 i
  q1 : SqT X.K H l1 us
  q2 : SqT X.K H l2 ws
  obj : s.heap.get? S = some (lstObj acc c)
  fp : ∀ b ∈ [S, z, TI, i1, i2], FpOk X pins H b
  vals : Vals vs acc.toList
  len : vs.length = i
  its : ∀ (j : Nat) (v : V), vs[j]? = some v → ∃ a x y, v = .ref a ∧ H0 a = none ∧ H a = some (.tup [x, y]) ∧ us[j]? = some x ∧ ws[j]? = some y
  ext : Ext H0 H
theorem zip_drain {X : Cx} {pins : List (Addr × Obj)} {σ : L2.St} {A : Around} {R : Result → Shared → Prop} {S z TI TO T i1 i2 l1 l2 : Addr} {us ws : List V} {H0 : Hp} {res : Value} (hh : A.handled = none) (D : ZipApart z TI TO i1 i2 l1 l2) (hS : ∀ b ∈ [z, TI, i1, i2], S ≠ b)
    (hl : us.length ≤ sizeLine) (done : ∀ s' H acc c vs, Inv X pins σ H s' → s'.heap.get? S = some (lstObj acc c) → (∀ b ∈ [S, z, TI, i1, i2], FpOk X pins H b) → Vals vs acc.toList → vs.length = min us.length ws.length → Ext H0 H →
      (∀ (j : Nat) (v : V), vs[j]? = some v → ∃ a x y, v = .ref a ∧ H0 a = none ∧ H a = some (.tup [x, y]) ∧ us[j]? = some x ∧ ws[j]? = some y) → R (.ok (.ret res)) s') :
    ∀ (k i : Nat) (s : Shared) (H : Hp) (acc : Array Value) (c : Nat) (vs : List V), min us.length ws.length - i = k → i ≤ min us.length ws.length → ZL X pins σ S z TI TO T i1 i2 l1 l2 us ws H0 i s H acc c vs →
    codeAny (model X.prog X.w) A (.builtin "list.extend.loop" ⟨[.ref S, .ref z, res], []⟩) R s := by
  intro k
  induction k with
  | zero =>
    intro i s H acc c vs hk hi Z
    have ei : i = min us.length ws.length := by omega
    obtain ⟨fl, hz⟩ := Z.held
    obtain ⟨pr, hT⟩ := Z.first
    obtain ⟨oT, eT⟩ : ∃ oT, s.heap.get? T = some oT := by
      obtain ⟨_, _, ⟨o, e, _⟩, _⟩ := Z.I.tuple (.inl (.inl hT))
      exact ⟨o, e⟩
    obtain ⟨as, va, ta, _⟩ := Z.I.tuple Z.q1
    obtain ⟨bs, vb, tb, _⟩ := Z.I.tuple Z.q2
    have t : ZipT s.heap TI i1 i2 l1 l2 i i as.toArray bs.toArray := ⟨Z.ti, Z.n1, Z.n2, ta, tb⟩
    have la := va.length
    have lb := vb.length
    have no : as.toArray[i]? = none ∨ bs.toArray[i]? = none := by
      rcases Nat.le_total us.length ws.length with q | q
      · rw [Nat.min_eq_left q] at ei
        exact .inl (Array.getElem?_eq_none (by rw [List.size_toArray]; omega))
      · rw [Nat.min_eq_right q] at ei
        exact .inr (Array.getElem?_eq_none (by rw [List.size_toArray]; omega))
    refine codeAny_builtin F.entry_extend_loop ?_
    rw [Around.under_plainId F.plain_extend_loop _]
    refine wpAny_bind (tupZip_nextE (A := A.in1) hh D hz eT t no fun g kp => wpAny_pure ?_)
    have fz : ∀ b ∈ [z, i1, i2], FpOk X pins H b := fun b hb => Z.fp b (by
      simp only [List.mem_cons, List.not_mem_nil, or_false] at hb ⊢
      rcases hb with e | e | e <;> simp [e])
    have I2 : Inv X pins σ H { s with heap := g } := Z.I.turnedL (t' := s.toks) (fun b o nb q => kp b o (fun e => nb (by simp [e])) (fun e => nb (by simp [e])) (fun e => nb (by simp [e])) q) fz
    exact done _ H acc c vs I2 (kp S _ (hS z (by simp)) (hS i1 (by simp)) (hS i2 (by simp)) Z.obj) Z.fp Z.vals (Z.len.trans ei) Z.ext Z.its
  | succ k ih =>
    intro i s H acc c vs hk hi Z
    have lt : i < min us.length ws.length := by omega
    have lt1 : i < us.length := Nat.lt_of_lt_of_le lt (Nat.min_le_left _ _)
    have lt2 : i < ws.length := Nat.lt_of_lt_of_le lt (Nat.min_le_right _ _)
    obtain ⟨fl, hz⟩ := Z.held
    obtain ⟨pr, hT⟩ := Z.first
    obtain ⟨oT, eT⟩ : ∃ oT, s.heap.get? T = some oT := by
      obtain ⟨_, _, ⟨o, e, _⟩, _⟩ := Z.I.tuple (.inl (.inl hT))
      exact ⟨o, e⟩
    obtain ⟨as, va, ta, _⟩ := Z.I.tuple Z.q1
    obtain ⟨bs, vb, tb, _⟩ := Z.I.tuple Z.q2
    have t : ZipT s.heap TI i1 i2 l1 l2 i i as.toArray bs.toArray := ⟨Z.ti, Z.n1, Z.n2, ta, tb⟩
    have ex : us[i]? = some us[i] := List.getElem?_eq_getElem lt1
    have ey : ws[i]? = some ws[i] := List.getElem?_eq_getElem lt2
    generalize us[i] = x at ex
    generalize ws[i] = y at ey
    obtain ⟨x', ex', rx⟩ := va.get ex
    obtain ⟨y', ey', ry⟩ := vb.get ey
    refine codeAny_builtin F.entry_extend_loop ?_
    rw [Around.under_plainId F.plain_extend_loop _]
    refine wpAny_bind (tupZip_nextI (A := A.in1) D hz eT t (x := x') (y := y') (by simpa using ex') (by simpa using ey') fun g cz m1 m2 pT szT kp => ?_)
    have fz : ∀ b ∈ [z, i1, i2], FpOk X pins H b := fun b hb => Z.fp b (by
      simp only [List.mem_cons, List.not_mem_nil, or_false] at hb ⊢
      rcases hb with e | e | e <;> simp [e])
    have hn : H s.heap.objs.size = none := Z.I.hok.fresh (Nat.le_refl _)
    have kp' : ∀ b o, b ∉ [z, i1, i2] → s.heap.get? b = some o → g.get? b = some o := fun b o nb q => kp b o (fun e => nb (by simp [e])) (fun e => nb (by simp [e])) (fun e => nb (by simp [e])) q
    have new : ObjOk X.prog X.w (upd H s.heap.objs.size (.tup [x, y])) g s.heap.objs.size (.tup [x, y]) := ⟨by show 2 ≤ sizeLine; decide, [x', y'], .cons rx (.cons ry .nil), ⟨_, pT, rfl, _, rfl⟩⟩
    have I1 : Inv X pins σ (upd H s.heap.objs.size (.tup [x, y])) { s with heap := g } := Z.I.turnedNew (t' := s.toks) (ch := [z, i1, i2]) kp' fz (Nat.le_refl _) new
    have alive : ∀ b ∈ [S, z, TI, i1, i2], b ≠ s.heap.objs.size := fun b hb => by
      simp only [List.mem_cons, List.not_mem_nil, or_false] at hb
      refine Nat.ne_of_lt ?_
      rcases hb with e | e | e | e | e <;> subst e
      · exact Heap.lt_size Z.obj
      · exact Heap.lt_size hz
      · exact Heap.lt_size Z.ti
      · obtain ⟨_, e, _⟩ := Z.n1; exact Heap.lt_size e
      · obtain ⟨_, e, _⟩ := Z.n2; exact Heap.lt_size e
    have fp1 : ∀ b ∈ [S, z, TI, i1, i2], FpOk X pins (upd H s.heap.objs.size (.tup [x, y])) b := fun b hb => ⟨by rw [upd_ne (alive b hb)]; exact (Z.fp b hb).1, (Z.fp b hb).2⟩
    have oS : g.get? S = some (lstObj acc c) := kp S _ (hS z (by simp)) (hS i1 (by simp)) (hS i2 (by simp)) Z.obj
    have al : acc.size = i := by
      have := Z.vals.length
      rw [Z.len] at this
      rw [← Array.length_toList]; exact this.symm
    show wpAny _ A.in1 (updateSeq S (fun q => q.push (Value.ref s.heap.objs.size)) >>= fun _ => _) _ _ _
    refine wpAny_bind (wpAny_updateSeq oS rfl (wpAny_pure ⟨plainId_quiet F.plain_extend_loop _, ?_⟩) (by rw [al]; omega) (by simp only [Array.size_push, al]; omega))
    have k2 : ∀ b o, b ∉ [S] → g.get? b = some o → (g.update S (Obj.mapSeq fun q => q.push (Value.ref s.heap.objs.size))).get? b = some o := fun b o nb q => (Heap.get?_update_other _ _ (fun e : S = b => nb (by simp [e]))).trans q
    have ne : ∀ b ∈ [z, TI, i1, i2], b ∉ [S] := fun b hb e => hS b hb (List.mem_singleton.mp e).symm
    have tS : s.heap.objs.size ∉ [S] := fun e => alive S (by simp) (List.mem_singleton.mp e).symm
    refine ih (i + 1) _ (upd H s.heap.objs.size (.tup [x, y])) (acc.push (.ref s.heap.objs.size)) _ (vs ++ [.ref s.heap.objs.size]) (by omega) lt ⟨?_, ⟨true, k2 _ _ (ne z (by simp)) cz⟩, ⟨pr, ?_⟩, ?_, m1.at fun o q => k2 _ o (ne i1 (by simp)) q, m2.at fun o q => k2 _ o (ne i2 (by simp)) q, ?_, ?_, Heap.get?_update_self _ oS rfl, fp1, ?_, by simp [Z.len], ?_, fun b u q => by rw [upd_ne (ne_of_none (Z.ext b u q) hn)]; exact Z.ext b u q⟩
    · exact I1.turnedL (t' := s.toks) k2 fun b hb => fp1 b (by rw [List.mem_singleton.mp hb]; simp)
    · rw [upd_ne (ne_of_none hT hn)]; exact hT
    · exact k2 _ _ (ne TI (by simp)) (kp' _ _ (by simp [D.TIz, D.TIi1, D.TIi2]) Z.ti)
    · have stay : ∀ b u, H b = some u → upd H s.heap.objs.size (.tup [x, y]) b = some u := fun b u q => by rw [upd_ne (ne_of_none q hn)]; exact q
      rcases Z.q1 with (q | ⟨o, q⟩) | q
      · exact .inl (.inl (stay _ _ q))
      · exact .inl (.inr ⟨o, stay _ _ q⟩)
      · exact .inr q
    · have stay : ∀ b u, H b = some u → upd H s.heap.objs.size (.tup [x, y]) b = some u := fun b u q => by rw [upd_ne (ne_of_none q hn)]; exact q
      rcases Z.q2 with (q | ⟨o, q⟩) | q
      · exact .inl (.inl (stay _ _ q))
      · exact .inl (.inr ⟨o, stay _ _ q⟩)
      · exact .inr q
    · rw [Array.toList_push]
      exact Z.vals.append (.cons rfl .nil)
    · intro j v e
      rw [List.getElem?_append] at e
      split at e
      · obtain ⟨a, x2, y2, e1, e0, e2, e3, e4⟩ := Z.its j v e
        exact ⟨a, x2, y2, e1, e0, by rw [upd_ne (ne_of_none e2 hn)]; exact e2, e3, e4⟩
      · rename_i nj
        rw [Z.len] at e nj
        have ej : j - i = 0 := by
          by_cases q : j - i = 0
          · exact q
          · rw [List.getElem?_eq_none (by simp; omega)] at e; cases e
        rw [ej] at e
        have : j = i := by omega
        subst this
        cases e
        exact ⟨_, x, y, rfl, (by cases q0 : H0 s.heap.objs.size with | none => rfl | some u => have := Z.ext _ _ q0; rw [hn] at this; cases this), upd_same, ex, ey⟩
end Il
end
section
set_option Elab.async false
set_option linter.all false
set_option maxRecDepth 100000
namespace Il
open PySem PySem.Spec PyProof.Rows L2 PySem.W RZ
theorem nolen_zip : typeLookup (.type "zip") "__len__" = pure none := by rw [typeLookup_type, builtinLookup_eq_fast]; kernel_rfl
theorem nohint_zip : typeLookup (.type "zip") "__length_hint__" = pure none := by rw [typeLookup_type, builtinLookup_eq_fast]; kernel_rfl
/-- the first item, or none -/
theorem zip_drain0 {X : Cx} {pins : List (Addr × Obj)} {σ : L2.St} {A : Around} {R : Result → Shared → Prop} {S z TI TO i1 i2 l1 l2 : Addr} {us ws : List V} {res va vb : Value} {s : Shared} {H : Hp} {c : Nat} (hh : A.handled = none) (D : ZipApart z TI TO i1 i2 l1 l2) (hS : ∀ b ∈ [z, TI, i1, i2], S ≠ b)
    (I : Inv X pins σ H s) (hz : IsZip s.heap z TI TO .none) (ti : IsPair s.heap TI (.ref i1) (.ref i2)) (to : IsPair s.heap TO va vb) (n1 : s.heap.IsTupleIter i1 l1 0) (n2 : s.heap.IsTupleIter i2 l2 0) (q1 : SqT X.K H l1 us) (q2 : SqT X.K H l2 ws)
    (obj : s.heap.get? S = some (lstObj #[] c)) (fp : ∀ b ∈ [S, z, TI, i1, i2], FpOk X pins H b) (fpo : FpOk X pins H TO) (sTO : S ≠ TO)
    (done : ∀ s' H' acc c vs, Inv X pins σ H' s' → s'.heap.get? S = some (lstObj acc c) → (∀ b ∈ [S, z, TI, i1, i2], FpOk X pins H' b) → Vals vs acc.toList → vs.length = min us.length ws.length → Ext H H' →
      (∀ (j : Nat) (v : V), vs[j]? = some v → ∃ a x y, v = .ref a ∧ H a = none ∧ H' a = some (.tup [x, y]) ∧ us[j]? = some x ∧ ws[j]? = some y) → R (.ok (.ret res)) s') :
    codeAny (model X.prog X.w) A (.builtin "list.extend.loop" ⟨[.ref S, .ref z, res], []⟩) R s := by
  obtain ⟨as, va', ta, hlen⟩ := I.tuple q1
  obtain ⟨bs, vb', tb, _⟩ := I.tuple q2
  have fz : ∀ b ∈ [z, TO, i1, i2], FpOk X pins H b := fun b hb => by
    simp only [List.mem_cons, List.not_mem_nil, or_false] at hb
    rcases hb with e | e | e | e
    · exact fp b (by simp [e])
    · rw [e]; exact fpo
    · exact fp b (by simp [e])
    · exact fp b (by simp [e])
  refine codeAny_builtin F.entry_extend_loop ?_
  rw [Around.under_plainId F.plain_extend_loop _]
  by_cases lt : 0 < min us.length ws.length
  · have lt1 : 0 < us.length := Nat.lt_of_lt_of_le lt (Nat.min_le_left _ _)
    have lt2 : 0 < ws.length := Nat.lt_of_lt_of_le lt (Nat.min_le_right _ _)
    have ex : us[0]? = some us[0] := List.getElem?_eq_getElem lt1
    have ey : ws[0]? = some ws[0] := List.getElem?_eq_getElem lt2
    generalize us[0] = x at ex
    generalize ws[0] = y at ey
    obtain ⟨x', ex', rx⟩ := va'.get ex
    obtain ⟨y', ey', ry⟩ := vb'.get ey
    refine wpAny_bind (pyNext_zipT_item (A := A.in1) D hz ti to n1 n2 ta tb (x := x') (y := y') (by simpa using ex') (by simpa using ey') fun g cz to' m1 m2 pT szT kp => ?_)
    have hn : H s.heap.objs.size = none := I.hok.fresh (Nat.le_refl _)
    have kp' : ∀ b o, b ∉ [z, TO, i1, i2] → s.heap.get? b = some o → g.get? b = some o := fun b o nb q => kp b o (fun e => nb (by simp [e])) (fun e => nb (by simp [e])) (fun e => nb (by simp [e])) (fun e => nb (by simp [e])) q
    have new : ObjOk X.prog X.w (upd H s.heap.objs.size (.tup [x, y])) g s.heap.objs.size (.tup [x, y]) := ⟨by show 2 ≤ sizeLine; decide, [x', y'], .cons rx (.cons ry .nil), ⟨_, pT, rfl, _, rfl⟩⟩
    have I1 : Inv X pins σ (upd H s.heap.objs.size (.tup [x, y])) { s with heap := g } := I.turnedNew (t' := s.toks) (ch := [z, TO, i1, i2]) kp' fz (Nat.le_refl _) new
    have alive : ∀ b ∈ [S, z, TI, i1, i2], b ≠ s.heap.objs.size := fun b hb => by
      simp only [List.mem_cons, List.not_mem_nil, or_false] at hb
      refine Nat.ne_of_lt ?_
      rcases hb with e | e | e | e | e <;> subst e
      · exact Heap.lt_size obj
      · exact Heap.lt_size hz
      · exact Heap.lt_size ti
      · obtain ⟨_, e, _⟩ := n1; exact Heap.lt_size e
      · obtain ⟨_, e, _⟩ := n2; exact Heap.lt_size e
    have fp1 : ∀ b ∈ [S, z, TI, i1, i2], FpOk X pins (upd H s.heap.objs.size (.tup [x, y])) b := fun b hb => ⟨by rw [upd_ne (alive b hb)]; exact (fp b hb).1, (fp b hb).2⟩
    have oS : g.get? S = some (lstObj #[] c) := kp S _ (hS z (by simp)) sTO (hS i1 (by simp)) (hS i2 (by simp)) obj
    show wpAny _ A.in1 (updateSeq S (fun q => q.push (Value.ref s.heap.objs.size)) >>= fun _ => _) _ _ _
    refine wpAny_bind (wpAny_updateSeq oS rfl (wpAny_pure ⟨plainId_quiet F.plain_extend_loop _, ?_⟩) (by simp) (by simp))
    have k2 : ∀ b o, b ∉ [S] → g.get? b = some o → (g.update S (Obj.mapSeq fun q => q.push (Value.ref s.heap.objs.size))).get? b = some o := fun b o nb q => (Heap.get?_update_other _ _ (fun e : S = b => nb (by simp [e]))).trans q
    have ne : ∀ b ∈ [z, TI, i1, i2], b ∉ [S] := fun b hb e => hS b hb (List.mem_singleton.mp e).symm
    have stay : ∀ b u, H b = some u → upd H s.heap.objs.size (.tup [x, y]) b = some u := fun b u q => by rw [upd_ne (ne_of_none q hn)]; exact q
    refine zip_drain hh D hS (by omega) done _ 1 _ (upd H s.heap.objs.size (.tup [x, y])) ((#[] : Array Value).push (.ref s.heap.objs.size)) _ [.ref s.heap.objs.size] rfl lt ⟨?_, ⟨false, k2 _ _ (ne z (by simp)) cz⟩, ⟨[x, y], upd_same⟩, ?_, m1.at fun o q => k2 _ o (ne i1 (by simp)) q, m2.at fun o q => k2 _ o (ne i2 (by simp)) q, ?_, ?_, Heap.get?_update_self _ oS rfl, fp1, .cons rfl .nil, rfl, ?_, stay⟩
    · exact I1.turnedL (t' := s.toks) k2 fun b hb => fp1 b (by rw [List.mem_singleton.mp hb]; simp)
    · exact k2 _ _ (ne TI (by simp)) (kp' _ _ (by simp [D.TIz, D.TITO, D.TIi1, D.TIi2]) ti)
    · rcases q1 with (q | ⟨o, q⟩) | q
      · exact .inl (.inl (stay _ _ q))
      · exact .inl (.inr ⟨o, stay _ _ q⟩)
      · exact .inr q
    · rcases q2 with (q | ⟨o, q⟩) | q
      · exact .inl (.inl (stay _ _ q))
      · exact .inl (.inr ⟨o, stay _ _ q⟩)
      · exact .inr q
    · intro j v e
      cases j with
      | zero => cases e; exact ⟨_, x, y, rfl, hn, upd_same, ex, ey⟩
      | succ j => simp at e
  · have la := va'.length
    have lb := vb'.length
    have no : as.toArray[0]? = none ∨ bs.toArray[0]? = none := by
      rcases Nat.le_total us.length ws.length with q | q
      · rw [Nat.min_eq_left q] at lt
        exact .inl (Array.getElem?_eq_none (by rw [List.size_toArray]; omega))
      · rw [Nat.min_eq_right q] at lt
        exact .inr (Array.getElem?_eq_none (by rw [List.size_toArray]; omega))
    refine wpAny_bind (pyNext_zipT_end (A := A.in1) hh D hz ti to n1 n2 ta tb no fun g kp => wpAny_pure ?_)
    have I2 : Inv X pins σ H { s with heap := g } := I.turnedL (t' := s.toks) (fun b o nb q => kp b o (fun e => nb (by simp [e])) (fun e => nb (by simp [e])) (fun e => nb (by simp [e])) (fun e => nb (by simp [e])) q) fz
    exact done _ H #[] c [] I2 (kp S _ (hS z (by simp)) sTO (hS i1 (by simp)) (hS i2 (by simp)) obj) fp .nil (by simp; omega) (fun _ _ q => q) (fun j v e => by simp at e)
end Il
end
section
set_option Elab.async false
set_option linter.all false
set_option maxRecDepth 100000
namespace Il
open PySem PySem.Spec PyProof.Rows L2 PySem.W RZ
/-- a list that stood aside is looked after from here on -/
theorem inv_track {X : Cx} {pins : List (Addr × Obj)} {σ : L2.St} {s : Shared} {H : Hp} {S : Addr} {vs : List V} {acc : Array Value} {c : Nat} (I : Inv X pins σ H s) (fp : FpOk X pins H S) (e : s.heap.get? S = some (lstObj acc c)) (r : Vals vs acc.toList) (hl : vs.length ≤ sizeLine) : Inv X pins σ (upd H S (.lst vs)) s := by
  have hn := fp.1
  have far : ∀ b u, H b = some u → b ≠ S := fun b u q z => by rw [z, hn] at q; cases q
  refine I.step (t' := s.toks) (g' := s.gens) (d' := s.drawn) (h' := s.heap) (ch := [S]) (fun b hb => ?_) (fun _ _ _ _ _ q _ => q) (fun b o _ _ _ q _ => ⟨o.slots, q⟩) (fun b o nb q n => ?_) (fun b o _ q => ⟨o, q⟩)
    (fun b xs q => ?_) (fun b o u q => ?_) (fun b ps q => ⟨#[], ?_⟩) (fun _ q => q) (fun b u q => ?_) I.bare
  · rw [List.mem_singleton.mp hb]; exact ⟨fp.2.2.2.1, fp.2.1, fp.2.2.2.2.1, fp.2.2.2.2.2⟩
  · rw [upd_ne (fun z => nb (by simp [z]))]; exact n
  · rw [upd_ne (far b _ q)]; exact q
  · rw [upd_ne (far b _ q)]; exact q
  · rw [upd_ne (far b _ q), q]; simp
  · by_cases hb : b = S
    · subst hb
      rw [upd_same] at q
      cases q
      exact ⟨hl, acc.toList, c, r, by rw [e]⟩
    · rw [upd_ne hb] at q
      exact (I.hok b u q).stay (fun _ _ _ z => z) (fun d z => by rw [upd_ne (far d _ z)]; exact z) fun d xs z => by rw [upd_ne (far d _ z)]; exact z
/-- list(z), z a zip of two tuples that has not begun -/
theorem call_listZip {X : Cx} {pins : List (Addr × Obj)} {σ : L2.St} {A : Around} {s : Shared} {H : Hp} {z TI TO i1 i2 l1 l2 : Addr} {us ws : List V} {va vb : Value} {Q : Value → Shared → Prop} {E : Value → Shared → Prop} (hh : A.handled = none) (D : ZipApart z TI TO i1 i2 l1 l2)
    (I : Inv X pins σ H s) (hz : IsZip s.heap z TI TO .none) (ti : IsPair s.heap TI (.ref i1) (.ref i2)) (to : IsPair s.heap TO va vb) (n1 : s.heap.IsTupleIter i1 l1 0) (n2 : s.heap.IsTupleIter i2 l2 0) (q1 : SqT X.K H l1 us) (q2 : SqT X.K H l2 ws)
    (fp : ∀ b ∈ [z, TI, i1, i2], FpOk X pins H b) (fpo : FpOk X pins H TO)
    (done : ∀ s' H' S vs, Inv X pins σ (upd H' S (.lst vs)) s' → H' S = none → H S = none → vs.length = min us.length ws.length → Ext H H' → (∀ (j : Nat) (v : V), vs[j]? = some v → ∃ a x y, v = .ref a ∧ H a = none ∧ H' a = some (.tup [x, y]) ∧ us[j]? = some x ∧ ws[j]? = some y) → Q (.ref S) s') :
    wpAny (model X.prog X.w) A (call (.type "list") [.ref z]) Q E s := by
  have k1 : ∀ b o, s.heap.get? b = some o → (s.heap.push { cls := .type "list", data := .seq #[] }).get? b = some o := fun b o e => Heap.get?_push_of_some _ e
  refine callType_codes (Q₁ := fun obj s1 => obj = .ref s.heap.objs.size ∧ s1 = { s with heap := s.heap.push { cls := .type "list", data := .seq #[] } }) F.called_list (F.typeCall_list_1 _) F.entry_list_init (code_list_new _ ⟨rfl, rfl⟩) fun obj s1 h1 => ?_
  obtain ⟨rfl, rfl⟩ := h1
  have oS : (s.heap.push { cls := .type "list", data := .seq #[] }).get? s.heap.objs.size = some { cls := .type "list", data := .seq #[] } := Heap.get?_push_size _ rfl
  refine ⟨⟨_, oS, rfl⟩, F.args_list_init_2 _ _, ?_⟩
  generalize eS : s.heap.objs.size = S at *
  have zS : ∀ b o, s.heap.get? b = some o → b ≠ S := fun b o e => by rw [← eS]; exact Nat.ne_of_lt (Heap.lt_size e)
  show wpAny _ A.in1.in1 (Builtin.List.listItems (.ref S) >>= fun old => Builtin.List.listUpdate (.ref S) (fun _ => #[]) >>= fun _ => letGo old.toList.reverse >>= fun _ => Builtin.List.listExtendWith (.ref S) (.ref z) .none) _ _ _
  refine wpAny_bind ?_
  unfold Builtin.List.listItems
  refine wpAny_bind (wpAny_seqItems oS rfl (wpAny_pure ?_))
  show wpAny _ A.in1.in1 (updateSeq S (fun _ => #[]) >>= fun _ => letGo (#[] : Array Value).toList.reverse >>= fun _ => Builtin.List.listExtendWith (.ref S) (.ref z) .none) _ _ _
  refine wpAny_bind (wpAny_updateSeq oS rfl ?_)
  have o2 := Heap.get?_update_self (Obj.mapSeq (fun _ => (#[] : Array Value))) oS rfl
  refine wpAny_bind (wpAny_letGo ?_)
  unfold Builtin.List.listExtendWith
  have up : ∀ (h : Heap) (f : Obj → Obj), (∀ b o, s.heap.get? b = some o → h.get? b = some o) → ∀ b o, s.heap.get? b = some o → (h.update S f).get? b = some o := fun h f q b o e => (Heap.get?_update_other _ _ (zS b o e).symm).trans (q b o e)
  have k2 := up _ (Obj.mapSeq (fun _ => (#[] : Array Value))) k1
  have ty : ∀ {h : Heap}, (∀ b o, s.heap.get? b = some o → h.get? b = some o) → ({ s with heap := h } : Shared).TypeIs (.ref z) "zip" := fun {h} q => ⟨_, q _ _ hz, rfl⟩
  have zz : S ≠ z := (zS _ _ hz).symm
  refine wpAny_bind (wpAny_typeOf (ty k2) ?_)
  have b1 : Builtin.List.listSameRef (.ref S) (.ref z) = false := by simp [Builtin.List.listSameRef, zz]
  have b2 : (Value.type "zip" == Value.type "list") = false := by decide
  have b3 : (Value.type "zip" == Value.type "tuple") = false := by decide
  simp only [b1, b2, b3, Bool.or_false, Bool.false_eq_true, if_false]
  refine wpAny_bind (wpAny_pyIter_zip (k2 _ _ hz) ?_)
  refine wpAny_bind (wpAny_holding ?_)
  unfold Builtin.List.listLengthHint
  refine wpAny_bind (wpAny_specialOf (ty k2) nolen_zip ?_)
  show wpAny _ A.in1.in1 (specialOf (Value.ref z) (Str.ofString "__length_hint__") >>= fun _ => _) _ _ _
  refine wpAny_bind (wpAny_specialOf (ty k2) nohint_zip ?_)
  refine wpAny_pure ?_
  show wpAny _ A.in1.in1 (rule "list.extend.makes-room" >>= fun _ => Builtin.List.listTouch (.ref S) >>= fun _ => again (.builtin "list.extend.loop" ⟨[.ref S, .ref z, .none], []⟩)) _ _ _
  refine wpAny_bind (wpAny_rule ?_)
  refine wpAny_bind ?_
  show wpAny _ A.in1.in1 (updateSeq S (fun q => q.push .none) >>= fun _ => updateSeq S (fun q => q.pop)) _ _ _
  refine wpAny_bind (wpAny_updateSeq o2 rfl ?_)
  have o3 := Heap.get?_update_self (Obj.mapSeq (fun q => q.push Value.none)) o2 rfl
  refine wpAny_updateSeq (hz := by seq_fits) o3 rfl ?_
  have o4 := Heap.get?_update_self (Obj.mapSeq (fun q => q.pop)) o3 rfl
  have k4 := up _ (Obj.mapSeq (fun q => q.pop)) (up _ (Obj.mapSeq (fun q => q.push Value.none)) k2)
  refine wpAny_pure ⟨plainId_quiet F.plain_extend_loop _, ?_⟩
  have nS : H S = none := I.hok.fresh (by rw [eS]; exact Nat.le_refl _)
  have fS : FpOk X pins H S := I.fpOk (by rw [eS]; exact Nat.le_refl _) nS
  have lv : ∀ b ∈ [z, TI, i1, i2], ∃ o, s.heap.get? b = some o := fun b hb => by
    simp only [List.mem_cons, List.not_mem_nil, or_false] at hb
    rcases hb with e | e | e | e <;> subst e
    · exact ⟨_, hz⟩
    · exact ⟨_, ti⟩
    · obtain ⟨o, e, _⟩ := n1; exact ⟨o, e⟩
    · obtain ⟨o, e, _⟩ := n2; exact ⟨o, e⟩
  refine zip_drain0 (A := A.in1) (us := us) (ws := ws) hh D (fun b hb => let ⟨o, e⟩ := lv b hb; (zS b o e).symm) (I.kept (t' := s.toks) k4) (k4 _ _ hz) (k4 _ _ ti) (k4 _ _ to) (n1.at fun o q => k4 _ o q) (n2.at fun o q => k4 _ o q) q1 q2 o4 (fun b hb => ?_) fpo (zS _ _ to).symm fun s' H' acc c vs I2 e2 fp2 r2 len2 ext2 its2 => ?_
  · rcases List.mem_cons.mp hb with e | e
    · rw [e]; exact fS
    · exact fp b e
  · obtain ⟨_, _, _, hl⟩ := I.tuple q1
    exact ⟨rfl, done s' H' S vs (inv_track I2 (fp2 S (by simp)) e2 r2 (by omega)) (fp2 S (by simp)).1 nS len2 ext2 its2⟩
end Il
end
section
set_option Elab.async false
set_option linter.all false
set_option maxRecDepth 100000
namespace Il
open PySem PySem.Spec PyProof.Rows L2 PySem.W RZ
def tLZ (K : PySem.W.Frag) (ta : TA) : TE := fun σ H Q => ta σ H fun vs H1 => ∃ a b xs ys, vs = [.ref a, .ref b] ∧ SqT K H1 a xs ∧ SqT K H1 b ys ∧
  ∀ H2 S us, Ext H1 H2 → H1 S = none → H2 S = none → us.length = min xs.length ys.length → (∀ (j : Nat) (v : V), us[j]? = some v → ∃ T x y, v = .ref T ∧ H1 T = none ∧ H2 T = some (.tup [x, y]) ∧ xs[j]? = some x ∧ ys[j]? = some y) → Q (.ref S) (upd H2 S (.lst us))
theorem pe_listZip {X : Cx} {e e2 : Expr} {ta : TA} {p p2 pos pos2 : Pos} (hc : X.calm = true) (hg : Gl X "list") (hm : X.mg "list" = none) (hg2 : Gl X "zip") (hm2 : X.mg "zip" = none) (ha : PA X [e, e2] ta)
    (hs : starEach [e, e2] X.env = (false, eval e X.env) :: starEach [e2] X.env := by rfl) (hpl : (backTo pos2 (starEach [e2] X.env)).any (·.1) = false := by rfl) :
    PE X (.Call (.Name "list" p) [.Call (.Name "zip" p2) [e, e2] [] pos2] [] pos) (tLZ X.K ta) := by
  refine ⟨fun pins s σ H Q I h => ?_⟩
  refine Call_ (ld_blt I hg hm PyProof.Rows.boot_list (PyProof.Rows.callWith_type1 ?_ rfl rfl))
  refine Calls.spliced_cons (Call_ (ld_blt I hg2 hm2 PyProof.Rows.boot_zip (PyProof.Rows.callWith_type1 (thn (ha.run pos2 pins s σ H _ I h) fun us s1 ⟨vs, H1, I1, r1, q1⟩ => ?_) hs hpl)))
  obtain ⟨a, b, xs, ys, ev, hqx, hqy, q⟩ := q1
  subst ev
  cases r1 with
  | cons r rr =>
    cases rr with
    | cons r' rr =>
      cases rr
      cases r
      cases r'
      obtain ⟨its, rv, p1, _⟩ := I1.tuple hqx
      obtain ⟨its2, rv2, p3, _⟩ := I1.tuple hqy
      obtain ⟨o1, ho1, _⟩ := id p1
      obtain ⟨o2, ho2, _⟩ := id p3
      refine call_zipT (show s1.heap.IsTuple a its.toArray from p1) (show s1.heap.IsTuple b its2.toArray from p3) fun h' hz hTI hTO h1 h2 hsz hk => ?_
      refine Calls.spliced_nil ?_
      have I2 : Inv X pins σ H1 { s1 with heap := h' } := I1.kept (t' := s1.toks) hk
      have fr : ∀ c, s1.heap.objs.size ≤ c → FpOk X pins H1 c := fun c hle => I1.fpOk hle (I1.hok.fresh hle)
      refine call_listZip (I1.ok.hd hc) (PySem.W.ktu_apart s1.heap.objs.size a b (Heap.lt_size ho1) (Heap.lt_size ho2)) I2 hz hTI hTO h1 h2 hqx hqy (fun c hcm => ?_) (fr _ (Nat.le_add_right _ _)) fun s' H2 S us IS n1 n2 len ext its => ?_
      · simp only [List.mem_cons, List.not_mem_nil, or_false] at hcm
        rcases hcm with z | z | z | z <;> rw [z] <;> exact fr _ (by first | exact Nat.le_refl _ | exact Nat.le_add_right _ _)
      · exact ⟨.ref S, _, IS, rfl, q H2 S us ext n2 n1 len its⟩
end Il
end
section
set_option Elab.async false
set_option linter.all false
set_option maxRecDepth 100000
set_option maxHeartbeats 2000000
/-! New lists: by a test, from a zip, as a shared list; methods of shared lists. -/
namespace Il
open PySem PySem.Spec L2
section
variable {X : Cx} {F : Fc} {a b c : Expr} {xa xb : Ex} {la lb : Lx} {ta : Tx} {pos p : Pos}
def lIf (t : Tx) (a b : Lx) : Lx := fun en st => (t en st).bind fun x s1 => if x then a en s1 else b en s1
/-- list(zip(a, b)) of two tuples -/
def lZipT (l : Lx) : Lx := fun en st => (l en st).bind fun vs s1 => match vs with
  | [.tup xs, .tup ys] => .ok (zipD xs ys) s1
  | _ => .stuck
theorem repL_of {g : Gh} {H : Hp} : ∀ {ds : List D} {vs : List V}, ds.length = vs.length → (∀ (i : Nat) (d : D) (v : V), ds[i]? = some d → vs[i]? = some v → Rep g H d v) → RepL g H ds vs
  | [], [], _, _ => .nil
  | [], _ :: _, h, _ => by simp at h
  | _ :: _, [], h, _ => by simp at h
  | d :: ds, v :: vs, h, k => .cons (k 0 d v rfl rfl) (repL_of (by simpa using h) fun i d' v' h1 h2 => k (i + 1) d' v' (by simpa using h1) (by simpa using h2))
theorem q_listZip {e e2 : Expr} {p2 pos2 : Pos} (hc : X.calm = true) (hg : Gl X "list") (hm : X.mg "list" = none) (hg2 : Gl X "zip") (hm2 : X.mg "zip" = none) (ha : PA X [e, e2] (SA F la))
    (hs : starEach [e, e2] X.env = (false, eval e X.env) :: starEach [e2] X.env := by rfl) (hpl : (backTo pos2 (starEach [e2] X.env)).any (·.1) = false := by rfl) :
    PE X (.Call (.Name "list" p) [.Call (.Name "zip" p2) [e, e2] [] pos2] [] pos) (SN F (lZipT la)) := wkE (pe_listZip hc hg hm hg2 hm2 ha hs hpl) fun σ H Q h => by
  obtain ⟨en, st, g, rel, go⟩ := h
  refine ⟨en, st, g, rel, Go.bind go fun x s1 u H1 g1 e1 rel1 st1 r1 go1 => ?_⟩
  split at go1
  case h_2 => exact go1.elim
  rename_i xs ys
  cases r1 with
  | cons ra r1 => cases r1 with
    | cons rb r1 =>
      cases r1
      cases ra with
      | tup h1 n1 l1 => cases rb with
        | tup h2 n2 l2 =>
          rename_i a1 us a2 ws
          refine ⟨a1, a2, us, ws, rfl, sqT _ h1, sqT _ h2, fun H2 S zs ext nS nS2 len its => ?_⟩
          have relx := rel1.same ext
          have stx : Step g1 H1 g1 H2 := .same ext
          have lz : (zipD xs ys).length = zs.length := by
            rw [len, ← l1.length, ← l2.length]
            simp [zipD, List.length_zip]
          have rl : RepL g1 H2 (zipD xs ys) zs := repL_of lz fun i d v hd hv => by
            obtain ⟨T, x, y, rfl, nT, hT, hx, hy⟩ := its i v hv
            obtain ⟨dx, dy, ex, ey, rfl⟩ := zipD_get hd
            obtain ⟨v1, e1', r1'⟩ := l1.get ex
            obtain ⟨v2, e2', r2'⟩ := l2.get ey
            rw [hx] at e1'
            rw [hy] at e2'
            cases e1'
            cases e2'
            exact .tup hT (fun w => rel1.sto.tr T w nT) (.cons (r1'.step (stx.s rel1.sto.aw)) (.cons (r2'.step (stx.s rel1.sto.aw)) .nil))
          exact new_read relx (st1.trans stx) rl (Go.from (r := Res.ok (zipD xs ys) s1) go1 stx) nS2
/-! ### a new list as a shared one -/
mutual
theorem Rep.more {g : Gh} {H : Hp} {A' : List Addr} (h : ∀ (n : Nat) (a : Addr), g.A[n]? = some a → A'[n]? = some a) : ∀ {d : D} {v : V}, Rep g H d v → Rep ⟨g.K, A', g.W⟩ H d v
  | _, _, .non => .non
  | _, _, .bl b => .bl b
  | _, _, .int i => .int i
  | _, _, .str x => .str x
  | _, _, .tup r n l => .tup r n (RepL.more h l)
  | _, _, .scr r l => .scr r (RepL.more h l)
  | _, _, .lst r n l => .lst r n (RepL.more h l)
  | _, _, .dct r n l => .dct r n (RepK.more h l)
  | _, _, .ref e => .ref (h _ _ e)
theorem RepL.more {g : Gh} {H : Hp} {A' : List Addr} (h : ∀ (n : Nat) (a : Addr), g.A[n]? = some a → A'[n]? = some a) : ∀ {ds : List D} {vs : List V}, RepL g H ds vs → RepL ⟨g.K, A', g.W⟩ H ds vs
  | _, _, .nil => .nil
  | _, _, .cons r t => .cons (Rep.more h r) (RepL.more h t)
theorem RepK.more {g : Gh} {H : Hp} {A' : List Addr} (h : ∀ (n : Nat) (a : Addr), g.A[n]? = some a → A'[n]? = some a) : ∀ {ds : List (D × D)} {vs : List (Key × V)}, RepK g H ds vs → RepK ⟨g.K, A', g.W⟩ H ds vs
  | _, _, .nil => .nil
  | _, _, .cons k r t => .cons k (Rep.more h r) (RepK.more h t)
end
theorem RepF.more {g : Gh} {H : Hp} {A' : List Addr} (h : ∀ (n : Nat) (a : Addr), g.A[n]? = some a → A'[n]? = some a) : ∀ {ds : List (Str × D)} {vs : List (Str × V)}, RepF g H ds vs → RepF ⟨g.K, A', g.W⟩ H ds vs
  | _, _, .nil => .nil
  | _, _, .cons r t => .cons (r.more h) (RepF.more h t)
theorem RepKT.more {g : Gh} {H : Hp} {A' : List Addr} (h : ∀ (n : Nat) (a : Addr), g.A[n]? = some a → A'[n]? = some a) : ∀ {ds : List (List D × D)} {vs : List (List Key × V)}, RepKT g H ds vs → RepKT ⟨g.K, A', g.W⟩ H ds vs
  | _, _, .nil => .nil
  | _, _, .cons k r t => .cons k (r.more h) (RepKT.more h t)
theorem ObR.more {ct : ClsT} {g : Gh} {H : Hp} {A' : List Addr} (hw : ∀ (n : Nat) (a : Addr), g.A[n]? = some a → A'[n]? = some a) {a : Addr} {o : O} (h : ObR ct g H a o) : ObR ct ⟨g.K, A', g.W⟩ H a o := by
  cases o with
  | lst xs =>
    obtain ⟨vs, q1, q2⟩ := h
    exact ⟨vs, q1, q2.more hw⟩
  | dct kvs =>
    obtain ⟨vs, q1, q2⟩ := h
    exact ⟨vs, q1, q2.more hw⟩
  | dtt kvs =>
    obtain ⟨vs, q1, q2⟩ := h
    exact ⟨vs, q1, q2.more hw⟩
  | ins c fs =>
    obtain ⟨dx, vs, q1, q2⟩ := h
    exact ⟨dx, vs, q1, q2.more hw⟩
  | tab j q => exact h
theorem Sto.born {ct : ClsT} {g : Gh} {H : Hp} {st : Store} {p : Addr} {o : O} (t : Sto ct g H st) (w : g.W p) (na : p ∉ g.A) (ob : ObR ct ⟨g.K, g.A ++ [p], g.W⟩ H p o) : Sto ct ⟨g.K, g.A ++ [p], g.W⟩ H (st ++ [o]) := by
  have hl := t.len
  have pre : ∀ (n : Nat) (a : Addr), g.A[n]? = some a → (g.A ++ [p])[n]? = some a := fun n a e => by
    rw [List.getElem?_append_left (List.getElem?_eq_some_iff.mp e).1]; exact e
  refine ⟨by simp [t.len], ?_, fun b hb => ?_, t.tr, t.nt, fun n o' b h1 h2 => ?_⟩
  · rw [List.nodup_append]
    exact ⟨t.nd, by simp, fun x hx y hy => fun z => na (by rw [List.mem_singleton.mp hy] at z; rw [← z]; exact hx)⟩
  · rcases List.mem_append.mp hb with hb | hb
    · exact t.aw b hb
    · rw [List.mem_singleton.mp hb]; exact w
  · by_cases hn : n < st.length
    · rw [List.getElem?_append_left hn] at h1
      rw [List.getElem?_append_left (by rw [t.len]; exact hn)] at h2
      exact (t.ob n o' b h1 h2).more pre
    · have hn' : n = st.length := by
        have := (List.getElem?_eq_some_iff.mp h1).1
        simp at this
        omega
      subst hn'
      rw [List.getElem?_append_right (Nat.le_refl _)] at h1
      rw [List.getElem?_append_right (by omega), hl] at h2
      simp at h1 h2
      subst h1 h2
      exact ob
def xCellL (l : Lx) : Ex := fun en st => (l en st).bind fun xs s1 => .ok (.ref s1.length) (s1 ++ [.lst xs])
theorem q_cellL {e : Expr} (h : PE X e (SN F la)) : PE X e (SE F (xCellL la)) := wkE h fun σ H Q h => by
  obtain ⟨en, st, g, rel, go⟩ := h
  refine ⟨en, st, g, rel, Go.bind go fun xs s1 us H1 g1 e1 rel1 st1 r1 go1 => ?_⟩
  obtain ⟨p, vs, rfl, np, h1, l, w, na⟩ := r1
  have pre : ∀ (n : Nat) (a : Addr), g1.A[n]? = some a → (g1.A ++ [p])[n]? = some a := fun n a e => by
    rw [List.getElem?_append_left (List.getElem?_eq_some_iff.mp e).1]; exact e
  obtain ⟨B, eB, nB⟩ := st1.A
  have stp : Step g H ⟨g1.K, g1.A ++ [p], g1.W⟩ H1 := ⟨st1.K, ⟨B ++ [p], by rw [← List.append_assoc, ← eB], fun a ha => by
    rcases List.mem_append.mp ha with z | z
    · exact nB a z
    · rw [List.mem_singleton.mp z]; exact np⟩, st1.keep, st1.there, st1.W1, st1.W2⟩
  have t2 := rel1.sto.born (o := .lst xs) w na ⟨vs, h1, l.more pre⟩
  have go2 : Go F Rep σ en g H Q (.ok (.ref s1.length) (s1 ++ [.lst xs])) := by
    have z := go
    unfold xCellL at z
    rw [e1] at z
    exact z
  exact go2 (.ref p) H1 _ (rel.step stp t2) stp (.ref (by
    show (g1.A ++ [p])[s1.length]? = some p
    rw [← rel1.sto.len]; simp))
/-- o.append(e), o a shared list -/
def sAppR (o a : Ex) : Bk := fun en st => ofRes en (o en st) fun x s1 => match x with
  | .ref n => match s1[n]? with
    | some (.lst _) => ofRes en (a en s1) fun y s2 => match s2[n]? with
      | some (.lst xs) => if xs.length < BIG then .next en (s2.set n (.lst (xs ++ [y]))) else .stuck
      | _ => .stuck
    | _ => .stuck
  | _ => .stuck
/-- o.pop(), o a shared list, its value not looked at -/
def sPopR (o : Ex) : Bk := fun en st => ofRes en (o en st) fun x s1 => match x with
  | .ref n => match s1[n]? with
    | some (.lst xs) => if xs.isEmpty then .stuck else .next en (s1.set n (.lst xs.dropLast))
    | _ => .stuck
  | _ => .stuck
/-- o.pop(0), o a shared list -/
def sPop0R (o : Ex) : Bk := fun en st => ofRes en (o en st) fun x s1 => match x with
  | .ref n => match s1[n]? with
    | some (.lst (_ :: xs)) => .next en (s1.set n (.lst xs))
    | _ => .stuck
  | _ => .stuck
end
end Il
end
section
set_option Elab.async false
set_option linter.all false
set_option maxRecDepth 100000
set_option maxHeartbeats 2000000
/-! The order of data: <, >, sorted, min, max. -/
namespace Il
open PySem PySem.Spec L2 PySem.W
mutual
def D.like : D → D → Bool
  | .non, .non => true
  | .bl _, .bl _ => true
  | .int _, .int _ => true
  | .str _, .str _ => true
  | .lst xs, .lst ys => D.likeL xs ys
  | .tup xs, .tup ys => D.likeL xs ys
  | _, _ => false
def D.likeL : List D → List D → Bool
  | x :: xs, y :: ys => D.like x y && D.likeL xs ys
  | [], _ => true
  | _ :: _, [] => true
end
mutual
def D.lt : D → D → Bool
  | .bl a, .bl b => !a && b
  | .int a, .int b => decide (a < b)
  | .str a, .str b => decide (a.cps.toList < b.cps.toList)
  | .tup xs, .tup ys => D.ltL xs ys
  | .lst xs, .lst ys => D.ltL xs ys
  | _, _ => false
def D.ltL : List D → List D → Bool
  | [], [] => false
  | [], _ :: _ => true
  | _ :: _, [] => false
  | x :: xs, y :: ys => if D.eqv x y then D.ltL xs ys else D.lt x y
end
mutual
theorem like_py : ∀ (x y : D), x.flat = true → y.flat = true → D.like x y = true → alike (toPy x) (toPy y) = true
  | .non, y, _, _, h => by cases y <;> simp [D.like, toPy, alike] at *
  | .bl _, y, _, _, h => by cases y <;> simp [D.like, toPy, alike] at *
  | .int _, y, _, _, h => by cases y <;> simp [D.like, toPy, alike] at *
  | .str _, y, _, _, h => by cases y <;> simp [D.like, toPy, alike] at *
  | .tup xs, y, h1, h2, h => by
    cases y with
    | tup ys =>
      simp only [D.flat] at h1 h2
      simp only [D.like] at h
      simp only [toPy, alike]
      exact likeL_py xs ys h1 h2 h
    | _ => simp [D.like] at h
  | .lst xs, y, h1, h2, h => by
    cases y with
    | lst ys =>
      simp only [D.flat] at h1 h2
      simp only [D.like] at h
      simp only [toPy, alike]
      exact likeL_py xs ys h1 h2 h
    | _ => simp [D.like] at h
  | .dct _, _, h, _, _ => by simp [D.flat] at h
  | .ref _, _, h, _, _ => by simp [D.flat] at h
  | .scr _, _, h, _, _ => by simp [D.flat] at h
theorem likeL_py : ∀ (xs ys : List D), D.flatL xs = true → D.flatL ys = true → D.likeL xs ys = true → alikeAll (toPyL xs) (toPyL ys) = true
  | [], [], _, _, _ => by simp [toPyL, alikeAll]
  | [], _ :: _, _, _, _ => by simp [toPyL, alikeAll]
  | _ :: _, [], _, _, _ => by simp [toPyL, alikeAll]
  | x :: xs, y :: ys, h1, h2, h => by
    simp only [D.flatL, Bool.and_eq_true] at h1 h2
    simp only [D.likeL, Bool.and_eq_true] at h
    simp only [toPyL, alikeAll, Bool.and_eq_true]
    exact ⟨like_py x y h1.1 h2.1 h.1, likeL_py xs ys h1.2 h2.2 h.2⟩
end
mutual
theorem lt_py : ∀ (x y : D), x.flat = true → y.flat = true → D.like x y = true → dataLt (toPy x) (toPy y) = D.lt x y
  | .non, y, _, _, h => by
    cases y <;> simp [D.like] at h
    simp only [toPy, D.lt]
    decide
  | .bl a, y, _, _, h => by
    cases y <;> simp [D.like] at h
    simp only [toPy, D.lt, dataLt_bool]
    rename_i b _
    cases a <;> cases b <;> rfl
  | .int _, y, _, _, h => by
    cases y <;> simp [D.like] at h
    simp only [toPy, D.lt, dataLt_int]
  | .str _, y, _, _, h => by
    cases y <;> simp [D.like] at h
    simp only [toPy, D.lt, dataLt_str]
  | .tup xs, y, h1, h2, h => by
    cases y with
    | tup ys =>
      simp only [D.flat] at h1 h2
      simp only [D.like] at h
      simp only [toPy, D.lt, dataLt_tuple]
      exact ltL_py xs ys h1 h2 h
    | _ => simp [D.like] at h
  | .lst xs, y, h1, h2, h => by
    cases y with
    | lst ys =>
      simp only [D.flat] at h1 h2
      simp only [D.like] at h
      simp only [toPy, D.lt, dataLt_list]
      exact ltL_py xs ys h1 h2 h
    | _ => simp [D.like] at h
  | .dct _, _, h, _, _ => by simp [D.flat] at h
  | .ref _, _, h, _, _ => by simp [D.flat] at h
  | .scr _, _, h, _, _ => by simp [D.flat] at h
theorem ltL_py : ∀ (xs ys : List D), D.flatL xs = true → D.flatL ys = true → D.likeL xs ys = true → rowLt (toPyL xs) (toPyL ys) = D.ltL xs ys
  | [], [], _, _, _ => by
    simp only [toPyL, D.ltL, rowLt]
    decide
  | [], y :: ys, _, _, _ => by
    simp only [toPyL, D.ltL, rowLt, keyToksAll]
    rw [PySem.W.lex_atom (by decide)]
    decide
  | x :: xs, [], _, _, _ => by
    simp only [toPyL, D.ltL, rowLt, keyToksAll]
    rw [PySem.W.lex_atom (by decide)]
    decide
  | x :: xs, y :: ys, h1, h2, h => by
    simp only [D.flatL, Bool.and_eq_true] at h1 h2
    simp only [D.likeL, Bool.and_eq_true] at h
    simp only [toPyL, D.ltL]
    have ih := ltL_py xs ys h1.2 h2.2 h.2
    unfold rowLt at ih ⊢
    rw [dataLt_cons (like_py x y h1.1 h2.1 h.1), eqv_py x y h1.1 h2.1, ih, lt_py x y h1.1 h2.1 h.1]
end
def cmpOk (x y : D) : Bool := x.ok && y.ok && D.like x y && !isNon x
def oLtD (st : Store) (x y : D) : Option D := if cmpOk (deref st x) (deref st y) then some (.bl (D.lt (deref st x) (deref st y))) else none
def oGtD (st : Store) (x y : D) : Option D := if cmpOk (deref st x) (deref st y) then some (.bl (D.lt (deref st y) (deref st x))) else none
def oLeD (st : Store) (x y : D) : Option D := if cmpOk (deref st x) (deref st y) then some (.bl (!D.lt (deref st y) (deref st x))) else none
def oGeD (st : Store) (x y : D) : Option D := if cmpOk (deref st x) (deref st y) then some (.bl (!D.lt (deref st x) (deref st y))) else none
def rCmpD (K : PySem.W.Frag) (f : PyData → PyData → Bool) : R2 := fun x y H Q => ∃ d e, Dp K H x d ∧ Dp K H y e ∧ alike d e = true ∧ d ≠ .none ∧ d.depth ≤ 64 ∧ Q (.bl (f d e)) H
section
variable {X : Cx} {F : Fc}
mutual
theorem like_symm : ∀ {x y : D}, D.like x y = true → D.like y x = true
  | .non, y, h => by cases y <;> simp [D.like] at *
  | .bl _, y, h => by cases y <;> simp [D.like] at *
  | .int _, y, h => by cases y <;> simp [D.like] at *
  | .str _, y, h => by cases y <;> simp [D.like] at *
  | .tup xs, y, h => by
    cases y with
    | tup ys => simp only [D.like] at *; exact likeL_symm h
    | _ => simp [D.like] at h
  | .lst xs, y, h => by
    cases y with
    | lst ys => simp only [D.like] at *; exact likeL_symm h
    | _ => simp [D.like] at h
  | .dct _, y, h => by cases y <;> simp [D.like] at h
  | .ref _, y, h => by cases y <;> simp [D.like] at h
  | .scr _, y, h => by cases y <;> simp [D.like] at h
theorem likeL_symm : ∀ {x y : List D}, D.likeL x y = true → D.likeL y x = true
  | [], [], _ => by simp [D.likeL]
  | [], _ :: _, _ => by simp [D.likeL]
  | _ :: _, [], _ => by simp [D.likeL]
  | x :: xs, y :: ys, h => by
    simp only [D.likeL, Bool.and_eq_true] at *
    exact ⟨like_symm h.1, likeL_symm h.2⟩
end
/-! ### sorted, min, max -/
def D.le (x y : D) : Bool := !D.lt y x
def tupNe : D → Bool
  | .tup (_ :: _) => true
  | _ => false
def plainK : D → Bool
  | .non => false
  | .tup _ => false
  | _ => true
def sortable (xs : List D) : Bool := xs.all (fun x => x.ok) && xs.all (fun x => xs.all fun y => D.like x y) && (xs.all tupNe || xs.all plainK) && decide (xs.length ≤ BIG)
def lSortD (st : Store) (x : D) : Option (List D) := match deref st x with
  | .lst xs => if sortable xs then some (xs.mergeSort D.le) else none
  | .tup xs => if sortable xs then some (xs.mergeSort D.le) else none
  | _ => none
def rSortD (K : PySem.W.Frag) : List V → Hp → VK → Prop := fun vs H Q => ∃ (a : Addr) (xs : List V) (ds : List D), vs = [V.ref a] ∧ (SqL K H a xs ∨ SqT K H a xs) ∧ DpAll K H xs (toPyL ds) ∧ D.flatL ds = true ∧ sortable ds = true ∧
  ∀ (ps : List (D × V)) (p : Addr), (∀ q ∈ ps, q ∈ ds.zip xs) → ps.map (·.1) = ds.mergeSort D.le → H p = none → Q (.ref p) (upd H p (.lst (ps.map (·.2))))
end
end Il
namespace Il
open PySem PySem.Spec L2 PySem.W PySem.Calls PyProof.Rows
section
variable {prog : Program} {w : World} {A : Around} {E : Value → Shared → Prop} {s : Shared}
end
section
variable {X : Cx} {F : Fc} {a : Expr} {xa : Ex} {p pos : Pos}
end
end Il
end
section
set_option Elab.async false
set_option linter.all false
set_option maxRecDepth 100000
set_option maxHeartbeats 2000000
/-! min, max of data; count, index. -/
namespace Il
open PySem PySem.Spec L2 PySem.W PySem.Calls PyProof.Rows
mutual
theorem toPy_inj : ∀ (x y : D), x.flat = true → y.flat = true → toPy x = toPy y → x = y
  | .non, y, _, h, e => by cases y <;> simp [toPy, D.flat] at *
  | .bl _, y, _, h, e => by cases y <;> simp [toPy, D.flat] at *; exact e
  | .int _, y, _, h, e => by cases y <;> simp [toPy, D.flat] at *; exact e
  | .str _, y, _, h, e => by cases y <;> simp [toPy, D.flat] at *; exact e
  | .tup xs, y, h1, h2, e => by
    cases y with
    | tup ys =>
      simp only [D.flat] at h1 h2
      simp only [toPy, PyData.tuple.injEq] at e
      rw [toPyL_inj xs ys h1 h2 e]
    | _ => simp [toPy, D.flat] at *
  | .lst xs, y, h1, h2, e => by
    cases y with
    | lst ys =>
      simp only [D.flat] at h1 h2
      simp only [toPy, PyData.list.injEq] at e
      rw [toPyL_inj xs ys h1 h2 e]
    | _ => simp [toPy, D.flat] at *
  | .dct _, _, h, _, _ => by simp [D.flat] at h
  | .ref _, _, h, _, _ => by simp [D.flat] at h
  | .scr _, _, h, _, _ => by simp [D.flat] at h
theorem toPyL_inj : ∀ (xs ys : List D), D.flatL xs = true → D.flatL ys = true → toPyL xs = toPyL ys → xs = ys
  | [], [], _, _, _ => rfl
  | [], _ :: _, _, _, e => by simp [toPyL] at e
  | _ :: _, [], _, _, e => by simp [toPyL] at e
  | x :: xs, y :: ys, h1, h2, e => by
    simp only [D.flatL, Bool.and_eq_true] at h1 h2
    simp only [toPyL, List.cons.injEq] at e
    rw [toPy_inj x y h1.1 h2.1 e.1, toPyL_inj xs ys h1.2 h2.2 e.2]
end
/-- the least, the first of equal ones -/
def minDD (x : D) (xs : List D) : D := xs.foldl (fun a y => if D.lt y a then y else a) x
def maxDD (x : D) (xs : List D) : D := xs.foldl (fun a y => if D.lt a y then y else a) x
def allLike (xs : List D) : Bool := xs.all (fun x => x.ok && !isNon x) && xs.all (fun x => xs.all fun y => D.like x y)
def seqOf (st : Store) (x : D) : Option (List D) := match deref st x with
  | .lst xs => some xs
  | .tup xs => some xs
  | _ => none
def oMinD (st : Store) (x : D) : Option D := match seqOf st x with
  | some (x :: xs) => if allLike (x :: xs) then some (minDD x xs) else none
  | _ => none
def oMaxD (st : Store) (x : D) : Option D := match seqOf st x with
  | some (x :: xs) => if allLike (x :: xs) then some (maxDD x xs) else none
  | _ => none
/-- what stands at a place of vs, of which it is told as what it reads -/
def rPickD (K : PySem.W.Frag) (f : PyData → List PyData → PyData) : List V → Hp → VK → Prop := fun vs H Q => ∃ (a : Addr) (xs : List V) (d : PyData) (ds : List PyData), vs = [V.ref a] ∧ (SqL K H a xs ∨ SqT K H a xs) ∧ DpAll K H xs (d :: ds) ∧ AlikeAll (d :: ds) ∧ PyData.plainAll (d :: ds) = true ∧ PyData.depthAll (d :: ds) ≤ 60 ∧
  ∀ (i : Nat) (x : V), xs[i]? = some x → (d :: ds)[i]? = some (f d ds) → Q x H
section
variable {X : Cx}
end
theorem plain_py {d : D} (h : d.flat = true) : (toPy d).plain = true := PyData.plain_of_canLay0 _ (lay_py d h)
theorem plainL_py {ds : List D} (h : D.flatL ds = true) : PyData.plainAll (toPyL ds) = true := PyData.plainAll_of_canLay0 _ (layL_py ds h)
section
variable {X : Cx} {F : Fc} {a b : Expr} {xa xb : Ex} {p pos : Pos}
/-! ### methods of lists with one argument -/
def isL (st : Store) (x : D) : Bool := match deref st x with
  | .lst _ => true
  | _ => false
def xBM (f : Store → D → D → Option D) (o a : Ex) : Ex := fun en st => (o en st).bind fun x s1 => if isL s1 x then (a en s1).bind fun y s2 => Res.ofOpt s2 (f s2 x y) else .stuck
theorem q_bm {name : Str} {id : String} {r : V → List V → Hp → VK → Prop} {f : Store → D → D → Option D} {apos : Pos} (slot : Slot "list" name id) (hty : typeOf (.builtin id) = pure (.type "method_descriptor")) (hm : MtR X id r) (hf : Good2 F f fun x y H Q => r x [y] H Q) (ha : PE X a (SR F xa)) (hb : PE X b (SR F xb)) (hs : isStar b = false)
    (hbase : attributeBase a name X.env (eval a X.env) = eval a X.env) (hl : (apos.endLine == p.line) = true) : PE X (.Call (.Attribute a name apos) [b] [] p) (SE F (xBM f xa xb)) :=
  wkE (pe_bm PySem.F.plainAttrs_list slot hty hm ha (pa_cons hb pa_nil (star_of hs)) hbase (by rw [star_of hs]; rfl) hl (star_of hs) rfl) fun σ H Q h => by
    obtain ⟨en, st, g, rel, go⟩ := h
    refine ⟨en, st, g, rel, Go.bind go fun x s1 u H1 g1 e1 rel1 st1 r1 go1 => ?_⟩
    split at go1
    case isFalse => exact go1.elim
    rename_i hi
    have ty : tyV X.K "list" u H1 := by
      unfold isL at hi
      split at hi
      · rename_i ys ey
        obtain ⟨q, vs, rfl, h, l⟩ := der_lst rel1.sto r1 ey
        exact tyL h
      · cases hi
    refine ⟨ty, en, s1, g1, rel1, Go.bind go1 fun y s2 v H2 g2 e2 rel2 st2 r2 go2 => ?_⟩
    obtain ⟨z, ez, go3⟩ := Go.ofOpt go2
    exact hf σ en s2 g2 H2 x y z u v Q rel2 ez (r1.step st2 rel1.sto.aw) r2 go3
def oCount (st : Store) (x y : D) : Option D := match deref st x with
  | .lst xs => if (D.lst xs).ok && y.ok then some (.int (xs.countP fun z => D.eqv z y)) else none
  | _ => none
def oIndex (st : Store) (x y : D) : Option D := match deref st x with
  | .lst xs => if (D.lst xs).ok && y.ok then (xs.findIdx? fun z => D.eqv z y).map fun j => .int j else none
  | _ => none
def rCountD (K : PySem.W.Frag) : V → List V → Hp → VK → Prop := fun x xs H Q => ∃ (a : Addr) (y : V) (d : PyData) (ds : List PyData), x = V.ref a ∧ xs = [y] ∧ Dp K H (V.ref a) (.list ds) ∧ Dp K H y d ∧ PyData.plainAll ds = true ∧ d.plain = true ∧ PyData.depthAll ds ≤ 60 ∧
  Q (.int ((ds.countP fun z => PyData.eqv z d : Nat))) H
theorem mt_countD (hu : X.A.units + 66 < cLine) : MtR X "list.count" (rCountD X.K) := by
  intro pins s σ H x xs v us Q I rx rxs h
  obtain ⟨a, y, d, ds, rfl, rfl, hl, hy, pl, pd, dep, q⟩ := h
  cases rx
  cases rxs with
  | cons ry rt =>
    rename_i uy ut
    cases rt
    obtain ⟨bs, r1⟩ := Dp.reads I d y uy hy ry
    cases hl with
    | lst hs ha =>
      obtain ⟨its, rv, pL, hz⟩ := I.list hs
      obtain ⟨as, h4⟩ := Dp.readsAll I ds _ its ha rv
      exact SeqAt.count_list_data (vs := its.toArray) pL.isList h4 r1 pl pd (by omega) ⟨.int _, H, I.tok _, ⟨_, rfl⟩, q⟩
theorem count_py {y : D} (hy : y.flat = true) : ∀ {xs : List D}, D.flatL xs = true → ((toPyL xs).countP fun z => PyData.eqv z (toPy y)) = xs.countP fun z => D.eqv z y
  | [], _ => rfl
  | x :: xs, h => by
    simp only [D.flatL, Bool.and_eq_true] at h
    simp only [toPyL, List.countP_cons, count_py hy h.2, eqv_py x y h.1 hy]
theorem ok_lst {xs : List D} (h : (D.lst xs).ok = true) : D.flatL xs = true ∧ D.depthL xs ≤ 59 := by
  unfold D.ok at h
  simp only [D.flat, D.depth, Bool.and_eq_true, decide_eq_true_eq] at h
  exact ⟨h.1, by have := of_decide_eq_true h.2; omega⟩
theorem ok_flat {x : D} (h : x.ok = true) : x.flat = true ∧ x.depth ≤ 60 := by
  unfold D.ok at h
  simpa using h
theorem good_count : Good2 F oCount fun x y H Q => rCountD X.K x [y] H Q := by
  intro σ en st g H x y z u v Q rel e r1 r2 go
  unfold oCount at e
  split at e
  case h_2 => cases e
  rename_i xs ex
  split at e
  case isFalse => cases e
  rename_i hk
  rw [Bool.and_eq_true] at hk
  cases e
  obtain ⟨f1, d1⟩ := ok_lst hk.1
  obtain ⟨f2, d2⟩ := ok_flat hk.2
  obtain ⟨p, vs, rfl, h, l⟩ := der_lst rel.sto r1 ex
  have ry : Dp X.K H v (toPy y) := by
    have ey : deref st y = y := der_not fun n z => by subst z; simp [D.flat] at f2
    have := der_dp X.K rel.sto r2 (by rw [ey]; exact f2)
    rwa [ey] at this
  refine ⟨p, v, toPy y, toPyL xs, rfl, rfl, .lst (sq _ h) (repL_dp _ l f1), ry, plainL_py f1, plain_py f2, by rw [depthL_py]; omega, ?_⟩
  rw [count_py f2 f1]
  exact go.here rel (.int _)
theorem find_py {y : D} (hy : y.flat = true) : ∀ {xs : List D}, D.flatL xs = true → ((toPyL xs).findIdx? fun z => PyData.eqv z (toPy y)) = xs.findIdx? fun z => D.eqv z y
  | [], _ => rfl
  | x :: xs, h => by
    simp only [D.flatL, Bool.and_eq_true] at h
    simp only [toPyL, List.findIdx?_cons, find_py hy h.2, eqv_py x y h.1 hy]
theorem good_index : Good2 F oIndex fun x y H Q => rIndexD X.K x [y] H Q := by
  intro σ en st g H x y z u v Q rel e r1 r2 go
  unfold oIndex at e
  split at e
  case h_2 => cases e
  rename_i xs ex
  split at e
  case isFalse => cases e
  rename_i hk
  rw [Bool.and_eq_true] at hk
  obtain ⟨f1, d1⟩ := ok_lst hk.1
  obtain ⟨f2, d2⟩ := ok_flat hk.2
  obtain ⟨p, vs, rfl, h, l⟩ := der_lst rel.sto r1 ex
  have ry : Dp X.K H v (toPy y) := by
    have ey : deref st y = y := der_not fun n z => by subst z; simp [D.flat] at f2
    have := der_dp X.K rel.sto r2 (by rw [ey]; exact f2)
    rwa [ey] at this
  rw [← find_py f2 f1] at e
  cases ef : (toPyL xs).findIdx? fun z => PyData.eqv z (toPy y) with
  | none => rw [ef] at e; cases e
  | some j =>
    rw [ef] at e
    cases e
    obtain ⟨h1, h2, h3⟩ := List.findIdx?_eq_some_iff_getElem.mp ef
    refine ⟨p, v, toPy y, toPyL xs, j, (toPyL xs)[j], rfl, rfl, .lst (sq _ h) (repL_dp _ l f1), ry, ?_, shaped_py hk.2, List.getElem?_eq_getElem h1, h2, fun m z' hm ez => ?_, go.here rel (.int _)⟩
    · have := shaped_py hk.1
      simpa [toPy] using this
    · obtain ⟨hm', rfl⟩ := List.getElem?_eq_some_iff.mp ez
      simpa using h3 m hm
theorem q_count {apos : Pos} (hu : X.A.units + 66 < cLine) (ha : PE X a (SR F xa)) (hb : PE X b (SR F xb)) (hs : isStar b = false) (hbase : attributeBase a "count" X.env (eval a X.env) = eval a X.env) (hl : (apos.endLine == p.line) = true) : PE X (.Call (.Attribute a "count" apos) [b] [] p) (SE F (xBM oCount xa xb)) :=
  q_bm PySem.F.slot_list_count PySem.F.type_list_count (mt_countD hu) good_count ha hb hs hbase hl
theorem q_index {apos : Pos} (hu : X.A.units + 66 < cLine) (ha : PE X a (SR F xa)) (hb : PE X b (SR F xb)) (hs : isStar b = false) (hbase : attributeBase a "index" X.env (eval a X.env) = eval a X.env) (hl : (apos.endLine == p.line) = true) : PE X (.Call (.Attribute a "index" apos) [b] [] p) (SE F (xBM oIndex xa xb)) :=
  q_bm PySem.F.slot_list_index PySem.F.type_list_index (mt_indexD (by omega)) good_index ha hb hs hbase hl
end
end Il
end
section
set_option Elab.async false
set_option linter.all false
set_option maxRecDepth 100000
set_option maxHeartbeats 2000000
/-! Stores at once, own lists among them. -/
namespace Il
open PySem PySem.Spec L2
inductive Kd where
  | e (x : Ex)
  | n (l : Lx)
def evK : List Kd → En → Store → Res (List Sl)
  | [], _, st => .ok [] st
  | .e x :: ks, en, st => (x en st).bind fun d s1 => (evK ks en s1).bind fun ss s2 => .ok (.fro d :: ss) s2
  | .n l :: ks, en, st => (l en st).bind fun xs s1 => (evK ks en s1).bind fun ss s2 => .ok (.own xs :: ss) s2
def setL {α : Type} (en : List α) : List Nat → List α → List α
  | i :: is, s :: ss => setL (en.set i s) is ss
  | _, _ => en
def sPar (is : List Nat) (ks : List Kd) : Bk := fun en st => ofRes en (evK ks en st) fun ss s1 => .next (setL en is (ss.map some)) s1
inductive RepSL (g : Gh) (H : Hp) : List Sl → List V → List Addr → Prop
  | nil : RepSL g H [] [] []
  | fro {d : D} {v : V} {ss : List Sl} {vs : List V} {ps : List Addr} : Rep g H d v → RepSL g H ss vs ps → RepSL g H (.fro d :: ss) (v :: vs) ps
  | own {xs : List D} {us : List V} {p : Addr} {ss : List Sl} {vs : List V} {ps : List Addr} : H p = some (.lst us) → RepL g H xs us → g.W p → p ∉ g.A → p ∉ ps → RepSL g H ss vs ps → RepSL g H (.own xs :: ss) (.ref p :: vs) (p :: ps)
def SK (F : Fc) (ks : List Kd) : TA := fun σ H Q => ∃ en st g, Rel F σ H en st g ∧ Go F (fun g' H' ss vs => ∃ ps, RepSL g' H' ss vs ps ∧ ∀ p ∈ ps, H p = none) σ en g H Q (evK ks en st)
section
variable {X : Cx} {F : Fc} {a : Expr} {es : List Expr} {xa : Ex} {la : Lx} {ks : List Kd} {pos : Pos}
theorem Rel.putL {H : Hp} {st : Store} {g : Gh} : ∀ {is : List Nat} {ss : List Sl} {vs : List V} {ps : List Addr} {σ : L2.St} {en : En}, Rel F σ H en st g → RepSL g H ss vs ps → (∀ p ∈ ps, F.H0 p = none) → (∀ p ∈ ps, ∀ (j : Nat) ys, en[j]? = some (some (.own ys)) → σ[j]? ≠ some (some (.ref p))) →
    Rel F (setL σ is (vs.map some)) H (setL en is (ss.map some)) st g
  | [], _, _, _, _, _, r, _, _, _ => by simp only [setL]; exact r
  | i :: is, [], _, _, _, _, r, .nil, _, _ => by simp only [List.map_nil, setL]; exact r
  | i :: is, _, _, _, σ, en, r, .fro (d := d) (v := v) rd t, n0, no => by
    simp only [List.map_cons, setL]
    refine Rel.putL (r.put rd) t n0 fun p hp j ys ej => ?_
    by_cases hij : i = j
    · subst hij
      rw [List.getElem?_set_self'] at ej
      cases q : en[i]? <;> rw [q] at ej <;> simp at ej
    · rw [List.getElem?_set_ne hij] at ej ⊢
      exact no p hp j ys ej
  | i :: is, _, _, _, σ, en, r, .own (xs := xs) (p := p) hp l w na np t, n0, no => by
    simp only [List.map_cons, setL]
    refine Rel.putL (r.putOwn hp l w na (n0 p List.mem_cons_self) (no p List.mem_cons_self)) t (fun q hq => n0 q (List.mem_cons_of_mem _ hq)) fun q hq j ys ej => ?_
    by_cases hij : i = j
    · subst hij
      intro z
      rw [List.getElem?_set_self'] at z
      cases e : σ[i]? with
      | none => rw [e] at z; simp at z
      | some u =>
        rw [e] at z
        simp at z
        exact np (z ▸ hq)
    · rw [List.getElem?_set_ne hij] at ej ⊢
      exact no q (List.mem_cons_of_mem _ hq) j ys ej
theorem RepSL.len {g : Gh} {H : Hp} : ∀ {ss : List Sl} {vs : List V} {ps : List Addr}, RepSL g H ss vs ps → ss.length = vs.length
  | _, _, _, .nil => rfl
  | _, _, _, .fro _ t => by simp [t.len]
  | _, _, _, .own _ _ _ _ _ t => by simp [t.len]
end
end Il
end
section
set_option Elab.async false
set_option linter.all false
set_option maxRecDepth 100000
set_option maxHeartbeats 2000000
/-! Methods of own classes, called. -/
namespace Il
open PySem PySem.Spec L2
section
variable {X : Cx} {F : Fc} {o e : Expr} {es : List Expr} {xo : Ex} {la : Lx} {pos apos : Pos} {m : Str} {C f : Addr} {fd : FuncData} {ps : List Str} {k nf c : Nat} {Cs : Calls}
end
end Il
end
section
set_option Elab.async false
set_option linter.all false
set_option maxRecDepth 100000
set_option maxHeartbeats 2000000
/-! {} as data and its repr; texts: split, slices, in; slices of lists and tuples backward. -/
namespace Il
open PySem PySem.Spec L2
theorem Room66 {k : Nat} {A : Around} (r : Room k A) : A.units + 66 < cLine := by have := r.un; omega
section
variable {X : Cx} {F : Fc} {k : Nat} {a b : Expr} {xa xb : Ex} {p pos apos : Pos}
theorem q_emp : PE X (.Dict [] [] pos) (SE F (xC (.dct []))) := wkE pe_dnewK fun σ H Q h => by
  obtain ⟨en, st, g, rel, go⟩ := h
  intro p np
  exact Go.new (a := D.dct []) (st := st) go rel np (.dct upd_same (rel.newW np) .nil)
def oReprX (st : Store) (x : D) : Option D := match x with
  | .dct [] => some (.str "{}")
  | _ => oRepr st x
def rReprX (K : PySem.W.Frag) : List V → Hp → VK → Prop := fun xs H Q => rRepr K xs H Q ∨ ∃ a, xs = [.ref a] ∧ H a = some (.dK []) ∧ Q (.str "{}") H
/-! ### texts -/
def lSplit (o a : Ex) : Lx := fun en st => (o en st).bind fun x s1 => match x with
  | .str z => (a en s1).bind fun y s2 => match y with
    | .str w => if w.length ≠ 0 ∧ z.length + 2 ≤ BIG then .ok ((Txt.split z w).map D.str) s2 else .stuck
    | _ => .stuck
  | _ => .stuck
/-- a slice of a text -/
def xSlS (a : Ex) (lo hi : Px) : Ex := fun en st => (a en st).bind fun x s1 => (lo en s1).bind fun l s2 => (hi en s2).bind fun h s3 => match x with
  | .str z => if z.length ≤ BIG then .ok (.str (Txt.slice z l h)) s3 else .stuck
  | _ => .stuck
end
end Il
end
section
set_option Elab.async false
set_option linter.all false
set_option maxRecDepth 100000
set_option maxHeartbeats 2000000
/-! sum of a tuple. -/
namespace Il
open PySem PySem.Spec L2 PyProof.Rows
section
variable {X : Cx} {F : Fc} {a : Expr} {xa : Ex} {p pos : Pos}
def rSumA (K : PySem.W.Frag) : List V → Hp → VK → Prop := fun vs H Q => ∃ (a : Addr) (ns : List Int), vs = [V.ref a] ∧ (SqL K H a (ns.map V.int) ∨ SqT K H a (ns.map V.int)) ∧ Q (.int ns.sum) H
def oSumA (st : Store) (x : D) : Option D := match deref st x with
  | .lst xs => (intsOf xs).map fun is => .int is.sum
  | .tup xs => (intsOf xs).map fun is => .int is.sum
  | _ => none
end
end Il
end
section
set_option Elab.async false
set_option linter.all false
set_option maxRecDepth 100000
set_option maxHeartbeats 2000000
/-! isinstance of own classes; is True, is not False. -/
namespace Il
open PySem PySem.Spec L2
def boolC : D → Option Bool
  | .bl b => some b
  | _ => none
def oIsB (st : Store) (x y : D) : Option D := match x, y with
  | .bl a, .bl b => some (.bl (decide (a = b)))
  | _, _ => none
def oNotB (st : Store) (x y : D) : Option D := match x, y with
  | .bl a, .bl b => some (.bl (!decide (a = b)))
  | _, _ => none
section
variable {X : Cx} {F : Fc} {a : Expr} {xa : Ex} {p pos : Pos}
/-- isinstance(x, C), C an own class; tab: which classes are of it -/
def oIsCls (tab : List (Nat × Bool)) (st : Store) (x : D) : Option D := match x with
  | .ref n => match st[n]? with
    | some (.ins c _) => (tabB tab c).map D.bl
    | some (.lst _) => some (.bl false)
    | some (.dct _) => some (.bl false)
    | _ => none
  | .scr _ => none
  | _ => some (.bl false)
def tyNames : List String := ["NoneType", "bool", "int", "str", "tuple", "list", "dict"]
structure IsC (K : PySem.W.Frag) (ct : ClsT) (tab : List (Nat × Bool)) (C : Addr) : Prop where
  hn : PySem.W.specialIn K (.builtin "object.__class__") "__get__" = some (some (.builtin "getset_descriptor.__get__"))
  htk : PySem.W.takesIn K (.builtin "object.__class__") = some true
  own : ∀ c b, tabB tab c = some b → Cls K (ct c) ∧ PySem.W.findIn K (.ref (ct c)) "__class__" = some (some (.builtin "object.__class__")) ∧ PySem.W.mroIn K (ct c) (.type "object") = some true ∧ PySem.W.kitOne K (.ref (ct c)) (.ref C) = some b
  ty : ∀ y ∈ tyNames, PySem.W.kitOne K (.type y) (.ref C) = some false
end
end Il
end
section
set_option Elab.async false
set_option linter.all false
set_option maxRecDepth 100000
set_option maxHeartbeats 2000000
/-! == and != of instances by the own __eq__ of their class. -/
namespace Il
open PySem PySem.Spec L2 PyProof.Rows
section
variable {prog : Program} {w : World} {A : Around} {E : Value → Shared → Prop} {s : Shared} {K : PySem.W.Frag} {x y C C' L f : Addr} {h₀ : Heap} {m : Str → Option Value} {ox oy : Obj} {od od' : Option Obj} {name : Str} {b tb : Value}
open PySem.W in
end
/-! ### the same over the hand layer -/
section
variable {X : Cx} {F : Fc} {k : Nat} {f : Addr} {fd : FuncData} {ps : List Str} {sp : Sp}
theorem RG.in1 {k : Nat} {A : Around} (r : RG (k + 1) A) : RG k A.in1 := ⟨r.r.in1, r.g⟩
/-- which of two instances' comparisons is asked: (c, c', whether the right one's first) -/
abbrev RfT := List (Nat × Nat × Bool)
def rfL (l : RfT) (c c' : Nat) : Option Bool := (l.find? fun q => q.1 == c && q.2.1 == c').map fun q => q.2.2
structure EqC (K : PySem.W.Frag) (ct : ClsT) (l : RfT) (f : Addr) : Prop where
  fn : PySem.W.isFn K (.ref f) = true
  eq : ∀ c c' j, rfL l c c' = some j → PySem.W.findIn K (.ref (ct c)) "__eq__" = some (some (.ref f)) ∧ PySem.W.findIn K (.ref (ct c')) "__eq__" = some (some (.ref f))
  ne : ∀ c c' j, rfL l c c' = some j → PySem.W.findIn K (.ref (ct c)) "__ne__" = some (some (.builtin "object.__ne__")) ∧ PySem.W.findIn K (.ref (ct c')) "__ne__" = some (some (.builtin "object.__ne__"))
  mro : ∀ c c' j, rfL l c c' = some j → PySem.W.mroIn K (ct c) (.type "object") = some true ∧ PySem.W.mroIn K (ct c') (.type "object") = some true
  no : ∀ c c', rfL l c c' = some false → PySem.W.notFirst K (ct c) (.ref (ct c')) = true
  yes : ∀ c c', rfL l c c' = some true → ct c' ≠ ct c ∧ PySem.W.subIn K (.ref (ct c')) (.ref (ct c)) = some true
end
/-! ### as expressions -/
def insOf (st : Store) : D → Option Nat
  | .ref n => match st[n]? with
    | some (.ins c _) => some c
    | _ => none
  | _ => none
/-- a == b, a != b: instances by the def __eq__ of their class, else data -/
def xEqI (Cs : Calls) (nf : Nat) (l : RfT) (neg : Bool) (a b : Ex) : Ex := fun en st => (a en st).bind fun x s1 => (b en s1).bind fun y s2 => match insOf s2 x, insOf s2 y with
  | some c, some c' => match rfL l c c' with
    | some j => match Cs nf (if j then [y, x] else [x, y]) s2 with
      | .ok (.bl r) s3 => .ok (.bl (neg ^^ r)) s3
      | _ => .stuck
    | none => .stuck
  | none, none => Res.ofOpt s2 (if neg then oNe s2 x y else oEq s2 x y)
  | _, _ => .stuck
section
variable {X : Cx} {F : Fc} {k nf : Nat} {f : Addr} {fd : FuncData} {ps : List Str} {a b : Expr} {xa xb : Ex} {Cs : Calls} {pos : Pos}
def rEqI (X : Cx) (F : Fc) (l : RfT) (neg : Bool) (sp : Sp) : R2 := fun x y H Q => (∃ (a b dx dy : Addr) (c c' : Nat) (fs gs : List (Str × V)) (j : Bool), x = .ref a ∧ y = .ref b ∧ H a = some (.ins (F.ct c) dx fs) ∧ H b = some (.ins (F.ct c') dy gs) ∧ rfL l c c' = some j ∧
    sp (if j then [.ref b, .ref a] else [.ref a, .ref b]) H (fun v H' => ∃ r, v = .bl r ∧ Q (.bl (neg ^^ r)) H') (fun _ _ _ => False)) ∨ (if neg then rNeD X.K x y H Q else rEqD X.K x y H Q)
end
end Il
end
section
set_option Elab.async false
set_option linter.all false
/-! a block that is never walked; products of greater integers; a tuple so many times -/
namespace Il
open PySem PySem.Spec L2 PyProof.Rows
def sStk : Bk := fun _ _ => .stuck
section
variable {X : Cx} {F : Fc}
def CMulB (i j : Int) : Prop := CMul i j ∨ CMulW i j
/-- the product of two integers, of less than 2^64 the one, or of less than 2^200 both -/
def oMulB (st : Store) (x y : D) : Option D := match x, y with
  | .int i, .int j => if (i.natAbs < 2 ^ 64 ∨ j.natAbs < 2 ^ 64) ∨ (i.natAbs < 2 ^ 200 ∧ j.natAbs < 2 ^ 200) then some (.int (i * j)) else none
  | _, _ => none
/-- a tuple so many times -/
def oRepT (st : Store) (x y : D) : Option D := match x, y with
  | .tup xs, .int k => if xs ≠ [] ∧ 2 ≤ k ∧ k ≤ 1000 ∧ xs.length ≤ 1000 then some (.tup (List.replicate k.toNat xs).flatten) else none
  | _, _ => none
theorem good_repT : Good2 F oRepT (rRepT X.K) := by
  intro σ en st g H x y z u v Q rel e r1 r2 go
  unfold oRepT at e
  split at e
  · rename_i xs k
    split at e
    · rename_i h
      cases e
      obtain ⟨p, vs, rfl, h1, l1, n1⟩ := r1.tup
      refine ⟨p, k, vs, rfl, r2.int, sqT _ h1, fun e0 => ?_, h.2.1, h.2.2.1, by rw [← l1.length]; exact h.2.2.2, fun t nt => ?_⟩
      · subst e0
        cases l1
        exact h.1 rfl
      · refine Go.new go rel nt (.tup upd_same (rel.newW nt) ?_)
        exact (l1.flat _).step (.same (.new nt))
    · cases e
  · cases e
end
theorem pr_mulB_l {s : Store} {i j : Int} (h : i.natAbs < 2 ^ 64) : oMulB s (.int i) (.int j) = some (.int (i * j)) := by simp only [oMulB]; rw [if_pos (.inl (.inl h))]
end Il
end
section
set_option Elab.async false
set_option linter.all false
set_option maxRecDepth 100000
/-! dicts of the store, keys texts or ints: y in d, d[y], d[y] = v -/
namespace Il
open PySem PySem.Spec L2 PyProof.Rows
def dlook (k : Key) : List (D × D) → Option D
  | [] => none
  | p :: r => if keyD p.1 = some k then some p.2 else dlook k r
def dput (kd : D) (k : Key) (v : D) (kvs : List (D × D)) : List (D × D) :=
  if (dlook k kvs).isSome then kvs.map (fun p => if keyD p.1 = some k then (p.1, v) else p) else kvs ++ [(kd, v)]
def dctAt (st : Store) (x : D) : Option (List (D × D)) := match x with
  | .ref n => match st[n]? with
    | some (.dct kvs) => some kvs
    | _ => none
  | _ => none
def oDIn (st : Store) (y x : D) : Option D := (dctAt st x).bind fun kvs => (keyD y).map fun k => .bl (dlook k kvs).isSome
def oDNotIn (st : Store) (y x : D) : Option D := (dctAt st x).bind fun kvs => (keyD y).map fun k => .bl (!(dlook k kvs).isSome)
def oDGet (st : Store) (x y : D) : Option D := (dctAt st x).bind fun kvs => (keyD y).bind fun k => dlook k kvs
section
variable {X : Cx} {F : Fc}
def rDIn : R2 := fun y x H Q => ∃ a o, x = .ref a ∧ DGet H a y o ∧ Q (.bl o.isSome) H
def rDNotIn : R2 := fun y x H Q => ∃ a o, x = .ref a ∧ DGet H a y o ∧ Q (.bl (!o.isSome)) H
def rDGet : R2 := fun x y H Q => ∃ a v, x = .ref a ∧ DGet H a y (some v) ∧ Q v H
variable {o i value : Expr} {pos pos' : Pos} {xo xi xv : Ex}
/-- d[k] = v -/
def sDPutK (o i v : Ex) : Bk := fun en st => ofRes en (v en st) fun y s1 => ofRes en (o en s1) fun x s2 => ofRes en (i en s2) fun kd s3 => match x with
  | .ref n => match s3[n]?, keyD kd with
    | some (.dct kvs), some k => if kvs.length < BIG then .next en (s3.set n (.dct (dput kd k y kvs))) else .stuck
    | _, _ => .stuck
  | _ => .stuck
end
section
variable {X : Cx} {F : Fc}
/-- a tuple's items to names -/
def GN (is : List Nat) : TGs := fun vs σ H Q => vs.length = is.length ∧ Q (setL σ is (vs.map some)) H
theorem RepSL.ext {g : Gh} {H H1 : Hp} (e : Ext H H1) : ∀ {ss : List Sl} {vs : List V} {ps : List Addr}, RepSL g H ss vs ps → RepSL g H1 ss vs ps
  | _, _, _, .nil => .nil
  | _, _, _, .fro r t => .fro (r.step (.same e)) (t.ext e)
  | _, _, _, .own h l w na np t => .own (e _ _ h) (l.step (.same e)) w na np (t.ext e)
end
end Il
end
section
namespace W
def lamQ : PySem.Str := (PySem.Str.ofString "law.<locals>.<lambda>")
end W
end
section
set_option Elab.async false
set_option linter.all false
set_option maxRecDepth 100000
set_option maxHeartbeats 4000000
namespace W
open Il
def il_DotError_k31 : List (Nat × Bool) := [(3, true), (13, true), (15, true), (16, true), (14, true)]
def il_Full_k31 : List (Nat × Bool) := [(3, false), (13, false), (15, true), (16, false), (14, false)]
def il_HasPeg_k31 : List (Nat × Bool) := [(3, false), (13, true), (15, false), (16, false), (14, false)]
def il_NoDot_k31 : List (Nat × Bool) := [(3, true), (13, false), (15, false), (16, false), (14, false)]
def il_NoPeg_k31 : List (Nat × Bool) := [(3, false), (13, false), (15, false), (16, false), (14, true)]
def il_NothingDone_k31 : List (Nat × Bool) := [(3, false), (13, false), (15, false), (16, true), (14, false)]
def il_ValueError_k31 : List (Nat × Bool) := [(3, true), (13, true), (15, true), (16, true), (14, true)]
def b_is_integer : Bk :=
  (sSeq (sRet (xAnd (xOp1 (oIsTy [.int]) (xRd 0)) (xNot (xOp1 (oIsTy [.bool]) (xRd 0))))) sNil)
def m_is_integer (ds : List D) (s : Store) : Res D := runB 1 b_is_integer ds s
def b_is_within : Bk :=
  (sSeq (sRet (xAnd (xCall (fun _ => m_is_integer) 0 (lCons (xVar 0) lNil)) (xChain oLe oLe (xRd 1) (xRd 0) (xRd 2)))) sNil)
def m_is_within (ds : List D) (s : Store) : Res D := runB 3 b_is_within ds s
def b_is_tuple : Bk :=
  (sSeq (sRet (xAnd (xOp1 (oIsTy [.tuple]) (xRd 0)) (xChain oLe oLe (xRd 1) (xOp1 oLen (xRd 0)) (xRd 2)))) sNil)
def m_is_tuple (ds : List D) (s : Store) : Res D := runB 3 b_is_tuple ds s
def b_is_dot : Bk :=
  (sSeq (sRet (xAnd (xCall (fun _ => m_is_tuple) 0 (lCons (xVar 0) (lCons (xC (.int 2)) (lCons (xC (.int 2)) lNil)))) (xOp1 oAll (xLst (lComp (iSeq (xVar 0)) (.nm 1) [1] tYes (xCall (fun _ => m_is_within) 0 (lCons (xVar 1) (lCons (xOp1 oNeg (xC (.int 100))) (lCons (xC (.int 100)) lNil))))))))) sNil)
def m_is_dot (ds : List D) (s : Store) : Res D := runB 2 b_is_dot ds s
def b_law_draw : Bk :=
  (sSeq (sIf (tAnd (tOf (xOp2 oEq (xOp2 oIx (xRd 0) (xC (.int 2))) (xC (.int 0)))) (tOf (xOp2 oLt (xOp2 oIx (xRd 0) (xC (.int 1))) (xOp1 oLen (xOp2 oIx (xRd 0) (xC (.int 0))))))) (sSeq (sAsg (.nm 2) (xOp2 oIx (xOp2 oIx (xRd 0) (xC (.int 0))) (xOp2 oIx (xRd 0) (xC (.int 1))))) (sSeq (sSetItem (xVar 0) (xC (.int 1)) (xOp2 oAdd (xOp2 oIx (xRd 0) (xC (.int 1))) (xC (.int 1)))) (sSeq (sSetItem (xVar 0) (xC (.int 3)) (xOp2 oMod (xOp1 oInt (xOp2 oAdd (xOp2 oAdd (xOp2 oMul (xOp2 oIx (xRd 0) (xC (.int 3))) (xC (.int 69621))) (xRd 2)) (xC (.int 29)))) (xC (.int 2147483629)))) (sSeq (sIf (tOf (xOp2 oGe (xRd 2) (xOp2 oPow (xC (.int 10)) (xC (.int 18))))) (sSeq (sSetItem (xVar 0) (xC (.int 2)) (xVar 2)) sNil) sNil) sNil)))) sNil) (sSeq (sIf (tOf (xOp2 oGt (xOp2 oIx (xRd 0) (xC (.int 2))) (xC (.int 0)))) (sSeq (sAsg (.nm 3) (xOp2 oMod (xOp1 oInt (xOp2 oIx (xRd 0) (xC (.int 2)))) (xRd 1))) (sSeq (sSetItem (xVar 0) (xC (.int 2)) (xOp2 oDiv (xOp2 oIx (xRd 0) (xC (.int 2))) (xRd 1))) (sSeq (sRet (xVar 3)) sNil))) sNil) (sSeq (sSetItem (xVar 0) (xC (.int 4)) (xOp2 oAdd (xOp2 oIx (xRd 0) (xC (.int 4))) (xC (.int 1)))) (sSeq (sAsg (.nm 4) (xOp2 oMod (xOp1 oInt (xOp2 oMul (xOp1 oInt (xOp2 oAdd (xOp2 oIx (xRd 0) (xC (.int 3))) (xOp2 oMul (xC (.int 7919)) (xOp2 oIx (xRd 0) (xC (.int 4)))))) (xC (.int 48271)))) (xC (.int 2147483647)))) (sSeq (sAsg (.nm 4) (xOp2 oMod (xOp1 oInt (xOp2 oMul (xRd 4) (xOp2 oAdd (xOp2 oDiv (xRd 4) (xC (.int 1009))) (xC (.int 69621))))) (xC (.int 2147483647)))) (sSeq (sAsg (.nm 4) (xOp2 oMod (xOp1 oInt (xOp2 oMul (xRd 4) (xOp2 oAdd (xOp2 oDiv (xRd 4) (xC (.int 2003))) (xC (.int 40692))))) (xC (.int 2147483399)))) (sSeq (sRet (xOp2 oMod (xOp1 oInt (xOp2 oDiv (xRd 4) (xC (.int 16)))) (xRd 1))) sNil)))))))
def m_law_draw (ds : List D) (s : Store) : Res D := runB 5 b_law_draw ds s
def b_RawShape_init : Bk :=
  (sSeq (sFldSet (fun c => c == 0 || c == 1) (PySem.Str.ofString "corners") (xVar 0) (xVar 1)) (sSeq (sFldSet (fun c => c == 0 || c == 1) (PySem.Str.ofString "looked") (xVar 0) xDct0) sNil))
def m_RawShape_init (ds : List D) (s : Store) : Res D := runB 2 b_RawShape_init ds s
def b_turn_of : Bk :=
  (sSeq (sRet (xOp2 oSub (xOp2 oMul (xOp2 oSub (xOp2 oIx (xRd 1) (xC (.int 0))) (xOp2 oIx (xRd 0) (xC (.int 0)))) (xOp2 oSub (xOp2 oIx (xRd 2) (xC (.int 1))) (xOp2 oIx (xRd 0) (xC (.int 1))))) (xOp2 oMul (xOp2 oSub (xOp2 oIx (xRd 1) (xC (.int 1))) (xOp2 oIx (xRd 0) (xC (.int 1)))) (xOp2 oSub (xOp2 oIx (xRd 2) (xC (.int 0))) (xOp2 oIx (xRd 0) (xC (.int 0))))))) sNil)
def m_turn_of (ds : List D) (s : Store) : Res D := runB 3 b_turn_of ds s
def b_half_hull : Bk :=
  (sSeq (sOwn 1 (lDisp lNil)) (sSeq (sFor (iSeq (xVar 0)) (.nm 2) (sSeq (sWhile 100000 (tAnd (tOf (xOp2 oGt (xOp1 oLen (xRd 1)) (xC (.int 1)))) (tOf (xOp2 oLe (xCall (fun _ => m_turn_of) 0 (lCons (xOp2 oIx (xRd 1) (xOp1 oNeg (xC (.int 2)))) (lCons (xOp2 oIx (xRd 1) (xOp1 oNeg (xC (.int 1)))) (lCons (xVar 2) lNil)))) (xC (.int 0))))) (sSeq (sPop 1) sNil)) (sSeq (sApp 1 (xVar 2)) sNil))) (sSeq (sRet (xLst (lSlice (xRd 1) pNo (pSome (xOp1 oNeg (xC (.int 1))))))) sNil)))
def m_half_hull (ds : List D) (s : Store) : Res D := runB 3 b_half_hull ds s
def b_hull_of : Bk :=
  (sSeq (sOwn 1 (lOp1 lSortSet (xRd 0))) (sSeq (sSeq (sFrz 1) (sOwn 2 (lOp2 lCat (xCall (fun _ => m_half_hull) 0 (lCons (xVar 1) lNil)) (xCall (fun _ => m_half_hull) 0 (lCons (xLst (lOp1 lRev (xRd 1))) lNil))))) (sSeq (sRet (xIf (tOf (xOp2 oGt (xOp1 oLen (xRd 2)) (xC (.int 2)))) (xOp1 oTupOf (xRd 2)) (xC .non))) sNil)))
def m_hull_of (ds : List D) (s : Store) : Res D := runB 3 b_hull_of ds s
end W
end
section
set_option Elab.async false
set_option linter.all false
set_option maxRecDepth 100000
set_option maxHeartbeats 4000000
namespace W
open Il
def il_DotError_k09 : List (Nat × Bool) := [(6, true), (5, true), (1, true)]
def il_NoNumber_k09 : List (Nat × Bool) := [(6, false), (5, true), (1, false)]
def il_NoTriple_k09 : List (Nat × Bool) := [(6, true), (5, false), (1, false)]
def il_ValueError_k09 : List (Nat × Bool) := [(6, true), (5, true), (1, true)]
def b_is_number : Bk :=
  (sSeq (sRet (xAnd (xCall (fun _ => m_is_integer) 0 (lCons (xVar 0) lNil)) (xOp2 oGe (xRd 0) (xC (.int 0))))) sNil)
def m_is_number (ds : List D) (s : Store) : Res D := runB 1 b_is_number ds s
def b_sides_of : Bk :=
  (sSeq (sRet (xLst (lZipT (lCons (xVar 0) (lCons (xOp2 oAdd (xSlT (xVar 0) (pSome (xC (.int 1))) pNo) (xSlT (xVar 0) pNo (pSome (xC (.int 1))))) lNil))))) sNil)
def m_sides_of (ds : List D) (s : Store) : Res D := runB 1 b_sides_of ds s
def b_common : Bk :=
  (sSeq (sAsg (.tp [(.nm 0), (.nm 1)]) (xTup (lCons (xOp1 oAbs (xRd 0)) (lCons (xOp1 oAbs (xRd 1)) lNil)))) (sSeq (sWhile 100000 (tOf (xOp2 oGt (xRd 1) (xC (.int 0)))) (sSeq (sAsg (.tp [(.nm 0), (.nm 1)]) (xTup (lCons (xVar 1) (lCons (xOp2 oMod (xRd 0) (xRd 1)) lNil)))) sNil)) (sSeq (sRet (xVar 0)) sNil)))
def m_common (ds : List D) (s : Store) : Res D := runB 2 b_common ds s
def b_step_of : Bk :=
  (sSeq (sAsg (.tp [(.tp [(.nm 1), (.nm 2)]), (.tp [(.nm 3), (.nm 4)])]) (xVar 0)) (sSeq (sAsg (.nm 5) (xCall (fun _ => m_common) 0 (lCons (xOp2 oSub (xRd 3) (xRd 1)) (lCons (xOp2 oSub (xRd 4) (xRd 2)) lNil)))) (sSeq (sRet (xTup (lCons (xTup (lCons (xOp2 oDiv (xOp2 oSub (xRd 3) (xRd 1)) (xRd 5)) (lCons (xOp2 oDiv (xOp2 oSub (xRd 4) (xRd 2)) (xRd 5)) lNil))) (lCons (xVar 5) lNil)))) sNil)))
def m_step_of (ds : List D) (s : Store) : Res D := runB 6 b_step_of ds s
def b_are_corners : Bk :=
  (sSeq (sIf (tOr (tNot (tOf (xCall (fun _ => m_is_tuple) 0 (lCons (xVar 0) (lCons (xC (.int 3)) (lCons (xC (.int 12)) lNil)))))) (tNot (tOf (xOp1 oAll (xLst (lComp (iSeq (xVar 0)) (.nm 1) [1] tYes (xCall (fun _ => m_is_dot) 0 (lCons (xVar 1) lNil)))))))) (sSeq (sRet (xC (.bl false))) sNil) sNil) (sSeq (sRet (xOp2 oEq (xCall (fun _ => m_hull_of) 0 (lCons (xVar 0) lNil)) (xRd 0))) sNil))
def m_are_corners (ds : List D) (s : Store) : Res D := runB 2 b_are_corners ds s
def b_Shape_init : Bk :=
  (sSeq (sIf (tNot (tOf (xCall (fun _ => m_are_corners) 0 (lCons (xVar 1) lNil)))) (sSeq (sRaise0 1) sNil) sNil) (sSeq (sFldSet (fun c => c == 0 || c == 1) (PySem.Str.ofString "corners") (xVar 0) (xVar 1)) (sSeq (sFldSet (fun c => c == 0 || c == 1) (PySem.Str.ofString "looked") (xVar 0) xDct0) sNil)))
def m_Shape_init (ds : List D) (s : Store) : Res D := runB 2 b_Shape_init ds s
def b_law_turn : Bk :=
  (sSeq (sRet (xOp2 oSub (xOp2 oMul (xOp2 oSub (xOp2 oIx (xRd 1) (xC (.int 0))) (xOp2 oIx (xRd 0) (xC (.int 0)))) (xOp2 oSub (xOp2 oIx (xRd 2) (xC (.int 1))) (xOp2 oIx (xRd 0) (xC (.int 1))))) (xOp2 oMul (xOp2 oSub (xOp2 oIx (xRd 1) (xC (.int 1))) (xOp2 oIx (xRd 0) (xC (.int 1)))) (xOp2 oSub (xOp2 oIx (xRd 2) (xC (.int 0))) (xOp2 oIx (xRd 0) (xC (.int 0))))))) sNil)
def m_law_turn (ds : List D) (s : Store) : Res D := runB 3 b_law_turn ds s
end W
end
section
set_option Elab.async false
set_option linter.all false
set_option maxRecDepth 100000
set_option maxHeartbeats 4000000
namespace W
open Il

def b_place : Bk :=
  (sSeq (sOwn 2 (lComp (iSeq (xCall (fun _ => m_sides_of) 0 (lCons (xVar 0) lNil))) (.tp [(.nm 3), (.nm 4)]) [3, 4] tYes (xCall (fun _ => m_turn_of) 0 (lCons (xVar 3) (lCons (xVar 4) (lCons (xVar 1) lNil)))))) (sSeq (sRet (xIf (tOf (xOp2 oLt (xOp1 oMin (xRd 2)) (xC (.int 0)))) (xOp1 oNeg (xC (.int 1))) (xIf (tOf (xOp2 oEq (xOp1 oMin (xRd 2)) (xC (.int 0)))) (xC (.int 0)) (xC (.int 1))))) sNil))
def m_place (ds : List D) (s : Store) : Res D := runB 5 b_place ds s
def b_holds : Bk :=
  (sSeq (sIf (tNot (tOf (xCall (fun _ => m_is_dot) 0 (lCons (xVar 1) lNil)))) (sSeq (sRaise0 3) sNil) sNil) (sSeq (sRet (xOp2 oIx (xLst (lDisp (lCons (xC (.str (PySem.Str.ofString "rim"))) (lCons (xC (.str (PySem.Str.ofString "inside"))) (lCons (xC (.str (PySem.Str.ofString "outside"))) lNil))))) (xCall (fun _ => m_place) 0 (lCons (xFld (fun c => c == 0 || c == 1) (PySem.Str.ofString "corners") (xVar 0)) (lCons (xVar 1) lNil))))) sNil))
def m_holds (ds : List D) (s : Store) : Res D := runB 2 b_holds ds s
def b_hull : Bk :=
  (sSeq (sIf (tOr (tNot (tOf (xCall (fun _ => m_is_tuple) 0 (lCons (xVar 0) (lCons (xC (.int 1)) (lCons (xC (.int 30)) lNil)))))) (tNot (tOf (xOp1 oAll (xLst (lComp (iSeq (xVar 0)) (.nm 1) [1] tYes (xCall (fun _ => m_is_dot) 0 (lCons (xVar 1) lNil)))))))) (sSeq (sRaise0 2) sNil) sNil) (sSeq (sAsg (.nm 2) (xCall (fun _ => m_hull_of) 0 (lCons (xVar 0) lNil))) (sSeq (sRet (xIf (tOf (xOp1 oIsN (xRd 2))) (xC .non) (xNew (fun _ => m_RawShape_init) 0 1 (lCons (xVar 2) lNil)))) sNil)))
def m_hull (ds : List D) (s : Store) : Res D := runB 3 b_hull ds s
end W
end
section
set_option Elab.async false
set_option linter.all false
set_option maxRecDepth 100000
set_option maxHeartbeats 2000000
/-! dicts of the store whose keys are tuples of ints and texts: {}, d[k] = v, d[k], k in d, list(d), sorted(d) -/
namespace Il
open PySem PySem.Spec L2 PyProof.Rows
def tlook (k : List Key) : List (List D × D) → Option D
  | [] => none
  | p :: r => if keyL p.1 = some k then some p.2 else tlook k r
def tput (ks : List D) (k : List Key) (v : D) (kvs : List (List D × D)) : List (List D × D) :=
  if (tlook k kvs).isSome then kvs.map (fun p => if keyL p.1 = some k then (p.1, v) else p) else kvs ++ [(ks, v)]
def dttAt (st : Store) (x : D) : Option (List (List D × D)) := match x with
  | .ref n => match st[n]? with
    | some (.dtt kvs) => some kvs
    | _ => none
  | _ => none
def keyT (y : D) : Option (List D × List Key) := match y with
  | .tup ds => (keyL ds).map fun k => (ds, k)
  | _ => none
def xDtt0 : Ex := fun _ st => .ok (.ref st.length) (st ++ [.dtt []])
def oTIn (st : Store) (y x : D) : Option D := (dttAt st x).bind fun kvs => (keyT y).map fun k => .bl (tlook k.2 kvs).isSome
def oTNotIn (st : Store) (y x : D) : Option D := (dttAt st x).bind fun kvs => (keyT y).map fun k => .bl (!(tlook k.2 kvs).isSome)
def oTGet (st : Store) (x y : D) : Option D := (dttAt st x).bind fun kvs => (keyT y).bind fun k => tlook k.2 kvs
def lKeysT (st : Store) (x : D) : Option (List D) := (dttAt st x).map fun kvs => kvs.map fun p => .tup p.1
def lSortT (st : Store) (x : D) : Option (List D) := (dttAt st x).bind fun kvs => if sortable (kvs.map fun p => .tup p.1) then some ((kvs.map fun p => D.tup p.1).mergeSort D.le) else none
section
variable {X : Cx} {F : Fc} {pos : Pos}
variable {o i value : Expr} {pos' : Pos} {xo xi xv : Ex}
/-- d[k] = v -/
def sTPut (o i v : Ex) : Bk := fun en st => ofRes en (v en st) fun y s1 => ofRes en (o en s1) fun x s2 => ofRes en (i en s2) fun kd s3 => match x with
  | .ref n => match s3[n]?, keyT kd with
    | some (.dtt kvs), some k => if kvs.length < BIG then .next en (s3.set n (.dtt (tput k.1 k.2 y kvs))) else .stuck
    | _, _ => .stuck
  | _ => .stuck
end
/-! list(d) -/
section
variable {X : Cx} {F : Fc} {a : Expr} {xa : Ex} {p pos : Pos}
end
/-! sorted(d) -/
def rSortDT : List V → Hp → VK → Prop := fun vs H Q => ∃ (a : Addr) (kvs : List (List Key × V)) (ks : List (List D)), vs = [V.ref a] ∧ H a = some (.dT kvs) ∧ ks.map keyL = kvs.map (fun p => some p.1) ∧ sortable (ks.map D.tup) = true ∧
  ∀ (ps : List (List D × Addr)) (p : Addr), (∀ q ∈ ps, ∃ kk, keyL q.1 = some kk ∧ H q.2 = some (.tup (kk.map kV))) → ps.map (fun q => D.tup q.1) = (ks.map D.tup).mergeSort D.le → H p = none → Q (.ref p) (upd H p (.lst (ps.map fun q => V.ref q.2)))
section
open PySem.W PySem.Calls PyProof.Rows
end
section
variable {X : Cx} {F : Fc} {a : Expr} {xa : Ex} {p pos : Pos}
end
end Il
end
section
set_option Elab.async false
set_option linter.all false
set_option maxRecDepth 100000
set_option maxHeartbeats 4000000
namespace W
open Il

end W
end
section
set_option Elab.async false
set_option linter.all false
set_option maxRecDepth 100000
set_option maxHeartbeats 4000000
namespace W
open Il

end W
end
section
set_option Elab.async false
set_option linter.all false
set_option maxRecDepth 100000
set_option maxHeartbeats 4000000
namespace W
open Il

end W
end
section
set_option Elab.async false
set_option linter.all false
set_option maxRecDepth 100000
set_option maxHeartbeats 4000000
namespace W
open Il

end W
end
section
set_option Elab.async false
set_option linter.all false
set_option maxRecDepth 100000
set_option maxHeartbeats 4000000
namespace W
open Il

end W
end
section
set_option Elab.async false
set_option linter.all false
set_option maxRecDepth 100000
set_option maxHeartbeats 4000000
namespace W
open Il

def b_law_draw_3 : Bk :=
  (sSeq (sIf (tAnd (tOf (xOp2 oEq (xOp2 oIx (xRd 0) (xC (.int 2))) (xC (.int 0)))) (tOf (xOp2 oLt (xOp2 oIx (xRd 0) (xC (.int 1))) (xOp1 oLen (xOp2 oIx (xRd 0) (xC (.int 0))))))) (sSeq (sAsg (.nm 2) (xOp2 oIx (xOp2 oIx (xRd 0) (xC (.int 0))) (xOp2 oIx (xRd 0) (xC (.int 1))))) (sSeq (sSetItem (xVar 0) (xC (.int 1)) (xOp2 oAdd (xOp2 oIx (xRd 0) (xC (.int 1))) (xC (.int 1)))) (sSeq (sSetItem (xVar 0) (xC (.int 3)) (xOp2 oMod (xOp1 oInt (xOp2 oAdd (xOp2 oAdd (xOp2 oMul (xOp2 oIx (xRd 0) (xC (.int 3))) (xC (.int 69621))) (xRd 2)) (xC (.int 11)))) (xC (.int 2147483629)))) (sSeq (sIf (tOf (xOp2 oGe (xRd 2) (xOp2 oPow (xC (.int 10)) (xC (.int 18))))) (sSeq (sSetItem (xVar 0) (xC (.int 2)) (xVar 2)) sNil) sNil) sNil)))) sNil) (sSeq (sIf (tOf (xOp2 oGt (xOp2 oIx (xRd 0) (xC (.int 2))) (xC (.int 0)))) (sSeq (sAsg (.nm 3) (xOp2 oMod (xOp1 oInt (xOp2 oIx (xRd 0) (xC (.int 2)))) (xRd 1))) (sSeq (sSetItem (xVar 0) (xC (.int 2)) (xOp2 oDiv (xOp2 oIx (xRd 0) (xC (.int 2))) (xRd 1))) (sSeq (sRet (xVar 3)) sNil))) sNil) (sSeq (sSetItem (xVar 0) (xC (.int 4)) (xOp2 oAdd (xOp2 oIx (xRd 0) (xC (.int 4))) (xC (.int 1)))) (sSeq (sAsg (.nm 4) (xOp2 oMod (xOp1 oInt (xOp2 oMul (xOp1 oInt (xOp2 oAdd (xOp2 oIx (xRd 0) (xC (.int 3))) (xOp2 oMul (xC (.int 7919)) (xOp2 oIx (xRd 0) (xC (.int 4)))))) (xC (.int 48271)))) (xC (.int 2147483647)))) (sSeq (sAsg (.nm 4) (xOp2 oMod (xOp1 oInt (xOp2 oMul (xRd 4) (xOp2 oAdd (xOp2 oDiv (xRd 4) (xC (.int 1009))) (xC (.int 69621))))) (xC (.int 2147483647)))) (sSeq (sAsg (.nm 4) (xOp2 oMod (xOp1 oInt (xOp2 oMul (xRd 4) (xOp2 oAdd (xOp2 oDiv (xRd 4) (xC (.int 2003))) (xC (.int 40692))))) (xC (.int 2147483399)))) (sSeq (sRet (xOp2 oMod (xOp1 oInt (xOp2 oDiv (xRd 4) (xC (.int 16)))) (xRd 1))) sNil)))))))
def m_law_draw_3 (ds : List D) (s : Store) : Res D := runB 5 b_law_draw_3 ds s
def b_law_hand_2 : Bk :=
  (sSeq (sOwn 1 (lComp (iSeq (xLst (lSlice (xRd 0) pNo (pSome (xC (.int 63)))))) (.nm 2) [2] tYes (xOp1 oAbs (xOp1 oInt (xRd 2))))) (sSeq (sSeq (sFrz 1) (sRet (xCellL (lDisp (lCons (xVar 1) (lCons (xC (.int 0)) (lCons (xC (.int 0)) (lCons (xOp2 oAdd (xC (.int 1)) (xOp1 oLen (xRd 1))) (lCons (xC (.int 0)) lNil))))))))) sNil))
def m_law_hand_2 (ds : List D) (s : Store) : Res D := runB 3 b_law_hand_2 ds s
def b_law_hull_3 : Bk :=
  (sSeq (sOwn 1 (lOp1 lSortSet (xRd 0))) (sSeq (sOwn 2 (lDisp lNil)) (sSeq (sSeq (sFrz 1) (sFor (iSeq (xTup (lCons (xVar 1) (lCons (xLst (lOp1 lRev (xRd 1))) lNil)))) (.nm 3) (sSeq (sOwn 4 (lDisp lNil)) (sSeq (sFor (iSeq (xVar 3)) (.nm 5) (sSeq (sWhile 100000 (tAnd (tOf (xOp2 oGt (xOp1 oLen (xRd 4)) (xC (.int 1)))) (tOf (xOp2 oLe (xCall (fun _ => m_law_turn) 0 (lCons (xOp2 oIx (xRd 4) (xOp1 oNeg (xC (.int 2)))) (lCons (xOp2 oIx (xRd 4) (xOp1 oNeg (xC (.int 1)))) (lCons (xVar 5) lNil)))) (xC (.int 0))))) (sSeq (sPop 4) sNil)) (sSeq (sApp 4 (xVar 5)) sNil))) (sSeq (sApp 2 (xLst (lSlice (xRd 4) pNo (pSome (xOp1 oNeg (xC (.int 1))))))) sNil))))) (sSeq (sAsg (.nm 6) (xOp1 oTupOf (xLst (lOp2 lCat (xOp2 oIx (xRd 2) (xC (.int 0))) (xOp2 oIx (xRd 2) (xC (.int 1))))))) (sSeq (sRet (xIf (tOf (xOp2 oGt (xOp1 oLen (xRd 6)) (xC (.int 2)))) (xVar 6) (xC .non))) sNil)))))
def m_law_hull_3 (ds : List D) (s : Store) : Res D := runB 7 b_law_hull_3 ds s
def b_law_any_2 : Bk :=
  (sSeq (sRet (xOp2 oIx (xRd 1) (xCall (fun _ => m_law_draw_3) 0 (lCons (xVar 0) (lCons (xOp1 oLen (xRd 1)) lNil))))) sNil)
def m_law_any_2 (ds : List D) (s : Store) : Res D := runB 2 b_law_any_2 ds s
def b_law_corners_3 : Bk :=
  (sSeq (sAsg (.tp [(.nm 2), (.nm 3), (.nm 4)]) (xTup (lCons (xC .non) (lCons (xCall (fun _ => m_law_any_2) 0 (lCons (xVar 0) (lCons (xLst (lDisp (lCons (xC (.int 0)) (lCons (xC (.int 0)) (lCons (xOp1 oNeg (xC (.int 3))) (lCons (xC (.int 40)) lNil)))))) lNil))) (lCons (xCall (fun _ => m_law_any_2) 0 (lCons (xVar 0) (lCons (xLst (lDisp (lCons (xC (.int 0)) (lCons (xC (.int 0)) (lCons (xOp1 oNeg (xC (.int 5))) (lCons (xOp1 oNeg (xC (.int 60))) lNil)))))) lNil))) lNil))))) (sSeq (sWhile 100000000000 (tOf (xOp1 oIsN (xRd 2))) (sSeq (sOwn 5 (lDisp lNil)) (sSeq (sFor (iRange1 (xOp2 oAdd (xC (.int 3)) (xCall (fun _ => m_law_draw_3) 0 (lCons (xVar 0) (lCons (xC (.int 6)) lNil))))) (.nm 6) (sSeq (sApp 5 (xTup (lCons (xOp2 oAdd (xRd 3) (xCall (fun _ => m_law_draw_3) 0 (lCons (xVar 0) (lCons (xOp2 oAdd (xRd 1) (xC (.int 1))) lNil)))) (lCons (xOp2 oAdd (xRd 4) (xCall (fun _ => m_law_draw_3) 0 (lCons (xVar 0) (lCons (xOp2 oAdd (xRd 1) (xC (.int 1))) lNil)))) lNil)))) sNil)) (sSeq (sSeq (sFrz 5) (sAsg (.nm 2) (xCall (fun _ => m_law_hull_3) 0 (lCons (xVar 5) lNil)))) sNil)))) (sSeq (sRet (xVar 2)) sNil)))
def m_law_corners_3 (ds : List D) (s : Store) : Res D := runB 7 b_law_corners_3 ds s
def b_is_step_pair : Bk :=
  (sSeq (sIf (tOr (tNot (tOf (xCall (fun _ => m_is_tuple) 0 (lCons (xVar 0) (lCons (xC (.int 2)) (lCons (xC (.int 2)) lNil)))))) (tOr (tNot (tOf (xCall (fun _ => m_is_tuple) 0 (lCons (xOp2 oIx (xRd 0) (xC (.int 0))) (lCons (xC (.int 2)) (lCons (xC (.int 2)) lNil)))))) (tOr (tNot (tOf (xCall (fun _ => m_is_number) 0 (lCons (xOp2 oIx (xRd 0) (xC (.int 1))) lNil)))) (tOf (xOp2 oEq (xOp2 oIx (xRd 0) (xC (.int 1))) (xC (.int 0))))))) (sSeq (sRet (xC (.bl false))) sNil) sNil) (sSeq (sRet (xAnd (xOp1 oAll (xLst (lComp (iSeq (xOp2 oIx (xRd 0) (xC (.int 0)))) (.nm 1) [1] tYes (xCall (fun _ => m_is_integer) 0 (lCons (xVar 1) lNil))))) (xOp2 oEq (xCall (fun _ => m_common) 0 (lCons (xOp2 oIx (xOp2 oIx (xRd 0) (xC (.int 0))) (xC (.int 0))) (lCons (xOp2 oIx (xOp2 oIx (xRd 0) (xC (.int 0))) (xC (.int 1))) lNil))) (xC (.int 1))))) sNil))
def m_is_step_pair (ds : List D) (s : Store) : Res D := runB 2 b_is_step_pair ds s
def b_of_steps : Bk :=
  (sSeq (sIf (tOr (tNot (tOf (xCall (fun _ => m_is_tuple) 0 (lCons (xVar 0) (lCons (xC (.int 3)) (lCons (xC (.int 12)) lNil)))))) (tNot (tOf (xOp1 oAll (xLst (lComp (iSeq (xVar 0)) (.nm 1) [1] tYes (xCall (fun _ => m_is_step_pair) 0 (lCons (xVar 1) lNil)))))))) (sSeq (sRaise0 4) sNil) sNil) (sSeq (sOwn 2 (lDisp (lCons (xTup (lCons (xC (.int 0)) (lCons (xC (.int 0)) lNil))) lNil))) (sSeq (sFor (iSeq (xVar 0)) (.tp [(.tp [(.nm 3), (.nm 4)]), (.nm 5)]) (sSeq (sApp 2 (xTup (lCons (xOp2 oAdd (xOp2 oIx (xOp2 oIx (xRd 2) (xOp1 oNeg (xC (.int 1)))) (xC (.int 0))) (xOp2 oMul (xRd 3) (xRd 5))) (lCons (xOp2 oAdd (xOp2 oIx (xOp2 oIx (xRd 2) (xOp1 oNeg (xC (.int 1)))) (xC (.int 1))) (xOp2 oMul (xRd 4) (xRd 5))) lNil)))) sNil)) (sSeq (sAsg (.nm 6) (xOp1 oTupOf (xLst (lSlice (xRd 2) pNo (pSome (xOp1 oNeg (xC (.int 1)))))))) (sSeq (sIf (tOr (tOf (xOp2 oNe (xOp2 oIx (xRd 2) (xOp1 oNeg (xC (.int 1)))) (xTup (lCons (xC (.int 0)) (lCons (xC (.int 0)) lNil))))) (tOf (xOp2 oNe (xCall (fun _ => m_hull_of) 0 (lCons (xVar 6) lNil)) (xRd 6)))) (sSeq (sRaise0 4) sNil) sNil) (sSeq (sIf (tOf (xOp2 oGt (xOp1 oMax (xLst (lComp (iSeq (xVar 6)) (.tp [(.nm 3), (.nm 4)]) [3, 4] tYes (xOp2 oMax2 (xOp1 oAbs (xRd 3)) (xOp1 oAbs (xRd 4)))))) (xC (.int 200)))) (sSeq (sRaise0 4) sNil) sNil) (sSeq (sRet (xNew (fun _ => m_RawShape_init) 0 1 (lCons (xVar 6) lNil))) sNil)))))))
def m_of_steps (ds : List D) (s : Store) : Res D := runB 7 b_of_steps ds s
def b_steps : Bk :=
  (sSeq (sRet (xOp1 oTupOf (xLst (lComp (iSeq (xCall (fun _ => m_sides_of) 0 (lCons (xFld (fun c => c == 0 || c == 1) (PySem.Str.ofString "corners") (xVar 0)) lNil))) (.nm 1) [1] tYes (xCall (fun _ => m_step_of) 0 (lCons (xVar 1) lNil)))))) sNil)
def m_steps (ds : List D) (s : Store) : Res D := runB 2 b_steps ds s
end W
end
section
set_option Elab.async false
set_option linter.all false
set_option maxRecDepth 100000
set_option maxHeartbeats 4000000
namespace W
open Il

end W
end
section
set_option Elab.async false
set_option linter.all false
set_option maxRecDepth 100000
set_option maxHeartbeats 4000000
namespace W
open Il

end W
end
section
set_option Elab.async false
set_option linter.all false
set_option maxRecDepth 100000
set_option maxHeartbeats 4000000
namespace W
open Il

end W
end
section
set_option Elab.async false
set_option linter.all false
set_option maxRecDepth 100000
/-! enumerate(v) of a tuple or a list in a comprehension -/
namespace RZE
open PySem PySem.Spec PyProof.Rows L2 RZ PySem.W
section
variable {prog : Program} {w : World} {A : Around} {E : Value → Shared → Prop} {s : Shared}
end
/-- the tuple at a as it stands at each turn, each item in a new pair -/
def IteT (K : PySem.W.Frag) (a : Addr) : It :=
  ⟨fun i H => ∃ (xs : List V) (x : V), SqT K H a xs ∧ xs[i]? = some x, fun i H v H' => ∃ T x, v = .ref T ∧ H T = none ∧ H' = upd H T (.tup [.int (i : Nat), x]) ∧ ∀ xs, SqT K H a xs → xs[i]? = some x, fun i H => ∃ xs : List V, SqT K H a xs ∧ xs.length ≤ i⟩
def iEnumA (K : PySem.W.Frag) (ta : TA) : TI := fun σ H R => ta σ H fun vs H1 => ∃ a xs, vs = [.ref a] ∧ ((SqL K H1 a xs ∧ R (Ite K a) H1) ∨ (SqT K H1 a xs ∧ R (IteT K a) H1))
end RZE
namespace Il
open PySem PySem.Spec PyProof.Rows L2 RZE
def enumD (xs : List D) : List D := xs.zipIdx.map fun p => .tup [.int p.2, p.1]
def iEnum (l : Lx) : Lx := fun en st => (l en st).bind fun vs s1 => match vs with
  | [.lst xs] => .ok (enumD xs) s1
  | [.tup xs] => .ok (enumD xs) s1
  | _ => .stuck
end Il
end
section
set_option Elab.async false
set_option linter.all false
set_option maxRecDepth 100000
set_option maxHeartbeats 4000000
namespace W
open Il

end W
end
section
set_option Elab.async false
set_option linter.all false
set_option maxRecDepth 100000
set_option maxHeartbeats 2000000
/-! A comprehension over a list that stands in the store: each turn looks at it anew. -/
namespace Il
open PySem PySem.Spec L2
def compR (g : Tg) (t : Tx) (e : Ex) (en : En) (n len : Nat) : Nat → List D → Store → Res (List D)
  | 0, acc, st => match st[n]? with
    | some (.lst xs) => if xs.length = len then .ok acc st else .stuck
    | _ => .stuck
  | k + 1, acc, st => match st[n]? with
    | some (.lst xs) => if xs.length = len then match xs[len - (k + 1)]? with
        | none => .stuck
        | some d => match g.put d en with
          | none => .stuck
          | some en1 => (t en1 st).bind fun b s1 => if b then (e en1 s1).bind fun y s2 => if acc.length < BIG then compR g t e en n len k (acc ++ [y]) s2 else .stuck else compR g t e en n len k acc s1
      else .stuck
    | _ => .stuck
def lCompR (a : Ex) (g : Tg) (vs : List Nat) (t : Tx) (e : Ex) : Lx := fun en st => (a en st).bind fun x s1 => match x with
  | .ref n => match s1[n]? with
    | some (.lst xs) => noExc (compR g t e (wipe en vs) n xs.length xs.length [] s1)
    | _ => .stuck
  | _ => .stuck
section
variable {X : Cx} {F : Fc} {elt iter tg : Expr} {ifs : List Expr} {scope : Scope} {own : List (Str × Nat)} {pos : Pos} {xa : Ex} {t : Tg} {tt : Tx} {xe : Ex}
end
end Il
end
section
set_option Elab.async false
set_option linter.all false
set_option maxRecDepth 100000
set_option maxHeartbeats 4000000
namespace W
open Il

end W
end
section
set_option Elab.async false
set_option linter.all false
set_option maxRecDepth 100000
set_option maxHeartbeats 2000000
/-! [f, g][i](..): a def picked out of a display. -/
namespace Il
open PySem PySem.Spec L2
section
variable {X : Cx}
end
def xCallP (C1 C2 : Calls) (ix : Ex) (la : Lx) : Ex := fun en st => (ix en st).bind fun i s1 => match i with
  | .int 0 => xCall C1 0 la en s1
  | .int 1 => xCall C2 0 la en s1
  | _ => .stuck
section
variable {X : Cx} {F : Fc} {k1 k2 : Nat} {f1 f2 : Addr} {fd1 fd2 : FuncData} {ps1 ps2 : List Str} {x1 x2 : Str} {p1 p2 lp sp pos : Pos} {ie e : Expr} {es : List Expr} {xi : Ex} {la : Lx} {C1 C2 : Calls}
end
end Il
end
section
set_option Elab.async false
set_option linter.all false
set_option maxRecDepth 100000
set_option maxHeartbeats 4000000
namespace W
open Il
def il_DotError_k29 : List (Nat × Bool) := [(11, true), (12, true), (1, true)]
def il_NoStep_k29 : List (Nat × Bool) := [(11, true), (12, false), (1, false)]
def il_NotOne_k29 : List (Nat × Bool) := [(11, false), (12, true), (1, false)]
end W
end
section
set_option Elab.async false
set_option linter.all false
set_option maxRecDepth 100000
set_option maxHeartbeats 2000000
/-! t[::-1] of a tuple. -/
namespace RZV
open PySem PySem.Spec PyProof.Rows L2 HT
section
variable {prog : Program} {w : World} {A : Around} {E : Value → Shared → Prop} {s : Shared}
theorem adj_rev (n : Nat) : Builtin.Slice.sliceAdjust none none (-1) (n : Int) = ((n : Int) - 1, -1) := by
  simp [Builtin.Slice.sliceAdjust]
theorem pl_rev (n : Nat) : Builtin.Slice.slicePlaces ((n : Int) - 1) (-1) (-1) = n := by
  simp [Builtin.Slice.slicePlaces]
  omega
end
end RZV
namespace RZV
open PySem PySem.Spec PyProof.Rows L2 HT
section
variable {prog : Program} {w : World} {A : Around} {E : Value → Shared → Prop} {s : Shared}
theorem applied_rev {sl : Addr} {vl vu vs : Value} {n : Nat} {Q : Int × Int × Nat → Shared → Prop} (hs : s.heap.IsSliceOf sl vl vu vs) (pl : IsPart vl none) (pu : IsPart vu none) (ps : IsPart vs (some (-1)))
    (h : Q ((n : Int) - 1, -1, n) s) : wpAny (model prog w) A (Builtin.Slice.sliceApplied (.ref sl) (pure (n : Int))) Q E s := by
  obtain ⟨os, hos, hcs, hds⟩ := id hs
  unfold Builtin.Slice.sliceApplied Builtin.Slice.sliceFields
  refine wpAny_bind (wpAny_bind (wpAny_field hos hds (x := vl) rfl (wpAny_bind (wpAny_field hos hds (x := vu) rfl (wpAny_bind (wpAny_field hos hds (x := vs) rfl (wpAny_pure ?_)))))))
  refine wpAny_bind (slicePart_ ps ?_)
  show wpAny _ _ (if ((-1 : Int) == 0) = true then _ else _) _ _ s
  rw [if_neg (by decide)]
  refine wpAny_bind (slicePart_ pl (wpAny_bind (slicePart_ pu (wpAny_bind (wpAny_pure ?_)))))
  show wpAny _ _ (match Builtin.Slice.sliceAdjust none none (-1) (n : Int) with | (lo, hi) => pure (lo, (-1 : Int), Builtin.Slice.slicePlaces lo hi (-1))) _ _ s
  rw [adj_rev n]
  show wpAny _ _ (pure ((n : Int) - 1, (-1 : Int), Builtin.Slice.slicePlaces ((n : Int) - 1) (-1) (-1))) _ _ s
  rw [pl_rev]
  exact wpAny_pure h
theorem pick_rev (xs : Array Value) : ((List.range xs.size).filterMap fun (m : Nat) => xs[(((xs.size : Int) - 1) + (m : Int) * -1).toNat]?).toArray = xs.toList.reverse.toArray := by
  have e : (fun (m : Nat) => xs[(((xs.size : Int) - 1) + (m : Int) * -1).toNat]?) = fun m => xs[xs.size - 1 - m]? := by
    funext m
    rw [show (((xs.size : Int) - 1) + (m : Int) * -1).toNat = xs.size - 1 - m by omega]
  rw [e]
  have h := PySem.W.krv_pick xs
  unfold slicePick at h
  rw [PySem.W.krv_bounds] at h
  have h2 : ((sliceRange ((xs.size : Int) - 1) (-1) (-1)).filterMap (xs[·]?)).toArray = xs.toList.reverse.toArray := h
  rw [PySem.W.krv_sliceRange, List.filterMap_map] at h2
  exact h2
theorem getItem_tuple_rev {t sl : Addr} {items : Array Value} {vl vu vs : Value} {Q : Value → Shared → Prop} (ht : IsTup s.heap t items) (hs : s.heap.IsSliceOf sl vl vu vs) (pl : IsPart vl none) (pu : IsPart vu none) (ps : IsPart vs (some (-1)))
    (h : Q (.ref s.heap.objs.size) { s with heap := s.heap.push { cls := .type "tuple", data := .seq items.toList.reverse.toArray } })
    (hsz : items.size ≤ sizeLine) : wpAny (model prog w) A (getItem (.ref t) (.ref sl)) Q E s := by
  have hfit : sizeOk (.seq items.toList.reverse.toArray) := by
    show items.toList.reverse.toArray.size ≤ sizeLine
    rw [List.size_toArray, List.length_reverse, Array.length_toList]
    exact hsz
  obtain ⟨os, hos, hcs, hds⟩ := id hs
  have tTs : s.TypeIs (.ref sl) "slice" := ⟨os, hos, hcs⟩
  unfold getItem
  try with_reducible refine wpAny_holding ?_
  first | refine wpAny_bind (wpAny_pure ?_) | skip
  refine wpAny_bind (wpAny_sequenceKey ht.typeIs (by decide) ?_)
  refine wpAny_bind (wpAny_callSpecial?_slot (name := Str.ofString "__getitem__") ht.typeIs PyProof.Rows.slot_tuple_getitem (wpAny_call_entry PyProof.Rows.slot_tuple_getitem ht.typeIs entry_tuple_getitem ?_ (args_tuple_getitem _ _)))
  show wpAny _ _ (Builtin.Tuple.tupleItemsOf (.ref t) >>= _) _ _ s
  refine wpAny_bind (tupleItemsOf_ ht (wpAny_bind (wpAny_typeOf tTs ?_)))
  rw [if_pos (by decide)]
  refine wpAny_bind (applied_rev hs pl pu ps ?_)
  have hno : ¬ ((((items.size : Int) - 1) == 0 && (-1 : Int) == 1 && items.size == items.size) = true) := by
    intro q
    rw [Bool.and_eq_true, Bool.and_eq_true] at q
    exact absurd q.1.2 (by decide)
  show wpAny _ _ (if (((items.size : Int) - 1) == 0 && (-1 : Int) == 1 && items.size == items.size) = true then _ else _) _ _ s
  rw [if_neg hno, pick_rev]
  first
    | exact wpAny_bind (m := Builtin.Tuple.tupleExact _) (wpAny_newObj_type (wpAny_pure ⟨_, rfl, wpAny_pure h⟩) hfit)
    | exact wpAny_bind (m := Builtin.Tuple.tupleExact _) (wpAny_newObj_type (wpAny_bind (wpAny_pure (wpAny_pure ⟨_, rfl, wpAny_pure h⟩))) hfit)
    | exact wpAny_bind (wpAny_bind (m := Builtin.Tuple.tupleExact _) (wpAny_newObj_type (wpAny_pure (wpAny_pure ⟨_, rfl, wpAny_pure h⟩)) hfit))
    | exact wpAny_bind (wpAny_bind (m := Builtin.Tuple.tupleExact _) (wpAny_newObj_type (wpAny_pure ⟨_, rfl, wpAny_pure h⟩) hfit))
end
section
variable {X : Cx}
def tRevT (K : PySem.W.Frag) (te : TE) : TE := fun σ H Q => te σ H fun x H1 => ∃ a xs, x = .ref a ∧ SqT K H1 a xs ∧ ∀ p, H1 p = none → Q (.ref p) (upd H1 p (.tup xs.reverse))
theorem pe_revT {e : Expr} {te : TE} {k : Nat} {p1 p2 p3 pos : Pos} (he : PE X e te) : PE X (.Subscript e (.Slice none none (some (.UnaryOp .USub (.Constant (.int 1) k p1) p2)) p3) pos) (tRevT X.K te) := by
  refine ⟨fun pins s σ H Q I h => ?_⟩
  refine Subscript_ (thn (he.run pins s σ H _ I h) fun v s1 ⟨x, H1, I1, r1, q1⟩ => ?_)
  obtain ⟨a, xs, ex, hx, q⟩ := q1
  subst ex
  cases r1
  have hst : PO X (some (.UnaryOp .USub (.Constant (.int 1) k p1) p2)) (tPart (tUn (rU fun i => .int (-i)) (tC (.int 1)))) := po_some (pe_un un_neg pe_int)
  refine wpAny_Slice (thn (po_none.run pins s1 σ H1 (fun o H2 => o = none ∧ H2 = H1) I1 ⟨rfl, rfl⟩) fun vl s2 ⟨l, H2, I2, pl, el, e2⟩ => ?_)
  subst el e2
  refine thn (po_none.run pins s2 σ H2 (fun o H3 => o = none ∧ H3 = H2) I2 ⟨rfl, rfl⟩) fun vu s3 ⟨u, H3, I3, pu, eu, e3⟩ => ?_
  subst eu e3
  refine thn (hst.run pins s3 σ H3 (fun o H4 => o = some (-1) ∧ H4 = H3) I3 ⟨1, rfl, -1, rfl, rfl, rfl⟩) fun vs s4 ⟨o, H4, I4, ps, eo, e4⟩ => ?_
  subst eo e4
  have I5 : Inv X pins σ H4 { s4 with heap := s4.heap.push { cls := .type "slice", data := .fields #[vl, vu, vs] } } := I4.kept (t' := s4.toks) fun b ob q => Heap.get?_push_of_some _ q
  obtain ⟨its, r, ht, hz⟩ := I5.tuple hx
  have hlen := r.length
  show wpAny (model X.prog X.w) X.A (subscriptTail e (.Slice none none (some (.UnaryOp .USub (.Constant (.int 1) k p1) p2)) p3) (.ref a) (.ref s4.heap.objs.size)) (EP X pins σ Q) X.xe { s4 with heap := s4.heap.push { cls := .type "slice", data := .fields #[vl, vu, vs] } }
  refine tail_any (ops := [.ref a, .ref s4.heap.objs.size]) (show IsTup _ a its.toArray from ht).typeIs (PyProof.Rows.slot_tuple_getitem.lookup) ?_ (by with_unfolding_all rfl)
  refine getItem_tuple_rev (show IsTup _ a its.toArray from ht) (Heap.IsSliceOf.new _ vl vu vs) pl pu ps ?_ (by rw [List.size_toArray]; omega)
  refine ⟨.ref _, _, I5.laid (t' := s4.toks) (o := .tup xs.reverse) (fun b ob q => Heap.get?_push_of_some _ q) (Nat.le_refl _) ?_, rfl, q _ (I5.hok.fresh (Nat.le_refl _))⟩
  exact ⟨by rw [List.length_reverse]; exact hz, _, r.reverse, IsTup.new _ _⟩
end
end RZV
namespace Il
open PySem PySem.Spec PyProof.Rows L2
def xRevT (a : Ex) : Ex := fun en st => (a en st).bind fun x s1 => match x with
  | .tup xs => .ok (.tup xs.reverse) s1
  | _ => .stuck
theorem rep_rev {g : Gh} {H : Hp} {ds : List D} {vs : List V} (h : RepL g H ds vs) : RepL g H ds.reverse vs.reverse := by
  induction ds generalizing vs with
  | nil => cases h; exact .nil
  | cons d ds ih => cases h with
    | cons hd ht =>
      rw [List.reverse_cons, List.reverse_cons]
      exact (ih ht).append (.cons hd .nil)
section
variable {X : Cx} {F : Fc} {a : Expr} {xa : Ex} {pos : Pos}
theorem q_revT {k : Nat} {p1 p2 p3 : Pos} (ha : PE X a (SE F xa)) : PE X (.Subscript a (.Slice none none (some (.UnaryOp .USub (.Constant (.int 1) k p1) p2)) p3) pos) (SE F (xRevT xa)) := wkE (RZV.pe_revT ha) fun σ H Q h => by
  obtain ⟨en, st, g, rel, go⟩ := h
  refine ⟨en, st, g, rel, Go.bind go fun x s1 u H1 g1 e1 rel1 st1 r1 go1 => ?_⟩
  split at go1
  · cases r1 with
    | tup h n l => exact ⟨_, _, rfl, sqT _ h, fun p np => Go.new go1 rel1 np (.tup upd_same (rel1.newW np) ((rep_rev l).step (.same (.new np))))⟩
  · exact go1.elim
end
end Il
end
section
set_option Elab.async false
set_option linter.all false
set_option maxRecDepth 100000
set_option maxHeartbeats 4000000
namespace W
open Il

end W
end
section
set_option Elab.async false
set_option linter.all false
set_option maxRecDepth 100000
set_option maxHeartbeats 4000000
namespace W
open Il
def il_DotError_k15 : List (Nat × Bool) := [(7, true), (1, true)]
def il_NoMove_k15 : List (Nat × Bool) := [(7, true), (1, false)]
def il_ValueError_k15 : List (Nat × Bool) := [(7, true), (1, true)]
end W
end
section
set_option Elab.async false
set_option linter.all false
set_option maxRecDepth 100000
set_option maxHeartbeats 4000000
namespace W
open Il

end W
end
section
set_option Elab.async false
set_option linter.all false
set_option maxRecDepth 100000
set_option maxHeartbeats 4000000
namespace W
open Il

end W
end
section
set_option Elab.async false
set_option linter.all false
set_option maxRecDepth 100000
set_option maxHeartbeats 4000000
namespace W
open Il

end W
end
section
set_option Elab.async false
set_option linter.all false
set_option maxRecDepth 100000
set_option maxHeartbeats 4000000
namespace W
open Il

end W
end
section
set_option Elab.async false
set_option linter.all false
set_option maxRecDepth 100000
set_option maxHeartbeats 1000000
/-! zip of a list and a tuple: the walk over two walks of any kind. -/
namespace RZM
open PySem PySem.Spec PyProof.Rows L2 RZ
open PySem.Sem (wp)
/-- what stands behind an iterator -/
structure Src (st : Heap → Nat → Prop) (it src : Addr) (get : Nat → Option Value) : Prop where
  keep : ∀ {h h' : Heap} {c : Addr} {k : Nat}, st h k → Heap.ExtBut c h h' → it ≠ c → src ≠ c → st h' k
  lt : ∀ {h : Heap} {k : Nat}, st h k → it < h.objs.size
  grow : ∀ {h h' : Heap} {k : Nat}, st h k → (∀ o, h.get? it = some o → h'.get? it = some o) → (∀ o, h.get? src = some o → h'.get? src = some o) → st h' k
  go : ∀ {prog : Program} {w : World} {A : Around} {E : Value → Shared → Prop} {s : Shared} {Q : Value → Shared → Prop} {k : Nat} {x : Value}, st s.heap k → get k = some x → (∀ h', st h' (k + 1) → Heap.SameBut it s.heap h' → Q x { s with heap := h' }) → wpAny (model prog w) A (Builtin.SmallTypes.nextOf (.ref it)) Q E s
  stop : ∀ {prog : Program} {w : World} {A : Around} {E : Value → Shared → Prop} {s : Shared} {Q : Value → Shared → Prop} {k : Nat}, A.handled = none → st s.heap k → get k = none → (∀ h' e, Heap.ExtBut it s.heap h' → (∃ o, h'.get? e = some o ∧ o.cls = .type "StopIteration") → E (.ref e) { s with heap := h' }) → wpAny (model prog w) A (Builtin.SmallTypes.nextOf (.ref it)) Q E s
/-- what the walk leaves as it was -/
def Same4 (z TO i1 i2 : Addr) (h h' : Heap) : Prop := ∀ c o, c ≠ z → c ≠ TO → c ≠ i1 → c ≠ i2 → h.get? c = some o → h'.get? c = some o
section
variable {prog : Program} {w : World} {A : Around} {E : Value → Shared → Prop} {s : Shared} {st1 st2 : Heap → Nat → Prop} {g1 g2 : Nat → Option Value} {z TI TO i1 i2 l1 l2 : Addr} {k1 k2 : Nat} {a b : Value}
end
/-! a list and a tuple -/
abbrev P1 (h : Heap) (l : Addr) : Heap := h.push { cls := .type "list_iterator", data := .fields #[.ref l, .int 0 0] }
abbrev P2 (h : Heap) (l m : Addr) : Heap := (P1 h l).push { cls := .type "tuple_iterator", data := .fields #[.ref m, .int 0 0] }
abbrev P3 (h : Heap) (l m : Addr) : Heap := (P2 h l m).push { cls := .type "tuple", data := .seq #[.ref h.objs.size, .ref (P1 h l).objs.size] }
abbrev P4 (h : Heap) (l m : Addr) : Heap := (P3 h l m).push { cls := .type "tuple", data := .seq #[.none, .none] }
abbrev P5 (h : Heap) (l m : Addr) : Heap := (P4 h l m).push { cls := .type "zip", data := .fields #[.none, .bool false, .bool false, .ref (P2 h l m).objs.size, .ref (P3 h l m).objs.size] }
theorem made (l m : Addr) (xs ys : Array Value) : Meets (Builtin.«zip.__new__» ⟨[.type "zip", .ref l, .ref m], []⟩) (fun _ R s => s.heap.IsList l xs ∧ s.heap.IsTuple m ys ∧ R (.ok (.ret (.ref (P4 s.heap l m).objs.size))) { s with heap := P5 s.heap l m }) := Meets.of_wp fun prog w A R s hyp => by
  obtain ⟨hp, gl, dd, tk, os⟩ := s
  obtain ⟨hl, hm, rest⟩ := hyp
  have sz := sub_zip
  have one : Heap.IsList (Shared.heap ⟨hp, gl, dd, tk, os⟩) l xs := hl
  have two : Heap.IsTuple (Shared.heap ⟨P1 hp l, gl, dd, tk, os⟩) m ys := Heap.IsTuple.push hm _
  wp_walk using wpAny_pyIter_list one, wpAny_pyIter_tuple two
  exact ⟨_, rfl, rest⟩
/-- the walk -/
def ItM (K : PySem.W.Frag) (a b : Addr) : It where
  go := fun i H => ∃ (xs ys : List V) (x y : V), SqL K H a xs ∧ SqT K H b ys ∧ xs[i]? = some x ∧ ys[i]? = some y
  yld := fun i H v H' => ∃ T x y, v = .ref T ∧ H T = none ∧ H' = upd H T (.tup [x, y]) ∧ (∀ xs, SqL K H a xs → xs[i]? = some x) ∧ ∀ ys, SqT K H b ys → ys[i]? = some y
  stop := fun i H => ∃ xs ys : List V, SqL K H a xs ∧ SqT K H b ys ∧ (xs.length ≤ i ∨ ys.length ≤ i)
/-- what stands at the i-th turn -/
structure Stand (a b z TI TO i1 i2 : Addr) (i : Nat) (h : Heap) : Prop where
  Z : IsZip h z TI TO .none
  I : IsPair h TI (.ref i1) (.ref i2)
  O : ∃ x y, IsPair h TO x y
  s1 : h.IsListIter i1 a i
  s2 : h.IsTupleIter i2 b i
def iMix (K : PySem.W.Frag) (ta : TA) : TI := fun σ H R => ta σ H fun vs G => ∃ a b xs ys, vs = [.ref a, .ref b] ∧ SqL K G a xs ∧ SqT K G b ys ∧ R (ItM K a b) G
end RZM
namespace Il
open PySem PySem.Spec PyProof.Rows L2
def iZipM (l : Lx) : Lx := fun en st => (l en st).bind fun vs s1 => match vs with
  | [.lst xs, .tup ys] => .ok (zipD xs ys) s1
  | _ => .stuck
end Il
end
section
set_option Elab.async false
set_option linter.all false
set_option maxRecDepth 100000
set_option maxHeartbeats 4000000
namespace W
open Il

end W
end
section
set_option Elab.async false
set_option linter.all false
set_option maxRecDepth 100000
set_option maxHeartbeats 2000000
/-! texts: str(int), int(text), len, a sign of a text, a sign in a text, for sign in text, join -/
namespace Il
open PySem PySem.Spec L2
def sgn (c : Nat) : Str := ⟨#[c]⟩
def oStr (st : Store) (x : D) : Option D := match x with
  | .int i => if i.natAbs.log2 < 1920 then some (.str (PySem.Str.ofString (toString i))) else none
  | _ => none
def oLenS (st : Store) (x : D) : Option D := match x with
  | .str z => if z.length ≤ BIG then some (.int z.length) else none
  | _ => none
def oIxS (st : Store) (x y : D) : Option D := match x, y with
  | .str z, .int i => if z.length ≤ BIG then (atI z.cps.toList i).map fun c => .str (sgn c) else none
  | _, _ => none
def oInS (st : Store) (x y : D) : Option D := match x, y with
  | .str a, .str z => match a.cps.toList with
    | [c] => some (.bl (decide (c ∈ z.cps.toList)))
    | _ => none
  | _, _ => none
def oIntS (st : Store) (x : D) : Option D := match x with
  | .str z => if z.length ≤ 640 then (PySem.intText? z).map .int else none
  | _ => none
def strsOf : List D → Option (List Str)
  | [] => some []
  | .str x :: r => (strsOf r).map (x :: ·)
  | _ :: _ => none
def xJoin (a b : Ex) : Ex := fun en st => (a en st).bind fun x s1 => match x with
  | .str z => (b en s1).bind fun y s2 => match deref s2 y with
    | .lst ys => match strsOf ys with
      | some l => if (l.map (·.length)).sum + l.length * z.length ≤ 16777216 then .ok (.str (PySem.Txt.join z l)) s2 else .stuck
      | none => .stuck
    | _ => .stuck
  | _ => .stuck
def iStrD (a : Ex) : Lx := fun en st => (a en st).bind fun x s1 => match x with
  | .str z => .ok (z.cps.toList.map fun c => D.str (sgn c)) s1
  | _ => .stuck
section
variable {X : Cx} {F : Fc} {a b : Expr} {xa xb : Ex} {p pos : Pos}
end
end Il
end
section
set_option Elab.async false
set_option linter.all false
set_option maxRecDepth 100000
set_option maxHeartbeats 4000000
namespace W
open Il

end W
end
section
set_option Elab.async false
set_option linter.all false
set_option maxRecDepth 100000
set_option maxHeartbeats 4000000
namespace W
open Il

end W
end
section
set_option Elab.async false
set_option linter.all false
set_option maxRecDepth 100000
set_option maxHeartbeats 2000000
/-! {i: x} as data. -/
namespace Il
open PySem PySem.Spec L2
def xDct1 (i : Int) (a : Ex) : Ex := fun en st => (a en st).bind fun x s1 => .ok (.dct [(.int i, x)]) s1
section
variable {X : Cx} {F : Fc} {pos : Pos} {kx v : Expr} {xa : Ex} {i : Int}
theorem q_dct1 (hk : PE X kx (SE F (xC (.int i)))) (hv : PE X v (SE F xa)) : PE X (.Dict [some kx] [v] pos) (SE F (xDct1 i xa)) := wkE (pe_disp (pps_cons hk hv pps_nil) rfl rfl (by simp) (by simp)) fun σ H Q h => by
  obtain ⟨en, st, g, rel, go⟩ := h
  intro p np
  have rel1 : Rel F σ (upd H p (.dK [])) en st (g.and p) := rel.and np
  have s1 : Step g H (g.and p) (upd H p (.dK [])) := .and np
  have npA : p ∉ g.A := fun z => rel.sto.tr p (rel.sto.aw p z) np
  have n0 : F.H0 p = none := rel.ext.back np
  have no : ∀ (j : Nat) xs, en[j]? = some (some (.own xs)) → σ[j]? ≠ some (some (.ref p)) := fun j xs e => rel.notOwn np j xs e
  refine ⟨en, st, g.and p, rel1, fun kv H1 g1 relK sK rK => ?_⟩
  cases rK
  have sK1 : Step g H g1 H1 := s1.trans sK
  refine ⟨en, st, g1, relK, Go.bind (Go.from go sK1) fun x s2 u H2 g2 e2 rel2 st2 r2 _ => ?_⟩
  have sP : Step (g.and p) (upd H p (.dK [])) g2 H2 := sK.trans st2
  have sT : Step g H g2 H2 := s1.trans sP
  have hp : H2 p = some (.dK []) := sP.keep p _ upd_same npA (fun ps z => by cases z)
  have w : g2.W p := sP.W1 p (.inr rfl)
  have na : p ∉ g2.A := sP.notMem npA (by rw [upd_same]; simp)
  refine ⟨hp, [(.inl i, u)], rfl, by simp, ?_⟩
  obtain ⟨rel3, ss⟩ := rel2.mut (o := .dK (mergeK [] [(.inl i, u)])) hp w na n0 no
  have rel4 := rel3.but no n0 na
  have ne : ∀ a, H a ≠ none → a ≠ p := fun a h z => h (z ▸ np)
  have stp : Step g H (g2.but p) (upd H2 p (.dK (mergeK [] [(.inl i, u)]))) := ⟨sT.K, sT.A, fun a o h n nt => by
      rw [upd_ne (ne a (by rw [h]; simp))]
      exact sT.keep a o h n nt, fun a h => by
      rw [upd_ne (ne a h)]
      exact sT.there a h, fun a h => ⟨sT.W1 a h, fun z => rel.sto.tr a h (z ▸ np)⟩, fun a h => sT.W2 a h.1⟩
  have z := go
  unfold xDct1 at z
  rw [e2] at z
  exact z (.ref p) _ (g2.but p) rel4 stp (.dct upd_same (fun z => z.2 rfl) (.cons rfl ((r2.step ss).less fun a h => h.1) .nil))
end
end Il
end
section
set_option Elab.async false
set_option linter.all false
set_option maxRecDepth 100000
set_option maxHeartbeats 4000000
namespace W
open Il
def il_BadShape_k05 : List (Nat × Bool) := [(4, false), (2, false), (3, false), (1, true)]
def is_BadShape_k05 : Nat → Option Bool := tabB il_BadShape_k05
def il_DotError_k05 : List (Nat × Bool) := [(4, true), (2, true), (3, true), (1, true)]
def is_DotError_k05 : Nat → Option Bool := tabB il_DotError_k05
def il_NoDot_k05 : List (Nat × Bool) := [(4, false), (2, false), (3, true), (1, false)]
def is_NoDot_k05 : Nat → Option Bool := tabB il_NoDot_k05
def il_NoDots_k05 : List (Nat × Bool) := [(4, false), (2, true), (3, false), (1, false)]
def is_NoDots_k05 : Nat → Option Bool := tabB il_NoDots_k05
def il_NoSteps_k05 : List (Nat × Bool) := [(4, true), (2, false), (3, false), (1, false)]
def is_NoSteps_k05 : Nat → Option Bool := tabB il_NoSteps_k05
def il_ValueError_k05 : List (Nat × Bool) := [(4, true), (2, true), (3, true), (1, true)]
def is_ValueError_k05 : Nat → Option Bool := tabB il_ValueError_k05
def b_law_word_5 : Bk :=
  (sSeq (sAsg (.nm 1) (xC (.str (PySem.Str.ofString "let")))) (sSeq (sTry 2 is_DotError_k05 (sSeq (sDrop xAct) sNil) (sSeq (sOwn 3 (lDisp (lCons (xIsE 2 is_BadShape_k05) (lCons (xIsE 2 is_NoDots_k05) (lCons (xIsE 2 is_NoDot_k05) (lCons (xIsE 2 is_NoSteps_k05) lNil)))))) (sSeq (sAsg (.nm 1) (xC (.str (PySem.Str.ofString "other")))) (sSeq (sSeq (sFrz 3) (sIf (tAnd (tOf (xOp2 oEq (xBM oCount (xRd 3) (xC (.bl true))) (xC (.int 1)))) (tOf (xIsE 2 is_ValueError_k05))) (sSeq (sSeq (sFrz 3) (sAsg (.nm 1) (xOp2 oIx (xLst (lDisp (lCons (xC (.str (PySem.Str.ofString "shape"))) (lCons (xC (.str (PySem.Str.ofString "dots"))) (lCons (xC (.str (PySem.Str.ofString "dot"))) (lCons (xC (.str (PySem.Str.ofString "steps"))) lNil)))))) (xBM oIndex (xRd 3) (xC (.bl true)))))) sNil) sNil)) sNil)))) (sSeq (sRet (xVar 1)) sNil)))
def b_law_deep_3 : Bk :=
  (sSeq (sAsg (.nm 1) (xCall (fun _ => m_law_any_2) 0 (lCons (xVar 0) (lCons (xLst (lDisp (lCons (xC .non) (lCons (xC (.str (PySem.Str.ofString "a"))) (lCons (xC (.dct [])) lNil))))) lNil)))) (sSeq (sFor (iRange1 (xOp2 oAdd (xC (.int 1)) (xCall (fun _ => m_law_draw_3) 0 (lCons (xVar 0) (lCons (xC (.int 30)) lNil))))) (.nm 2) (sSeq (sAsg (.nm 1) (xCall (fun _ => m_law_any_2) 0 (lCons (xVar 0) (lCons (xLst (lDisp (lCons (xTup (lCons (xVar 1) lNil)) (lCons (xLst (lDisp (lCons (xVar 1) lNil))) (lCons (xDct1 (0) (xVar 1)) lNil))))) lNil)))) sNil)) (sSeq (sRet (xVar 1)) sNil)))
def m_law_deep_3 (ds : List D) (s : Store) : Res D := runB 3 b_law_deep_3 ds s
def b_law_bent_4 : Bk :=
  (sSeq (sAsg (.tp [(.nm 2), (.nm 3), (.nm 4)]) (xTup (lCons (xCall (fun _ => m_law_draw_3) 0 (lCons (xVar 0) (lCons (xOp1 oLen (xRd 1)) lNil))) (lCons (xCall (fun _ => m_law_draw_3) 0 (lCons (xVar 0) (lCons (xC (.int 8)) lNil))) (lCons (xCall (fun _ => m_law_draw_3) 0 (lCons (xVar 0) (lCons (xC (.int 8)) lNil))) lNil))))) (sSeq (sAsg (.nm 5) (xOp2 oIx (xRd 1) (xRd 2))) (sSeq (sOwn 6 (lDisp (lCons (xTup (lCons (xOp2 oAdd (xOp2 oIx (xRd 5) (xC (.int 0))) (xC (.int 1))) (lCons (xOp2 oIx (xRd 5) (xC (.int 1))) lNil))) (lCons (xTup (lCons (xOp2 oIx (xRd 5) (xC (.int 0))) (lCons (xOp2 oSub (xOp2 oIx (xRd 5) (xC (.int 1))) (xC (.int 1))) lNil))) (lCons (xTup (lCons (xC (.int 101)) (lCons (xOp2 oIx (xRd 5) (xC (.int 1))) lNil))) (lCons (xTup (lCons (xOp2 oIx (xRd 5) (xC (.int 0))) (lCons (xOp1 oNeg (xC (.int 101))) lNil))) (lCons (xLst (lOp1 lListOf (xRd 5))) (lCons (xOp2 oAdd (xRd 5) (xTup (lCons (xC (.int 0)) lNil))) lNil)))))))) (sSeq (sOwn 6 (lOp2 lCat (xRd 6) (xLst (lDisp (lCons (xSlT (xVar 5) pNo (pSome (xC (.int 1)))) (lCons (xC .non) (lCons (xTup (lCons (xC (.bl true)) (lCons (xOp2 oIx (xRd 5) (xC (.int 1))) lNil))) (lCons (xTup (lCons (xOp2 oIx (xRd 5) (xC (.int 0))) (lCons (xC .non) lNil))) (lCons (xTup (lCons (xC (.str (PySem.Str.ofString "0"))) (lCons (xC (.int 0)) lNil))) (lCons (xTup (lCons (xVar 3) (lCons (xVar 4) lNil))) (lCons (xTup (lCons (xC (.int 100)) (lCons (xC (.int 100)) lNil))) (lCons (xTup (lCons (xOp1 oNeg (xC (.int 100))) (lCons (xC (.int 100)) lNil))) lNil)))))))))))) (sSeq (sSeq (sFrz 6) (sAsg (.nm 7) (xOp2 oAdd (xOp2 oAdd (xSlT (xVar 1) pNo (pSome (xRd 2))) (xTup (lCons (xCall (fun _ => m_law_any_2) 0 (lCons (xVar 0) (lCons (xVar 6) lNil))) lNil))) (xSlT (xVar 1) (pSome (xOp2 oAdd (xRd 2) (xC (.int 1)))) pNo)))) (sSeq (sOwn 8 (lDisp (lCons (xRevT (xVar 1)) (lCons (xOp2 oAdd (xSlT (xVar 1) (pSome (xC (.int 1))) pNo) (xSlT (xVar 1) pNo (pSome (xC (.int 1))))) (lCons (xSlT (xVar 1) pNo (pSome (xC (.int 2)))) (lCons (xOp2 oAdd (xOp2 oAdd (xSlT (xVar 1) pNo (pSome (xRd 2))) (xTup (lCons (xVar 5) lNil))) (xSlT (xVar 1) (pSome (xRd 2)) pNo)) lNil)))))) (sSeq (sOwn 8 (lOp2 lCat (xRd 8) (xLst (lDisp (lCons (xOp2 oAdd (xOp2 oAdd (xSlT (xVar 1) pNo (pSome (xRd 2))) (xTup (lCons (xTup (lCons (xVar 3) (lCons (xVar 4) lNil))) lNil))) (xSlT (xVar 1) (pSome (xRd 2)) pNo)) (lCons (xOp2 oAdd (xSlT (xVar 1) pNo (pSome (xRd 2))) (xSlT (xVar 1) (pSome (xOp2 oAdd (xRd 2) (xC (.int 1)))) pNo)) (lCons (xOp2 oRepT (xRd 1) (xC (.int 5))) (lCons (xTup lNil) lNil)))))))) (sSeq (sRet (xCall (fun _ => m_law_any_2) 0 (lCons (xVar 0) (lCons (xLst (lOp2 lCat (xLst (lOp2 lCat (xLst (lOp2 lRep (xLst (lDisp (lCons (xVar 7) lNil))) (xC (.int 8)))) (xRd 8))) (xLst (lDisp (lCons (xLst (lOp1 lListOf (xRd 1))) (lCons (xC .non) (lCons (xC (.int 0)) (lCons (xC (.dct [])) (lCons (xC (.str (PySem.Str.ofString "0"))) (lCons (xTup (lCons (xVar 1) lNil)) (lCons (xCall (fun _ => m_law_deep_3) 0 (lCons (xVar 0) lNil)) lNil))))))))))) lNil)))) sNil))))))))
def m_law_bent_4 (ds : List D) (s : Store) : Res D := runB 9 b_law_bent_4 ds s
def b_law_is_dot : Bk :=
  (sSeq (sIf (tOr (tNot (tOf (xOp1 (oIsTy [.tuple]) (xRd 0)))) (tOf (xOp2 oNe (xOp1 oLen (xRd 0)) (xC (.int 2))))) (sSeq (sRet (xC (.bl false))) sNil) sNil) (sSeq (sRet (xOp1 oAll (xLst (lComp (iSeq (xVar 0)) (.nm 1) [1] tYes (xAnd (xOp1 (oIsTy [.int]) (xRd 1)) (xAnd (xNot (xOp1 (oIsTy [.bool]) (xRd 1))) (xChain oLe oLe (xOp1 oNeg (xC (.int 100))) (xRd 1) (xC (.int 100))))))))) sNil))
def m_law_is_dot (ds : List D) (s : Store) : Res D := runB 2 b_law_is_dot ds s
def b_law_are_corners : Bk :=
  (sSeq (sIf (tOr (tNot (tOf (xOp1 (oIsTy [.tuple]) (xRd 0)))) (tOr (tNot (tOf (xChain oLe oLe (xC (.int 3)) (xOp1 oLen (xRd 0)) (xC (.int 12))))) (tNot (tOf (xOp1 oAll (xLst (lComp (iSeq (xVar 0)) (.nm 1) [1] tYes (xCall (fun _ => m_law_is_dot) 0 (lCons (xVar 1) lNil))))))))) (sSeq (sRet (xC (.bl false))) sNil) sNil) (sSeq (sRet (xOp2 oEq (xCall (fun _ => m_law_hull_3) 0 (lCons (xVar 0) lNil)) (xRd 0))) sNil))
def m_law_are_corners (ds : List D) (s : Store) : Res D := runB 2 b_law_are_corners ds s
def b_law_k05 : Bk :=
  (sSeq (sAsg (.nm 1) (xCall (fun _ => m_law_hand_2) 0 (lCons (xVar 0) lNil))) (sSeq (sIf (tOf (xOp2 oNe (xLam 0 1000 lamQ (runK 4 b_law_word_5) (xNew (fun _ => m_Shape_init) 0 0 (lCons (xTup (lCons (xTup (lCons (xC (.int 0)) (lCons (xC (.int 0)) lNil))) (lCons (xTup (lCons (xC (.int 1)) (lCons (xC (.int 0)) lNil))) (lCons (xTup (lCons (xC (.int 2)) (lCons (xC (.int 0)) lNil))) lNil)))) lNil))) (xC (.str (PySem.Str.ofString "shape"))))) (sSeq (sRet (xC (.bl false))) sNil) sNil) (sSeq (sIf (tOf (xOp2 oNe (xLam 0 1000 lamQ (runK 4 b_law_word_5) (xNew (fun _ => m_Shape_init) 0 0 (lCons (xTup (lCons (xTup (lCons (xOp1 oNeg (xC (.int 100))) (lCons (xOp1 oNeg (xC (.int 100))) lNil))) (lCons (xTup (lCons (xC (.int 100)) (lCons (xOp1 oNeg (xC (.int 100))) lNil))) (lCons (xTup (lCons (xC (.int 100)) (lCons (xC (.int 100)) lNil))) lNil)))) lNil))) (xC (.str (PySem.Str.ofString "let"))))) (sSeq (sRet (xC (.bl false))) sNil) sNil) (sSeq (sFor (iRange1 (xC (.int 3))) (.nm 2) (sSeq (sAsg (.nm 3) (xCall (fun _ => m_law_corners_3) 0 (lCons (xVar 1) (lCons (xC (.int 6)) lNil)))) (sSeq (sAsg (.nm 4) (xNew (fun _ => m_Shape_init) 0 0 (lCons (xVar 3) lNil))) (sSeq (sFor (iRange1 (xC (.int 7))) (.nm 5) (sSeq (sAsg (.nm 6) (xCall (fun _ => m_law_bent_4) 0 (lCons (xVar 1) (lCons (xVar 3) lNil)))) (sSeq (sIf (tOf (xOp2 oNe (xLam 0 1000 lamQ (runK 4 b_law_word_5) (xNew (fun _ => m_Shape_init) 0 0 (lCons (xVar 6) lNil))) (xIf (tOf (xCall (fun _ => m_law_are_corners) 0 (lCons (xVar 6) lNil))) (xC (.str (PySem.Str.ofString "let"))) (xC (.str (PySem.Str.ofString "shape")))))) (sSeq (sRet (xC (.bl false))) sNil) sNil) sNil))) (sSeq (sOwn 7 (lDisp (lCons (xC .non) (lCons (xC (.int 0)) (lCons (xC (.str (PySem.Str.ofString "0"))) (lCons (xTup (lCons (xC (.int 0)) lNil)) (lCons (xTup (lCons (xC (.int 0)) (lCons (xC (.int 0)) (lCons (xC (.int 0)) lNil)))) (lCons (xLst (lDisp (lCons (xC (.int 0)) (lCons (xC (.int 0)) lNil)))) (lCons (xTup (lCons (xC (.int 101)) (lCons (xC (.int 0)) lNil))) (lCons (xTup (lCons (xC (.int 0)) (lCons (xOp1 oNeg (xC (.int 101))) lNil))) (lCons (xTup (lCons (xC (.bl true)) (lCons (xC (.int 0)) lNil))) (lCons (xTup (lCons (xC .non) (lCons (xC (.int 0)) lNil))) (lCons (xC (.dct [])) lNil))))))))))))) (sSeq (sAsg (.nm 8) (xCall (fun _ => m_law_any_2) 0 (lCons (xVar 1) (lCons (xLst (lOp2 lCat (xRd 7) (xLst (lDisp (lCons (xCall (fun _ => m_law_deep_3) 0 (lCons (xVar 1) lNil)) lNil))))) lNil)))) (sSeq (sOwn 7 (lDisp (lCons (xC .non) (lCons (xTup lNil) (lCons (xLst (lOp1 lListOf (xRd 3))) (lCons (xOp2 oAdd (xRd 3) (xTup (lCons (xVar 8) lNil))) (lCons (xTup (lCons (xVar 8) lNil)) (lCons (xOp2 oRepT (xRd 3) (xC (.int 11))) (lCons (xC (.int 0)) (lCons (xC (.str (PySem.Str.ofString "0"))) (lCons (xC (.dct [])) (lCons (xTup (lCons (xVar 3) lNil)) lNil)))))))))))) (sSeq (sAsg (.nm 9) (xCall (fun _ => m_law_any_2) 0 (lCons (xVar 1) (lCons (xLst (lOp2 lCat (xRd 7) (xLst (lDisp (lCons (xCall (fun _ => m_law_deep_3) 0 (lCons (xVar 1) lNil)) lNil))))) lNil)))) (sSeq (sAsg (.nm 10) (xCall (fun _ => m_steps) 0 (lCons (xVar 4) lNil))) (sSeq (sAsg (.tp [(.nm 11), (.nm 12)]) (xOp2 oIx (xRd 10) (xC (.int 0)))) (sSeq (sOwn 13 (lDisp (lCons (xTup (lCons (xTup (lCons (xOp2 oMul (xC (.int 2)) (xOp2 oIx (xRd 11) (xC (.int 0)))) (lCons (xOp2 oMul (xC (.int 2)) (xOp2 oIx (xRd 11) (xC (.int 1)))) lNil))) (lCons (xVar 12) lNil))) (lCons (xTup (lCons (xVar 11) (lCons (xOp2 oAdd (xRd 12) (xC (.int 1))) lNil))) (lCons (xTup (lCons (xVar 11) (lCons (xC (.int 0)) lNil))) (lCons (xTup (lCons (xVar 11) (lCons (xC (.bl true)) lNil))) (lCons (xVar 11) lNil))))))) (sSeq (sOwn 13 (lOp2 lCat (xRd 13) (xLst (lDisp (lCons (xTup (lCons (xVar 11) (lCons (xVar 12) (lCons (xC (.int 0)) lNil)))) (lCons (xTup (lCons (xC .non) (lCons (xC (.int 1)) lNil))) (lCons (xLst (lDisp (lCons (xVar 11) (lCons (xVar 12) lNil)))) (lCons (xTup (lCons (xLst (lOp1 lListOf (xRd 11))) (lCons (xVar 12) lNil))) lNil)))))))) (sSeq (sSeq (sFrz 13) (sOwn 14 (lOp2 lCat (xLst (lDisp (lCons (xC .non) (lCons (xTup lNil) (lCons (xLst (lOp1 lListOf (xRd 10))) (lCons (xSlT (xVar 10) pNo (pSome (xC (.int 2)))) (lCons (xSlT (xVar 10) (pSome (xC (.int 1))) pNo) (lCons (xOp2 oAdd (xRd 10) (xSlT (xVar 10) pNo (pSome (xC (.int 1))))) lNil)))))))) (xLst (lComp (iSeq (xVar 13)) (.nm 15) [15] tYes (xOp2 oAdd (xTup (lCons (xVar 15) lNil)) (xSlT (xVar 10) (pSome (xC (.int 1))) pNo))))))) (sSeq (sApp 14 (xOp1 oTupOf (xLst (lComp (iSeq (xVar 10)) (.tp [(.nm 16), (.nm 17)]) [16, 17] tYes (xTup (lCons (xVar 16) (lCons (xOp2 oMul (xC (.int 201)) (xRd 17)) lNil))))))) (sSeq (sAsg (.nm 14) (xCall (fun _ => m_law_any_2) 0 (lCons (xVar 1) (lCons (xLst (lOp2 lCat (xRd 14) (xLst (lDisp (lCons (xOp2 oAdd (xTup (lCons (xTup (lCons (xTup (lCons (xC (.int 0)) (lCons (xC (.int 0)) lNil))) (lCons (xC (.int 1)) lNil))) lNil)) (xRd 10)) (lCons (xC (.int 0)) (lCons (xC (.str (PySem.Str.ofString "0"))) (lCons (xC (.dct [])) (lCons (xCall (fun _ => m_law_deep_3) 0 (lCons (xVar 1) lNil)) lNil))))))))) lNil)))) (sSeq (sOwn 18 (lDisp (lCons (xLam 0 1000 lamQ (runK 4 b_law_word_5) (xCall (fun _ => m_holds) 0 (lCons (xVar 4) (lCons (xVar 8) lNil)))) lNil))) (sSeq (sApp 18 (xLam 0 1000 lamQ (runK 4 b_law_word_5) (xCall (fun _ => m_hull) 0 (lCons (xVar 9) lNil)))) (sSeq (sSeq (sFrz 14) (sApp 18 (xLam 0 1000 lamQ (runK 4 b_law_word_5) (xCall (fun _ => m_of_steps) 0 (lCons (xVar 14) lNil))))) (sSeq (sApp 18 (xLam 0 1000 lamQ (runK 4 b_law_word_5) (xCall (fun _ => m_holds) 0 (lCons (xVar 4) (lCons (xTup (lCons (xC (.int 100)) (lCons (xOp1 oNeg (xC (.int 100))) lNil))) lNil))))) (sSeq (sApp 18 (xLam 0 1000 lamQ (runK 4 b_law_word_5) (xCall (fun _ => m_hull) 0 (lCons (xOp2 oRepT (xSlT (xVar 3) pNo (pSome (xC (.int 1)))) (xC (.int 30))) lNil)))) (sSeq (sApp 18 (xLam 0 1000 lamQ (runK 4 b_law_word_5) (xCall (fun _ => m_of_steps) 0 (lCons (xVar 10) lNil)))) (sSeq (sIf (tOf (xOp2 oNe (xRd 18) (xLst (lDisp (lCons (xC (.str (PySem.Str.ofString "dot"))) (lCons (xC (.str (PySem.Str.ofString "dots"))) (lCons (xC (.str (PySem.Str.ofString "steps"))) (lCons (xC (.str (PySem.Str.ofString "let"))) (lCons (xC (.str (PySem.Str.ofString "let"))) (lCons (xC (.str (PySem.Str.ofString "let"))) lNil)))))))))) (sSeq (sRet (xC (.bl false))) sNil) sNil) sNil)))))))))))))))))))))) (sSeq (sRet (xC (.bl true))) sNil)))))
def m_law_k05 (ds : List D) (s : Store) : Res D := runB 19 b_law_k05 ds s
end W
end
section
set_option Elab.async false
set_option linter.all false
set_option maxRecDepth 100000
set_option maxHeartbeats 2000000
/-! What the head tells of the text, by names. -/
namespace Il
open PySem PySem.Spec L2
/-! ### defs -/
def fdAt (K : PySem.W.Frag) (p : Str × Option Str) : FuncData := match K.lookup (He.fAd K p) with
  | some ⟨_, _, .func fd, _⟩ => fd
  | _ => default
abbrev DefOk (K : PySem.W.Frag) (p : Str × Option Str) (x qual : Str) (st : Stmt) : Prop := FunC K x qual st (He.fAd K p) (fdAt K p) (fdAt K p).code
def mkD (p : Str × Option Str) (x qual : Str) (st : Stmt) : He.DefD := ⟨p, x, qual, defArgs st, defBody st, defScope st, [], []⟩
section
variable {K : PySem.W.Frag} {fa : List He.Fa} {fn : List He.DefD}
theorem defOk {p : Str × Option Str} {x qual : Str} {st : Stmt} (c : He.SaysD fa fn K) (i : Nat) (h : fn[i]? = some (mkD p x qual st)) : DefOk K p x qual st := by
  obtain ⟨fd, ⟨oc, od, dV, kV, doc, pm, an, cdv, ct, osl, e1, e2, e3, e4, e5⟩, kp⟩ := c.def_ i h
  have e0 : fdAt K p = fd := by
    unfold fdAt
    have z : K.lookup (He.fAd K p) = some ⟨oc, od, .func fd, osl⟩ := e2
    rw [z]
  rcases e4 with ⟨_, rfl⟩ | ⟨z, _⟩
  · refine ⟨⟨oc, od, kV, doc, pm, an, ct, osl, ?_, ?_, ?_⟩, kp⟩
    · rw [e0, e1]; rfl
    · rw [e0]; exact e2
    · rw [e0, e1]; exact e3
  · exact absurd rfl z
end
/-! ### own exceptions -/
/-- the text's file of a code object -/
def fileOk (K : PySem.W.Frag) (P : Program) (cd : Value) : Bool := match cd with
  | .ref c => (match K.lookup c with
    | some ⟨_, _, .fields vs, _⟩ => (match (vs[(2 : Nat)]? : Option Value) with
      | some (.str f _) => (P.main.file : Str) == f
      | _ => false)
    | _ => false)
  | _ => false
def cellOk (K : PySem.W.Frag) (C cc : Addr) : Bool := match K.lookup cc with
  | some ⟨_, _, .cell (some v), _⟩ => v == .ref C
  | _ => false
def oexB (K : PySem.W.Frag) (C : Addr) : Bool := (match K.lookup C with
    | some ⟨c, _, .cls cd, sl⟩ => c == .type "type" && (match cd.mro with
      | m :: bm => m == .ref C && PySem.HandSPX.refsVE bm
      | [] => false) && cd.hasDict && !cd.hasDel && (match sl.toList with
        | [_, _, _, _, some (.builtin n), _] => n == "ValueError.__new__"
        | _ => false)
    | _ => false) && He.eqO (PySem.W.findIn K (.ref C) "__setattr__") (some (some (.builtin "object.__setattr__"))) && decide (PySem.W.subIn K (.ref C) (.type "BaseException") = some true) && decide (PySem.W.typeIn K (.ref C) = some (.type "type")) && PySem.W.keepIn K (.ref C)
theorem oexB_ok {K : PySem.W.Frag} {C : Addr} (h : oexB K C = true) : OexC K C := by
  unfold oexB at h
  simp only [Bool.and_eq_true, decide_eq_true_eq] at h
  obtain ⟨⟨⟨⟨h1, h2⟩, h3⟩, h4⟩, h5⟩ := h
  refine ⟨?_, He.eqO_ok h2, h3, h4, h5⟩
  split at h1
  · rename_i c dd cd sl q
    simp only [Bool.and_eq_true, beq_iff_eq, Bool.not_eq_true'] at h1
    obtain ⟨⟨⟨⟨rfl, h7⟩, h8⟩, h9⟩, h10⟩ := h1
    split at h7
    · rename_i m bm hm
      simp only [Bool.and_eq_true, beq_iff_eq] at h7
      obtain ⟨rfl, h12⟩ := h7
      split at h10
      · rename_i k0 k1 k2 k3 nn k5 hs
        have hn : nn = "ValueError.__new__" := by simpa using h10
        subst hn
        obtain ⟨nm, bs, mro, ns, qn, hd, sn, sb, ab, col, dl⟩ := cd
        dsimp only at hm h8 h9
        subst hm h8 h9
        obtain ⟨l⟩ := sl
        dsimp only at hs
        subst hs
        exact ⟨nm, qn, ns, bs, bm, sn, sb, ab, col, dd, k0, k1, k2, k3, k5, q, h12⟩
      · cases h10
    · cases h7
  · cases h1
/-- the parts that both shapes ask -/
def supC0 (P : Program) (K : PySem.W.Frag) (C fI : Addr) : Bool := oexB K C && He.eqO (PySem.W.findIn K (.ref C) "__init__") (some (some (.ref fI))) && decide (PySem.W.typeIn K (.ref fI) = some (.type "function")) &&
  (match PySem.W.clsIn K C with
    | some cd => He.eqO (PySem.W.alongIn K "__init__" ((cd.mro.dropWhile (· != .ref C)).drop 1)) (some (some (.builtin "ValueError.__init__")))
    | none => false) && decide (PySem.W.mroIn K C (.ref C) = some true) && decide (PySem.W.subIn K (.ref C) (.type "ValueError") = some true) && He.eqO (PySem.W.nsIn K mainGlobals "super") (some none) && He.eqO (PySem.W.nsIn K cStatics "thirdparty.any") (some none) &&
  !(P.main.scope.names.lookup ("super" : Str)).isSome
def scopeB (sc : Scope) : Bool := decide (sc.names.lookup ("super" : Str) = some .globalImplicit) && decide (sc.names.lookup ("__class__" : Str) = some .free) && decide (sc.kind = .function) && (sc.names.all fun x => decide (x.2 ≠ .cell)) && !sc.isCoroutine && !sc.isGenerator
def fnB (P : Program) (K : PySem.W.Frag) (C : Addr) (fd : FuncData) : Bool := decide (fd.globals = mainGlobals) && decide (fd.builtins = builtinsNs) && decide (fd.defaults = .none) && decide (fd.kwdefaults = .none) && (match fd.code with
    | .ref c => PySem.W.codeIn K (.ref c) fd.qualname && fileOk K P (.ref c)
    | _ => false) && (match fd.closure with
    | [(n, cc)] => decide (n = "__class__") && cellOk K C cc
    | _ => false) && scopeB fd.scope
def parB (ps : Arguments) (ns : List Str) : Bool := ps.posonlyargs.isEmpty && decide (ps.args.map (·.arg) = ns) && ps.vararg.isNone && ps.kwonlyargs.isEmpty && ps.kwarg.isNone && ps.kw_defaults.isEmpty && ps.defaults.isEmpty
/-- super().__init__() -/
def bodyB0 : FuncBody → Bool
  | .stmts [.Expr (.Call (.Attribute (.Call (.Name s _) [] [] _) i p2) [] [] p3) _] => decide (s = "super") && decide (i = "__init__") && (p2.endLine == p3.line)
  | _ => false
def supB0 (P : Program) (K : PySem.W.Frag) (C : Addr) : Bool := supC0 P K C (He.ma K C "__init__") && (match K.lookup (He.ma K C "__init__") with
  | some ⟨_, _, .func fd, _⟩ => fnB P K C fd && bodyB0 fd.body && parB fd.params ["self"] && decide (fd.scope.names.lookup ("self" : Str) = some .local)
  | _ => false)
theorem fileOk_ok {K : PySem.W.Frag} {P : Program} {c : Addr} (h : fileOk K P (.ref c) = true) : ∃ ccl cdd vs ccs file tf, K.lookup c = some ⟨ccl, cdd, .fields vs, ccs⟩ ∧ vs[2]? = some (.str file tf) ∧ ((P.main.file : Str) == file) = true := by
  unfold fileOk at h
  dsimp only at h
  split at h
  · rename_i ccl cdd vs ccs q
    split at h
    · rename_i f t q2
      exact ⟨_, _, _, _, _, _, q, q2, h⟩
    · cases h
  · cases h
theorem cellOk_ok {K : PySem.W.Frag} {C cc : Addr} (h : cellOk K C cc = true) : ∃ cl cld csl, K.lookup cc = some ⟨cl, cld, .cell (some (.ref C)), csl⟩ := by
  unfold cellOk at h
  split at h
  · rename_i cl cld v csl q
    have e : v = .ref C := beq_iff_eq.mp h
    rw [e] at q
    exact ⟨_, _, _, q⟩
  · cases h
theorem supC_of {P : Program} {K : PySem.W.Frag} {C fI : Addr} {oc : Value} {od : Option Addr} {osl : Array (Option Value)} {fd : FuncData} {body : List Stmt} (h0 : supC0 P K C fI = true) (lk : K.lookup fI = some ⟨oc, od, .func fd, osl⟩) (hf : fnB P K C fd = true) (hb : fd.body = .stmts body) :
    SupC P K C fI fd.params body fd.scope := by
  unfold supC0 at h0
  simp only [Bool.and_eq_true, decide_eq_true_eq, Bool.not_eq_true'] at h0
  obtain ⟨⟨⟨⟨⟨⟨⟨⟨a1, a2⟩, a3⟩, a4⟩, a5⟩, a6⟩, a7⟩, a8⟩, a9⟩ := h0
  unfold fnB at hf
  simp only [Bool.and_eq_true, decide_eq_true_eq] at hf
  obtain ⟨⟨⟨⟨⟨⟨b1, b2⟩, b3⟩, b4⟩, b5⟩, b6⟩, b7⟩ := hf
  refine ⟨oexB_ok a1, He.eqO_ok a2, a3, ?_, ?_, a5, a6, He.eqO_ok a7, He.eqO_ok a8, a9⟩
  · obtain ⟨n1, n2, n3, n4, n5, n6, n7, n8, n9, n10, n11, n12, n13, n14, n15⟩ := fd
    dsimp only at b1 b2 b3 b4 b5 b6 hb
    subst b1 b2 b3 b4 hb
    cases n13 with
    | ref c =>
      dsimp only at b5
      rw [Bool.and_eq_true] at b5
      match n7, b6 with
      | [(n, cc)], b6 =>
        dsimp only at b6
        rw [Bool.and_eq_true, decide_eq_true_eq] at b6
        obtain ⟨rfl, b6⟩ := b6
        exact ⟨n1, n2, n10, n11, n12, c, n14, cc, oc, od, osl, lk, b5.1, fileOk_ok b5.2, cellOk_ok b6⟩
    | _ => cases b5
  · split at a4
    · rename_i cd q
      exact ⟨cd, q, He.eqO_ok a4⟩
    · cases a4
theorem scopeB_ok {sc : Scope} (h : scopeB sc = true) : sc.names.lookup ("super" : Str) = some .globalImplicit ∧ sc.names.lookup ("__class__" : Str) = some .free ∧ sc.kind = .function ∧ (∀ x ∈ sc.names, x.2 ≠ .cell) ∧ sc.isCoroutine = false ∧ sc.isGenerator = false := by
  unfold scopeB at h
  simp only [Bool.and_eq_true, decide_eq_true_eq, Bool.not_eq_true', List.all_eq_true] at h
  obtain ⟨⟨⟨⟨⟨a1, a2⟩, a3⟩, a4⟩, a5⟩, a6⟩ := h
  exact ⟨a1, a2, a3, a4, a5, a6⟩
theorem parB_ok {ps : Arguments} {ns : List Str} (h : parB ps ns = true) : ps.posonlyargs = [] ∧ ps.args.map (·.arg) = ns ∧ ps.vararg = none ∧ ps.kwonlyargs = [] ∧ ps.kwarg = none ∧ ps.kw_defaults = [] ∧ ps.defaults = [] := by
  unfold parB at h
  simp only [Bool.and_eq_true, decide_eq_true_eq, List.isEmpty_iff, Option.isNone_iff_eq_none] at h
  obtain ⟨⟨⟨⟨⟨⟨a1, a2⟩, a3⟩, a4⟩, a5⟩, a6⟩, a7⟩ := h
  exact ⟨a1, a2, a3, a4, a5, a6, a7⟩
theorem bind_self {fd : FuncData} (h : parB fd.params ["self"] = true) (hd : fd.defaults = .none) (hk : fd.kwdefaults = .none) (s : Shared) (u : Value) : BindsTo s fd ⟨[u], []⟩ [("self", u)] := by
  obtain ⟨a1, a2, a3, a4, a5, a6, a7⟩ := parB_ok h
  obtain ⟨n1, n2, ps, n4, n5, n6, n7, n8, n9, n10, n11, n12, n13, n14, n15⟩ := fd
  obtain ⟨p1, p2, p3, p4, p5, p6, p7⟩ := ps
  dsimp only at a1 a2 a3 a4 a5 a6 a7 hd hk
  subst a1 a3 a4 a5 a6 a7 hd hk
  match p2, a2 with
  | [⟨x, an, po⟩], a2 =>
    have e : x = "self" := by simpa using a2
    subst e
    exact .of_eq rfl
section
variable {X : Cx} {C : Addr} {x : Str} {p pos : Pos} {k : Nat}
theorem sup0_mk (h : supB0 X.prog X.K C = true) (hr : Room (k + 1) X.A) (hg : Gl X x) (hm : X.mg x = some (.ref C)) (hdb : (x == ("__debug__" : Str)) = false) : PMk X (.Call (.Name x p) [] [] pos) (fun _ H Q => Q (.ref C) none H) := by
  unfold supB0 at h
  rw [Bool.and_eq_true] at h
  obtain ⟨h1, h2⟩ := h
  split at h2
  · rename_i oc od fd osl lk
    simp only [Bool.and_eq_true, decide_eq_true_eq] at h2
    obtain ⟨⟨⟨h3, h4⟩, h5⟩, h6⟩ := h2
    have h3' := h3
    unfold fnB at h3'
    simp only [Bool.and_eq_true, decide_eq_true_eq] at h3'
    obtain ⟨⟨⟨⟨⟨⟨b1, b2⟩, b3⟩, b4⟩, b5⟩, b6⟩, b7⟩ := h3'
    obtain ⟨c1, c2, c3, c4, c5, c6⟩ := scopeB_ok b7
    obtain ⟨d1, d2, d3, d4, d5, d6, d7⟩ := parB_ok h5
    unfold bodyB0 at h4
    split at h4
    · rename_i s0 p0 p1 i0 p2 p3 p4 hbd
      simp only [Bool.and_eq_true, decide_eq_true_eq] at h4
      obtain ⟨⟨rfl, rfl⟩, hl⟩ := h4
      have S := supC_of h1 lk h3 hbd
      refine pmk_sup0 (a0 := "self") S ⟨d1, d2, d3, d4, d5⟩ (fun fd' e e1 e2 s u => bind_self (by rw [e]; exact h5) e1 e2 s u) c1 c2 h6 c3 c4 c5 c6 hl hr hg hm hdb
    · cases h4
  · cases h2
end
/-! ### isinstance of a caught error -/
def excCB (K : PySem.W.Frag) (D : Addr) : Bool := He.eqO (PySem.W.findIn K (.ref D) "__getattribute__") (some (some (.builtin "BaseException.__getattribute__"))) && He.eqO (PySem.W.findIn K (.ref D) "__getattr__") (some none) && decide (PySem.W.subIn K (.ref D) (.type "BaseException") = some true) && PySem.W.hasDictIn K D &&
  He.eqO (PySem.W.findIn K (.ref D) "__class__") (some (some (.builtin "object.__class__"))) && He.eqO (PySem.W.specialIn K (.builtin "object.__class__") "__get__") (some (some (.builtin "getset_descriptor.__get__"))) && decide (PySem.W.takesIn K (.builtin "object.__class__") = some true) && decide (PySem.W.mroIn K D (.type "object") = some true)
theorem excCB_ok {K : PySem.W.Frag} {D : Addr} (h : excCB K D = true) : ExcC K D := by
  unfold excCB at h
  simp only [Bool.and_eq_true, decide_eq_true_eq] at h
  obtain ⟨⟨⟨⟨⟨⟨⟨a1, a2⟩, a3⟩, a4⟩, a5⟩, a6⟩, a7⟩, a8⟩ := h
  exact ⟨He.eqO_ok a1, He.eqO_ok a2, a3, a4, He.eqO_ok a5, He.eqO_ok a6, a7, a8⟩
theorem tab_all {l : List (Nat × Bool)} {p : Nat → Bool → Bool} (h : (l.all fun q => p q.1 q.2) = true) {c : Nat} {b : Bool} (e : tabB l c = some b) : p c b = true := by
  unfold tabB at e
  induction l with
  | nil => cases e
  | cons q l ih =>
    rw [List.all_cons, Bool.and_eq_true] at h
    simp only [List.lookup] at e
    split at e
    · rename_i hq
      have : c = q.1 := beq_iff_eq.mp hq
      cases e
      rw [this]
      exact h.1
    · exact ih h.2 e
end Il
namespace Il
open PySem PySem.Spec L2
theorem code_of {K : PySem.W.Frag} {p : Str × Option Str} {x q : Str} {st : Stmt} (F : DefOk K p x q st) : (fdAt K p).code = .ref (He.codeOf K p) := by
  obtain ⟨oc, od, kV, doc, pm, an, ct, osl, e1, e2, e3⟩ := F.ex
  obtain ⟨c, hc⟩ := He.codeIn_ref e3
  rw [He.codeOf_eq e2 hc]
  exact hc
end Il
/-! ### the head's looks, the statics among them -/
namespace Il
open PySem PySem.Spec L2
def asY (g : Addr → Option Obj) (n : Nat) : List Addr := cStatics :: He.asD g n
def obsY (n : Nat) (fa : List He.Fa) (fn : List He.DefD) (tf : List He.Defn) (ex : PySem.W.Frag → Bool) (g : Addr → Option Obj) : He.AlX := (He.obsT fa fn [] (He.frT g (asY g n)), ex (He.frT g (asY g n)) && He.tabsB g tf (He.frT g (asY g n)))
theorem says_of {as : List Addr} {fa : List He.Fa} {fn : List He.DefD} {tf : List He.Defn} {ex : PySem.W.Frag → Bool} {w : World} {h : Heap} (e : ((He.obsT fa fn [] (He.frT h.get? as), ex (He.frT h.get? as) && He.tabsB h.get? tf (He.frT h.get? as)) : He.AlX) = He.valX fn [] w) :
    He.SaysX fa fn [] tf ex w h (He.frT h.get? as) := by
  have e1 := congrArg (fun z : He.AlX => z.1) e
  have e2 : (ex (He.frT h.get? as) && He.tabsB h.get? tf (He.frT h.get? as)) = true := congrArg (fun z : He.AlX => z.2) e
  rw [Bool.and_eq_true] at e2
  have each : ∀ p ∈ tf, PySem.W.codeHdIn (He.frT h.get? as) (He.cT (He.frT h.get? as) p).1 (He.cT (He.frT h.get? as) p).2 = true ∧ ∃ o, h.get? (He.cT (He.frT h.get? as) p).2 = some o ∧ He.emptyTab o = true := fun p hp => by
    have z := List.all_eq_true.mp (show (tf.all fun p => PySem.W.codeHdIn (He.frT h.get? as) (He.cT (He.frT h.get? as) p).1 (He.cT (He.frT h.get? as) p).2 && (match h.get? (He.cT (He.frT h.get? as) p).2 with
      | some o => He.emptyTab o
      | none => false)) = true from e2.2) p hp
    rw [Bool.and_eq_true] at z
    refine ⟨z.1, ?_⟩
    have z2 := z.2
    split at z2
    · rename_i o q
      exact ⟨o, q, z2⟩
    · cases z2
  refine ⟨e1, e2.1, fun p hp => (each p hp).1, fun p hp => ?_, fun p hp => ?_⟩
  · obtain ⟨_, o, q, z⟩ := each p hp
    exact He.frT_none q z
  · obtain ⟨_, o, q, z⟩ := each p hp
    rw [q, He.emptyTab_eq z]
def hookY (n : Nat) (fa : List He.Fa) (fn : List He.DefD) (tf : List He.Defn) (ex : PySem.W.Frag → Bool) : PySem.W.Hook where
  α := He.AlX
  obs := fun s => obsY n fa fn tf ex s.heap.get?
  val := fun w => He.valX fn [] w
  says := fun w h => ∃ K : PySem.W.Frag, K.In h ∧ He.SaysX fa fn [] tf ex w h K
  of := fun _ _ e => ⟨_, He.frT_in, says_of e⟩
  keeps := fun _ _ _ z k => by
    obtain ⟨K, hK, c⟩ := z
    exact ⟨K, PySem.W.Frag.In.keeps hK k, ⟨c.t, c.more, c.hd, c.out, fun p hp => k _ _ (c.empty p hp)⟩⟩
theorem obsY_eq {n : Nat} {fa : List He.Fa} {fn : List He.DefD} {tf : List He.Defn} {ex : PySem.W.Frag → Bool} {g : Addr → Option Obj} {s : Shared} (h : ∀ a, g a = s.heap.get? a) : obsY n fa fn tf ex g = (hookY n fa fn tf ex).obs s := by
  rw [show g = s.heap.get? from funext h] <;> rfl
end Il
/-! ### the law's end -/
namespace Il
open PySem PySem.Spec PyProof.Rows L2 LamX
theorem law_bind {K : PySem.W.Frag} {p : Str × Option Str} {x q y : Str} {st : Stmt} (F : DefOk K p x q st) (h : ∀ (kV doc pm : Value) (an : Option Addr) (cdv ct u : Value), bindArgs (PySem.W.fnOf x q (defArgs st) (defBody st) (defScope st) .none kV doc pm an cdv ct) ⟨[u], []⟩ = pure [(y, u)]) (s : Shared) (u : Value) :
    BindsTo s (fdAt K p) ⟨[u], []⟩ [(y, u)] := by
  obtain ⟨oc, od, kV, doc, pm, an, ct, osl, e1, e2, e3⟩ := F.ex
  rw [e1]
  exact .of_eq (h _ _ _ _ _ _ _)
theorem law_endE {l : PySem.W.OpenLaw} {n k : Nat} {q : Program} {loose : List Str} {XP : (Str → Option Value) → Heap → Prop} {YP : World → Heap → Prop} {d : DefRec} {x : Str}
    (hn : l.most = some n) (hn2 : n ≤ sizeLine) (hdf : d.params.defaults = []) (hr : RG k callerA)
    (F : ∀ (w : World) (mg : Str → Option Value) (fa : Addr) (h : Heap), YP w h → h.Ns mainGlobals mg → mg d.name = some (.ref fa) → ∃ K : PySem.W.Frag, K.In h ∧ LawAt l w K k n x mg fa h) :
    PySem.W.WalkO q loose XP YP l.row.toRowW d [] (fun f vs => PySem.call f vs) := by
  refine Att.attach_callB hn hdf fun w s₀ s₁ mg mb fa o pm cd doc a vs ns G Y ho hd hcd hmg hobj hints hlen hbits hg => ?_
  obtain ⟨K, KX, fd, cs, sp, hT, nT, C, hb, hsp, hF⟩ := F w mg fa _ Y G.T.g hmg
  exact law_run KX G.T.g G.T.b G.T.builtins G.T.nolimit hg hT nT C G.T.bmain hobj hints (Nat.le_trans hlen hn2) hr hF hb fun H hH hS => hsp H a ns hlen hbits hH hS
end Il
end
section
set_option Elab.async false
set_option linter.all false
set_option maxRecDepth 100000
set_option maxHeartbeats 2000000
namespace Il
open PySem PySem.Spec L2
/-- the same by a look at the written part -/
def isCB (K : PySem.W.Frag) (ct : ClsT) (tab : List (Nat × Bool)) (C : Addr) : Bool :=
  He.eqO (PySem.W.specialIn K (.builtin "object.__class__") "__get__") (some (some (.builtin "getset_descriptor.__get__"))) && decide (PySem.W.takesIn K (.builtin "object.__class__") = some true) &&
  (tab.all fun q => He.eqO (PySem.W.findIn K (.ref (ct q.1)) "__class__") (some (some (.builtin "object.__class__"))) && decide (PySem.W.mroIn K (ct q.1) (.type "object") = some true) && decide (PySem.W.kitOne K (.ref (ct q.1)) (.ref C) = some q.2)) &&
  (tyNames.all fun y => decide (PySem.W.kitOne K (.type y) (.ref C) = some false))
def eqCB (K : PySem.W.Frag) (ct : ClsT) (l : RfT) (f : Addr) : Bool := PySem.W.isFn K (.ref f) && l.all fun q =>
  He.eqO (PySem.W.findIn K (.ref (ct q.1)) "__eq__") (some (some (.ref f))) && He.eqO (PySem.W.findIn K (.ref (ct q.2.1)) "__eq__") (some (some (.ref f))) &&
  He.eqO (PySem.W.findIn K (.ref (ct q.1)) "__ne__") (some (some (.builtin "object.__ne__"))) && He.eqO (PySem.W.findIn K (.ref (ct q.2.1)) "__ne__") (some (some (.builtin "object.__ne__"))) &&
  decide (PySem.W.mroIn K (ct q.1) (.type "object") = some true) && decide (PySem.W.mroIn K (ct q.2.1) (.type "object") = some true) &&
  (if q.2.2 then decide (ct q.2.1 ≠ ct q.1) && decide (PySem.W.subIn K (.ref (ct q.2.1)) (.ref (ct q.1)) = some true) else PySem.W.notFirst K (ct q.1) (.ref (ct q.2.1)))
end Il
end
section
set_option Elab.async false
set_option linter.all false
set_option maxRecDepth 100000
set_option maxHeartbeats 4000000
namespace W
open PySem PySem.Spec L2 Il
/-! ### the text -/
abbrev PP : Program := PySem.Challenge.pw_dotpolygons_k05_refusals_of_shapes_and_d
def topS (i : Nat) : Stmt := PP.main.body.getD i (.Pass ⟨0, 0, 0, 0⟩)
abbrev st_law_word_5 : Stmt := topS 39
abbrev st_RawShape_init : Stmt := inClass (topS 23) 0
abbrev st_turn_of : Stmt := topS 17
abbrev st_half_hull : Stmt := topS 19
abbrev st_hull_of : Stmt := topS 20
abbrev st_common : Stmt := topS 27
abbrev st_is_integer : Stmt := topS 1
abbrev st_is_number : Stmt := topS 3
abbrev st_is_tuple : Stmt := topS 4
abbrev st_is_step_pair : Stmt := topS 30
abbrev st_of_steps : Stmt := topS 31
abbrev st_is_within : Stmt := topS 2
abbrev st_is_dot : Stmt := topS 16
abbrev st_hull : Stmt := topS 24
abbrev st_sides_of : Stmt := topS 18
abbrev st_place : Stmt := topS 25
abbrev st_holds : Stmt := topS 26
abbrev st_law_draw_3 : Stmt := topS 34
abbrev st_law_any_2 : Stmt := topS 35
abbrev st_law_deep_3 : Stmt := topS 40
abbrev st_step_of : Stmt := topS 28
abbrev st_steps : Stmt := topS 29
abbrev st_are_corners : Stmt := topS 21
abbrev st_Shape_init : Stmt := inClass (topS 22) 0
abbrev st_law_turn : Stmt := topS 36
abbrev st_law_hull_3 : Stmt := topS 37
abbrev st_law_is_dot : Stmt := topS 41
abbrev st_law_are_corners : Stmt := topS 42
abbrev st_law_bent_4 : Stmt := topS 43
abbrev st_law_corners_3 : Stmt := topS 38
abbrev st_law_hand_2 : Stmt := topS 33
abbrev st_law_k05 : Stmt := topS 44
/-- classes, code tables -/
def ctA (K : PySem.W.Frag) : ClsT := fun n => match n with
  | 0 => He.ga K (PySem.Str.ofString "Shape")
  | 1 => He.ga K (PySem.Str.ofString "RawShape")
  | 1000 => He.tabOf K (He.codeOf K ((PySem.Str.ofString "law"), none))
  | _ => 0
def xtA (K : PySem.W.Frag) : ExT := fun n => match n with
  | 0 => (He.ga K (PySem.Str.ofString "DotError"), none)
  | 1 => (He.ga K (PySem.Str.ofString "BadShape"), none)
  | 2 => (He.ga K (PySem.Str.ofString "NoDots"), none)
  | 3 => (He.ga K (PySem.Str.ofString "NoDot"), none)
  | 4 => (He.ga K (PySem.Str.ofString "NoSteps"), none)
  | _ => (0, none)
/-! ### what the head tells -/
def exAll : List (PySem.W.Frag → Bool) := [
  fun K => supB0 PP K (He.ga K (PySem.Str.ofString "NoSteps")),
  fun K => supB0 PP K (He.ga K (PySem.Str.ofString "NoDots")),
  fun K => supB0 PP K (He.ga K (PySem.Str.ofString "NoDot")),
  fun K => supB0 PP K (He.ga K (PySem.Str.ofString "BadShape")),
  fun K => (il_BadShape_k05.all fun q => decide ((xtA K q.1).2 = none) && excCB K (xtA K q.1).1 && decide (PySem.W.kitOne K (.ref (xtA K q.1).1) (.ref (He.ga K (PySem.Str.ofString "BadShape"))) = some q.2)),
  fun K => (il_BadShape_k05.all fun q => decide (PySem.W.exmOne K (.ref (xtA K q.1).1) (.ref (He.ga K (PySem.Str.ofString "BadShape"))) = some q.2)),
  fun K => (il_DotError_k05.all fun q => decide ((xtA K q.1).2 = none) && excCB K (xtA K q.1).1 && decide (PySem.W.kitOne K (.ref (xtA K q.1).1) (.ref (He.ga K (PySem.Str.ofString "DotError"))) = some q.2)),
  fun K => (il_DotError_k05.all fun q => decide (PySem.W.exmOne K (.ref (xtA K q.1).1) (.ref (He.ga K (PySem.Str.ofString "DotError"))) = some q.2)),
  fun K => (il_NoDot_k05.all fun q => decide ((xtA K q.1).2 = none) && excCB K (xtA K q.1).1 && decide (PySem.W.kitOne K (.ref (xtA K q.1).1) (.ref (He.ga K (PySem.Str.ofString "NoDot"))) = some q.2)),
  fun K => (il_NoDot_k05.all fun q => decide (PySem.W.exmOne K (.ref (xtA K q.1).1) (.ref (He.ga K (PySem.Str.ofString "NoDot"))) = some q.2)),
  fun K => (il_NoDots_k05.all fun q => decide ((xtA K q.1).2 = none) && excCB K (xtA K q.1).1 && decide (PySem.W.kitOne K (.ref (xtA K q.1).1) (.ref (He.ga K (PySem.Str.ofString "NoDots"))) = some q.2)),
  fun K => (il_NoDots_k05.all fun q => decide (PySem.W.exmOne K (.ref (xtA K q.1).1) (.ref (He.ga K (PySem.Str.ofString "NoDots"))) = some q.2)),
  fun K => (il_NoSteps_k05.all fun q => decide ((xtA K q.1).2 = none) && excCB K (xtA K q.1).1 && decide (PySem.W.kitOne K (.ref (xtA K q.1).1) (.ref (He.ga K (PySem.Str.ofString "NoSteps"))) = some q.2)),
  fun K => (il_NoSteps_k05.all fun q => decide (PySem.W.exmOne K (.ref (xtA K q.1).1) (.ref (He.ga K (PySem.Str.ofString "NoSteps"))) = some q.2)),
  fun K => (il_ValueError_k05.all fun q => decide ((xtA K q.1).2 = none) && excCB K (xtA K q.1).1 && decide (PySem.W.kitOne K (.ref (xtA K q.1).1) (.type "ValueError") = some q.2))]
def ex (K : PySem.W.Frag) : Bool := exAll.all fun e => e K
def fn : List He.DefD := [
  mkD ((PySem.Str.ofString "_law_word"), none) (PySem.Str.ofString "_law_word") (PySem.Str.ofString "_law_word") st_law_word_5,
  mkD ((PySem.Str.ofString "RawShape"), some (PySem.Str.ofString "__init__")) (PySem.Str.ofString "__init__") (PySem.Str.ofString "RawShape.__init__") st_RawShape_init,
  mkD ((PySem.Str.ofString "turn_of"), none) (PySem.Str.ofString "turn_of") (PySem.Str.ofString "turn_of") st_turn_of,
  mkD ((PySem.Str.ofString "half_hull"), none) (PySem.Str.ofString "half_hull") (PySem.Str.ofString "half_hull") st_half_hull,
  mkD ((PySem.Str.ofString "hull_of"), none) (PySem.Str.ofString "hull_of") (PySem.Str.ofString "hull_of") st_hull_of,
  mkD ((PySem.Str.ofString "common"), none) (PySem.Str.ofString "common") (PySem.Str.ofString "common") st_common,
  mkD ((PySem.Str.ofString "is_integer"), none) (PySem.Str.ofString "is_integer") (PySem.Str.ofString "is_integer") st_is_integer,
  mkD ((PySem.Str.ofString "is_number"), none) (PySem.Str.ofString "is_number") (PySem.Str.ofString "is_number") st_is_number,
  mkD ((PySem.Str.ofString "is_tuple"), none) (PySem.Str.ofString "is_tuple") (PySem.Str.ofString "is_tuple") st_is_tuple,
  mkD ((PySem.Str.ofString "is_step_pair"), none) (PySem.Str.ofString "is_step_pair") (PySem.Str.ofString "is_step_pair") st_is_step_pair,
  mkD ((PySem.Str.ofString "of_steps"), none) (PySem.Str.ofString "of_steps") (PySem.Str.ofString "of_steps") st_of_steps,
  mkD ((PySem.Str.ofString "is_within"), none) (PySem.Str.ofString "is_within") (PySem.Str.ofString "is_within") st_is_within,
  mkD ((PySem.Str.ofString "is_dot"), none) (PySem.Str.ofString "is_dot") (PySem.Str.ofString "is_dot") st_is_dot,
  mkD ((PySem.Str.ofString "hull"), none) (PySem.Str.ofString "hull") (PySem.Str.ofString "hull") st_hull,
  mkD ((PySem.Str.ofString "sides_of"), none) (PySem.Str.ofString "sides_of") (PySem.Str.ofString "sides_of") st_sides_of,
  mkD ((PySem.Str.ofString "place"), none) (PySem.Str.ofString "place") (PySem.Str.ofString "place") st_place,
  mkD ((PySem.Str.ofString "holds"), none) (PySem.Str.ofString "holds") (PySem.Str.ofString "holds") st_holds,
  mkD ((PySem.Str.ofString "_law_draw"), none) (PySem.Str.ofString "_law_draw") (PySem.Str.ofString "_law_draw") st_law_draw_3,
  mkD ((PySem.Str.ofString "_law_any"), none) (PySem.Str.ofString "_law_any") (PySem.Str.ofString "_law_any") st_law_any_2,
  mkD ((PySem.Str.ofString "_law_deep"), none) (PySem.Str.ofString "_law_deep") (PySem.Str.ofString "_law_deep") st_law_deep_3,
  mkD ((PySem.Str.ofString "step_of"), none) (PySem.Str.ofString "step_of") (PySem.Str.ofString "step_of") st_step_of,
  mkD ((PySem.Str.ofString "steps"), none) (PySem.Str.ofString "steps") (PySem.Str.ofString "steps") st_steps,
  mkD ((PySem.Str.ofString "are_corners"), none) (PySem.Str.ofString "are_corners") (PySem.Str.ofString "are_corners") st_are_corners,
  mkD ((PySem.Str.ofString "Shape"), some (PySem.Str.ofString "__init__")) (PySem.Str.ofString "__init__") (PySem.Str.ofString "Shape.__init__") st_Shape_init,
  mkD ((PySem.Str.ofString "_law_turn"), none) (PySem.Str.ofString "_law_turn") (PySem.Str.ofString "_law_turn") st_law_turn,
  mkD ((PySem.Str.ofString "_law_hull"), none) (PySem.Str.ofString "_law_hull") (PySem.Str.ofString "_law_hull") st_law_hull_3,
  mkD ((PySem.Str.ofString "_law_is_dot"), none) (PySem.Str.ofString "_law_is_dot") (PySem.Str.ofString "_law_is_dot") st_law_is_dot,
  mkD ((PySem.Str.ofString "_law_are_corners"), none) (PySem.Str.ofString "_law_are_corners") (PySem.Str.ofString "_law_are_corners") st_law_are_corners,
  mkD ((PySem.Str.ofString "_law_bent"), none) (PySem.Str.ofString "_law_bent") (PySem.Str.ofString "_law_bent") st_law_bent_4,
  mkD ((PySem.Str.ofString "_law_corners"), none) (PySem.Str.ofString "_law_corners") (PySem.Str.ofString "_law_corners") st_law_corners_3,
  mkD ((PySem.Str.ofString "_law_hand"), none) (PySem.Str.ofString "_law_hand") (PySem.Str.ofString "_law_hand") st_law_hand_2,
  mkD ((PySem.Str.ofString "law"), none) (PySem.Str.ofString "law") (PySem.Str.ofString "law") st_law_k05]
def fa : List He.Fa := [.glo (PySem.Str.ofString "_law_word"), .glo (PySem.Str.ofString "turn_of"), .glo (PySem.Str.ofString "half_hull"), .glo (PySem.Str.ofString "hull_of"), .glo (PySem.Str.ofString "common"), .glo (PySem.Str.ofString "is_integer"), .glo (PySem.Str.ofString "is_number"), .glo (PySem.Str.ofString "is_tuple"), .glo (PySem.Str.ofString "is_step_pair"), .glo (PySem.Str.ofString "of_steps"), .glo (PySem.Str.ofString "is_within"), .glo (PySem.Str.ofString "is_dot"), .glo (PySem.Str.ofString "hull"), .glo (PySem.Str.ofString "sides_of"), .glo (PySem.Str.ofString "place"), .glo (PySem.Str.ofString "holds"), .glo (PySem.Str.ofString "_law_draw"), .glo (PySem.Str.ofString "_law_any"), .glo (PySem.Str.ofString "_law_deep"), .glo (PySem.Str.ofString "step_of"), .glo (PySem.Str.ofString "steps"), .glo (PySem.Str.ofString "are_corners"), .glo (PySem.Str.ofString "_law_turn"), .glo (PySem.Str.ofString "_law_hull"), .glo (PySem.Str.ofString "_law_is_dot"), .glo (PySem.Str.ofString "_law_are_corners"), .glo (PySem.Str.ofString "_law_bent"), .glo (PySem.Str.ofString "_law_corners"), .glo (PySem.Str.ofString "_law_hand"), .glo (PySem.Str.ofString "law"), .free (PySem.Str.ofString "ValueError"), .free (PySem.Str.ofString "abs"), .free (PySem.Str.ofString "all"), .free (PySem.Str.ofString "bool"), .free (PySem.Str.ofString "int"), .free (PySem.Str.ofString "isinstance"), .free (PySem.Str.ofString "len"), .free (PySem.Str.ofString "list"), .free (PySem.Str.ofString "max"), .free (PySem.Str.ofString "min"), .free (PySem.Str.ofString "range"), .free (PySem.Str.ofString "set"), .free (PySem.Str.ofString "sorted"), .free (PySem.Str.ofString "tuple"), .free (PySem.Str.ofString "zip"), .int (PySem.Str.ofString "FARTHEST") 100, .int (PySem.Str.ofString "FARTHEST_STEPS") 200, .int (PySem.Str.ofString "MOST_CORNERS") 12, .int (PySem.Str.ofString "MOST_DOTS") 30, .glo (PySem.Str.ofString "BadShape"), .glo (PySem.Str.ofString "DotError"), .glo (PySem.Str.ofString "NoDot"), .glo (PySem.Str.ofString "NoDots"), .glo (PySem.Str.ofString "NoSteps"), .glo (PySem.Str.ofString "RawShape"), .glo (PySem.Str.ofString "Shape"), .mkr (PySem.Str.ofString "RawShape"), .mkr (PySem.Str.ofString "Shape"), .cls (PySem.Str.ofString "Shape"), .noat (PySem.Str.ofString "Shape") (PySem.Str.ofString "corners"), .cls (PySem.Str.ofString "RawShape"), .noat (PySem.Str.ofString "RawShape") (PySem.Str.ofString "corners"), .noat (PySem.Str.ofString "Shape") (PySem.Str.ofString "looked"), .noat (PySem.Str.ofString "RawShape") (PySem.Str.ofString "looked")]
structure Txt (K : PySem.W.Frag) (mg : Str → Option Value) : Prop where
  h : ∃ h : Heap, K.In h ∧ h.Ns mainGlobals mg
  d : He.SaysD fa fn K
  e : ex K = true
section
variable {w : World} {K : PySem.W.Frag} {mg : Str → Option Value} {base : Heap} (T : Txt K mg)
include T
theorem Txt.glo (i : Nat) {x : Str} (e : fa[i]? = some (.glo x)) : mg x = some (.ref (He.ga K x)) := by
  obtain ⟨h, X, G⟩ := T.h
  exact He.glo_ok X G (T.d.fact i e)
theorem Txt.free (i : Nat) {x : Str} (e : fa[i]? = some (.free x)) : mg x = none := by
  obtain ⟨h, X, G⟩ := T.h
  exact He.free_ok X G (T.d.fact i e)
theorem Txt.tk (i : Nat) {x : Str} {j : Int} (e : fa[i]? = some (.int x j)) : ∃ t, mg x = some (.int j t) := by
  obtain ⟨h, X, G⟩ := T.h
  exact He.int_ok X G (T.d.fact i e)
noncomputable def Txt.tok (i : Nat) (x : Str) (j : Int) (e : fa[i]? = some (.int x j)) : Tok := (T.tk i e).choose
theorem Txt.tok_ok (i : Nat) {x : Str} {j : Int} (e : fa[i]? = some (.int x j)) : mg x = some (.int j (T.tok i x j e)) := (T.tk i e).choose_spec
theorem Txt.exs (i : Nat) {f : PySem.W.Frag → Bool} (e : exAll[i]? = some f) : f K = true := List.all_eq_true.mp T.e f (List.mem_of_getElem? e)
theorem Txt.m_law_word_5 : mg (PySem.Str.ofString "_law_word") = some (.ref (He.ga K (PySem.Str.ofString "_law_word"))) := T.glo 0 rfl
theorem Txt.m_turn_of : mg (PySem.Str.ofString "turn_of") = some (.ref (He.ga K (PySem.Str.ofString "turn_of"))) := T.glo 1 rfl
theorem Txt.m_half_hull : mg (PySem.Str.ofString "half_hull") = some (.ref (He.ga K (PySem.Str.ofString "half_hull"))) := T.glo 2 rfl
theorem Txt.m_hull_of : mg (PySem.Str.ofString "hull_of") = some (.ref (He.ga K (PySem.Str.ofString "hull_of"))) := T.glo 3 rfl
theorem Txt.m_common : mg (PySem.Str.ofString "common") = some (.ref (He.ga K (PySem.Str.ofString "common"))) := T.glo 4 rfl
theorem Txt.m_is_integer : mg (PySem.Str.ofString "is_integer") = some (.ref (He.ga K (PySem.Str.ofString "is_integer"))) := T.glo 5 rfl
theorem Txt.m_is_number : mg (PySem.Str.ofString "is_number") = some (.ref (He.ga K (PySem.Str.ofString "is_number"))) := T.glo 6 rfl
theorem Txt.m_is_tuple : mg (PySem.Str.ofString "is_tuple") = some (.ref (He.ga K (PySem.Str.ofString "is_tuple"))) := T.glo 7 rfl
theorem Txt.m_is_step_pair : mg (PySem.Str.ofString "is_step_pair") = some (.ref (He.ga K (PySem.Str.ofString "is_step_pair"))) := T.glo 8 rfl
theorem Txt.m_of_steps : mg (PySem.Str.ofString "of_steps") = some (.ref (He.ga K (PySem.Str.ofString "of_steps"))) := T.glo 9 rfl
theorem Txt.m_is_within : mg (PySem.Str.ofString "is_within") = some (.ref (He.ga K (PySem.Str.ofString "is_within"))) := T.glo 10 rfl
theorem Txt.m_is_dot : mg (PySem.Str.ofString "is_dot") = some (.ref (He.ga K (PySem.Str.ofString "is_dot"))) := T.glo 11 rfl
theorem Txt.m_hull : mg (PySem.Str.ofString "hull") = some (.ref (He.ga K (PySem.Str.ofString "hull"))) := T.glo 12 rfl
theorem Txt.m_sides_of : mg (PySem.Str.ofString "sides_of") = some (.ref (He.ga K (PySem.Str.ofString "sides_of"))) := T.glo 13 rfl
theorem Txt.m_place : mg (PySem.Str.ofString "place") = some (.ref (He.ga K (PySem.Str.ofString "place"))) := T.glo 14 rfl
theorem Txt.m_holds : mg (PySem.Str.ofString "holds") = some (.ref (He.ga K (PySem.Str.ofString "holds"))) := T.glo 15 rfl
theorem Txt.m_law_draw_3 : mg (PySem.Str.ofString "_law_draw") = some (.ref (He.ga K (PySem.Str.ofString "_law_draw"))) := T.glo 16 rfl
theorem Txt.m_law_any_2 : mg (PySem.Str.ofString "_law_any") = some (.ref (He.ga K (PySem.Str.ofString "_law_any"))) := T.glo 17 rfl
theorem Txt.m_law_deep_3 : mg (PySem.Str.ofString "_law_deep") = some (.ref (He.ga K (PySem.Str.ofString "_law_deep"))) := T.glo 18 rfl
theorem Txt.m_step_of : mg (PySem.Str.ofString "step_of") = some (.ref (He.ga K (PySem.Str.ofString "step_of"))) := T.glo 19 rfl
theorem Txt.m_steps : mg (PySem.Str.ofString "steps") = some (.ref (He.ga K (PySem.Str.ofString "steps"))) := T.glo 20 rfl
theorem Txt.m_are_corners : mg (PySem.Str.ofString "are_corners") = some (.ref (He.ga K (PySem.Str.ofString "are_corners"))) := T.glo 21 rfl
theorem Txt.m_law_turn : mg (PySem.Str.ofString "_law_turn") = some (.ref (He.ga K (PySem.Str.ofString "_law_turn"))) := T.glo 22 rfl
theorem Txt.m_law_hull_3 : mg (PySem.Str.ofString "_law_hull") = some (.ref (He.ga K (PySem.Str.ofString "_law_hull"))) := T.glo 23 rfl
theorem Txt.m_law_is_dot : mg (PySem.Str.ofString "_law_is_dot") = some (.ref (He.ga K (PySem.Str.ofString "_law_is_dot"))) := T.glo 24 rfl
theorem Txt.m_law_are_corners : mg (PySem.Str.ofString "_law_are_corners") = some (.ref (He.ga K (PySem.Str.ofString "_law_are_corners"))) := T.glo 25 rfl
theorem Txt.m_law_bent_4 : mg (PySem.Str.ofString "_law_bent") = some (.ref (He.ga K (PySem.Str.ofString "_law_bent"))) := T.glo 26 rfl
theorem Txt.m_law_corners_3 : mg (PySem.Str.ofString "_law_corners") = some (.ref (He.ga K (PySem.Str.ofString "_law_corners"))) := T.glo 27 rfl
theorem Txt.m_law_hand_2 : mg (PySem.Str.ofString "_law_hand") = some (.ref (He.ga K (PySem.Str.ofString "_law_hand"))) := T.glo 28 rfl
theorem Txt.m_law_k05 : mg (PySem.Str.ofString "law") = some (.ref (He.ga K (PySem.Str.ofString "law"))) := T.glo 29 rfl
theorem Txt.n_ValueError : mg (PySem.Str.ofString "ValueError") = none := T.free 30 rfl
theorem Txt.n_abs : mg (PySem.Str.ofString "abs") = none := T.free 31 rfl
theorem Txt.n_all : mg (PySem.Str.ofString "all") = none := T.free 32 rfl
theorem Txt.n_bool : mg (PySem.Str.ofString "bool") = none := T.free 33 rfl
theorem Txt.n_int : mg (PySem.Str.ofString "int") = none := T.free 34 rfl
theorem Txt.n_isinstance : mg (PySem.Str.ofString "isinstance") = none := T.free 35 rfl
theorem Txt.n_len : mg (PySem.Str.ofString "len") = none := T.free 36 rfl
theorem Txt.n_list : mg (PySem.Str.ofString "list") = none := T.free 37 rfl
theorem Txt.n_max : mg (PySem.Str.ofString "max") = none := T.free 38 rfl
theorem Txt.n_min : mg (PySem.Str.ofString "min") = none := T.free 39 rfl
theorem Txt.n_range : mg (PySem.Str.ofString "range") = none := T.free 40 rfl
theorem Txt.n_set : mg (PySem.Str.ofString "set") = none := T.free 41 rfl
theorem Txt.n_sorted : mg (PySem.Str.ofString "sorted") = none := T.free 42 rfl
theorem Txt.n_tuple : mg (PySem.Str.ofString "tuple") = none := T.free 43 rfl
theorem Txt.n_zip : mg (PySem.Str.ofString "zip") = none := T.free 44 rfl
theorem Txt.g_FARTHEST : mg (PySem.Str.ofString "FARTHEST") = some (.int 100 (T.tok 45 (PySem.Str.ofString "FARTHEST") 100 rfl)) := T.tok_ok 45 rfl
theorem Txt.g_FARTHEST_STEPS : mg (PySem.Str.ofString "FARTHEST_STEPS") = some (.int 200 (T.tok 46 (PySem.Str.ofString "FARTHEST_STEPS") 200 rfl)) := T.tok_ok 46 rfl
theorem Txt.g_MOST_CORNERS : mg (PySem.Str.ofString "MOST_CORNERS") = some (.int 12 (T.tok 47 (PySem.Str.ofString "MOST_CORNERS") 12 rfl)) := T.tok_ok 47 rfl
theorem Txt.g_MOST_DOTS : mg (PySem.Str.ofString "MOST_DOTS") = some (.int 30 (T.tok 48 (PySem.Str.ofString "MOST_DOTS") 30 rfl)) := T.tok_ok 48 rfl
theorem Txt.m_BadShape : mg (PySem.Str.ofString "BadShape") = some (.ref (He.ga K (PySem.Str.ofString "BadShape"))) := T.glo 49 rfl
theorem Txt.m_DotError : mg (PySem.Str.ofString "DotError") = some (.ref (He.ga K (PySem.Str.ofString "DotError"))) := T.glo 50 rfl
theorem Txt.m_NoDot : mg (PySem.Str.ofString "NoDot") = some (.ref (He.ga K (PySem.Str.ofString "NoDot"))) := T.glo 51 rfl
theorem Txt.m_NoDots : mg (PySem.Str.ofString "NoDots") = some (.ref (He.ga K (PySem.Str.ofString "NoDots"))) := T.glo 52 rfl
theorem Txt.m_NoSteps : mg (PySem.Str.ofString "NoSteps") = some (.ref (He.ga K (PySem.Str.ofString "NoSteps"))) := T.glo 53 rfl
theorem Txt.m_RawShape : mg (PySem.Str.ofString "RawShape") = some (.ref (He.ga K (PySem.Str.ofString "RawShape"))) := T.glo 54 rfl
theorem Txt.m_Shape : mg (PySem.Str.ofString "Shape") = some (.ref (He.ga K (PySem.Str.ofString "Shape"))) := T.glo 55 rfl
theorem Txt.mk_RawShape : Mk K (He.ga K (PySem.Str.ofString "RawShape")) (He.fAd K ((PySem.Str.ofString "RawShape"), some (PySem.Str.ofString "__init__"))) := He.mkr_ok (T.d.fact 56)
theorem Txt.mk_Shape : Mk K (He.ga K (PySem.Str.ofString "Shape")) (He.fAd K ((PySem.Str.ofString "Shape"), some (PySem.Str.ofString "__init__"))) := He.mkr_ok (T.d.fact 57)
theorem Txt.fl_corners : ∀ c, (c == 0 || c == 1) = true → Cls K (ctA K c) ∧ NoAttr K (ctA K c) (PySem.Str.ofString "corners") := fun c h => by
  simp only [Bool.or_eq_true, beq_iff_eq] at h
  rcases h with rfl | rfl
  · exact ⟨He.cls_ok (T.d.fact 58), He.noat_ok (T.d.fact 59)⟩
  · exact ⟨He.cls_ok (T.d.fact 60), He.noat_ok (T.d.fact 61)⟩

theorem Txt.fl_looked : ∀ c, (c == 0 || c == 1) = true → Cls K (ctA K c) ∧ NoAttr K (ctA K c) (PySem.Str.ofString "looked") := fun c h => by
  simp only [Bool.or_eq_true, beq_iff_eq] at h
  rcases h with rfl | rfl
  · exact ⟨He.cls_ok (T.d.fact 58), He.noat_ok (T.d.fact 62)⟩
  · exact ⟨He.cls_ok (T.d.fact 60), He.noat_ok (T.d.fact 63)⟩

theorem Txt.sup_NoSteps : supB0 PP K (He.ga K (PySem.Str.ofString "NoSteps")) = true := T.exs 0 rfl
theorem Txt.sup_NoDots : supB0 PP K (He.ga K (PySem.Str.ofString "NoDots")) = true := T.exs 1 rfl
theorem Txt.sup_NoDot : supB0 PP K (He.ga K (PySem.Str.ofString "NoDot")) = true := T.exs 2 rfl
theorem Txt.sup_BadShape : supB0 PP K (He.ga K (PySem.Str.ofString "BadShape")) = true := T.exs 3 rfl
theorem Txt.isB_BadShape : (il_BadShape_k05.all fun q => decide ((xtA K q.1).2 = none) && excCB K (xtA K q.1).1 && decide (PySem.W.kitOne K (.ref (xtA K q.1).1) (.ref (He.ga K (PySem.Str.ofString "BadShape"))) = some q.2)) = true := T.exs 4 rfl
theorem Txt.exB_DotError : (il_DotError_k05.all fun q => decide (PySem.W.exmOne K (.ref (xtA K q.1).1) (.ref (He.ga K (PySem.Str.ofString "DotError"))) = some q.2)) = true := T.exs 7 rfl
theorem Txt.isB_NoDot : (il_NoDot_k05.all fun q => decide ((xtA K q.1).2 = none) && excCB K (xtA K q.1).1 && decide (PySem.W.kitOne K (.ref (xtA K q.1).1) (.ref (He.ga K (PySem.Str.ofString "NoDot"))) = some q.2)) = true := T.exs 8 rfl
theorem Txt.isB_NoDots : (il_NoDots_k05.all fun q => decide ((xtA K q.1).2 = none) && excCB K (xtA K q.1).1 && decide (PySem.W.kitOne K (.ref (xtA K q.1).1) (.ref (He.ga K (PySem.Str.ofString "NoDots"))) = some q.2)) = true := T.exs 10 rfl
theorem Txt.isB_NoSteps : (il_NoSteps_k05.all fun q => decide ((xtA K q.1).2 = none) && excCB K (xtA K q.1).1 && decide (PySem.W.kitOne K (.ref (xtA K q.1).1) (.ref (He.ga K (PySem.Str.ofString "NoSteps"))) = some q.2)) = true := T.exs 12 rfl
theorem Txt.isB_ValueError : (il_ValueError_k05.all fun q => decide ((xtA K q.1).2 = none) && excCB K (xtA K q.1).1 && decide (PySem.W.kitOne K (.ref (xtA K q.1).1) (.type "ValueError") = some q.2)) = true := T.exs 14 rfl
theorem Txt.isE_BadShape : ∀ c b, is_BadShape_k05 c = some b → (xtA K c).2 = none ∧ ExcC K (xtA K c).1 ∧ PySem.W.kitOne K (.ref (xtA K c).1) (.ref (He.ga K (PySem.Str.ofString "BadShape"))) = some b := fun c b e => by
  have z := tab_all (p := fun c b => decide ((xtA K c).2 = none) && excCB K (xtA K c).1 && decide (PySem.W.kitOne K (.ref (xtA K c).1) (.ref (He.ga K (PySem.Str.ofString "BadShape"))) = some b)) T.isB_BadShape e
  simp only [Bool.and_eq_true, decide_eq_true_eq] at z
  exact ⟨z.1.1, excCB_ok z.1.2, z.2⟩
theorem Txt.exm_DotError : ∀ c b, is_DotError_k05 c = some b → PySem.W.exmOne K (.ref (xtA K c).1) (.ref (He.ga K (PySem.Str.ofString "DotError"))) = some b := fun c b e => of_decide_eq_true (tab_all (p := fun c b => decide (PySem.W.exmOne K (.ref (xtA K c).1) (.ref (He.ga K (PySem.Str.ofString "DotError"))) = some b)) T.exB_DotError e)
theorem Txt.isE_NoDot : ∀ c b, is_NoDot_k05 c = some b → (xtA K c).2 = none ∧ ExcC K (xtA K c).1 ∧ PySem.W.kitOne K (.ref (xtA K c).1) (.ref (He.ga K (PySem.Str.ofString "NoDot"))) = some b := fun c b e => by
  have z := tab_all (p := fun c b => decide ((xtA K c).2 = none) && excCB K (xtA K c).1 && decide (PySem.W.kitOne K (.ref (xtA K c).1) (.ref (He.ga K (PySem.Str.ofString "NoDot"))) = some b)) T.isB_NoDot e
  simp only [Bool.and_eq_true, decide_eq_true_eq] at z
  exact ⟨z.1.1, excCB_ok z.1.2, z.2⟩
theorem Txt.isE_NoDots : ∀ c b, is_NoDots_k05 c = some b → (xtA K c).2 = none ∧ ExcC K (xtA K c).1 ∧ PySem.W.kitOne K (.ref (xtA K c).1) (.ref (He.ga K (PySem.Str.ofString "NoDots"))) = some b := fun c b e => by
  have z := tab_all (p := fun c b => decide ((xtA K c).2 = none) && excCB K (xtA K c).1 && decide (PySem.W.kitOne K (.ref (xtA K c).1) (.ref (He.ga K (PySem.Str.ofString "NoDots"))) = some b)) T.isB_NoDots e
  simp only [Bool.and_eq_true, decide_eq_true_eq] at z
  exact ⟨z.1.1, excCB_ok z.1.2, z.2⟩
theorem Txt.isE_NoSteps : ∀ c b, is_NoSteps_k05 c = some b → (xtA K c).2 = none ∧ ExcC K (xtA K c).1 ∧ PySem.W.kitOne K (.ref (xtA K c).1) (.ref (He.ga K (PySem.Str.ofString "NoSteps"))) = some b := fun c b e => by
  have z := tab_all (p := fun c b => decide ((xtA K c).2 = none) && excCB K (xtA K c).1 && decide (PySem.W.kitOne K (.ref (xtA K c).1) (.ref (He.ga K (PySem.Str.ofString "NoSteps"))) = some b)) T.isB_NoSteps e
  simp only [Bool.and_eq_true, decide_eq_true_eq] at z
  exact ⟨z.1.1, excCB_ok z.1.2, z.2⟩
theorem Txt.isE_ValueError : ∀ c b, is_ValueError_k05 c = some b → (xtA K c).2 = none ∧ ExcC K (xtA K c).1 ∧ PySem.W.kitOne K (.ref (xtA K c).1) (.type "ValueError") = some b := fun c b e => by
  have z := tab_all (p := fun c b => decide ((xtA K c).2 = none) && excCB K (xtA K c).1 && decide (PySem.W.kitOne K (.ref (xtA K c).1) (.type "ValueError") = some b)) T.isB_ValueError e
  simp only [Bool.and_eq_true, decide_eq_true_eq] at z
  exact ⟨z.1.1, excCB_ok z.1.2, z.2⟩
theorem Txt.F_law_word_5 : DefOk K ((PySem.Str.ofString "_law_word"), none) (PySem.Str.ofString "_law_word") (PySem.Str.ofString "_law_word") st_law_word_5 := defOk T.d 0 rfl
theorem Txt.b_law_word_5 : L2.Binds K (fdAt K ((PySem.Str.ofString "_law_word"), none)) [(PySem.Str.ofString "call")] [] := T.F_law_word_5.fu.binds fun _ _ _ _ _ _ us hl => match us, hl with | [_], _ => rfl
theorem Txt.F_RawShape_init : DefOk K ((PySem.Str.ofString "RawShape"), some (PySem.Str.ofString "__init__")) (PySem.Str.ofString "__init__") (PySem.Str.ofString "RawShape.__init__") st_RawShape_init := defOk T.d 1 rfl
theorem Txt.b_RawShape_init : L2.Binds K (fdAt K ((PySem.Str.ofString "RawShape"), some (PySem.Str.ofString "__init__"))) [(PySem.Str.ofString "self"), (PySem.Str.ofString "corners")] [] := T.F_RawShape_init.fu.binds fun _ _ _ _ _ _ us hl => match us, hl with | [_, _], _ => rfl
theorem Txt.F_turn_of : DefOk K ((PySem.Str.ofString "turn_of"), none) (PySem.Str.ofString "turn_of") (PySem.Str.ofString "turn_of") st_turn_of := defOk T.d 2 rfl
theorem Txt.b_turn_of : L2.Binds K (fdAt K ((PySem.Str.ofString "turn_of"), none)) [(PySem.Str.ofString "a"), (PySem.Str.ofString "b"), (PySem.Str.ofString "c")] [] := T.F_turn_of.fu.binds fun _ _ _ _ _ _ us hl => match us, hl with | [_, _, _], _ => rfl
theorem Txt.F_half_hull : DefOk K ((PySem.Str.ofString "half_hull"), none) (PySem.Str.ofString "half_hull") (PySem.Str.ofString "half_hull") st_half_hull := defOk T.d 3 rfl
theorem Txt.b_half_hull : L2.Binds K (fdAt K ((PySem.Str.ofString "half_hull"), none)) [(PySem.Str.ofString "dots")] [] := T.F_half_hull.fu.binds fun _ _ _ _ _ _ us hl => match us, hl with | [_], _ => rfl
theorem Txt.F_hull_of : DefOk K ((PySem.Str.ofString "hull_of"), none) (PySem.Str.ofString "hull_of") (PySem.Str.ofString "hull_of") st_hull_of := defOk T.d 4 rfl
theorem Txt.b_hull_of : L2.Binds K (fdAt K ((PySem.Str.ofString "hull_of"), none)) [(PySem.Str.ofString "dots")] [] := T.F_hull_of.fu.binds fun _ _ _ _ _ _ us hl => match us, hl with | [_], _ => rfl
theorem Txt.F_common : DefOk K ((PySem.Str.ofString "common"), none) (PySem.Str.ofString "common") (PySem.Str.ofString "common") st_common := defOk T.d 5 rfl
theorem Txt.b_common : L2.Binds K (fdAt K ((PySem.Str.ofString "common"), none)) [(PySem.Str.ofString "one"), (PySem.Str.ofString "other")] [] := T.F_common.fu.binds fun _ _ _ _ _ _ us hl => match us, hl with | [_, _], _ => rfl
theorem Txt.F_is_integer : DefOk K ((PySem.Str.ofString "is_integer"), none) (PySem.Str.ofString "is_integer") (PySem.Str.ofString "is_integer") st_is_integer := defOk T.d 6 rfl
theorem Txt.b_is_integer : L2.Binds K (fdAt K ((PySem.Str.ofString "is_integer"), none)) [(PySem.Str.ofString "thing")] [] := T.F_is_integer.fu.binds fun _ _ _ _ _ _ us hl => match us, hl with | [_], _ => rfl
theorem Txt.F_is_number : DefOk K ((PySem.Str.ofString "is_number"), none) (PySem.Str.ofString "is_number") (PySem.Str.ofString "is_number") st_is_number := defOk T.d 7 rfl
theorem Txt.b_is_number : L2.Binds K (fdAt K ((PySem.Str.ofString "is_number"), none)) [(PySem.Str.ofString "thing")] [] := T.F_is_number.fu.binds fun _ _ _ _ _ _ us hl => match us, hl with | [_], _ => rfl
theorem Txt.F_is_tuple : DefOk K ((PySem.Str.ofString "is_tuple"), none) (PySem.Str.ofString "is_tuple") (PySem.Str.ofString "is_tuple") st_is_tuple := defOk T.d 8 rfl
theorem Txt.b_is_tuple : L2.Binds K (fdAt K ((PySem.Str.ofString "is_tuple"), none)) [(PySem.Str.ofString "thing"), (PySem.Str.ofString "least"), (PySem.Str.ofString "most")] [] := T.F_is_tuple.fu.binds fun _ _ _ _ _ _ us hl => match us, hl with | [_, _, _], _ => rfl
theorem Txt.F_is_step_pair : DefOk K ((PySem.Str.ofString "is_step_pair"), none) (PySem.Str.ofString "is_step_pair") (PySem.Str.ofString "is_step_pair") st_is_step_pair := defOk T.d 9 rfl
theorem Txt.b_is_step_pair : L2.Binds K (fdAt K ((PySem.Str.ofString "is_step_pair"), none)) [(PySem.Str.ofString "thing")] [] := T.F_is_step_pair.fu.binds fun _ _ _ _ _ _ us hl => match us, hl with | [_], _ => rfl
theorem Txt.F_of_steps : DefOk K ((PySem.Str.ofString "of_steps"), none) (PySem.Str.ofString "of_steps") (PySem.Str.ofString "of_steps") st_of_steps := defOk T.d 10 rfl
theorem Txt.b_of_steps : L2.Binds K (fdAt K ((PySem.Str.ofString "of_steps"), none)) [(PySem.Str.ofString "list_of")] [] := T.F_of_steps.fu.binds fun _ _ _ _ _ _ us hl => match us, hl with | [_], _ => rfl
theorem Txt.F_is_within : DefOk K ((PySem.Str.ofString "is_within"), none) (PySem.Str.ofString "is_within") (PySem.Str.ofString "is_within") st_is_within := defOk T.d 11 rfl
theorem Txt.b_is_within : L2.Binds K (fdAt K ((PySem.Str.ofString "is_within"), none)) [(PySem.Str.ofString "thing"), (PySem.Str.ofString "low"), (PySem.Str.ofString "high")] [] := T.F_is_within.fu.binds fun _ _ _ _ _ _ us hl => match us, hl with | [_, _, _], _ => rfl
theorem Txt.F_is_dot : DefOk K ((PySem.Str.ofString "is_dot"), none) (PySem.Str.ofString "is_dot") (PySem.Str.ofString "is_dot") st_is_dot := defOk T.d 12 rfl
theorem Txt.b_is_dot : L2.Binds K (fdAt K ((PySem.Str.ofString "is_dot"), none)) [(PySem.Str.ofString "thing")] [] := T.F_is_dot.fu.binds fun _ _ _ _ _ _ us hl => match us, hl with | [_], _ => rfl
theorem Txt.F_hull : DefOk K ((PySem.Str.ofString "hull"), none) (PySem.Str.ofString "hull") (PySem.Str.ofString "hull") st_hull := defOk T.d 13 rfl
theorem Txt.b_hull : L2.Binds K (fdAt K ((PySem.Str.ofString "hull"), none)) [(PySem.Str.ofString "dots")] [] := T.F_hull.fu.binds fun _ _ _ _ _ _ us hl => match us, hl with | [_], _ => rfl
theorem Txt.F_sides_of : DefOk K ((PySem.Str.ofString "sides_of"), none) (PySem.Str.ofString "sides_of") (PySem.Str.ofString "sides_of") st_sides_of := defOk T.d 14 rfl
theorem Txt.b_sides_of : L2.Binds K (fdAt K ((PySem.Str.ofString "sides_of"), none)) [(PySem.Str.ofString "corners")] [] := T.F_sides_of.fu.binds fun _ _ _ _ _ _ us hl => match us, hl with | [_], _ => rfl
theorem Txt.F_place : DefOk K ((PySem.Str.ofString "place"), none) (PySem.Str.ofString "place") (PySem.Str.ofString "place") st_place := defOk T.d 15 rfl
theorem Txt.b_place : L2.Binds K (fdAt K ((PySem.Str.ofString "place"), none)) [(PySem.Str.ofString "corners"), (PySem.Str.ofString "dot")] [] := T.F_place.fu.binds fun _ _ _ _ _ _ us hl => match us, hl with | [_, _], _ => rfl
theorem Txt.F_holds : DefOk K ((PySem.Str.ofString "holds"), none) (PySem.Str.ofString "holds") (PySem.Str.ofString "holds") st_holds := defOk T.d 16 rfl
theorem Txt.b_holds : L2.Binds K (fdAt K ((PySem.Str.ofString "holds"), none)) [(PySem.Str.ofString "shape"), (PySem.Str.ofString "dot")] [] := T.F_holds.fu.binds fun _ _ _ _ _ _ us hl => match us, hl with | [_, _], _ => rfl
theorem Txt.F_law_draw_3 : DefOk K ((PySem.Str.ofString "_law_draw"), none) (PySem.Str.ofString "_law_draw") (PySem.Str.ofString "_law_draw") st_law_draw_3 := defOk T.d 17 rfl
theorem Txt.b_law_draw_3 : L2.Binds K (fdAt K ((PySem.Str.ofString "_law_draw"), none)) [(PySem.Str.ofString "hand"), (PySem.Str.ofString "sides")] [] := T.F_law_draw_3.fu.binds fun _ _ _ _ _ _ us hl => match us, hl with | [_, _], _ => rfl
theorem Txt.F_law_any_2 : DefOk K ((PySem.Str.ofString "_law_any"), none) (PySem.Str.ofString "_law_any") (PySem.Str.ofString "_law_any") st_law_any_2 := defOk T.d 18 rfl
theorem Txt.b_law_any_2 : L2.Binds K (fdAt K ((PySem.Str.ofString "_law_any"), none)) [(PySem.Str.ofString "hand"), (PySem.Str.ofString "things")] [] := T.F_law_any_2.fu.binds fun _ _ _ _ _ _ us hl => match us, hl with | [_, _], _ => rfl
theorem Txt.F_law_deep_3 : DefOk K ((PySem.Str.ofString "_law_deep"), none) (PySem.Str.ofString "_law_deep") (PySem.Str.ofString "_law_deep") st_law_deep_3 := defOk T.d 19 rfl
theorem Txt.b_law_deep_3 : L2.Binds K (fdAt K ((PySem.Str.ofString "_law_deep"), none)) [(PySem.Str.ofString "hand")] [] := T.F_law_deep_3.fu.binds fun _ _ _ _ _ _ us hl => match us, hl with | [_], _ => rfl
theorem Txt.F_step_of : DefOk K ((PySem.Str.ofString "step_of"), none) (PySem.Str.ofString "step_of") (PySem.Str.ofString "step_of") st_step_of := defOk T.d 20 rfl
theorem Txt.b_step_of : L2.Binds K (fdAt K ((PySem.Str.ofString "step_of"), none)) [(PySem.Str.ofString "edge")] [] := T.F_step_of.fu.binds fun _ _ _ _ _ _ us hl => match us, hl with | [_], _ => rfl
theorem Txt.F_steps : DefOk K ((PySem.Str.ofString "steps"), none) (PySem.Str.ofString "steps") (PySem.Str.ofString "steps") st_steps := defOk T.d 21 rfl
theorem Txt.b_steps : L2.Binds K (fdAt K ((PySem.Str.ofString "steps"), none)) [(PySem.Str.ofString "shape")] [] := T.F_steps.fu.binds fun _ _ _ _ _ _ us hl => match us, hl with | [_], _ => rfl
theorem Txt.F_are_corners : DefOk K ((PySem.Str.ofString "are_corners"), none) (PySem.Str.ofString "are_corners") (PySem.Str.ofString "are_corners") st_are_corners := defOk T.d 22 rfl
theorem Txt.b_are_corners : L2.Binds K (fdAt K ((PySem.Str.ofString "are_corners"), none)) [(PySem.Str.ofString "thing")] [] := T.F_are_corners.fu.binds fun _ _ _ _ _ _ us hl => match us, hl with | [_], _ => rfl
theorem Txt.F_Shape_init : DefOk K ((PySem.Str.ofString "Shape"), some (PySem.Str.ofString "__init__")) (PySem.Str.ofString "__init__") (PySem.Str.ofString "Shape.__init__") st_Shape_init := defOk T.d 23 rfl
theorem Txt.b_Shape_init : L2.Binds K (fdAt K ((PySem.Str.ofString "Shape"), some (PySem.Str.ofString "__init__"))) [(PySem.Str.ofString "self"), (PySem.Str.ofString "corners")] [] := T.F_Shape_init.fu.binds fun _ _ _ _ _ _ us hl => match us, hl with | [_, _], _ => rfl
theorem Txt.F_law_turn : DefOk K ((PySem.Str.ofString "_law_turn"), none) (PySem.Str.ofString "_law_turn") (PySem.Str.ofString "_law_turn") st_law_turn := defOk T.d 24 rfl
theorem Txt.b_law_turn : L2.Binds K (fdAt K ((PySem.Str.ofString "_law_turn"), none)) [(PySem.Str.ofString "a"), (PySem.Str.ofString "b"), (PySem.Str.ofString "c")] [] := T.F_law_turn.fu.binds fun _ _ _ _ _ _ us hl => match us, hl with | [_, _, _], _ => rfl
theorem Txt.F_law_hull_3 : DefOk K ((PySem.Str.ofString "_law_hull"), none) (PySem.Str.ofString "_law_hull") (PySem.Str.ofString "_law_hull") st_law_hull_3 := defOk T.d 25 rfl
theorem Txt.b_law_hull_3 : L2.Binds K (fdAt K ((PySem.Str.ofString "_law_hull"), none)) [(PySem.Str.ofString "dots")] [] := T.F_law_hull_3.fu.binds fun _ _ _ _ _ _ us hl => match us, hl with | [_], _ => rfl
theorem Txt.F_law_is_dot : DefOk K ((PySem.Str.ofString "_law_is_dot"), none) (PySem.Str.ofString "_law_is_dot") (PySem.Str.ofString "_law_is_dot") st_law_is_dot := defOk T.d 26 rfl
theorem Txt.b_law_is_dot : L2.Binds K (fdAt K ((PySem.Str.ofString "_law_is_dot"), none)) [(PySem.Str.ofString "thing")] [] := T.F_law_is_dot.fu.binds fun _ _ _ _ _ _ us hl => match us, hl with | [_], _ => rfl
theorem Txt.F_law_are_corners : DefOk K ((PySem.Str.ofString "_law_are_corners"), none) (PySem.Str.ofString "_law_are_corners") (PySem.Str.ofString "_law_are_corners") st_law_are_corners := defOk T.d 27 rfl
theorem Txt.b_law_are_corners : L2.Binds K (fdAt K ((PySem.Str.ofString "_law_are_corners"), none)) [(PySem.Str.ofString "thing")] [] := T.F_law_are_corners.fu.binds fun _ _ _ _ _ _ us hl => match us, hl with | [_], _ => rfl
theorem Txt.F_law_bent_4 : DefOk K ((PySem.Str.ofString "_law_bent"), none) (PySem.Str.ofString "_law_bent") (PySem.Str.ofString "_law_bent") st_law_bent_4 := defOk T.d 28 rfl
theorem Txt.b_law_bent_4 : L2.Binds K (fdAt K ((PySem.Str.ofString "_law_bent"), none)) [(PySem.Str.ofString "hand"), (PySem.Str.ofString "corners")] [] := T.F_law_bent_4.fu.binds fun _ _ _ _ _ _ us hl => match us, hl with | [_, _], _ => rfl
theorem Txt.F_law_corners_3 : DefOk K ((PySem.Str.ofString "_law_corners"), none) (PySem.Str.ofString "_law_corners") (PySem.Str.ofString "_law_corners") st_law_corners_3 := defOk T.d 29 rfl
theorem Txt.b_law_corners_3 : L2.Binds K (fdAt K ((PySem.Str.ofString "_law_corners"), none)) [(PySem.Str.ofString "hand"), (PySem.Str.ofString "wide")] [] := T.F_law_corners_3.fu.binds fun _ _ _ _ _ _ us hl => match us, hl with | [_, _], _ => rfl
theorem Txt.F_law_hand_2 : DefOk K ((PySem.Str.ofString "_law_hand"), none) (PySem.Str.ofString "_law_hand") (PySem.Str.ofString "_law_hand") st_law_hand_2 := defOk T.d 30 rfl
theorem Txt.b_law_hand_2 : L2.Binds K (fdAt K ((PySem.Str.ofString "_law_hand"), none)) [(PySem.Str.ofString "script")] [] := T.F_law_hand_2.fu.binds fun _ _ _ _ _ _ us hl => match us, hl with | [_], _ => rfl
theorem Txt.F_law_k05 : DefOk K ((PySem.Str.ofString "law"), none) (PySem.Str.ofString "law") (PySem.Str.ofString "law") st_law_k05 := defOk T.d 31 rfl
theorem Txt.b_law_k05 : L2.Binds K (fdAt K ((PySem.Str.ofString "law"), none)) [(PySem.Str.ofString "script")] [] := T.F_law_k05.fu.binds fun _ _ _ _ _ _ us hl => match us, hl with | [_], _ => rfl
theorem Txt.hc : (fdAt K ((PySem.Str.ofString "law"), none)).code = .ref (He.codeOf K ((PySem.Str.ofString "law"), none)) := code_of T.F_law_k05
end
/-! ### each def keeps its mirror -/
theorem sc_law_word_5 : FnScope [(PySem.Str.ofString "call"), (PySem.Str.ofString "word"), (PySem.Str.ofString "e"), (PySem.Str.ofString "flags")] [(PySem.Str.ofString "call")] (defScope st_law_word_5) := ⟨rfl, rfl, rfl, by decide +kernel, rfl, by decide +kernel, by decide +kernel⟩
theorem sc_RawShape_init : FnScope [(PySem.Str.ofString "self"), (PySem.Str.ofString "corners")] [(PySem.Str.ofString "self"), (PySem.Str.ofString "corners")] (defScope st_RawShape_init) := ⟨rfl, rfl, rfl, by decide +kernel, rfl, by decide +kernel, by decide +kernel⟩
theorem sc_turn_of : FnScope [(PySem.Str.ofString "a"), (PySem.Str.ofString "b"), (PySem.Str.ofString "c")] [(PySem.Str.ofString "a"), (PySem.Str.ofString "b"), (PySem.Str.ofString "c")] (defScope st_turn_of) := ⟨rfl, rfl, rfl, by decide +kernel, rfl, by decide +kernel, by decide +kernel⟩
theorem sc_half_hull : FnScope [(PySem.Str.ofString "dots"), (PySem.Str.ofString "found"), (PySem.Str.ofString "dot")] [(PySem.Str.ofString "dots")] (defScope st_half_hull) := ⟨rfl, rfl, rfl, by decide +kernel, rfl, by decide +kernel, by decide +kernel⟩
theorem sc_hull_of : FnScope [(PySem.Str.ofString "dots"), (PySem.Str.ofString "some"), (PySem.Str.ofString "found")] [(PySem.Str.ofString "dots")] (defScope st_hull_of) := ⟨rfl, rfl, rfl, by decide +kernel, rfl, by decide +kernel, by decide +kernel⟩
theorem sc_common : FnScope [(PySem.Str.ofString "one"), (PySem.Str.ofString "other")] [(PySem.Str.ofString "one"), (PySem.Str.ofString "other")] (defScope st_common) := ⟨rfl, rfl, rfl, by decide +kernel, rfl, by decide +kernel, by decide +kernel⟩
theorem sc_is_integer : FnScope [(PySem.Str.ofString "thing")] [(PySem.Str.ofString "thing")] (defScope st_is_integer) := ⟨rfl, rfl, rfl, by decide +kernel, rfl, by decide +kernel, by decide +kernel⟩
theorem sc_is_number : FnScope [(PySem.Str.ofString "thing")] [(PySem.Str.ofString "thing")] (defScope st_is_number) := ⟨rfl, rfl, rfl, by decide +kernel, rfl, by decide +kernel, by decide +kernel⟩
theorem sc_is_tuple : FnScope [(PySem.Str.ofString "thing"), (PySem.Str.ofString "least"), (PySem.Str.ofString "most")] [(PySem.Str.ofString "thing"), (PySem.Str.ofString "least"), (PySem.Str.ofString "most")] (defScope st_is_tuple) := ⟨rfl, rfl, rfl, by decide +kernel, rfl, by decide +kernel, by decide +kernel⟩
theorem sc_is_step_pair : FnScope [(PySem.Str.ofString "thing"), (PySem.Str.ofString "one")] [(PySem.Str.ofString "thing")] (defScope st_is_step_pair) := ⟨rfl, rfl, rfl, by decide +kernel, rfl, by decide +kernel, by decide +kernel⟩
theorem sc_of_steps : FnScope [(PySem.Str.ofString "list_of"), (PySem.Str.ofString "pair"), (PySem.Str.ofString "found"), (PySem.Str.ofString "x"), (PySem.Str.ofString "y"), (PySem.Str.ofString "many"), (PySem.Str.ofString "corners")] [(PySem.Str.ofString "list_of")] (defScope st_of_steps) := ⟨rfl, rfl, rfl, by decide +kernel, rfl, by decide +kernel, by decide +kernel⟩
theorem sc_is_within : FnScope [(PySem.Str.ofString "thing"), (PySem.Str.ofString "low"), (PySem.Str.ofString "high")] [(PySem.Str.ofString "thing"), (PySem.Str.ofString "low"), (PySem.Str.ofString "high")] (defScope st_is_within) := ⟨rfl, rfl, rfl, by decide +kernel, rfl, by decide +kernel, by decide +kernel⟩
theorem sc_is_dot : FnScope [(PySem.Str.ofString "thing"), (PySem.Str.ofString "one")] [(PySem.Str.ofString "thing")] (defScope st_is_dot) := ⟨rfl, rfl, rfl, by decide +kernel, rfl, by decide +kernel, by decide +kernel⟩
theorem sc_hull : FnScope [(PySem.Str.ofString "dots"), (PySem.Str.ofString "dot"), (PySem.Str.ofString "corners")] [(PySem.Str.ofString "dots")] (defScope st_hull) := ⟨rfl, rfl, rfl, by decide +kernel, rfl, by decide +kernel, by decide +kernel⟩
theorem sc_sides_of : FnScope [(PySem.Str.ofString "corners")] [(PySem.Str.ofString "corners")] (defScope st_sides_of) := ⟨rfl, rfl, rfl, by decide +kernel, rfl, by decide +kernel, by decide +kernel⟩
theorem sc_place : FnScope [(PySem.Str.ofString "corners"), (PySem.Str.ofString "dot"), (PySem.Str.ofString "turns"), (PySem.Str.ofString "a"), (PySem.Str.ofString "b")] [(PySem.Str.ofString "corners"), (PySem.Str.ofString "dot")] (defScope st_place) := ⟨rfl, rfl, rfl, by decide +kernel, rfl, by decide +kernel, by decide +kernel⟩
theorem sc_holds : FnScope [(PySem.Str.ofString "shape"), (PySem.Str.ofString "dot")] [(PySem.Str.ofString "shape"), (PySem.Str.ofString "dot")] (defScope st_holds) := ⟨rfl, rfl, rfl, by decide +kernel, rfl, by decide +kernel, by decide +kernel⟩
theorem sc_law_draw_3 : FnScope [(PySem.Str.ofString "hand"), (PySem.Str.ofString "sides"), (PySem.Str.ofString "cell"), (PySem.Str.ofString "digit"), (PySem.Str.ofString "number")] [(PySem.Str.ofString "hand"), (PySem.Str.ofString "sides")] (defScope st_law_draw_3) := ⟨rfl, rfl, rfl, by decide +kernel, rfl, by decide +kernel, by decide +kernel⟩
theorem sc_law_any_2 : FnScope [(PySem.Str.ofString "hand"), (PySem.Str.ofString "things")] [(PySem.Str.ofString "hand"), (PySem.Str.ofString "things")] (defScope st_law_any_2) := ⟨rfl, rfl, rfl, by decide +kernel, rfl, by decide +kernel, by decide +kernel⟩
theorem sc_law_deep_3 : FnScope [(PySem.Str.ofString "hand"), (PySem.Str.ofString "thing"), (PySem.Str.ofString "turn")] [(PySem.Str.ofString "hand")] (defScope st_law_deep_3) := ⟨rfl, rfl, rfl, by decide +kernel, rfl, by decide +kernel, by decide +kernel⟩
theorem sc_step_of : FnScope [(PySem.Str.ofString "edge"), (PySem.Str.ofString "a"), (PySem.Str.ofString "b"), (PySem.Str.ofString "c"), (PySem.Str.ofString "d"), (PySem.Str.ofString "many")] [(PySem.Str.ofString "edge")] (defScope st_step_of) := ⟨rfl, rfl, rfl, by decide +kernel, rfl, by decide +kernel, by decide +kernel⟩
theorem sc_steps : FnScope [(PySem.Str.ofString "shape"), (PySem.Str.ofString "edge")] [(PySem.Str.ofString "shape")] (defScope st_steps) := ⟨rfl, rfl, rfl, by decide +kernel, rfl, by decide +kernel, by decide +kernel⟩
theorem sc_are_corners : FnScope [(PySem.Str.ofString "thing"), (PySem.Str.ofString "dot")] [(PySem.Str.ofString "thing")] (defScope st_are_corners) := ⟨rfl, rfl, rfl, by decide +kernel, rfl, by decide +kernel, by decide +kernel⟩
theorem sc_Shape_init : FnScope [(PySem.Str.ofString "self"), (PySem.Str.ofString "corners")] [(PySem.Str.ofString "self"), (PySem.Str.ofString "corners")] (defScope st_Shape_init) := ⟨rfl, rfl, rfl, by decide +kernel, rfl, by decide +kernel, by decide +kernel⟩
theorem sc_law_turn : FnScope [(PySem.Str.ofString "a"), (PySem.Str.ofString "b"), (PySem.Str.ofString "c")] [(PySem.Str.ofString "a"), (PySem.Str.ofString "b"), (PySem.Str.ofString "c")] (defScope st_law_turn) := ⟨rfl, rfl, rfl, by decide +kernel, rfl, by decide +kernel, by decide +kernel⟩
theorem sc_law_hull_3 : FnScope [(PySem.Str.ofString "dots"), (PySem.Str.ofString "some"), (PySem.Str.ofString "rows"), (PySem.Str.ofString "row"), (PySem.Str.ofString "found"), (PySem.Str.ofString "dot"), (PySem.Str.ofString "corners")] [(PySem.Str.ofString "dots")] (defScope st_law_hull_3) := ⟨rfl, rfl, rfl, by decide +kernel, rfl, by decide +kernel, by decide +kernel⟩
theorem sc_law_is_dot : FnScope [(PySem.Str.ofString "thing"), (PySem.Str.ofString "one")] [(PySem.Str.ofString "thing")] (defScope st_law_is_dot) := ⟨rfl, rfl, rfl, by decide +kernel, rfl, by decide +kernel, by decide +kernel⟩
theorem sc_law_are_corners : FnScope [(PySem.Str.ofString "thing"), (PySem.Str.ofString "dot")] [(PySem.Str.ofString "thing")] (defScope st_law_are_corners) := ⟨rfl, rfl, rfl, by decide +kernel, rfl, by decide +kernel, by decide +kernel⟩
theorem sc_law_bent_4 : FnScope [(PySem.Str.ofString "hand"), (PySem.Str.ofString "corners"), (PySem.Str.ofString "at"), (PySem.Str.ofString "x"), (PySem.Str.ofString "y"), (PySem.Str.ofString "dot"), (PySem.Str.ofString "odd"), (PySem.Str.ofString "row"), (PySem.Str.ofString "some")] [(PySem.Str.ofString "hand"), (PySem.Str.ofString "corners")] (defScope st_law_bent_4) := ⟨rfl, rfl, rfl, by decide +kernel, rfl, by decide +kernel, by decide +kernel⟩
theorem sc_law_corners_3 : FnScope [(PySem.Str.ofString "hand"), (PySem.Str.ofString "wide"), (PySem.Str.ofString "corners"), (PySem.Str.ofString "x"), (PySem.Str.ofString "y"), (PySem.Str.ofString "dots"), (PySem.Str.ofString "dot")] [(PySem.Str.ofString "hand"), (PySem.Str.ofString "wide")] (defScope st_law_corners_3) := ⟨rfl, rfl, rfl, by decide +kernel, rfl, by decide +kernel, by decide +kernel⟩
theorem sc_law_hand_2 : FnScope [(PySem.Str.ofString "script"), (PySem.Str.ofString "cells"), (PySem.Str.ofString "cell")] [(PySem.Str.ofString "script")] (defScope st_law_hand_2) := ⟨rfl, rfl, rfl, by decide +kernel, rfl, by decide +kernel, by decide +kernel⟩
theorem sc_law_k05 : FnScope [(PySem.Str.ofString "script"), (PySem.Str.ofString "hand"), (PySem.Str.ofString "turn"), (PySem.Str.ofString "corners"), (PySem.Str.ofString "shape"), (PySem.Str.ofString "again"), (PySem.Str.ofString "bent"), (PySem.Str.ofString "some"), (PySem.Str.ofString "odd"), (PySem.Str.ofString "none"), (PySem.Str.ofString "told"), (PySem.Str.ofString "step"), (PySem.Str.ofString "number"), (PySem.Str.ofString "pairs"), (PySem.Str.ofString "bad"), (PySem.Str.ofString "pair"), (PySem.Str.ofString "one"), (PySem.Str.ofString "many"), (PySem.Str.ofString "words")] [(PySem.Str.ofString "script")] (defScope st_law_k05) := ⟨rfl, rfl, rfl, by decide +kernel, rfl, by decide +kernel, by decide +kernel⟩
section
variable {w : World} {K : PySem.W.Frag} {mg : Str → Option Value} {base : Heap} (T : Txt K mg)
include T
theorem wd_law_word_5 (k : Nat) : WordOk PP w K mg base (ctA K) (xtA K) st_law_word_5 (PySem.Str.ofString "_law_word") (PySem.Str.ofString "call") [(PySem.Str.ofString "call"), (PySem.Str.ofString "word"), (PySem.Str.ofString "e"), (PySem.Str.ofString "flags")] b_law_word_5 k := fun gf cdg A outer s H E g th hgK hr act =>
  (s_seq (s_asg q_str (g_nm (i := 1) sc_law_word_5.nd rfl (by first | exact .inl rfl | exact .inr rfl) (by first | exact .inl rfl | exact .inr rfl)) rfl rfl rfl) (s_seq (s_try (i := 2) rfl rfl sc_law_word_5.nd rfl rfl ⟨rfl, by decide, .inl T.m_DotError⟩ takes_fn T.exm_DotError (fun _ _ _ _ tk po => (s_seq (s_drop (act _ _ _ _ _ _ tk) rfl) s_nil)) (fun a oe cls d pn hz hf => (s_seq (s_own (i := 3) (ps_set (i := 3) sc_law_word_5.nd rfl (by first | exact .inl rfl | exact .inr rfl) (q_disp (q_cons (q_isE hz hf rfl T.n_isinstance (pe_glob (X := Cx.suite _ _ _) (v := .ref (He.ga K (PySem.Str.ofString "BadShape"))) rfl T.m_BadShape rfl (by decide)) (fun _ h => h) rfl (by first | exact .inl rfl | exact .inr (.inl rfl) | exact .inr (.inr rfl)) (by decide) (by decide) (T.isE_BadShape) (fun _ _ _ _ _ h => h)) (q_cons (q_isE hz hf rfl T.n_isinstance (pe_glob (X := Cx.suite _ _ _) (v := .ref (He.ga K (PySem.Str.ofString "NoDots"))) rfl T.m_NoDots rfl (by decide)) (fun _ h => h) rfl (by first | exact .inl rfl | exact .inr (.inl rfl) | exact .inr (.inr rfl)) (by decide) (by decide) (T.isE_NoDots) (fun _ _ _ _ _ h => h)) (q_cons (q_isE hz hf rfl T.n_isinstance (pe_glob (X := Cx.suite _ _ _) (v := .ref (He.ga K (PySem.Str.ofString "NoDot"))) rfl T.m_NoDot rfl (by decide)) (fun _ h => h) rfl (by first | exact .inl rfl | exact .inr (.inl rfl) | exact .inr (.inr rfl)) (by decide) (by decide) (T.isE_NoDot) (fun _ _ _ _ _ h => h)) (q_cons (q_isE hz hf rfl T.n_isinstance (pe_glob (X := Cx.suite _ _ _) (v := .ref (He.ga K (PySem.Str.ofString "NoSteps"))) rfl T.m_NoSteps rfl (by decide)) (fun _ h => h) rfl (by first | exact .inl rfl | exact .inr (.inl rfl) | exact .inr (.inr rfl)) (by decide) (by decide) (T.isE_NoSteps) (fun _ _ _ _ _ h => h)) q_nil rfl) rfl) rfl) rfl)))) (s_seq (s_asg q_str (g_nm (i := 1) sc_law_word_5.nd rfl (by first | exact .inl rfl | exact .inr rfl) (by first | exact .inl rfl | exact .inr rfl)) rfl rfl rfl) (s_seq (s_frz (i := 3) (s_if (PW.pt (q_andT (q_cmpT (op_eqD (by have := hr.r.units; exact this)) good_eq (q_toR (q_count (by have := Room66 hr.r; exact this) (q_rd (i := 3) rfl (by first | exact .inl rfl | exact .inr (.inl rfl) | exact .inr (.inr rfl)) (by decide) (by decide)) (q_toR q_bl) rfl rfl rfl)) (q_toR q_int) rfl) (pw_and1 (q_val (q_isE hz hf rfl T.n_isinstance (pe_bltn (X := Cx.suite _ _ _) (v := .ty "ValueError") rfl T.n_ValueError (by decide +kernel) rfl (by decide) (by decide)) (fun _ h => h) rfl (by first | exact .inl rfl | exact .inr (.inl rfl) | exact .inr (.inr rfl)) (by decide) (by decide) (T.isE_ValueError) (fun _ _ _ _ _ h => h)) (fun _ => rfl))))) (s_seq (s_frz (i := 3) (s_asg (q_ix (q_toR (q_data (q_disp (q_cons q_str (q_cons q_str (q_cons q_str (q_cons q_str q_nil rfl) rfl) rfl) rfl)))) (q_toR (q_index (by have := Room66 hr.r; exact this) (q_rd (i := 3) rfl (by first | exact .inl rfl | exact .inr (.inl rfl) | exact .inr (.inr rfl)) (by decide) (by decide)) (q_toR q_bl) rfl rfl rfl)) (fun _ _ => rfl)) (g_nm (i := 1) sc_law_word_5.nd rfl (by first | exact .inl rfl | exact .inr rfl) (by first | exact .inl rfl | exact .inr rfl)) rfl rfl rfl)) s_nil) s_nil)) s_nil))))) (s_seq (s_ret (q_name (i := 1) rfl (by first | exact .inl rfl | exact .inr (.inl rfl) | exact .inr (.inr rfl)) (by decide) (by decide))) s_nil)))
theorem ok_RawShape_init : FnG PP w K mg base 1 (He.fAd K ((PySem.Str.ofString "RawShape"), some (PySem.Str.ofString "__init__"))) (fdAt K ((PySem.Str.ofString "RawShape"), some (PySem.Str.ofString "__init__"))) [(PySem.Str.ofString "self"), (PySem.Str.ofString "corners")] (spM K (ctA K) (xtA K) m_RawShape_init 2) :=
  fn_ruleC T.F_RawShape_init sc_RawShape_init rfl (fun _ _ => rfl) fun A outer s H E g hgK hr =>
  (s_seq (s_fldSet (q_name (i := 0) rfl (by first | exact .inl rfl | exact .inr (.inl rfl) | exact .inr (.inr rfl)) (by decide) (by decide)) (q_name (i := 1) rfl (by first | exact .inl rfl | exact .inr (.inl rfl) | exact .inr (.inr rfl)) (by decide) (by decide)) rfl T.fl_corners) (s_seq (s_fldSet (q_name (i := 0) rfl (by first | exact .inl rfl | exact .inr (.inl rfl) | exact .inr (.inr rfl)) (by decide) (by decide)) q_dct0 rfl T.fl_looked) s_nil))
theorem ok_turn_of : FnG PP w K mg base 1 (He.fAd K ((PySem.Str.ofString "turn_of"), none)) (fdAt K ((PySem.Str.ofString "turn_of"), none)) [(PySem.Str.ofString "a"), (PySem.Str.ofString "b"), (PySem.Str.ofString "c")] (spM K (ctA K) (xtA K) m_turn_of 3) :=
  fn_ruleC T.F_turn_of sc_turn_of rfl (fun _ _ => rfl) fun A outer s H E g hgK hr =>
  (s_seq (s_ret (q_bin op_sub good_sub (q_toR (q_bin op_mul good_mul (q_toR (q_bin op_sub good_sub (q_toR (q_ix (q_rd (i := 1) rfl (by first | exact .inl rfl | exact .inr (.inl rfl) | exact .inr (.inr rfl)) (by decide) (by decide)) (q_toR q_int) (fun _ _ => rfl))) (q_toR (q_ix (q_rd (i := 0) rfl (by first | exact .inl rfl | exact .inr (.inl rfl) | exact .inr (.inr rfl)) (by decide) (by decide)) (q_toR q_int) (fun _ _ => rfl))))) (q_toR (q_bin op_sub good_sub (q_toR (q_ix (q_rd (i := 2) rfl (by first | exact .inl rfl | exact .inr (.inl rfl) | exact .inr (.inr rfl)) (by decide) (by decide)) (q_toR q_int) (fun _ _ => rfl))) (q_toR (q_ix (q_rd (i := 0) rfl (by first | exact .inl rfl | exact .inr (.inl rfl) | exact .inr (.inr rfl)) (by decide) (by decide)) (q_toR q_int) (fun _ _ => rfl))))))) (q_toR (q_bin op_mul good_mul (q_toR (q_bin op_sub good_sub (q_toR (q_ix (q_rd (i := 1) rfl (by first | exact .inl rfl | exact .inr (.inl rfl) | exact .inr (.inr rfl)) (by decide) (by decide)) (q_toR q_int) (fun _ _ => rfl))) (q_toR (q_ix (q_rd (i := 0) rfl (by first | exact .inl rfl | exact .inr (.inl rfl) | exact .inr (.inr rfl)) (by decide) (by decide)) (q_toR q_int) (fun _ _ => rfl))))) (q_toR (q_bin op_sub good_sub (q_toR (q_ix (q_rd (i := 2) rfl (by first | exact .inl rfl | exact .inr (.inl rfl) | exact .inr (.inr rfl)) (by decide) (by decide)) (q_toR q_int) (fun _ _ => rfl))) (q_toR (q_ix (q_rd (i := 0) rfl (by first | exact .inl rfl | exact .inr (.inl rfl) | exact .inr (.inr rfl)) (by decide) (by decide)) (q_toR q_int) (fun _ _ => rfl))))))))) s_nil)
theorem ok_half_hull : FnG PP w K mg base 2 (He.fAd K ((PySem.Str.ofString "half_hull"), none)) (fdAt K ((PySem.Str.ofString "half_hull"), none)) [(PySem.Str.ofString "dots")] (spM K (ctA K) (xtA K) m_half_hull 1) :=
  fn_ruleC T.F_half_hull sc_half_hull rfl (fun _ _ => rfl) fun A outer s H E g hgK hr =>
  (s_seq (s_own (i := 1) (ps_set (i := 1) sc_half_hull.nd rfl (by first | exact .inl rfl | exact .inr rfl) (q_disp q_nil))) (s_seq (s_for passes_fn rfl (i_seq (q_name (i := 0) rfl (by first | exact .inl rfl | exact .inr (.inl rfl) | exact .inr (.inr rfl)) (by decide) (by decide))) (g_nm (i := 2) sc_half_hull.nd rfl (by first | exact .inl rfl | exact .inr rfl) (by first | exact .inl rfl | exact .inr rfl)) (s_seq (s_while passes_fn (PW.pt (q_andT (q_cmpT op_gt good_gt (q_toR (w_len rfl rfl T.n_len rfl (q_rd (i := 1) rfl (by first | exact .inl rfl | exact .inr (.inl rfl) | exact .inr (.inr rfl)) (by decide) (by decide)))) (q_toR q_int) rfl) (pw_and1 (q_cmpT op_le good_le (q_toR (q_call (C := fun _ => m_turn_of) (nf := 0) rfl takes_fn (ok_turn_of T) (hr.mono (by decide)) rfl T.m_turn_of T.F_turn_of.kp T.b_turn_of (q_cons (q_ix (q_rd (i := 1) rfl (by first | exact .inl rfl | exact .inr (.inl rfl) | exact .inr (.inr rfl)) (by decide) (by decide)) (q_toR (q_un un_neg good_neg (q_toR q_int))) (fun _ _ => rfl)) (q_cons (q_ix (q_rd (i := 1) rfl (by first | exact .inl rfl | exact .inr (.inl rfl) | exact .inr (.inr rfl)) (by decide) (by decide)) (q_toR (q_un un_neg good_neg (q_toR q_int))) (fun _ _ => rfl)) (q_cons (q_name (i := 2) rfl (by first | exact .inl rfl | exact .inr (.inl rfl) | exact .inr (.inr rfl)) (by decide) (by decide)) q_nil rfl) rfl) rfl) (by decide) rfl (len_cons (len_cons (len_cons len_nil))))) (q_toR q_int) rfl)))) (s_seq (s_pop (i := 1) rfl (by first | exact .inl rfl | exact .inr (.inl rfl) | exact .inr (.inr rfl)) (by decide) (by decide) rfl) s_nil)) (s_seq (s_app (i := 1) rfl (by first | exact .inl rfl | exact .inr (.inl rfl) | exact .inr (.inr rfl)) (by decide) (by decide) rfl rfl (q_name (i := 2) rfl (by first | exact .inl rfl | exact .inr (.inl rfl) | exact .inr (.inr rfl)) (by decide) (by decide))) s_nil)) (fun _ => rfl)) (s_seq (s_ret (q_data (q_slL rfl (q_rd (i := 1) rfl (by first | exact .inl rfl | exact .inr (.inl rfl) | exact .inr (.inr rfl)) (by decide) (by decide)) q_pNo (q_pSome (q_toR (q_un un_neg good_neg (q_toR q_int))))))) s_nil)))
theorem ok_hull_of : FnG PP w K mg base 3 (He.fAd K ((PySem.Str.ofString "hull_of"), none)) (fdAt K ((PySem.Str.ofString "hull_of"), none)) [(PySem.Str.ofString "dots")] (spM K (ctA K) (xtA K) m_hull_of 1) :=
  fn_ruleC T.F_hull_of sc_hull_of rfl (fun _ _ => rfl) fun A outer s H E g hgK hr =>
  (s_seq (s_own (i := 1) (ps_set (i := 1) sc_hull_of.nd rfl (by first | exact .inl rfl | exact .inr rfl) (q_sortSet rfl (by have := hr.r.units; exact this) rfl T.n_sorted rfl T.n_set rfl (q_rd (i := 0) rfl (by first | exact .inl rfl | exact .inr (.inl rfl) | exact .inr (.inr rfl)) (by decide) (by decide))))) (s_seq (s_frz (i := 1) (s_own (i := 2) (ps_set (i := 2) sc_hull_of.nd rfl (by first | exact .inl rfl | exact .inr rfl) (q_cat (q_toR (q_call (C := fun _ => m_half_hull) (nf := 0) rfl takes_fn (ok_half_hull T) (hr.mono (by decide)) rfl T.m_half_hull T.F_half_hull.kp T.b_half_hull (q_cons (q_name (i := 1) rfl (by first | exact .inl rfl | exact .inr (.inl rfl) | exact .inr (.inr rfl)) (by decide) (by decide)) q_nil rfl) (by decide) rfl (len_cons len_nil))) (q_toR (q_call (C := fun _ => m_half_hull) (nf := 0) rfl takes_fn (ok_half_hull T) (hr.mono (by decide)) rfl T.m_half_hull T.F_half_hull.kp T.b_half_hull (q_cons (q_data (q_rev (q_rd (i := 1) rfl (by first | exact .inl rfl | exact .inr (.inl rfl) | exact .inr (.inr rfl)) (by decide) (by decide)))) q_nil rfl) (by decide) rfl (len_cons len_nil))))))) (s_seq (s_ret (q_if (q_cmpT op_gt good_gt (q_toR (w_len rfl rfl T.n_len rfl (q_rd (i := 2) rfl (by first | exact .inl rfl | exact .inr (.inl rfl) | exact .inr (.inr rfl)) (by decide) (by decide)))) (q_toR q_int) rfl) (w_tuple rfl T.n_tuple rfl (q_rd (i := 2) rfl (by first | exact .inl rfl | exact .inr (.inl rfl) | exact .inr (.inr rfl)) (by decide) (by decide))) q_non)) s_nil)))
theorem ok_common : FnG PP w K mg base 1 (He.fAd K ((PySem.Str.ofString "common"), none)) (fdAt K ((PySem.Str.ofString "common"), none)) [(PySem.Str.ofString "one"), (PySem.Str.ofString "other")] (spM K (ctA K) (xtA K) m_common 2) :=
  fn_ruleC T.F_common sc_common rfl (fun _ _ => rfl) fun A outer s H E g hgK hr =>
  (s_seq (s_par2 (i := 0) (j := 1) rfl sc_common.nd rfl rfl (by decide) rfl rfl (w_abs rfl T.n_abs rfl (q_rd (i := 0) rfl (by first | exact .inl rfl | exact .inr (.inl rfl) | exact .inr (.inr rfl)) (by decide) (by decide))) (w_abs rfl T.n_abs rfl (q_rd (i := 1) rfl (by first | exact .inl rfl | exact .inr (.inl rfl) | exact .inr (.inr rfl)) (by decide) (by decide))) rfl rfl rfl rfl) (s_seq (s_while passes_fn (q_cmpT op_gt good_gt (q_rd (i := 1) rfl (by first | exact .inl rfl | exact .inr (.inl rfl) | exact .inr (.inr rfl)) (by decide) (by decide)) (q_toR q_int) rfl) (s_seq (s_par2 (i := 0) (j := 1) rfl sc_common.nd rfl rfl (by decide) rfl rfl (q_name (i := 1) rfl (by first | exact .inl rfl | exact .inr (.inl rfl) | exact .inr (.inr rfl)) (by decide) (by decide)) (q_bin op_modN good_mod (q_rd (i := 0) rfl (by first | exact .inl rfl | exact .inr (.inl rfl) | exact .inr (.inr rfl)) (by decide) (by decide)) (q_rd (i := 1) rfl (by first | exact .inl rfl | exact .inr (.inl rfl) | exact .inr (.inr rfl)) (by decide) (by decide))) rfl rfl rfl rfl) s_nil)) (s_seq (s_ret (q_name (i := 0) rfl (by first | exact .inl rfl | exact .inr (.inl rfl) | exact .inr (.inr rfl)) (by decide) (by decide))) s_nil)))
theorem ok_is_integer : FnG PP w K mg base 1 (He.fAd K ((PySem.Str.ofString "is_integer"), none)) (fdAt K ((PySem.Str.ofString "is_integer"), none)) [(PySem.Str.ofString "thing")] (spM K (ctA K) (xtA K) m_is_integer 1) :=
  fn_ruleC T.F_is_integer sc_is_integer rfl (fun _ _ => rfl) fun A outer s H E g hgK hr =>
  (s_seq (s_ret (q_and (w_isTy .int bb_int (by decide) (by decide) rfl T.n_isinstance rfl rfl T.n_int (q_rd (i := 0) rfl (by first | exact .inl rfl | exact .inr (.inl rfl) | exact .inr (.inr rfl)) (by decide) (by decide))) (q_and1 (q_not (w_isTy .bool bb_bool (by decide) (by decide) rfl T.n_isinstance rfl rfl T.n_bool (q_rd (i := 0) rfl (by first | exact .inl rfl | exact .inr (.inl rfl) | exact .inr (.inr rfl)) (by decide) (by decide))))))) s_nil)
theorem ok_is_number : FnG PP w K mg base 2 (He.fAd K ((PySem.Str.ofString "is_number"), none)) (fdAt K ((PySem.Str.ofString "is_number"), none)) [(PySem.Str.ofString "thing")] (spM K (ctA K) (xtA K) m_is_number 1) :=
  fn_ruleC T.F_is_number sc_is_number rfl (fun _ _ => rfl) fun A outer s H E g hgK hr =>
  (s_seq (s_ret (q_and (q_call (C := fun _ => m_is_integer) (nf := 0) rfl takes_fn (ok_is_integer T) (hr.mono (by decide)) rfl T.m_is_integer T.F_is_integer.kp T.b_is_integer (q_cons (q_name (i := 0) rfl (by first | exact .inl rfl | exact .inr (.inl rfl) | exact .inr (.inr rfl)) (by decide) (by decide)) q_nil rfl) (by decide) rfl (len_cons len_nil)) (q_and1 (q_cmp op_ge good_ge (q_rd (i := 0) rfl (by first | exact .inl rfl | exact .inr (.inl rfl) | exact .inr (.inr rfl)) (by decide) (by decide)) (q_toR q_int) rfl)))) s_nil)
theorem ok_is_tuple : FnG PP w K mg base 1 (He.fAd K ((PySem.Str.ofString "is_tuple"), none)) (fdAt K ((PySem.Str.ofString "is_tuple"), none)) [(PySem.Str.ofString "thing"), (PySem.Str.ofString "least"), (PySem.Str.ofString "most")] (spM K (ctA K) (xtA K) m_is_tuple 3) :=
  fn_ruleC T.F_is_tuple sc_is_tuple rfl (fun _ _ => rfl) fun A outer s H E g hgK hr =>
  (s_seq (s_ret (q_and (w_isTy .tuple bb_tuple (by decide) (by decide) rfl T.n_isinstance rfl rfl T.n_tuple (q_rd (i := 0) rfl (by first | exact .inl rfl | exact .inr (.inl rfl) | exact .inr (.inr rfl)) (by decide) (by decide))) (q_and1 (q_chain op_le op_le good_le good_le (q_rd (i := 1) rfl (by first | exact .inl rfl | exact .inr (.inl rfl) | exact .inr (.inr rfl)) (by decide) (by decide)) (q_toR (w_len rfl rfl T.n_len rfl (q_rd (i := 0) rfl (by first | exact .inl rfl | exact .inr (.inl rfl) | exact .inr (.inr rfl)) (by decide) (by decide)))) (q_rd (i := 2) rfl (by first | exact .inl rfl | exact .inr (.inl rfl) | exact .inr (.inr rfl)) (by decide) (by decide)) rfl)))) s_nil)
theorem ok_is_step_pair : FnG PP w K mg base 3 (He.fAd K ((PySem.Str.ofString "is_step_pair"), none)) (fdAt K ((PySem.Str.ofString "is_step_pair"), none)) [(PySem.Str.ofString "thing")] (spM K (ctA K) (xtA K) m_is_step_pair 1) :=
  fn_ruleC T.F_is_step_pair sc_is_step_pair rfl (fun _ _ => rfl) fun A outer s H E g hgK hr =>
  (s_seq (s_if (PW.pt (q_orT (q_notT (q_val (q_call (C := fun _ => m_is_tuple) (nf := 0) rfl takes_fn (ok_is_tuple T) (hr.mono (by decide)) rfl T.m_is_tuple T.F_is_tuple.kp T.b_is_tuple (q_cons (q_name (i := 0) rfl (by first | exact .inl rfl | exact .inr (.inl rfl) | exact .inr (.inr rfl)) (by decide) (by decide)) (q_cons q_int (q_cons q_int q_nil rfl) rfl) rfl) (by decide) rfl (len_cons (len_cons (len_cons len_nil)))) (fun _ => rfl))) (q_orT (q_notT (q_val (q_call (C := fun _ => m_is_tuple) (nf := 0) rfl takes_fn (ok_is_tuple T) (hr.mono (by decide)) rfl T.m_is_tuple T.F_is_tuple.kp T.b_is_tuple (q_cons (q_ix (q_rd (i := 0) rfl (by first | exact .inl rfl | exact .inr (.inl rfl) | exact .inr (.inr rfl)) (by decide) (by decide)) (q_toR q_int) (fun _ _ => rfl)) (q_cons q_int (q_cons q_int q_nil rfl) rfl) rfl) (by decide) rfl (len_cons (len_cons (len_cons len_nil)))) (fun _ => rfl))) (q_orT (q_notT (q_val (q_call (C := fun _ => m_is_number) (nf := 0) rfl takes_fn (ok_is_number T) (hr.mono (by decide)) rfl T.m_is_number T.F_is_number.kp T.b_is_number (q_cons (q_ix (q_rd (i := 0) rfl (by first | exact .inl rfl | exact .inr (.inl rfl) | exact .inr (.inr rfl)) (by decide) (by decide)) (q_toR q_int) (fun _ _ => rfl)) q_nil rfl) (by decide) rfl (len_cons len_nil)) (fun _ => rfl))) (pw_or1 (q_cmpT (op_eqD (by have := hr.r.units; exact this)) good_eq (q_toR (q_ix (q_rd (i := 0) rfl (by first | exact .inl rfl | exact .inr (.inl rfl) | exact .inr (.inr rfl)) (by decide) (by decide)) (q_toR q_int) (fun _ _ => rfl))) (q_toR q_int) rfl)))))) (s_seq (s_ret q_bl) s_nil) s_nil) (s_seq (s_ret (q_and (w_all rfl rfl T.n_all rfl (q_toR (q_data (q_comp rfl sc_is_step_pair.nd (i_seq (q_ix (q_rd (i := 0) rfl (by first | exact .inl rfl | exact .inr (.inl rfl) | exact .inr (.inr rfl)) (by decide) (by decide)) (q_toR q_int) (fun _ _ => rfl))) (own := [((PySem.Str.ofString "one"), 1)]) (blk_ok (N := [(PySem.Str.ofString "thing"), (PySem.Str.ofString "one")]) (sc := defScope st_is_step_pair) (by decide +kernel)) (by decide) (fun _ _ _ _ _ => (g_nm (i := 1) sc_is_step_pair.nd rfl (by first | exact .inl rfl | exact .inr rfl) (by first | exact .inl rfl | exact .inr rfl))) (fun _ _ _ _ _ => q_tsNil) (fun _ _ _ _ _ => (q_call (C := fun _ => m_is_integer) (nf := 0) rfl takes_no (ok_is_integer T) (hr.mono (by decide)) rfl T.m_is_integer T.F_is_integer.kp T.b_is_integer (q_cons (q_name (i := 1) rfl (by first | exact .inl rfl | exact .inr (.inl rfl) | exact .inr (.inr rfl)) (by decide) (by decide)) q_nil rfl) (by decide) rfl (len_cons len_nil))) (fun _ => rfl))))) (q_and1 (q_cmp (op_eqD (by have := hr.r.units; exact this)) good_eq (q_toR (q_call (C := fun _ => m_common) (nf := 0) rfl takes_fn (ok_common T) (hr.mono (by decide)) rfl T.m_common T.F_common.kp T.b_common (q_cons (q_ix (q_toR (q_ix (q_rd (i := 0) rfl (by first | exact .inl rfl | exact .inr (.inl rfl) | exact .inr (.inr rfl)) (by decide) (by decide)) (q_toR q_int) (fun _ _ => rfl))) (q_toR q_int) (fun _ _ => rfl)) (q_cons (q_ix (q_toR (q_ix (q_rd (i := 0) rfl (by first | exact .inl rfl | exact .inr (.inl rfl) | exact .inr (.inr rfl)) (by decide) (by decide)) (q_toR q_int) (fun _ _ => rfl))) (q_toR q_int) (fun _ _ => rfl)) q_nil rfl) rfl) (by decide) rfl (len_cons (len_cons len_nil)))) (q_toR q_int) rfl)))) s_nil))
theorem ok_of_steps : FnG PP w K mg base 4 (He.fAd K ((PySem.Str.ofString "of_steps"), none)) (fdAt K ((PySem.Str.ofString "of_steps"), none)) [(PySem.Str.ofString "list_of")] (spM K (ctA K) (xtA K) m_of_steps 1) :=
  fn_ruleC T.F_of_steps sc_of_steps rfl (fun _ _ => rfl) fun A outer s H E g hgK hr =>
  (s_seq (s_if (PW.pt (q_orT (q_notT (q_val (q_call (C := fun _ => m_is_tuple) (nf := 0) rfl takes_fn (ok_is_tuple T) (hr.mono (by decide)) rfl T.m_is_tuple T.F_is_tuple.kp T.b_is_tuple (q_cons (q_name (i := 0) rfl (by first | exact .inl rfl | exact .inr (.inl rfl) | exact .inr (.inr rfl)) (by decide) (by decide)) (q_cons q_int (q_cons (q_globI rfl T.g_MOST_CORNERS (by decide)) q_nil rfl) rfl) rfl) (by decide) rfl (len_cons (len_cons (len_cons len_nil)))) (fun _ => rfl))) (pw_or1 (q_notT (q_val (w_all rfl rfl T.n_all rfl (q_toR (q_data (q_comp rfl sc_of_steps.nd (i_seq (q_name (i := 0) rfl (by first | exact .inl rfl | exact .inr (.inl rfl) | exact .inr (.inr rfl)) (by decide) (by decide))) (own := [((PySem.Str.ofString "pair"), 1)]) (blk_ok (N := [(PySem.Str.ofString "list_of"), (PySem.Str.ofString "pair"), (PySem.Str.ofString "found"), (PySem.Str.ofString "x"), (PySem.Str.ofString "y"), (PySem.Str.ofString "many"), (PySem.Str.ofString "corners")]) (sc := defScope st_of_steps) (by decide +kernel)) (by decide) (fun _ _ _ _ _ => (g_nm (i := 1) sc_of_steps.nd rfl (by first | exact .inl rfl | exact .inr rfl) (by first | exact .inl rfl | exact .inr rfl))) (fun _ _ _ _ _ => q_tsNil) (fun _ _ _ _ _ => (q_call (C := fun _ => m_is_step_pair) (nf := 0) rfl takes_no (ok_is_step_pair T) (hr.mono (by decide)) rfl T.m_is_step_pair T.F_is_step_pair.kp T.b_is_step_pair (q_cons (q_name (i := 1) rfl (by first | exact .inl rfl | exact .inr (.inl rfl) | exact .inr (.inr rfl)) (by decide) (by decide)) q_nil rfl) (by decide) rfl (len_cons len_nil))) (fun _ => rfl))))) (fun _ => rfl)))))) (s_seq (s_raise0 rfl takes_fn (sup0_mk (k := 0) T.sup_NoSteps (RG.r (hr.mono (by decide))) rfl T.m_NoSteps (by decide)) rfl) s_nil) s_nil) (s_seq (s_own (i := 2) (ps_set (i := 2) sc_of_steps.nd rfl (by first | exact .inl rfl | exact .inr rfl) (q_disp (q_cons (q_tup (q_cons q_int (q_cons q_int q_nil rfl) rfl)) q_nil rfl)))) (s_seq (s_for passes_fn rfl (i_seq (q_name (i := 0) rfl (by first | exact .inl rfl | exact .inr (.inl rfl) | exact .inr (.inr rfl)) (by decide) (by decide))) (g_tup rfl (g_cons (g_tup rfl (g_cons (g_nm (i := 3) sc_of_steps.nd rfl (by first | exact .inl rfl | exact .inr rfl) (by first | exact .inl rfl | exact .inr rfl)) (g_cons (g_nm (i := 4) sc_of_steps.nd rfl (by first | exact .inl rfl | exact .inr rfl) (by first | exact .inl rfl | exact .inr rfl)) g_nil rfl) rfl) rfl rfl) (g_cons (g_nm (i := 5) sc_of_steps.nd rfl (by first | exact .inl rfl | exact .inr rfl) (by first | exact .inl rfl | exact .inr rfl)) g_nil rfl) rfl) rfl rfl) (s_seq (s_app (i := 2) rfl (by first | exact .inl rfl | exact .inr (.inl rfl) | exact .inr (.inr rfl)) (by decide) (by decide) rfl rfl (q_tup (q_cons (q_bin op_addA good_add (q_toR (q_ix (q_toR (q_ix (q_rd (i := 2) rfl (by first | exact .inl rfl | exact .inr (.inl rfl) | exact .inr (.inr rfl)) (by decide) (by decide)) (q_toR (q_un un_neg good_neg (q_toR q_int))) (fun _ _ => rfl))) (q_toR q_int) (fun _ _ => rfl))) (q_toR (q_bin op_mul good_mul (q_rd (i := 3) rfl (by first | exact .inl rfl | exact .inr (.inl rfl) | exact .inr (.inr rfl)) (by decide) (by decide)) (q_rd (i := 5) rfl (by first | exact .inl rfl | exact .inr (.inl rfl) | exact .inr (.inr rfl)) (by decide) (by decide))))) (q_cons (q_bin op_addA good_add (q_toR (q_ix (q_toR (q_ix (q_rd (i := 2) rfl (by first | exact .inl rfl | exact .inr (.inl rfl) | exact .inr (.inr rfl)) (by decide) (by decide)) (q_toR (q_un un_neg good_neg (q_toR q_int))) (fun _ _ => rfl))) (q_toR q_int) (fun _ _ => rfl))) (q_toR (q_bin op_mul good_mul (q_rd (i := 4) rfl (by first | exact .inl rfl | exact .inr (.inl rfl) | exact .inr (.inr rfl)) (by decide) (by decide)) (q_rd (i := 5) rfl (by first | exact .inl rfl | exact .inr (.inl rfl) | exact .inr (.inr rfl)) (by decide) (by decide))))) q_nil rfl) rfl))) s_nil) (fun _ => rfl)) (s_seq (s_asg (w_tuple rfl T.n_tuple rfl (q_toR (q_data (q_slL rfl (q_rd (i := 2) rfl (by first | exact .inl rfl | exact .inr (.inl rfl) | exact .inr (.inr rfl)) (by decide) (by decide)) q_pNo (q_pSome (q_toR (q_un un_neg good_neg (q_toR q_int)))))))) (g_nm (i := 6) sc_of_steps.nd rfl (by first | exact .inl rfl | exact .inr rfl) (by first | exact .inl rfl | exact .inr rfl)) rfl rfl rfl) (s_seq (s_if (PW.pt (q_orT (q_cmpT (op_neD (by have := hr.r.units; exact this)) good_ne (q_toR (q_ix (q_rd (i := 2) rfl (by first | exact .inl rfl | exact .inr (.inl rfl) | exact .inr (.inr rfl)) (by decide) (by decide)) (q_toR (q_un un_neg good_neg (q_toR q_int))) (fun _ _ => rfl))) (q_toR (q_tup (q_cons q_int (q_cons q_int q_nil rfl) rfl))) rfl) (pw_or1 (q_cmpT (op_neD (by have := hr.r.units; exact this)) good_ne (q_toR (q_call (C := fun _ => m_hull_of) (nf := 0) rfl takes_fn (ok_hull_of T) (hr.mono (by decide)) rfl T.m_hull_of T.F_hull_of.kp T.b_hull_of (q_cons (q_name (i := 6) rfl (by first | exact .inl rfl | exact .inr (.inl rfl) | exact .inr (.inr rfl)) (by decide) (by decide)) q_nil rfl) (by decide) rfl (len_cons len_nil))) (q_rd (i := 6) rfl (by first | exact .inl rfl | exact .inr (.inl rfl) | exact .inr (.inr rfl)) (by decide) (by decide)) rfl)))) (s_seq (s_raise0 rfl takes_fn (sup0_mk (k := 0) T.sup_NoSteps (RG.r (hr.mono (by decide))) rfl T.m_NoSteps (by decide)) rfl) s_nil) s_nil) (s_seq (s_if (q_cmpT op_gt good_gt (q_toR (w_max rfl rfl T.n_max rfl (q_toR (q_data (q_comp rfl sc_of_steps.nd (i_seq (q_name (i := 6) rfl (by first | exact .inl rfl | exact .inr (.inl rfl) | exact .inr (.inr rfl)) (by decide) (by decide))) (own := [((PySem.Str.ofString "x"), 3), ((PySem.Str.ofString "y"), 4)]) (blk_ok (N := [(PySem.Str.ofString "list_of"), (PySem.Str.ofString "pair"), (PySem.Str.ofString "found"), (PySem.Str.ofString "x"), (PySem.Str.ofString "y"), (PySem.Str.ofString "many"), (PySem.Str.ofString "corners")]) (sc := defScope st_of_steps) (by decide +kernel)) (by decide) (fun _ _ _ _ _ => (g_tup rfl (g_cons (g_nm (i := 3) sc_of_steps.nd rfl (by first | exact .inl rfl | exact .inr rfl) (by first | exact .inl rfl | exact .inr rfl)) (g_cons (g_nm (i := 4) sc_of_steps.nd rfl (by first | exact .inl rfl | exact .inr rfl) (by first | exact .inl rfl | exact .inr rfl)) g_nil rfl) rfl) rfl rfl)) (fun _ _ _ _ _ => q_tsNil) (fun _ _ _ _ _ => (w_max2 rfl rfl T.n_max rfl rfl (q_toR (w_abs rfl T.n_abs rfl (q_rd (i := 3) rfl (by first | exact .inl rfl | exact .inr (.inl rfl) | exact .inr (.inr rfl)) (by decide) (by decide)))) (q_toR (w_abs rfl T.n_abs rfl (q_rd (i := 4) rfl (by first | exact .inl rfl | exact .inr (.inl rfl) | exact .inr (.inr rfl)) (by decide) (by decide)))))) (fun _ => rfl)))))) (q_toR (q_globI rfl T.g_FARTHEST_STEPS (by decide))) rfl) (s_seq (s_raise0 rfl takes_fn (sup0_mk (k := 0) T.sup_NoSteps (RG.r (hr.mono (by decide))) rfl T.m_NoSteps (by decide)) rfl) s_nil) s_nil) (s_seq (s_ret (q_new (Cs := fun _ => m_RawShape_init) (nf := 0) rfl takes_fn T.mk_RawShape (ok_RawShape_init T) (hr.mono (by decide)) rfl T.m_RawShape rfl T.b_RawShape_init (q_cons (q_name (i := 6) rfl (by first | exact .inl rfl | exact .inr (.inl rfl) | exact .inr (.inr rfl)) (by decide) (by decide)) q_nil rfl) (by decide) rfl (len_succ (len_cons len_nil)))) s_nil)))))))
theorem ok_is_within : FnG PP w K mg base 2 (He.fAd K ((PySem.Str.ofString "is_within"), none)) (fdAt K ((PySem.Str.ofString "is_within"), none)) [(PySem.Str.ofString "thing"), (PySem.Str.ofString "low"), (PySem.Str.ofString "high")] (spM K (ctA K) (xtA K) m_is_within 3) :=
  fn_ruleC T.F_is_within sc_is_within rfl (fun _ _ => rfl) fun A outer s H E g hgK hr =>
  (s_seq (s_ret (q_and (q_call (C := fun _ => m_is_integer) (nf := 0) rfl takes_fn (ok_is_integer T) (hr.mono (by decide)) rfl T.m_is_integer T.F_is_integer.kp T.b_is_integer (q_cons (q_name (i := 0) rfl (by first | exact .inl rfl | exact .inr (.inl rfl) | exact .inr (.inr rfl)) (by decide) (by decide)) q_nil rfl) (by decide) rfl (len_cons len_nil)) (q_and1 (q_chain op_le op_le good_le good_le (q_rd (i := 1) rfl (by first | exact .inl rfl | exact .inr (.inl rfl) | exact .inr (.inr rfl)) (by decide) (by decide)) (q_rd (i := 0) rfl (by first | exact .inl rfl | exact .inr (.inl rfl) | exact .inr (.inr rfl)) (by decide) (by decide)) (q_rd (i := 2) rfl (by first | exact .inl rfl | exact .inr (.inl rfl) | exact .inr (.inr rfl)) (by decide) (by decide)) rfl)))) s_nil)
theorem ok_is_dot : FnG PP w K mg base 3 (He.fAd K ((PySem.Str.ofString "is_dot"), none)) (fdAt K ((PySem.Str.ofString "is_dot"), none)) [(PySem.Str.ofString "thing")] (spM K (ctA K) (xtA K) m_is_dot 1) :=
  fn_ruleC T.F_is_dot sc_is_dot rfl (fun _ _ => rfl) fun A outer s H E g hgK hr =>
  (s_seq (s_ret (q_and (q_call (C := fun _ => m_is_tuple) (nf := 0) rfl takes_fn (ok_is_tuple T) (hr.mono (by decide)) rfl T.m_is_tuple T.F_is_tuple.kp T.b_is_tuple (q_cons (q_name (i := 0) rfl (by first | exact .inl rfl | exact .inr (.inl rfl) | exact .inr (.inr rfl)) (by decide) (by decide)) (q_cons q_int (q_cons q_int q_nil rfl) rfl) rfl) (by decide) rfl (len_cons (len_cons (len_cons len_nil)))) (q_and1 (w_all rfl rfl T.n_all rfl (q_toR (q_data (q_comp rfl sc_is_dot.nd (i_seq (q_name (i := 0) rfl (by first | exact .inl rfl | exact .inr (.inl rfl) | exact .inr (.inr rfl)) (by decide) (by decide))) (own := [((PySem.Str.ofString "one"), 1)]) (blk_ok (N := [(PySem.Str.ofString "thing"), (PySem.Str.ofString "one")]) (sc := defScope st_is_dot) (by decide +kernel)) (by decide) (fun _ _ _ _ _ => (g_nm (i := 1) sc_is_dot.nd rfl (by first | exact .inl rfl | exact .inr rfl) (by first | exact .inl rfl | exact .inr rfl))) (fun _ _ _ _ _ => q_tsNil) (fun _ _ _ _ _ => (q_call (C := fun _ => m_is_within) (nf := 0) rfl takes_no (ok_is_within T) (hr.mono (by decide)) rfl T.m_is_within T.F_is_within.kp T.b_is_within (q_cons (q_name (i := 1) rfl (by first | exact .inl rfl | exact .inr (.inl rfl) | exact .inr (.inr rfl)) (by decide) (by decide)) (q_cons (q_un un_neg good_neg (q_toR (q_globI rfl T.g_FARTHEST (by decide)))) (q_cons (q_globI rfl T.g_FARTHEST (by decide)) q_nil rfl) rfl) rfl) (by decide) rfl (len_cons (len_cons (len_cons len_nil))))) (fun _ => rfl)))))))) s_nil)
theorem ok_hull : FnG PP w K mg base 4 (He.fAd K ((PySem.Str.ofString "hull"), none)) (fdAt K ((PySem.Str.ofString "hull"), none)) [(PySem.Str.ofString "dots")] (spM K (ctA K) (xtA K) m_hull 1) :=
  fn_ruleC T.F_hull sc_hull rfl (fun _ _ => rfl) fun A outer s H E g hgK hr =>
  (s_seq (s_if (PW.pt (q_orT (q_notT (q_val (q_call (C := fun _ => m_is_tuple) (nf := 0) rfl takes_fn (ok_is_tuple T) (hr.mono (by decide)) rfl T.m_is_tuple T.F_is_tuple.kp T.b_is_tuple (q_cons (q_name (i := 0) rfl (by first | exact .inl rfl | exact .inr (.inl rfl) | exact .inr (.inr rfl)) (by decide) (by decide)) (q_cons q_int (q_cons (q_globI rfl T.g_MOST_DOTS (by decide)) q_nil rfl) rfl) rfl) (by decide) rfl (len_cons (len_cons (len_cons len_nil)))) (fun _ => rfl))) (pw_or1 (q_notT (q_val (w_all rfl rfl T.n_all rfl (q_toR (q_data (q_comp rfl sc_hull.nd (i_seq (q_name (i := 0) rfl (by first | exact .inl rfl | exact .inr (.inl rfl) | exact .inr (.inr rfl)) (by decide) (by decide))) (own := [((PySem.Str.ofString "dot"), 1)]) (blk_ok (N := [(PySem.Str.ofString "dots"), (PySem.Str.ofString "dot"), (PySem.Str.ofString "corners")]) (sc := defScope st_hull) (by decide +kernel)) (by decide) (fun _ _ _ _ _ => (g_nm (i := 1) sc_hull.nd rfl (by first | exact .inl rfl | exact .inr rfl) (by first | exact .inl rfl | exact .inr rfl))) (fun _ _ _ _ _ => q_tsNil) (fun _ _ _ _ _ => (q_call (C := fun _ => m_is_dot) (nf := 0) rfl takes_no (ok_is_dot T) (hr.mono (by decide)) rfl T.m_is_dot T.F_is_dot.kp T.b_is_dot (q_cons (q_name (i := 1) rfl (by first | exact .inl rfl | exact .inr (.inl rfl) | exact .inr (.inr rfl)) (by decide) (by decide)) q_nil rfl) (by decide) rfl (len_cons len_nil))) (fun _ => rfl))))) (fun _ => rfl)))))) (s_seq (s_raise0 rfl takes_fn (sup0_mk (k := 0) T.sup_NoDots (RG.r (hr.mono (by decide))) rfl T.m_NoDots (by decide)) rfl) s_nil) s_nil) (s_seq (s_asg (q_call (C := fun _ => m_hull_of) (nf := 0) rfl takes_fn (ok_hull_of T) (hr.mono (by decide)) rfl T.m_hull_of T.F_hull_of.kp T.b_hull_of (q_cons (q_name (i := 0) rfl (by first | exact .inl rfl | exact .inr (.inl rfl) | exact .inr (.inr rfl)) (by decide) (by decide)) q_nil rfl) (by decide) rfl (len_cons len_nil)) (g_nm (i := 2) sc_hull.nd rfl (by first | exact .inl rfl | exact .inr rfl) (by first | exact .inl rfl | exact .inr rfl)) rfl rfl rfl) (s_seq (s_ret (q_if (q_isNT (q_rd (i := 2) rfl (by first | exact .inl rfl | exact .inr (.inl rfl) | exact .inr (.inr rfl)) (by decide) (by decide))) q_non (q_new (Cs := fun _ => m_RawShape_init) (nf := 0) rfl takes_fn T.mk_RawShape (ok_RawShape_init T) (hr.mono (by decide)) rfl T.m_RawShape rfl T.b_RawShape_init (q_cons (q_name (i := 2) rfl (by first | exact .inl rfl | exact .inr (.inl rfl) | exact .inr (.inr rfl)) (by decide) (by decide)) q_nil rfl) (by decide) rfl (len_succ (len_cons len_nil))))) s_nil)))
theorem ok_sides_of : FnG PP w K mg base 1 (He.fAd K ((PySem.Str.ofString "sides_of"), none)) (fdAt K ((PySem.Str.ofString "sides_of"), none)) [(PySem.Str.ofString "corners")] (spM K (ctA K) (xtA K) m_sides_of 1) :=
  fn_ruleC T.F_sides_of sc_sides_of rfl (fun _ _ => rfl) fun A outer s H E g hgK hr =>
  (s_seq (s_ret (q_data (q_listZip rfl rfl T.n_list rfl T.n_zip (q_cons (q_name (i := 0) rfl (by first | exact .inl rfl | exact .inr (.inl rfl) | exact .inr (.inr rfl)) (by decide) (by decide)) (q_cons (q_bin op_addA good_add (q_toR (q_slT (q_name (i := 0) rfl (by first | exact .inl rfl | exact .inr (.inl rfl) | exact .inr (.inr rfl)) (by decide) (by decide)) (q_pSome (q_toR q_int)) q_pNo)) (q_toR (q_slT (q_name (i := 0) rfl (by first | exact .inl rfl | exact .inr (.inl rfl) | exact .inr (.inr rfl)) (by decide) (by decide)) q_pNo (q_pSome (q_toR q_int))))) q_nil rfl) rfl)))) s_nil)
theorem ok_place : FnG PP w K mg base 2 (He.fAd K ((PySem.Str.ofString "place"), none)) (fdAt K ((PySem.Str.ofString "place"), none)) [(PySem.Str.ofString "corners"), (PySem.Str.ofString "dot")] (spM K (ctA K) (xtA K) m_place 2) :=
  fn_ruleC T.F_place sc_place rfl (fun _ _ => rfl) fun A outer s H E g hgK hr =>
  (s_seq (s_own (i := 2) (q_setComp rfl sc_place.nd (i := 2) rfl rfl rfl (i_seq (q_call (C := fun _ => m_sides_of) (nf := 0) rfl takes_fn (ok_sides_of T) (hr.mono (by decide)) rfl T.m_sides_of T.F_sides_of.kp T.b_sides_of (q_cons (q_name (i := 0) rfl (by first | exact .inl rfl | exact .inr (.inl rfl) | exact .inr (.inr rfl)) (by decide) (by decide)) q_nil rfl) (by decide) rfl (len_cons len_nil))) (own := [((PySem.Str.ofString "a"), 3), ((PySem.Str.ofString "b"), 4)]) (blk_ok (N := [(PySem.Str.ofString "corners"), (PySem.Str.ofString "dot"), (PySem.Str.ofString "turns"), (PySem.Str.ofString "a"), (PySem.Str.ofString "b")]) (sc := defScope st_place) (by decide +kernel)) (by decide) (fun _ _ _ _ _ => (g_tup rfl (g_cons (g_nm (i := 3) sc_place.nd rfl (by first | exact .inl rfl | exact .inr rfl) (by first | exact .inl rfl | exact .inr rfl)) (g_cons (g_nm (i := 4) sc_place.nd rfl (by first | exact .inl rfl | exact .inr rfl) (by first | exact .inl rfl | exact .inr rfl)) g_nil rfl) rfl) rfl rfl)) (fun _ _ _ _ _ => q_tsNil) (fun _ _ _ _ _ => (q_call (C := fun _ => m_turn_of) (nf := 0) rfl takes_no (ok_turn_of T) (hr.mono (by decide)) rfl T.m_turn_of T.F_turn_of.kp T.b_turn_of (q_cons (q_name (i := 3) rfl (by first | exact .inl rfl | exact .inr (.inl rfl) | exact .inr (.inr rfl)) (by decide) (by decide)) (q_cons (q_name (i := 4) rfl (by first | exact .inl rfl | exact .inr (.inl rfl) | exact .inr (.inr rfl)) (by decide) (by decide)) (q_cons (q_name (i := 1) rfl (by first | exact .inl rfl | exact .inr (.inl rfl) | exact .inr (.inr rfl)) (by decide) (by decide)) q_nil rfl) rfl) rfl) (by decide) rfl (len_cons (len_cons (len_cons len_nil))))) (fun _ => rfl))) (s_seq (s_ret (q_if (q_cmpT op_lt good_lt (q_toR (w_min rfl rfl T.n_min rfl (q_rd (i := 2) rfl (by first | exact .inl rfl | exact .inr (.inl rfl) | exact .inr (.inr rfl)) (by decide) (by decide)))) (q_toR q_int) rfl) (q_un un_neg good_neg (q_toR q_int)) (q_if (q_cmpT (op_eqD (by have := hr.r.units; exact this)) good_eq (q_toR (w_min rfl rfl T.n_min rfl (q_rd (i := 2) rfl (by first | exact .inl rfl | exact .inr (.inl rfl) | exact .inr (.inr rfl)) (by decide) (by decide)))) (q_toR q_int) rfl) q_int q_int))) s_nil))
theorem ok_holds : FnG PP w K mg base 4 (He.fAd K ((PySem.Str.ofString "holds"), none)) (fdAt K ((PySem.Str.ofString "holds"), none)) [(PySem.Str.ofString "shape"), (PySem.Str.ofString "dot")] (spM K (ctA K) (xtA K) m_holds 2) :=
  fn_ruleC T.F_holds sc_holds rfl (fun _ _ => rfl) fun A outer s H E g hgK hr =>
  (s_seq (s_if (q_notT (q_val (q_call (C := fun _ => m_is_dot) (nf := 0) rfl takes_fn (ok_is_dot T) (hr.mono (by decide)) rfl T.m_is_dot T.F_is_dot.kp T.b_is_dot (q_cons (q_name (i := 1) rfl (by first | exact .inl rfl | exact .inr (.inl rfl) | exact .inr (.inr rfl)) (by decide) (by decide)) q_nil rfl) (by decide) rfl (len_cons len_nil)) (fun _ => rfl))) (s_seq (s_raise0 rfl takes_fn (sup0_mk (k := 0) T.sup_NoDot (RG.r (hr.mono (by decide))) rfl T.m_NoDot (by decide)) rfl) s_nil) s_nil) (s_seq (s_ret (q_ix (q_toR (q_data (q_disp (q_cons q_str (q_cons q_str (q_cons q_str q_nil rfl) rfl) rfl)))) (q_toR (q_call (C := fun _ => m_place) (nf := 0) rfl takes_fn (ok_place T) (hr.mono (by decide)) rfl T.m_place T.F_place.kp T.b_place (q_cons (q_fld (q_name (i := 0) rfl (by first | exact .inl rfl | exact .inr (.inl rfl) | exact .inr (.inr rfl)) (by decide) (by decide)) rfl T.fl_corners) (q_cons (q_name (i := 1) rfl (by first | exact .inl rfl | exact .inr (.inl rfl) | exact .inr (.inr rfl)) (by decide) (by decide)) q_nil rfl) rfl) (by decide) rfl (len_cons (len_cons len_nil)))) (fun _ _ => rfl))) s_nil))
theorem ok_law_draw_3 : FnG PP w K mg base 1 (He.fAd K ((PySem.Str.ofString "_law_draw"), none)) (fdAt K ((PySem.Str.ofString "_law_draw"), none)) [(PySem.Str.ofString "hand"), (PySem.Str.ofString "sides")] (spM K (ctA K) (xtA K) m_law_draw_3 2) :=
  fn_ruleC T.F_law_draw_3 sc_law_draw_3 rfl (fun _ _ => rfl) fun A outer s H E g hgK hr =>
  (s_seq (s_if (PW.pt (q_andT (q_cmpT (op_eqD (by have := hr.r.units; exact this)) good_eq (q_toR (q_ix (q_rd (i := 0) rfl (by first | exact .inl rfl | exact .inr (.inl rfl) | exact .inr (.inr rfl)) (by decide) (by decide)) (q_toR q_int) (fun _ _ => rfl))) (q_toR q_int) rfl) (pw_and1 (q_cmpT op_lt good_lt (q_toR (q_ix (q_rd (i := 0) rfl (by first | exact .inl rfl | exact .inr (.inl rfl) | exact .inr (.inr rfl)) (by decide) (by decide)) (q_toR q_int) (fun _ _ => rfl))) (q_toR (w_len rfl rfl T.n_len rfl (q_toR (q_ix (q_rd (i := 0) rfl (by first | exact .inl rfl | exact .inr (.inl rfl) | exact .inr (.inr rfl)) (by decide) (by decide)) (q_toR q_int) (fun _ _ => rfl))))) rfl)))) (s_seq (s_asg (q_ix (q_toR (q_ix (q_rd (i := 0) rfl (by first | exact .inl rfl | exact .inr (.inl rfl) | exact .inr (.inr rfl)) (by decide) (by decide)) (q_toR q_int) (fun _ _ => rfl))) (q_toR (q_ix (q_rd (i := 0) rfl (by first | exact .inl rfl | exact .inr (.inl rfl) | exact .inr (.inr rfl)) (by decide) (by decide)) (q_toR q_int) (fun _ _ => rfl))) (fun _ _ => rfl)) (g_nm (i := 2) sc_law_draw_3.nd rfl (by first | exact .inl rfl | exact .inr rfl) (by first | exact .inl rfl | exact .inr rfl)) rfl rfl rfl) (s_seq (s_item (q_bin op_addA good_add (q_toR (q_ix (q_rd (i := 0) rfl (by first | exact .inl rfl | exact .inr (.inl rfl) | exact .inr (.inr rfl)) (by decide) (by decide)) (q_toR q_int) (fun _ _ => rfl))) (q_toR q_int)) (q_name (i := 0) rfl (by first | exact .inl rfl | exact .inr (.inl rfl) | exact .inr (.inr rfl)) (by decide) (by decide)) q_int rfl rfl (fun _ => rfl)) (s_seq (s_item (q_bin op_modN good_mod (q_toR (w_int rfl T.n_int rfl (q_toR (q_bin op_addA good_add (q_toR (q_bin op_addA good_add (q_toR (q_bin op_mul good_mul (q_toR (q_ix (q_rd (i := 0) rfl (by first | exact .inl rfl | exact .inr (.inl rfl) | exact .inr (.inr rfl)) (by decide) (by decide)) (q_toR q_int) (fun _ _ => rfl))) (q_toR q_int))) (q_rd (i := 2) rfl (by first | exact .inl rfl | exact .inr (.inl rfl) | exact .inr (.inr rfl)) (by decide) (by decide)))) (q_toR q_int))))) (q_toR q_int)) (q_name (i := 0) rfl (by first | exact .inl rfl | exact .inr (.inl rfl) | exact .inr (.inr rfl)) (by decide) (by decide)) q_int rfl rfl (fun _ => rfl)) (s_seq (s_if (q_cmpT op_ge good_ge (q_rd (i := 2) rfl (by first | exact .inl rfl | exact .inr (.inl rfl) | exact .inr (.inr rfl)) (by decide) (by decide)) (q_toR (q_bin op_pow good_pow (q_toR q_int) (q_toR q_int))) rfl) (s_seq (s_item (q_name (i := 2) rfl (by first | exact .inl rfl | exact .inr (.inl rfl) | exact .inr (.inr rfl)) (by decide) (by decide)) (q_name (i := 0) rfl (by first | exact .inl rfl | exact .inr (.inl rfl) | exact .inr (.inr rfl)) (by decide) (by decide)) q_int rfl rfl (fun _ => rfl)) s_nil) s_nil) s_nil)))) s_nil) (s_seq (s_if (q_cmpT op_gt good_gt (q_toR (q_ix (q_rd (i := 0) rfl (by first | exact .inl rfl | exact .inr (.inl rfl) | exact .inr (.inr rfl)) (by decide) (by decide)) (q_toR q_int) (fun _ _ => rfl))) (q_toR q_int) rfl) (s_seq (s_asg (q_bin op_modN good_mod (q_toR (w_int rfl T.n_int rfl (q_toR (q_ix (q_rd (i := 0) rfl (by first | exact .inl rfl | exact .inr (.inl rfl) | exact .inr (.inr rfl)) (by decide) (by decide)) (q_toR q_int) (fun _ _ => rfl))))) (q_rd (i := 1) rfl (by first | exact .inl rfl | exact .inr (.inl rfl) | exact .inr (.inr rfl)) (by decide) (by decide))) (g_nm (i := 3) sc_law_draw_3.nd rfl (by first | exact .inl rfl | exact .inr rfl) (by first | exact .inl rfl | exact .inr rfl)) rfl rfl rfl) (s_seq (s_item (q_bin op_fdivN good_div (q_toR (q_ix (q_rd (i := 0) rfl (by first | exact .inl rfl | exact .inr (.inl rfl) | exact .inr (.inr rfl)) (by decide) (by decide)) (q_toR q_int) (fun _ _ => rfl))) (q_rd (i := 1) rfl (by first | exact .inl rfl | exact .inr (.inl rfl) | exact .inr (.inr rfl)) (by decide) (by decide))) (q_name (i := 0) rfl (by first | exact .inl rfl | exact .inr (.inl rfl) | exact .inr (.inr rfl)) (by decide) (by decide)) q_int rfl rfl (fun _ => rfl)) (s_seq (s_ret (q_name (i := 3) rfl (by first | exact .inl rfl | exact .inr (.inl rfl) | exact .inr (.inr rfl)) (by decide) (by decide))) s_nil))) s_nil) (s_seq (s_item (q_bin op_addA good_add (q_toR (q_ix (q_rd (i := 0) rfl (by first | exact .inl rfl | exact .inr (.inl rfl) | exact .inr (.inr rfl)) (by decide) (by decide)) (q_toR q_int) (fun _ _ => rfl))) (q_toR q_int)) (q_name (i := 0) rfl (by first | exact .inl rfl | exact .inr (.inl rfl) | exact .inr (.inr rfl)) (by decide) (by decide)) q_int rfl rfl (fun _ => rfl)) (s_seq (s_asg (q_bin op_modN good_mod (q_toR (w_int rfl T.n_int rfl (q_toR (q_bin op_mul good_mul (q_toR (w_int rfl T.n_int rfl (q_toR (q_bin op_addA good_add (q_toR (q_ix (q_rd (i := 0) rfl (by first | exact .inl rfl | exact .inr (.inl rfl) | exact .inr (.inr rfl)) (by decide) (by decide)) (q_toR q_int) (fun _ _ => rfl))) (q_toR (q_bin op_mul good_mul (q_toR q_int) (q_toR (q_ix (q_rd (i := 0) rfl (by first | exact .inl rfl | exact .inr (.inl rfl) | exact .inr (.inr rfl)) (by decide) (by decide)) (q_toR q_int) (fun _ _ => rfl))))))))) (q_toR q_int))))) (q_toR q_int)) (g_nm (i := 4) sc_law_draw_3.nd rfl (by first | exact .inl rfl | exact .inr rfl) (by first | exact .inl rfl | exact .inr rfl)) rfl rfl rfl) (s_seq (s_asg (q_bin op_modN good_mod (q_toR (w_int rfl T.n_int rfl (q_toR (q_bin op_mul good_mul (q_rd (i := 4) rfl (by first | exact .inl rfl | exact .inr (.inl rfl) | exact .inr (.inr rfl)) (by decide) (by decide)) (q_toR (q_bin op_addA good_add (q_toR (q_bin op_fdivN good_div (q_rd (i := 4) rfl (by first | exact .inl rfl | exact .inr (.inl rfl) | exact .inr (.inr rfl)) (by decide) (by decide)) (q_toR q_int))) (q_toR q_int))))))) (q_toR q_int)) (g_nm (i := 4) sc_law_draw_3.nd rfl (by first | exact .inl rfl | exact .inr rfl) (by first | exact .inl rfl | exact .inr rfl)) rfl rfl rfl) (s_seq (s_asg (q_bin op_modN good_mod (q_toR (w_int rfl T.n_int rfl (q_toR (q_bin op_mul good_mul (q_rd (i := 4) rfl (by first | exact .inl rfl | exact .inr (.inl rfl) | exact .inr (.inr rfl)) (by decide) (by decide)) (q_toR (q_bin op_addA good_add (q_toR (q_bin op_fdivN good_div (q_rd (i := 4) rfl (by first | exact .inl rfl | exact .inr (.inl rfl) | exact .inr (.inr rfl)) (by decide) (by decide)) (q_toR q_int))) (q_toR q_int))))))) (q_toR q_int)) (g_nm (i := 4) sc_law_draw_3.nd rfl (by first | exact .inl rfl | exact .inr rfl) (by first | exact .inl rfl | exact .inr rfl)) rfl rfl rfl) (s_seq (s_ret (q_bin op_modN good_mod (q_toR (w_int rfl T.n_int rfl (q_toR (q_bin op_fdivN good_div (q_rd (i := 4) rfl (by first | exact .inl rfl | exact .inr (.inl rfl) | exact .inr (.inr rfl)) (by decide) (by decide)) (q_toR q_int))))) (q_rd (i := 1) rfl (by first | exact .inl rfl | exact .inr (.inl rfl) | exact .inr (.inr rfl)) (by decide) (by decide)))) s_nil)))))))
theorem ok_law_any_2 : FnG PP w K mg base 2 (He.fAd K ((PySem.Str.ofString "_law_any"), none)) (fdAt K ((PySem.Str.ofString "_law_any"), none)) [(PySem.Str.ofString "hand"), (PySem.Str.ofString "things")] (spM K (ctA K) (xtA K) m_law_any_2 2) :=
  fn_ruleC T.F_law_any_2 sc_law_any_2 rfl (fun _ _ => rfl) fun A outer s H E g hgK hr =>
  (s_seq (s_ret (q_ix (q_rd (i := 1) rfl (by first | exact .inl rfl | exact .inr (.inl rfl) | exact .inr (.inr rfl)) (by decide) (by decide)) (q_toR (q_call (C := fun _ => m_law_draw_3) (nf := 0) rfl takes_fn (ok_law_draw_3 T) (hr.mono (by decide)) rfl T.m_law_draw_3 T.F_law_draw_3.kp T.b_law_draw_3 (q_cons (q_name (i := 0) rfl (by first | exact .inl rfl | exact .inr (.inl rfl) | exact .inr (.inr rfl)) (by decide) (by decide)) (q_cons (w_len rfl rfl T.n_len rfl (q_rd (i := 1) rfl (by first | exact .inl rfl | exact .inr (.inl rfl) | exact .inr (.inr rfl)) (by decide) (by decide))) q_nil rfl) rfl) (by decide) rfl (len_cons (len_cons len_nil)))) (fun _ _ => rfl))) s_nil)
theorem ok_law_deep_3 : FnG PP w K mg base 3 (He.fAd K ((PySem.Str.ofString "_law_deep"), none)) (fdAt K ((PySem.Str.ofString "_law_deep"), none)) [(PySem.Str.ofString "hand")] (spM K (ctA K) (xtA K) m_law_deep_3 1) :=
  fn_ruleC T.F_law_deep_3 sc_law_deep_3 rfl (fun _ _ => rfl) fun A outer s H E g hgK hr =>
  (s_seq (s_asg (q_call (C := fun _ => m_law_any_2) (nf := 0) rfl takes_fn (ok_law_any_2 T) (hr.mono (by decide)) rfl T.m_law_any_2 T.F_law_any_2.kp T.b_law_any_2 (q_cons (q_name (i := 0) rfl (by first | exact .inl rfl | exact .inr (.inl rfl) | exact .inr (.inr rfl)) (by decide) (by decide)) (q_cons (q_data (q_disp (q_cons q_non (q_cons q_str (q_cons q_emp q_nil rfl) rfl) rfl))) q_nil rfl) rfl) (by decide) rfl (len_cons (len_cons len_nil))) (g_nm (i := 1) sc_law_deep_3.nd rfl (by first | exact .inl rfl | exact .inr rfl) (by first | exact .inl rfl | exact .inr rfl)) rfl rfl rfl) (s_seq (s_for passes_fn rfl (i_range1 rfl T.n_range rfl (q_toR (q_bin op_addA good_add (q_toR q_int) (q_toR (q_call (C := fun _ => m_law_draw_3) (nf := 0) rfl takes_fn (ok_law_draw_3 T) (hr.mono (by decide)) rfl T.m_law_draw_3 T.F_law_draw_3.kp T.b_law_draw_3 (q_cons (q_name (i := 0) rfl (by first | exact .inl rfl | exact .inr (.inl rfl) | exact .inr (.inr rfl)) (by decide) (by decide)) (q_cons q_int q_nil rfl) rfl) (by decide) rfl (len_cons (len_cons len_nil))))))) (g_nm (i := 2) sc_law_deep_3.nd rfl (by first | exact .inl rfl | exact .inr rfl) (by first | exact .inl rfl | exact .inr rfl)) (s_seq (s_asg (q_call (C := fun _ => m_law_any_2) (nf := 0) rfl takes_fn (ok_law_any_2 T) (hr.mono (by decide)) rfl T.m_law_any_2 T.F_law_any_2.kp T.b_law_any_2 (q_cons (q_name (i := 0) rfl (by first | exact .inl rfl | exact .inr (.inl rfl) | exact .inr (.inr rfl)) (by decide) (by decide)) (q_cons (q_data (q_disp (q_cons (q_tup (q_cons (q_name (i := 1) rfl (by first | exact .inl rfl | exact .inr (.inl rfl) | exact .inr (.inr rfl)) (by decide) (by decide)) q_nil rfl)) (q_cons (q_data (q_disp (q_cons (q_name (i := 1) rfl (by first | exact .inl rfl | exact .inr (.inl rfl) | exact .inr (.inr rfl)) (by decide) (by decide)) q_nil rfl))) (q_cons (q_dct1 q_int (q_name (i := 1) rfl (by first | exact .inl rfl | exact .inr (.inl rfl) | exact .inr (.inr rfl)) (by decide) (by decide))) q_nil rfl) rfl) rfl))) q_nil rfl) rfl) (by decide) rfl (len_cons (len_cons len_nil))) (g_nm (i := 1) sc_law_deep_3.nd rfl (by first | exact .inl rfl | exact .inr rfl) (by first | exact .inl rfl | exact .inr rfl)) rfl rfl rfl) s_nil) (fun _ => rfl)) (s_seq (s_ret (q_name (i := 1) rfl (by first | exact .inl rfl | exact .inr (.inl rfl) | exact .inr (.inr rfl)) (by decide) (by decide))) s_nil)))
theorem ok_step_of : FnG PP w K mg base 2 (He.fAd K ((PySem.Str.ofString "step_of"), none)) (fdAt K ((PySem.Str.ofString "step_of"), none)) [(PySem.Str.ofString "edge")] (spM K (ctA K) (xtA K) m_step_of 1) :=
  fn_ruleC T.F_step_of sc_step_of rfl (fun _ _ => rfl) fun A outer s H E g hgK hr =>
  (s_seq (s_asg (q_name (i := 0) rfl (by first | exact .inl rfl | exact .inr (.inl rfl) | exact .inr (.inr rfl)) (by decide) (by decide)) (g_tup rfl (g_cons (g_tup rfl (g_cons (g_nm (i := 1) sc_step_of.nd rfl (by first | exact .inl rfl | exact .inr rfl) (by first | exact .inl rfl | exact .inr rfl)) (g_cons (g_nm (i := 2) sc_step_of.nd rfl (by first | exact .inl rfl | exact .inr rfl) (by first | exact .inl rfl | exact .inr rfl)) g_nil rfl) rfl) rfl rfl) (g_cons (g_tup rfl (g_cons (g_nm (i := 3) sc_step_of.nd rfl (by first | exact .inl rfl | exact .inr rfl) (by first | exact .inl rfl | exact .inr rfl)) (g_cons (g_nm (i := 4) sc_step_of.nd rfl (by first | exact .inl rfl | exact .inr rfl) (by first | exact .inl rfl | exact .inr rfl)) g_nil rfl) rfl) rfl rfl) g_nil rfl) rfl) rfl rfl) rfl rfl rfl) (s_seq (s_asg (q_call (C := fun _ => m_common) (nf := 0) rfl takes_fn (ok_common T) (hr.mono (by decide)) rfl T.m_common T.F_common.kp T.b_common (q_cons (q_bin op_sub good_sub (q_rd (i := 3) rfl (by first | exact .inl rfl | exact .inr (.inl rfl) | exact .inr (.inr rfl)) (by decide) (by decide)) (q_rd (i := 1) rfl (by first | exact .inl rfl | exact .inr (.inl rfl) | exact .inr (.inr rfl)) (by decide) (by decide))) (q_cons (q_bin op_sub good_sub (q_rd (i := 4) rfl (by first | exact .inl rfl | exact .inr (.inl rfl) | exact .inr (.inr rfl)) (by decide) (by decide)) (q_rd (i := 2) rfl (by first | exact .inl rfl | exact .inr (.inl rfl) | exact .inr (.inr rfl)) (by decide) (by decide))) q_nil rfl) rfl) (by decide) rfl (len_cons (len_cons len_nil))) (g_nm (i := 5) sc_step_of.nd rfl (by first | exact .inl rfl | exact .inr rfl) (by first | exact .inl rfl | exact .inr rfl)) rfl rfl rfl) (s_seq (s_ret (q_tup (q_cons (q_tup (q_cons (q_bin op_fdivN good_div (q_toR (q_bin op_sub good_sub (q_rd (i := 3) rfl (by first | exact .inl rfl | exact .inr (.inl rfl) | exact .inr (.inr rfl)) (by decide) (by decide)) (q_rd (i := 1) rfl (by first | exact .inl rfl | exact .inr (.inl rfl) | exact .inr (.inr rfl)) (by decide) (by decide)))) (q_rd (i := 5) rfl (by first | exact .inl rfl | exact .inr (.inl rfl) | exact .inr (.inr rfl)) (by decide) (by decide))) (q_cons (q_bin op_fdivN good_div (q_toR (q_bin op_sub good_sub (q_rd (i := 4) rfl (by first | exact .inl rfl | exact .inr (.inl rfl) | exact .inr (.inr rfl)) (by decide) (by decide)) (q_rd (i := 2) rfl (by first | exact .inl rfl | exact .inr (.inl rfl) | exact .inr (.inr rfl)) (by decide) (by decide)))) (q_rd (i := 5) rfl (by first | exact .inl rfl | exact .inr (.inl rfl) | exact .inr (.inr rfl)) (by decide) (by decide))) q_nil rfl) rfl)) (q_cons (q_name (i := 5) rfl (by first | exact .inl rfl | exact .inr (.inl rfl) | exact .inr (.inr rfl)) (by decide) (by decide)) q_nil rfl) rfl))) s_nil)))
theorem ok_steps : FnG PP w K mg base 3 (He.fAd K ((PySem.Str.ofString "steps"), none)) (fdAt K ((PySem.Str.ofString "steps"), none)) [(PySem.Str.ofString "shape")] (spM K (ctA K) (xtA K) m_steps 1) :=
  fn_ruleC T.F_steps sc_steps rfl (fun _ _ => rfl) fun A outer s H E g hgK hr =>
  (s_seq (s_ret (w_tuple rfl T.n_tuple rfl (q_toR (q_data (q_comp rfl sc_steps.nd (i_seq (q_call (C := fun _ => m_sides_of) (nf := 0) rfl takes_fn (ok_sides_of T) (hr.mono (by decide)) rfl T.m_sides_of T.F_sides_of.kp T.b_sides_of (q_cons (q_fld (q_name (i := 0) rfl (by first | exact .inl rfl | exact .inr (.inl rfl) | exact .inr (.inr rfl)) (by decide) (by decide)) rfl T.fl_corners) q_nil rfl) (by decide) rfl (len_cons len_nil))) (own := [((PySem.Str.ofString "edge"), 1)]) (blk_ok (N := [(PySem.Str.ofString "shape"), (PySem.Str.ofString "edge")]) (sc := defScope st_steps) (by decide +kernel)) (by decide) (fun _ _ _ _ _ => (g_nm (i := 1) sc_steps.nd rfl (by first | exact .inl rfl | exact .inr rfl) (by first | exact .inl rfl | exact .inr rfl))) (fun _ _ _ _ _ => q_tsNil) (fun _ _ _ _ _ => (q_call (C := fun _ => m_step_of) (nf := 0) rfl takes_no (ok_step_of T) (hr.mono (by decide)) rfl T.m_step_of T.F_step_of.kp T.b_step_of (q_cons (q_name (i := 1) rfl (by first | exact .inl rfl | exact .inr (.inl rfl) | exact .inr (.inr rfl)) (by decide) (by decide)) q_nil rfl) (by decide) rfl (len_cons len_nil))) (fun _ => rfl)))))) s_nil)
theorem ok_are_corners : FnG PP w K mg base 4 (He.fAd K ((PySem.Str.ofString "are_corners"), none)) (fdAt K ((PySem.Str.ofString "are_corners"), none)) [(PySem.Str.ofString "thing")] (spM K (ctA K) (xtA K) m_are_corners 1) :=
  fn_ruleC T.F_are_corners sc_are_corners rfl (fun _ _ => rfl) fun A outer s H E g hgK hr =>
  (s_seq (s_if (PW.pt (q_orT (q_notT (q_val (q_call (C := fun _ => m_is_tuple) (nf := 0) rfl takes_fn (ok_is_tuple T) (hr.mono (by decide)) rfl T.m_is_tuple T.F_is_tuple.kp T.b_is_tuple (q_cons (q_name (i := 0) rfl (by first | exact .inl rfl | exact .inr (.inl rfl) | exact .inr (.inr rfl)) (by decide) (by decide)) (q_cons q_int (q_cons (q_globI rfl T.g_MOST_CORNERS (by decide)) q_nil rfl) rfl) rfl) (by decide) rfl (len_cons (len_cons (len_cons len_nil)))) (fun _ => rfl))) (pw_or1 (q_notT (q_val (w_all rfl rfl T.n_all rfl (q_toR (q_data (q_comp rfl sc_are_corners.nd (i_seq (q_name (i := 0) rfl (by first | exact .inl rfl | exact .inr (.inl rfl) | exact .inr (.inr rfl)) (by decide) (by decide))) (own := [((PySem.Str.ofString "dot"), 1)]) (blk_ok (N := [(PySem.Str.ofString "thing"), (PySem.Str.ofString "dot")]) (sc := defScope st_are_corners) (by decide +kernel)) (by decide) (fun _ _ _ _ _ => (g_nm (i := 1) sc_are_corners.nd rfl (by first | exact .inl rfl | exact .inr rfl) (by first | exact .inl rfl | exact .inr rfl))) (fun _ _ _ _ _ => q_tsNil) (fun _ _ _ _ _ => (q_call (C := fun _ => m_is_dot) (nf := 0) rfl takes_no (ok_is_dot T) (hr.mono (by decide)) rfl T.m_is_dot T.F_is_dot.kp T.b_is_dot (q_cons (q_name (i := 1) rfl (by first | exact .inl rfl | exact .inr (.inl rfl) | exact .inr (.inr rfl)) (by decide) (by decide)) q_nil rfl) (by decide) rfl (len_cons len_nil))) (fun _ => rfl))))) (fun _ => rfl)))))) (s_seq (s_ret q_bl) s_nil) s_nil) (s_seq (s_ret (q_cmp (op_eqD (by have := hr.r.units; exact this)) good_eq (q_toR (q_call (C := fun _ => m_hull_of) (nf := 0) rfl takes_fn (ok_hull_of T) (hr.mono (by decide)) rfl T.m_hull_of T.F_hull_of.kp T.b_hull_of (q_cons (q_name (i := 0) rfl (by first | exact .inl rfl | exact .inr (.inl rfl) | exact .inr (.inr rfl)) (by decide) (by decide)) q_nil rfl) (by decide) rfl (len_cons len_nil))) (q_rd (i := 0) rfl (by first | exact .inl rfl | exact .inr (.inl rfl) | exact .inr (.inr rfl)) (by decide) (by decide)) rfl)) s_nil))
theorem ok_Shape_init : FnG PP w K mg base 5 (He.fAd K ((PySem.Str.ofString "Shape"), some (PySem.Str.ofString "__init__"))) (fdAt K ((PySem.Str.ofString "Shape"), some (PySem.Str.ofString "__init__"))) [(PySem.Str.ofString "self"), (PySem.Str.ofString "corners")] (spM K (ctA K) (xtA K) m_Shape_init 2) :=
  fn_ruleC T.F_Shape_init sc_Shape_init rfl (fun _ _ => rfl) fun A outer s H E g hgK hr =>
  (s_seq (s_if (q_notT (q_val (q_call (C := fun _ => m_are_corners) (nf := 0) rfl takes_fn (ok_are_corners T) (hr.mono (by decide)) rfl T.m_are_corners T.F_are_corners.kp T.b_are_corners (q_cons (q_name (i := 1) rfl (by first | exact .inl rfl | exact .inr (.inl rfl) | exact .inr (.inr rfl)) (by decide) (by decide)) q_nil rfl) (by decide) rfl (len_cons len_nil)) (fun _ => rfl))) (s_seq (s_raise0 rfl takes_fn (sup0_mk (k := 0) T.sup_BadShape (RG.r (hr.mono (by decide))) rfl T.m_BadShape (by decide)) rfl) s_nil) s_nil) (s_seq (s_fldSet (q_name (i := 0) rfl (by first | exact .inl rfl | exact .inr (.inl rfl) | exact .inr (.inr rfl)) (by decide) (by decide)) (q_name (i := 1) rfl (by first | exact .inl rfl | exact .inr (.inl rfl) | exact .inr (.inr rfl)) (by decide) (by decide)) rfl T.fl_corners) (s_seq (s_fldSet (q_name (i := 0) rfl (by first | exact .inl rfl | exact .inr (.inl rfl) | exact .inr (.inr rfl)) (by decide) (by decide)) q_dct0 rfl T.fl_looked) s_nil)))
theorem ok_law_turn : FnG PP w K mg base 1 (He.fAd K ((PySem.Str.ofString "_law_turn"), none)) (fdAt K ((PySem.Str.ofString "_law_turn"), none)) [(PySem.Str.ofString "a"), (PySem.Str.ofString "b"), (PySem.Str.ofString "c")] (spM K (ctA K) (xtA K) m_law_turn 3) :=
  fn_ruleC T.F_law_turn sc_law_turn rfl (fun _ _ => rfl) fun A outer s H E g hgK hr =>
  (s_seq (s_ret (q_bin op_sub good_sub (q_toR (q_bin op_mul good_mul (q_toR (q_bin op_sub good_sub (q_toR (q_ix (q_rd (i := 1) rfl (by first | exact .inl rfl | exact .inr (.inl rfl) | exact .inr (.inr rfl)) (by decide) (by decide)) (q_toR q_int) (fun _ _ => rfl))) (q_toR (q_ix (q_rd (i := 0) rfl (by first | exact .inl rfl | exact .inr (.inl rfl) | exact .inr (.inr rfl)) (by decide) (by decide)) (q_toR q_int) (fun _ _ => rfl))))) (q_toR (q_bin op_sub good_sub (q_toR (q_ix (q_rd (i := 2) rfl (by first | exact .inl rfl | exact .inr (.inl rfl) | exact .inr (.inr rfl)) (by decide) (by decide)) (q_toR q_int) (fun _ _ => rfl))) (q_toR (q_ix (q_rd (i := 0) rfl (by first | exact .inl rfl | exact .inr (.inl rfl) | exact .inr (.inr rfl)) (by decide) (by decide)) (q_toR q_int) (fun _ _ => rfl))))))) (q_toR (q_bin op_mul good_mul (q_toR (q_bin op_sub good_sub (q_toR (q_ix (q_rd (i := 1) rfl (by first | exact .inl rfl | exact .inr (.inl rfl) | exact .inr (.inr rfl)) (by decide) (by decide)) (q_toR q_int) (fun _ _ => rfl))) (q_toR (q_ix (q_rd (i := 0) rfl (by first | exact .inl rfl | exact .inr (.inl rfl) | exact .inr (.inr rfl)) (by decide) (by decide)) (q_toR q_int) (fun _ _ => rfl))))) (q_toR (q_bin op_sub good_sub (q_toR (q_ix (q_rd (i := 2) rfl (by first | exact .inl rfl | exact .inr (.inl rfl) | exact .inr (.inr rfl)) (by decide) (by decide)) (q_toR q_int) (fun _ _ => rfl))) (q_toR (q_ix (q_rd (i := 0) rfl (by first | exact .inl rfl | exact .inr (.inl rfl) | exact .inr (.inr rfl)) (by decide) (by decide)) (q_toR q_int) (fun _ _ => rfl))))))))) s_nil)
theorem ok_law_hull_3 : FnG PP w K mg base 2 (He.fAd K ((PySem.Str.ofString "_law_hull"), none)) (fdAt K ((PySem.Str.ofString "_law_hull"), none)) [(PySem.Str.ofString "dots")] (spM K (ctA K) (xtA K) m_law_hull_3 1) :=
  fn_ruleC T.F_law_hull_3 sc_law_hull_3 rfl (fun _ _ => rfl) fun A outer s H E g hgK hr =>
  (s_seq (s_own (i := 1) (ps_set (i := 1) sc_law_hull_3.nd rfl (by first | exact .inl rfl | exact .inr rfl) (q_sortSet rfl (by have := hr.r.units; exact this) rfl T.n_sorted rfl T.n_set rfl (q_rd (i := 0) rfl (by first | exact .inl rfl | exact .inr (.inl rfl) | exact .inr (.inr rfl)) (by decide) (by decide))))) (s_seq (s_own (i := 2) (ps_set (i := 2) sc_law_hull_3.nd rfl (by first | exact .inl rfl | exact .inr rfl) (q_disp q_nil))) (s_seq (s_frz (i := 1) (s_for passes_fn rfl (i_seq (q_tup (q_cons (q_name (i := 1) rfl (by first | exact .inl rfl | exact .inr (.inl rfl) | exact .inr (.inr rfl)) (by decide) (by decide)) (q_cons (q_data (q_rev (q_rd (i := 1) rfl (by first | exact .inl rfl | exact .inr (.inl rfl) | exact .inr (.inr rfl)) (by decide) (by decide)))) q_nil rfl) rfl))) (g_nm (i := 3) sc_law_hull_3.nd rfl (by first | exact .inl rfl | exact .inr rfl) (by first | exact .inl rfl | exact .inr rfl)) (s_seq (s_own (i := 4) (ps_set (i := 4) sc_law_hull_3.nd rfl (by first | exact .inl rfl | exact .inr rfl) (q_disp q_nil))) (s_seq (s_for passes_fn rfl (i_seq (q_name (i := 3) rfl (by first | exact .inl rfl | exact .inr (.inl rfl) | exact .inr (.inr rfl)) (by decide) (by decide))) (g_nm (i := 5) sc_law_hull_3.nd rfl (by first | exact .inl rfl | exact .inr rfl) (by first | exact .inl rfl | exact .inr rfl)) (s_seq (s_while passes_fn (PW.pt (q_andT (q_cmpT op_gt good_gt (q_toR (w_len rfl rfl T.n_len rfl (q_rd (i := 4) rfl (by first | exact .inl rfl | exact .inr (.inl rfl) | exact .inr (.inr rfl)) (by decide) (by decide)))) (q_toR q_int) rfl) (pw_and1 (q_cmpT op_le good_le (q_toR (q_call (C := fun _ => m_law_turn) (nf := 0) rfl takes_fn (ok_law_turn T) (hr.mono (by decide)) rfl T.m_law_turn T.F_law_turn.kp T.b_law_turn (q_cons (q_ix (q_rd (i := 4) rfl (by first | exact .inl rfl | exact .inr (.inl rfl) | exact .inr (.inr rfl)) (by decide) (by decide)) (q_toR (q_un un_neg good_neg (q_toR q_int))) (fun _ _ => rfl)) (q_cons (q_ix (q_rd (i := 4) rfl (by first | exact .inl rfl | exact .inr (.inl rfl) | exact .inr (.inr rfl)) (by decide) (by decide)) (q_toR (q_un un_neg good_neg (q_toR q_int))) (fun _ _ => rfl)) (q_cons (q_name (i := 5) rfl (by first | exact .inl rfl | exact .inr (.inl rfl) | exact .inr (.inr rfl)) (by decide) (by decide)) q_nil rfl) rfl) rfl) (by decide) rfl (len_cons (len_cons (len_cons len_nil))))) (q_toR q_int) rfl)))) (s_seq (s_pop (i := 4) rfl (by first | exact .inl rfl | exact .inr (.inl rfl) | exact .inr (.inr rfl)) (by decide) (by decide) rfl) s_nil)) (s_seq (s_app (i := 4) rfl (by first | exact .inl rfl | exact .inr (.inl rfl) | exact .inr (.inr rfl)) (by decide) (by decide) rfl rfl (q_name (i := 5) rfl (by first | exact .inl rfl | exact .inr (.inl rfl) | exact .inr (.inr rfl)) (by decide) (by decide))) s_nil)) (fun _ => rfl)) (s_seq (s_app (i := 2) rfl (by first | exact .inl rfl | exact .inr (.inl rfl) | exact .inr (.inr rfl)) (by decide) (by decide) rfl rfl (q_data (q_slL rfl (q_rd (i := 4) rfl (by first | exact .inl rfl | exact .inr (.inl rfl) | exact .inr (.inr rfl)) (by decide) (by decide)) q_pNo (q_pSome (q_toR (q_un un_neg good_neg (q_toR q_int))))))) s_nil))) (fun _ => rfl))) (s_seq (s_asg (w_tuple rfl T.n_tuple rfl (q_toR (q_data (q_cat (q_toR (q_ix (q_rd (i := 2) rfl (by first | exact .inl rfl | exact .inr (.inl rfl) | exact .inr (.inr rfl)) (by decide) (by decide)) (q_toR q_int) (fun _ _ => rfl))) (q_toR (q_ix (q_rd (i := 2) rfl (by first | exact .inl rfl | exact .inr (.inl rfl) | exact .inr (.inr rfl)) (by decide) (by decide)) (q_toR q_int) (fun _ _ => rfl))))))) (g_nm (i := 6) sc_law_hull_3.nd rfl (by first | exact .inl rfl | exact .inr rfl) (by first | exact .inl rfl | exact .inr rfl)) rfl rfl rfl) (s_seq (s_ret (q_if (q_cmpT op_gt good_gt (q_toR (w_len rfl rfl T.n_len rfl (q_rd (i := 6) rfl (by first | exact .inl rfl | exact .inr (.inl rfl) | exact .inr (.inr rfl)) (by decide) (by decide)))) (q_toR q_int) rfl) (q_name (i := 6) rfl (by first | exact .inl rfl | exact .inr (.inl rfl) | exact .inr (.inr rfl)) (by decide) (by decide)) q_non)) s_nil)))))
theorem ok_law_is_dot : FnG PP w K mg base 1 (He.fAd K ((PySem.Str.ofString "_law_is_dot"), none)) (fdAt K ((PySem.Str.ofString "_law_is_dot"), none)) [(PySem.Str.ofString "thing")] (spM K (ctA K) (xtA K) m_law_is_dot 1) :=
  fn_ruleC T.F_law_is_dot sc_law_is_dot rfl (fun _ _ => rfl) fun A outer s H E g hgK hr =>
  (s_seq (s_if (PW.pt (q_orT (q_notT (q_val (w_isTy .tuple bb_tuple (by decide) (by decide) rfl T.n_isinstance rfl rfl T.n_tuple (q_rd (i := 0) rfl (by first | exact .inl rfl | exact .inr (.inl rfl) | exact .inr (.inr rfl)) (by decide) (by decide))) (fun _ => rfl))) (pw_or1 (q_cmpT (op_neD (by have := hr.r.units; exact this)) good_ne (q_toR (w_len rfl rfl T.n_len rfl (q_rd (i := 0) rfl (by first | exact .inl rfl | exact .inr (.inl rfl) | exact .inr (.inr rfl)) (by decide) (by decide)))) (q_toR q_int) rfl)))) (s_seq (s_ret q_bl) s_nil) s_nil) (s_seq (s_ret (w_all rfl rfl T.n_all rfl (q_toR (q_data (q_comp rfl sc_law_is_dot.nd (i_seq (q_name (i := 0) rfl (by first | exact .inl rfl | exact .inr (.inl rfl) | exact .inr (.inr rfl)) (by decide) (by decide))) (own := [((PySem.Str.ofString "one"), 1)]) (blk_ok (N := [(PySem.Str.ofString "thing"), (PySem.Str.ofString "one")]) (sc := defScope st_law_is_dot) (by decide +kernel)) (by decide) (fun _ _ _ _ _ => (g_nm (i := 1) sc_law_is_dot.nd rfl (by first | exact .inl rfl | exact .inr rfl) (by first | exact .inl rfl | exact .inr rfl))) (fun _ _ _ _ _ => q_tsNil) (fun _ _ _ _ _ => (q_and (w_isTy .int bb_int (by decide) (by decide) rfl T.n_isinstance rfl rfl T.n_int (q_rd (i := 1) rfl (by first | exact .inl rfl | exact .inr (.inl rfl) | exact .inr (.inr rfl)) (by decide) (by decide))) (q_and (q_not (w_isTy .bool bb_bool (by decide) (by decide) rfl T.n_isinstance rfl rfl T.n_bool (q_rd (i := 1) rfl (by first | exact .inl rfl | exact .inr (.inl rfl) | exact .inr (.inr rfl)) (by decide) (by decide)))) (q_and1 (q_chain op_le op_le good_le good_le (q_toR (q_un un_neg good_neg (q_toR q_int))) (q_rd (i := 1) rfl (by first | exact .inl rfl | exact .inr (.inl rfl) | exact .inr (.inr rfl)) (by decide) (by decide)) (q_toR q_int) rfl))))) (fun _ => rfl)))))) s_nil))
theorem ok_law_are_corners : FnG PP w K mg base 3 (He.fAd K ((PySem.Str.ofString "_law_are_corners"), none)) (fdAt K ((PySem.Str.ofString "_law_are_corners"), none)) [(PySem.Str.ofString "thing")] (spM K (ctA K) (xtA K) m_law_are_corners 1) :=
  fn_ruleC T.F_law_are_corners sc_law_are_corners rfl (fun _ _ => rfl) fun A outer s H E g hgK hr =>
  (s_seq (s_if (PW.pt (q_orT (q_notT (q_val (w_isTy .tuple bb_tuple (by decide) (by decide) rfl T.n_isinstance rfl rfl T.n_tuple (q_rd (i := 0) rfl (by first | exact .inl rfl | exact .inr (.inl rfl) | exact .inr (.inr rfl)) (by decide) (by decide))) (fun _ => rfl))) (q_orT (q_notT (q_chainT op_le op_le good_le good_le (q_toR q_int) (q_toR (w_len rfl rfl T.n_len rfl (q_rd (i := 0) rfl (by first | exact .inl rfl | exact .inr (.inl rfl) | exact .inr (.inr rfl)) (by decide) (by decide)))) (q_toR q_int) rfl)) (pw_or1 (q_notT (q_val (w_all rfl rfl T.n_all rfl (q_toR (q_data (q_comp rfl sc_law_are_corners.nd (i_seq (q_name (i := 0) rfl (by first | exact .inl rfl | exact .inr (.inl rfl) | exact .inr (.inr rfl)) (by decide) (by decide))) (own := [((PySem.Str.ofString "dot"), 1)]) (blk_ok (N := [(PySem.Str.ofString "thing"), (PySem.Str.ofString "dot")]) (sc := defScope st_law_are_corners) (by decide +kernel)) (by decide) (fun _ _ _ _ _ => (g_nm (i := 1) sc_law_are_corners.nd rfl (by first | exact .inl rfl | exact .inr rfl) (by first | exact .inl rfl | exact .inr rfl))) (fun _ _ _ _ _ => q_tsNil) (fun _ _ _ _ _ => (q_call (C := fun _ => m_law_is_dot) (nf := 0) rfl takes_no (ok_law_is_dot T) (hr.mono (by decide)) rfl T.m_law_is_dot T.F_law_is_dot.kp T.b_law_is_dot (q_cons (q_name (i := 1) rfl (by first | exact .inl rfl | exact .inr (.inl rfl) | exact .inr (.inr rfl)) (by decide) (by decide)) q_nil rfl) (by decide) rfl (len_cons len_nil))) (fun _ => rfl))))) (fun _ => rfl))))))) (s_seq (s_ret q_bl) s_nil) s_nil) (s_seq (s_ret (q_cmp (op_eqD (by have := hr.r.units; exact this)) good_eq (q_toR (q_call (C := fun _ => m_law_hull_3) (nf := 0) rfl takes_fn (ok_law_hull_3 T) (hr.mono (by decide)) rfl T.m_law_hull_3 T.F_law_hull_3.kp T.b_law_hull_3 (q_cons (q_name (i := 0) rfl (by first | exact .inl rfl | exact .inr (.inl rfl) | exact .inr (.inr rfl)) (by decide) (by decide)) q_nil rfl) (by decide) rfl (len_cons len_nil))) (q_rd (i := 0) rfl (by first | exact .inl rfl | exact .inr (.inl rfl) | exact .inr (.inr rfl)) (by decide) (by decide)) rfl)) s_nil))
theorem ok_law_bent_4 : FnG PP w K mg base 4 (He.fAd K ((PySem.Str.ofString "_law_bent"), none)) (fdAt K ((PySem.Str.ofString "_law_bent"), none)) [(PySem.Str.ofString "hand"), (PySem.Str.ofString "corners")] (spM K (ctA K) (xtA K) m_law_bent_4 2) :=
  fn_ruleC T.F_law_bent_4 sc_law_bent_4 rfl (fun _ _ => rfl) fun A outer s H E g hgK hr =>
  (s_seq (s_par3 (i := 2) (j := 3) (l := 4) rfl sc_law_bent_4.nd rfl rfl rfl (by decide) (by decide) (by decide) rfl rfl rfl (q_call (C := fun _ => m_law_draw_3) (nf := 0) rfl takes_fn (ok_law_draw_3 T) (hr.mono (by decide)) rfl T.m_law_draw_3 T.F_law_draw_3.kp T.b_law_draw_3 (q_cons (q_name (i := 0) rfl (by first | exact .inl rfl | exact .inr (.inl rfl) | exact .inr (.inr rfl)) (by decide) (by decide)) (q_cons (w_len rfl rfl T.n_len rfl (q_rd (i := 1) rfl (by first | exact .inl rfl | exact .inr (.inl rfl) | exact .inr (.inr rfl)) (by decide) (by decide))) q_nil rfl) rfl) (by decide) rfl (len_cons (len_cons len_nil))) (q_call (C := fun _ => m_law_draw_3) (nf := 0) rfl takes_fn (ok_law_draw_3 T) (hr.mono (by decide)) rfl T.m_law_draw_3 T.F_law_draw_3.kp T.b_law_draw_3 (q_cons (q_name (i := 0) rfl (by first | exact .inl rfl | exact .inr (.inl rfl) | exact .inr (.inr rfl)) (by decide) (by decide)) (q_cons q_int q_nil rfl) rfl) (by decide) rfl (len_cons (len_cons len_nil))) (q_call (C := fun _ => m_law_draw_3) (nf := 0) rfl takes_fn (ok_law_draw_3 T) (hr.mono (by decide)) rfl T.m_law_draw_3 T.F_law_draw_3.kp T.b_law_draw_3 (q_cons (q_name (i := 0) rfl (by first | exact .inl rfl | exact .inr (.inl rfl) | exact .inr (.inr rfl)) (by decide) (by decide)) (q_cons q_int q_nil rfl) rfl) (by decide) rfl (len_cons (len_cons len_nil))) rfl rfl rfl rfl rfl) (s_seq (s_asg (q_ix (q_rd (i := 1) rfl (by first | exact .inl rfl | exact .inr (.inl rfl) | exact .inr (.inr rfl)) (by decide) (by decide)) (q_rd (i := 2) rfl (by first | exact .inl rfl | exact .inr (.inl rfl) | exact .inr (.inr rfl)) (by decide) (by decide)) (fun _ _ => rfl)) (g_nm (i := 5) sc_law_bent_4.nd rfl (by first | exact .inl rfl | exact .inr rfl) (by first | exact .inl rfl | exact .inr rfl)) rfl rfl rfl) (s_seq (s_own (i := 6) (ps_set (i := 6) sc_law_bent_4.nd rfl (by first | exact .inl rfl | exact .inr rfl) (q_disp (q_cons (q_tup (q_cons (q_bin op_addA good_add (q_toR (q_ix (q_rd (i := 5) rfl (by first | exact .inl rfl | exact .inr (.inl rfl) | exact .inr (.inr rfl)) (by decide) (by decide)) (q_toR q_int) (fun _ _ => rfl))) (q_toR q_int)) (q_cons (q_ix (q_rd (i := 5) rfl (by first | exact .inl rfl | exact .inr (.inl rfl) | exact .inr (.inr rfl)) (by decide) (by decide)) (q_toR q_int) (fun _ _ => rfl)) q_nil rfl) rfl)) (q_cons (q_tup (q_cons (q_ix (q_rd (i := 5) rfl (by first | exact .inl rfl | exact .inr (.inl rfl) | exact .inr (.inr rfl)) (by decide) (by decide)) (q_toR q_int) (fun _ _ => rfl)) (q_cons (q_bin op_sub good_sub (q_toR (q_ix (q_rd (i := 5) rfl (by first | exact .inl rfl | exact .inr (.inl rfl) | exact .inr (.inr rfl)) (by decide) (by decide)) (q_toR q_int) (fun _ _ => rfl))) (q_toR q_int)) q_nil rfl) rfl)) (q_cons (q_tup (q_cons q_int (q_cons (q_ix (q_rd (i := 5) rfl (by first | exact .inl rfl | exact .inr (.inl rfl) | exact .inr (.inr rfl)) (by decide) (by decide)) (q_toR q_int) (fun _ _ => rfl)) q_nil rfl) rfl)) (q_cons (q_tup (q_cons (q_ix (q_rd (i := 5) rfl (by first | exact .inl rfl | exact .inr (.inl rfl) | exact .inr (.inr rfl)) (by decide) (by decide)) (q_toR q_int) (fun _ _ => rfl)) (q_cons (q_un un_neg good_neg (q_toR q_int)) q_nil rfl) rfl)) (q_cons (q_data (w_list rfl T.n_list rfl (q_rd (i := 5) rfl (by first | exact .inl rfl | exact .inr (.inl rfl) | exact .inr (.inr rfl)) (by decide) (by decide)))) (q_cons (q_bin op_addA good_add (q_rd (i := 5) rfl (by first | exact .inl rfl | exact .inr (.inl rfl) | exact .inr (.inr rfl)) (by decide) (by decide)) (q_toR (q_tup (q_cons q_int q_nil rfl)))) q_nil rfl) rfl) rfl) rfl) rfl) rfl)))) (s_seq (s_own (i := 6) (ps_set (i := 6) sc_law_bent_4.nd rfl (by first | exact .inl rfl | exact .inr rfl) (q_cat (q_rd (i := 6) rfl (by first | exact .inl rfl | exact .inr (.inl rfl) | exact .inr (.inr rfl)) (by decide) (by decide)) (q_toR (q_data (q_disp (q_cons (q_slT (q_name (i := 5) rfl (by first | exact .inl rfl | exact .inr (.inl rfl) | exact .inr (.inr rfl)) (by decide) (by decide)) q_pNo (q_pSome (q_toR q_int))) (q_cons q_non (q_cons (q_tup (q_cons q_bl (q_cons (q_ix (q_rd (i := 5) rfl (by first | exact .inl rfl | exact .inr (.inl rfl) | exact .inr (.inr rfl)) (by decide) (by decide)) (q_toR q_int) (fun _ _ => rfl)) q_nil rfl) rfl)) (q_cons (q_tup (q_cons (q_ix (q_rd (i := 5) rfl (by first | exact .inl rfl | exact .inr (.inl rfl) | exact .inr (.inr rfl)) (by decide) (by decide)) (q_toR q_int) (fun _ _ => rfl)) (q_cons q_non q_nil rfl) rfl)) (q_cons (q_tup (q_cons q_str (q_cons q_int q_nil rfl) rfl)) (q_cons (q_tup (q_cons (q_name (i := 3) rfl (by first | exact .inl rfl | exact .inr (.inl rfl) | exact .inr (.inr rfl)) (by decide) (by decide)) (q_cons (q_name (i := 4) rfl (by first | exact .inl rfl | exact .inr (.inl rfl) | exact .inr (.inr rfl)) (by decide) (by decide)) q_nil rfl) rfl)) (q_cons (q_tup (q_cons q_int (q_cons q_int q_nil rfl) rfl)) (q_cons (q_tup (q_cons (q_un un_neg good_neg (q_toR q_int)) (q_cons q_int q_nil rfl) rfl)) q_nil rfl) rfl) rfl) rfl) rfl) rfl) rfl) rfl))))))) (s_seq (s_frz (i := 6) (s_asg (q_bin op_addA good_add (q_toR (q_bin op_addA good_add (q_toR (q_slT (q_name (i := 1) rfl (by first | exact .inl rfl | exact .inr (.inl rfl) | exact .inr (.inr rfl)) (by decide) (by decide)) q_pNo (q_pSome (q_rd (i := 2) rfl (by first | exact .inl rfl | exact .inr (.inl rfl) | exact .inr (.inr rfl)) (by decide) (by decide))))) (q_toR (q_tup (q_cons (q_call (C := fun _ => m_law_any_2) (nf := 0) rfl takes_fn (ok_law_any_2 T) (hr.mono (by decide)) rfl T.m_law_any_2 T.F_law_any_2.kp T.b_law_any_2 (q_cons (q_name (i := 0) rfl (by first | exact .inl rfl | exact .inr (.inl rfl) | exact .inr (.inr rfl)) (by decide) (by decide)) (q_cons (q_name (i := 6) rfl (by first | exact .inl rfl | exact .inr (.inl rfl) | exact .inr (.inr rfl)) (by decide) (by decide)) q_nil rfl) rfl) (by decide) rfl (len_cons (len_cons len_nil))) q_nil rfl))))) (q_toR (q_slT (q_name (i := 1) rfl (by first | exact .inl rfl | exact .inr (.inl rfl) | exact .inr (.inr rfl)) (by decide) (by decide)) (q_pSome (q_toR (q_bin op_addA good_add (q_rd (i := 2) rfl (by first | exact .inl rfl | exact .inr (.inl rfl) | exact .inr (.inr rfl)) (by decide) (by decide)) (q_toR q_int)))) q_pNo))) (g_nm (i := 7) sc_law_bent_4.nd rfl (by first | exact .inl rfl | exact .inr rfl) (by first | exact .inl rfl | exact .inr rfl)) rfl rfl rfl)) (s_seq (s_own (i := 8) (ps_set (i := 8) sc_law_bent_4.nd rfl (by first | exact .inl rfl | exact .inr rfl) (q_disp (q_cons (q_revT (q_name (i := 1) rfl (by first | exact .inl rfl | exact .inr (.inl rfl) | exact .inr (.inr rfl)) (by decide) (by decide))) (q_cons (q_bin op_addA good_add (q_toR (q_slT (q_name (i := 1) rfl (by first | exact .inl rfl | exact .inr (.inl rfl) | exact .inr (.inr rfl)) (by decide) (by decide)) (q_pSome (q_toR q_int)) q_pNo)) (q_toR (q_slT (q_name (i := 1) rfl (by first | exact .inl rfl | exact .inr (.inl rfl) | exact .inr (.inr rfl)) (by decide) (by decide)) q_pNo (q_pSome (q_toR q_int))))) (q_cons (q_slT (q_name (i := 1) rfl (by first | exact .inl rfl | exact .inr (.inl rfl) | exact .inr (.inr rfl)) (by decide) (by decide)) q_pNo (q_pSome (q_toR q_int))) (q_cons (q_bin op_addA good_add (q_toR (q_bin op_addA good_add (q_toR (q_slT (q_name (i := 1) rfl (by first | exact .inl rfl | exact .inr (.inl rfl) | exact .inr (.inr rfl)) (by decide) (by decide)) q_pNo (q_pSome (q_rd (i := 2) rfl (by first | exact .inl rfl | exact .inr (.inl rfl) | exact .inr (.inr rfl)) (by decide) (by decide))))) (q_toR (q_tup (q_cons (q_name (i := 5) rfl (by first | exact .inl rfl | exact .inr (.inl rfl) | exact .inr (.inr rfl)) (by decide) (by decide)) q_nil rfl))))) (q_toR (q_slT (q_name (i := 1) rfl (by first | exact .inl rfl | exact .inr (.inl rfl) | exact .inr (.inr rfl)) (by decide) (by decide)) (q_pSome (q_rd (i := 2) rfl (by first | exact .inl rfl | exact .inr (.inl rfl) | exact .inr (.inr rfl)) (by decide) (by decide))) q_pNo))) q_nil rfl) rfl) rfl) rfl)))) (s_seq (s_own (i := 8) (ps_set (i := 8) sc_law_bent_4.nd rfl (by first | exact .inl rfl | exact .inr rfl) (q_cat (q_rd (i := 8) rfl (by first | exact .inl rfl | exact .inr (.inl rfl) | exact .inr (.inr rfl)) (by decide) (by decide)) (q_toR (q_data (q_disp (q_cons (q_bin op_addA good_add (q_toR (q_bin op_addA good_add (q_toR (q_slT (q_name (i := 1) rfl (by first | exact .inl rfl | exact .inr (.inl rfl) | exact .inr (.inr rfl)) (by decide) (by decide)) q_pNo (q_pSome (q_rd (i := 2) rfl (by first | exact .inl rfl | exact .inr (.inl rfl) | exact .inr (.inr rfl)) (by decide) (by decide))))) (q_toR (q_tup (q_cons (q_tup (q_cons (q_name (i := 3) rfl (by first | exact .inl rfl | exact .inr (.inl rfl) | exact .inr (.inr rfl)) (by decide) (by decide)) (q_cons (q_name (i := 4) rfl (by first | exact .inl rfl | exact .inr (.inl rfl) | exact .inr (.inr rfl)) (by decide) (by decide)) q_nil rfl) rfl)) q_nil rfl))))) (q_toR (q_slT (q_name (i := 1) rfl (by first | exact .inl rfl | exact .inr (.inl rfl) | exact .inr (.inr rfl)) (by decide) (by decide)) (q_pSome (q_rd (i := 2) rfl (by first | exact .inl rfl | exact .inr (.inl rfl) | exact .inr (.inr rfl)) (by decide) (by decide))) q_pNo))) (q_cons (q_bin op_addA good_add (q_toR (q_slT (q_name (i := 1) rfl (by first | exact .inl rfl | exact .inr (.inl rfl) | exact .inr (.inr rfl)) (by decide) (by decide)) q_pNo (q_pSome (q_rd (i := 2) rfl (by first | exact .inl rfl | exact .inr (.inl rfl) | exact .inr (.inr rfl)) (by decide) (by decide))))) (q_toR (q_slT (q_name (i := 1) rfl (by first | exact .inl rfl | exact .inr (.inl rfl) | exact .inr (.inr rfl)) (by decide) (by decide)) (q_pSome (q_toR (q_bin op_addA good_add (q_rd (i := 2) rfl (by first | exact .inl rfl | exact .inr (.inl rfl) | exact .inr (.inr rfl)) (by decide) (by decide)) (q_toR q_int)))) q_pNo))) (q_cons (q_bin op_repT good_repT (q_rd (i := 1) rfl (by first | exact .inl rfl | exact .inr (.inl rfl) | exact .inr (.inr rfl)) (by decide) (by decide)) (q_toR q_int)) (q_cons (q_tup q_nil) q_nil rfl) rfl) rfl) rfl))))))) (s_seq (s_ret (q_call (C := fun _ => m_law_any_2) (nf := 0) rfl takes_fn (ok_law_any_2 T) (hr.mono (by decide)) rfl T.m_law_any_2 T.F_law_any_2.kp T.b_law_any_2 (q_cons (q_name (i := 0) rfl (by first | exact .inl rfl | exact .inr (.inl rfl) | exact .inr (.inr rfl)) (by decide) (by decide)) (q_cons (q_data (q_cat (q_toR (q_data (q_cat (q_toR (q_data (q_rep (q_toR (q_data (q_disp (q_cons (q_name (i := 7) rfl (by first | exact .inl rfl | exact .inr (.inl rfl) | exact .inr (.inr rfl)) (by decide) (by decide)) q_nil rfl)))) (q_toR q_int)))) (q_rd (i := 8) rfl (by first | exact .inl rfl | exact .inr (.inl rfl) | exact .inr (.inr rfl)) (by decide) (by decide))))) (q_toR (q_data (q_disp (q_cons (q_data (w_list rfl T.n_list rfl (q_rd (i := 1) rfl (by first | exact .inl rfl | exact .inr (.inl rfl) | exact .inr (.inr rfl)) (by decide) (by decide)))) (q_cons q_non (q_cons q_int (q_cons q_emp (q_cons q_str (q_cons (q_tup (q_cons (q_name (i := 1) rfl (by first | exact .inl rfl | exact .inr (.inl rfl) | exact .inr (.inr rfl)) (by decide) (by decide)) q_nil rfl)) (q_cons (q_call (C := fun _ => m_law_deep_3) (nf := 0) rfl takes_fn (ok_law_deep_3 T) (hr.mono (by decide)) rfl T.m_law_deep_3 T.F_law_deep_3.kp T.b_law_deep_3 (q_cons (q_name (i := 0) rfl (by first | exact .inl rfl | exact .inr (.inl rfl) | exact .inr (.inr rfl)) (by decide) (by decide)) q_nil rfl) (by decide) rfl (len_cons len_nil)) q_nil rfl) rfl) rfl) rfl) rfl) rfl) rfl)))))) q_nil rfl) rfl) (by decide) rfl (len_cons (len_cons len_nil)))) s_nil))))))))
theorem ok_law_corners_3 : FnG PP w K mg base 3 (He.fAd K ((PySem.Str.ofString "_law_corners"), none)) (fdAt K ((PySem.Str.ofString "_law_corners"), none)) [(PySem.Str.ofString "hand"), (PySem.Str.ofString "wide")] (spM K (ctA K) (xtA K) m_law_corners_3 2) :=
  fn_ruleC T.F_law_corners_3 sc_law_corners_3 rfl (fun _ _ => rfl) fun A outer s H E g hgK hr =>
  (s_seq (s_par3 (i := 2) (j := 3) (l := 4) rfl sc_law_corners_3.nd rfl rfl rfl (by decide) (by decide) (by decide) rfl rfl rfl q_non (q_call (C := fun _ => m_law_any_2) (nf := 0) rfl takes_fn (ok_law_any_2 T) (hr.mono (by decide)) rfl T.m_law_any_2 T.F_law_any_2.kp T.b_law_any_2 (q_cons (q_name (i := 0) rfl (by first | exact .inl rfl | exact .inr (.inl rfl) | exact .inr (.inr rfl)) (by decide) (by decide)) (q_cons (q_data (q_disp (q_cons q_int (q_cons q_int (q_cons (q_un un_neg good_neg (q_toR q_int)) (q_cons q_int q_nil rfl) rfl) rfl) rfl))) q_nil rfl) rfl) (by decide) rfl (len_cons (len_cons len_nil))) (q_call (C := fun _ => m_law_any_2) (nf := 0) rfl takes_fn (ok_law_any_2 T) (hr.mono (by decide)) rfl T.m_law_any_2 T.F_law_any_2.kp T.b_law_any_2 (q_cons (q_name (i := 0) rfl (by first | exact .inl rfl | exact .inr (.inl rfl) | exact .inr (.inr rfl)) (by decide) (by decide)) (q_cons (q_data (q_disp (q_cons q_int (q_cons q_int (q_cons (q_un un_neg good_neg (q_toR q_int)) (q_cons (q_un un_neg good_neg (q_toR q_int)) q_nil rfl) rfl) rfl) rfl))) q_nil rfl) rfl) (by decide) rfl (len_cons (len_cons len_nil))) rfl rfl rfl rfl rfl) (s_seq (s_while passes_fn (q_isNT (q_rd (i := 2) rfl (by first | exact .inl rfl | exact .inr (.inl rfl) | exact .inr (.inr rfl)) (by decide) (by decide))) (s_seq (s_own (i := 5) (ps_set (i := 5) sc_law_corners_3.nd rfl (by first | exact .inl rfl | exact .inr rfl) (q_disp q_nil))) (s_seq (s_for passes_fn rfl (i_range1 rfl T.n_range rfl (q_toR (q_bin op_addA good_add (q_toR q_int) (q_toR (q_call (C := fun _ => m_law_draw_3) (nf := 0) rfl takes_fn (ok_law_draw_3 T) (hr.mono (by decide)) rfl T.m_law_draw_3 T.F_law_draw_3.kp T.b_law_draw_3 (q_cons (q_name (i := 0) rfl (by first | exact .inl rfl | exact .inr (.inl rfl) | exact .inr (.inr rfl)) (by decide) (by decide)) (q_cons q_int q_nil rfl) rfl) (by decide) rfl (len_cons (len_cons len_nil))))))) (g_nm (i := 6) sc_law_corners_3.nd rfl (by first | exact .inl rfl | exact .inr rfl) (by first | exact .inl rfl | exact .inr rfl)) (s_seq (s_app (i := 5) rfl (by first | exact .inl rfl | exact .inr (.inl rfl) | exact .inr (.inr rfl)) (by decide) (by decide) rfl rfl (q_tup (q_cons (q_bin op_addA good_add (q_rd (i := 3) rfl (by first | exact .inl rfl | exact .inr (.inl rfl) | exact .inr (.inr rfl)) (by decide) (by decide)) (q_toR (q_call (C := fun _ => m_law_draw_3) (nf := 0) rfl takes_fn (ok_law_draw_3 T) (hr.mono (by decide)) rfl T.m_law_draw_3 T.F_law_draw_3.kp T.b_law_draw_3 (q_cons (q_name (i := 0) rfl (by first | exact .inl rfl | exact .inr (.inl rfl) | exact .inr (.inr rfl)) (by decide) (by decide)) (q_cons (q_bin op_addA good_add (q_rd (i := 1) rfl (by first | exact .inl rfl | exact .inr (.inl rfl) | exact .inr (.inr rfl)) (by decide) (by decide)) (q_toR q_int)) q_nil rfl) rfl) (by decide) rfl (len_cons (len_cons len_nil))))) (q_cons (q_bin op_addA good_add (q_rd (i := 4) rfl (by first | exact .inl rfl | exact .inr (.inl rfl) | exact .inr (.inr rfl)) (by decide) (by decide)) (q_toR (q_call (C := fun _ => m_law_draw_3) (nf := 0) rfl takes_fn (ok_law_draw_3 T) (hr.mono (by decide)) rfl T.m_law_draw_3 T.F_law_draw_3.kp T.b_law_draw_3 (q_cons (q_name (i := 0) rfl (by first | exact .inl rfl | exact .inr (.inl rfl) | exact .inr (.inr rfl)) (by decide) (by decide)) (q_cons (q_bin op_addA good_add (q_rd (i := 1) rfl (by first | exact .inl rfl | exact .inr (.inl rfl) | exact .inr (.inr rfl)) (by decide) (by decide)) (q_toR q_int)) q_nil rfl) rfl) (by decide) rfl (len_cons (len_cons len_nil))))) q_nil rfl) rfl))) s_nil) (fun _ => rfl)) (s_seq (s_frz (i := 5) (s_asg (q_call (C := fun _ => m_law_hull_3) (nf := 0) rfl takes_fn (ok_law_hull_3 T) (hr.mono (by decide)) rfl T.m_law_hull_3 T.F_law_hull_3.kp T.b_law_hull_3 (q_cons (q_name (i := 5) rfl (by first | exact .inl rfl | exact .inr (.inl rfl) | exact .inr (.inr rfl)) (by decide) (by decide)) q_nil rfl) (by decide) rfl (len_cons len_nil)) (g_nm (i := 2) sc_law_corners_3.nd rfl (by first | exact .inl rfl | exact .inr rfl) (by first | exact .inl rfl | exact .inr rfl)) rfl rfl rfl)) s_nil)))) (s_seq (s_ret (q_name (i := 2) rfl (by first | exact .inl rfl | exact .inr (.inl rfl) | exact .inr (.inr rfl)) (by decide) (by decide))) s_nil)))
theorem ok_law_hand_2 : FnG PP w K mg base 1 (He.fAd K ((PySem.Str.ofString "_law_hand"), none)) (fdAt K ((PySem.Str.ofString "_law_hand"), none)) [(PySem.Str.ofString "script")] (spM K (ctA K) (xtA K) m_law_hand_2 1) :=
  fn_ruleC T.F_law_hand_2 sc_law_hand_2 rfl (fun _ _ => rfl) fun A outer s H E g hgK hr =>
  (s_seq (s_own (i := 1) (q_setComp rfl sc_law_hand_2.nd (i := 1) rfl rfl rfl (i_seq (q_data (q_slL rfl (q_rd (i := 0) rfl (by first | exact .inl rfl | exact .inr (.inl rfl) | exact .inr (.inr rfl)) (by decide) (by decide)) q_pNo (q_pSome (q_toR q_int))))) (own := [((PySem.Str.ofString "cell"), 2)]) (blk_ok (N := [(PySem.Str.ofString "script"), (PySem.Str.ofString "cells"), (PySem.Str.ofString "cell")]) (sc := defScope st_law_hand_2) (by decide +kernel)) (by decide) (fun _ _ _ _ _ => (g_nm (i := 2) sc_law_hand_2.nd rfl (by first | exact .inl rfl | exact .inr rfl) (by first | exact .inl rfl | exact .inr rfl))) (fun _ _ _ _ _ => q_tsNil) (fun _ _ _ _ _ => (w_abs rfl T.n_abs rfl (q_toR (w_int rfl T.n_int rfl (q_rd (i := 2) rfl (by first | exact .inl rfl | exact .inr (.inl rfl) | exact .inr (.inr rfl)) (by decide) (by decide)))))) (fun _ => rfl))) (s_seq (s_frz (i := 1) (s_ret (q_cellL (q_disp (q_cons (q_name (i := 1) rfl (by first | exact .inl rfl | exact .inr (.inl rfl) | exact .inr (.inr rfl)) (by decide) (by decide)) (q_cons q_int (q_cons q_int (q_cons (q_bin op_addA good_add (q_toR q_int) (q_toR (w_len rfl rfl T.n_len rfl (q_rd (i := 1) rfl (by first | exact .inl rfl | exact .inr (.inl rfl) | exact .inr (.inr rfl)) (by decide) (by decide))))) (q_cons q_int q_nil rfl) rfl) rfl) rfl) rfl))))) s_nil))
theorem ok_law_k05 (TB : LamX.TabB base mg (He.codeOf K ((PySem.Str.ofString "law"), none)) (He.tabOf K (He.codeOf K ((PySem.Str.ofString "law"), none)))) : FnG PP w K mg base 9 (He.fAd K ((PySem.Str.ofString "law"), none)) (fdAt K ((PySem.Str.ofString "law"), none)) [(PySem.Str.ofString "script")] (spM K (ctA K) (xtA K) m_law_k05 1) :=
  fn_ruleC T.F_law_k05 sc_law_k05 rfl (fun _ _ => rfl) fun A outer s H E g hgK hr =>
  (s_seq (s_asg (q_call (C := fun _ => m_law_hand_2) (nf := 0) rfl takes_fn (ok_law_hand_2 T) (hr.mono (by decide)) rfl T.m_law_hand_2 T.F_law_hand_2.kp T.b_law_hand_2 (q_cons (q_name (i := 0) rfl (by first | exact .inl rfl | exact .inr (.inl rfl) | exact .inr (.inr rfl)) (by decide) (by decide)) q_nil rfl) (by decide) rfl (len_cons len_nil)) (g_nm (i := 1) sc_law_k05.nd rfl (by first | exact .inl rfl | exact .inr rfl) (by first | exact .inl rfl | exact .inr rfl)) rfl rfl rfl) (s_seq (s_if (q_cmpT (op_neD (by have := hr.r.units; exact this)) good_ne (q_toR (q_lam (n := 0) (j := 1000) (k := 6) rfl rfl takes_fn rfl T.m_law_word_5 T.F_law_word_5.fu sc_law_word_5 (wd_law_word_5 T _) T.b_law_word_5 (TB) T.hc rfl rfl (hr.mono (by decide)) (LamX.lamS_by (sc := defScope st_law_k05) (by decide +kernel)) rfl (fun _ _ _ _ _ => rfl) (fun _ _ _ _ _ _ _ hr => slam_of fun _ _ => (q_new (Cs := fun _ => m_Shape_init) (nf := 0) rfl takes_lam T.mk_Shape (ok_Shape_init T) (hr.mono (by decide)) rfl T.m_Shape rfl T.b_Shape_init (q_cons (q_tup (q_cons (q_tup (q_cons q_int (q_cons q_int q_nil rfl) rfl)) (q_cons (q_tup (q_cons q_int (q_cons q_int q_nil rfl) rfl)) (q_cons (q_tup (q_cons q_int (q_cons q_int q_nil rfl) rfl)) q_nil rfl) rfl) rfl)) q_nil rfl) (by decide) rfl (len_succ (len_cons len_nil)))) rfl (.inl rfl) (by decide) (by decide) (by decide))) (q_toR q_str) rfl) (s_seq (s_ret q_bl) s_nil) s_nil) (s_seq (s_if (q_cmpT (op_neD (by have := hr.r.units; exact this)) good_ne (q_toR (q_lam (n := 0) (j := 1000) (k := 6) rfl rfl takes_fn rfl T.m_law_word_5 T.F_law_word_5.fu sc_law_word_5 (wd_law_word_5 T _) T.b_law_word_5 (TB) T.hc rfl rfl (hr.mono (by decide)) (LamX.lamS_by (sc := defScope st_law_k05) (by decide +kernel)) rfl (fun _ _ _ _ _ => rfl) (fun _ _ _ _ _ _ _ hr => slam_of fun _ _ => (q_new (Cs := fun _ => m_Shape_init) (nf := 0) rfl takes_lam T.mk_Shape (ok_Shape_init T) (hr.mono (by decide)) rfl T.m_Shape rfl T.b_Shape_init (q_cons (q_tup (q_cons (q_tup (q_cons (q_un un_neg good_neg (q_toR q_int)) (q_cons (q_un un_neg good_neg (q_toR q_int)) q_nil rfl) rfl)) (q_cons (q_tup (q_cons q_int (q_cons (q_un un_neg good_neg (q_toR q_int)) q_nil rfl) rfl)) (q_cons (q_tup (q_cons q_int (q_cons q_int q_nil rfl) rfl)) q_nil rfl) rfl) rfl)) q_nil rfl) (by decide) rfl (len_succ (len_cons len_nil)))) rfl (.inl rfl) (by decide) (by decide) (by decide))) (q_toR q_str) rfl) (s_seq (s_ret q_bl) s_nil) s_nil) (s_seq (s_for passes_fn rfl (i_range1 rfl T.n_range rfl (q_toR q_int)) (g_nm (i := 2) sc_law_k05.nd rfl (by first | exact .inl rfl | exact .inr rfl) (by first | exact .inl rfl | exact .inr rfl)) (s_seq (s_asg (q_call (C := fun _ => m_law_corners_3) (nf := 0) rfl takes_fn (ok_law_corners_3 T) (hr.mono (by decide)) rfl T.m_law_corners_3 T.F_law_corners_3.kp T.b_law_corners_3 (q_cons (q_name (i := 1) rfl (by first | exact .inl rfl | exact .inr (.inl rfl) | exact .inr (.inr rfl)) (by decide) (by decide)) (q_cons q_int q_nil rfl) rfl) (by decide) rfl (len_cons (len_cons len_nil))) (g_nm (i := 3) sc_law_k05.nd rfl (by first | exact .inl rfl | exact .inr rfl) (by first | exact .inl rfl | exact .inr rfl)) rfl rfl rfl) (s_seq (s_asg (q_new (Cs := fun _ => m_Shape_init) (nf := 0) rfl takes_fn T.mk_Shape (ok_Shape_init T) (hr.mono (by decide)) rfl T.m_Shape rfl T.b_Shape_init (q_cons (q_name (i := 3) rfl (by first | exact .inl rfl | exact .inr (.inl rfl) | exact .inr (.inr rfl)) (by decide) (by decide)) q_nil rfl) (by decide) rfl (len_succ (len_cons len_nil))) (g_nm (i := 4) sc_law_k05.nd rfl (by first | exact .inl rfl | exact .inr rfl) (by first | exact .inl rfl | exact .inr rfl)) rfl rfl rfl) (s_seq (s_for passes_fn rfl (i_range1 rfl T.n_range rfl (q_toR q_int)) (g_nm (i := 5) sc_law_k05.nd rfl (by first | exact .inl rfl | exact .inr rfl) (by first | exact .inl rfl | exact .inr rfl)) (s_seq (s_asg (q_call (C := fun _ => m_law_bent_4) (nf := 0) rfl takes_fn (ok_law_bent_4 T) (hr.mono (by decide)) rfl T.m_law_bent_4 T.F_law_bent_4.kp T.b_law_bent_4 (q_cons (q_name (i := 1) rfl (by first | exact .inl rfl | exact .inr (.inl rfl) | exact .inr (.inr rfl)) (by decide) (by decide)) (q_cons (q_name (i := 3) rfl (by first | exact .inl rfl | exact .inr (.inl rfl) | exact .inr (.inr rfl)) (by decide) (by decide)) q_nil rfl) rfl) (by decide) rfl (len_cons (len_cons len_nil))) (g_nm (i := 6) sc_law_k05.nd rfl (by first | exact .inl rfl | exact .inr rfl) (by first | exact .inl rfl | exact .inr rfl)) rfl rfl rfl) (s_seq (s_if (q_cmpT (op_neD (by have := hr.r.units; exact this)) good_ne (q_toR (q_lam (n := 0) (j := 1000) (k := 6) rfl rfl takes_fn rfl T.m_law_word_5 T.F_law_word_5.fu sc_law_word_5 (wd_law_word_5 T _) T.b_law_word_5 (TB) T.hc rfl rfl (hr.mono (by decide)) (LamX.lamS_by (sc := defScope st_law_k05) (by decide +kernel)) rfl (fun _ _ _ _ _ => rfl) (fun _ _ _ _ _ _ _ hr => slam_of fun _ _ => (q_new (Cs := fun _ => m_Shape_init) (nf := 0) rfl takes_lam T.mk_Shape (ok_Shape_init T) (hr.mono (by decide)) rfl T.m_Shape rfl T.b_Shape_init (q_cons (q_name (i := 6) rfl (by first | exact .inl rfl | exact .inr (.inl rfl) | exact .inr (.inr rfl)) (by decide) (by decide)) q_nil rfl) (by decide) rfl (len_succ (len_cons len_nil)))) rfl (.inl rfl) (by decide) (by decide) (by decide))) (q_toR (q_if (q_val (q_call (C := fun _ => m_law_are_corners) (nf := 0) rfl takes_fn (ok_law_are_corners T) (hr.mono (by decide)) rfl T.m_law_are_corners T.F_law_are_corners.kp T.b_law_are_corners (q_cons (q_name (i := 6) rfl (by first | exact .inl rfl | exact .inr (.inl rfl) | exact .inr (.inr rfl)) (by decide) (by decide)) q_nil rfl) (by decide) rfl (len_cons len_nil)) (fun _ => rfl)) q_str q_str)) rfl) (s_seq (s_ret q_bl) s_nil) s_nil) s_nil)) (fun _ => rfl)) (s_seq (s_own (i := 7) (ps_set (i := 7) sc_law_k05.nd rfl (by first | exact .inl rfl | exact .inr rfl) (q_disp (q_cons q_non (q_cons q_int (q_cons q_str (q_cons (q_tup (q_cons q_int q_nil rfl)) (q_cons (q_tup (q_cons q_int (q_cons q_int (q_cons q_int q_nil rfl) rfl) rfl)) (q_cons (q_data (q_disp (q_cons q_int (q_cons q_int q_nil rfl) rfl))) (q_cons (q_tup (q_cons q_int (q_cons q_int q_nil rfl) rfl)) (q_cons (q_tup (q_cons q_int (q_cons (q_un un_neg good_neg (q_toR q_int)) q_nil rfl) rfl)) (q_cons (q_tup (q_cons q_bl (q_cons q_int q_nil rfl) rfl)) (q_cons (q_tup (q_cons q_non (q_cons q_int q_nil rfl) rfl)) (q_cons q_emp q_nil rfl) rfl) rfl) rfl) rfl) rfl) rfl) rfl) rfl) rfl) rfl)))) (s_seq (s_asg (q_call (C := fun _ => m_law_any_2) (nf := 0) rfl takes_fn (ok_law_any_2 T) (hr.mono (by decide)) rfl T.m_law_any_2 T.F_law_any_2.kp T.b_law_any_2 (q_cons (q_name (i := 1) rfl (by first | exact .inl rfl | exact .inr (.inl rfl) | exact .inr (.inr rfl)) (by decide) (by decide)) (q_cons (q_data (q_cat (q_rd (i := 7) rfl (by first | exact .inl rfl | exact .inr (.inl rfl) | exact .inr (.inr rfl)) (by decide) (by decide)) (q_toR (q_data (q_disp (q_cons (q_call (C := fun _ => m_law_deep_3) (nf := 0) rfl takes_fn (ok_law_deep_3 T) (hr.mono (by decide)) rfl T.m_law_deep_3 T.F_law_deep_3.kp T.b_law_deep_3 (q_cons (q_name (i := 1) rfl (by first | exact .inl rfl | exact .inr (.inl rfl) | exact .inr (.inr rfl)) (by decide) (by decide)) q_nil rfl) (by decide) rfl (len_cons len_nil)) q_nil rfl)))))) q_nil rfl) rfl) (by decide) rfl (len_cons (len_cons len_nil))) (g_nm (i := 8) sc_law_k05.nd rfl (by first | exact .inl rfl | exact .inr rfl) (by first | exact .inl rfl | exact .inr rfl)) rfl rfl rfl) (s_seq (s_own (i := 7) (ps_set (i := 7) sc_law_k05.nd rfl (by first | exact .inl rfl | exact .inr rfl) (q_disp (q_cons q_non (q_cons (q_tup q_nil) (q_cons (q_data (w_list rfl T.n_list rfl (q_rd (i := 3) rfl (by first | exact .inl rfl | exact .inr (.inl rfl) | exact .inr (.inr rfl)) (by decide) (by decide)))) (q_cons (q_bin op_addA good_add (q_rd (i := 3) rfl (by first | exact .inl rfl | exact .inr (.inl rfl) | exact .inr (.inr rfl)) (by decide) (by decide)) (q_toR (q_tup (q_cons (q_name (i := 8) rfl (by first | exact .inl rfl | exact .inr (.inl rfl) | exact .inr (.inr rfl)) (by decide) (by decide)) q_nil rfl)))) (q_cons (q_tup (q_cons (q_name (i := 8) rfl (by first | exact .inl rfl | exact .inr (.inl rfl) | exact .inr (.inr rfl)) (by decide) (by decide)) q_nil rfl)) (q_cons (q_bin op_repT good_repT (q_rd (i := 3) rfl (by first | exact .inl rfl | exact .inr (.inl rfl) | exact .inr (.inr rfl)) (by decide) (by decide)) (q_toR q_int)) (q_cons q_int (q_cons q_str (q_cons q_emp (q_cons (q_tup (q_cons (q_name (i := 3) rfl (by first | exact .inl rfl | exact .inr (.inl rfl) | exact .inr (.inr rfl)) (by decide) (by decide)) q_nil rfl)) q_nil rfl) rfl) rfl) rfl) rfl) rfl) rfl) rfl) rfl) rfl)))) (s_seq (s_asg (q_call (C := fun _ => m_law_any_2) (nf := 0) rfl takes_fn (ok_law_any_2 T) (hr.mono (by decide)) rfl T.m_law_any_2 T.F_law_any_2.kp T.b_law_any_2 (q_cons (q_name (i := 1) rfl (by first | exact .inl rfl | exact .inr (.inl rfl) | exact .inr (.inr rfl)) (by decide) (by decide)) (q_cons (q_data (q_cat (q_rd (i := 7) rfl (by first | exact .inl rfl | exact .inr (.inl rfl) | exact .inr (.inr rfl)) (by decide) (by decide)) (q_toR (q_data (q_disp (q_cons (q_call (C := fun _ => m_law_deep_3) (nf := 0) rfl takes_fn (ok_law_deep_3 T) (hr.mono (by decide)) rfl T.m_law_deep_3 T.F_law_deep_3.kp T.b_law_deep_3 (q_cons (q_name (i := 1) rfl (by first | exact .inl rfl | exact .inr (.inl rfl) | exact .inr (.inr rfl)) (by decide) (by decide)) q_nil rfl) (by decide) rfl (len_cons len_nil)) q_nil rfl)))))) q_nil rfl) rfl) (by decide) rfl (len_cons (len_cons len_nil))) (g_nm (i := 9) sc_law_k05.nd rfl (by first | exact .inl rfl | exact .inr rfl) (by first | exact .inl rfl | exact .inr rfl)) rfl rfl rfl) (s_seq (s_asg (q_call (C := fun _ => m_steps) (nf := 0) rfl takes_fn (ok_steps T) (hr.mono (by decide)) rfl T.m_steps T.F_steps.kp T.b_steps (q_cons (q_name (i := 4) rfl (by first | exact .inl rfl | exact .inr (.inl rfl) | exact .inr (.inr rfl)) (by decide) (by decide)) q_nil rfl) (by decide) rfl (len_cons len_nil)) (g_nm (i := 10) sc_law_k05.nd rfl (by first | exact .inl rfl | exact .inr rfl) (by first | exact .inl rfl | exact .inr rfl)) rfl rfl rfl) (s_seq (s_asg (q_ix (q_rd (i := 10) rfl (by first | exact .inl rfl | exact .inr (.inl rfl) | exact .inr (.inr rfl)) (by decide) (by decide)) (q_toR q_int) (fun _ _ => rfl)) (g_tup rfl (g_cons (g_nm (i := 11) sc_law_k05.nd rfl (by first | exact .inl rfl | exact .inr rfl) (by first | exact .inl rfl | exact .inr rfl)) (g_cons (g_nm (i := 12) sc_law_k05.nd rfl (by first | exact .inl rfl | exact .inr rfl) (by first | exact .inl rfl | exact .inr rfl)) g_nil rfl) rfl) rfl rfl) rfl rfl rfl) (s_seq (s_own (i := 13) (ps_set (i := 13) sc_law_k05.nd rfl (by first | exact .inl rfl | exact .inr rfl) (q_disp (q_cons (q_tup (q_cons (q_tup (q_cons (q_bin op_mul good_mul (q_toR q_int) (q_toR (q_ix (q_rd (i := 11) rfl (by first | exact .inl rfl | exact .inr (.inl rfl) | exact .inr (.inr rfl)) (by decide) (by decide)) (q_toR q_int) (fun _ _ => rfl)))) (q_cons (q_bin op_mul good_mul (q_toR q_int) (q_toR (q_ix (q_rd (i := 11) rfl (by first | exact .inl rfl | exact .inr (.inl rfl) | exact .inr (.inr rfl)) (by decide) (by decide)) (q_toR q_int) (fun _ _ => rfl)))) q_nil rfl) rfl)) (q_cons (q_name (i := 12) rfl (by first | exact .inl rfl | exact .inr (.inl rfl) | exact .inr (.inr rfl)) (by decide) (by decide)) q_nil rfl) rfl)) (q_cons (q_tup (q_cons (q_name (i := 11) rfl (by first | exact .inl rfl | exact .inr (.inl rfl) | exact .inr (.inr rfl)) (by decide) (by decide)) (q_cons (q_bin op_addA good_add (q_rd (i := 12) rfl (by first | exact .inl rfl | exact .inr (.inl rfl) | exact .inr (.inr rfl)) (by decide) (by decide)) (q_toR q_int)) q_nil rfl) rfl)) (q_cons (q_tup (q_cons (q_name (i := 11) rfl (by first | exact .inl rfl | exact .inr (.inl rfl) | exact .inr (.inr rfl)) (by decide) (by decide)) (q_cons q_int q_nil rfl) rfl)) (q_cons (q_tup (q_cons (q_name (i := 11) rfl (by first | exact .inl rfl | exact .inr (.inl rfl) | exact .inr (.inr rfl)) (by decide) (by decide)) (q_cons q_bl q_nil rfl) rfl)) (q_cons (q_name (i := 11) rfl (by first | exact .inl rfl | exact .inr (.inl rfl) | exact .inr (.inr rfl)) (by decide) (by decide)) q_nil rfl) rfl) rfl) rfl) rfl)))) (s_seq (s_own (i := 13) (ps_set (i := 13) sc_law_k05.nd rfl (by first | exact .inl rfl | exact .inr rfl) (q_cat (q_rd (i := 13) rfl (by first | exact .inl rfl | exact .inr (.inl rfl) | exact .inr (.inr rfl)) (by decide) (by decide)) (q_toR (q_data (q_disp (q_cons (q_tup (q_cons (q_name (i := 11) rfl (by first | exact .inl rfl | exact .inr (.inl rfl) | exact .inr (.inr rfl)) (by decide) (by decide)) (q_cons (q_name (i := 12) rfl (by first | exact .inl rfl | exact .inr (.inl rfl) | exact .inr (.inr rfl)) (by decide) (by decide)) (q_cons q_int q_nil rfl) rfl) rfl)) (q_cons (q_tup (q_cons q_non (q_cons q_int q_nil rfl) rfl)) (q_cons (q_data (q_disp (q_cons (q_name (i := 11) rfl (by first | exact .inl rfl | exact .inr (.inl rfl) | exact .inr (.inr rfl)) (by decide) (by decide)) (q_cons (q_name (i := 12) rfl (by first | exact .inl rfl | exact .inr (.inl rfl) | exact .inr (.inr rfl)) (by decide) (by decide)) q_nil rfl) rfl))) (q_cons (q_tup (q_cons (q_data (w_list rfl T.n_list rfl (q_rd (i := 11) rfl (by first | exact .inl rfl | exact .inr (.inl rfl) | exact .inr (.inr rfl)) (by decide) (by decide)))) (q_cons (q_name (i := 12) rfl (by first | exact .inl rfl | exact .inr (.inl rfl) | exact .inr (.inr rfl)) (by decide) (by decide)) q_nil rfl) rfl)) q_nil rfl) rfl) rfl) rfl))))))) (s_seq (s_frz (i := 13) (s_own (i := 14) (ps_set (i := 14) sc_law_k05.nd rfl (by first | exact .inl rfl | exact .inr rfl) (q_cat (q_toR (q_data (q_disp (q_cons q_non (q_cons (q_tup q_nil) (q_cons (q_data (w_list rfl T.n_list rfl (q_rd (i := 10) rfl (by first | exact .inl rfl | exact .inr (.inl rfl) | exact .inr (.inr rfl)) (by decide) (by decide)))) (q_cons (q_slT (q_name (i := 10) rfl (by first | exact .inl rfl | exact .inr (.inl rfl) | exact .inr (.inr rfl)) (by decide) (by decide)) q_pNo (q_pSome (q_toR q_int))) (q_cons (q_slT (q_name (i := 10) rfl (by first | exact .inl rfl | exact .inr (.inl rfl) | exact .inr (.inr rfl)) (by decide) (by decide)) (q_pSome (q_toR q_int)) q_pNo) (q_cons (q_bin op_addA good_add (q_rd (i := 10) rfl (by first | exact .inl rfl | exact .inr (.inl rfl) | exact .inr (.inr rfl)) (by decide) (by decide)) (q_toR (q_slT (q_name (i := 10) rfl (by first | exact .inl rfl | exact .inr (.inl rfl) | exact .inr (.inr rfl)) (by decide) (by decide)) q_pNo (q_pSome (q_toR q_int))))) q_nil rfl) rfl) rfl) rfl) rfl) rfl)))) (q_toR (q_data (q_comp rfl sc_law_k05.nd (i_seq (q_name (i := 13) rfl (by first | exact .inl rfl | exact .inr (.inl rfl) | exact .inr (.inr rfl)) (by decide) (by decide))) (own := [((PySem.Str.ofString "pair"), 15)]) (blk_ok (N := [(PySem.Str.ofString "script"), (PySem.Str.ofString "hand"), (PySem.Str.ofString "turn"), (PySem.Str.ofString "corners"), (PySem.Str.ofString "shape"), (PySem.Str.ofString "again"), (PySem.Str.ofString "bent"), (PySem.Str.ofString "some"), (PySem.Str.ofString "odd"), (PySem.Str.ofString "none"), (PySem.Str.ofString "told"), (PySem.Str.ofString "step"), (PySem.Str.ofString "number"), (PySem.Str.ofString "pairs"), (PySem.Str.ofString "bad"), (PySem.Str.ofString "pair"), (PySem.Str.ofString "one"), (PySem.Str.ofString "many"), (PySem.Str.ofString "words")]) (sc := defScope st_law_k05) (by decide +kernel)) (by decide) (fun _ _ _ _ _ => (g_nm (i := 15) sc_law_k05.nd rfl (by first | exact .inl rfl | exact .inr rfl) (by first | exact .inl rfl | exact .inr rfl))) (fun _ _ _ _ _ => q_tsNil) (fun _ _ _ _ _ => (q_bin op_addA good_add (q_toR (q_tup (q_cons (q_name (i := 15) rfl (by first | exact .inl rfl | exact .inr (.inl rfl) | exact .inr (.inr rfl)) (by decide) (by decide)) q_nil rfl))) (q_toR (q_slT (q_name (i := 10) rfl (by first | exact .inl rfl | exact .inr (.inl rfl) | exact .inr (.inr rfl)) (by decide) (by decide)) (q_pSome (q_toR q_int)) q_pNo)))) (fun _ => rfl)))))))) (s_seq (s_app (i := 14) rfl (by first | exact .inl rfl | exact .inr (.inl rfl) | exact .inr (.inr rfl)) (by decide) (by decide) rfl rfl (w_tuple rfl T.n_tuple rfl (q_toR (q_data (q_comp rfl sc_law_k05.nd (i_seq (q_name (i := 10) rfl (by first | exact .inl rfl | exact .inr (.inl rfl) | exact .inr (.inr rfl)) (by decide) (by decide))) (own := [((PySem.Str.ofString "one"), 16), ((PySem.Str.ofString "many"), 17)]) (blk_ok (N := [(PySem.Str.ofString "script"), (PySem.Str.ofString "hand"), (PySem.Str.ofString "turn"), (PySem.Str.ofString "corners"), (PySem.Str.ofString "shape"), (PySem.Str.ofString "again"), (PySem.Str.ofString "bent"), (PySem.Str.ofString "some"), (PySem.Str.ofString "odd"), (PySem.Str.ofString "none"), (PySem.Str.ofString "told"), (PySem.Str.ofString "step"), (PySem.Str.ofString "number"), (PySem.Str.ofString "pairs"), (PySem.Str.ofString "bad"), (PySem.Str.ofString "pair"), (PySem.Str.ofString "one"), (PySem.Str.ofString "many"), (PySem.Str.ofString "words")]) (sc := defScope st_law_k05) (by decide +kernel)) (by decide) (fun _ _ _ _ _ => (g_tup rfl (g_cons (g_nm (i := 16) sc_law_k05.nd rfl (by first | exact .inl rfl | exact .inr rfl) (by first | exact .inl rfl | exact .inr rfl)) (g_cons (g_nm (i := 17) sc_law_k05.nd rfl (by first | exact .inl rfl | exact .inr rfl) (by first | exact .inl rfl | exact .inr rfl)) g_nil rfl) rfl) rfl rfl)) (fun _ _ _ _ _ => q_tsNil) (fun _ _ _ _ _ => (q_tup (q_cons (q_name (i := 16) rfl (by first | exact .inl rfl | exact .inr (.inl rfl) | exact .inr (.inr rfl)) (by decide) (by decide)) (q_cons (q_bin op_mul good_mul (q_toR q_int) (q_rd (i := 17) rfl (by first | exact .inl rfl | exact .inr (.inl rfl) | exact .inr (.inr rfl)) (by decide) (by decide))) q_nil rfl) rfl))) (fun _ => rfl)))))) (s_seq (s_asg (q_call (C := fun _ => m_law_any_2) (nf := 0) rfl takes_fn (ok_law_any_2 T) (hr.mono (by decide)) rfl T.m_law_any_2 T.F_law_any_2.kp T.b_law_any_2 (q_cons (q_name (i := 1) rfl (by first | exact .inl rfl | exact .inr (.inl rfl) | exact .inr (.inr rfl)) (by decide) (by decide)) (q_cons (q_data (q_cat (q_rd (i := 14) rfl (by first | exact .inl rfl | exact .inr (.inl rfl) | exact .inr (.inr rfl)) (by decide) (by decide)) (q_toR (q_data (q_disp (q_cons (q_bin op_addA good_add (q_toR (q_tup (q_cons (q_tup (q_cons (q_tup (q_cons q_int (q_cons q_int q_nil rfl) rfl)) (q_cons q_int q_nil rfl) rfl)) q_nil rfl))) (q_rd (i := 10) rfl (by first | exact .inl rfl | exact .inr (.inl rfl) | exact .inr (.inr rfl)) (by decide) (by decide))) (q_cons q_int (q_cons q_str (q_cons q_emp (q_cons (q_call (C := fun _ => m_law_deep_3) (nf := 0) rfl takes_fn (ok_law_deep_3 T) (hr.mono (by decide)) rfl T.m_law_deep_3 T.F_law_deep_3.kp T.b_law_deep_3 (q_cons (q_name (i := 1) rfl (by first | exact .inl rfl | exact .inr (.inl rfl) | exact .inr (.inr rfl)) (by decide) (by decide)) q_nil rfl) (by decide) rfl (len_cons len_nil)) q_nil rfl) rfl) rfl) rfl) rfl)))))) q_nil rfl) rfl) (by decide) rfl (len_cons (len_cons len_nil))) (g_nm (i := 14) sc_law_k05.nd rfl (by first | exact .inl rfl | exact .inr rfl) (by first | exact .inl rfl | exact .inr rfl)) rfl rfl rfl) (s_seq (s_own (i := 18) (ps_set (i := 18) sc_law_k05.nd rfl (by first | exact .inl rfl | exact .inr rfl) (q_disp (q_cons (q_lam (n := 0) (j := 1000) (k := 6) rfl rfl takes_fn rfl T.m_law_word_5 T.F_law_word_5.fu sc_law_word_5 (wd_law_word_5 T _) T.b_law_word_5 (TB) T.hc rfl rfl (hr.mono (by decide)) (LamX.lamS_by (sc := defScope st_law_k05) (by decide +kernel)) rfl (fun _ _ _ _ _ => rfl) (fun _ _ _ _ _ _ _ hr => slam_of fun _ _ => (q_call (C := fun _ => m_holds) (nf := 0) rfl takes_lam (ok_holds T) (hr.mono (by decide)) rfl T.m_holds T.F_holds.kp T.b_holds (q_cons (q_name (i := 4) rfl (by first | exact .inl rfl | exact .inr (.inl rfl) | exact .inr (.inr rfl)) (by decide) (by decide)) (q_cons (q_name (i := 8) rfl (by first | exact .inl rfl | exact .inr (.inl rfl) | exact .inr (.inr rfl)) (by decide) (by decide)) q_nil rfl) rfl) (by decide) rfl (len_cons (len_cons len_nil)))) rfl (.inl rfl) (by decide) (by decide) (by decide)) q_nil rfl)))) (s_seq (s_app (i := 18) rfl (by first | exact .inl rfl | exact .inr (.inl rfl) | exact .inr (.inr rfl)) (by decide) (by decide) rfl rfl (q_lam (n := 0) (j := 1000) (k := 6) rfl rfl takes_fn rfl T.m_law_word_5 T.F_law_word_5.fu sc_law_word_5 (wd_law_word_5 T _) T.b_law_word_5 (TB) T.hc rfl rfl (hr.mono (by decide)) (LamX.lamS_by (sc := defScope st_law_k05) (by decide +kernel)) rfl (fun _ _ _ _ _ => rfl) (fun _ _ _ _ _ _ _ hr => slam_of fun _ _ => (q_call (C := fun _ => m_hull) (nf := 0) rfl takes_lam (ok_hull T) (hr.mono (by decide)) rfl T.m_hull T.F_hull.kp T.b_hull (q_cons (q_name (i := 9) rfl (by first | exact .inl rfl | exact .inr (.inl rfl) | exact .inr (.inr rfl)) (by decide) (by decide)) q_nil rfl) (by decide) rfl (len_cons len_nil))) rfl (.inl rfl) (by decide) (by decide) (by decide))) (s_seq (s_frz (i := 14) (s_app (i := 18) rfl (by first | exact .inl rfl | exact .inr (.inl rfl) | exact .inr (.inr rfl)) (by decide) (by decide) rfl rfl (q_lam (n := 0) (j := 1000) (k := 6) rfl rfl takes_fn rfl T.m_law_word_5 T.F_law_word_5.fu sc_law_word_5 (wd_law_word_5 T _) T.b_law_word_5 (TB) T.hc rfl rfl (hr.mono (by decide)) (LamX.lamS_by (sc := defScope st_law_k05) (by decide +kernel)) rfl (fun _ _ _ _ _ => rfl) (fun _ _ _ _ _ _ _ hr => slam_of fun _ _ => (q_call (C := fun _ => m_of_steps) (nf := 0) rfl takes_lam (ok_of_steps T) (hr.mono (by decide)) rfl T.m_of_steps T.F_of_steps.kp T.b_of_steps (q_cons (q_name (i := 14) rfl (by first | exact .inl rfl | exact .inr (.inl rfl) | exact .inr (.inr rfl)) (by decide) (by decide)) q_nil rfl) (by decide) rfl (len_cons len_nil))) rfl (.inl rfl) (by decide) (by decide) (by decide)))) (s_seq (s_app (i := 18) rfl (by first | exact .inl rfl | exact .inr (.inl rfl) | exact .inr (.inr rfl)) (by decide) (by decide) rfl rfl (q_lam (n := 0) (j := 1000) (k := 6) rfl rfl takes_fn rfl T.m_law_word_5 T.F_law_word_5.fu sc_law_word_5 (wd_law_word_5 T _) T.b_law_word_5 (TB) T.hc rfl rfl (hr.mono (by decide)) (LamX.lamS_by (sc := defScope st_law_k05) (by decide +kernel)) rfl (fun _ _ _ _ _ => rfl) (fun _ _ _ _ _ _ _ hr => slam_of fun _ _ => (q_call (C := fun _ => m_holds) (nf := 0) rfl takes_lam (ok_holds T) (hr.mono (by decide)) rfl T.m_holds T.F_holds.kp T.b_holds (q_cons (q_name (i := 4) rfl (by first | exact .inl rfl | exact .inr (.inl rfl) | exact .inr (.inr rfl)) (by decide) (by decide)) (q_cons (q_tup (q_cons q_int (q_cons (q_un un_neg good_neg (q_toR q_int)) q_nil rfl) rfl)) q_nil rfl) rfl) (by decide) rfl (len_cons (len_cons len_nil)))) rfl (.inl rfl) (by decide) (by decide) (by decide))) (s_seq (s_app (i := 18) rfl (by first | exact .inl rfl | exact .inr (.inl rfl) | exact .inr (.inr rfl)) (by decide) (by decide) rfl rfl (q_lam (n := 0) (j := 1000) (k := 6) rfl rfl takes_fn rfl T.m_law_word_5 T.F_law_word_5.fu sc_law_word_5 (wd_law_word_5 T _) T.b_law_word_5 (TB) T.hc rfl rfl (hr.mono (by decide)) (LamX.lamS_by (sc := defScope st_law_k05) (by decide +kernel)) rfl (fun _ _ _ _ _ => rfl) (fun _ _ _ _ _ _ _ hr => slam_of fun _ _ => (q_call (C := fun _ => m_hull) (nf := 0) rfl takes_lam (ok_hull T) (hr.mono (by decide)) rfl T.m_hull T.F_hull.kp T.b_hull (q_cons (q_bin op_repT good_repT (q_toR (q_slT (q_name (i := 3) rfl (by first | exact .inl rfl | exact .inr (.inl rfl) | exact .inr (.inr rfl)) (by decide) (by decide)) q_pNo (q_pSome (q_toR q_int)))) (q_toR q_int)) q_nil rfl) (by decide) rfl (len_cons len_nil))) rfl (.inl rfl) (by decide) (by decide) (by decide))) (s_seq (s_app (i := 18) rfl (by first | exact .inl rfl | exact .inr (.inl rfl) | exact .inr (.inr rfl)) (by decide) (by decide) rfl rfl (q_lam (n := 0) (j := 1000) (k := 6) rfl rfl takes_fn rfl T.m_law_word_5 T.F_law_word_5.fu sc_law_word_5 (wd_law_word_5 T _) T.b_law_word_5 (TB) T.hc rfl rfl (hr.mono (by decide)) (LamX.lamS_by (sc := defScope st_law_k05) (by decide +kernel)) rfl (fun _ _ _ _ _ => rfl) (fun _ _ _ _ _ _ _ hr => slam_of fun _ _ => (q_call (C := fun _ => m_of_steps) (nf := 0) rfl takes_lam (ok_of_steps T) (hr.mono (by decide)) rfl T.m_of_steps T.F_of_steps.kp T.b_of_steps (q_cons (q_name (i := 10) rfl (by first | exact .inl rfl | exact .inr (.inl rfl) | exact .inr (.inr rfl)) (by decide) (by decide)) q_nil rfl) (by decide) rfl (len_cons len_nil))) rfl (.inl rfl) (by decide) (by decide) (by decide))) (s_seq (s_if (q_cmpT (op_neD (by have := hr.r.units; exact this)) good_ne (q_rd (i := 18) rfl (by first | exact .inl rfl | exact .inr (.inl rfl) | exact .inr (.inr rfl)) (by decide) (by decide)) (q_toR (q_data (q_disp (q_cons q_str (q_cons q_str (q_cons q_str (q_cons q_str (q_cons q_str (q_cons q_str q_nil rfl) rfl) rfl) rfl) rfl) rfl)))) rfl) (s_seq (s_ret q_bl) s_nil) s_nil) s_nil))))))))))))))))))))) (fun _ => rfl)) (s_seq (s_ret q_bl) s_nil)))))
end
end W
end
section
set_option Elab.async false
set_option linter.all false
set_option maxRecDepth 100000
set_option maxHeartbeats 0
namespace W
open PySem PySem.Spec L2 Il
abbrev RR : PySem.W.OpenRow := PySem.W.OpenLaw.row PySem.Challenge.rw_dotpolygons_k05_refusals_of_shapes_and_d
def tf : List He.Defn := [("law", none)]
abbrev hk : PySem.W.Hook := hookY 5 fa fn tf ex
def ob (s : PySem.W.SharedT) : He.AlX := obsY 5 fa fn tf ex (HandSHeadRun.getT s)
theorem ob_eq (s : PySem.W.SharedT) : ob s = hk.obs s.abs := obsY_eq (HandSHeadRun.getT_eq s)
def ns0 : List PySem.Str := [(PySem.Str.ofString "is_integer"), (PySem.Str.ofString "is_within"), (PySem.Str.ofString "is_number"), (PySem.Str.ofString "is_tuple"), (PySem.Str.ofString "DotError"), (PySem.Str.ofString "BadShape"), (PySem.Str.ofString "NoDots"), (PySem.Str.ofString "NoDot"), (PySem.Str.ofString "NoSteps"), (PySem.Str.ofString "FARTHEST"), (PySem.Str.ofString "FARTHEST_STEPS"), (PySem.Str.ofString "MOST_CORNERS"), (PySem.Str.ofString "MOST_DOTS"), (PySem.Str.ofString "is_dot"), (PySem.Str.ofString "turn_of"), (PySem.Str.ofString "sides_of"), (PySem.Str.ofString "half_hull"), (PySem.Str.ofString "hull_of"), (PySem.Str.ofString "are_corners"), (PySem.Str.ofString "Shape"), (PySem.Str.ofString "RawShape"), (PySem.Str.ofString "hull"), (PySem.Str.ofString "place"), (PySem.Str.ofString "holds"), (PySem.Str.ofString "common"), (PySem.Str.ofString "step_of"), (PySem.Str.ofString "steps"), (PySem.Str.ofString "is_step_pair"), (PySem.Str.ofString "of_steps"), (PySem.Str.ofString "_law_hand"), (PySem.Str.ofString "_law_draw"), (PySem.Str.ofString "_law_any"), (PySem.Str.ofString "_law_turn"), (PySem.Str.ofString "_law_hull"), (PySem.Str.ofString "_law_corners"), (PySem.Str.ofString "_law_word"), (PySem.Str.ofString "_law_deep"), (PySem.Str.ofString "_law_is_dot"), (PySem.Str.ofString "_law_are_corners"), (PySem.Str.ofString "_law_bent")]
abbrev nsA : List PySem.Str := ns0
theorem run (w : World) : HandSHeadRun.RunEq RR (PySem.W.view RR.prog [44]) hk ob 4000 nsA w := by
  intro os
  kernel_rfl
end W
section
open PySem PySem.W PySem.Calls PyProof.Rows
theorem W.early (hc : PySem.W.WalkO (view W.RR.prog [44]) W.nsA (PySem.W.XL (view W.RR.prog [44]) []) W.hk.says W.RR.toRowW (HandSHeadRun.topDef W.RR.prog 44) [] fun f vs => PySem.call f vs) : PySem.Challenge.rw_dotpolygons_k05_refusals_of_shapes_and_d.Holds := by
  w_on; o_law
  refine HandSHeadRun.head_any (r := W.RR) (q := view W.RR.prog [44]) (H := W.hk) (ob := W.ob) (M := 4000) (loose := W.nsA) (d := HandSHeadRun.topDef W.RR.prog 44) (kwd := []) W.ob_eq
    (by kernel_rfl) (fun s => by kernel_rfl) W.run (by kernel_rfl) (by kernel_rfl) (by kernel_rfl) (by rfl) (by first | assumption | decide +kernel) (by decide +kernel) ⟨rfl, rfl, rfl, rfl, rfl, by decide +kernel⟩ ?hw hc
  case hw => w_witness2
end
end
section
set_option Elab.async false
set_option linter.all false
set_option maxRecDepth 100000
set_option maxHeartbeats 400000
/-! How mirrored code runs: one lemma a building block. -/
namespace Il
open PySem (Str)
theorem res_eq {α : Type} {r : Res α} {x y : α} {t u : Store} (e : r = .ok x t) (hx : x = y) (ht : t = u) : r = .ok y u := by rw [e, hx, ht]
section
variable {en en1 en2 : En} {s t u v st s1 s2 s3 : Store} {a b c : Ex} {x y z d : D} {l l2 : Lx} {xs ys : List D}
/-! expressions -/
theorem ev_c {d : D} : xC d en s = .ok d s := rfl
theorem ev_var {i : Nat} (e : en[i]? = some (some (.fro d))) : xVar i en s = .ok d s := by simp only [xVar, e]
theorem ev_rd {i : Nat} (e : en[i]? = some (some (.fro d))) : xRd i en s = .ok d s := by simp only [xRd, e]
theorem ev_rdo {i : Nat} (e : en[i]? = some (some (.own xs))) : xRd i en s = .ok (.lst xs) s := by simp only [xRd, e]
theorem ev_op2 {f : Store → D → D → Option D} (e1 : a en s = .ok x t) (e2 : b en t = .ok y u) (e3 : f u x y = some z) : xOp2 f a b en s = .ok z u := by simp only [xOp2, e1, e2, e3, Res.bind, Res.ofOpt]
theorem ev_op1 {f : Store → D → Option D} (e1 : a en s = .ok x t) (e3 : f t x = some z) : xOp1 f a en s = .ok z t := by simp only [xOp1, e1, e3, Res.bind, Res.ofOpt]
theorem ev_lnil : lNil en s = .ok [] s := rfl
theorem ev_lcons (e1 : a en s = .ok x t) (e2 : l en t = .ok xs u) : lCons a l en s = .ok (x :: xs) u := by simp only [lCons, e1, e2, Res.bind]
theorem ev_tup (e1 : l en s = .ok xs t) (h : xs.length ≤ 1000) : xTup l en s = .ok (.tup xs) t := by simp only [xTup, e1, Res.bind, if_pos h]
theorem ev_lst (e1 : l en s = .ok xs t) : xLst l en s = .ok (.lst xs) t := by simp only [xLst, e1, Res.bind]
theorem ev_disp (e1 : l en s = .ok xs t) (h : xs.length ≤ 1000) : lDisp l en s = .ok xs t := by simp only [lDisp, e1, Res.bind, if_pos h]
theorem ev_lop1 {f : Store → D → Option (List D)} (e1 : a en s = .ok x t) (e3 : f t x = some xs) : lOp1 f a en s = .ok xs t := by simp only [lOp1, e1, e3, Res.bind, Res.ofOpt]
theorem ev_lop2 {f : Store → D → D → Option (List D)} (e1 : a en s = .ok x t) (e2 : b en t = .ok y u) (e3 : f u x y = some xs) : lOp2 f a b en s = .ok xs u := by simp only [lOp2, e1, e2, e3, Res.bind, Res.ofOpt]
theorem ev_pno : pNo en s = .ok none s := rfl
theorem ev_psome {i : Int} (e1 : a en s = .ok (.int i) t) : pSome a en s = .ok (some i) t := by simp only [pSome, e1, Res.bind]
theorem ev_tof {k : Bool} (e1 : a en s = .ok (.bl k) t) : tOf a en s = .ok k t := by simp only [tOf, e1, Res.bind]
variable {p q : Tx} {k : Bool}
theorem ev_tand {k j : Bool} (e1 : p en s = .ok k t) (e2 : k = true → q en t = .ok j t) : tAnd p q en s = .ok (k && j) t := by
  cases k with
  | true => simp only [tAnd, e1, Res.bind, if_true, e2 rfl, Bool.true_and]
  | false => simp only [tAnd, e1, Res.bind, Bool.false_eq_true, if_false, Bool.false_and]
theorem ev_tand_t (e1 : p en s = .ok true t) (e2 : q en t = .ok k u) : tAnd p q en s = .ok k u := by simp only [tAnd, e1, Res.bind, if_true, e2]
theorem ev_tand_f (e1 : p en s = .ok false t) : tAnd p q en s = .ok false t := by simp only [tAnd, e1, Res.bind, Bool.false_eq_true, if_false]
theorem ev_tor_t (e1 : p en s = .ok true t) : tOr p q en s = .ok true t := by simp only [tOr, e1, Res.bind, if_true]
theorem ev_tor_f (e1 : p en s = .ok false t) (e2 : q en t = .ok k u) : tOr p q en s = .ok k u := by simp only [tOr, e1, Res.bind, Bool.false_eq_true, if_false, e2]
theorem ev_tnot (e1 : p en s = .ok k t) : tNot p en s = .ok (!k) t := by simp only [tNot, e1, Res.bind]
theorem ev_and_t (e1 : a en s = .ok (.bl true) t) (e2 : b en t = .ok y u) : xAnd a b en s = .ok y u := by simp only [xAnd, e1, Res.bind, e2]
theorem ev_and_f (e1 : a en s = .ok (.bl false) t) : xAnd a b en s = .ok (.bl false) t := by simp only [xAnd, e1, Res.bind]
theorem ev_and_b {k j : Bool} (e1 : a en s = .ok (.bl k) t) (e2 : k = true → b en t = .ok (.bl j) t) : xAnd a b en s = .ok (.bl (k && j)) t := by
  cases k with
  | true => simp only [xAnd, e1, Res.bind, e2 rfl, Bool.true_and]
  | false => simp only [xAnd, e1, Res.bind, Bool.false_and]
theorem ev_or_t (e1 : a en s = .ok (.bl true) t) : xOr a b en s = .ok (.bl true) t := by simp only [xOr, e1, Res.bind]
theorem ev_or_f (e1 : a en s = .ok (.bl false) t) (e2 : b en t = .ok y u) : xOr a b en s = .ok y u := by simp only [xOr, e1, Res.bind, e2]
theorem ev_not (e1 : a en s = .ok (.bl k) t) : xNot a en s = .ok (.bl (!k)) t := by simp only [xNot, e1, Res.bind]
theorem ev_if_t (e1 : p en s = .ok k t) (hk : k = true) (e2 : a en t = .ok y u) : xIf p a b en s = .ok y u := by subst hk; simp only [xIf, e1, Res.bind, if_true, e2]
theorem ev_if_f (e1 : p en s = .ok k t) (hk : k = false) (e2 : b en t = .ok y u) : xIf p a b en s = .ok y u := by subst hk; simp only [xIf, e1, Res.bind, Bool.false_eq_true, if_false, e2]
theorem ev_lif_t (e1 : p en s = .ok k t) (hk : k = true) (e2 : l en t = .ok xs u) : lIf p l l2 en s = .ok xs u := by subst hk; simp only [lIf, e1, Res.bind, if_true, e2]
theorem ev_lif_f (e1 : p en s = .ok k t) (hk : k = false) (e2 : l2 en t = .ok xs u) : lIf p l l2 en s = .ok xs u := by subst hk; simp only [lIf, e1, Res.bind, Bool.false_eq_true, if_false, e2]
theorem ev_chain {f g : Store → D → D → Option D} {k j : Bool} (e1 : a en s = .ok x t) (e2 : b en t = .ok y u) (e3 : f u x y = some (.bl k)) (e4 : c en u = .ok z u) (e5 : g u y z = some (.bl j)) : xChain f g a b c en s = .ok (.bl (k && j)) u := by
  cases k <;> simp only [xChain, e1, e2, e3, e4, e5, Res.bind, Res.ofOpt, Bool.true_and, Bool.false_and]
theorem ev_slice {lo hi : Px} {i j : Option Int} (e1 : a en s = .ok x t) (e2 : lo en t = .ok i u) (e3 : hi en u = .ok j v) (e4 : deref v x = .lst xs) : lSlice a lo hi en s = .ok (cut xs i j) v := by simp only [lSlice, e1, e2, e3, Res.bind, e4]
theorem ev_slT {lo hi : Px} {i j : Option Int} (e1 : a en s = .ok (.tup xs) t) (e2 : lo en t = .ok i u) (e3 : hi en u = .ok j v) : xSlT a lo hi en s = .ok (.tup (cut xs i j)) v := by simp only [xSlT, e1, e2, e3, Res.bind]
theorem ev_call {f : List D → Store → Res D} {r : Res D} (e1 : l en s = .ok xs t) (e2 : f xs t = r) : xCall (fun _ => f) 0 l en s = r := by simp only [xCall, e1, Res.bind, e2]
theorem ev_meth {f : List D → Store → Res D} {n k : Nat} {m : Str} {o : Ex} {fs : List (Str × D)} {r : Res D} (e1 : o en s = .ok (.ref n) t) (h : t[n]? = some (.ins k fs)) (hm : fs.lookup m = none) (e2 : l en t = .ok xs u) (e3 : f (.ref n :: xs) u = r) : xMeth (fun _ => f) 0 k m o l en s = r := by
  simp only [xMeth, e1, Res.bind, h, true_and, hm, if_true, e2, e3]
theorem ev_new {f : List D → Store → Res D} {k : Nat} (e1 : l en s = .ok xs t) (e2 : f (.ref t.length :: xs) (t ++ [.ins k []]) = .ok .non u) : xNew (fun _ => f) 0 k l en s = .ok (.ref t.length) u := by
  simp only [xNew, e1, Res.bind, e2]
theorem ev_new_x {f : List D → Store → Res D} {k c : Nat} {w : Option D} (e1 : l en s = .ok xs t) (e2 : f (.ref t.length :: xs) (t ++ [.ins k []]) = .exc c w u) : xNew (fun _ => f) 0 k l en s = .exc c w u := by
  simp only [xNew, e1, Res.bind, e2]
theorem ev_fld {ok : Nat → Bool} {f : Str} {n k : Nat} {fs : List (Str × D)} (e1 : a en s = .ok (.ref n) t) (h : t[n]? = some (.ins k fs)) (hk : ok k = true) (hf : fs.lookup f = some d) : xFld ok f a en s = .ok d t := by
  simp only [xFld, e1, Res.bind, h, hk, if_true, hf, Res.ofOpt]
theorem ev_cell (e1 : l en s = .ok xs t) : xCellL l en s = .ok (.ref t.length) (t ++ [.lst xs]) := by simp only [xCellL, e1, Res.bind]
theorem ev_dct0 : xDct0 en s = .ok (.ref s.length) (s ++ [.dct []]) := rfl
theorem ev_bm {f : Store → D → D → Option D} (e1 : a en s = .ok x t) (h : isL t x = true) (e2 : b en t = .ok y u) (e3 : f u x y = some z) : xBM f a b en s = .ok z u := by simp only [xBM, e1, Res.bind, h, if_true, e2, e3, Res.ofOpt]
theorem ev_split {z w : Str} (e1 : a en s = .ok (.str z) t) (e2 : b en t = .ok (.str w) u) (h : w.length ≠ 0 ∧ z.length + 2 ≤ BIG) : lSplit a b en s = .ok ((PySem.Txt.split z w).map D.str) u := by simp only [lSplit, e1, e2, Res.bind, if_pos h]
theorem ev_zipT (e1 : l en s = .ok [.tup xs, .tup ys] t) : lZipT l en s = .ok (zipD xs ys) t := by simp only [lZipT, e1, Res.bind]
theorem ev_izip_t (e1 : l en s = .ok [.tup xs, .tup ys] t) : iZip l en s = .ok (zipD xs ys) t := by simp only [iZip, e1, Res.bind]
theorem ev_izip_l (e1 : l en s = .ok [.lst xs, .lst ys] t) : iZip l en s = .ok (zipD xs ys) t := by simp only [iZip, e1, Res.bind]
theorem ev_iseq_l (e1 : a en s = .ok (.lst xs) t) : iSeq a en s = .ok xs t := by simp only [iSeq, e1, Res.bind]
theorem ev_iseq_t (e1 : a en s = .ok (.tup xs) t) : iSeq a en s = .ok xs t := by simp only [iSeq, e1, Res.bind]
theorem ev_range1 {j : Int} (e1 : a en s = .ok (.int j) t) (h : -(2 ^ 62) ≤ j ∧ j < 2 ^ 62) : iRange1 a en s = .ok (rangeL 0 j) t := by simp only [iRange1, e1, Res.bind, if_pos h]
theorem ev_range2 {i j : Int} (e1 : a en s = .ok (.int i) t) (e2 : b en t = .ok (.int j) u) (h : -(2 ^ 62) ≤ i ∧ i < 2 ^ 62 ∧ -(2 ^ 62) ≤ j ∧ j < 2 ^ 62) : iRange2 a b en s = .ok (rangeL i j) u := by simp only [iRange2, e1, e2, Res.bind, if_pos h]
theorem ev_lrd (e1 : a en s = .ok (.lst xs) t) : lRd a en s = .ok xs t := by simp only [lRd, e1, Res.bind]
theorem ev_castT {j : Bool} (e : p en s = .ok k t) (h : k = j) : p en s = .ok j t := by rw [e, h]
theorem ev_castE {j : Bool} (e : a en s = .ok (.bl k) t) (h : k = j) : a en s = .ok (.bl j) t := by rw [e, h]
/-! statements -/
variable {A B : Bk} {r o : Out}
theorem ev_seq (e1 : A en s = o) (e2 : o.seq B = r) : sSeq A B en s = r := by simp only [sSeq, e1, e2]
theorem ev_nx (e : B en s = r) : (Out.next en s).seq B = r := e
theorem ev_seq_n (e1 : A en s = .next en1 s1) (e2 : B en1 s1 = r) : sSeq A B en s = r := by simp only [sSeq, e1, Out.seq, e2]
theorem ev_seq_r (e1 : A en s = .ret d s1) : sSeq A B en s = .ret d s1 := by simp only [sSeq, e1, Out.seq]
theorem ev_seq_x {c : Nat} {w : Option D} (e1 : A en s = .exc c w en1 s1) : sSeq A B en s = .exc c w en1 s1 := by simp only [sSeq, e1, Out.seq]
theorem ev_sif_t (e1 : p en s = .ok k s1) (hk : k = true) (e2 : A en s1 = r) : sIf p A B en s = r := by subst hk; simp only [sIf, e1, ofRes, if_true, e2]
theorem ev_sif_f (e1 : p en s = .ok k s1) (hk : k = false) (e2 : B en s1 = r) : sIf p A B en s = r := by subst hk; simp only [sIf, e1, ofRes, Bool.false_eq_true, if_false, e2]
theorem ev_ret (e1 : a en s = .ok d s1) : sRet a en s = .ret d s1 := by simp only [sRet, e1, ofRes]
theorem ev_ret_x {c : Nat} {w : Option D} (e1 : a en s = .exc c w s1) : sRet a en s = .exc c w en s1 := by simp only [sRet, e1, ofRes]
theorem ev_drop (e1 : a en s = .ok d s1) : sDrop a en s = .next en s1 := by simp only [sDrop, e1, ofRes]
theorem ev_drop_x {c : Nat} {w : Option D} (e1 : a en s = .exc c w s1) : sDrop a en s = .exc c w en s1 := by simp only [sDrop, e1, ofRes]
theorem ev_asg {i : Nat} (e1 : a en s = .ok d s1) : sAsg (.nm i) a en s = .next (en.set i (some (.fro d))) s1 := by simp only [sAsg, e1, ofRes, Tg.put]
theorem ev_asgT {g : Tg} (e1 : a en s = .ok d s1) (e2 : g.put d en = some en1) : sAsg g a en s = .next en1 s1 := by simp only [sAsg, e1, ofRes, e2]
theorem ev_own {i : Nat} (e1 : l en s = .ok xs s1) (h : i < en.length) : sOwn i l en s = .next (en.set i (some (.own xs))) s1 := by simp only [sOwn, e1, ofRes, if_pos h]
theorem ev_frz {i : Nat} (e : en[i]? = some (some (.own xs))) : sFrz i en s = .next (en.set i (some (.fro (.lst xs)))) s := by simp only [sFrz, e]
theorem ev_frz0 {i : Nat} (e : en[i]? = some (some (.fro d))) : sFrz i en s = .next en s := by simp only [sFrz, e]
theorem ev_app {i : Nat} (e : en[i]? = some (some (.own xs))) (e1 : a en s = .ok d s1) (h : xs.length < BIG) : sApp i a en s = .next (en.set i (some (.own (xs ++ [d])))) s1 := by simp only [sApp, e, e1, ofRes, if_pos h]
theorem ev_ext {i : Nat} (e : en[i]? = some (some (.own xs))) (e1 : l en s = .ok ys s1) (h : xs.length + ys.length ≤ BIG) : sExt i l en s = .next (en.set i (some (.own (xs ++ ys)))) s1 := by simp only [sExt, e, e1, ofRes, if_pos h]
theorem ev_pop {i : Nat} (e : en[i]? = some (some (.own xs))) (h : xs.isEmpty = false) : sPop i en s = .next (en.set i (some (.own xs.dropLast))) s := by simp only [sPop, e, h, Bool.false_eq_true, if_false]
theorem ev_raise0 {c : Nat} : sRaise0 c en s = .exc c none en s := rfl
theorem ev_nil : sNil en s = .next en s := rfl
theorem ev_par {is : List Nat} {ks : List Kd} {ss : List Sl} (e1 : evK ks en s = .ok ss s1) : sPar is ks en s = .next (setL en is (ss.map some)) s1 := by simp only [sPar, e1, ofRes]
theorem ev_kn : evK [] en s = .ok [] s := rfl
theorem ev_ke {ks : List Kd} {ss : List Sl} (e1 : a en s = .ok d t) (e2 : evK ks en t = .ok ss u) : evK (.e a :: ks) en s = .ok (.fro d :: ss) u := by simp only [evK, e1, e2, Res.bind]
theorem ev_kl {ks : List Kd} {ss : List Sl} (e1 : l en s = .ok xs t) (e2 : evK ks en t = .ok ss u) : evK (.n l :: ks) en s = .ok (.own xs :: ss) u := by simp only [evK, e1, e2, Res.bind]
theorem ev_fset {ok : Nat → Bool} {f : Str} {n k : Nat} {fs : List (Str × D)} (e1 : b en s = .ok y t) (e2 : a en t = .ok (.ref n) u) (h : u[n]? = some (.ins k fs)) (hk : ok k = true) (hl : fs.length < 1000) : sFldSet ok f a b en s = .next en (u.set n (.ins k (putD f y fs))) := by
  simp only [sFldSet, e1, ofRes, e2, h, hk, Bool.true_and, decide_eq_true hl, if_true]
theorem ev_item {n : Nat} {i : Int} {j : Nat} (e1 : c en s = .ok z t) (e2 : a en t = .ok (.ref n) u) (e3 : b en u = .ok (.int i) v) (h : v[n]? = some (.lst xs)) (hj : ixN xs.length i = some j) : sSetItem a b c en s = .next en (v.set n (.lst (xs.set j z))) := by
  simp only [sSetItem, e1, ofRes, e2, e3, h, hj]
theorem ev_appR {n : Nat} (e1 : a en s = .ok (.ref n) t) (h1 : t[n]? = some (.lst ys)) (e2 : b en t = .ok y u) (h : u[n]? = some (.lst xs)) (hl : xs.length < BIG) : sAppR a b en s = .next en (u.set n (.lst (xs ++ [y]))) := by
  simp only [sAppR, e1, ofRes, h1, e2, h, if_pos hl]
theorem ev_popR {n : Nat} (e1 : a en s = .ok (.ref n) t) (h : t[n]? = some (.lst xs)) (hl : xs.isEmpty = false) : sPopR a en s = .next en (t.set n (.lst xs.dropLast)) := by
  simp only [sPopR, e1, ofRes, h, hl, Bool.false_eq_true, if_false]
theorem ev_pop0R {n : Nat} (e1 : a en s = .ok (.ref n) t) (h : t[n]? = some (.lst (x :: xs))) : sPop0R a en s = .next en (t.set n (.lst xs)) := by
  simp only [sPop0R, e1, ofRes, h]
theorem ev_for {it : Lx} {g : Tg} (e1 : it en s = .ok xs s1) (e2 : forL g A xs en s1 = r) : sFor it g A en s = r := by simp only [sFor, e1, ofRes, e2]
theorem ev_comp {it : Lx} {g : Tg} {vs : List Nat} {tx : Tx} (e1 : it en s = .ok xs t) (e2 : compL g tx a (wipe en vs) xs [] t = .ok ys u) : lComp it g vs tx a en s = .ok ys u := by simp only [lComp, e1, Res.bind, e2, noExc]
/-! defs -/
theorem ev_run {n : Nat} {ds : List D} (e : A (startE n ds) s = .ret d s1) : runB n A ds s = .ok d s1 := by simp only [runB, e]
theorem ev_run_n {n : Nat} {ds : List D} (e : A (startE n ds) s = .next en s1) : runB n A ds s = .ok .non s1 := by simp only [runB, e]
theorem ev_run_x {n : Nat} {ds : List D} {c : Nat} {w : Option D} (e : A (startE n ds) s = .exc c w en s1) : runB n A ds s = .exc c w s1 := by simp only [runB, e]
/-! words and thunks -/
theorem ev_lam {k j : Nat} {qn : Str} {word : (Store → Res D) → Store → Res D} {r : Res D} (h : s[k]? = some (.tab j qn)) (e : word (fun s' => a (lamEn en) s') s = r) : xLam k j qn word a en s = r := by simp only [xLam, h, true_and, if_true, e]
theorem ev_try_x {i c : Nat} {w : Option D} {cls : Nat → Option Bool} (e : A en s = .exc c w en1 s1) (hc : cls c = some true) (e2 : (B (en1.set i (some (.exn c w))) s1).fin i = r) : sTry i cls A B en s = r := by simp only [sTry, e, hc, e2]
theorem ev_try_n {i : Nat} {cls : Nat → Option Bool} (e : A en s = .next en1 s1) : sTry i cls A B en s = .next en1 s1 := by simp only [sTry, e]
theorem ev_try_r {i : Nat} {cls : Nat → Option Bool} (e : A en s = .ret d s1) : sTry i cls A B en s = .ret d s1 := by simp only [sTry, e]
/-! the operations -/
theorem pr_add {i j : Int} : oAdd s (.int i) (.int j) = some (.int (i + j)) := rfl
theorem pr_mul_l {i j : Int} (h : i.natAbs < 2 ^ 64) : oMul s (.int i) (.int j) = some (.int (i * j)) := by simp only [oMul]; rw [if_pos (.inl h)]
theorem pr_mul_r {i j : Int} (h : j.natAbs < 2 ^ 64) : oMul s (.int i) (.int j) = some (.int (i * j)) := by simp only [oMul]; rw [if_pos (.inr h)]
theorem pr_mod {i j : Int} (h : j ≠ 0) : oMod s (.int i) (.int j) = some (.int (i.fmod j)) := by simp only [oMod]; rw [if_pos h]
theorem pr_div {i j : Int} (h : j ≠ 0) (h2 : j.natAbs < 1073741824) : oDiv s (.int i) (.int j) = some (.int (i.fdiv j)) := by simp only [oDiv]; rw [if_pos ⟨h, h2⟩]
theorem pr_eq_i {i j : Int} : oEq s (.int i) (.int j) = some (.bl (i == j)) := by simp [oEq, deref, D.ok, D.flat, D.depth, D.eqv]
theorem pr_ne_i {i j : Int} : oNe s (.int i) (.int j) = some (.bl (!(i == j))) := by simp [oNe, deref, D.ok, D.flat, D.depth, D.eqv]
theorem pr_len_l : oLen s (.lst xs) = some (.int xs.length) := rfl
theorem pr_len_t : oLen s (.tup xs) = some (.int xs.length) := rfl
theorem pr_eq (h1 : (deref s x).ok = true) (h2 : (deref s y).ok = true) : oEq s x y = some (.bl ((deref s x).eqv (deref s y))) := by simp only [oEq, h1, h2, Bool.and_self, if_true]
theorem pr_ne (h1 : (deref s x).ok = true) (h2 : (deref s y).ok = true) : oNe s x y = some (.bl (!(deref s x).eqv (deref s y))) := by simp only [oNe, h1, h2, Bool.and_self, if_true]
theorem pr_addT (h : xs.length + ys.length ≤ BIG) : oAdd s (.tup xs) (.tup ys) = some (.tup (xs ++ ys)) := by simp only [oAdd, if_pos h]
theorem pr_cat (h : xs.length + ys.length ≤ BIG) : lCat s (.lst xs) (.lst ys) = some (xs ++ ys) := by simp only [lCat, deref, if_pos h]
end
end Il
end
section
set_option Elab.async false
set_option linter.all false
set_option maxRecDepth 100000
set_option maxHeartbeats 400000
namespace W
open Il PySem
def drawB2 : Bk := (sSeq (sIf (tOf (xOp2 oGt (xOp2 oIx (xRd 0) (xC (.int 2))) (xC (.int 0)))) (sSeq (sAsg (.nm 3) (xOp2 oMod (xOp1 oInt (xOp2 oIx (xRd 0) (xC (.int 2)))) (xRd 1))) (sSeq (sSetItem (xVar 0) (xC (.int 2)) (xOp2 oDiv (xOp2 oIx (xRd 0) (xC (.int 2))) (xRd 1))) (sSeq (sRet (xVar 3)) sNil))) sNil) (sSeq (sSetItem (xVar 0) (xC (.int 4)) (xOp2 oAdd (xOp2 oIx (xRd 0) (xC (.int 4))) (xC (.int 1)))) (sSeq (sAsg (.nm 4) (xOp2 oMod (xOp1 oInt (xOp2 oMul (xOp1 oInt (xOp2 oAdd (xOp2 oIx (xRd 0) (xC (.int 3))) (xOp2 oMul (xC (.int 7919)) (xOp2 oIx (xRd 0) (xC (.int 4)))))) (xC (.int 48271)))) (xC (.int 2147483647)))) (sSeq (sAsg (.nm 4) (xOp2 oMod (xOp1 oInt (xOp2 oMul (xRd 4) (xOp2 oAdd (xOp2 oDiv (xRd 4) (xC (.int 1009))) (xC (.int 69621))))) (xC (.int 2147483647)))) (sSeq (sAsg (.nm 4) (xOp2 oMod (xOp1 oInt (xOp2 oMul (xRd 4) (xOp2 oAdd (xOp2 oDiv (xRd 4) (xC (.int 2003))) (xC (.int 40692))))) (xC (.int 2147483399)))) (sSeq (sRet (xOp2 oMod (xOp1 oInt (xOp2 oDiv (xRd 4) (xC (.int 16)))) (xRd 1))) sNil))))))
theorem fm_lt (x : Int) {n : Int} (hn : 0 < n) : 0 ≤ x.fmod n ∧ x.fmod n < n := ⟨Int.fmod_nonneg_of_pos x hn, Int.fmod_lt_of_pos x hn⟩
theorem fm_small (x : Int) : (x.fmod 2147483647).natAbs < 2 ^ 64 := by
  have := fm_lt x (n := 2147483647) (by decide)
  omega
section
variable (o : O) (x0 x1 x2 x3 x4 : D) (rest : Store)
theorem s0 : oIx (o :: .lst [x0, x1, x2, x3, x4] :: rest) (.ref 1) (.int 0) = some x0 := rfl
theorem s1 : oIx (o :: .lst [x0, x1, x2, x3, x4] :: rest) (.ref 1) (.int 1) = some x1 := rfl
theorem s2 : oIx (o :: .lst [x0, x1, x2, x3, x4] :: rest) (.ref 1) (.int 2) = some x2 := rfl
theorem s3 : oIx (o :: .lst [x0, x1, x2, x3, x4] :: rest) (.ref 1) (.int 3) = some x3 := rfl
theorem s4 : oIx (o :: .lst [x0, x1, x2, x3, x4] :: rest) (.ref 1) (.int 4) = some x4 := rfl
end
theorem op1 {f : Store → D → Option D} {a : Ex} {en : En} {s t : Store} {x z : D} (e1 : a en s = .ok x t) (e3 : f t x = some z) : xOp1 f a en s = .ok z t := by
  simp only [xOp1, e1, e3, Res.bind, Res.ofOpt]
theorem seq_r {a b : Bk} {en : En} {s s1 : Store} {d : D} (e1 : a en s = .ret d s1) : sSeq a b en s = .ret d s1 := by
  simp only [sSeq, e1, Out.seq]
theorem ret_ok {a : Ex} {en : En} {s s1 : Store} {d : D} (e1 : a en s = .ok d s1) : sRet a en s = .ret d s1 := by
  simp only [sRet, e1, ofRes]
def hs (cells : List Int) (p l m k : Int) : List D := [.lst (cells.map D.int), .int p, .int l, .int m, .int k]
section
variable (cells : List Int) (p l m k : Int) (rest : Store)
abbrev S5 : Store := .tab 1000 lamQ :: .lst [.lst (cells.map D.int), .int p, .int l, .int m, .int k] :: rest
def nu1 : Int := ((m + 7919 * (k + 1)) * 48271).fmod 2147483647
def nu2 : Int := (nu1 m k * ((nu1 m k).fdiv 1009 + 69621)).fmod 2147483647
def nu3 : Int := (nu2 m k * ((nu2 m k).fdiv 2003 + 40692)).fmod 2147483399
end
def drawT : Tx := (tAnd (tOf (xOp2 oEq (xOp2 oIx (xRd 0) (xC (.int 2))) (xC (.int 0)))) (tOf (xOp2 oLt (xOp2 oIx (xRd 0) (xC (.int 1))) (xOp1 oLen (xOp2 oIx (xRd 0) (xC (.int 0)))))))
def drawA : Bk := (sSeq (sAsg (.nm 2) (xOp2 oIx (xOp2 oIx (xRd 0) (xC (.int 0))) (xOp2 oIx (xRd 0) (xC (.int 1))))) (sSeq (sSetItem (xVar 0) (xC (.int 1)) (xOp2 oAdd (xOp2 oIx (xRd 0) (xC (.int 1))) (xC (.int 1)))) (sSeq (sSetItem (xVar 0) (xC (.int 3)) (xOp2 oMod (xOp1 oInt (xOp2 oAdd (xOp2 oAdd (xOp2 oMul (xOp2 oIx (xRd 0) (xC (.int 3))) (xC (.int 69621))) (xRd 2)) (xC (.int 29)))) (xC (.int 2147483629)))) (sSeq (sIf (tOf (xOp2 oGe (xRd 2) (xOp2 oPow (xC (.int 10)) (xC (.int 18))))) (sSeq (sSetItem (xVar 0) (xC (.int 2)) (xVar 2)) sNil) sNil) sNil))))
def drawB1 : Bk := sIf drawT drawA sNil
theorem run_ret {n : Nat} {b : Bk} {vs : List D} {s s1 : Store} {d : D} (e : b (startE n vs) s = .ret d s1) : runB n b vs s = .ok d s1 := by
  simp only [runB, e]
/-- the law's hand -/
structure Hand where
  cells : List Int
  p : Int
  l : Int
  m : Int
  k : Int
  hp : 0 ≤ p
/-- the store: the code table, the hand, what else there is -/
abbrev HS (h : Hand) (rest : Store) : Store := .tab 1000 lamQ :: .lst [.lst (h.cells.map D.int), .int h.p, .int h.l, .int h.m, .int h.k] :: rest
theorem ix_l {ds : List D} {j : Int} (h1 : 0 ≤ j) (h2 : j < ds.length) (s : Store) : ∃ (h : j.toNat < ds.length), oIx s (.lst ds) (.int j) = some (ds[j.toNat]) := by
  have hlt : j.toNat < ds.length := by omega
  refine ⟨hlt, ?_⟩
  simp only [oIx, deref, atI, ixN]
  rw [if_pos h1, if_pos h2]
  exact List.getElem?_eq_getElem hlt
def okT (d : D) (n : Nat) : Prop := d.flat = true ∧ d.depth ≤ n ∧ (toPy d).showable = true ∧ (toPy d).shown.cps.all (· < 0x110000) = true ∧ (toPy d).shown.length ≤ 10 + 3 * n
/-- bad things -/
def inR (lo hi : Int) : D → Bool
  | .int i => decide (lo ≤ i) && decide (i ≤ hi)
  | _ => false
theorem call1 {f : List D → Store → Res D} {a : Ex} {en : En} {s t : Store} {x : D} {r : Res D} (e1 : a en s = .ok x t) (e3 : f [x] t = r) : xCall (fun _ => f) 0 (lCons a lNil) en s = r := by
  simp only [xCall, lCons, lNil, e1, Res.bind, e3]
theorem call3 {f : List D → Store → Res D} {a b c : Ex} {en : En} {s t u v : Store} {x y z : D} {r : Res D} (e1 : a en s = .ok x t) (e2 : b en t = .ok y u) (e4 : c en u = .ok z v) (e3 : f [x, y, z] v = r) : xCall (fun _ => f) 0 (lCons a (lCons b (lCons c lNil))) en s = r := by
  simp only [xCall, lCons, lNil, e1, e2, e4, Res.bind, e3]
def isI : D → Bool
  | .int _ => true
  | _ => false
theorem isint_ok {d : D} (h : notRef d = true) (s : Store) : m_is_integer [d] s = .ok (.bl (isI d)) s := by
  cases d <;> first | (cases h; done) | (simp [m_is_integer, b_is_integer, runB, startE, sSeq, sRet, ofRes, xAnd, xNot, xOp1, xRd, Res.bind, Res.ofOpt, oIsTy, notRef, isTy, Out.seq, isI])
theorem within_ok {d : D} (h : notRef d = true) (lo hi : Int) (s : Store) : m_is_within [d, .int lo, .int hi] s = .ok (.bl (inR lo hi d)) s := by
  refine run_ret (seq_r (ret_ok ?_))
  have e : xCall (fun _ => m_is_integer) 0 (lCons (xVar 0) lNil) (startE 3 [d, .int lo, .int hi]) s = .ok (.bl (isI d)) s := call1 rfl (isint_ok h s)
  simp only [xAnd, e, Res.bind]
  cases d with
  | int i =>
    simp only [isI, xChain, xRd, startE, List.map_cons, List.cons_append, List.getElem?_cons_zero, List.getElem?_cons_succ, Res.bind, Res.ofOpt, oLe, inR]
    by_cases c : lo ≤ i <;> simp [c]
  | _ => rfl
end W
end
section
set_option Elab.async false
set_option linter.all false
set_option maxRecDepth 100000
set_option maxHeartbeats 1000000
namespace W
open Il PySem
local macro_rules | `(tactic| walk_at "bd") => `(tactic| first | rfl | decide | assumption | omega | (focus (simp; done)))
local macro_rules | `(tactic| walk_at "pr") => `(tactic| first | rfl | exact pr_mul_l (by walk_at "bd") | exact pr_mul_r (by walk_at "bd") | exact pr_mod (by walk_at "bd") | exact pr_div (by walk_at "bd") (by walk_at "bd") | exact pr_eq_i | exact pr_ne_i | exact pr_eq (by walk_at "bd") (by walk_at "bd") | exact pr_ne (by walk_at "bd") (by walk_at "bd") | exact pr_addT (by walk_at "bd") | exact pr_cat (by walk_at "bd") | assumption)
local macro_rules | `(tactic| walk_at "fn") => `(tactic| assumption)
local macro_rules | `(tactic| walk_at "tr") => `(tactic| first | rfl | assumption | decide | (focus (simp only [decide_eq_true_eq, beq_iff_eq, Bool.not_eq_true', decide_eq_false_iff_not]; omega)) | (focus (simp [*]; done)) | (focus (simp; omega)))
local macro_rules | `(tactic| walk_at "ev") => `(tactic| first
  | exact ev_c
  | exact ev_var rfl
  | exact ev_rd rfl
  | exact ev_rdo rfl
  | exact ev_lnil
  | exact ev_pno
  | exact ev_kn
  | exact ev_nil
  | (apply ev_lcons; walk_at "ev"; walk_at "ev")
  | (apply ev_op2; walk_at "ev"; walk_at "ev"; walk_at "pr")
  | (apply ev_op1; walk_at "ev"; walk_at "pr")
  | (apply ev_tup; walk_at "ev"; walk_at "bd")
  | (apply ev_lst; walk_at "ev")
  | (apply ev_disp; walk_at "ev"; walk_at "bd")
  | (apply ev_lop2; walk_at "ev"; walk_at "ev"; walk_at "pr")
  | (apply ev_lop1; walk_at "ev"; walk_at "pr")
  | (apply ev_psome; walk_at "ev")
  | (apply ev_tof; walk_at "ev")
  | (apply ev_tnot; walk_at "ev")
  | (apply ev_not; walk_at "ev")
  | (apply ev_call; walk_at "ev"; walk_at "fn")
  | (apply ev_slice; walk_at "ev"; walk_at "ev"; walk_at "ev"; rfl)
  | (apply ev_slT; walk_at "ev"; walk_at "ev"; walk_at "ev")
  | (apply ev_cell; walk_at "ev")
  | exact ev_dct0
  | (apply ev_fld; walk_at "ev"; walk_at "st"; walk_at "bd"; walk_at "bd")
  | (apply ev_bm; walk_at "ev"; walk_at "bd"; walk_at "ev"; walk_at "pr")
  | (apply ev_split; walk_at "ev"; walk_at "ev"; walk_at "bd")
  | (apply ev_zipT; walk_at "ev")
  | (apply ev_izip_t; walk_at "ev") | (apply ev_izip_l; walk_at "ev")
  | (apply ev_iseq_l; walk_at "ev") | (apply ev_iseq_t; walk_at "ev")
  | (apply ev_range1; walk_at "ev"; walk_at "bd")
  | (apply ev_range2; walk_at "ev"; walk_at "ev"; walk_at "bd")
  | (apply ev_lrd; walk_at "ev")
  | (apply ev_chain; walk_at "ev"; walk_at "ev"; walk_at "pr"; walk_at "ev"; walk_at "pr")
  | (apply ev_meth; walk_at "ev"; walk_at "st"; walk_at "bd"; walk_at "ev"; walk_at "fn")
  | (apply ev_new; walk_at "ev"; walk_at "fn")
  | (apply ev_kl; walk_at "ev"; walk_at "ev")
  | (apply ev_ke; walk_at "ev"; walk_at "ev")
  | (apply ev_if_t; walk_at "ev"; walk_at "tr"; walk_at "ev")
  | (apply ev_if_f; walk_at "ev"; walk_at "tr"; walk_at "ev")
  | (apply ev_lif_t; walk_at "ev"; walk_at "tr"; walk_at "ev")
  | (apply ev_lif_f; walk_at "ev"; walk_at "tr"; walk_at "ev")
  | (apply ev_tand_t; (apply ev_castT; walk_at "ev"; walk_at "tr"); walk_at "ev")
  | (apply ev_tand_f; (apply ev_castT; walk_at "ev"; walk_at "tr"))
  | (apply ev_tor_t; (apply ev_castT; walk_at "ev"; walk_at "tr"))
  | (apply ev_tor_f; (apply ev_castT; walk_at "ev"; walk_at "tr"); walk_at "ev")
  | (apply ev_and_t; (apply ev_castE; walk_at "ev"; walk_at "tr"); walk_at "ev")
  | (apply ev_and_f; (apply ev_castE; walk_at "ev"; walk_at "tr"))
  | (apply ev_or_t; (apply ev_castE; walk_at "ev"; walk_at "tr"))
  | (apply ev_or_f; (apply ev_castE; walk_at "ev"; walk_at "tr"); walk_at "ev")
  | assumption)
local macro_rules | `(tactic| walk_at "st") => `(tactic| first | rfl | assumption)
local macro_rules | `(tactic| walk_at "sv") => `(tactic| first
  | exact ev_nil
  | exact ev_raise0
  | (apply ev_seq; walk_at "sv"; first | (apply ev_nx; walk_at "sv") | rfl)
  | (apply ev_asg; walk_at "ev")
  | (apply ev_asgT; walk_at "ev"; rfl)
  | (apply ev_own; walk_at "ev"; walk_at "bd")
  | exact ev_frz rfl
  | exact ev_frz0 rfl
  | (apply ev_app; rfl; walk_at "ev"; walk_at "bd")
  | (apply ev_ext; rfl; walk_at "ev"; walk_at "bd")
  | (apply ev_pop; rfl; walk_at "bd")
  | (apply ev_par; walk_at "ev")
  | (apply ev_fset; walk_at "ev"; walk_at "ev"; walk_at "st"; walk_at "bd"; walk_at "bd")
  | (apply ev_item; walk_at "ev"; walk_at "ev"; walk_at "ev"; walk_at "st"; walk_at "bd")
  | (apply ev_appR; walk_at "ev"; walk_at "st"; walk_at "ev"; walk_at "st"; walk_at "bd")
  | (apply ev_popR; walk_at "ev"; walk_at "st"; walk_at "bd")
  | (apply ev_pop0R; walk_at "ev"; walk_at "st")
  | (apply ev_ret; walk_at "ev")
  | (apply ev_drop; walk_at "ev")
  | (apply ev_ret_x; walk_at "ev")
  | (apply ev_drop_x; walk_at "ev")
  | (apply ev_sif_t; walk_at "ev"; walk_at "tr"; walk_at "sv")
  | (apply ev_sif_f; walk_at "ev"; walk_at "tr"; walk_at "sv")
  | assumption)
local macro_rules | `(tactic| walk_at "run") => `(tactic| first | (apply ev_run; walk_at "sv") | (apply ev_run_n; walk_at "sv") | (apply ev_run_x; walk_at "sv"))
local macro_rules | `(tactic| walk_at "eq") => `(tactic| first | rfl | (focus (simp; done)) | omega | assumption)
local macro_rules | `(tactic| walk_at "EV") => `(tactic| (apply res_eq; walk_at "ev"; walk_at "eq"; walk_at "eq"))
local macro_rules | `(tactic| walk_at "RUN") => `(tactic| (apply res_eq; walk_at "run"; walk_at "eq"; walk_at "eq"))
def wrapped (d : D) : Prop := ∃ e, d = .lst [e] ∨ d = .tup [e]
def deepB : Bk := (sSeq (sAsg (.nm 1) (xIf (tOf (xOp2 oEq (xCall (fun _ => m_law_draw) 0 (lCons (xVar 0) (lCons (xC (.int 2)) lNil))) (xC (.int 0)))) (xLst (lDisp (lCons (xVar 1) lNil))) (xTup (lCons (xVar 1) lNil)))) sNil)
/-- bad things: of some depth, or an empty dict -/
def bad (d : D) : Prop := okT d 50 ∨ d = .dct []
def txt (d : D) : Str := match d with
  | .dct [] => "{}"
  | _ => d.text
end W
end
section
set_option Elab.async false
set_option linter.all false
set_option maxRecDepth 100000
/-! Loops and comprehensions of mirrored code. -/
namespace Il
theorem comp_fil {g : Tg} {t : Tx} {e : Ex} {en : En} {s : Store} (p : D → Bool) (f : D → D) : ∀ (ds acc : List D), acc.length + ds.length ≤ BIG → (∀ d ∈ ds, ∃ en1, g.put d en = some en1 ∧ t en1 s = .ok (p d) s ∧ (p d = true → e en1 s = .ok (f d) s)) → compL g t e en ds acc s = .ok (acc ++ (ds.filter p).map f) s
  | [], acc, _, _ => by simp [compL]
  | d :: ds, acc, hl, h => by
    obtain ⟨en1, h1, h2, h3⟩ := h d List.mem_cons_self
    simp only [List.length_cons] at hl
    simp only [compL, h1, h2, Res.bind]
    cases c : p d with
    | true =>
      have ih := comp_fil p f ds (acc ++ [f d]) (by simp only [List.length_append, List.length_cons, List.length_nil]; omega) fun x hx => h x (List.mem_cons_of_mem _ hx)
      rw [if_pos rfl, h3 c]
      simp only [Res.bind]
      rw [if_pos (by omega), ih]
      simp [List.filter_cons, c]
    | false =>
      have ih := comp_fil p f ds acc (by omega) fun x hx => h x (List.mem_cons_of_mem _ hx)
      rw [if_neg (by decide), ih]
      simp [List.filter_cons, c]
theorem comp_map {g : Tg} {e : Ex} {en : En} {s : Store} (f : D → D) (ds : List D) (hl : ds.length ≤ BIG) (h : ∀ d ∈ ds, ∃ en1, g.put d en = some en1 ∧ e en1 s = .ok (f d) s) : compL g tYes e en ds [] s = .ok (ds.map f) s := by
  have z := comp_fil (g := g) (t := tYes) (e := e) (en := en) (s := s) (fun _ => true) f ds [] (by simpa using hl) fun d hd => by
    obtain ⟨en1, h1, h2⟩ := h d hd
    exact ⟨en1, h1, rfl, fun _ => h2⟩
  rw [z]
  have : ds.filter (fun _ => true) = ds := List.filter_eq_self.mpr fun _ _ => rfl
  rw [this]; rfl
end Il
end
section
set_option Elab.async false
set_option linter.all false
set_option maxRecDepth 100000
set_option maxHeartbeats 1000000
namespace W
open Il PySem
local macro_rules | `(tactic| walk_at "bd") => `(tactic| first | rfl | decide | assumption | omega | (focus (simp; done)))
local macro_rules | `(tactic| walk_at "pr") => `(tactic| first | rfl | exact pr_mul_l (by walk_at "bd") | exact pr_mul_r (by walk_at "bd") | exact pr_mod (by walk_at "bd") | exact pr_div (by walk_at "bd") (by walk_at "bd") | exact pr_eq_i | exact pr_ne_i | exact pr_eq (by walk_at "bd") (by walk_at "bd") | exact pr_ne (by walk_at "bd") (by walk_at "bd") | exact pr_addT (by walk_at "bd") | exact pr_cat (by walk_at "bd") | assumption)
local macro_rules | `(tactic| walk_at "fn") => `(tactic| assumption)
local macro_rules | `(tactic| walk_at "tr") => `(tactic| first | rfl | assumption | decide | (focus (simp only [decide_eq_true_eq, beq_iff_eq, Bool.not_eq_true', decide_eq_false_iff_not]; omega)) | (focus (simp [*]; done)) | (focus (simp; omega)))
local macro_rules | `(tactic| walk_at "ev") => `(tactic| first
  | exact ev_c
  | exact ev_var rfl
  | exact ev_rd rfl
  | exact ev_rdo rfl
  | exact ev_lnil
  | exact ev_pno
  | exact ev_kn
  | exact ev_nil
  | (apply ev_lcons; walk_at "ev"; walk_at "ev")
  | (apply ev_op2; walk_at "ev"; walk_at "ev"; walk_at "pr")
  | (apply ev_op1; walk_at "ev"; walk_at "pr")
  | (apply ev_tup; walk_at "ev"; walk_at "bd")
  | (apply ev_lst; walk_at "ev")
  | (apply ev_disp; walk_at "ev"; walk_at "bd")
  | (apply ev_lop2; walk_at "ev"; walk_at "ev"; walk_at "pr")
  | (apply ev_lop1; walk_at "ev"; walk_at "pr")
  | (apply ev_psome; walk_at "ev")
  | (apply ev_tof; walk_at "ev")
  | (apply ev_tnot; walk_at "ev")
  | (apply ev_not; walk_at "ev")
  | (apply ev_call; walk_at "ev"; walk_at "fn")
  | (apply ev_slice; walk_at "ev"; walk_at "ev"; walk_at "ev"; rfl)
  | (apply ev_slT; walk_at "ev"; walk_at "ev"; walk_at "ev")
  | (apply ev_cell; walk_at "ev")
  | exact ev_dct0
  | (apply ev_fld; walk_at "ev"; walk_at "st"; walk_at "bd"; walk_at "bd")
  | (apply ev_bm; walk_at "ev"; walk_at "bd"; walk_at "ev"; walk_at "pr")
  | (apply ev_split; walk_at "ev"; walk_at "ev"; walk_at "bd")
  | (apply ev_zipT; walk_at "ev")
  | (apply ev_izip_t; walk_at "ev") | (apply ev_izip_l; walk_at "ev")
  | (apply ev_iseq_l; walk_at "ev") | (apply ev_iseq_t; walk_at "ev")
  | (apply ev_range1; walk_at "ev"; walk_at "bd")
  | (apply ev_range2; walk_at "ev"; walk_at "ev"; walk_at "bd")
  | (apply ev_lrd; walk_at "ev")
  | (apply ev_chain; walk_at "ev"; walk_at "ev"; walk_at "pr"; walk_at "ev"; walk_at "pr")
  | (apply ev_meth; walk_at "ev"; walk_at "st"; walk_at "bd"; walk_at "ev"; walk_at "fn")
  | (apply ev_new; walk_at "ev"; walk_at "fn")
  | (apply ev_kl; walk_at "ev"; walk_at "ev")
  | (apply ev_ke; walk_at "ev"; walk_at "ev")
  | (apply ev_if_t; walk_at "ev"; walk_at "tr"; walk_at "ev")
  | (apply ev_if_f; walk_at "ev"; walk_at "tr"; walk_at "ev")
  | (apply ev_lif_t; walk_at "ev"; walk_at "tr"; walk_at "ev")
  | (apply ev_lif_f; walk_at "ev"; walk_at "tr"; walk_at "ev")
  | (apply ev_tand_t; (apply ev_castT; walk_at "ev"; walk_at "tr"); walk_at "ev")
  | (apply ev_tand_f; (apply ev_castT; walk_at "ev"; walk_at "tr"))
  | (apply ev_tor_t; (apply ev_castT; walk_at "ev"; walk_at "tr"))
  | (apply ev_tor_f; (apply ev_castT; walk_at "ev"; walk_at "tr"); walk_at "ev")
  | (apply ev_and_t; (apply ev_castE; walk_at "ev"; walk_at "tr"); walk_at "ev")
  | (apply ev_and_f; (apply ev_castE; walk_at "ev"; walk_at "tr"))
  | (apply ev_or_t; (apply ev_castE; walk_at "ev"; walk_at "tr"))
  | (apply ev_or_f; (apply ev_castE; walk_at "ev"; walk_at "tr"); walk_at "ev")
  | assumption)
local macro_rules | `(tactic| walk_at "st") => `(tactic| first | rfl | assumption)
local macro_rules | `(tactic| walk_at "sv") => `(tactic| first
  | exact ev_nil
  | exact ev_raise0
  | (apply ev_seq; walk_at "sv"; first | (apply ev_nx; walk_at "sv") | rfl)
  | (apply ev_asg; walk_at "ev")
  | (apply ev_asgT; walk_at "ev"; rfl)
  | (apply ev_own; walk_at "ev"; walk_at "bd")
  | exact ev_frz rfl
  | exact ev_frz0 rfl
  | (apply ev_app; rfl; walk_at "ev"; walk_at "bd")
  | (apply ev_ext; rfl; walk_at "ev"; walk_at "bd")
  | (apply ev_pop; rfl; walk_at "bd")
  | (apply ev_par; walk_at "ev")
  | (apply ev_fset; walk_at "ev"; walk_at "ev"; walk_at "st"; walk_at "bd"; walk_at "bd")
  | (apply ev_item; walk_at "ev"; walk_at "ev"; walk_at "ev"; walk_at "st"; walk_at "bd")
  | (apply ev_appR; walk_at "ev"; walk_at "st"; walk_at "ev"; walk_at "st"; walk_at "bd")
  | (apply ev_popR; walk_at "ev"; walk_at "st"; walk_at "bd")
  | (apply ev_pop0R; walk_at "ev"; walk_at "st")
  | (apply ev_ret; walk_at "ev")
  | (apply ev_drop; walk_at "ev")
  | (apply ev_ret_x; walk_at "ev")
  | (apply ev_drop_x; walk_at "ev")
  | (apply ev_sif_t; walk_at "ev"; walk_at "tr"; walk_at "sv")
  | (apply ev_sif_f; walk_at "ev"; walk_at "tr"; walk_at "sv")
  | assumption)
local macro_rules | `(tactic| walk_at "run") => `(tactic| first | (apply ev_run; walk_at "sv") | (apply ev_run_n; walk_at "sv") | (apply ev_run_x; walk_at "sv"))
local macro_rules | `(tactic| walk_at "eq") => `(tactic| first | rfl | (focus (simp; done)) | omega | assumption)
local macro_rules | `(tactic| walk_at "EV") => `(tactic| (apply res_eq; walk_at "ev"; walk_at "eq"; walk_at "eq"))
local macro_rules | `(tactic| walk_at "RUN") => `(tactic| (apply res_eq; walk_at "run"; walk_at "eq"; walk_at "eq"))
abbrev P := Int × Int
def isTup : D → Bool
  | .tup _ => true
  | _ => false
def tupLen (lo hi : Int) : D → Bool
  | .tup xs => decide (lo ≤ (xs.length : Int)) && decide ((xs.length : Int) ≤ hi)
  | _ => false
theorem istuple_ok {d : D} (h : notRef d = true) (lo hi : Int) (s : Store) : m_is_tuple [d, .int lo, .int hi] s = .ok (.bl (tupLen lo hi d)) s := by
  refine run_ret (seq_r (ret_ok ?_))
  have e : (xOp1 (oIsTy [.tuple]) (xRd 0)) (startE 3 [d, .int lo, .int hi]) s = .ok (.bl (isTup d)) s := op1 rfl (by
    simp only [oIsTy, h, if_true]
    cases d <;> rfl)
  cases d with
  | tup xs =>
    refine ev_and_t e ?_
    exact ev_chain rfl (ev_op1 rfl rfl) rfl rfl rfl
  | _ => exact ev_and_f e
/-- what is_dot tells -/
def isDot : D → Bool
  | .tup [a, b] => inR (-100) 100 a && inR (-100) 100 b
  | _ => false
def itemsNR : D → Bool
  | .tup xs => xs.all notRef
  | d => notRef d
theorem nr_of {d : D} (h : itemsNR d = true) : notRef d = true := by
  cases d <;> first | rfl | exact h
theorem isdot_ok {d : D} (h : itemsNR d = true) (s : Store) : m_is_dot [d] s = .ok (.bl (isDot d)) s := by
  refine run_ret (seq_r (ret_ok ?_))
  have e1 := call3 (f := m_is_tuple) (a := xVar 0) (b := xC (.int 2)) (c := xC (.int 2)) (en := startE 2 [d]) (s := s) rfl rfl rfl (istuple_ok (nr_of h) 2 2 s)
  match d, h, e1 with
  | .tup [a, b], h, e1 =>
    refine ev_and_t e1 ?_
    simp only [itemsNR, List.all_cons, List.all_nil, Bool.and_true, Bool.and_eq_true] at h
    have ec : compL (.nm 1) tYes (xCall (fun _ => m_is_within) 0 (lCons (xVar 1) (lCons (xOp1 oNeg (xC (.int 100))) (lCons (xC (.int 100)) lNil)))) [some (.fro (.tup [a, b])), none] [a, b] [] s = .ok ([a, b].map fun x => .bl (inR (-100) 100 x)) s := by
      refine comp_map _ _ (by simp [BIG]) fun x hx => ⟨_, rfl, ?_⟩
      have hn : notRef x = true := by
        simp only [List.mem_cons, List.not_mem_nil, or_false] at hx
        rcases hx with e | e <;> subst e
        · exact h.1
        · exact h.2
      exact call3 rfl (op1 rfl rfl) rfl (within_ok hn _ _ _)
    exact ev_op1 (ev_lst (ev_comp (ev_iseq_t rfl) ec)) (by simp [oAll, deref, boolsOf, isDot])
  | .tup [], h, e1 => exact ev_and_f e1
  | .tup [_], h, e1 => exact ev_and_f e1
  | .tup (x1 :: x2 :: x3 :: r), h, e1 =>
    have z : tupLen 2 2 (.tup (x1 :: x2 :: x3 :: r)) = false := by
      simp only [tupLen, List.length_cons, Bool.and_eq_false_imp, decide_eq_true_eq, decide_eq_false_iff_not]
      omega
    rw [z] at e1
    exact ev_and_f e1
  | .non, h, e1 => exact ev_and_f e1
  | .bl _, h, e1 => exact ev_and_f e1
  | .int _, h, e1 => exact ev_and_f e1
  | .str _, h, e1 => exact ev_and_f e1
  | .lst _, h, e1 => exact ev_and_f e1
  | .dct _, h, e1 => exact ev_and_f e1
  | .ref _, h, _ => cases h
  | .scr _, h, _ => cases h
theorem nr_pair (p : P) : itemsNR (pairD p) = true := rfl
def inDot (p : P) : Bool := isDot (pairD p)
/-! pairs as data -/
theorem pair_ok (p : P) : (pairD p).ok = true := rfl
theorem pairs_flat : ∀ (ps : List P), D.flatL (ps.map pairD) = true
  | [] => rfl
  | p :: ps => by simp only [List.map_cons, D.flatL, pairs_flat ps, Bool.and_true]; rfl
theorem pairs_depth : ∀ (ps : List P), D.depthL (ps.map pairD) ≤ 1
  | [] => by simp [D.depthL]
  | p :: ps => by
    have := pairs_depth ps
    simp only [List.map_cons, D.depthL]
    have h : D.depth (pairD p) = 1 := rfl
    omega
theorem pairsT_ok (ps : List P) : (D.tup (ps.map pairD)).ok = true := by
  have := pairs_depth ps
  simp only [D.ok, D.flat, D.depth, pairs_flat, Bool.true_and]
  exact decide_eq_true (by omega)
theorem pair_eqv (p q : P) : D.eqv (pairD p) (pairD q) = decide (p = q) := by
  obtain ⟨a, b⟩ := p
  obtain ⟨c, d⟩ := q
  simp only [pairD, D.eqv, D.eqvL, Bool.and_true, Prod.mk.injEq]
  by_cases h1 : a = c <;> by_cases h2 : b = d <;> simp [h1, h2]
theorem pairs_eqv : ∀ (ps qs : List P), D.eqvL (ps.map pairD) (qs.map pairD) = decide (ps = qs)
  | [], [] => rfl
  | [], _ :: _ => rfl
  | _ :: _, [] => rfl
  | p :: ps, q :: qs => by
    simp only [List.map_cons, D.eqvL, pair_eqv, pairs_eqv ps qs, List.cons.injEq]
    by_cases h1 : p = q <;> by_cases h2 : ps = qs <;> simp [h1, h2]
def sortP (ps : List P) : List P := ps.mergeSort leP
end W
end
section
set_option Elab.async false
set_option linter.all false
/-! The plane: turns, the order of dots, the monotone chain. No mirror in sight. -/
namespace G
abbrev P := Int × Int
def tn (a b c : P) : Int := (b.1 - a.1) * (c.2 - a.2) - (b.2 - a.2) * (c.1 - a.1)
def LP (x y : Int) : Prop := 0 < x ∨ (x = 0 ∧ 0 < y)
def LN (x y : Int) : Prop := LP x y ∨ (x = 0 ∧ y = 0)
theorem LP_smul {k x y : Int} (hk : 0 < k) (h : LP x y) : LP (k * x) (k * y) := by
  rcases h with h | ⟨h, h2⟩
  · exact .inl (Int.mul_pos hk h)
  · subst h; exact .inr ⟨by simp, Int.mul_pos hk h2⟩
theorem LN_smul {k x y : Int} (hk : 0 ≤ k) (h : LN x y) : LN (k * x) (k * y) := by
  by_cases c : k = 0
  · subst c; exact .inr ⟨by simp, by simp⟩
  · rcases h with h | ⟨h, h2⟩
    · exact .inl (LP_smul (by omega) h)
    · subst h; subst h2; exact .inr ⟨by simp, by simp⟩
theorem LP_add {x y z w : Int} (h : LP x y) (h2 : LN z w) : LP (x + z) (y + w) := by
  unfold LN LP at *
  omega
theorem LN_add {x y z w : Int} (h : LN x y) (h2 : LN z w) : LN (x + z) (y + w) := by
  unfold LN LP at *
  omega
theorem LP_neg {x y : Int} (h : LP x y) (h2 : LN (-x) (-y)) : False := by
  unfold LN LP at *
  omega
theorem LP_sign {c x y : Int} (h : LP x y) (h2 : LN (c * x) (c * y)) : 0 ≤ c := by
  apply Classical.byContradiction
  intro hc
  have z := LP_smul (k := -c) (by omega) h
  refine LP_neg z ?_
  have e1 : -(-c * x) = c * x := by rw [Int.neg_mul, Int.neg_neg]
  have e2 : -(-c * y) = c * y := by rw [Int.neg_mul, Int.neg_neg]
  rw [e1, e2]; exact h2
theorem LP_sign' {c x y : Int} (h : LP x y) (h2 : LP (c * x) (c * y)) : 0 < c := by
  have := LP_sign h (.inl h2)
  by_cases e : c = 0
  · subst e
    unfold LP at h2
    omega
  · omega
def lt (p q : P) : Prop := LP (q.1 - p.1) (q.2 - p.2)
def le (p q : P) : Prop := LN (q.1 - p.1) (q.2 - p.2)
theorem lt_irr {p : P} (h : lt p p) : False := by unfold lt LP at h; omega
theorem lt_trans {p q r : P} (h : lt p q) (h2 : lt q r) : lt p r := by unfold lt LP at *; omega
theorem lt_le_trans {p q r : P} (h : lt p q) (h2 : le q r) : lt p r := by unfold le lt LN LP at *; omega
theorem le_of_lt {p q : P} (h : lt p q) : le p q := .inl h
theorem le_refl (p : P) : le p p := by unfold le LN; omega
theorem le_trans {p q r : P} (h : le p q) (h2 : le q r) : le p r := by unfold le LN LP at *; omega
theorem lt_of_not_le {p q : P} (h : ¬ le p q) : lt q p := by unfold le lt LN LP at *; omega
theorem le_anti {p q : P} (h : le p q) (h2 : le q p) : p = q := by
  unfold le LN LP at *
  exact Prod.ext (by omega) (by omega)
theorem lt_or_eq {p q : P} (h : le p q) : lt p q ∨ p = q := by
  rcases h with h | ⟨h, h2⟩
  · exact .inl h
  · exact .inr (Prod.ext (by omega) (by omega))
theorem tri (p q : P) : lt p q ∨ p = q ∨ lt q p := by
  by_cases h : le p q
  · rcases lt_or_eq h with h | h
    · exact .inl h
    · exact .inr (.inl h)
  · exact .inr (.inr (lt_of_not_le h))
theorem ne_of_lt {p q : P} (h : lt p q) : p ≠ q := fun e => by subst e; exact lt_irr h
/-- turns -/
theorem g1 {a b p q : P} (h1 : lt a b) (h2 : lt b p) (h3 : le q b) (h4 : 0 ≤ tn a b q) (h5 : 0 < tn a b p) : 0 ≤ tn b p q := by
  unfold lt le at *
  have z := LN_add (LN_smul h4 (.inl h2)) (LN_smul (Int.le_of_lt h5) h3)
  refine LP_sign h1 ?_
  have e1 : tn a b q * (p.1 - b.1) + tn a b p * (b.1 - q.1) = tn b p q * (b.1 - a.1) := by unfold tn; grind
  have e2 : tn a b q * (p.2 - b.2) + tn a b p * (b.2 - q.2) = tn b p q * (b.2 - a.2) := by unfold tn; grind
  rw [e1, e2] at z
  exact z
theorem g2 {b c p q : P} (h1 : lt b c) (h2 : lt b p) (h3 : lt b q) (h4 : tn b c p ≤ 0) (h5 : 0 ≤ tn b c q) : 0 ≤ tn b p q := by
  unfold lt at *
  have z := LN_add (LN_smul h5 (.inl h2)) (LN_smul (k := -(tn b c p)) (by omega) (.inl h3))
  refine LP_sign h1 ?_
  have e1 : tn b c q * (p.1 - b.1) + -(tn b c p) * (q.1 - b.1) = tn b p q * (c.1 - b.1) := by unfold tn; grind
  have e2 : tn b c q * (p.2 - b.2) + -(tn b c p) * (q.2 - b.2) = tn b p q * (c.2 - b.2) := by unfold tn; grind
  rw [e1, e2] at z
  exact z
theorem g3 {a b c p : P} (h1 : lt a b) (h2 : lt b c) (h3 : lt b p) (h4 : 0 < tn a b c) (h5 : 0 ≤ tn b c p) : 0 < tn a b p := by
  unfold lt at *
  have z := LP_add (LP_smul h4 h3) (LN_smul h5 (.inl h1))
  refine LP_sign' h2 ?_
  have e1 : tn a b c * (p.1 - b.1) + tn b c p * (b.1 - a.1) = tn a b p * (c.1 - b.1) := by unfold tn; grind
  have e2 : tn a b c * (p.2 - b.2) + tn b c p * (b.2 - a.2) = tn a b p * (c.2 - b.2) := by unfold tn; grind
  rw [e1, e2] at z
  exact z
/-- a, t collinear with b between: no vertex there -/
theorem g4 {x a b t : P} (h1 : lt a b) (h2 : lt b t) (h3 : tn a t b = 0) (h4 : 0 < tn x b t) (h5 : 0 ≤ tn x b a) : False := by
  unfold lt at *
  have z := LP_add (LP_smul h4 h1) (LN_smul h5 (.inl h2))
  have e1 : tn x b t * (b.1 - a.1) + tn x b a * (t.1 - b.1) = 0 := by
    have : tn x b t * (b.1 - a.1) + tn x b a * (t.1 - b.1) = tn a t b * (x.1 - b.1) := by unfold tn; grind
    rw [this, h3, Int.zero_mul]
  have e2 : tn x b t * (b.2 - a.2) + tn x b a * (t.2 - b.2) = 0 := by
    have : tn x b t * (b.2 - a.2) + tn x b a * (t.2 - b.2) = tn a t b * (x.2 - b.2) := by unfold tn; grind
    rw [this, h3, Int.zero_mul]
  rw [e1, e2] at z
  unfold LP at z
  omega
theorem tn_swap (a b c : P) : tn b a c = -(tn a b c) := by unfold tn; grind
theorem tn_aab (a b : P) : tn a a b = 0 := by unfold tn; grind
theorem tn_aba (a b : P) : tn a b a = 0 := by unfold tn; grind
theorem tn_abb (a b : P) : tn a b b = 0 := by unfold tn; grind
/-! ### chains, the last dot first -/
def Cvx : List P → Prop
  | c :: b :: a :: r => 0 < tn a b c ∧ Cvx (b :: a :: r)
  | _ => True
def Left : List P → P → Prop
  | b :: a :: r, q => 0 ≤ tn a b q ∧ Left (a :: r) q
  | _, _ => True
abbrev Desc (st : List P) : Prop := st.Pairwise fun x y => lt y x
def popW : List P → P → List P
  | b :: a :: r, p => if tn a b p ≤ 0 then popW (a :: r) p else b :: a :: r
  | r, _ => r
theorem Cvx_tail : ∀ {c : P} {r : List P}, Cvx (c :: r) → Cvx r
  | _, [], _ => trivial
  | _, [_], _ => trivial
  | _, _ :: _ :: _, h => h.2
theorem left_p : ∀ {p b : P} {r : List P}, Desc (p :: b :: r) → Cvx (p :: b :: r) → Left (b :: r) p
  | _, _, [], _, _ => trivial
  | p, b, [a], _, h => ⟨Int.le_of_lt h.1, trivial⟩
  | p, b, a :: z :: r, hd, h => by
    have d1 := List.pairwise_cons.mp hd
    have d2 := List.pairwise_cons.mp d1.2
    have d3 := List.pairwise_cons.mp d2.2
    have hz : 0 < tn z a p := g3 (d3.1 z (by simp)) (d2.1 a (by simp)) (d1.1 a (by simp)) h.2.1 (Int.le_of_lt h.1)
    refine ⟨Int.le_of_lt h.1, ?_⟩
    refine left_p (p := p) (b := a) (r := z :: r) ?_ ⟨hz, h.2.2⟩
    exact List.pairwise_cons.mpr ⟨fun x hx => d1.1 x (List.mem_cons_of_mem _ hx), d2.2⟩
theorem pop_ok {Q : P → Prop} {p : P} (hp : ∀ q, Q q → lt q p) : ∀ (st : List P), st ≠ [] → Desc st → Cvx st → (∀ x ∈ st, Q x) → (∀ q, Q q → Left st q) → (∀ i b, st = i ++ [b] → ∀ q, Q q → le b q) → (∀ b r, st = b :: r → ∀ q, Q q → lt b q → 0 ≤ tn b p q) →
    Cvx (p :: popW st p) ∧ (∀ q, Q q → Left (p :: popW st p) q)
  | [], h, _, _, _, _, _, _ => absurd rfl h
  | [b], _, _, _, hm, _, hb, hH => by
    refine ⟨trivial, fun q hq => ⟨?_, trivial⟩⟩
    rcases lt_or_eq (hb [] b rfl q hq) with h | h
    · exact hH b [] rfl q hq h
    · subst h; exact Int.le_of_eq (tn_aba _ _).symm
  | b :: a :: r, _, hd, hc, hm, hl, hb, hH => by
    have d1 := List.pairwise_cons.mp hd
    have hab : lt a b := d1.1 a (by simp)
    have hbp : lt b p := hp b (hm b (by simp))
    unfold popW
    by_cases c : tn a b p ≤ 0
    · rw [if_pos c]
      refine pop_ok hp (a :: r) (by simp) d1.2 (Cvx_tail hc) (fun x hx => hm x (List.mem_cons_of_mem _ hx)) (fun q hq => (hl q hq).2) (fun i e h => hb (b :: i) e (by rw [h]; rfl)) ?_
      intro a' r' e q hq hlt
      cases e
      exact g2 hab (lt_trans hab hbp) hlt c (hl q hq).1
    · rw [if_neg c]
      refine ⟨⟨by omega, hc⟩, fun q hq => ⟨?_, hl q hq⟩⟩
      by_cases h : le q b
      · exact g1 hab hbp h (hl q hq).1 (by omega)
      · exact hH b _ rfl q hq (lt_of_not_le h)
theorem popW_suffix : ∀ (st : List P) (p : P), ∃ i, st = i ++ popW st p
  | [], _ => ⟨[], rfl⟩
  | [a], _ => ⟨[], rfl⟩
  | b :: a :: r, p => by
    obtain ⟨i, e⟩ := popW_suffix (a :: r) p
    unfold popW
    split
    · exact ⟨b :: i, by rw [List.cons_append, ← e]⟩
    · exact ⟨[], rfl⟩
theorem popW_ne : ∀ (st : List P) (p : P), st ≠ [] → popW st p ≠ []
  | [], _, h => absurd rfl h
  | [a], _, _ => by simp [popW]
  | b :: a :: r, p, _ => by
    unfold popW
    split
    · exact popW_ne (a :: r) p (by simp)
    · simp
theorem popW_last {st : List P} {p b : P} (hne : st ≠ []) (i : List P) (h : st = i ++ [b]) : ∃ j, popW st p = j ++ [b] := by
  obtain ⟨k, e⟩ := popW_suffix st p
  have hn := popW_ne st p hne
  obtain ⟨j, x, e2⟩ : ∃ j x, popW st p = j ++ [x] := ⟨_, _, (List.dropLast_concat_getLast hn).symm⟩
  rw [e2, h, ← List.append_assoc] at e
  have := List.append_inj_right' e rfl
  simp only [List.cons.injEq, and_true] at this
  exact ⟨j, by rw [e2, this]⟩
/-- the chain of some dots: convex, all dots to its left, from the least one to the greatest one -/
structure Chn (S st : List P) : Prop where
  desc : Desc st
  cvx : Cvx st
  mem : ∀ x ∈ st, x ∈ S
  left : ∀ q ∈ S, Left st q
  top : ∃ t r, st = t :: r ∧ ∀ q ∈ S, le q t
  bot : ∃ i b, st = i ++ [b] ∧ ∀ q ∈ S, le b q
def step (st : List P) (p : P) : List P := p :: popW st p
theorem chn_one (p : P) : Chn [p] [p] where
  desc := List.pairwise_singleton _ _
  cvx := trivial
  mem := fun _ h => h
  left := fun _ _ => trivial
  top := ⟨p, [], rfl, fun q hq => by rw [List.mem_singleton.mp hq]; exact le_refl _⟩
  bot := ⟨[], p, rfl, fun q hq => by rw [List.mem_singleton.mp hq]; exact le_refl _⟩
theorem chn_step {S st : List P} {p : P} (h : Chn S st) (hp : ∀ q ∈ S, lt q p) : Chn (S ++ [p]) (step st p) := by
  obtain ⟨t, r, e1, ht⟩ := h.top
  obtain ⟨i, b, e2, hb⟩ := h.bot
  have hne : st ≠ [] := by rw [e1]; simp
  obtain ⟨k, e3⟩ := popW_suffix st p
  obtain ⟨j, e4⟩ := popW_last (p := p) hne i e2
  have hsub : ∀ x ∈ popW st p, x ∈ st := fun x hx => by rw [e3]; exact List.mem_append_right _ hx
  obtain ⟨hc, hl⟩ := pop_ok (Q := (· ∈ S)) hp st hne h.desc h.cvx h.mem h.left (fun i' b' e => by
      have := List.append_inj_right' (e.symm.trans e2) rfl
      simp only [List.cons.injEq, and_true] at this
      rw [this]; exact hb) (fun b' r' e q hq hlt => by
      rw [e1] at e; cases e
      exact (lt_irr (lt_le_trans hlt (ht q hq))).elim)
  have hd : Desc (p :: popW st p) := by
    refine List.pairwise_cons.mpr ⟨fun x hx => hp x (h.mem x (hsub x hx)), ?_⟩
    have := h.desc
    rw [e3] at this
    exact (List.pairwise_append.mp this).2.1
  refine ⟨hd, hc, fun x hx => ?_, fun q hq => ?_, ⟨p, _, rfl, fun q hq => ?_⟩, ⟨p :: j, b, by unfold step; rw [e4]; rfl, fun q hq => ?_⟩⟩
  · rcases List.mem_cons.mp hx with e | e
    · rw [e]; simp
    · exact List.mem_append_left _ (h.mem x (hsub x e))
  · rcases List.mem_append.mp hq with e | e
    · exact hl q e
    · rw [List.mem_singleton.mp e]
      unfold step
      have hn := popW_ne st p hne
      clear hl hsub e3 e4
      revert hn hd hc
      cases popW st p with
      | nil => exact fun _ _ hn => absurd rfl hn
      | cons b' r' => exact fun hc hd _ => ⟨Int.le_of_eq (tn_abb _ _).symm, left_p hd hc⟩
  · rcases List.mem_append.mp hq with e | e
    · exact le_of_lt (hp q e)
    · rw [List.mem_singleton.mp e]; exact le_refl _
  · rcases List.mem_append.mp hq with e | e
    · exact hb q e
    · rw [List.mem_singleton.mp e]
      have : b ∈ S := h.mem b (by rw [e2]; simp)
      exact le_of_lt (hp b this)
theorem chn_fold : ∀ (ps S st : List P), Chn S st → ps.Pairwise lt → (∀ q ∈ S, ∀ p ∈ ps, lt q p) → Chn (S ++ ps) (ps.foldl step st)
  | [], S, st, h, _, _ => by simpa using h
  | p :: ps, S, st, h, hp, hS => by
    have d := List.pairwise_cons.mp hp
    have := chn_fold ps (S ++ [p]) (step st p) (chn_step h fun q hq => hS q hq p (by simp)) d.2 (fun q hq x hx => by
      rcases List.mem_append.mp hq with e | e
      · exact hS q e x (List.mem_cons_of_mem _ hx)
      · rw [List.mem_singleton.mp e]; exact d.1 x hx)
    simpa [List.append_assoc] using this
theorem chn_all {ps : List P} (hne : ps ≠ []) (hp : ps.Pairwise lt) : Chn ps (ps.foldl step []) := by
  cases ps with
  | nil => exact absurd rfl hne
  | cons p ps =>
    have d := List.pairwise_cons.mp hp
    exact chn_fold ps [p] [p] (chn_one p) d.2 fun q hq x hx => by rw [List.mem_singleton.mp hq]; exact d.1 x hx
/-- just one -/
theorem chn_uniq : ∀ (A B : List P) (t : P), Desc (t :: A) → Desc (t :: B) → Cvx (t :: A) → Cvx (t :: B) → (∀ x ∈ t :: A, Left (t :: B) x) → (∀ x ∈ t :: B, Left (t :: A) x) → (∃ i j b, t :: A = i ++ [b] ∧ t :: B = j ++ [b]) → A = B
  | [], [], _, _, _, _, _, _, _, _ => rfl
  | [], b :: B, t, _, hB, _, _, _, _, ⟨i, j, z, e1, e2⟩ => by
    exfalso
    have : t = z := by
      have := List.append_inj_right' (s₁ := []) (t₁ := [t]) e1 rfl
      simpa using this
    subst this
    have d := List.pairwise_cons.mp hB
    have hz : t ∈ b :: B := by
      cases j with
      | nil => simp at e2
      | cons y j =>
        simp only [List.cons_append, List.cons.injEq] at e2
        rw [e2.2]; simp
    exact lt_irr (d.1 t hz)
  | a :: A, [], t, hA, _, _, _, _, _, ⟨i, j, z, e1, e2⟩ => by
    exfalso
    have : t = z := by
      have := List.append_inj_right' (s₁ := []) (t₁ := [t]) e2 rfl
      simpa using this
    subst this
    have d := List.pairwise_cons.mp hA
    have hz : t ∈ a :: A := by
      cases i with
      | nil => simp at e1
      | cons y i =>
        simp only [List.cons_append, List.cons.injEq] at e1
        rw [e1.2]; simp
    exact lt_irr (d.1 t hz)
  | a :: A, b :: B, t, hA, hB, cA, cB, lA, lB, ⟨i, j, z, e1, e2⟩ => by
    have dA := List.pairwise_cons.mp hA
    have dB := List.pairwise_cons.mp hB
    have h1 : 0 ≤ tn a t b := (lB b (by simp)).1
    have h2 : 0 ≤ tn b t a := (lA a (by simp)).1
    have h0 : tn a t b = 0 := by
      have : tn b t a = -(tn a t b) := by unfold tn; grind
      omega
    have h0' : tn b t a = 0 := by
      have : tn b t a = -(tn a t b) := by unfold tn; grind
      omega
    have bot : ∀ (X : List P) (k : List P) (x : P), t :: x :: X = k ++ [z] → ∃ k', x :: X = k' ++ [z] := by
      intro X k x e
      cases k with
      | nil => simp at e
      | cons y k =>
        simp only [List.cons_append, List.cons.injEq] at e
        exact ⟨k, e.2⟩
    have hab : a = b := by
      obtain ⟨iA, eA⟩ := bot _ _ _ e1
      obtain ⟨jB, eB⟩ := bot _ _ _ e2
      have zA : z ∈ a :: A := by rw [eA]; simp
      have zB : z ∈ b :: B := by rw [eB]; simp
      have leA : ∀ x ∈ a :: A, le x a := fun x hx => by
        rcases List.mem_cons.mp hx with e | e
        · rw [e]; exact le_refl _
        · exact le_of_lt ((List.pairwise_cons.mp dA.2).1 x e)
      have leB : ∀ x ∈ b :: B, le x b := fun x hx => by
        rcases List.mem_cons.mp hx with e | e
        · rw [e]; exact le_refl _
        · exact le_of_lt ((List.pairwise_cons.mp dB.2).1 x e)
      rcases tri a b with h | h | h
      · exfalso
        cases B with
        | nil =>
          have : z = b := by simpa using zB
          subst this
          exact lt_irr (lt_le_trans h (leA _ zA))
        | cons y B =>
          exact g4 h (dB.1 b (by simp)) h0 cB.1 (lA a (by simp)).2.1
      · exact h
      · exfalso
        cases A with
        | nil =>
          have : z = a := by simpa using zA
          subst this
          exact lt_irr (lt_le_trans h (leB _ zB))
        | cons y A =>
          exact g4 h (dA.1 a (by simp)) h0' cA.1 (lB b (by simp)).2.1
    subst hab
    have := chn_uniq A B a dA.2 dB.2 (Cvx_tail cA) (Cvx_tail cB) (fun x hx => (lA x (List.mem_cons_of_mem _ hx)).2) (fun x hx => (lB x (List.mem_cons_of_mem _ hx)).2) (by
      obtain ⟨i', e1'⟩ := bot _ _ _ e1
      obtain ⟨j', e2'⟩ := bot _ _ _ e2
      exact ⟨i', j', z, e1', e2'⟩)
    rw [this]
theorem Chn.uniq {S T A B : List P} (hA : Chn S A) (hB : Chn T B) (h1 : ∀ x ∈ A, x ∈ T) (h2 : ∀ x ∈ B, x ∈ S) : A = B := by
  obtain ⟨t, r, e1, ht⟩ := hA.top
  obtain ⟨t', r', e1', ht'⟩ := hB.top
  obtain ⟨i, b, e2, hb⟩ := hA.bot
  obtain ⟨i', b', e2', hb'⟩ := hB.bot
  have tt : t = t' := le_anti (ht' t (h1 t (by rw [e1]; simp))) (ht t' (h2 t' (by rw [e1']; simp)))
  have bb : b = b' := le_anti (hb b' (h2 b' (by rw [e2']; simp))) (hb' b (h1 b (by rw [e2]; simp)))
  subst tt; subst bb
  have cA := hA.cvx; have cB := hB.cvx; have dA := hA.desc; have dB := hB.desc
  have lA := fun x hx => hB.left x (h1 x hx)
  have lB := fun x hx => hA.left x (h2 x hx)
  rw [e1] at cA dA lA lB e2
  rw [e1'] at cB dB lA lB e2'
  rw [e1, e1', chn_uniq r r' t dA dB cA cB lA lB ⟨i, i', b, e2, e2'⟩]
end G
end
section
set_option Elab.async false
set_option linter.all false
/-! The hull: both chains, the corners. -/
namespace G
open Il (leP sortU sortU_mem sortU_nodup sortU_sorted)
def neg (p : P) : P := (-p.1, -p.2)
theorem neg_neg (p : P) : neg (neg p) = p := by unfold neg; simp
theorem tn_neg (a b c : P) : tn (neg a) (neg b) (neg c) = tn a b c := by unfold tn neg; grind
theorem lt_neg {a b : P} : lt (neg a) (neg b) ↔ lt b a := by unfold lt LP neg; dsimp only; omega
theorem le_neg {a b : P} : le (neg a) (neg b) ↔ le b a := by unfold le LN LP neg; dsimp only; omega
theorem popW_neg : ∀ (st : List P) (p : P), popW (st.map neg) (neg p) = (popW st p).map neg
  | [], _ => rfl
  | [a], _ => rfl
  | b :: a :: r, p => by
    have := popW_neg (a :: r) p
    simp only [List.map_cons] at this ⊢
    simp only [popW, tn_neg]
    split
    · exact this
    · rfl
theorem fold_neg : ∀ (ps st : List P), (ps.map neg).foldl step (st.map neg) = (ps.foldl step st).map neg
  | [], _ => rfl
  | p :: ps, st => by
    have := fold_neg ps (step st p)
    simp only [List.map_cons, List.foldl_cons]
    rw [← this]
    congr 1
    simp only [step, List.map_cons, popW_neg]
theorem le_leP {p q : P} : leP p q = true ↔ le p q := by
  unfold leP le LN LP
  simp only [decide_eq_true_eq]
  omega
theorem sortU_lt (S : List P) : (sortU S).Pairwise lt := by
  have h1 := sortU_sorted S
  have h2 := sortU_nodup S
  rw [List.nodup_iff_pairwise_ne] at h2
  refine (h1.and h2).imp fun {a b} h => ?_
  rcases lt_or_eq (le_leP.mp h.1) with z | z
  · exact z
  · exact absurd z h.2
def lo (S : List P) : List P := (sortU S).foldl step []
def up (S : List P) : List P := (sortU S).reverse.foldl step []
def half (ps : List P) : List P := (ps.foldl step []).tail.reverse
def hullL (S : List P) : List P := half (sortU S) ++ half (sortU S).reverse
theorem hullL_eq (S : List P) : hullL S = (lo S).tail.reverse ++ (up S).tail.reverse := rfl
theorem sort_ne {S : List P} (h : S ≠ []) : sortU S ≠ [] := fun e => by
  cases S with
  | nil => exact h rfl
  | cons a S =>
    have : a ∈ sortU (a :: S) := sortU_mem.mpr (by simp)
    rw [e] at this; simp at this
theorem Chn.congr {S T st : List P} (h : Chn S st) (e : ∀ x, x ∈ S ↔ x ∈ T) : Chn T st where
  desc := h.desc
  cvx := h.cvx
  mem := fun x hx => (e x).mp (h.mem x hx)
  left := fun q hq => h.left q ((e q).mpr hq)
  top := by
    obtain ⟨t, r, e1, ht⟩ := h.top
    exact ⟨t, r, e1, fun q hq => ht q ((e q).mpr hq)⟩
  bot := by
    obtain ⟨i, b, e1, hb⟩ := h.bot
    exact ⟨i, b, e1, fun q hq => hb q ((e q).mpr hq)⟩
theorem Chn.sub {S T st : List P} (h : Chn S st) (e : ∀ x ∈ T, x ∈ S) (m : ∀ x ∈ st, x ∈ T) : Chn T st where
  desc := h.desc
  cvx := h.cvx
  mem := m
  left := fun q hq => h.left q (e q hq)
  top := by
    obtain ⟨t, r, e1, ht⟩ := h.top
    exact ⟨t, r, e1, fun q hq => ht q (e q hq)⟩
  bot := by
    obtain ⟨i, b, e1, hb⟩ := h.bot
    exact ⟨i, b, e1, fun q hq => hb q (e q hq)⟩
theorem chn_lo {S : List P} (h : S ≠ []) : Chn S (lo S) := (chn_all (sort_ne h) (sortU_lt S)).congr fun _ => sortU_mem
theorem neg_inj {a b : P} (h : neg a = neg b) : a = b := by rw [← neg_neg a, h, neg_neg]
theorem chn_up {S : List P} (h : S ≠ []) : Chn (S.map neg) ((up S).map neg) := by
  have e : ((sortU S).reverse.map neg).foldl step [] = (up S).map neg := fold_neg _ []
  rw [← e]
  refine (chn_all (ps := (sortU S).reverse.map neg) ?_ ?_).congr fun x => ?_
  · simp [sort_ne h]
  · rw [List.pairwise_map, List.pairwise_reverse]
    exact (sortU_lt S).imp fun {a b} z => lt_neg.mpr z
  · simp only [List.mem_map, List.mem_reverse, sortU_mem]
/-- the same corners where none are lacking -/
theorem lo_sub {S T : List P} (h : S ≠ []) (e : ∀ x ∈ T, x ∈ S) (m : ∀ x ∈ lo S, x ∈ T) : lo T = lo S := by
  have hS := chn_lo h
  have hT : T ≠ [] := by
    obtain ⟨t, r, e1, _⟩ := hS.top
    intro z; have := m t (by rw [e1]; simp); rw [z] at this; simp at this
  have h1 := hS.sub e m
  exact (chn_lo hT).uniq h1 (fun x hx => (chn_lo hT).mem x hx) (fun x hx => m x hx)
theorem up_sub {S T : List P} (h : S ≠ []) (e : ∀ x ∈ T, x ∈ S) (m : ∀ x ∈ up S, x ∈ T) : up T = up S := by
  have hS := chn_up h
  have hT : T ≠ [] := by
    obtain ⟨t, r, e1, _⟩ := hS.top
    cases hu : up S with
    | nil => rw [hu] at e1; simp at e1
    | cons a l =>
      intro z
      have := m a (by rw [hu]; simp)
      rw [z] at this; simp at this
  have h1 : Chn (T.map neg) ((up S).map neg) := hS.sub (fun x hx => by
      obtain ⟨y, hy, rfl⟩ := List.mem_map.mp hx
      exact List.mem_map.mpr ⟨y, e y hy, rfl⟩) (fun x hx => by
      obtain ⟨y, hy, rfl⟩ := List.mem_map.mp hx
      exact List.mem_map.mpr ⟨y, m y hy, rfl⟩)
  have h2 := (chn_up hT).uniq h1 (fun x hx => (chn_up hT).mem x hx) (fun x hx => h1.mem x hx)
  have := congrArg (List.map neg) h2
  simpa [List.map_map, Function.comp_def, neg_neg] using this
theorem hull_sub {S T : List P} (h : S ≠ []) (e : ∀ x ∈ T, x ∈ S) (m1 : ∀ x ∈ lo S, x ∈ T) (m2 : ∀ x ∈ up S, x ∈ T) : hullL T = hullL S := by
  rw [hullL_eq, hullL_eq, lo_sub h e m1, up_sub h e m2]
/-- the ends of both chains -/
structure Ends (S : List P) (b t : P) (l u : List P) : Prop where
  lo : lo S = t :: l
  up : up S = b :: u
  lo' : ∃ i, t :: l = i ++ [b]
  up' : ∃ j, b :: u = j ++ [t]
  least : ∀ q ∈ S, le b q
  most : ∀ q ∈ S, le q t
theorem ends {S : List P} (h : S ≠ []) : ∃ b t l u, Ends S b t l u := by
  have h1 := chn_lo h
  have h2 := chn_up h
  obtain ⟨t, l, e1, ht⟩ := h1.top
  obtain ⟨i, b, e2, hb⟩ := h1.bot
  obtain ⟨b', u', e3, hb'⟩ := h2.top
  obtain ⟨j', t', e4, ht'⟩ := h2.bot
  have mb : b ∈ S := h1.mem b (by rw [e2]; simp)
  have mt : t ∈ S := h1.mem t (by rw [e1]; simp)
  cases hu : up S with
  | nil => rw [hu] at e3; simp at e3
  | cons b'' u =>
    rw [hu] at e3 h2
    simp only [List.map_cons, List.cons.injEq] at e3
    obtain ⟨rfl, rfl⟩ := e3
    have m3 : b'' ∈ S := by
      obtain ⟨y, hy, e⟩ := List.mem_map.mp (h2.mem (neg b'') (by simp))
      rw [← neg_inj e]; exact hy
    have eb : b'' = b := le_anti (le_neg.mp (hb' (neg b) (List.mem_map.mpr ⟨b, mb, rfl⟩))) (hb b'' m3)
    subst eb
    have e5 : b'' :: u = (j'.map neg) ++ [neg t'] := by
      have := congrArg (List.map neg) e4
      rw [hu] at this
      simpa [List.map_map, Function.comp_def, neg_neg] using this
    have m4 : neg t' ∈ S := by
      have : neg t' ∈ b'' :: u := by rw [e5]; simp
      obtain ⟨y, hy, e⟩ := List.mem_map.mp (h2.mem (neg (neg t')) (List.mem_map.mpr ⟨_, this, rfl⟩))
      rw [← neg_inj e]; exact hy
    have et : neg t' = t := by
      refine le_anti (ht _ m4) ?_
      have := ht' (neg t) (List.mem_map.mpr ⟨t, mt, rfl⟩)
      rw [← neg_neg t'] at this
      exact le_neg.mp this
    rw [et] at e5
    exact ⟨b'', t, l, u, ⟨e1, hu, ⟨i, by rw [← e1, e2]⟩, ⟨_, e5⟩, hb, ht⟩⟩
/-- next ones in a list -/
def IsE (l : List P) (a b : P) : Prop := ∃ i r, l = i ++ a :: b :: r
theorem isE_cons {x a b : P} {l : List P} : IsE (x :: l) a b ↔ (x = a ∧ ∃ r, l = b :: r) ∨ IsE l a b := by
  constructor
  · rintro ⟨i, r, e⟩
    cases i with
    | nil => simp only [List.nil_append, List.cons.injEq] at e; exact .inl ⟨e.1, r, e.2⟩
    | cons y i => simp only [List.cons_append, List.cons.injEq] at e; exact .inr ⟨i, r, e.2⟩
  · rintro (⟨rfl, r, rfl⟩ | ⟨i, r, rfl⟩)
    · exact ⟨[], r, rfl⟩
    · exact ⟨x :: i, r, rfl⟩
theorem isE_rev {l : List P} {a b : P} : IsE l.reverse a b ↔ IsE l b a := by
  constructor
  · rintro ⟨i, r, e⟩
    have := congrArg List.reverse e
    rw [List.reverse_reverse] at this
    exact ⟨r.reverse, i.reverse, by rw [this]; simp⟩
  · rintro ⟨i, r, rfl⟩
    exact ⟨r.reverse, i.reverse, by simp⟩
theorem isE_app {l k : List P} {x a b : P} : IsE (l ++ x :: k) a b ↔ IsE (l ++ [x]) a b ∨ IsE (x :: k) a b := by
  induction l with
  | nil =>
    simp only [List.nil_append]
    constructor
    · exact fun h => .inr h
    · rintro (h | h)
      · rcases isE_cons.mp h with ⟨_, r, e⟩ | ⟨i, r, e⟩
        · simp at e
        · cases i <;> simp at e
      · exact h
  | cons y l ih =>
    simp only [List.cons_append]
    rw [isE_cons, isE_cons (l := l ++ [x]), ih]
    have : (∃ r, l ++ x :: k = b :: r) ↔ (∃ r, l ++ [x] = b :: r) := by
      cases l <;> simp
    rw [this]
    constructor
    · rintro (h | h | h)
      · exact .inl (.inl h)
      · exact .inl (.inr h)
      · exact .inr h
    · rintro ((h | h) | h)
      · exact .inl h
      · exact .inr (.inl h)
      · exact .inr (.inr h)
theorem isE_mem {l : List P} {a b : P} (h : IsE l a b) : a ∈ l ∧ b ∈ l := by
  obtain ⟨i, r, rfl⟩ := h
  simp
theorem left_iff : ∀ {st : List P} {q : P}, Left st q ↔ ∀ a b, IsE st b a → 0 ≤ tn a b q
  | [], q => ⟨fun _ a b h => by obtain ⟨i, r, e⟩ := h; simp at e, fun _ => trivial⟩
  | [x], q => ⟨fun _ a b h => by
      rcases isE_cons.mp h with ⟨_, r, e⟩ | ⟨i, r, e⟩ <;> simp at e, fun _ => trivial⟩
  | y :: x :: r, q => by
    have ih := left_iff (st := x :: r) (q := q)
    constructor
    · rintro ⟨h1, h2⟩ a b h
      rcases isE_cons.mp h with ⟨e, r', e'⟩ | h
      · cases e'; subst e; exact h1
      · exact ih.mp h2 a b h
    · intro h
      exact ⟨h x y ⟨[], r, rfl⟩, ih.mpr fun a b z => h a b (isE_cons.mpr (.inr z))⟩
theorem cvx_iff : ∀ {st : List P}, Cvx st ↔ ∀ a b c i r, st = i ++ c :: b :: a :: r → 0 < tn a b c
  | [] => ⟨fun _ a b c i r e => by simp at e, fun _ => trivial⟩
  | [x] => ⟨fun _ a b c i r e => by cases i <;> simp at e, fun _ => trivial⟩
  | [x, y] => ⟨fun _ a b c i r e => by
      have := congrArg List.length e
      simp at this
      omega, fun _ => trivial⟩
  | z :: y :: x :: r => by
    have ih := cvx_iff (st := y :: x :: r)
    constructor
    · rintro ⟨h1, h2⟩ a b c i r' e
      cases i with
      | nil =>
        simp only [List.nil_append, List.cons.injEq] at e
        obtain ⟨rfl, rfl, rfl, rfl⟩ := e
        exact h1
      | cons w i =>
        simp only [List.cons_append, List.cons.injEq] at e
        exact ih.mp h2 a b c i r' e.2
    · intro h
      exact ⟨h x y z [] r rfl, ih.mpr fun a b c i r' e => h a b c (z :: i) r' (by rw [e]; rfl)⟩
/-- edges of a row of corners -/
def edg (C : List P) : List (P × P) := C.zip (C.drop 1 ++ C.take 1)
theorem zip_isE : ∀ (r : List P) (c d a b : P), (a, b) ∈ (c :: r).zip (r ++ [d]) ↔ IsE (c :: r ++ [d]) a b
  | [], c, d, a, b => by
    simp only [List.nil_append, List.zip_cons_cons, List.zip_nil_right, List.mem_singleton, Prod.mk.injEq, List.cons_append]
    rw [isE_cons]
    constructor
    · rintro ⟨rfl, rfl⟩
      exact .inl ⟨rfl, [], rfl⟩
    · rintro (⟨rfl, r, e⟩ | ⟨i, r, e⟩)
      · simp at e; exact ⟨rfl, e.1.symm⟩
      · cases i <;> simp at e
  | x :: r, c, d, a, b => by
    have ih := zip_isE r x d a b
    simp only [List.cons_append] at ih ⊢
    rw [List.zip_cons_cons, List.mem_cons, ih, isE_cons (x := c)]
    simp only [Prod.mk.injEq]
    constructor
    · rintro (⟨rfl, rfl⟩ | h)
      · exact .inl ⟨rfl, _, rfl⟩
      · exact .inr h
    · rintro (⟨rfl, r', e⟩ | h)
      · simp only [List.cons.injEq] at e; exact .inl ⟨rfl, e.1.symm⟩
      · exact .inr h
theorem edg_iff (c : P) (r : List P) (a b : P) : (a, b) ∈ edg (c :: r) ↔ IsE (c :: r ++ [c]) a b := by
  have : edg (c :: r) = (c :: r).zip (r ++ [c]) := by simp [edg]
  rw [this]; exact zip_isE r c c a b
theorem g5 {a t n q : P} (h1 : lt a t) (h2 : lt n t) (h0 : tn a t n = 0) (h3 : 0 ≤ tn a t q) (h4 : 0 ≤ tn t n q) : tn a t q = 0 := by
  apply Classical.byContradiction
  intro hc
  unfold lt at *
  have z := LP_add (LP_smul (k := tn a t q) (by omega) h2) (LN_smul h4 (.inl h1))
  have e1 : tn a t q * (t.1 - n.1) + tn t n q * (t.1 - a.1) = 0 := by
    have : tn a t q * (t.1 - n.1) + tn t n q * (t.1 - a.1) = - (tn a t n) * (q.1 - t.1) := by unfold tn; grind
    rw [this, h0]; simp
  have e2 : tn a t q * (t.2 - n.2) + tn t n q * (t.2 - a.2) = 0 := by
    have : tn a t q * (t.2 - n.2) + tn t n q * (t.2 - a.2) = - (tn a t n) * (q.2 - t.2) := by unfold tn; grind
    rw [this, h0]; simp
  rw [e1, e2] at z
  unfold LP at z
  omega
theorem g5' {a t n q : P} (h1 : lt t a) (h2 : lt t n) (h0 : tn a t n = 0) (h3 : 0 ≤ tn a t q) (h4 : 0 ≤ tn t n q) : tn a t q = 0 := by
  have := g5 (a := neg a) (t := neg t) (n := neg n) (q := neg q) (lt_neg.mpr h1) (lt_neg.mpr h2) (by rw [tn_neg, h0]) (by rw [tn_neg]; exact h3) (by rw [tn_neg]; exact h4)
  rwa [tn_neg] at this
end G
end
section
set_option Elab.async false
set_option linter.all false
/-! The hull is a convex polygon. -/
namespace G
theorem g6 {n c p p' : P} (h1 : lt n c) (h2 : lt c p') (h3 : 0 < tn n c p) (h4 : 0 ≤ tn n c p') (h5 : 0 ≤ tn p' c n) (h6 : 0 ≤ tn p' c p) : False := by
  have e0 : tn p' c n = -(tn n c p') := by unfold tn; grind
  have h0 : tn n c p' = 0 := by omega
  unfold lt at *
  have z := LP_add (LP_smul h3 h2) (LN_smul h6 (.inl h1))
  have e1 : tn n c p * (p'.1 - c.1) + tn p' c p * (c.1 - n.1) = 0 := by
    have : tn n c p * (p'.1 - c.1) + tn p' c p * (c.1 - n.1) = tn n c p' * (p.1 - c.1) := by unfold tn; grind
    rw [this, h0]; simp
  have e2 : tn n c p * (p'.2 - c.2) + tn p' c p * (c.2 - n.2) = 0 := by
    have : tn n c p * (p'.2 - c.2) + tn p' c p * (c.2 - n.2) = tn n c p' * (p.2 - c.2) := by unfold tn; grind
    rw [this, h0]; simp
  rw [e1, e2] at z
  unfold LP at z
  omega
theorem col {a t x y z : P} (h : a ≠ t) (hx : tn a t x = 0) (hy : tn a t y = 0) (hz : tn a t z = 0) : tn x y z = 0 := by
  have e1 : (t.1 - a.1) * tn x y z = (y.1 - x.1) * (tn a t z - tn a t x) - (z.1 - x.1) * (tn a t y - tn a t x) := by unfold tn; grind
  have e2 : (t.2 - a.2) * tn x y z = (y.2 - x.2) * (tn a t z - tn a t x) - (z.2 - x.2) * (tn a t y - tn a t x) := by unfold tn; grind
  rw [hx, hy, hz] at e1 e2
  simp only [Int.sub_self, Int.mul_zero] at e1 e2
  rcases Int.mul_eq_zero.mp e1 with k | k
  · rcases Int.mul_eq_zero.mp e2 with j | j
    · exact absurd (Prod.ext (by omega) (by omega)) h
    · exact j
  · exact k
theorem isE_neg {l : List P} {a b : P} (h : IsE l a b) : IsE (l.map neg) (neg a) (neg b) := by
  obtain ⟨i, r, rfl⟩ := h
  exact ⟨i.map neg, r.map neg, by simp⟩
theorem mem_mid {t b c : P} {l : List P} (h : c ∈ l) : ∃ i p n r, t :: (l ++ [b]) = i ++ p :: c :: n :: r := by
  obtain ⟨x, y, rfl⟩ := List.append_of_mem h
  have h1 : ∃ i p, t :: x = i ++ [p] := ⟨_, _, (List.dropLast_concat_getLast (by simp : t :: x ≠ [])).symm⟩
  obtain ⟨i, p, e⟩ := h1
  have h2 : ∃ n r, y ++ [b] = n :: r := by cases y <;> simp
  obtain ⟨n, r, e2⟩ := h2
  refine ⟨i, p, n, r, ?_⟩
  have : t :: (x ++ c :: y ++ [b]) = (t :: x) ++ c :: (y ++ [b]) := by simp
  rw [this, e, e2]
  simp
structure Poly (S C : List P) : Prop where
  len : 3 ≤ C.length
  sub : ∀ c ∈ C, c ∈ S
  edge : ∀ a b, (a, b) ∈ edg C → ∀ q ∈ S, 0 ≤ tn a b q
  ang : ∀ c ∈ C, ∃ a b, (a, c) ∈ edg C ∧ (c, b) ∈ edg C ∧ 0 < tn a c b
  nodup : C.Nodup
  least : ∃ c r, C = c :: r ∧ ∀ q ∈ S, le c q
/-- the hull's parts, where it has three corners or more -/
structure Parts (S : List P) (b t : P) (l u : List P) : Prop where
  lo : lo S = t :: (l ++ [b])
  up : up S = b :: (u ++ [t])
  hull : hullL S = b :: (l.reverse ++ t :: u.reverse)
  least : ∀ q ∈ S, le b q
  most : ∀ q ∈ S, le q t
  lt : lt b t
theorem hull_nil : hullL [] = [] := by
  have : Il.sortU [] = [] := by
    have h := @Il.sortU_mem
    cases e : Il.sortU [] with
    | nil => rfl
    | cons a l =>
      have : a ∈ Il.sortU [] := by rw [e]; simp
      simp [h] at this
  unfold hullL
  rw [this]; rfl
theorem up_desc {S : List P} (h : S ≠ []) : (up S).Pairwise lt := by
  have := (chn_up h).desc
  rw [Desc, List.pairwise_map] at this
  exact this.imp fun {a b} z => lt_neg.mp z
theorem parts {S : List P} (h : hullL S ≠ []) : ∃ b t l u, Parts S b t l u := by
  have hS : S ≠ [] := fun e => by rw [e, hull_nil] at h; exact h rfl
  obtain ⟨b, t, l, u, E⟩ := ends hS
  have dl := (chn_lo hS).desc
  have du := up_desc hS
  rw [E.lo] at dl; rw [E.up] at du
  obtain ⟨i, e1⟩ := E.lo'
  obtain ⟨j, e2⟩ := E.up'
  have ml : t ∈ S := (chn_lo hS).mem t (by rw [E.lo]; simp)
  have key : lt b t := by
    rcases tri b t with z | z | z
    · exact z
    · exfalso
      subst z
      have l0 : l = [] := by
        cases i with
        | nil => simp at e1; exact e1
        | cons y i =>
          simp only [List.cons_append, List.cons.injEq] at e1
          have := (List.pairwise_cons.mp dl).1 b (by rw [e1.2]; simp)
          exact (lt_irr this).elim
      have u0 : u = [] := by
        cases j with
        | nil => simp at e2; exact e2
        | cons y j =>
          simp only [List.cons_append, List.cons.injEq] at e2
          have := (List.pairwise_cons.mp du).1 b (by rw [e2.2]; simp)
          exact (lt_irr this).elim
      rw [hullL_eq, E.lo, E.up, l0, u0] at h
      exact h rfl
    · exact (lt_irr (lt_le_trans z (E.least t ml))).elim
  cases i with
  | nil => simp at e1; exact (ne_of_lt key e1.1.symm).elim
  | cons y i =>
    cases j with
    | nil => simp at e2; exact (ne_of_lt key e2.1).elim
    | cons z j =>
      simp only [List.cons_append, List.cons.injEq] at e1 e2
      refine ⟨b, t, i, j, ⟨by rw [E.lo, e1.2], by rw [E.up, e2.2], ?_, E.least, E.most, key⟩⟩
      rw [hullL_eq, E.lo, E.up, e1.2, e2.2]
      simp
theorem Parts.edg_iff {S : List P} {b t : P} {l u : List P} (E : Parts S b t l u) (x y : P) : (x, y) ∈ edg (hullL S) ↔ IsE (G.lo S) y x ∨ IsE (G.up S) y x := by
  rw [E.hull, G.edg_iff]
  have : b :: (l.reverse ++ t :: u.reverse) ++ [b] = (b :: l.reverse) ++ t :: (u.reverse ++ [b]) := by simp
  rw [this, isE_app, E.lo, E.up, ← isE_rev (l := t :: (l ++ [b])), ← isE_rev (l := b :: (u ++ [t]))]
  simp
theorem up_mem {S : List P} (h : S ≠ []) {x : P} (hx : x ∈ up S) : x ∈ S := by
  obtain ⟨y, hy, e⟩ := List.mem_map.mp ((chn_up h).mem (neg x) (List.mem_map.mpr ⟨x, hx, rfl⟩))
  rw [← neg_inj e]; exact hy
theorem lo_left {S : List P} (h : S ≠ []) {a b q : P} (hE : IsE (lo S) b a) (hq : q ∈ S) : 0 ≤ tn a b q := left_iff.mp ((chn_lo h).left q hq) a b hE
theorem up_left {S : List P} (h : S ≠ []) {a b q : P} (hE : IsE (up S) b a) (hq : q ∈ S) : 0 ≤ tn a b q := by
  have := left_iff.mp ((chn_up h).left (neg q) (List.mem_map.mpr ⟨q, hq, rfl⟩)) _ _ (isE_neg hE)
  rwa [tn_neg] at this
theorem lo_cvx {S : List P} (h : S ≠ []) {a b c : P} {i r : List P} (e : lo S = i ++ c :: b :: a :: r) : 0 < tn a b c := cvx_iff.mp (chn_lo h).cvx a b c i r e
theorem up_cvx {S : List P} (h : S ≠ []) {a b c : P} {i r : List P} (e : up S = i ++ c :: b :: a :: r) : 0 < tn a b c := by
  have := cvx_iff.mp (chn_up h).cvx (neg a) (neg b) (neg c) (i.map neg) (r.map neg) (by rw [e]; simp)
  rwa [tn_neg] at this
theorem flat_lo {S : List P} (h : S ≠ []) {a t : P} (hne : a ≠ t) (hf : ∀ q ∈ S, tn a t q = 0) {x y z : P} {r : List P} (e : lo S = x :: y :: z :: r) : False := by
  have := lo_cvx h (i := []) (a := z) (b := y) (c := x) (r := r) e
  have m := (chn_lo h).mem
  rw [col hne (hf z (m z (by rw [e]; simp))) (hf y (m y (by rw [e]; simp))) (hf x (m x (by rw [e]; simp)))] at this
  omega
theorem flat_up {S : List P} (h : S ≠ []) {a t : P} (hne : a ≠ t) (hf : ∀ q ∈ S, tn a t q = 0) {x y z : P} {r : List P} (e : up S = x :: y :: z :: r) : False := by
  have := up_cvx h (i := []) (a := z) (b := y) (c := x) (r := r) e
  rw [col hne (hf z (up_mem h (by rw [e]; simp))) (hf y (up_mem h (by rw [e]; simp))) (hf x (up_mem h (by rw [e]; simp)))] at this
  omega
theorem flat_len {S : List P} {a t : P} (hne : a ≠ t) (hf : ∀ q ∈ S, tn a t q = 0) : (hullL S).length ≤ 2 := by
  apply Classical.byContradiction
  intro hc
  have h0 : hullL S ≠ [] := fun e => by rw [e] at hc; simp at hc
  obtain ⟨b, t', l, u, E⟩ := parts h0
  have hS : S ≠ [] := fun e => by rw [e, hull_nil] at h0; exact h0 rfl
  have hl : l = [] := by
    cases l with
    | nil => rfl
    | cons x l =>
      have := E.lo
      cases l with
      | nil => exact (flat_lo hS hne hf this).elim
      | cons y l => exact (flat_lo hS hne hf this).elim
  have hu : u = [] := by
    cases u with
    | nil => rfl
    | cons x u =>
      have := E.up
      cases u with
      | nil => exact (flat_up hS hne hf this).elim
      | cons y u => exact (flat_up hS hne hf this).elim
  rw [E.hull, hl, hu] at hc
  simp at hc
theorem hull_poly {S : List P} (h : 2 < (hullL S).length) : Poly S (hullL S) := by
  have h0 : hullL S ≠ [] := fun e => by rw [e] at h; simp at h
  obtain ⟨b, t, l, u, E⟩ := parts h0
  have hS : S ≠ [] := fun e => by rw [e, hull_nil] at h0; exact h0 rfl
  have nf : ∀ a t, a ≠ t → (∀ q ∈ S, tn a t q = 0) → False := fun a t hne hf => by have := flat_len hne hf; omega
  have mlo : ∀ {x}, x ∈ lo S → x ∈ S := fun {x} hx => (chn_lo hS).mem x hx
  have mup : ∀ {x}, x ∈ up S → x ∈ S := fun {x} hx => up_mem hS hx
  have dl : Desc (t :: (l ++ [b])) := by have := (chn_lo hS).desc; rw [E.lo] at this; exact this
  have du : (b :: (u ++ [t])).Pairwise lt := by have := up_desc hS; rw [E.up] at this; exact this
  have edge : ∀ x y, (x, y) ∈ edg (hullL S) → ∀ q ∈ S, 0 ≤ tn x y q := fun x y hxy q hq => by
    rcases (E.edg_iff x y).mp hxy with z | z
    · exact lo_left hS z hq
    · exact up_left hS z hq
  have memH : ∀ c, c ∈ hullL S ↔ c = b ∨ c ∈ l ∨ c = t ∨ c ∈ u := fun c => by
    rw [E.hull]; simp
  refine ⟨h, fun c hc => ?_, edge, fun c hc => ?_, ?_, ⟨b, _, E.hull, E.least⟩⟩
  · rcases (memH c).mp hc with e | e | e | e
    · exact mlo (by rw [E.lo, e]; simp)
    · exact mlo (by rw [E.lo]; simp [e])
    · exact mlo (by rw [E.lo, e]; simp)
    · exact mup (by rw [E.up]; simp [e])
  · rcases (memH c).mp hc with e | e | e | e
    · subst e
      -- the least one
      obtain ⟨p, u', eu⟩ : ∃ p u', u ++ [t] = p :: u' := by cases u <;> simp
      obtain ⟨l', n, el⟩ : ∃ l' n, t :: l = l' ++ [n] := ⟨_, _, (List.dropLast_concat_getLast (by simp : t :: l ≠ [])).symm⟩
      have E1 : IsE (up S) c p := by rw [E.up, eu]; exact ⟨[], u', rfl⟩
      have E2 : IsE (lo S) n c := by
        rw [E.lo]
        exact ⟨l', [], by
          have : t :: (l ++ [c]) = (t :: l) ++ [c] := rfl
          rw [this, el]; simp⟩
      have e1 := (E.edg_iff p c).mpr (.inr E1)
      have e2 := (E.edg_iff c n).mpr (.inl E2)
      refine ⟨p, n, e1, e2, ?_⟩
      have hn : n ∈ S := mlo (isE_mem E2).1
      have hp : p ∈ S := mup (isE_mem E1).2
      have ge := edge _ _ e1 n hn
      by_cases z : tn p c n = 0
      · exfalso
        have hcp : lt c p := by
          rw [eu] at du
          exact (List.pairwise_cons.mp du).1 p (by simp)
        have hcn : lt c n := by
          have : t :: (l ++ [c]) = l' ++ [n, c] := by
            have : t :: (l ++ [c]) = (t :: l) ++ [c] := rfl
            rw [this, el]; simp
          rw [this] at dl
          have := (List.pairwise_append.mp dl).2.1
          exact (List.pairwise_cons.mp this).1 c (by simp)
        exact nf p c (ne_of_lt hcp).symm fun q hq => g5' hcp hcn z (edge _ _ e1 q hq) (edge _ _ e2 q hq)
      · omega
    · obtain ⟨i, p, n, r, ed⟩ := mem_mid (t := t) (b := b) e
      have e2 : lo S = i ++ p :: c :: n :: r := by rw [E.lo]; exact ed
      exact ⟨n, p, (E.edg_iff n c).mpr (.inl ⟨i ++ [p], r, by rw [e2]; simp⟩), (E.edg_iff c p).mpr (.inl ⟨i, n :: r, e2⟩), lo_cvx hS e2⟩
    · subst e
      obtain ⟨a, l', el⟩ : ∃ p u', l ++ [b] = p :: u' := by cases l <;> simp
      obtain ⟨u', n, eu⟩ : ∃ l' n, b :: u = l' ++ [n] := ⟨_, _, (List.dropLast_concat_getLast (by simp : b :: u ≠ [])).symm⟩
      have E1 : IsE (lo S) c a := by rw [E.lo, el]; exact ⟨[], l', rfl⟩
      have E2 : IsE (up S) n c := by
        rw [E.up]
        exact ⟨u', [], by
          have : b :: (u ++ [c]) = (b :: u) ++ [c] := rfl
          rw [this, eu]; simp⟩
      have e1 := (E.edg_iff a c).mpr (.inl E1)
      have e2 := (E.edg_iff c n).mpr (.inr E2)
      refine ⟨a, n, e1, e2, ?_⟩
      have hn : n ∈ S := mup (isE_mem E2).1
      have ge := edge _ _ e1 n hn
      by_cases z : tn a c n = 0
      · exfalso
        have hac : lt a c := by
          rw [el] at dl
          exact (List.pairwise_cons.mp dl).1 a (by simp)
        have hnc : lt n c := by
          have : b :: (u ++ [c]) = u' ++ [n, c] := by
            have : b :: (u ++ [c]) = (b :: u) ++ [c] := rfl
            rw [this, eu]; simp
          rw [this] at du
          have := (List.pairwise_append.mp du).2.1
          exact (List.pairwise_cons.mp this).1 c (by simp)
        exact nf a c (ne_of_lt hac) fun q hq => g5 hac hnc z (edge _ _ e1 q hq) (edge _ _ e2 q hq)
      · omega
    · obtain ⟨i, p, n, r, ed⟩ := mem_mid (t := b) (b := t) e
      have e2 : up S = i ++ p :: c :: n :: r := by rw [E.up]; exact ed
      exact ⟨n, p, (E.edg_iff n c).mpr (.inr ⟨i ++ [p], r, by rw [e2]; simp⟩), (E.edg_iff c p).mpr (.inr ⟨i, n :: r, e2⟩), up_cvx hS e2⟩
  · have dis : ∀ c, c ∈ l → c ∈ u → False := fun c h1 h2 => by
      obtain ⟨i, p, n, r, ed⟩ := mem_mid (t := t) (b := b) h1
      obtain ⟨i', n', p', r', ed'⟩ := mem_mid (t := b) (b := t) h2
      have e2 : lo S = i ++ p :: c :: n :: r := by rw [E.lo]; exact ed
      have e3 : up S = i' ++ n' :: c :: p' :: r' := by rw [E.up]; exact ed'
      have hp : p ∈ S := mlo (by rw [e2]; simp)
      have hn : n ∈ S := mlo (by rw [e2]; simp)
      have hp' : p' ∈ S := mup (by rw [e3]; simp)
      have En : IsE (lo S) c n := ⟨i ++ [p], r, by rw [e2]; simp⟩
      have Ep : IsE (up S) c p' := ⟨i' ++ [n'], r', by rw [e3]; simp⟩
      have l1 : lt n c := by
        rw [← E.lo, e2] at dl
        have := (List.pairwise_append.mp dl).2.1
        exact (List.pairwise_cons.mp (List.pairwise_cons.mp this).2).1 n (by simp)
      have l2 : lt c p' := by
        rw [← E.up, e3] at du
        have := (List.pairwise_append.mp du).2.1
        exact (List.pairwise_cons.mp (List.pairwise_cons.mp this).2).1 p' (by simp)
      exact g6 l1 l2 (lo_cvx hS e2) (lo_left hS En hp') (up_left hS Ep hn) (up_left hS Ep hp)
    have d1 := List.pairwise_cons.mp dl
    have d2 := List.pairwise_append.mp d1.2
    have d3 := List.pairwise_cons.mp du
    have d4 := List.pairwise_append.mp d3.2
    rw [E.hull, List.nodup_cons]
    refine ⟨fun hb => ?_, ?_⟩
    · simp only [List.mem_append, List.mem_reverse, List.mem_cons] at hb
      rcases hb with z | z | z
      · exact lt_irr (d2.2.2 b z b (by simp))
      · exact ne_of_lt E.lt z
      · exact lt_irr (d3.1 b (by simp [z]))
    · rw [List.nodup_append]
      refine ⟨?_, ?_, ?_⟩
      · rw [List.nodup_iff_pairwise_ne, List.pairwise_reverse]
        exact d2.1.imp fun {a b} z => ne_of_lt z
      · rw [List.nodup_cons]
        refine ⟨fun z => ?_, ?_⟩
        · exact lt_irr (d4.2.2 t (List.mem_reverse.mp z) t (by simp))
        · rw [List.nodup_iff_pairwise_ne, List.pairwise_reverse]
          exact d4.1.imp fun {a b} z => (ne_of_lt z).symm
      · intro x hx y hy e
        subst e
        have hx := List.mem_reverse.mp hx
        rcases List.mem_cons.mp hy with z | z
        · subst z; exact lt_irr (d1.1 x (by simp [hx]))
        · exact dis x hx (List.mem_reverse.mp z)
end G
end
section
set_option Elab.async false
set_option linter.all false
/-! Corners are the extreme dots; the hull of the corners is the hull. -/
namespace G
def Ext (S : List P) (c : P) : Prop := c ∈ S ∧ ∃ u v : Int, ∀ q ∈ S, q ≠ c → u * q.1 + v * q.2 < u * c.1 + v * c.2
theorem ang_zero {a c b q : P} (h : 0 < tn a c b) (h1 : tn a c q = 0) (h2 : tn c b q = 0) : q = c := by
  have e1 : tn a c b * (q.1 - c.1) = tn c b q * (a.1 - c.1) + tn a c q * (b.1 - c.1) := by unfold tn; grind
  have e2 : tn a c b * (q.2 - c.2) = tn c b q * (a.2 - c.2) + tn a c q * (b.2 - c.2) := by unfold tn; grind
  rw [h1, h2] at e1 e2
  simp only [Int.zero_mul, Int.add_zero] at e1 e2
  have k1 : q.1 - c.1 = 0 := by
    rcases Int.mul_eq_zero.mp e1 with z | z <;> omega
  have k2 : q.2 - c.2 = 0 := by
    rcases Int.mul_eq_zero.mp e2 with z | z <;> omega
  exact Prod.ext (by omega) (by omega)
theorem Poly.ext {S C : List P} (h : Poly S C) {c : P} (hc : c ∈ C) : Ext S c := by
  obtain ⟨a, b, h1, h2, h3⟩ := h.ang c hc
  refine ⟨h.sub c hc, b.2 - a.2, a.1 - b.1, fun q hq hne => ?_⟩
  have k1 := h.edge _ _ h1 q hq
  have k2 := h.edge _ _ h2 q hq
  have e : (b.2 - a.2) * c.1 + (a.1 - b.1) * c.2 - ((b.2 - a.2) * q.1 + (a.1 - b.1) * q.2) = tn a c q + tn c b q := by unfold tn; grind
  by_cases z : tn a c q + tn c b q = 0
  · exact absurd (ang_zero h3 (by omega) (by omega)) hne
  · omega
theorem ext_mid {S : List P} {x y z : P} (h1 : lt x y) (h2 : lt y z) (h0 : tn x y z = 0) (hx : x ∈ S) (hz : z ∈ S) (h : Ext S y) : False := by
  obtain ⟨_, u, v, hm⟩ := h
  have k1 := hm x hx (ne_of_lt h1)
  have k2 := hm z hz (ne_of_lt h2).symm
  unfold lt at *
  have f1 : 0 < u * (y.1 - x.1) + v * (y.2 - x.2) := by grind
  have f2 : 0 < -(u * (z.1 - y.1) + v * (z.2 - y.2)) := by grind
  have zz := LP_add (LP_smul f1 h2) (.inl (LP_smul f2 h1))
  have e1 : (u * (y.1 - x.1) + v * (y.2 - x.2)) * (z.1 - y.1) + -(u * (z.1 - y.1) + v * (z.2 - y.2)) * (y.1 - x.1) = 0 := by
    have : (u * (y.1 - x.1) + v * (y.2 - x.2)) * (z.1 - y.1) + -(u * (z.1 - y.1) + v * (z.2 - y.2)) * (y.1 - x.1) = - v * tn x y z := by unfold tn; grind
    rw [this, h0]; simp
  have e2 : (u * (y.1 - x.1) + v * (y.2 - x.2)) * (z.2 - y.2) + -(u * (z.1 - y.1) + v * (z.2 - y.2)) * (y.2 - x.2) = 0 := by
    have : (u * (y.1 - x.1) + v * (y.2 - x.2)) * (z.2 - y.2) + -(u * (z.1 - y.1) + v * (z.2 - y.2)) * (y.2 - x.2) = u * tn x y z := by unfold tn; grind
    rw [this, h0]; simp
  rw [e1, e2] at zz
  unfold LP at zz
  omega
theorem tn_perm {a b c : P} (h : tn a b c = 0) : tn b a c = 0 ∧ tn b c a = 0 ∧ tn a c b = 0 ∧ tn c a b = 0 ∧ tn c b a = 0 := by
  have e1 : tn b a c = -(tn a b c) := by unfold tn; grind
  have e2 : tn b c a = tn a b c := by unfold tn; grind
  have e3 : tn a c b = -(tn a b c) := by unfold tn; grind
  have e4 : tn c a b = tn a b c := by unfold tn; grind
  have e5 : tn c b a = -(tn a b c) := by unfold tn; grind
  omega
/-- no three on a line -/
theorem ext_three {S : List P} {x y z : P} (hx : Ext S x) (hy : Ext S y) (hz : Ext S z) (h1 : x ≠ y) (h2 : y ≠ z) (h3 : x ≠ z) : tn x y z ≠ 0 := fun h0 => by
  obtain ⟨p1, p2, p3, p4, p5⟩ := tn_perm h0
  rcases tri x y with a | a | a
  · rcases tri y z with b | b | b
    · exact ext_mid a b h0 hx.1 hz.1 hy
    · exact h2 b
    · rcases tri x z with c | c | c
      · exact ext_mid c b p3 hx.1 hy.1 hz
      · exact h3 c
      · exact ext_mid c a p4 hz.1 hy.1 hx
  · exact h1 a
  · rcases tri y z with b | b | b
    · rcases tri x z with c | c | c
      · exact ext_mid a c p1 hy.1 hz.1 hx
      · exact h3 c
      · exact ext_mid b c p2 hy.1 hx.1 hz
    · exact h2 b
    · exact ext_mid b a p5 hz.1 hx.1 hy
theorem edg_mem {C : List P} {a b : P} (h : (a, b) ∈ edg C) : a ∈ C ∧ b ∈ C := by
  have h1 := List.of_mem_zip h
  refine ⟨h1.1, ?_⟩
  rcases List.mem_append.mp h1.2 with z | z
  · exact List.mem_of_mem_drop z
  · exact List.mem_of_mem_take z
theorem edg_ne {S C : List P} (h : Poly S C) {a b : P} (he : (a, b) ∈ edg C) : a ≠ b := by
  obtain ⟨c, r, e, _⟩ := h.least
  have hn := h.nodup
  have hl := h.len
  rw [e] at he hn hl
  obtain ⟨i, k, e2⟩ := (edg_iff c r a b).mp he
  intro hab
  subst hab
  cases i with
  | nil =>
    simp only [List.cons_append, List.nil_append, List.cons.injEq] at e2
    obtain ⟨rfl, e3⟩ := e2
    cases r with
    | nil => simp at hl
    | cons x r =>
      simp only [List.cons_append, List.cons.injEq] at e3
      rw [e3.1] at hn
      simp at hn
  | cons y i =>
    simp only [List.cons_append, List.cons.injEq] at e2
    obtain ⟨rfl, e3⟩ := e2
    -- r ++ [c] = i ++ a :: a :: k
    rcases List.eq_nil_or_concat k with hk | ⟨k', z, hk⟩
    · subst hk
      have : i ++ a :: [a] = (i ++ [a]) ++ [a] := by simp
      rw [this] at e3
      have e4 := List.append_inj' e3 rfl
      simp only [List.cons.injEq, and_true] at e4
      rw [e4.1, e4.2] at hn
      simp at hn
    · subst hk
      have : i ++ a :: a :: (k'.concat z) = (i ++ a :: a :: k') ++ [z] := by simp
      rw [this] at e3
      have e4 := List.append_inj' e3 rfl
      rw [e4.1] at hn
      simp [List.nodup_append] at hn
/-- all other corners are to the left of an edge -/
theorem Poly.strict {S C : List P} (h : Poly S C) {a b q : P} (he : (a, b) ∈ edg C) (hq : q ∈ C) (h1 : q ≠ a) (h2 : q ≠ b) : 0 < tn a b q := by
  have m := edg_mem he
  have := h.edge a b he q (h.sub q hq)
  have := ext_three (h.ext m.1) (h.ext m.2) (h.ext hq) (edg_ne h he) h2.symm h1.symm
  omega
theorem max_mem (f : P → Int) : ∀ (C : List P), C ≠ [] → ∃ c ∈ C, ∀ x ∈ C, f x ≤ f c
  | [], h => absurd rfl h
  | [a], _ => ⟨a, by simp, fun x hx => by rw [List.mem_singleton.mp hx]; exact Int.le_refl _⟩
  | a :: b :: r, _ => by
    obtain ⟨c, hc, h⟩ := max_mem f (b :: r) (by simp)
    by_cases z : f a ≤ f c
    · refine ⟨c, List.mem_cons_of_mem _ hc, fun x hx => ?_⟩
      rcases List.mem_cons.mp hx with e | e
      · rw [e]; exact z
      · exact h x e
    · refine ⟨a, by simp, fun x hx => ?_⟩
      rcases List.mem_cons.mp hx with e | e
      · rw [e]; exact Int.le_refl _
      · have := h x e; omega
/-- a dot left of both edges at a corner lies within the angle -/
theorem ang_le {a c b p : P} {u v : Int} (h : 0 < tn a c b) (h1 : 0 ≤ tn a c p) (h2 : 0 ≤ tn c b p) (ha : u * a.1 + v * a.2 ≤ u * c.1 + v * c.2) (hb : u * b.1 + v * b.2 ≤ u * c.1 + v * c.2) : u * p.1 + v * p.2 ≤ u * c.1 + v * c.2 := by
  have e : tn a c b * (u * p.1 + v * p.2 - (u * c.1 + v * c.2)) = tn c b p * (u * a.1 + v * a.2 - (u * c.1 + v * c.2)) + tn a c p * (u * b.1 + v * b.2 - (u * c.1 + v * c.2)) := by unfold tn; grind
  have k1 : tn c b p * (u * a.1 + v * a.2 - (u * c.1 + v * c.2)) ≤ 0 := Int.mul_nonpos_of_nonneg_of_nonpos h2 (by omega)
  have k2 : tn a c p * (u * b.1 + v * b.2 - (u * c.1 + v * c.2)) ≤ 0 := Int.mul_nonpos_of_nonneg_of_nonpos h1 (by omega)
  apply Classical.byContradiction
  intro hc
  have : 0 < tn a c b * (u * p.1 + v * p.2 - (u * c.1 + v * c.2)) := Int.mul_pos h (by omega)
  omega
/-- no functional is greater at a dot of the polygon than at the corners -/
theorem Poly.fun_le {S C : List P} (h : Poly S C) (u v : Int) {p : P} (hp : ∀ a b, (a, b) ∈ edg C → 0 ≤ tn a b p) : ∃ c ∈ C, u * p.1 + v * p.2 ≤ u * c.1 + v * c.2 ∧ ∀ x ∈ C, u * x.1 + v * x.2 ≤ u * c.1 + v * c.2 := by
  have hne : C ≠ [] := fun e => by have := h.len; rw [e] at this; simp at this
  obtain ⟨c, hc, hm⟩ := max_mem (fun x => u * x.1 + v * x.2) C hne
  obtain ⟨a, b, h1, h2, h3⟩ := h.ang c hc
  exact ⟨c, hc, ang_le h3 (hp _ _ h1) (hp _ _ h2) (hm a (edg_mem h1).1) (hm b (edg_mem h2).2), hm⟩
theorem Poly.of_ext {S C : List P} (h : Poly S C) {p : P} (hp : Ext S p) : p ∈ C := by
  obtain ⟨hpS, u, v, hm⟩ := hp
  obtain ⟨c, hc, k, _⟩ := h.fun_le u v (p := p) fun a b he => h.edge a b he p hpS
  by_cases e : c = p
  · rw [← e]; exact hc
  · have := hm c (h.sub c hc) e
    omega
theorem Poly.mem_iff {S C : List P} (h : Poly S C) (p : P) : p ∈ C ↔ Ext S p := ⟨fun z => h.ext z, fun z => h.of_ext z⟩
theorem lo_mem_hull {S : List P} (h : hullL S ≠ []) {x : P} : (x ∈ lo S → x ∈ hullL S) ∧ (x ∈ up S → x ∈ hullL S) := by
  obtain ⟨b, t, l, u, E⟩ := parts h
  rw [E.lo, E.up, E.hull]
  constructor
  · intro z; simp at z ⊢; rcases z with z | z | z <;> simp [z]
  · intro z; simp at z ⊢; rcases z with z | z | z <;> simp [z]
/-- the hull of some dots that have all corners -/
theorem hull_of_sub {S T : List P} (h : hullL S ≠ []) (e : ∀ x ∈ T, x ∈ S) (m : ∀ x ∈ hullL S, x ∈ T) : hullL T = hullL S := by
  have hS : S ≠ [] := fun e => by rw [e, hull_nil] at h; exact h rfl
  exact hull_sub hS e (fun x hx => m x ((lo_mem_hull h).1 hx)) (fun x hx => m x ((lo_mem_hull h).2 hx))
theorem hull_mem {S : List P} {x : P} (h : x ∈ hullL S) : x ∈ S := by
  have h0 : hullL S ≠ [] := fun e => by rw [e] at h; simp at h
  have hS : S ≠ [] := fun e => by rw [e, hull_nil] at h0; exact h0 rfl
  obtain ⟨b, t, l, u, E⟩ := parts h0
  rw [E.hull] at h
  simp at h
  rcases h with z | z | z | z
  · exact (chn_lo hS).mem x (by rw [E.lo, z]; simp)
  · exact (chn_lo hS).mem x (by rw [E.lo]; simp [z])
  · exact (chn_lo hS).mem x (by rw [E.lo, z]; simp)
  · exact up_mem hS (by rw [E.up]; simp [z])
theorem hull_idem {S : List P} (h : hullL S ≠ []) : hullL (hullL S) = hullL S := hull_of_sub h (fun x hx => hull_mem hx) fun x hx => hx
end G
end
section
set_option Elab.async false
set_option linter.all false
/-! Dots on a line; how many corners; moved along. -/
namespace G
open Il (sortU sortU_mem)
theorem nodup_len {α : Type} [BEq α] [LawfulBEq α] : ∀ {l S : List α}, l.Nodup → (∀ x ∈ l, x ∈ S) → l.length ≤ S.length
  | [], _, _, _ => by simp
  | a :: l, S, hn, hs => by
    have hn := List.nodup_cons.mp hn
    have ha : a ∈ S := hs a (by simp)
    have := nodup_len (S := S.erase a) hn.2 fun x hx => by
      have hne : x ≠ a := fun e => by subst e; exact hn.1 hx
      exact (List.mem_erase_of_ne hne).mpr (hs x (List.mem_cons_of_mem _ hx))
    rw [List.length_erase_of_mem ha] at this
    have : 0 < S.length := List.length_pos_of_mem ha
    simp only [List.length_cons]
    omega
theorem hull_len_le {S : List P} (h : 2 < (hullL S).length) : (hullL S).length ≤ S.length := nodup_len (hull_poly h).nodup (hull_poly h).sub
theorem hull_short {S : List P} (h : (hullL S).length ≤ 2) {x y z : P} (hx : x ∈ S) (hy : y ∈ S) (hz : z ∈ S) : tn x y z = 0 := by
  have hS : S ≠ [] := fun e => by rw [e] at hx; simp at hx
  by_cases h0 : hullL S = []
  · obtain ⟨b, t, l, u, E⟩ := ends hS
    rw [hullL_eq, E.lo, E.up] at h0
    simp only [List.tail_cons, List.append_eq_nil_iff, List.reverse_eq_nil_iff] at h0
    have bt : t = b := by
      obtain ⟨i, e⟩ := E.lo'
      rw [h0.1] at e
      have := List.append_inj_right' (s₁ := []) (t₁ := [t]) e rfl
      simpa using this
    have one : ∀ q ∈ S, q = b := fun q hq => le_anti (by have := E.most q hq; rw [bt] at this; exact this) (E.least q hq)
    rw [one x hx, one y hy, one z hz]
    exact tn_aab b b
  · obtain ⟨b, t, l, u, E⟩ := parts h0
    have hl := E.hull
    rw [hl] at h
    simp only [List.length_cons, List.length_append, List.length_reverse] at h
    have l0 : l = [] := List.eq_nil_of_length_eq_zero (by omega)
    have u0 : u = [] := List.eq_nil_of_length_eq_zero (by omega)
    have flat : ∀ q ∈ S, tn b t q = 0 := fun q hq => by
      have h1 := lo_left hS (a := b) (b := t) (by rw [E.lo, l0]; exact ⟨[], [], rfl⟩) hq
      have h2 := up_left hS (a := t) (b := b) (by rw [E.up, u0]; exact ⟨[], [], rfl⟩) hq
      rw [tn_swap] at h2
      omega
    exact col (ne_of_lt E.lt) (flat x hx) (flat y hy) (flat z hz)
/-! moved along -/
def sh (v p : P) : P := (p.1 + v.1, p.2 + v.2)
theorem tn_sh (v a b c : P) : tn (sh v a) (sh v b) (sh v c) = tn a b c := by unfold tn sh; grind
theorem popW_sh (v : P) : ∀ (st : List P) (p : P), popW (st.map (sh v)) (sh v p) = (popW st p).map (sh v)
  | [], _ => rfl
  | [a], _ => rfl
  | b :: a :: r, p => by
    have := popW_sh v (a :: r) p
    simp only [List.map_cons] at this ⊢
    simp only [popW, tn_sh]
    split
    · exact this
    · rfl
theorem fold_sh (v : P) : ∀ (ps st : List P), (ps.map (sh v)).foldl step (st.map (sh v)) = (ps.foldl step st).map (sh v)
  | [], _ => rfl
  | p :: ps, st => by
    have := fold_sh v ps (step st p)
    simp only [List.map_cons, List.foldl_cons]
    rw [← this]
    congr 1
    simp only [step, List.map_cons, popW_sh]
theorem half_sh (v : P) (ps : List P) : half (ps.map (sh v)) = (half ps).map (sh v) := by
  have := fold_sh v ps []
  simp only [List.map_nil] at this
  unfold half
  rw [this]
  simp
theorem sh_inj {v a b : P} (h : sh v a = sh v b) : a = b := by
  unfold sh at h
  simp only [Prod.mk.injEq] at h
  exact Prod.ext (by omega) (by omega)
theorem sort_sh (v : P) (S : List P) : sortU (S.map (sh v)) = (sortU S).map (sh v) := by
  refine (Il.sortU_unique ?_ ?_ fun x => ?_).symm
  · rw [List.nodup_iff_pairwise_ne, List.pairwise_map]
    exact (List.nodup_iff_pairwise_ne.mp (Il.sortU_nodup S)).imp fun {a b} h e => h (sh_inj e)
  · rw [List.pairwise_map]
    refine (Il.sortU_sorted S).imp fun {a b} h => ?_
    unfold Il.leP sh at *
    simp only [decide_eq_true_eq] at *
    omega
  · simp only [List.mem_map, sortU_mem]
theorem hull_sh (v : P) (S : List P) : hullL (S.map (sh v)) = (hullL S).map (sh v) := by
  unfold hullL
  rw [sort_sh, half_sh, ← List.map_reverse, half_sh, List.map_append]
/-- the hull of dots that are told in order -/
theorem hull_sorted {S k : List P} (hk : k.Nodup) (hs : k.Pairwise fun a b => Il.leP a b = true) (h1 : ∀ x ∈ k, x ∈ S) (h2 : ∀ x ∈ S, x ∈ k) : hullL S = half k ++ half k.reverse := by
  have : k = sortU S := Il.sortU_unique hk hs fun x => ⟨h1 x, h2 x⟩
  unfold hullL
  rw [← this]
end G
end
section
set_option Elab.async false
set_option linter.all false
set_option maxRecDepth 100000
/-! Plain tellings of what a shape keeps: its dots, its normal form. -/
namespace W
open Il PySem
open G (tn popW half hullL lo up edg)
abbrev tupP (ps : List P) : D := .tup (ps.map pairD)
structure Mv where
  a : Int
  b : Int
  c : Int
  d : Int
  e : Int
  f : Int
deriving DecidableEq
namespace Mv
def det (m : Mv) : Int := m.a * m.d - m.b * m.c
def D (m : Mv) : Il.D := .tup [.int m.a, .int m.b, .int m.c, .int m.d, .int m.e, .int m.f]
def led (m : Mv) (p : P) : P := (m.a * p.1 + m.b * p.2 + m.e, m.c * p.1 + m.d * p.2 + m.f)
/-- m, then n -/
def beh (m n : Mv) : Mv := ⟨n.a * m.a + n.b * m.c, n.a * m.b + n.b * m.d, n.c * m.a + n.d * m.c, n.c * m.b + n.d * m.d, n.a * m.e + n.b * m.f + n.e, n.c * m.e + n.d * m.f + n.f⟩
def bck (m : Mv) : Mv := ⟨m.det * m.d, -m.det * m.b, -m.det * m.c, m.det * m.a, -(m.det * m.d * m.e + -m.det * m.b * m.f), -(-m.det * m.c * m.e + m.det * m.a * m.f)⟩
def one : Mv := ⟨1, 0, 0, 1, 0, 0⟩
end Mv
/-! where a dot lies -/
def trn (C : List P) (p : P) : List Int := (edg C).map fun e => tn e.1 e.2 p
def plc (C : List P) (p : P) : Int := if minI (trn C p) < 0 then -1 else if minI (trn C p) = 0 then 0 else 1
def irange (lo hi : Int) : List Int := (List.range (hi - lo).toNat).map fun (i : Nat) => lo + (i : Int)
def boxP (C : List P) : List P := (irange (minI (C.map (·.1))) (maxI (C.map (·.1)) + 1)).flatMap fun x => (irange (minI (C.map (·.2))) (maxI (C.map (·.2)) + 1)).map fun y => (x, y)
def insL (C : List P) : List P := (boxP C).filter fun p => plc C p = 1
def rimL (C : List P) : List P := (boxP C).filter fun p => plc C p = 0
/-! the normal form -/
def gE (e : P × P) : Int := (Int.gcd (e.2.1 - e.1.1) (e.2.2 - e.1.2) : Nat)
abbrev T3 := Int × Int × Int
def bezR (a b : T3) : T3 :=
  if b.1 = 0 then a else bezR b (a.1 - a.1.fdiv b.1 * b.1, a.2.1 - a.1.fdiv b.1 * b.2.1, a.2.2 - a.1.fdiv b.1 * b.2.2)
termination_by b.1.natAbs
decreasing_by
  have e : a.1 - a.1.fdiv b.1 * b.1 = a.1.fmod b.1 := by
    have := Int.fmod_add_mul_fdiv a.1 b.1
    rw [Int.mul_comm] at this
    omega
  show (a.1 - a.1.fdiv b.1 * b.1).natAbs < b.1.natAbs
  rw [e]
  rename_i h
  have m1 := Int.emod_nonneg a.1 h
  have m2 : a.1 % b.1 < (b.1.natAbs : Int) := by
    have := Int.emod_lt a.1 h
    exact this
  rw [Int.fmod_eq_emod]
  split
  · omega
  · rename_i k
    have k1 : ¬ b.1 ∣ a.1 := fun z => k (.inr z)
    have k2 : ¬ 0 ≤ b.1 := fun z => k (.inl z)
    have : a.1 % b.1 ≠ 0 := fun z => k1 (Int.dvd_of_emod_eq_zero z)
    omega
def bez (x y : Int) : Int × Int := let r := bezR (x, 1, 0) (y, 0, 1); let s : Int := if 0 < r.1 then 1 else -1; (s * r.2.1, s * r.2.2)
/-- the move that takes p to (0, 0), q to the right, r above -/
def straightM (p q r : P) : Mv :=
  let g := gE (p, q)
  let s1 := (q.1 - p.1).fdiv g
  let s2 := (q.2 - p.2).fdiv g
  let uv := bez s1 s2
  let m := Mv.beh ⟨1, 0, 0, 1, -p.1, -p.2⟩ ⟨uv.1, uv.2, -s2, s1, 0, 0⟩
  let m2 := if (m.led r).2 < 0 then m.beh ⟨1, 0, 0, -1, 0, 0⟩ else m
  m2.beh ⟨1, -(((m2.led r).1 - g).fdiv (m2.led r).2), 0, 1, 0, 0⟩
def str3 : List P → Mv
  | a :: b :: c :: _ => straightM a b c
  | _ => .one
def rots (C : List P) : List (List P) := (List.range C.length).map fun i => C.drop i ++ C.take i
abbrev Row := List P × Mv
def rowD (r : Row) : D := .tup [tupP r.1, r.2.D]
def rowsN (C : List P) : List Row := (rots C ++ rots C.reverse).map fun R => (hullL (C.map (str3 R).led), str3 R)
def minR (x : Row) (xs : List Row) : Row := xs.foldl (fun a y => if D.lt (rowD y) (rowD a) then y else a) x
def normF (C : List P) : List P := match rowsN C with
  | x :: xs => (minR x xs).1
  | [] => []
def normM (C : List P) : List Mv := ((rowsN C).filter fun r => decide (r.1 = normF C)).map (·.2)
def normD (C : List P) : D := .tup [tupP (normF C), .lst ((normM C).map Mv.D)]
end W
end
section
set_option Elab.async false
set_option linter.all false
set_option maxRecDepth 100000
set_option maxHeartbeats 400000
/-! What holds behind mirrored code: one rule a building block. -/
namespace Il
open PySem (Str)
abbrev XP := Nat → Option D → Store → Prop
def Sat {α : Type} (r : Res α) (P : α → Store → Prop) (X : XP) : Prop := match r with
  | .ok a s => P a s
  | .exc c f s => X c f s
  | .stuck => False
def NoX : XP := fun _ _ _ => False
abbrev XS := Nat → Option D → En → Store → Prop
def SatB (o : Out) (N : En → Store → Prop) (R : D → Store → Prop) (X : XS) : Prop := match o with
  | .next en s => N en s
  | .ret d s => R d s
  | .exc c f en s => X c f en s
  | _ => False
theorem Sat.mono {α : Type} {r : Res α} {P P' : α → Store → Prop} {X X' : XP} (h : Sat r P X) (k : ∀ a s, P a s → P' a s) (kx : ∀ c f s, X c f s → X' c f s) : Sat r P' X' := by
  cases r with
  | ok a s => exact k _ _ h
  | exc c f s => exact kx _ _ _ h
  | stuck => exact h
theorem Sat.imp {α : Type} {r : Res α} {P P' : α → Store → Prop} {X : XP} (h : Sat r P X) (k : ∀ a s, P a s → P' a s) : Sat r P' X := h.mono k fun _ _ _ h => h
theorem SatB.mono {o : Out} {N N' : En → Store → Prop} {R R' : D → Store → Prop} {X X' : XS} (h : SatB o N R X) (kn : ∀ en s, N en s → N' en s) (kr : ∀ d s, R d s → R' d s) (kx : ∀ c f en s, X c f en s → X' c f en s) : SatB o N' R' X' := by
  cases o with
  | next en s => exact kn _ _ h
  | ret d s => exact kr _ _ h
  | exc c f en s => exact kx _ _ _ _ h
  | brk en s => exact h
  | cont en s => exact h
  | stuck => exact h
theorem sat_bind {α β : Type} {r : Res α} {k : α → Store → Res β} {P : β → Store → Prop} {X : XP} (h : Sat r (fun a s => Sat (k a s) P X) X) : Sat (r.bind k) P X := by
  cases r with
  | ok a s => exact h
  | exc c f s => exact h
  | stuck => exact h
theorem sat_opt {α : Type} {s : Store} {o : Option α} {P : α → Store → Prop} {X : XP} (h : ∃ z, o = some z ∧ P z s) : Sat (Res.ofOpt s o) P X := by
  obtain ⟨z, e, h⟩ := h
  rw [e]; exact h
theorem sat_of {α : Type} {r : Res α} {a : α} {s : Store} {P : α → Store → Prop} {X : XP} (e : r = .ok a s) (h : P a s) : Sat r P X := by rw [e]; exact h
theorem sat_elim {α : Type} {r : Res α} {P : α → Store → Prop} (h : Sat r P NoX) : ∃ a s, r = .ok a s ∧ P a s := by
  cases r with
  | ok a s => exact ⟨a, s, rfl, h⟩
  | exc c f s => exact h.elim
  | stuck => exact h.elim
section
variable {en : En} {s : Store} {a b c : Ex} {l l2 : Lx} {p q : Tx} {X : XP} {P : D → Store → Prop} {PL : List D → Store → Prop} {PT : Bool → Store → Prop} {PP : Option Int → Store → Prop}
/-! expressions -/
theorem sa_c {d : D} (h : P d s) : Sat (xC d en s) P X := h
theorem g_sa_var {i : Nat} (h : Sat (xVar i en s) P X) : Sat (xVar i en s) P X := h
theorem sa_var {i : Nat} {d : D} (e : en[i]? = some (some (.fro d))) (h : P d s) : Sat (xVar i en s) P X := by simp only [xVar, e]; exact h
theorem g_sa_rd {i : Nat} (h : Sat (xRd i en s) P X) : Sat (xRd i en s) P X := h
theorem sa_rd {i : Nat} {d : D} (e : en[i]? = some (some (.fro d))) (h : P d s) : Sat (xRd i en s) P X := by simp only [xRd, e]; exact h
theorem g_sa_rdo {i : Nat} (h : Sat (xRd i en s) P X) : Sat (xRd i en s) P X := h
theorem sa_rdo {i : Nat} {xs : List D} (e : en[i]? = some (some (.own xs))) (h : P (.lst xs) s) : Sat (xRd i en s) P X := by simp only [xRd, e]; exact h
theorem sa_op2 {f : Store → D → D → Option D} (h : Sat (a en s) (fun x t => Sat (b en t) (fun y u => ∃ z, f u x y = some z ∧ P z u) X) X) : Sat (xOp2 f a b en s) P X :=
  sat_bind (h.imp fun _ _ h => sat_bind (h.imp fun _ _ h => sat_opt h))
theorem sa_op1 {f : Store → D → Option D} (h : Sat (a en s) (fun x t => ∃ z, f t x = some z ∧ P z t) X) : Sat (xOp1 f a en s) P X :=
  sat_bind (h.imp fun _ _ h => sat_opt h)
theorem sa_lnil (h : PL [] s) : Sat (lNil en s) PL X := h
theorem sa_lcons (h : Sat (a en s) (fun x t => Sat (l en t) (fun xs u => PL (x :: xs) u) X) X) : Sat (lCons a l en s) PL X :=
  sat_bind (h.imp fun _ _ h => sat_bind (h.imp fun _ _ h => h))
theorem sa_tup (h : Sat (l en s) (fun xs t => xs.length ≤ 1000 ∧ P (.tup xs) t) X) : Sat (xTup l en s) P X :=
  sat_bind (h.imp fun _ _ h => by rw [if_pos h.1]; exact h.2)
theorem sa_lst (h : Sat (l en s) (fun xs t => P (.lst xs) t) X) : Sat (xLst l en s) P X := sat_bind (h.imp fun _ _ h => h)
theorem sa_disp (h : Sat (l en s) (fun xs t => xs.length ≤ 1000 ∧ PL xs t) X) : Sat (lDisp l en s) PL X :=
  sat_bind (h.imp fun _ _ h => by rw [if_pos h.1]; exact h.2)
theorem sa_lop1 {f : Store → D → Option (List D)} (h : Sat (a en s) (fun x t => ∃ z, f t x = some z ∧ PL z t) X) : Sat (lOp1 f a en s) PL X := sat_bind (h.imp fun _ _ h => sat_opt h)
theorem sa_lop2 {f : Store → D → D → Option (List D)} (h : Sat (a en s) (fun x t => Sat (b en t) (fun y u => ∃ z, f u x y = some z ∧ PL z u) X) X) : Sat (lOp2 f a b en s) PL X :=
  sat_bind (h.imp fun _ _ h => sat_bind (h.imp fun _ _ h => sat_opt h))
theorem sa_pno (h : PP none s) : Sat (pNo en s) PP X := h
theorem sa_psome (h : Sat (a en s) (fun x t => ∃ i, x = .int i ∧ PP (some i) t) X) : Sat (pSome a en s) PP X :=
  sat_bind (h.imp fun x t h => by obtain ⟨i, rfl, h⟩ := h; exact h)
theorem sa_tof (h : Sat (a en s) (fun x t => ∃ k, x = .bl k ∧ PT k t) X) : Sat (tOf a en s) PT X :=
  sat_bind (h.imp fun x t h => by obtain ⟨i, rfl, h⟩ := h; exact h)
theorem sa_tand (h : Sat (p en s) (fun k t => (k = true → Sat (q en t) PT X) ∧ (k = false → PT false t)) X) : Sat (tAnd p q en s) PT X :=
  sat_bind (h.imp fun k t h => by cases k with | true => exact h.1 rfl | false => exact h.2 rfl)
theorem sa_tor (h : Sat (p en s) (fun k t => (k = true → PT true t) ∧ (k = false → Sat (q en t) PT X)) X) : Sat (tOr p q en s) PT X :=
  sat_bind (h.imp fun k t h => by cases k with | true => exact h.1 rfl | false => exact h.2 rfl)
theorem sa_tnot (h : Sat (p en s) (fun k t => PT (!k) t) X) : Sat (tNot p en s) PT X := sat_bind (h.imp fun k t h => h)
theorem sa_and (h : Sat (a en s) (fun x t => ∃ k, x = .bl k ∧ (k = true → Sat (b en t) P X) ∧ (k = false → P (.bl false) t)) X) : Sat (xAnd a b en s) P X :=
  sat_bind (h.imp fun x t h => by obtain ⟨k, rfl, h⟩ := h; cases k with | true => exact h.1 rfl | false => exact h.2 rfl)
theorem sa_or (h : Sat (a en s) (fun x t => ∃ k, x = .bl k ∧ (k = true → P (.bl true) t) ∧ (k = false → Sat (b en t) P X)) X) : Sat (xOr a b en s) P X :=
  sat_bind (h.imp fun x t h => by obtain ⟨k, rfl, h⟩ := h; cases k with | true => exact h.1 rfl | false => exact h.2 rfl)
theorem sa_not (h : Sat (a en s) (fun x t => ∃ k, x = .bl k ∧ P (.bl (!k)) t) X) : Sat (xNot a en s) P X :=
  sat_bind (h.imp fun x t h => by obtain ⟨k, rfl, h⟩ := h; exact h)
theorem sa_if (h : Sat (p en s) (fun k t => (k = true → Sat (a en t) P X) ∧ (k = false → Sat (b en t) P X)) X) : Sat (xIf p a b en s) P X :=
  sat_bind (h.imp fun k t h => by cases k with | true => exact h.1 rfl | false => exact h.2 rfl)
theorem sa_lif (h : Sat (p en s) (fun k t => (k = true → Sat (l en t) PL X) ∧ (k = false → Sat (l2 en t) PL X)) X) : Sat (lIf p l l2 en s) PL X :=
  sat_bind (h.imp fun k t h => by cases k with | true => exact h.1 rfl | false => exact h.2 rfl)
theorem sa_chain {f g : Store → D → D → Option D} (h : Sat (a en s) (fun x t => Sat (b en t) (fun y u => ∃ k, f u x y = some (.bl k) ∧ (k = true → Sat (c en u) (fun z v => ∃ w, g v y z = some w ∧ P w v) X) ∧ (k = false → P (.bl false) u)) X) X) : Sat (xChain f g a b c en s) P X :=
  sat_bind (h.imp fun _ _ h => sat_bind (h.imp fun _ _ h => by
    obtain ⟨k, e, h1, h2⟩ := h
    rw [e]
    cases k with
    | true =>
      simp only [Res.ofOpt, Res.bind]
      exact sat_bind ((h1 rfl).imp fun _ _ h => sat_opt h)
    | false => exact h2 rfl))
theorem sa_slice {lo hi : Px} (h : Sat (a en s) (fun x t => Sat (lo en t) (fun i u => Sat (hi en u) (fun j v => ∃ xs, (deref v x = .lst xs ∨ deref v x = .scr xs) ∧ PL (cut xs i j) v) X) X) X) : Sat (lSlice a lo hi en s) PL X :=
  sat_bind (h.imp fun _ _ h => sat_bind (h.imp fun _ _ h => sat_bind (h.imp fun _ _ h => by
    obtain ⟨xs, e | e, h⟩ := h <;> (rw [e]; exact h))))
theorem sa_slT {lo hi : Px} (h : Sat (a en s) (fun x t => Sat (lo en t) (fun i u => Sat (hi en u) (fun j v => ∃ xs, x = .tup xs ∧ P (.tup (cut xs i j)) v) X) X) X) : Sat (xSlT a lo hi en s) P X :=
  sat_bind (h.imp fun _ _ h1 => sat_bind (h1.imp fun _ _ h2 => sat_bind (h2.imp fun _ _ h3 => by
    obtain ⟨xs, e, h9⟩ := h3
    subst e
    exact h9)))
theorem sa_call {f : List D → Store → Res D} (h : Sat (l en s) (fun xs t => Sat (f xs t) P X) X) : Sat (xCall (fun _ => f) 0 l en s) P X :=
  sat_bind (h.imp fun _ _ h => h)
theorem sa_meth {f : List D → Store → Res D} {k : Nat} {m : Str} {o : Ex} (h : Sat (o en s) (fun x t => ∃ n fs, x = .ref n ∧ t[n]? = some (.ins k fs) ∧ fs.lookup m = none ∧ Sat (l en t) (fun xs u => Sat (f (x :: xs) u) P X) X) X) : Sat (xMeth (fun _ => f) 0 k m o l en s) P X :=
  sat_bind (h.imp fun x t h => by
    obtain ⟨n, fs, rfl, e, hm, h⟩ := h
    simp only [e, hm, true_and, if_true]
    exact sat_bind (h.imp fun _ _ h => h))
theorem sa_new {f : List D → Store → Res D} {k : Nat} (h : Sat (l en s) (fun xs t => Sat (f (.ref t.length :: xs) (t ++ [.ins k []])) (fun d u => d = .non ∧ P (.ref t.length) u) X) X) : Sat (xNew (fun _ => f) 0 k l en s) P X :=
  sat_bind (h.imp fun xs t h => by
    revert h
    dsimp only
    generalize f (.ref t.length :: xs) (t ++ [.ins k []]) = r
    cases r with
    | ok d u => rintro ⟨rfl, h⟩; exact h
    | exc c f s => exact fun h => h
    | stuck => exact fun h => h)
theorem sa_fld {ok : Nat → Bool} {f : Str} (h : Sat (a en s) (fun x t => ∃ n k fs d, x = .ref n ∧ t[n]? = some (.ins k fs) ∧ ok k = true ∧ fs.lookup f = some d ∧ P d t) X) : Sat (xFld ok f a en s) P X :=
  sat_bind (h.imp fun x t h => by
    obtain ⟨n, k, fs, d, rfl, e, hk, hf, h⟩ := h
    simp only [e, hk, if_true, hf, Res.ofOpt]
    exact h)
theorem sa_cell (h : Sat (l en s) (fun xs t => P (.ref t.length) (t ++ [.lst xs])) X) : Sat (xCellL l en s) P X := sat_bind (h.imp fun _ _ h => h)
theorem sa_dct0 (h : P (.ref s.length) (s ++ [.dct []])) : Sat (xDct0 en s) P X := h
theorem sa_bm {f : Store → D → D → Option D} (h : Sat (a en s) (fun x t => isL t x = true ∧ Sat (b en t) (fun y u => ∃ z, f u x y = some z ∧ P z u) X) X) : Sat (xBM f a b en s) P X :=
  sat_bind (h.imp fun x t h => by
    rw [if_pos h.1]
    exact sat_bind (h.2.imp fun _ _ h => sat_opt h))
theorem sa_split (h : Sat (a en s) (fun x t => ∃ z, x = .str z ∧ Sat (b en t) (fun y u => ∃ w, y = .str w ∧ (w.length ≠ 0 ∧ z.length + 2 ≤ BIG) ∧ PL ((PySem.Txt.split z w).map D.str) u) X) X) : Sat (lSplit a b en s) PL X :=
  sat_bind (h.imp fun x t h => by
    obtain ⟨z, rfl, h1⟩ := h
    exact sat_bind (h1.imp fun y u h2 => by
      obtain ⟨w, e, k, h9⟩ := h2
      subst e
      simp only [if_pos k]
      exact h9))
theorem sa_slS {lo hi : Px} (h : Sat (a en s) (fun x t => Sat (lo en t) (fun i u => Sat (hi en u) (fun j v => ∃ z, x = .str z ∧ z.length ≤ BIG ∧ P (.str (PySem.Txt.slice z i j)) v) X) X) X) : Sat (xSlS a lo hi en s) P X :=
  sat_bind (h.imp fun _ _ h1 => sat_bind (h1.imp fun _ _ h2 => sat_bind (h2.imp fun _ _ h3 => by
    obtain ⟨xs, e, k, h9⟩ := h3
    subst e
    simp only [if_pos k]
    exact h9)))
theorem sa_zipT (h : Sat (l en s) (fun vs t => ∃ xs ys, vs = [.tup xs, .tup ys] ∧ PL (zipD xs ys) t) X) : Sat (lZipT l en s) PL X :=
  sat_bind (h.imp fun _ _ h => by obtain ⟨xs, ys, rfl, h⟩ := h; exact h)
theorem sa_izip (h : Sat (l en s) (fun vs t => ∃ xs ys, (vs = [.tup xs, .tup ys] ∨ vs = [.lst xs, .lst ys]) ∧ PL (zipD xs ys) t) X) : Sat (iZip l en s) PL X :=
  sat_bind (h.imp fun _ _ h => by obtain ⟨xs, ys, rfl | rfl, h⟩ := h <;> exact h)
theorem sa_iseq (h : Sat (a en s) (fun x t => ∃ xs, (x = .lst xs ∨ x = .tup xs) ∧ PL xs t) X) : Sat (iSeq a en s) PL X :=
  sat_bind (h.imp fun _ _ h => by obtain ⟨xs, rfl | rfl, h⟩ := h <;> exact h)
theorem sa_range1 (h : Sat (a en s) (fun x t => ∃ j, x = .int j ∧ (-(2 ^ 62) ≤ j ∧ j < 2 ^ 62) ∧ PL (rangeL 0 j) t) X) : Sat (iRange1 a en s) PL X :=
  sat_bind (h.imp fun _ _ h => by obtain ⟨j, rfl, k, h⟩ := h; simp only [if_pos k]; exact h)
theorem sa_range2 (h : Sat (a en s) (fun x t => Sat (b en t) (fun y u => ∃ i j, x = .int i ∧ y = .int j ∧ (-(2 ^ 62) ≤ i ∧ i < 2 ^ 62 ∧ -(2 ^ 62) ≤ j ∧ j < 2 ^ 62) ∧ PL (rangeL i j) u) X) X) : Sat (iRange2 a b en s) PL X :=
  sat_bind (h.imp fun _ _ h1 => sat_bind (h1.imp fun _ _ h2 => by
    obtain ⟨i, j, e1, e2, k, h9⟩ := h2
    subst e1; subst e2
    simp only [if_pos k]; exact h9))
theorem sa_lrd (h : Sat (a en s) (fun x t => ∃ xs, x = .lst xs ∧ PL xs t) X) : Sat (lRd a en s) PL X :=
  sat_bind (h.imp fun _ _ h => by obtain ⟨xs, rfl, h⟩ := h; exact h)
theorem sa_comp {it : Lx} {g : Tg} {vs : List Nat} {t : Tx} (h : Sat (it en s) (fun ds u => Sat (compL g t a (wipe en vs) ds [] u) PL NoX) X) : Sat (lComp it g vs t a en s) PL X :=
  sat_bind (h.imp fun ds u h => by
    revert h
    cases compL g t a (wipe en vs) ds [] u with
    | ok d u => exact fun h => h
    | exc c f s => exact fun h => h.elim
    | stuck => exact fun h => h)
theorem g_sa_lam {k j : Nat} {q : Str} {word : (Store → Res D) → Store → Res D} {x : Ex} (h : Sat (xLam k j q word x en s) P X) : Sat (xLam k j q word x en s) P X := h
theorem sa_lam {k j : Nat} {q : Str} {word : (Store → Res D) → Store → Res D} {x : Ex} (e : s[k]? = some (.tab j q)) (h : Sat (word (fun s => x (lamEn en) s) s) P X) : Sat (xLam k j q word x en s) P X := by
  simp only [xLam, e, true_and, if_true]; exact h
theorem g_sa_isE {i : Nat} {sub : Nat → Option Bool} (h : Sat (xIsE i sub en s) P X) : Sat (xIsE i sub en s) P X := h
theorem sa_isE {i c : Nat} {f : Option D} {sub : Nat → Option Bool} {k : Bool} (e : en[i]? = some (some (.exn c f))) (e2 : sub c = some k) (h : P (.bl k) s) : Sat (xIsE i sub en s) P X := by
  simp only [xIsE, e, e2]; exact h
theorem g_sa_fldE {i : Nat} (h : Sat (xFldE i en s) P X) : Sat (xFldE i en s) P X := h
theorem sa_fldE {i c : Nat} {d : D} (e : en[i]? = some (some (.exn c (some d)))) (h : P d s) : Sat (xFldE i en s) P X := by
  simp only [xFldE, e]; exact h
/-! statements -/
variable {A B : Bk} {N : En → Store → Prop} {R : D → Store → Prop} {Y : XS}
theorem sb_of {α : Type} {r : Res α} {k : α → Store → Out} (h : Sat r (fun x t => SatB (k x t) N R Y) (fun c f t => Y c f en t)) : SatB (ofRes en r k) N R Y := by
  cases r with
  | ok d u => exact h
  | exc c f s => exact h
  | stuck => exact h
theorem sb_nil (h : N en s) : SatB (sNil en s) N R Y := h
theorem sb_seq (h : SatB (A en s) (fun en1 t => SatB (B en1 t) N R Y) R Y) : SatB (sSeq A B en s) N R Y := by
  simp only [sSeq]
  revert h
  cases A en s <;> exact fun h => h
theorem sb_drop (h : Sat (a en s) (fun _ t => N en t) (fun c f t => Y c f en t)) : SatB (sDrop a en s) N R Y := sb_of (h.imp fun _ _ h => h)
theorem sb_ret (h : Sat (a en s) (fun d t => R d t) (fun c f t => Y c f en t)) : SatB (sRet a en s) N R Y := sb_of (h.imp fun _ _ h => h)
theorem sb_asg {i : Nat} (h : Sat (a en s) (fun d t => N (en.set i (some (.fro d))) t) (fun c f t => Y c f en t)) : SatB (sAsg (.nm i) a en s) N R Y := sb_of (h.imp fun _ _ h => h)
theorem sb_asgT {g : Tg} (h : Sat (a en s) (fun d t => ∃ en1, g.put d en = some en1 ∧ N en1 t) (fun c f t => Y c f en t)) : SatB (sAsg g a en s) N R Y := sb_of (h.imp fun _ _ h => by
  obtain ⟨en1, e, h⟩ := h
  simp only [e]; exact h)
theorem sb_own {i : Nat} (hi : i < en.length) (h : Sat (l en s) (fun xs t => N (en.set i (some (.own xs))) t) (fun c f t => Y c f en t)) : SatB (sOwn i l en s) N R Y := sb_of (h.imp fun _ _ h => by
  simp only [if_pos hi]; exact h)
theorem g_sb_frz {i : Nat} (h : SatB (sFrz i en s) N R Y) : SatB (sFrz i en s) N R Y := h
theorem sb_frz {i : Nat} {xs : List D} (e : en[i]? = some (some (.own xs))) (h : N (en.set i (some (.fro (.lst xs)))) s) : SatB (sFrz i en s) N R Y := by simp only [sFrz, e]; exact h
theorem g_sb_frz0 {i : Nat} (h : SatB (sFrz i en s) N R Y) : SatB (sFrz i en s) N R Y := h
theorem sb_frz0 {i : Nat} {d : D} (e : en[i]? = some (some (.fro d))) (h : N en s) : SatB (sFrz i en s) N R Y := by simp only [sFrz, e]; exact h
theorem sb_if (h : Sat (p en s) (fun k t => (k = true → SatB (A en t) N R Y) ∧ (k = false → SatB (B en t) N R Y)) (fun c f t => Y c f en t)) : SatB (sIf p A B en s) N R Y :=
  sb_of (h.imp fun k t h => by cases k with | true => exact h.1 rfl | false => exact h.2 rfl)
theorem sb_for {it : Lx} {g : Tg} (h : Sat (it en s) (fun ds t => SatB (forL g A ds en t) N R Y) (fun c f t => Y c f en t)) : SatB (sFor it g A en s) N R Y := sb_of (h.imp fun _ _ h => h)
theorem g_sb_app {i : Nat} (h : SatB (sApp i a en s) N R Y) : SatB (sApp i a en s) N R Y := h
theorem sb_app {i : Nat} {xs : List D} (e : en[i]? = some (some (.own xs))) (hl : xs.length < BIG) (h : Sat (a en s) (fun d t => N (en.set i (some (.own (xs ++ [d])))) t) (fun c f t => Y c f en t)) : SatB (sApp i a en s) N R Y := by
  simp only [sApp, e]
  exact sb_of (h.imp fun _ _ h => by simp only [if_pos hl]; exact h)
theorem g_sb_ext {i : Nat} (h : SatB (sExt i l en s) N R Y) : SatB (sExt i l en s) N R Y := h
theorem sb_ext {i : Nat} {xs : List D} (e : en[i]? = some (some (.own xs))) (h : Sat (l en s) (fun ys t => xs.length + ys.length ≤ BIG ∧ N (en.set i (some (.own (xs ++ ys)))) t) (fun c f t => Y c f en t)) : SatB (sExt i l en s) N R Y := by
  simp only [sExt, e]
  exact sb_of (h.imp fun _ _ h => by simp only [if_pos h.1]; exact h.2)
theorem g_sb_pop {i : Nat} (h : SatB (sPop i en s) N R Y) : SatB (sPop i en s) N R Y := h
theorem sb_pop {i : Nat} {xs : List D} (e : en[i]? = some (some (.own xs))) (hl : xs.isEmpty = false) (h : N (en.set i (some (.own xs.dropLast))) s) : SatB (sPop i en s) N R Y := by
  simp only [sPop, e, hl, Bool.false_eq_true, if_false]; exact h
theorem sb_raise0 {c : Nat} (h : Y c none en s) : SatB (sRaise0 c en s) N R Y := h
theorem sb_raise1 {c : Nat} (h : Sat (a en s) (fun d t => Y c (some d) en t) (fun c f t => Y c f en t)) : SatB (sRaise1 c a en s) N R Y := sb_of (h.imp fun _ _ h => h)
theorem sb_par {is : List Nat} {ks : List Kd} (h : Sat (evK ks en s) (fun ss t => N (setL en is (ss.map some)) t) (fun c f t => Y c f en t)) : SatB (sPar is ks en s) N R Y := sb_of (h.imp fun _ _ h => h)
variable {PK : List Sl → Store → Prop}
theorem sa_kn (h : PK [] s) : Sat (evK [] en s) PK X := h
theorem sa_ke {ks : List Kd} (h : Sat (a en s) (fun d t => Sat (evK ks en t) (fun ss u => PK (.fro d :: ss) u) X) X) : Sat (evK (.e a :: ks) en s) PK X := sat_bind (h.imp fun _ _ h => sat_bind (h.imp fun _ _ h => h))
theorem sa_kl {ks : List Kd} (h : Sat (l en s) (fun d t => Sat (evK ks en t) (fun ss u => PK (.own d :: ss) u) X) X) : Sat (evK (.n l :: ks) en s) PK X := sat_bind (h.imp fun _ _ h => sat_bind (h.imp fun _ _ h => h))
theorem sb_fset {ok : Nat → Bool} {f : Str} (h : Sat (b en s) (fun y t => Sat (a en t) (fun x u => ∃ n k fs, x = .ref n ∧ u[n]? = some (.ins k fs) ∧ (ok k && decide (fs.length < 1000)) = true ∧ N en (u.set n (.ins k (putD f y fs)))) (fun c f t => Y c f en t)) (fun c f t => Y c f en t)) : SatB (sFldSet ok f a b en s) N R Y :=
  sb_of (h.imp fun y t h1 => sb_of (h1.imp fun x u h2 => by
    obtain ⟨n, k, fs, e1, e, hk, h9⟩ := h2
    subst e1
    simp only [e, hk, if_true]; exact h9))
theorem sb_item (h : Sat (c en s) (fun z t => Sat (a en t) (fun x u => Sat (b en u) (fun y v => ∃ n i xs j, x = .ref n ∧ y = .int i ∧ v[n]? = some (.lst xs) ∧ ixN xs.length i = some j ∧ N en (v.set n (.lst (xs.set j z)))) (fun c f t => Y c f en t)) (fun c f t => Y c f en t)) (fun c f t => Y c f en t)) : SatB (sSetItem a b c en s) N R Y :=
  sb_of (h.imp fun z t h1 => sb_of (h1.imp fun x u h2 => sb_of (h2.imp fun y v h3 => by
    obtain ⟨n, i, xs, j, ea, eb, e, e2, h9⟩ := h3
    subst ea; subst eb
    simp only [e, e2]; exact h9)))
theorem sb_appR (h : Sat (a en s) (fun x t => ∃ n zs, x = .ref n ∧ t[n]? = some (.lst zs) ∧ Sat (b en t) (fun y u => ∃ xs, u[n]? = some (.lst xs) ∧ xs.length < BIG ∧ N en (u.set n (.lst (xs ++ [y])))) (fun c f t => Y c f en t)) (fun c f t => Y c f en t)) : SatB (sAppR a b en s) N R Y :=
  sb_of (h.imp fun x t h => by
    obtain ⟨n, zs, rfl, e, h⟩ := h
    simp only [e]
    exact sb_of (h.imp fun y u h => by
      obtain ⟨xs, e, hl, h⟩ := h
      simp only [e, if_pos hl]; exact h))
theorem sb_popR (h : Sat (a en s) (fun x t => ∃ n xs, x = .ref n ∧ t[n]? = some (.lst xs) ∧ xs.isEmpty = false ∧ N en (t.set n (.lst xs.dropLast))) (fun c f t => Y c f en t)) : SatB (sPopR a en s) N R Y :=
  sb_of (h.imp fun x t h => by
    obtain ⟨n, zs, rfl, e, hl, h⟩ := h
    simp only [e, hl, Bool.false_eq_true, if_false]; exact h)
theorem sb_pop0R (h : Sat (a en s) (fun x t => ∃ n y xs, x = .ref n ∧ t[n]? = some (.lst (y :: xs)) ∧ N en (t.set n (.lst xs))) (fun c f t => Y c f en t)) : SatB (sPop0R a en s) N R Y :=
  sb_of (h.imp fun x t h => by
    obtain ⟨n, y, zs, rfl, e, h⟩ := h
    simp only [e]; exact h)
theorem sb_try {i : Nat} {cls : Nat → Option Bool} (h : SatB (A en s) N R (fun c f en1 t => ∃ k, cls c = some k ∧ (k = true → SatB (B (en1.set i (some (.exn c f))) t) (fun en2 u => N (noExn (en2.set i none)) u) R (fun _ _ _ _ => False)) ∧ (k = false → Y c f en1 t))) : SatB (sTry i cls A B en s) N R Y := by
  simp only [sTry]
  revert h
  cases A en s with
  | exc c f en1 t =>
    rintro ⟨k, e, h1, h2⟩
    simp only [e]
    cases k with
    | true =>
      have := h1 rfl
      revert this
      cases B (en1.set i (some (.exn c f))) t <;> exact fun h => h
    | false => exact h2 rfl
  | _ => exact fun h => h
/-! loops -/
/-- a loop with an invariant, the rest of the items told -/
theorem sb_forI {g : Tg} (I : List D → En → Store → Prop) (ds : List D) (h0 : I ds en s) (hs : ∀ d ds en s, I (d :: ds) en s → ∃ en1, g.put d en = some en1 ∧ SatB (A en1 s) (fun en2 t => I ds en2 t) R Y) (hN : ∀ en s, I [] en s → N en s) : SatB (forL g A ds en s) N R Y := by
  induction ds generalizing en s with
  | nil => exact hN en s h0
  | cons d ds ih =>
    obtain ⟨en1, e, h⟩ := hs d ds en s h0
    simp only [forL, e]
    revert h
    cases A en1 s with
    | next en2 s2 => exact fun h => ih h
    | ret d s2 => exact fun h => h
    | exc c f en2 s2 => exact fun h => h
    | brk en2 s2 => exact fun h => h.elim
    | cont en2 s2 => exact fun h => h.elim
    | stuck => exact fun h => h.elim
theorem sb_while (I : En → Store → Prop) (m : En → Store → Nat) {n : Nat} (h0 : I en s) (hn : m en s < n) (hs : ∀ en s, I en s → m en s < n → Sat (p en s) (fun k t => (k = true → SatB (A en t) (fun en2 u => I en2 u ∧ m en2 u < m en s) R Y) ∧ (k = false → N en t)) (fun c f t => Y c f en t)) : SatB (sWhile n p A en s) N R Y := by
  unfold sWhile
  suffices H : ∀ (k : Nat) (en : En) (s : Store), I en s → m en s < k → k ≤ n → SatB (whileN p A k en s) N R Y from H n en s h0 hn (Nat.le_refl _)
  intro k
  induction k with
  | zero => intro en s _ h; omega
  | succ k ih =>
    intro en s hI hm hk
    simp only [whileN]
    refine sb_of ((hs en s hI (by omega)).imp fun x t h => ?_)
    cases x with
    | false => exact h.2 rfl
    | true =>
      have := h.1 rfl
      simp only [if_true]
      revert this
      cases A en t with
      | next en2 s2 => exact fun h => ih en2 s2 h.1 (by have := h.2; omega) (by omega)
      | ret d s2 => exact fun h => h
      | exc c f en2 s2 => exact fun h => h
      | brk en2 s2 => exact fun h => h.elim
      | cont en2 s2 => exact fun h => h.elim
      | stuck => exact fun h => h.elim
/-! defs -/
theorem sa_run {n : Nat} {ds : List D} (h : SatB (A (startE n ds) s) (fun _ t => P .non t) P (fun c f _ t => X c f t)) : Sat (runB n A ds s) P X := by
  simp only [runB]
  revert h
  cases A (startE n ds) s <;> exact fun h => h
theorem sa_runK {n : Nat} {f : Store → Res D} (h : SatB (A (some (.thk f) :: List.replicate (n - 1) none) s) (fun _ t => P .non t) P (fun c f _ t => X c f t)) : Sat (runK n A f s) P X := by
  simp only [runK]
  revert h
  cases A (some (.thk f) :: List.replicate (n - 1) none) s <;> exact fun h => h
theorem g_sa_act  (h : Sat (xAct en s) P X) : Sat (xAct en s) P X := h
theorem sa_act {f : Store → Res D} (e : en[(0 : Nat)]? = some (some (.thk f))) (h : Sat (f s) P X) : Sat (xAct en s) P X := by simp only [xAct, e]; exact h
/-- a comprehension that tells a function of its items, and changes nothing -/
theorem sa_compM {g : Tg} {f : D → D} {ds : List D} (hl : ds.length ≤ BIG) (hs : ∀ d ∈ ds, ∃ en1, g.put d en = some en1 ∧ Sat (a en1 s) (fun y v => y = f d ∧ v = s) X) (hN : PL (ds.map f) s) : Sat (compL g tYes a en ds [] s) PL X := by
  suffices H : ∀ (es acc : List D), (∀ d ∈ es, d ∈ ds) → acc.length + es.length ≤ BIG → PL (acc ++ es.map f) s → Sat (compL g tYes a en es acc s) PL X from H ds [] (fun _ h => h) (by simpa using hl) (by simpa using hN)
  intro es
  induction es with
  | nil => intro acc _ _ h; simpa [compL, Sat] using h
  | cons d es ih =>
    intro acc hm hl h
    obtain ⟨en1, e, h1⟩ := hs d (hm d (by simp))
    simp only [List.length_cons] at hl
    simp only [compL, e, tYes, Res.bind, if_true]
    refine sat_bind (h1.imp fun y v h2 => ?_)
    obtain ⟨rfl, rfl⟩ := h2
    rw [if_pos (by omega)]
    exact ih (acc ++ [f d]) (fun x hx => hm x (List.mem_cons_of_mem _ hx)) (by simp only [List.length_append, List.length_cons, List.length_nil]; omega) (by simpa using h)
end

/-! ends of rules -/
theorem g_ex1 {p q : α → Prop} (h : ∃ z, p z ∧ q z) : ∃ z, p z ∧ q z := h
theorem ex1 {α : Type} {p q : α → Prop} {z : α} (h : p z) (k : q z) : ∃ z, p z ∧ q z := ⟨z, h, k⟩
theorem g_ex_meth {x : D} {t : Store} {c : Nat} {m : Str} {Q : Prop} (h : ∃ n fs, x = .ref n ∧ t[n]? = some (.ins c fs) ∧ fs.lookup m = none ∧ Q) : ∃ n fs, x = .ref n ∧ t[n]? = some (.ins c fs) ∧ fs.lookup m = none ∧ Q := h
theorem ex_meth {x : D} {t : Store} {c n : Nat} {m : Str} {fs : List (Str × D)} {Q : Prop} (e1 : x = .ref n) (e2 : t[n]? = some (.ins c fs)) (e3 : fs.lookup m = none) (k : Q) : ∃ n fs, x = .ref n ∧ t[n]? = some (.ins c fs) ∧ fs.lookup m = none ∧ Q := ⟨n, fs, e1, e2, e3, k⟩
theorem g_ex_fld {x : D} {t : Store} {f : Str} {ok : Nat → Bool} {Q : D → Prop} (h : ∃ n c fs d, x = .ref n ∧ t[n]? = some (.ins c fs) ∧ ok c = true ∧ fs.lookup f = some d ∧ Q d) : ∃ n c fs d, x = .ref n ∧ t[n]? = some (.ins c fs) ∧ ok c = true ∧ fs.lookup f = some d ∧ Q d := h
theorem ex_fld {x d : D} {t : Store} {c n : Nat} {f : Str} {ok : Nat → Bool} {fs : List (Str × D)} {Q : D → Prop} (e1 : x = .ref n) (e2 : t[n]? = some (.ins c fs)) (e3 : ok c = true) (e4 : fs.lookup f = some d) (k : Q d) : ∃ n c fs d, x = .ref n ∧ t[n]? = some (.ins c fs) ∧ ok c = true ∧ fs.lookup f = some d ∧ Q d := ⟨n, c, fs, d, e1, e2, e3, e4, k⟩
theorem g_ex_fset {x : D} {t : Store} {ok : Nat → Bool} {Q : Nat → Nat → List (Str × D) → Prop} (h : ∃ n c fs, x = .ref n ∧ t[n]? = some (.ins c fs) ∧ (ok c && decide (fs.length < 1000)) = true ∧ Q n c fs) : ∃ n c fs, x = .ref n ∧ t[n]? = some (.ins c fs) ∧ (ok c && decide (fs.length < 1000)) = true ∧ Q n c fs := h
theorem ex_fset {x : D} {t : Store} {c n : Nat} {ok : Nat → Bool} {fs : List (Str × D)} {Q : Nat → Nat → List (Str × D) → Prop} (e1 : x = .ref n) (e2 : t[n]? = some (.ins c fs)) (e3 : (ok c && decide (fs.length < 1000)) = true) (k : Q n c fs) : ∃ n c fs, x = .ref n ∧ t[n]? = some (.ins c fs) ∧ (ok c && decide (fs.length < 1000)) = true ∧ Q n c fs := ⟨n, c, fs, e1, e2, e3, k⟩
theorem g_ex_item {x y : D} {t : Store} {Q : Nat → List D → Nat → Prop} (h : ∃ n i xs j, x = .ref n ∧ y = .int i ∧ t[n]? = some (.lst xs) ∧ ixN xs.length i = some j ∧ Q n xs j) : ∃ n i xs j, x = .ref n ∧ y = .int i ∧ t[n]? = some (.lst xs) ∧ ixN xs.length i = some j ∧ Q n xs j := h
theorem ex_item {x y : D} {t : Store} {n j : Nat} {i : Int} {xs : List D} {Q : Nat → List D → Nat → Prop} (e1 : x = .ref n) (e2 : y = .int i) (e3 : t[n]? = some (.lst xs)) (e4 : ixN xs.length i = some j) (k : Q n xs j) : ∃ n i xs j, x = .ref n ∧ y = .int i ∧ t[n]? = some (.lst xs) ∧ ixN xs.length i = some j ∧ Q n xs j := ⟨n, i, xs, j, e1, e2, e3, e4, k⟩
theorem g_ex_appR {x : D} {t : Store} {Q : Nat → Prop} (h : ∃ n xs, x = .ref n ∧ t[n]? = some (.lst xs) ∧ Q n) : ∃ n xs, x = .ref n ∧ t[n]? = some (.lst xs) ∧ Q n := h
theorem ex_appR {x : D} {t : Store} {n : Nat} {xs : List D} {Q : Nat → Prop} (e1 : x = .ref n) (e2 : t[n]? = some (.lst xs)) (k : Q n) : ∃ n xs, x = .ref n ∧ t[n]? = some (.lst xs) ∧ Q n := ⟨n, xs, e1, e2, k⟩
theorem g_ex_appR2 {t : Store} {n : Nat} {Q : List D → Prop} (h : ∃ xs, t[n]? = some (.lst xs) ∧ xs.length < BIG ∧ Q xs) : ∃ xs, t[n]? = some (.lst xs) ∧ xs.length < BIG ∧ Q xs := h
theorem ex_appR2 {t : Store} {n : Nat} {xs : List D} {Q : List D → Prop} (e2 : t[n]? = some (.lst xs)) (e3 : xs.length < BIG) (k : Q xs) : ∃ xs, t[n]? = some (.lst xs) ∧ xs.length < BIG ∧ Q xs := ⟨xs, e2, e3, k⟩
theorem g_ex_popR {x : D} {t : Store} {Q : Nat → List D → Prop} (h : ∃ n xs, x = .ref n ∧ t[n]? = some (.lst xs) ∧ xs.isEmpty = false ∧ Q n xs) : ∃ n xs, x = .ref n ∧ t[n]? = some (.lst xs) ∧ xs.isEmpty = false ∧ Q n xs := h
theorem ex_popR {x : D} {t : Store} {n : Nat} {xs : List D} {Q : Nat → List D → Prop} (e1 : x = .ref n) (e2 : t[n]? = some (.lst xs)) (e3 : xs.isEmpty = false) (k : Q n xs) : ∃ n xs, x = .ref n ∧ t[n]? = some (.lst xs) ∧ xs.isEmpty = false ∧ Q n xs := ⟨n, xs, e1, e2, e3, k⟩
theorem g_ex_pop0R {x : D} {t : Store} {Q : Nat → List D → Prop} (h : ∃ n y xs, x = .ref n ∧ t[n]? = some (.lst (y :: xs)) ∧ Q n xs) : ∃ n y xs, x = .ref n ∧ t[n]? = some (.lst (y :: xs)) ∧ Q n xs := h
theorem ex_pop0R {x y : D} {t : Store} {n : Nat} {xs : List D} {Q : Nat → List D → Prop} (e1 : x = .ref n) (e2 : t[n]? = some (.lst (y :: xs))) (k : Q n xs) : ∃ n y xs, x = .ref n ∧ t[n]? = some (.lst (y :: xs)) ∧ Q n xs := ⟨n, y, xs, e1, e2, k⟩
theorem g_ex_seq {x : D} {Q : List D → Prop} (h : ∃ xs, (x = .lst xs ∨ x = .tup xs) ∧ Q xs) : ∃ xs, (x = .lst xs ∨ x = .tup xs) ∧ Q xs := h
theorem ex_seq {x : D} {xs : List D} {Q : List D → Prop} (e : x = .lst xs ∨ x = .tup xs) (k : Q xs) : ∃ xs, (x = .lst xs ∨ x = .tup xs) ∧ Q xs := ⟨xs, e, k⟩
theorem g_ex_zip {vs : List D} {Q : List D → List D → Prop} (h : ∃ xs ys, vs = [.tup xs, .tup ys] ∧ Q xs ys) : ∃ xs ys, vs = [.tup xs, .tup ys] ∧ Q xs ys := h
theorem ex_zip {vs xs ys : List D} {Q : List D → List D → Prop} (e : vs = [.tup xs, .tup ys]) (k : Q xs ys) : ∃ xs ys, vs = [.tup xs, .tup ys] ∧ Q xs ys := ⟨xs, ys, e, k⟩
theorem g_ex_izip {vs : List D} {Q : List D → List D → Prop} (h : ∃ xs ys, (vs = [.tup xs, .tup ys] ∨ vs = [.lst xs, .lst ys]) ∧ Q xs ys) : ∃ xs ys, (vs = [.tup xs, .tup ys] ∨ vs = [.lst xs, .lst ys]) ∧ Q xs ys := h
theorem ex_izip {vs xs ys : List D} {Q : List D → List D → Prop} (e : vs = [.tup xs, .tup ys] ∨ vs = [.lst xs, .lst ys]) (k : Q xs ys) : ∃ xs ys, (vs = [.tup xs, .tup ys] ∨ vs = [.lst xs, .lst ys]) ∧ Q xs ys := ⟨xs, ys, e, k⟩
theorem g_ex_range2 {x y : D} {Q : Int → Int → Prop} (h : ∃ i j, x = .int i ∧ y = .int j ∧ (-(2 ^ 62) ≤ i ∧ i < 2 ^ 62 ∧ -(2 ^ 62) ≤ j ∧ j < 2 ^ 62) ∧ Q i j) : ∃ i j, x = .int i ∧ y = .int j ∧ (-(2 ^ 62) ≤ i ∧ i < 2 ^ 62 ∧ -(2 ^ 62) ≤ j ∧ j < 2 ^ 62) ∧ Q i j := h
theorem ex_range2 {x y : D} {i j : Int} {Q : Int → Int → Prop} (e1 : x = .int i) (e2 : y = .int j) (e3 : -(2 ^ 62) ≤ i ∧ i < 2 ^ 62 ∧ -(2 ^ 62) ≤ j ∧ j < 2 ^ 62) (k : Q i j) : ∃ i j, x = .int i ∧ y = .int j ∧ (-(2 ^ 62) ≤ i ∧ i < 2 ^ 62 ∧ -(2 ^ 62) ≤ j ∧ j < 2 ^ 62) ∧ Q i j := ⟨i, j, e1, e2, e3, k⟩
theorem g_ex_range1 {x : D} {Q : Int → Prop} (h : ∃ j, x = .int j ∧ (-(2 ^ 62) ≤ j ∧ j < 2 ^ 62) ∧ Q j) : ∃ j, x = .int j ∧ (-(2 ^ 62) ≤ j ∧ j < 2 ^ 62) ∧ Q j := h
theorem ex_range1 {x : D} {j : Int} {Q : Int → Prop} (e2 : x = .int j) (e3 : -(2 ^ 62) ≤ j ∧ j < 2 ^ 62) (k : Q j) : ∃ j, x = .int j ∧ (-(2 ^ 62) ≤ j ∧ j < 2 ^ 62) ∧ Q j := ⟨j, e2, e3, k⟩
theorem g_ex_str2 {x : D} {p : Str → Prop} {Q : Str → Prop} (h : ∃ z, x = .str z ∧ p z ∧ Q z) : ∃ z, x = .str z ∧ p z ∧ Q z := h
theorem ex_str2 {x : D} {z : Str} {p : Str → Prop} {Q : Str → Prop} (e2 : x = .str z) (e3 : p z) (k : Q z) : ∃ z, x = .str z ∧ p z ∧ Q z := ⟨z, e2, e3, k⟩
theorem an_le {a b : Nat} {Q : Prop} (e : a ≤ b) (k : Q) : a ≤ b ∧ Q := ⟨e, k⟩
theorem an_isL {s : Store} {x : D} {Q : Prop} (e : isL s x = true) (k : Q) : isL s x = true ∧ Q := ⟨e, k⟩
theorem an_non {d : D} {Q : Prop} (e : d = .non) (k : Q) : d = .non ∧ Q := ⟨e, k⟩
theorem br_t {k : Bool} {A B : Prop} (e : k = true) (h : A) : (k = true → A) ∧ (k = false → B) := ⟨fun _ => h, fun h => (by rw [e] at h; cases h)⟩
theorem br_f {k : Bool} {A B : Prop} (e : k = false) (h : B) : (k = true → A) ∧ (k = false → B) := ⟨fun h => (by rw [e] at h; cases h), fun _ => h⟩
theorem an_lt {a b : Nat} {Q : Prop} (e : a < b) (k : Q) : a < b ∧ Q := ⟨e, k⟩
theorem an_bnd {a b c d : Int} {Q : Prop} (e : a ≤ b ∧ c < d) (k : Q) : (a ≤ b ∧ c < d) ∧ Q := ⟨e, k⟩
theorem an_ne {a b : Nat} {A Q : Prop} (e : a ≠ b ∧ A) (k : Q) : (a ≠ b ∧ A) ∧ Q := ⟨e, k⟩
def nrr : D → Bool
  | .ref _ => false
  | _ => true
theorem deref_nrr {x : D} (h : nrr x = true) (s : Store) : deref s x = x := by
  cases x <;> first | rfl | cases h
theorem ne_same {x y : D} {s : Store} (h : (nrr x && nrr y && x.ok && y.ok && x.eqv y) = true) : oNe s x y = some (.bl false) := by
  simp only [Bool.and_eq_true] at h
  obtain ⟨⟨⟨⟨h1, h2⟩, h3⟩, h4⟩, h5⟩ := h
  simp only [oNe, deref_nrr h1, deref_nrr h2, h3, h4, h5, Bool.and_self, if_true, Bool.not_true]
theorem ne_diff {x y : D} {s : Store} (h : (nrr x && nrr y && x.ok && y.ok && !x.eqv y) = true) : oNe s x y = some (.bl true) := by
  simp only [Bool.and_eq_true, Bool.not_eq_true'] at h
  obtain ⟨⟨⟨⟨h1, h2⟩, h3⟩, h4⟩, h5⟩ := h
  simp only [oNe, deref_nrr h1, deref_nrr h2, h3, h4, h5, Bool.and_self, if_true, Bool.not_false]
theorem eq_same {x y : D} {s : Store} (h : (nrr x && nrr y && x.ok && y.ok && x.eqv y) = true) : oEq s x y = some (.bl true) := by
  simp only [Bool.and_eq_true] at h
  obtain ⟨⟨⟨⟨h1, h2⟩, h3⟩, h4⟩, h5⟩ := h
  simp only [oEq, deref_nrr h1, deref_nrr h2, h3, h4, h5, Bool.and_self, if_true]
theorem eq_diff {x y : D} {s : Store} (h : (nrr x && nrr y && x.ok && y.ok && !x.eqv y) = true) : oEq s x y = some (.bl false) := by
  simp only [Bool.and_eq_true, Bool.not_eq_true'] at h
  obtain ⟨⟨⟨⟨h1, h2⟩, h3⟩, h4⟩, h5⟩ := h
  simp only [oEq, deref_nrr h1, deref_nrr h2, h3, h4, h5, Bool.and_self, if_true]
theorem sb_for_nil {g : Tg} {A : Bk} {en : En} {s : Store} {N : En → Store → Prop} {R : D → Store → Prop} {X : XS} (h : N en s) : SatB (forL g A [] en s) N R X := h
theorem sb_for_cons {g : Tg} {A : Bk} {d : D} {ds : List D} {en en1 : En} {s : Store} {N : En → Store → Prop} {R : D → Store → Prop} {X : XS} (e : g.put d en = some en1) (h : SatB (A en1 s) (fun en2 t => SatB (forL g A ds en2 t) N R X) R X) : SatB (forL g A (d :: ds) en s) N R X := by
  simp only [forL, e]
  revert h
  generalize A en1 s = o
  cases o <;> first | exact fun h => h | exact fun h => h.elim
theorem g_sb_for_cons {g : Tg} {A : Bk} {d : D} {ds : List D} {en : En} {s : Store} {N : En → Store → Prop} {R : D → Store → Prop} {X : XS} (h : SatB (forL g A (d :: ds) en s) N R X) : SatB (forL g A (d :: ds) en s) N R X := h
/-- a comprehension over typed items -/
theorem sa_compT {α : Type} {g : Tg} {a : Ex} {en : En} {s : Store} {PL : List D → Store → Prop} {X : XP} {xs : List α} (item f : α → D) (hl : xs.length ≤ BIG) (hs : ∀ x ∈ xs, ∃ en1, g.put (item x) en = some en1 ∧ Sat (a en1 s) (fun y v => y = f x ∧ v = s) X) (hN : PL (xs.map f) s) : Sat (compL g tYes a en (xs.map item) [] s) PL X := by
  suffices H : ∀ (es : List α) (acc : List D), (∀ d ∈ es, d ∈ xs) → acc.length + es.length ≤ BIG → PL (acc ++ es.map f) s → Sat (compL g tYes a en (es.map item) acc s) PL X from H xs [] (fun _ h => h) (by simpa using hl) (by simpa using hN)
  intro es
  induction es with
  | nil => intro acc _ _ h; simpa [compL, Sat] using h
  | cons d es ih =>
    intro acc hm hl h
    obtain ⟨en1, e, h1⟩ := hs d (hm d (by simp))
    simp only [List.length_cons] at hl
    simp only [List.map_cons, compL, e, tYes, Res.bind, if_true]
    refine sat_bind (h1.imp fun y v h2 => ?_)
    obtain ⟨rfl, rfl⟩ := h2
    rw [if_pos (by omega)]
    exact ih (acc ++ [f d]) (fun x hx => hm x (List.mem_cons_of_mem _ hx)) (by simp only [List.length_append, List.length_cons, List.length_nil]; omega) (by simpa using h)
theorem g_ex_slc {d : D} {Q : List D → Prop} (h : ∃ xs, (d = .lst xs ∨ d = .scr xs) ∧ Q xs) : ∃ xs, (d = .lst xs ∨ d = .scr xs) ∧ Q xs := h
theorem ex_slc {d : D} {xs : List D} {Q : List D → Prop} (e : d = .lst xs ∨ d = .scr xs) (k : Q xs) : ∃ xs, (d = .lst xs ∨ d = .scr xs) ∧ Q xs := ⟨xs, e, k⟩
theorem sa_cl_nil {g : Tg} {t : Tx} {a : Ex} {en : En} {acc : List D} {s : Store} {PL : List D → Store → Prop} {X : XP} (h : PL acc s) : Sat (compL g t a en [] acc s) PL X := h
theorem sa_cl_cons {g : Tg} {a : Ex} {d : D} {ds acc : List D} {en en1 : En} {s : Store} {PL : List D → Store → Prop} {X : XP} (e : g.put d en = some en1) (hl : acc.length < BIG) (h : Sat (a en1 s) (fun y v => Sat (compL g tYes a en ds (acc ++ [y]) v) PL X) X) : Sat (compL g tYes a en (d :: ds) acc s) PL X := by
  simp only [compL, e, tYes, Res.bind, if_true]
  exact sat_bind (h.imp fun y v h => by rw [if_pos hl]; exact h)
theorem g_sa_cl_cons {g : Tg} {a : Ex} {d : D} {ds acc : List D} {en : En} {s : Store} {PL : List D → Store → Prop} {X : XP} (h : Sat (compL g tYes a en (d :: ds) acc s) PL X) : Sat (compL g tYes a en (d :: ds) acc s) PL X := h
theorem sa_eqI {f : List D → Store → Res D} {l : RfT} {neg : Bool} {a b : Ex} {en : En} {s : Store} {P : D → Store → Prop} {X : XP} (h : Sat (a en s) (fun x t => Sat (b en t) (fun y u => ∃ c c' j, insOf u x = some c ∧ insOf u y = some c' ∧ rfL l c c' = some j ∧ Sat (f (if j then [y, x] else [x, y]) u) (fun z v => ∃ r, z = .bl r ∧ P (.bl (neg ^^ r)) v) NoX) X) X) : Sat (xEqI (fun _ => f) 0 l neg a b en s) P X :=
  sat_bind (h.imp fun x t h1 => sat_bind (h1.imp fun y u h2 => by
    obtain ⟨c, c', j, e1, e2, e3, h9⟩ := h2
    simp only [e1, e2, e3]
    revert h9
    generalize f (if j then [y, x] else [x, y]) u = r
    cases r with
    | ok z v => rintro ⟨r, rfl, h⟩; exact h
    | exc c f s => exact fun h => h.elim
    | stuck => exact fun h => h))
end Il
end
section
set_option Elab.async false
set_option linter.all false
set_option maxRecDepth 100000
open Il PySem W
local macro_rules | `(tactic| walk_at "len") => `(tactic| first | decide | with_reducible assumption | omega | (simp only [List.length_map, List.length_cons, List.length_nil, List.length_append, BIG] at *; omega) | (focus (simp; done)))
local macro_rules | `(tactic| walk_at "op") => `(tactic| first | with_reducible assumption | (with_reducible exact pr_eq_i) | (with_reducible exact pr_ne_i) | ((with_reducible refine ne_same ?_); (focus decide +kernel)) | ((with_reducible refine eq_same ?_); (focus decide +kernel)) | ((with_reducible refine ne_diff ?_); (focus decide +kernel)) | ((with_reducible refine eq_diff ?_); (focus decide +kernel)) | rfl | ((with_reducible refine pr_mul_l ?_); (walk_at "len")) | ((with_reducible refine pr_mulB_l ?_); (walk_at "len")) | ((with_reducible refine pr_mul_r ?_); (walk_at "len")) | ((with_reducible refine pr_mod ?_); (walk_at "len")) | ((with_reducible refine pr_div ?_ ?_); (walk_at "len"); (walk_at "len")) | ((with_reducible refine pr_addT ?_); (walk_at "len")) | ((with_reducible refine pr_cat ?_); (walk_at "len")))
local macro_rules | `(tactic| walk_at "fn") => `(tactic| fail)
local macro_rules | `(tactic| walk_at "st") => `(tactic| first | with_reducible assumption | rfl)
local macro_rules | `(tactic| walk_at "tr") => `(tactic| first
  | with_reducible assumption
  | (simp only [decide_eq_true_eq, decide_eq_false_iff_not, beq_iff_eq, beq_eq_false_iff_ne, bne_iff_ne, Bool.not_eq_true', Bool.not_eq_false', ne_eq]; first | omega | with_reducible assumption))
local macro_rules | `(tactic| walk_at "s1") => `(tactic| first
  | ((with_reducible refine sa_op2 ?_))
  | ((with_reducible refine g_sa_rd ?_); (with_reducible apply sa_rd); (first | rfl | with_reducible assumption))
  | ((with_reducible refine sa_c ?_))
  | ((with_reducible refine g_ex1 ?_); (with_reducible apply ex1); (focus walk_at "op"))
  | ((with_reducible refine sa_op1 ?_))
  | ((with_reducible refine g_sa_var ?_); (with_reducible apply sa_var); (first | rfl | with_reducible assumption))
  | ((with_reducible refine sa_lcons ?_))
  | ((with_reducible refine sa_lnil ?_))
  | ((with_reducible refine sb_seq ?_))
  | ((with_reducible refine sa_call ?_))
  | walk_at "fn"
  | ((with_reducible refine sa_tup ?_))
  | ((with_reducible refine an_le ?_ ?_); (focus walk_at "len"))
  | ((with_reducible refine sa_tof ?_))
  | ((with_reducible refine br_t ?_ ?_); rfl)
  | ((with_reducible refine br_f ?_ ?_); rfl)
  | ((with_reducible refine br_t ?_ ?_); (focus walk_at "tr"))
  | ((with_reducible refine br_f ?_ ?_); (focus walk_at "tr"))
  | ((with_reducible refine sb_nil ?_))
  | ((with_reducible refine sb_if ?_))
  | ((with_reducible refine sb_asg ?_))
  | ((with_reducible refine sb_ret ?_))
  | ((with_reducible refine sb_own ?_ ?_); (exact Nat.le_of_ble_eq_true rfl))
  | ((with_reducible refine g_sb_app ?_); (with_reducible apply sb_app); (first | rfl | with_reducible assumption); (focus walk_at "len"))
  | ((with_reducible refine g_sb_frz ?_); (with_reducible apply sb_frz); (first | rfl | with_reducible assumption))
  | ((with_reducible refine g_sb_frz0 ?_); (with_reducible apply sb_frz0); (first | rfl | with_reducible assumption))
  | ((with_reducible refine g_ex_fld ?_); (with_reducible apply ex_fld); rfl; (focus walk_at "st"); (focus walk_at "st"); (focus walk_at "st"))
  | ((with_reducible refine g_ex_meth ?_); (with_reducible apply ex_meth); rfl; (focus walk_at "st"); (focus walk_at "st"))
  | ((with_reducible refine g_ex_fset ?_); (with_reducible apply ex_fset); rfl; (focus walk_at "st"); (focus walk_at "st"))
  | ((with_reducible refine g_ex_item ?_); (with_reducible apply ex_item); rfl; rfl; (focus walk_at "st"); (focus walk_at "st"))
  | ((with_reducible refine g_ex_appR ?_); (with_reducible apply ex_appR); rfl; (focus walk_at "st"))
  | ((with_reducible refine g_ex_appR2 ?_); (with_reducible apply ex_appR2); (focus walk_at "st"); (focus walk_at "len"))
  | ((with_reducible refine g_ex_popR ?_); (with_reducible apply ex_popR); rfl; (focus walk_at "st"); (focus walk_at "len"))
  | ((with_reducible refine g_ex_pop0R ?_); (with_reducible apply ex_pop0R); rfl; (focus walk_at "st"))
  | ((with_reducible refine g_ex_slc ?_); (with_reducible apply ex_slc); (first | exact .inl rfl | exact .inr rfl))
  | ((with_reducible refine g_ex_zip ?_); (with_reducible apply ex_zip); rfl)
  | ((with_reducible refine g_ex_izip ?_); (with_reducible apply ex_izip); (first | exact .inl rfl | exact .inr rfl))
  | ((with_reducible refine g_ex_seq ?_); (with_reducible apply ex_seq); (first | exact .inl rfl | exact .inr rfl))
  | ((with_reducible refine g_ex_range2 ?_); (with_reducible apply ex_range2); rfl; rfl; (focus walk_at "len"))
  | ((with_reducible refine g_ex_range1 ?_); (with_reducible apply ex_range1); rfl; (focus walk_at "len"))
  | ((with_reducible refine g_ex_str2 ?_); (with_reducible apply ex_str2); rfl; (focus walk_at "len"))
  | ((with_reducible refine an_lt ?_ ?_); (focus walk_at "len"))
  | ((with_reducible refine an_bnd ?_ ?_); (focus walk_at "len"))
  | ((with_reducible refine an_ne ?_ ?_); (focus walk_at "len"))
  | ((with_reducible refine an_isL ?_ ?_); (focus first | rfl | (simp [isL, deref, *]; done)))
  | ((with_reducible refine an_non ?_ ?_); rfl)
  | ((with_reducible refine sb_drop ?_))
  | ((with_reducible refine sb_for ?_))
  | ((with_reducible refine sb_item ?_))
  | ((with_reducible refine sb_asgT ?_))
  | ((with_reducible refine sb_par ?_))
  | ((with_reducible refine g_sb_ext ?_); (with_reducible apply sb_ext); (first | rfl | with_reducible assumption))
  | ((with_reducible refine g_sb_pop ?_); (with_reducible apply sb_pop); (first | rfl | with_reducible assumption); (focus walk_at "len"))
  | ((with_reducible refine sb_raise0 ?_))
  | ((with_reducible refine sb_raise1 ?_))
  | ((with_reducible refine sb_fset ?_))
  | ((with_reducible refine sb_appR ?_))
  | ((with_reducible refine sb_popR ?_))
  | ((with_reducible refine sb_pop0R ?_))
  | ((with_reducible refine sb_try ?_))
  | ((with_reducible refine sa_lst ?_))
  | ((with_reducible refine sa_disp ?_))
  | ((with_reducible refine sa_lop1 ?_))
  | ((with_reducible refine sa_lop2 ?_))
  | ((with_reducible refine sa_pno ?_))
  | ((with_reducible refine sa_psome ?_))
  | ((with_reducible refine sa_tand ?_))
  | ((with_reducible refine sa_tor ?_))
  | ((with_reducible refine sa_tnot ?_))
  | ((with_reducible refine sa_and ?_))
  | ((with_reducible refine sa_or ?_))
  | ((with_reducible refine sa_not ?_))
  | ((with_reducible refine sa_if ?_))
  | ((with_reducible refine sa_lif ?_))
  | ((with_reducible refine sa_chain ?_))
  | ((with_reducible refine sa_slice ?_))
  | ((with_reducible refine sa_slT ?_))
  | ((with_reducible refine sa_slS ?_))
  | ((with_reducible refine sa_meth ?_))
  | ((with_reducible refine sa_new ?_))
  | ((with_reducible refine sa_fld ?_))
  | ((with_reducible refine sa_cell ?_))
  | ((with_reducible refine sa_dct0 ?_))
  | ((with_reducible refine sa_bm ?_))
  | ((with_reducible refine sa_split ?_))
  | ((with_reducible refine sa_zipT ?_))
  | ((with_reducible refine sa_izip ?_))
  | ((with_reducible refine sa_iseq ?_))
  | ((with_reducible refine sa_range1 ?_))
  | ((with_reducible refine sa_range2 ?_))
  | ((with_reducible refine sa_lrd ?_))
  | ((with_reducible refine sa_comp ?_))
  | ((with_reducible refine sb_for_nil ?_))
  | ((with_reducible refine sa_cl_nil ?_))
  | ((with_reducible refine g_sa_cl_cons ?_); (with_reducible apply sa_cl_cons); rfl; (focus walk_at "len"))
  | ((with_reducible refine sa_eqI ?_))
  | ((with_reducible refine g_sb_for_cons ?_); (with_reducible apply sb_for_cons); rfl)
  | ((with_reducible refine g_sa_lam ?_); (with_reducible apply sa_lam); (walk_at "st"))
  | ((with_reducible refine g_sa_act ?_); (with_reducible apply sa_act); rfl)
  | ((with_reducible refine g_sa_isE ?_); (with_reducible apply sa_isE); rfl; rfl)
  | ((with_reducible refine g_sa_fldE ?_); (with_reducible apply sa_fldE); rfl)
  | ((with_reducible refine g_sa_rdo ?_); (with_reducible apply sa_rdo); (first | rfl | with_reducible assumption))
  | ((with_reducible refine sa_kn ?_))
  | ((with_reducible refine sa_ke ?_))
  | ((with_reducible refine sa_kl ?_))
  | ((with_reducible refine sa_run ?_))
  | ((with_reducible refine sa_runK ?_)))
local macro_rules | `(tactic| walk_at "go") => `(tactic| repeat (walk_at "s1"))
section
set_option Elab.async false
set_option linter.all false
set_option maxRecDepth 100000
set_option maxHeartbeats 1000000
/-! What is kept of the store; small judges, as rules. -/
namespace W
open Il PySem
open G (edg)

abbrev kCorners : Str := (PySem.Str.ofString "corners")
abbrev kLooked : Str := (PySem.Str.ofString "looked")
abbrev kPlaced : Str := (PySem.Str.ofString "placed")
abbrev kNormal : Str := (PySem.Str.ofString "normal")
class HK where
  B : Nat
  Hd : Store → Prop
  two : 2 ≤ B
  app : ∀ {s : Store}, Hd s → ∀ (o : O), Hd (s ++ [o])
  set : ∀ {s : Store}, Hd s → ∀ {n : Nat}, B ≤ n → ∀ (o : O), Hd (s.set n o)
  len : ∀ {s : Store}, Hd s → B ≤ s.length
  tab : ∀ {s : Store}, Hd s → s[(0 : Nat)]? = some (.tab 1000 lamQ)
theorem pairD_inj {p q : P} (h : pairD p = pairD q) : p = q := by
  unfold pairD at h
  simp only [D.tup.injEq, List.cons.injEq, D.int.injEq, and_true] at h
  exact Prod.ext h.1 h.2
theorem pairsD_inj : ∀ {C C' : List P}, C.map pairD = C'.map pairD → C = C'
  | [], [], _ => rfl
  | [], _ :: _, h => by cases h
  | _ :: _, [], h => by cases h
  | a :: C, b :: C', h => by
    simp only [List.map_cons, List.cons.injEq] at h
    rw [pairD_inj h.1, pairsD_inj h.2]
theorem tupP_inj {C C' : List P} (h : tupP C = tupP C') : C = C' := by
  unfold tupP at h
  rw [D.tup.injEq] at h
  exact pairsD_inj h
/-- an object that is no dict -/
def notDct : O → Bool
  | .dct _ => false
  | _ => true
/-- an object that is no shape -/
def plainO : O → Bool
  | .ins _ fs => fs.length != 2
  | _ => true
section
variable [HK]
/-- what a shape keeps is right -/
structure LkOk (s : Store) (C : List P) (kvs : List (D × D)) : Prop where
  plc : ∀ d, dlook (.inr kPlaced) kvs = some d → ∃ a b, d = .tup [.ref a, .ref b] ∧ HK.B ≤ a ∧ HK.B ≤ b ∧ s[a]? = some (.lst ((insL C).map pairD)) ∧ s[b]? = some (.lst ((rimL C).map pairD))
  nrm : ∀ d, dlook (.inr kNormal) kvs = some d → d = normD C
  len : kvs.length ≤ (if (dlook (.inr kPlaced) kvs).isSome then 1 else 0) + (if (dlook (.inr kNormal) kvs).isSome then 1 else 0)
theorem lk_nil (s : Store) (C : List P) : LkOk s C [] := ⟨nofun, nofun, by simp⟩
abbrev shpO (c n : Nat) (C : List P) : O := .ins c [(kCorners, tupP C), (kLooked, .ref (n + 1))]
def Good (s : Store) : Prop := ∀ n c C, HK.B ≤ n → s[n]? = some (shpO c n C) → ∃ kvs, s[n + 1]? = some (.dct kvs) ∧ LkOk s C kvs
theorem LkOk.mono {s t : Store} {C : List P} {kvs : List (D × D)} (h : LkOk s C kvs) (k : ∀ n xs, HK.B ≤ n → s[n]? = some (.lst xs) → t[n]? = some (.lst xs)) : LkOk t C kvs :=
  ⟨fun d e => by
    obtain ⟨a, b, e1, e2, e3, e4, e5⟩ := h.plc d e
    exact ⟨a, b, e1, e2, e3, k _ _ e2 e4, k _ _ e3 e5⟩, h.nrm, h.len⟩
/-- what stood stays, what is new is no shape -/
theorem Good.ext {s t : Store} (h : Good s) (h1 : ∀ n, HK.B ≤ n → n < s.length → t[n]? = s[n]?) (h2 : ∀ n o, s.length ≤ n → t[n]? = some o → plainO o = true) : Good t := by
  intro n c C hn e
  by_cases hl : n < s.length
  · rw [h1 n hn hl] at e
    obtain ⟨kvs, e1, e2⟩ := h n c C hn e
    have hl1 := (List.getElem?_eq_some_iff.mp e1).1
    exact ⟨kvs, by rw [h1 _ (by omega) hl1]; exact e1, e2.mono fun m xs hm hx => by rw [h1 m hm (List.getElem?_eq_some_iff.mp hx).1]; exact hx⟩
  · have := h2 n _ (by omega) e
    simp [plainO] at this
theorem Good.same {s t : Store} (h : Good s) (h1 : ∀ n, HK.B ≤ n → t[n]? = s[n]?) : Good t := by
  intro n c C hn e
  rw [h1 n hn] at e
  obtain ⟨kvs, e1, e2⟩ := h n c C hn e
  exact ⟨kvs, by rw [h1 _ (by omega)]; exact e1, e2.mono fun m xs hm hx => by rw [h1 m hm]; exact hx⟩
theorem Good.app {s : Store} (h : Good s) {o : O} (ho : plainO o = true) : Good (s ++ [o]) := h.ext (fun n _ hl => List.getElem?_append_left hl) fun n o' hl e => by
  rw [List.getElem?_append_right hl] at e
  cases hk : n - s.length with
  | zero => rw [hk] at e; cases e; exact ho
  | succ k => rw [hk] at e; cases e
theorem good_short {s : Store} (h : s.length ≤ HK.B) : Good s := fun n c C hn e => by
  have := (List.getElem?_eq_some_iff.mp e).1
  omega
/-- a new shape -/
theorem Good.shape {s : Store} (h : Good s) (c : Nat) (C : List P) : Good (s ++ [shpO c s.length C, .dct []]) := by
  intro n c' C' hn e
  by_cases hl : n < s.length
  · rw [List.getElem?_append_left hl] at e
    obtain ⟨kvs, e1, e2⟩ := h n c' C' hn e
    have hl1 := (List.getElem?_eq_some_iff.mp e1).1
    exact ⟨kvs, by rw [List.getElem?_append_left hl1]; exact e1, e2.mono fun m xs hm hx => by rw [List.getElem?_append_left (List.getElem?_eq_some_iff.mp hx).1]; exact hx⟩
  · rw [List.getElem?_append_right (by omega)] at e
    match hk : n - s.length, e with
    | 0, e =>
      have : n = s.length := by omega
      subst this
      exact ⟨[], by rw [List.getElem?_append_right (by omega), Nat.add_sub_cancel_left]; rfl, lk_nil _ _⟩
    | 1, e => cases e
    | k + 2, e => cases e
/-- a list that is no shape's -/
theorem Good.set {s : Store} (h : Good s) {n : Nat} {xs ys : List D} (e : s[n]? = some (.lst xs)) (hx : ∃ d ∈ xs, ∀ p : P, d ≠ pairD p) : Good (s.set n (.lst ys)) := by
  have hl := (List.getElem?_eq_some_iff.mp e).1
  intro m c C hm em
  have hne : n ≠ m := fun z => by subst z; rw [List.getElem?_set_self hl] at em; cases em
  rw [List.getElem?_set_ne hne] at em
  obtain ⟨kvs, e1, e2⟩ := h m c C hm em
  have hne2 : n ≠ m + 1 := fun z => by rw [← z, e] at e1; cases e1
  refine ⟨kvs, by rw [List.getElem?_set_ne hne2]; exact e1, ⟨fun d ed => ?_, e2.nrm, e2.len⟩⟩
  obtain ⟨a, b, q1, q2, q3, q4, q5⟩ := e2.plc d ed
  have no : ∀ k (ps : List P), s[k]? = some (.lst (ps.map pairD)) → n ≠ k := fun k ps hk z => by
    subst z
    rw [e] at hk
    cases hk
    obtain ⟨d, hd, hp⟩ := hx
    obtain ⟨p, _, rfl⟩ := List.mem_map.mp hd
    exact hp p rfl
  exact ⟨a, b, q1, q2, q3, by rw [List.getElem?_set_ne (no _ _ q4)]; exact q4, by rw [List.getElem?_set_ne (no _ _ q5)]; exact q5⟩
/-- what a shape keeps is changed -/
theorem Good.look {s : Store} (h : Good s) {n c : Nat} {C : List P} (hn : HK.B ≤ n) (e : s[n]? = some (shpO c n C)) {kvs : List (D × D)} (k : LkOk s C kvs) : Good (s.set (n + 1) (.dct kvs)) := by
  obtain ⟨kv0, e1, e2⟩ := h n c C hn e
  have hl := (List.getElem?_eq_some_iff.mp e1).1
  have keep : ∀ m xs, HK.B ≤ m → s[m]? = some (.lst xs) → (s.set (n + 1) (.dct kvs))[m]? = some (.lst xs) := fun m xs hm hx => by
    rw [List.getElem?_set_ne (fun z => by rw [← z, e1] at hx; cases hx)]; exact hx
  intro m c' C' hm em
  have hne : n + 1 ≠ m := fun z => by subst z; rw [List.getElem?_set_self hl] at em; cases em
  rw [List.getElem?_set_ne hne] at em
  by_cases hmn : m = n
  · subst hmn
    rw [e] at em
    simp only [Option.some.injEq, O.ins.injEq, List.cons.injEq, Prod.mk.injEq, true_and, and_true] at em
    have hC := tupP_inj em.2
    subst hC
    exact ⟨kvs, List.getElem?_set_self hl, k.mono keep⟩
  · obtain ⟨kv, q1, q2⟩ := h m c' C' hm em
    exact ⟨kv, by rw [List.getElem?_set_ne (by omega)]; exact q1, q2.mono keep⟩
/-- the law's hand is in the store, and what shapes keep is right -/
def Hd (s : Store) : Prop := HK.Hd s ∧ Good s
/-- what is kept: all but the hand, and dicts -/
structure Gr (s t : Store) : Prop where
  len : s.length ≤ t.length
  get : ∀ n o, HK.B ≤ n → s[n]? = some o → notDct o = true → t[n]? = some o
  dct : ∀ n kvs, HK.B ≤ n → s[n]? = some (.dct kvs) → ∃ kvs', t[n]? = some (.dct kvs')
theorem Gr.of {s t : Store} (hl : s.length ≤ t.length) (h : ∀ n, HK.B ≤ n → n < s.length → t[n]? = s[n]?) : Gr s t :=
  ⟨hl, fun n o hn e _ => by rw [h n hn (List.getElem?_eq_some_iff.mp e).1]; exact e, fun n kvs hn e => ⟨kvs, by rw [h n hn (List.getElem?_eq_some_iff.mp e).1]; exact e⟩⟩
theorem Gr.rfl {s : Store} : Gr s s := .of (Nat.le_refl _) fun _ _ _ => .refl _
theorem Gr.trans {s t u : Store} (h : Gr s t) (k : Gr t u) : Gr s u := ⟨Nat.le_trans h.len k.len, fun n o h1 h2 h3 => k.get n o h1 (h.get n o h1 h2 h3) h3, fun n kvs h1 h2 => by
  obtain ⟨kv, e⟩ := h.dct n kvs h1 h2
  exact k.dct n kv h1 e⟩
theorem Gr.some {s t : Store} (h : Gr s t) {n : Nat} (hn : HK.B ≤ n) {o : O} (e : s[n]? = .some o) (hd : notDct o = true := by rfl) : t[n]? = .some o := h.get n o hn e hd
theorem Hd.tab {s : Store} (h : Hd s) : s[(0 : Nat)]? = some (.tab 1000 lamQ) := HK.tab h.1
theorem Hd.app {s : Store} (h : Hd s) (o : O) (ho : plainO o = true := by rfl) : Hd (s ++ [o]) := ⟨HK.app h.1 o, h.2.app ho⟩
theorem Hd.len {s : Store} (h : Hd s) : HK.B ≤ s.length := HK.len h.1
theorem gr_app (s : Store) (o : O) : Gr s (s ++ [o]) := .of (by simp) fun n _ hn => List.getElem?_append_left hn
theorem Hd.look {s : Store} (h : Hd s) {n c : Nat} {C : List P} (hn : HK.B ≤ n) (e : s[n]? = some (shpO c n C)) {kvs : List (D × D)} (k : LkOk s C kvs) : Hd (s.set (n + 1) (.dct kvs)) ∧ Gr s (s.set (n + 1) (.dct kvs)) := by
  obtain ⟨kv0, e1, e2⟩ := h.2 n c C hn e
  have hl := (List.getElem?_eq_some_iff.mp e1).1
  refine ⟨⟨HK.set h.1 (by omega) _, h.2.look hn e k⟩, ⟨by simp, fun m o hm e2 e3 => ?_, fun m kv hm e2 => ?_⟩⟩
  · rw [List.getElem?_set_ne (fun z => by rw [← z, e1] at e2; cases e2; cases e3)]; exact e2
  · by_cases z : n + 1 = m
    · subst z; exact ⟨kvs, List.getElem?_set_self hl⟩
    · exact ⟨kv, by rw [List.getElem?_set_ne z]; exact e2⟩
end
theorem isdot_sat {d : D} (h : itemsNR d = true) {s : Store} {P : D → Store → Prop} {X : XP} (k : P (.bl (isDot d)) s) : Sat (m_is_dot [d] s) P X := sat_of (isdot_ok h s) k
theorem istuple_sat {d : D} (h : notRef d = true) {lo hi : Int} {s : Store} {P : D → Store → Prop} {X : XP} (k : P (.bl (tupLen lo hi d)) s) : Sat (m_is_tuple [d, .int lo, .int hi] s) P X := sat_of (istuple_ok h lo hi s) k
theorem isint_sat {d : D} (h : notRef d = true) {s : Store} {P : D → Store → Prop} {X : XP} (k : P (.bl (isI d)) s) : Sat (m_is_integer [d] s) P X := sat_of (isint_ok h s) k
end W
end
section
set_option Elab.async false
set_option linter.all false
set_option maxRecDepth 100000
set_option maxHeartbeats 4000000
/-! half hulls and hulls, as plain functions tell them -/
namespace W
open Il PySem
open G (tn popW half hullL lo up)
def smallP (p : P) : Prop := p.1.natAbs < 2 ^ 62 ∧ p.2.natAbs < 2 ^ 62
theorem turn_ok {a b c : P} (ha : smallP a) (hb : smallP b) (hc : smallP c) (s : Store) : m_turn_of [pairD a, pairD b, pairD c] s = .ok (.int (tn a b c)) s := by
  obtain ⟨a1, a2⟩ := a
  obtain ⟨b1, b2⟩ := b
  obtain ⟨c1, c2⟩ := c
  unfold smallP at *
  dsimp only at ha hb hc
  have h1 : (b1 - a1).natAbs < 2 ^ 64 := by omega
  have h2 : (b2 - a2).natAbs < 2 ^ 64 := by omega
  simp [m_turn_of, b_turn_of, runB, startE, sSeq, sRet, ofRes, xOp2, xRd, xC, Res.bind, Res.ofOpt, pairD, oIx, deref, atI, ixN, oSub, oMul, h1, h2, Out.seq, tn]
theorem popW_len : ∀ (st : List P) (p : P), (popW st p).length ≤ st.length
  | [], _ => by simp [popW]
  | [a], _ => by simp [popW]
  | b :: a :: r, p => by
    have := popW_len (a :: r) p
    simp only [popW]
    split
    · simp only [List.length_cons] at *; omega
    · exact Nat.le_refl _
theorem popW_mem {x : P} : ∀ (st : List P) (p : P), x ∈ popW st p → x ∈ st
  | [], _ => by simp [popW]
  | [a], _ => by simp [popW]
  | b :: a :: r, p => by
    have := popW_mem (x := x) (a :: r) p
    simp only [popW]
    split
    · intro h; exact List.mem_cons_of_mem _ (this h)
    · exact id
def hullWhT : Tx := (tAnd (tOf (xOp2 oGt (xOp1 oLen (xRd 1)) (xC (.int 1)))) (tOf (xOp2 oLe (xCall (fun _ => m_turn_of) 0 (lCons (xOp2 oIx (xRd 1) (xOp1 oNeg (xC (.int 2)))) (lCons (xOp2 oIx (xRd 1) (xOp1 oNeg (xC (.int 1)))) (lCons (xVar 2) lNil)))) (xC (.int 0)))))
def enH (x : Option Sl) (st : List P) (p : P) : En := [x, some (.own (st.reverse.map pairD)), some (.fro (pairD p))]
theorem whT_short {x : Option Sl} {st : List P} {p : P} (hs : st.length ≤ 1) (s : Store) : hullWhT (enH x st p) s = .ok false s := by
  have h1 : ¬ (1 : Int) < st.length := by omega
  simp [hullWhT, enH, tAnd, tOf, xOp2, xOp1, xRd, xC, Res.bind, Res.ofOpt, oLen, deref, oGt, h1]
theorem at_end2 {l : List D} {a b : D} : oIx s (.lst (l ++ [a, b])) (.int (-2)) = some a := by
  have h1 : ¬ ((0 : Int) ≤ -2) := by decide
  have h2 : -(((l.length + 2 : Nat)) : Int) ≤ -2 := by omega
  have h3 : (-2 + ((l.length + 2 : Nat) : Int)).toNat = l.length := by omega
  simp only [oIx, deref, atI, ixN, List.length_append, List.length_cons, List.length_nil]
  rw [if_neg h1, if_pos (by omega)]
  simp only [Option.bind_some]
  have h4 : (-2 + ((l.length + (0 + 1 + 1) : Nat) : Int)).toNat = l.length := by omega
  rw [h4]
  simp
theorem at_end1 {l : List D} {a b : D} : oIx s (.lst (l ++ [a, b])) (.int (-1)) = some b := by
  have h1 : ¬ ((0 : Int) ≤ -1) := by decide
  simp only [oIx, deref, atI, ixN, List.length_append, List.length_cons, List.length_nil]
  rw [if_neg h1, if_pos (by omega)]
  simp only [Option.bind_some]
  have h4 : (-1 + ((l.length + (0 + 1 + 1) : Nat) : Int)).toNat = l.length + 1 := by omega
  rw [h4]
  simp
theorem whT_long {x : Option Sl} {r : List P} {a b p : P} (ha : smallP a) (hb : smallP b) (hp : smallP p) (s : Store) : hullWhT (enH x (b :: a :: r) p) s = .ok (decide (tn a b p ≤ 0)) s := by
  have e : ((b :: a :: r).reverse.map pairD) = (r.reverse.map pairD) ++ [pairD a, pairD b] := by simp
  have h1 : (1 : Int) < ((r.reverse.map pairD) ++ [pairD a, pairD b]).length := by simp; omega
  have e2 := turn_ok ha hb hp s
  unfold enH
  rw [e]
  simp only [hullWhT, tAnd, tOf, xOp2, xOp1, xRd, xVar, xC, Res.bind, Res.ofOpt, oLen, deref, oGt, List.getElem?_cons_succ, List.getElem?_cons_zero, h1, decide_true, if_true, xCall, lCons, lNil, oNeg, at_end2, at_end1, e2, oLe]
theorem wh_ok {x : Option Sl} {p : P} (hp : smallP p) (s : Store) : ∀ (n : Nat) (st : List P), st.length < n → (∀ a ∈ st, smallP a) → whileN hullWhT (sSeq (sPop 1) sNil) n (enH x st p) s = .next (enH x (popW st p) p) s := by
  intro n
  induction n with
  | zero => intro st h; omega
  | succ n ih =>
    intro st h hm
    match st, h, hm with
    | [], _, _ => simp only [whileN, whT_short (st := []) (p := p) (x := x) (by simp) s, ofRes, popW]; rfl
    | [a], _, _ => simp only [whileN, whT_short (st := [a]) (p := p) (x := x) (by simp) s, ofRes, popW]; rfl
    | b :: a :: r, h, hm =>
      have ha : smallP a := hm a (by simp)
      have hb : smallP b := hm b (by simp)
      simp only [whileN, whT_long ha hb hp s, ofRes]
      by_cases c : tn a b p ≤ 0
      · have e : (sSeq (sPop 1) sNil) (enH x (b :: a :: r) p) s = .next (enH x (a :: r) p) s := by
          simp [sSeq, sPop, enH, sNil, Out.seq]
        simp only [c, decide_true, if_true, e]
        rw [ih (a :: r) (by simp only [List.length_cons] at *; omega) (fun y hy => hm y (List.mem_cons_of_mem _ hy))]
        simp only [popW, c, if_true]
      · simp only [c, decide_false, Bool.false_eq_true, if_false, popW]
def hullB : Bk := (sSeq (sWhile 100000 hullWhT (sSeq (sPop 1) sNil)) (sSeq (sApp 1 (xVar 2)) sNil))
theorem hullB_ok {x y : Option Sl} {st : List P} {p : P} (hp : smallP p) (hm : ∀ a ∈ st, smallP a) (hl : st.length < 100000) (s : Store) : hullB (enH x st p) s = .next (enH x (p :: popW st p) p) s := by
  have h1 : (popW st p).length < BIG := Nat.lt_of_le_of_lt (popW_len st p) (Nat.lt_trans hl (by decide))
  simp only [hullB, sSeq, sWhile, wh_ok hp s 100000 st hl hm, Out.seq]
  simp [sApp, enH, ofRes, xVar, sNil, h1, Out.seq]
theorem forH {x : Option Sl} (s : Store) : ∀ (ps st : List P) (q : Option Sl), (∀ a ∈ ps, smallP a) → (∀ a ∈ st, smallP a) → ps.length + st.length < 100000 → ∃ q', forL (.nm 2) hullB (ps.map pairD) [x, some (.own (st.reverse.map pairD)), q] s = .next [x, some (.own ((ps.foldl (fun st p => p :: popW st p) st).reverse.map pairD)), q'] s
  | [], st, q, _, _, _ => ⟨q, rfl⟩
  | p :: ps, st, q, h1, h2, h3 => by
    have e := hullB_ok (x := x) (y := q) (h1 p (by simp)) h2 (by simp only [List.length_cons] at h3; omega) s
    have hl := popW_len st p
    obtain ⟨q', e2⟩ := forH (x := x) s ps (p :: popW st p) (some (.fro (pairD p))) (fun a ha => h1 a (List.mem_cons_of_mem _ ha))
      (fun a ha => by
        rcases List.mem_cons.mp ha with e | e
        · rw [e]; exact h1 p (by simp)
        · exact h2 a (popW_mem _ _ e)) (by simp only [List.length_cons] at *; omega)
    refine ⟨q', ?_⟩
    simp only [List.map_cons, forL, Tg.put]
    have e1 : ([x, some (Sl.own (st.reverse.map pairD)), q] : En).set 2 (some (.fro (pairD p))) = enH x st p := rfl
    rw [e1, e]
    exact e2
theorem cut_last (l : List D) (a : D) : cut (l ++ [a]) none (some (-1)) = l := by
  have h3 : (-1 + ((l.length : Int) + 1)).toNat = l.length := by omega
  simp [cut, sIx, h3]
theorem half_ok {ps : List P} (hp : ∀ a ∈ ps, smallP a) (hl : ps.length < 10000) (s : Store) : m_half_hull [.lst (ps.map pairD)] s = .ok (.lst ((half ps).map pairD)) s := by
  obtain ⟨q', e⟩ := forH (x := some (.fro (.lst (ps.map pairD)))) s ps [] none hp (by simp) (by simp; omega)
  have e1 : (sOwn 1 (lDisp lNil)) (startE 3 [.lst (ps.map pairD)]) s = .next [some (.fro (.lst (ps.map pairD))), some (.own []), none] s := by
    simp [sOwn, lDisp, lNil, Res.bind, ofRes, startE]
  have e2 : (iSeq (xVar 0)) [some (.fro (.lst (ps.map pairD))), some (.own []), none] s = .ok (ps.map pairD) s := by
    simp [iSeq, xVar, Res.bind]
  simp only [m_half_hull, runB, b_half_hull, sSeq, e1, Out.seq, sFor, e2, ofRes]
  unfold hullB hullWhT at e
  simp only [List.reverse_nil, List.map_nil] at e
  rw [e]
  simp only [sSeq, sRet, xLst, lSlice, xRd, pNo, pSome, xOp1, xC, oNeg, Res.bind, Res.ofOpt, List.getElem?_cons_succ, List.getElem?_cons_zero, deref, ofRes, half]
  change _ = Res.ok (D.lst (List.map pairD (ps.foldl (fun st p => p :: popW st p) []).tail.reverse)) s
  generalize ps.foldl (fun st p => p :: popW st p) [] = st
  cases st with
  | nil => rfl
  | cons a r =>
    rw [List.reverse_cons, List.map_append, List.map_singleton, cut_last]
    rfl
theorem foldl_len : ∀ (ps st : List P), (ps.foldl (fun st p => p :: popW st p) st).length ≤ ps.length + st.length
  | [], st => by simp
  | p :: ps, st => by
    have h := foldl_len ps (p :: popW st p)
    have := popW_len st p
    simp only [List.foldl_cons, List.length_cons] at *
    omega
theorem half_len (ps : List P) : (half ps).length ≤ ps.length := by
  have := foldl_len ps []
  change (ps.foldl G.step []).length ≤ _ at this
  simp only [half, G.step, List.length_reverse, List.length_tail, List.length_nil] at *
  omega
def hullD (ps : List P) : D := if (hullL ps).length > 2 then .tup ((hullL ps).map pairD) else .non
theorem pairsOf_map : ∀ (ps : List P), pairsOf (ps.map pairD) = some ps
  | [] => rfl
  | (a, b) :: r => by simp [pairsOf, pairD, pairsOf_map r]
theorem sortU_len (ps : List P) : (sortU ps).length ≤ ps.length := by
  unfold sortU
  rw [List.length_mergeSort]
  induction ps with
  | nil => exact Nat.le_refl _
  | cons x xs ih =>
    simp only [dd]
    split
    · simp only [List.length_cons]; omega
    · simp only [List.length_cons]; omega
theorem hull_ok {ps : List P} (hp : ∀ a ∈ ps, smallP a) (hl : ps.length < 64) (s : Store) : m_hull_of [.tup (ps.map pairD)] s = .ok (hullD ps) s := by
  have h0 := sortU_len ps
  have m1 : ∀ a ∈ sortU ps, smallP a := fun a ha => hp a (sortU_mem.mp ha)
  have e1 := half_ok m1 (by omega) s
  have e2 := half_ok (ps := (sortU ps).reverse) (fun a ha => m1 a (List.mem_reverse.mp ha)) (by rw [List.length_reverse]; omega) s
  have l1 := half_len (sortU ps)
  have l2 := half_len (sortU ps).reverse
  rw [List.length_reverse] at l2
  have l3 : (List.map pairD (half (sortU ps))).length + (List.map pairD (half (sortU ps).reverse)).length ≤ BIG := by
    simp only [List.length_map]
    have : (128 : Nat) ≤ BIG := by decide
    omega
  have e3 : (sOwn 1 (lOp1 lSortSet (xRd 0))) (startE 3 [.tup (ps.map pairD)]) s = .next [some (.fro (.tup (ps.map pairD))), some (.own ((sortU ps).map pairD)), none] s := by
    simp [sOwn, lOp1, xRd, startE, Res.bind, Res.ofOpt, lSortSet, deref, pairsOf_map, hl, ofRes]
  simp only [m_hull_of, runB, b_hull_of, sSeq, e3, Out.seq]
  simp only [sSeq, sFrz, Out.seq, List.getElem?_cons_succ, List.getElem?_cons_zero, List.set_cons_succ, List.set_cons_zero, sOwn, lOp2, xCall, lCons, lNil, xVar, Res.bind, e1, xLst, lOp1, lRev, xRd, Res.ofOpt, deref, ← List.map_reverse, e2, lCat, l3, if_true, ofRes, List.length_cons, List.length_nil, Nat.reduceAdd, Nat.reduceLT, sRet, xIf, tOf, xOp2, xOp1, oLen, xC, oGt, ← List.map_append]
  unfold hullD hullL
  by_cases c : (half (sortU ps) ++ half (sortU ps).reverse).length > 2
  · have c2 : ((2 : Int) < ((half (sortU ps) ++ half (sortU ps).reverse).map pairD).length) := by rw [List.length_map]; omega
    simp only [c, c2, decide_true, if_true, oTupOf, deref]
  · have c2 : ¬ ((2 : Int) < ((half (sortU ps) ++ half (sortU ps).reverse).map pairD).length) := by rw [List.length_map]; omega
    simp only [c, c2, decide_false, if_false, Bool.false_eq_true]
theorem turn_sat {a b c : P} (ha : smallP a) (hb : smallP b) (hc : smallP c) {s : Store} {Q : D → Store → Prop} {X : XP} (k : Q (.int (tn a b c)) s) : Sat (m_turn_of [pairD a, pairD b, pairD c] s) Q X := sat_of (turn_ok ha hb hc s) k
theorem hull_sat {ps : List P} (hp : ∀ a ∈ ps, smallP a) (hl : ps.length < 64) {s : Store} {Q : D → Store → Prop} {X : XP} (k : Q (hullD ps) s) : Sat (m_hull_of [.tup (ps.map pairD)] s) Q X := sat_of (hull_ok hp hl s) k
end W
end
section
set_option Elab.async false
set_option linter.all false
set_option maxRecDepth 100000
set_option maxHeartbeats 4000000
/-! the going round of a law's own hull, slots told -/
namespace W
open Il PySem
open G (tn popW half hullL lo up)

theorem set_same {α : Type} {l : List α} {i : Nat} {v : α} (h : l[i]? = some v) : l.set i v = l := by
  apply List.ext_getElem?
  intro k
  by_cases c : i = k
  · subst c
    rw [List.getElem?_set_self (List.getElem?_eq_some_iff.mp h).1, h]
  · rw [List.getElem?_set_ne c]
def HB (tf : List D → Store → Res D) (i j : Nat) : Bk := (sSeq (sWhile 100000 (tAnd (tOf (xOp2 oGt (xOp1 oLen (xRd i)) (xC (.int 1)))) (tOf (xOp2 oLe (xCall (fun _ => tf) 0 (lCons (xOp2 oIx (xRd i) (xOp1 oNeg (xC (.int 2)))) (lCons (xOp2 oIx (xRd i) (xOp1 oNeg (xC (.int 1)))) (lCons (xVar j) lNil)))) (xC (.int 0))))) (sSeq (sPop i) sNil)) (sSeq (sApp i (xVar j)) sNil))
abbrev TurnOk (tf : List D → Store → Res D) : Prop := ∀ (a b c : P) (s : Store), smallP a → smallP b → smallP c → tf [pairD a, pairD b, pairD c] s = .ok (.int (tn a b c)) s
def mSlot (i : Nat) (en : En) (s : Store) : Nat := match en[i]? with
  | some (some (.own xs)) => xs.length
  | _ => 0
theorem wb_sat {tf : List D → Store → Res D} (ht : TurnOk tf) {i j : Nat} (hij : i ≠ j) {en : En} (hi : i < en.length) {p : P} (hp : smallP p) (ej : en[j]? = some (some (.fro (pairD p)))) {st : List P} (hst : ∀ a ∈ st, smallP a) (hl : st.length < 10000) (ei : en[i]? = some (some (.own (st.reverse.map pairD)))) {s : Store} {N : En → Store → Prop} {R : D → Store → Prop} {X : XS} (k : N (en.set i (some (.own ((p :: popW st p).reverse.map pairD)))) s) : SatB (HB tf i j en s) N R X := by
  unfold HB
  walk_at "go"
  refine sb_while (fun en' t => t = s ∧ ∃ st', en' = en.set i (some (.own (st'.reverse.map pairD))) ∧ popW st' p = popW st p ∧ (∀ a ∈ st', smallP a) ∧ st'.length ≤ st.length) (mSlot i) ⟨rfl, st, ?_, rfl, hst, Nat.le_refl _⟩ ?_ ?_
  · rw [set_same ei]
  · simp only [mSlot, ei, List.length_map, List.length_reverse]; omega
  rintro en' t ⟨rfl, st', rfl, hpop, hs', hl'⟩ hm
  have e1 : (en.set i (some (Sl.own (st'.reverse.map pairD))))[i]? = some (some (.own (st'.reverse.map pairD))) := List.getElem?_set_self hi
  have e2 : (en.set i (some (Sl.own (st'.reverse.map pairD))))[j]? = some (some (.fro (pairD p))) := by rw [List.getElem?_set_ne hij]; exact ej
  walk_at "go"
  refine ⟨fun hc => ?_, fun hc => ?_⟩
  · match st', hpop, hs', hl', e1, e2, hc with
    | [], _, _, _, _, _, hc => simp at hc
    | [_], _, _, _, _, _, hc => simp at hc
    | b :: a :: r, hpop, hs', hl', e1, e2, _ =>
      have e : ((b :: a :: r).reverse.map pairD) = (r.reverse.map pairD) ++ [pairD a, pairD b] := by simp
      rw [e] at e1 e2 ⊢
      have f2 := @at_end2 t (r.reverse.map pairD) (pairD a) (pairD b)
      have f1 := @at_end1 t (r.reverse.map pairD) (pairD a) (pairD b)
      have f3 := ht a b p t (hs' a (by simp)) (hs' b (by simp)) hp
      walk_at "go"
      refine sat_of f3 ?_
      walk_at "go"
      refine ⟨fun hc => ?_, fun hc => ?_⟩
      · have hc := of_decide_eq_true hc
        have hne : (r.reverse.map pairD ++ [pairD a, pairD b]).isEmpty = false := by simp
        walk_at "go"
        refine ⟨⟨rfl, a :: r, ?_, ?_, fun x hx => hs' x (List.mem_cons_of_mem _ hx), by simp only [List.length_cons] at *; omega⟩, ?_⟩
        · rw [List.set_set]
          congr 2
          simp [List.dropLast_append_of_ne_nil]
        · rw [← hpop]; simp only [popW, if_pos hc]
        · rw [List.set_set]
          simp only [mSlot, List.getElem?_set_self hi]
          simp
      · have hc := of_decide_eq_false hc
        walk_at "go"
        have hB : 10000 < BIG := by decide
        refine sb_app e1 (by simp only [List.length_append, List.length_map, List.length_reverse, List.length_cons, List.length_nil] at *; omega) ?_
        walk_at "go"
        rw [List.set_set, ← e]
        have h9 : popW (b :: a :: r) p = b :: a :: r := by simp only [popW, if_neg hc]
        rw [h9] at hpop
        rw [← hpop] at k
        simpa using k
  · have h9 : popW st' p = st' := by
      match st', hc with
      | [], _ => rfl
      | [_], _ => rfl
      | _ :: _ :: _, hc => simp at hc; omega
    rw [h9] at hpop
    walk_at "go"
    have hB : 10000 < BIG := by decide
    refine sb_app e1 (by simp only [List.length_map, List.length_reverse]; omega) ?_
    walk_at "go"
    rw [List.set_set]
    rw [← hpop] at k
    simpa using k
theorem hb_for {tf : List D → Store → Res D} (ht : TurnOk tf) {i j : Nat} (hij : i ≠ j) {en : En} (hi : i < en.length) (hj : j < en.length) {s : Store} {N : En → Store → Prop} {R : D → Store → Prop} {X : XS} : ∀ (ps st : List P), (∀ a ∈ ps, smallP a) → (∀ a ∈ st, smallP a) → ps.length + st.length < 10000 → ∀ (x : Option Sl), (∀ x, N ((en.set i (some (.own ((ps.foldl G.step st).reverse.map pairD)))).set j x) s) → SatB (forL (.nm j) (HB tf i j) (ps.map pairD) ((en.set i (some (.own (st.reverse.map pairD)))).set j x) s) N R X
  | [], st, _, _, _, x, k => k x
  | p :: ps, st, h1, h2, h3, x, k => by
    simp only [List.map_cons, forL, Tg.put]
    simp only [List.length_cons] at h3
    have hl := popW_len st p
    rw [List.set_set]
    have := wb_sat ht hij (en := (en.set i (some (.own (st.reverse.map pairD)))).set j (some (.fro (pairD p)))) (by simpa using hi) (h1 p (by simp)) (List.getElem?_set_self (by simpa using hj)) h2 (by omega) (by rw [List.getElem?_set_ne (Ne.symm hij), List.getElem?_set_self hi]) (s := s) (N := fun en2 t => SatB (forL (.nm j) (HB tf i j) (ps.map pairD) en2 t) N R X) (R := R) (X := X) (by
      rw [List.set_comm _ _ (Ne.symm hij), List.set_set]
      exact hb_for ht hij hi hj ps (p :: popW st p) (fun a ha => h1 a (List.mem_cons_of_mem _ ha)) (fun a ha => by
        rcases List.mem_cons.mp ha with e | e
        · rw [e]; exact h1 p (by simp)
        · exact h2 a (popW_mem _ _ e)) (by simp only [List.length_cons]; omega) _ k)
    revert this
    generalize HB tf i j _ s = o
    cases o <;> first | exact fun h => h | exact fun h => h.elim
/-- the loop over the dots of one side -/
theorem hb_sat {tf : List D → Store → Res D} (ht : TurnOk tf) {i j : Nat} (hij : i ≠ j) {en : En} (hi : i < en.length) (hj : j < en.length) {ps : List P} (hp : ∀ a ∈ ps, smallP a) (hl : ps.length < 10000) (e0 : en[i]? = some (some (.own []))) {s : Store} {N : En → Store → Prop} {R : D → Store → Prop} {X : XS} (k : ∀ x, N ((en.set i (some (.own ((ps.foldl G.step []).reverse.map pairD)))).set j x) s) : SatB (forL (.nm j) (HB tf i j) (ps.map pairD) en s) N R X := by
  obtain ⟨v, hv⟩ : ∃ v, en[j]? = some v := ⟨_, List.getElem?_eq_getElem hj⟩
  have := hb_for ht hij hi hj (s := s) (N := N) (R := R) (X := X) ps [] hp (by simp) (by simpa using hl) v k
  rw [show ((en.set i (some (Sl.own (([] : List P).reverse.map pairD)))).set j v) = en by
    rw [show ([] : List P).reverse.map pairD = [] from rfl, set_same e0, set_same hv]] at this
  exact this
theorem cutHalf (ps : List P) : cut ((ps.foldl G.step []).reverse.map pairD) none (some (-1)) = (half ps).map pairD := by
  unfold half
  generalize ps.foldl G.step [] = st
  cases st with
  | nil => rfl
  | cons a r => rw [List.reverse_cons, List.map_append, List.map_singleton, cut_last]; rfl
theorem sortSet_l {ps : List P} (hl : ps.length < 64) (s : Store) : lSortSet s (.lst (ps.map pairD)) = some ((sortU ps).map pairD) := by
  simp [lSortSet, deref, pairsOf_map, hl]
end W
end
section
set_option Elab.async false
set_option linter.all false
set_option maxRecDepth 100000
set_option maxHeartbeats 4000000
/-! Shapes. -/
namespace W
open Il PySem
open G (tn popW half hullL lo up edg)

section
variable [HK]
structure Shp (s : Store) (n c : Nat) (C : List P) : Prop where
  hn : HK.B ≤ n
  hc : c = 0 ∨ c = 1
  ins : s[n]? = some (.ins c [(kCorners, tupP C), (kLooked, .ref (n + 1))])
theorem Shp.gr {s t : Store} {n c : Nat} {C : List P} (h : Shp s n c C) (g : Gr s t) : Shp t n c C := ⟨h.hn, h.hc, g.some h.hn h.ins⟩
theorem new_shape {t : Store} (hd : Hd t) (c : Nat) (hc : c = 0 ∨ c = 1) (C : List P) (u : Store) (e : u = t ++ [shpO c t.length C, .dct []]) : Hd u ∧ Gr t u ∧ Shp u t.length c C := by
  subst e
  refine ⟨⟨?_, hd.2.shape c C⟩, .of (by simp) fun n _ hl => List.getElem?_append_left hl, hd.len, hc, ?_⟩
  · have := HK.app (HK.app hd.1 (shpO c t.length C)) (.dct [])
    rw [List.append_assoc] at this
    exact this
  · rw [List.getElem?_append_right (Nat.le_refl _), Nat.sub_self]; rfl
theorem set_mk (t : Store) (a b c : O) (d : O) : (((t ++ [a]).set t.length b) ++ [d]).set t.length c = t ++ [c, d] := by
  rw [List.set_append_right _ _ (Nat.le_refl _), Nat.sub_self]
  simp
theorem Shp.ok {s : Store} {n c : Nat} {C : List P} (h : Shp s n c C) : (c == 0 || c == 1) = true := by
  rcases h.hc with rfl | rfl <;> rfl
/-- the fields of a new shape -/
theorem raw_init_sat {t : Store} {c : Nat} (hc : c = 0 ∨ c = 1) {C : List P} (hd : Hd t) {Q : Store → Prop} {X : XP} (k : ∀ u, Hd u → Gr t u → Shp u t.length c C → Q u) : Sat (m_RawShape_init [.ref t.length, tupP C] (t ++ [.ins c []])) (fun d u => d = .non ∧ Q u) X := by
  have e1 : (t ++ [O.ins c []])[t.length]? = some (.ins c []) := by simp
  have ok : (c == 0 || c == 1) = true := by rcases hc with rfl | rfl <;> rfl
  have ok2 : ((c == 0 || c == 1) && decide (([] : List (Str × D)).length < 1000)) = true := by rw [ok]; rfl
  have ok3 : ((c == 0 || c == 1) && decide ((putD kCorners (tupP C) []).length < 1000)) = true := by rw [ok]; rfl
  unfold m_RawShape_init b_RawShape_init
  walk_at "go"
  have e2 : (((t ++ [O.ins c []]).set t.length (.ins c (putD kCorners (tupP C) []))) ++ [O.dct []])[t.length]? = some (.ins c (putD kCorners (tupP C) [])) := by
    rw [List.getElem?_append_left (by simp), List.getElem?_set_self (by simp)]
  walk_at "go"
  have hl := hd.len
  have e3 : ((t ++ [O.ins c []]).set t.length (.ins c (putD kCorners (tupP C) []))).length = t.length + 1 := by simp
  rw [e3]
  obtain ⟨q1, q2, q3⟩ := new_shape hd c hc C _ (set_mk t _ _ _ _)
  exact k _ q1 q2 q3
theorem boolsOf_map {α : Type} (f : α → Bool) : ∀ (xs : List α), boolsOf (xs.map fun x => D.bl (f x)) = some (xs.map f)
  | [] => rfl
  | a :: xs => by simp only [List.map_cons, boolsOf, boolsOf_map f xs, Option.map_some]
theorem intsOf_map {α : Type} (f : α → Int) : ∀ (xs : List α), intsOf (xs.map fun x => D.int (f x)) = some (xs.map f)
  | [] => rfl
  | a :: xs => by simp only [List.map_cons, intsOf, intsOf_map f xs, Option.map_some]
theorem small_dot {p : P} (h : inDot p = true) : smallP p := by
  simp only [inDot, pairD, isDot, inR, Bool.and_eq_true, decide_eq_true_eq] at h
  unfold smallP
  omega
/-- corners that are right -/
structure Right (C : List P) : Prop where
  lo : 3 ≤ C.length
  hi : C.length ≤ 12
  dot : ∀ c ∈ C, inDot c = true
  hull : hullL C = C
theorem are_corners_ok {C : List P} (h : Right C) {s : Store} {Q : D → Store → Prop} {X : XP} (k : Q (.bl true) s) : Sat (m_are_corners [tupP C] s) Q X := by
  have hT : tupLen 3 12 (tupP C) = true := by
    have h1 := h.lo
    have h2 := h.hi
    simp only [tupLen, List.length_map, Bool.and_eq_true, decide_eq_true_eq]
    omega
  have hB : 12 ≤ BIG := by decide
  have hAll : (C.map inDot).all id = true := by
    simp only [List.all_map, List.all_eq_true]
    exact fun x hx => h.dot x hx
  have hb := boolsOf_map inDot C
  have hD : hullD C = tupP C := by
    unfold hullD
    rw [h.hull, if_pos (by have := h.lo; omega)]
  unfold m_are_corners b_are_corners
  walk_at "go"
  refine istuple_sat rfl ?_
  rw [hT]
  walk_at "go"
  refine sa_compT pairD (fun c => .bl (inDot c)) (by have := h.hi; omega) (fun c hc => ⟨_, rfl, ?_⟩) ?_
  · walk_at "go"
    refine isdot_sat (nr_pair c) ?_
    exact ⟨rfl, rfl⟩
  refine ex1 (z := .bl true) (by simp only [oAll, deref, hb, Option.map_some, hAll]) ?_
  walk_at "go"
  refine hull_sat (fun a ha => small_dot (h.dot a ha)) (by have := h.hi; omega) ?_
  walk_at "go"
  rw [hD]
  refine ex1 (z := .bl true) ?_ (by first | exact k | skip)
  have h1 := pairsT_ok C
  have h2 : D.eqv (tupP C) (tupP C) = true := by simp only [D.eqv, pairs_eqv]; simp
  simp only [oEq, deref, h1, h2, Bool.and_self, if_true]
theorem shape_init_sat {t : Store} {C : List P} (h : Right C) (hd : Hd t) {Q : Store → Prop} {X : XP} (k : ∀ u, Hd u → Gr t u → Shp u t.length 0 C → Q u) : Sat (m_Shape_init [.ref t.length, tupP C] (t ++ [.ins 0 []])) (fun d u => d = .non ∧ Q u) X := by
  have e1 : (t ++ [O.ins 0 []])[t.length]? = some (.ins 0 []) := by simp
  have e2 : (((t ++ [O.ins 0 []]).set t.length (.ins 0 (putD kCorners (tupP C) []))) ++ [O.dct []])[t.length]? = some (.ins 0 (putD kCorners (tupP C) [])) := by
    rw [List.getElem?_append_left (by simp), List.getElem?_set_self (by simp)]
  unfold m_Shape_init b_Shape_init
  walk_at "go"
  refine are_corners_ok h ?_
  walk_at "go"
  have hl := hd.len
  have e3 : ((t ++ [O.ins 0 []]).set t.length (.ins 0 (putD kCorners (tupP C) []))).length = t.length + 1 := by simp
  rw [e3]
  obtain ⟨q1, q2, q3⟩ := new_shape hd 0 (.inl rfl) C _ (set_mk t _ _ _ _)
  exact k _ q1 q2 q3
def edgeD (e : P × P) : D := .tup [pairD e.1, pairD e.2]
theorem zip_edge (xs ys : List P) : zipD (xs.map pairD) (ys.map pairD) = (xs.zip ys).map edgeD := by
  simp [zipD, edgeD, List.zip_map, Function.comp_def]
theorem cut_drop1 (C : List P) : cut (C.map pairD) (some 1) none = (C.drop 1).map pairD := by
  cases C with
  | nil => rfl
  | cons a C =>
    simp only [cut, sIx, List.length_map]
    rw [List.take_of_length_le (by simp)]
    simp
theorem cut_take1 (C : List P) : cut (C.map pairD) none (some 1) = (C.take 1).map pairD := by
  cases C with
  | nil => rfl
  | cons a C => simp [cut, sIx]
theorem edg_len (C : List P) : (edg C).length = C.length := by
  unfold edg
  rw [List.length_zip, List.length_append, List.length_drop, List.length_take]
  omega
theorem sides_sat {C : List P} (hl : C.length ≤ 1000) {s : Store} {Q : D → Store → Prop} {X : XP} (k : Q (.lst ((edg C).map edgeD)) s) : Sat (m_sides_of [tupP C] s) Q X := by
  have hB : 3000 ≤ BIG := by decide
  have hA : ((C.drop 1).map pairD).length + ((C.take 1).map pairD).length ≤ BIG := by
    simp only [List.length_map, List.length_drop, List.length_take]; omega
  unfold m_sides_of b_sides_of
  walk_at "go"
  rw [cut_drop1, cut_take1]
  walk_at "go"
  rw [← List.map_append, zip_edge]
  exact k
def area (C : List P) : Int := ((edg C).map fun e => tn (0, 0) e.1 e.2).sum
end
end W
end
section
set_option Elab.async false
set_option linter.all false
set_option maxRecDepth 100000
set_option maxHeartbeats 4000000
/-! Counting: divisors, steps, the rim, stretched shapes. -/
namespace W
open Il PySem
open G (tn popW half hullL lo up edg)

section
variable [HK]
theorem abs_nat (i : Int) : (if i < 0 then -i else i) = (i.natAbs : Int) := by split <;> omega
theorem common_sat {a b : Int} (hb : b.natAbs < 100000) {s : Store} {Q : D → Store → Prop} {X : XP} (k : Q (.int (Int.gcd a b : Nat)) s) : Sat (m_common [.int a, .int b] s) Q X := by
  unfold m_common b_common
  walk_at "go"
  rw [abs_nat, abs_nat]
  refine sb_while (fun en t => t = s ∧ ∃ x y : Nat, en = [some (.fro (.int x)), some (.fro (.int y))] ∧ Nat.gcd x y = Int.gcd a b) (fun en t => match en with
    | [_, some (.fro (.int y))] => y.toNat
    | _ => 0) ⟨rfl, a.natAbs, b.natAbs, rfl, rfl⟩ (by change ((b.natAbs : Int)).toNat < 100000; omega) ?_
  rintro en t ⟨rfl, x, y, rfl, hg⟩ hm
  walk_at "go"
  refine ⟨fun h => ?_, fun h => ?_⟩
  · have h := of_decide_eq_true h
    have h0 : (y : Int) ≠ 0 := by omega
    walk_at "go"
    have e : ((x : Int).fmod (y : Int)) = ((x % y : Nat) : Int) := by
      rw [Int.fmod_eq_emod_of_nonneg _ (by omega)]; simp
    rw [e]
    refine ⟨⟨rfl, y, x % y, rfl, ?_⟩, ?_⟩
    · rw [← hg, Nat.gcd_comm x y, Nat.gcd_rec y x, Nat.gcd_comm]
    · have : x % y < y := Nat.mod_lt _ (by omega)
      simp only [List.set_cons_zero, List.set_cons_succ, Int.toNat_natCast]
      exact this
  · have h := of_decide_eq_false h
    have : y = 0 := by omega
    subst this
    rw [Nat.gcd_zero_right] at hg
    walk_at "go"
    rw [hg]
    exact k
def stepD (e : P × P) : D := .tup [.tup [.int ((e.2.1 - e.1.1).fdiv (gE e)), .int ((e.2.2 - e.1.2).fdiv (gE e))], .int (gE e)]
/-- not far away -/
def Sm (p : P) : Prop := p.1.natAbs ≤ 10000 ∧ p.2.natAbs ≤ 10000
theorem Sm.small {p : P} (h : Sm p) : smallP p := by unfold Sm smallP at *; omega
theorem Sm_dot {p : P} (h : inDot p = true) : Sm p := by
  simp only [inDot, pairD, isDot, inR, Bool.and_eq_true, decide_eq_true_eq] at h
  unfold Sm
  omega
theorem gE_pos {e : P × P} (h : e.1 ≠ e.2) : 0 < gE e := by
  unfold gE
  have : Int.gcd (e.2.1 - e.1.1) (e.2.2 - e.1.2) ≠ 0 := fun z => by
    rw [Int.gcd_eq_zero_iff] at z
    exact h (Prod.ext (by omega) (by omega))
  omega
theorem gE_le {e : P × P} (h1 : Sm e.1) (h2 : Sm e.2) : gE e ≤ 40000 := by
  unfold gE
  by_cases z : e.2.1 - e.1.1 = 0
  · rw [z, Int.gcd_zero_left]
    unfold Sm at *; omega
  · have := Int.gcd_le_natAbs_left (e.2.2 - e.1.2) z
    unfold Sm at *; omega
theorem step_sat {e : P × P} (hne : e.1 ≠ e.2) (h1 : Sm e.1) (h2 : Sm e.2) {s : Store} {Q : D → Store → Prop} {X : XP} (k : Q (stepD e) s) : Sat (m_step_of [edgeD e] s) Q X := by
  obtain ⟨⟨a, b⟩, c, d⟩ := e
  have g0 := gE_pos hne
  have g1 := gE_le h1 h2
  have hne0 : gE ((a, b), c, d) ≠ 0 := by omega
  have hlt : (gE ((a, b), c, d)).natAbs < 1073741824 := by omega
  unfold m_step_of b_step_of edgeD pairD
  walk_at "go"
  refine common_sat (by unfold Sm at *; dsimp only at *; omega) ?_
  change SatB _ _ _ _
  have eg : ((Int.gcd (c - a) (d - b) : Nat) : Int) = gE ((a, b), c, d) := rfl
  rw [eg]
  walk_at "go"
  exact k
def rimc (C : List P) : Int := ((edg C).map gE).sum
abbrev Dif (C : List P) : Prop := ∀ a b, (a, b) ∈ edg C → a ≠ b
def mulP (j : Int) (p : P) : P := (j * p.1, j * p.2)
end
end W
end
section
set_option Elab.async false
set_option linter.all false
set_option maxRecDepth 100000
set_option maxHeartbeats 4000000
namespace W
open Il PySem
open G (tn popW half hullL lo up)

theorem law_turn_ok : TurnOk m_law_turn := fun a b c s ha hb hc => by
  obtain ⟨a1, a2⟩ := a
  obtain ⟨b1, b2⟩ := b
  obtain ⟨c1, c2⟩ := c
  unfold smallP at *
  dsimp only at ha hb hc
  have h1 : (b1 - a1).natAbs < 2 ^ 64 := by omega
  have h2 : (b2 - a2).natAbs < 2 ^ 64 := by omega
  simp [m_law_turn, b_law_turn, runB, startE, sSeq, sRet, ofRes, xOp2, xRd, xC, Res.bind, Res.ofOpt, pairD, oIx, deref, atI, ixN, oSub, oMul, h1, h2, Out.seq, tn]
end W
end
section
set_option Elab.async false
set_option linter.all false
set_option maxRecDepth 100000
set_option maxHeartbeats 4000000
namespace W
open Il PySem
open G (tn popW half hullL lo up edg)

section
variable [HK]
/-! where a dot lies -/
def plcS (C : List P) (p : P) : Str := if minI (trn C p) < 0 then (PySem.Str.ofString "outside") else if minI (trn C p) = 0 then (PySem.Str.ofString "rim") else (PySem.Str.ofString "inside")
theorem trn_len (C : List P) (p : P) : (trn C p).length = C.length := by simp [trn, edg_len]
theorem min_trn {C : List P} (h : C ≠ []) (p : P) (s : Store) : oMin s (.lst ((edg C).map fun e => .int (tn e.1 e.2 p))) = some (.int (minI (trn C p))) := by
  have hne : (trn C p).isEmpty = false := by
    have := trn_len C p
    cases e : trn C p with
    | nil => rw [e] at this; exact absurd (List.length_eq_zero_iff.mp this.symm) h
    | cons a l => rfl
  simp only [oMin, deref, intsOf_map]
  change (if (trn C p).isEmpty = true then none else _) = _
  rw [hne]
  rfl
theorem place_sat {C : List P} {p : P} (h0 : C ≠ []) (hs : ∀ c ∈ C, smallP c) (hp : smallP p) (hl : C.length ≤ 1000) {s : Store} {Q : D → Store → Prop} {X : XP} (k : Q (.int (plc C p)) s) : Sat (m_place [tupP C, pairD p] s) Q X := by
  have hB : 3000 ≤ BIG := by decide
  have he := edg_len C
  have hm := min_trn h0 p s
  unfold m_place b_place
  walk_at "go"
  refine sides_sat hl ?_
  walk_at "go"
  refine sa_compT edgeD (fun e => .int (tn e.1 e.2 p)) (by omega) (fun e hm => ⟨_, rfl, ?_⟩) ?_
  · walk_at "go"
    have m := G.edg_mem (a := e.1) (b := e.2) hm
    refine turn_sat (hs _ m.1) (hs _ m.2) hp ?_
    exact ⟨rfl, rfl⟩
  · refine sb_seq ?_
    walk_at "go"
    refine ⟨fun h => ?_, fun h => ?_⟩
    · have h := of_decide_eq_true h
      walk_at "go"
      unfold plc at k
      rw [if_pos h] at k
      exact k
    · have h := of_decide_eq_false h
      walk_at "go"
      refine ⟨fun h2 => ?_, fun h2 => ?_⟩
      · have h2 : minI (trn C p) = 0 := by simpa using h2
        walk_at "go"
        unfold plc at k
        rw [if_neg h, if_pos h2] at k
        exact k
      · have h2 : minI (trn C p) ≠ 0 := by simpa using h2
        walk_at "go"
        unfold plc at k
        rw [if_neg h, if_neg h2] at k
        exact k
theorem holds_sat {s : Store} {n c : Nat} {C : List P} (h : Shp s n c C) {p : P} (h0 : C ≠ []) (hs : ∀ c ∈ C, smallP c) (hp : inDot p = true) (hl : C.length ≤ 1000) {Q : D → Store → Prop} {X : XP} (k : Q (.str (plcS C p)) s) : Sat (m_holds [.ref n, pairD p] s) Q X := by
  have hi := h.ins
  have hok := h.ok
  unfold m_holds b_holds
  walk_at "go"
  refine isdot_sat (nr_pair p) ?_
  rw [show isDot (pairD p) = true from hp]
  walk_at "go"
  refine place_sat h0 hs (small_dot hp) hl ?_
  unfold plcS at k
  unfold plc
  split at k
  · rw [if_pos (by assumption)]
    exact ex1 rfl k
  · split at k
    · rw [if_neg (by assumption), if_pos (by assumption)]
      exact ex1 rfl k
    · rw [if_neg (by assumption), if_neg (by assumption)]
      exact ex1 rfl k
end
end W
end
section
set_option Elab.async false
set_option linter.all false
set_option maxRecDepth 100000
set_option maxHeartbeats 4000000
namespace W
open Il PySem
open G (tn popW half hullL lo up edg)

section
variable [HK]
theorem all_dots {C : List P} (h : ∀ c ∈ C, inDot c = true) (s : Store) : oAll s (.lst (C.map fun c => .bl (inDot c))) = some (.bl true) := by
  simp only [oAll, deref, boolsOf_map, Option.map_some]
  congr 2
  simp only [List.all_map, List.all_eq_true]
  exact fun x hx => h x hx
theorem hullF_sat {ps : List P} (h1 : ps ≠ []) (h30 : ps.length ≤ 30) (hdot : ∀ p ∈ ps, inDot p = true) {s : Store} (hd : Hd s) {Q : D → Store → Prop} {X : XP} (k1 : (hullL ps).length ≤ 2 → Q .non s) (k2 : 2 < (hullL ps).length → ∀ u m, Hd u → Gr s u → Shp u m 1 (hullL ps) → Q (.ref m) u) : Sat (m_hull [tupP ps] s) Q X := by
  have hB : 30 ≤ BIG := by decide
  have hp : 0 < ps.length := List.length_pos_iff.mpr h1
  have hT : tupLen 1 30 (tupP ps) = true := by
    simp only [tupLen, List.length_map, Bool.and_eq_true, decide_eq_true_eq]
    omega
  have hA := all_dots hdot s
  unfold m_hull b_hull
  walk_at "go"
  refine istuple_sat rfl ?_
  rw [hT]
  walk_at "go"
  refine sa_compT pairD (fun c => .bl (inDot c)) (by omega) (fun c hc => ⟨_, rfl, ?_⟩) ?_
  · walk_at "go"
    refine isdot_sat (nr_pair c) ?_
    exact ⟨rfl, rfl⟩
  walk_at "go"
  refine hull_sat (fun a ha => small_dot (hdot a ha)) (by omega) ?_
  by_cases c : 2 < (hullL ps).length
  · have e : hullD ps = tupP (hullL ps) := by unfold hullD; rw [if_pos c]
    rw [e]
    walk_at "go"
    exact raw_init_sat (.inr rfl) hd fun u a b d => k2 c u _ a b d
  · have e : hullD ps = .non := by unfold hullD; rw [if_neg (by omega)]
    rw [e]
    walk_at "go"
    exact k1 (by omega)
abbrev RF : RfT := [(0, 0, false), (0, 1, true), (1, 0, false), (1, 1, false)]
theorem Shp.insOf {s : Store} {n c : Nat} {C : List P} (h : Shp s n c C) : Il.insOf s (.ref n) = some c := by
  simp only [Il.insOf, h.ins]
end
end W
end
section
set_option Elab.async false
set_option linter.all false
set_option maxRecDepth 100000
set_option maxHeartbeats 4000000
/-! The dots that a shape keeps. -/
namespace W
open Il PySem
open G (tn popW half hullL lo up edg)

section
variable [HK]
theorem minI_mem : ∀ (l : List Int), l ≠ [] → minI l ∈ l ∧ ∀ x ∈ l, minI l ≤ x
  | [], h => absurd rfl h
  | [a], _ => ⟨by simp [minI], fun x hx => by rw [List.mem_singleton.mp hx]; simp [minI]⟩
  | a :: b :: r, _ => by
    obtain ⟨h1, h2⟩ := minI_mem (b :: r) (by simp)
    simp only [minI]
    split
    · exact ⟨by simp, fun x hx => by
        rcases List.mem_cons.mp hx with e | e
        · omega
        · have := h2 x e; omega⟩
    · exact ⟨List.mem_cons_of_mem _ h1, fun x hx => by
        rcases List.mem_cons.mp hx with e | e
        · omega
        · exact h2 x e⟩
theorem maxI_mem : ∀ (l : List Int), l ≠ [] → maxI l ∈ l ∧ ∀ x ∈ l, x ≤ maxI l
  | [], h => absurd rfl h
  | [a], _ => ⟨by simp [maxI], fun x hx => by rw [List.mem_singleton.mp hx]; simp [maxI]⟩
  | a :: b :: r, _ => by
    obtain ⟨h1, h2⟩ := maxI_mem (b :: r) (by simp)
    simp only [maxI]
    split
    · exact ⟨by simp, fun x hx => by
        rcases List.mem_cons.mp hx with e | e
        · omega
        · have := h2 x e; omega⟩
    · exact ⟨List.mem_cons_of_mem _ h1, fun x hx => by
        rcases List.mem_cons.mp hx with e | e
        · omega
        · exact h2 x e⟩
theorem ne_len {α β : Type} {f : α → β} {xs : List α} (h : xs ≠ []) : (xs.map f).isEmpty = false := by
  cases xs with
  | nil => exact absurd rfl h
  | cons a l => rfl
theorem max_map {α : Type} (f : α → Int) {xs : List α} (h : xs ≠ []) (s : Store) : oMax s (.lst (xs.map fun x => .int (f x))) = some (.int (maxI (xs.map f))) := by
  simp only [oMax, deref, intsOf_map, Option.bind_some, ne_len h]
  rfl
/-- not so far away -/
def Sn (p : P) : Prop := p.1.natAbs < 2 ^ 60 ∧ p.2.natAbs < 2 ^ 60
theorem Sn.small {p : P} (h : Sn p) : smallP p := by unfold Sn smallP at *; omega
local macro_rules | `(tactic| walk_at "st") => `(tactic| first | with_reducible assumption | exact Hd.tab (by assumption) | exact Shp.ins (by assumption) | exact Shp.ok (by assumption) | rfl)
abbrev dA (C : List P) (j : Int) (ps : List P) : O := .lst ((ps.filter fun p => plc C p = j).map pairD)
theorem LkOk.lt {s : Store} {C : List P} {kvs : List (D × D)} (h : LkOk s C kvs) : kvs.length < BIG := by
  have := h.len
  have hB : 3 ≤ BIG := by decide
  split at this <;> split at this <;> omega
end
end W
end
section
set_option Elab.async false
set_option linter.all false
/-! A dot more: which hulls stay, which grow. -/
namespace G
section
variable {S T C D : List P} {d : P} (hC : Poly S C) (hD : Poly T D) (hT : ∀ x, x ∈ T ↔ x ∈ S ∨ x = d)
include hC hD hT
end
/-! sums over edges -/
end G
end
section
set_option Elab.async false
set_option linter.all false
set_option maxRecDepth 100000
/-! How many dots: lists without doubles; segments; parallelograms; triangles. -/
namespace G
/-- just n things are S -/
def Card {α : Type} (S : α → Prop) (n : Nat) : Prop := ∃ l : List α, l.Nodup ∧ (∀ p, p ∈ l ↔ S p) ∧ l.length = n
section
variable {α : Type} {S T U : α → Prop} {m n k : Nat}
theorem Card.len {l : List α} (hn : l.Nodup) (hm : ∀ p, p ∈ l ↔ S p) (h : Card S n) : l.length = n := by
  obtain ⟨k, h1, h2, h3⟩ := h
  rw [← h3]
  exact ((List.perm_ext_iff_of_nodup hn h1).mpr fun x => by rw [hm, h2]).length_eq
theorem Card.uniq (h : Card S m) (h' : Card S n) : m = n := by
  obtain ⟨l, h1, h2, h3⟩ := h
  rw [← h3]; exact Card.len h1 h2 h'
theorem Card.congr (h : Card S n) (e : ∀ p, S p ↔ T p) : Card T n := by
  obtain ⟨l, h1, h2, h3⟩ := h
  exact ⟨l, h1, fun p => (h2 p).trans (e p), h3⟩
theorem Card.or (h : Card S m) (h' : Card T n) (d : ∀ p, S p → T p → False) : Card (fun p => S p ∨ T p) (m + n) := by
  obtain ⟨l, h1, h2, h3⟩ := h
  obtain ⟨l', k1, k2, k3⟩ := h'
  refine ⟨l ++ l', List.nodup_append.mpr ⟨h1, k1, fun a ha b hb e => d a ((h2 a).mp ha) (by rw [e]; exact (k2 b).mp hb)⟩, fun p => by rw [List.mem_append, h2, k2], by rw [List.length_append, h3, k3]⟩
theorem Card.filter (h : Card S n) (f : α → Bool) : ∃ m, Card (fun p => S p ∧ f p = true) m := by
  obtain ⟨l, h1, h2, h3⟩ := h
  exact ⟨_, l.filter f, h1.filter _, fun p => by rw [List.mem_filter, h2], rfl⟩
theorem Card.sub (h : Card S m) (h' : Card T n) (i : ∀ p, T p → S p) : ∃ j, Card (fun p => S p ∧ ¬ T p) j ∧ j + n = m := by
  classical
  obtain ⟨j, hj⟩ := h.filter fun p => !(decide (T p))
  refine ⟨j, hj.congr fun p => by simp, ?_⟩
  refine Card.uniq ((Card.or hj h' (fun p h1 h2 => by simp at h1; exact h1.2 h2)).congr fun p => ?_) h
  simp
  constructor
  · rintro (h | h)
    · exact h.1
    · exact i p h
  · intro h
    by_cases t : T p
    · exact .inr t
    · exact .inl ⟨h, t⟩
end
/-! Bezout -/
theorem bez_nat : ∀ (b a : Nat), ∃ x y : Int, x * a + y * b = (Nat.gcd a b : Int)
  | 0, a => ⟨1, 0, by simp⟩
  | b + 1, a => by
    obtain ⟨x, y, h⟩ := bez_nat (a % (b + 1)) (b + 1)
    have e : Nat.gcd (b + 1) (a % (b + 1)) = Nat.gcd a (b + 1) := by rw [Nat.gcd_comm a (b + 1), Nat.gcd_rec (b + 1) a, Nat.gcd_comm]
    rw [e] at h
    have d : (a : Int) = ((b + 1 : Nat) : Int) * ((a / (b + 1) : Nat) : Int) + ((a % (b + 1) : Nat) : Int) := by
      have := Nat.div_add_mod a (b + 1)
      rw [← Int.natCast_mul, ← Int.natCast_add, this]
    refine ⟨y, x - y * ((a / (b + 1) : Nat) : Int), ?_⟩
    rw [← h]
    generalize ((a / (b + 1) : Nat) : Int) = q at *
    generalize ((a % (b + 1) : Nat) : Int) = r at *
    generalize ((b + 1 : Nat) : Int) = b' at *
    rw [d]
    grind
  termination_by b => b
  decreasing_by exact Nat.mod_lt _ (Nat.succ_pos _)
theorem bez (a b : Int) : ∃ x y : Int, x * a + y * b = (Int.gcd a b : Int) := by
  obtain ⟨x, y, h⟩ := bez_nat b.natAbs a.natAbs
  unfold Int.gcd
  rw [← h]
  have s : ∀ z : Int, ∃ k : Int, k * z = z.natAbs := fun z => by
    by_cases h : 0 ≤ z
    · exact ⟨1, by omega⟩
    · exact ⟨-1, by omega⟩
  obtain ⟨k, hk⟩ := s a
  obtain ⟨l, hl⟩ := s b
  exact ⟨x * k, y * l, by rw [← hk, ← hl]; grind⟩
end G
end
section
set_option Elab.async false
set_option linter.all false
set_option maxRecDepth 100000
/-! segments, parallelograms, triangles -/
namespace G
abbrev gcdE (a b : P) : Nat := Int.gcd (b.1 - a.1) (b.2 - a.2)
end G
end
section
set_option Elab.async false
set_option linter.all false
set_option maxRecDepth 100000
/-! triangles, fans -/
namespace G
def TriS (a b c p : P) : Prop := 0 ≤ tn a b p ∧ 0 ≤ tn b c p ∧ 0 ≤ tn c a p
/-! fans -/
def FanA (o : P) : List P → Int
  | a :: b :: r => tn o a b + FanA o (b :: r)
  | _ => 0
def FanG : List P → Nat
  | a :: b :: r => gcdE a b + FanG (b :: r)
  | _ => 0
def FanS (o : P) : List P → P → Prop
  | a :: b :: r, p => TriS o a b p ∨ FanS o (b :: r) p
  | _, _ => False
end G
end
section
set_option Elab.async false
set_option linter.all false
set_option maxRecDepth 100000
/-! Pick: how many dots a polygon has, how many on its rim. -/
namespace G
section
variable {S : List P} {c0 c1 : P} {r : List P}
end
def areaC (C : List P) : Int := ((edg C).map fun e => tn (0, 0) e.1 e.2).sum
def gcdC (C : List P) : Nat := ((edg C).map fun e => gcdE e.1 e.2).sum
end G
end
section
set_option Elab.async false
set_option linter.all false
set_option maxRecDepth 100000
/-! the rim: as many dots as the greatest common divisors come to -/
namespace G
/-- how far along -/
def al (a b p : P) : Int := (b.1 - a.1) * (p.1 - a.1) + (b.2 - a.2) * (p.2 - a.2)
def HSeg (a b p : P) : Prop := tn a b p = 0 ∧ 0 ≤ al a b p ∧ al a b p < al a b b
section
variable {S C : List P}
theorem Poly.two (h : Poly S C) {a b : P} (h1 : (a, b) ∈ edg C) (h2 : (b, a) ∈ edg C) : False := by
  have hne := edg_ne h h1
  obtain ⟨q, hq, q1, q2⟩ : ∃ q ∈ C, q ≠ a ∧ q ≠ b := by
    have hl := h.len
    have hn := h.nodup
    match C, hl, hn with
    | x :: y :: z :: r, _, hn =>
      simp only [List.nodup_cons, List.mem_cons, not_or] at hn
      by_cases k1 : x ≠ a ∧ x ≠ b
      · exact ⟨x, by simp, k1⟩
      · by_cases k2 : y ≠ a ∧ y ≠ b
        · exact ⟨y, by simp, k2⟩
        · refine ⟨z, by simp, fun e => ?_, fun e => ?_⟩
          · subst e
            have p1 : x = b := by
              apply Classical.byContradiction; intro w
              exact k1 ⟨fun e => hn.1.2.1 e, w⟩
            have p2 : y = b := by
              apply Classical.byContradiction; intro w
              exact k2 ⟨fun e => hn.2.1.1 e, w⟩
            exact hn.1.1 (p1.trans p2.symm)
          · subst e
            have p1 : x = a := by
              apply Classical.byContradiction; intro w
              exact k1 ⟨w, fun e => hn.1.2.1 e⟩
            have p2 : y = a := by
              apply Classical.byContradiction; intro w
              exact k2 ⟨w, fun e => hn.2.1.1 e⟩
            exact hn.1.1 (p1.trans p2.symm)
  have s1 := h.strict h1 hq q1 q2
  have s2 := h.strict h2 hq q2 q1
  rw [tn_swap] at s2
  omega
/-- a corner on an edge's line is one of its ends -/
theorem Poly.ends (h : Poly S C) {a b q : P} (he : (a, b) ∈ edg C) (hq : q ∈ C) (h0 : tn a b q = 0) : q = a ∨ q = b := by
  apply Classical.byContradiction
  intro z
  have := h.strict he hq (fun e => z (.inl e)) (fun e => z (.inr e))
  omega
end
end G
end
section
set_option Elab.async false
set_option linter.all false
set_option maxRecDepth 100000
set_option maxHeartbeats 4000000
/-! How many dots a shape keeps; the dots as rules. -/
namespace W
open Il PySem
open G (tn popW half hullL lo up edg)

section
variable [HK]
/-- how wide -/
def Wd (w : Int) (C : List P) : Prop := ∀ a ∈ C, ∀ b ∈ C, a.1 - b.1 ≤ w ∧ a.2 - b.2 ≤ w
theorem right_poly {C : List P} (h : Right C) : G.Poly C C := by
  have hp := G.hull_poly (S := C) (by rw [h.hull]; have := h.lo; omega)
  rw [h.hull] at hp
  exact hp
section
variable {S C : List P}
theorem poly_ne (h : G.Poly S C) : C ≠ [] := fun e => by have := h.len; rw [e] at this; simp at this
end
theorem irange_len (lo hi : Int) : (irange lo hi).length = (hi - lo).toNat := by simp [irange]
theorem box_len {C : List P} (h0 : C ≠ []) {w : Nat} (h : Wd w C) : (boxP C).length ≤ (w + 1) * (w + 1) := by
  have ne1 : C.map (·.1) ≠ [] := by simpa using h0
  have ne2 : C.map (·.2) ≠ [] := by simpa using h0
  obtain ⟨a, ha, e1⟩ := List.mem_map.mp (minI_mem _ ne1).1
  obtain ⟨b, hb, e2⟩ := List.mem_map.mp (maxI_mem _ ne1).1
  obtain ⟨c, hc, e3⟩ := List.mem_map.mp (minI_mem _ ne2).1
  obtain ⟨d, hd, e4⟩ := List.mem_map.mp (maxI_mem _ ne2).1
  have h1 := h b hb a ha
  have h2 := h d hd c hc
  have e : ∀ (l : List Int) (g : Int → List P) (k : Nat), (∀ x, (g x).length = k) → (l.flatMap g).length = l.length * k := fun l g k hg => by
    induction l with
    | nil => simp
    | cons x l ih => rw [List.flatMap_cons, List.length_append, ih, hg, List.length_cons, Nat.succ_mul]; omega
  unfold boxP
  rw [e _ _ _ fun x => by rw [List.length_map, irange_len]]
  rw [irange_len]
  exact Nat.mul_le_mul (by omega) (by omega)
theorem ins_le (C : List P) : (insL C).length ≤ (boxP C).length := List.length_filter_le _ _
theorem rim_le (C : List P) : (rimL C).length ≤ (boxP C).length := List.length_filter_le _ _
section
variable [HK]
/-- a shape whose dots can be told -/
structure Tel (C : List P) : Prop where
  ne : C ≠ []
  sn : ∀ c ∈ C, Sn c
  len : C.length ≤ 1000
  ins : (insL C).length ≤ BIG
  rim : (rimL C).length ≤ BIG
theorem tel_of {C : List P} (h0 : C ≠ []) (hs : ∀ c ∈ C, inDot c = true) (hl : C.length ≤ 1000) : Tel C := by
  have hb := box_len h0 (w := 200) fun a ha b hb => by
    have h1 := hs a ha
    have h2 := hs b hb
    simp only [inDot, pairD, isDot, inR, Bool.and_eq_true, decide_eq_true_eq] at *
    omega
  have hB : 201 * 201 ≤ BIG := by decide
  refine ⟨h0, fun c hc => ?_, hl, Nat.le_trans (ins_le C) (Nat.le_trans hb hB), Nat.le_trans (rim_le C) (Nat.le_trans hb hB)⟩
  have h1 := hs c hc
  simp only [inDot, pairD, isDot, inR, Bool.and_eq_true, decide_eq_true_eq] at h1
  unfold Sn
  omega
theorem right_tel {C : List P} (h : Right C) : Tel C := tel_of (poly_ne (right_poly h)) h.dot (by have := h.hi; omega)
end
end
end W
end
section
set_option Elab.async false
set_option linter.all false
set_option maxRecDepth 100000
/-! a polygon told by all functionals -/
namespace G
section
variable {S C : List P}
end
end G
end
section
set_option Elab.async false
set_option linter.all false
set_option maxRecDepth 100000
set_option maxHeartbeats 400000
/-! Moves, plainly. -/
namespace W
open Il PySem
open G (tn popW half hullL lo up edg)
namespace Mv
def Ok (m : Mv) : Prop := m.det = 1 ∨ m.det = -1
def Le (B : Nat) (m : Mv) : Prop := m.a.natAbs ≤ B ∧ m.b.natAbs ≤ B ∧ m.c.natAbs ≤ B ∧ m.d.natAbs ≤ B ∧ m.e.natAbs ≤ B ∧ m.f.natAbs ≤ B
end Mv
end W
end
section
set_option Elab.async false
set_option linter.all false
set_option maxRecDepth 100000
/-! what a move keeps -/
namespace W
open Il PySem
open G (tn popW half hullL lo up edg)
section
variable {m : Mv} {S C C' : List P}
end
section
variable [HK]
variable {m : Mv} {S C C' : List P}
end
end W
end
section
set_option Elab.async false
set_option linter.all false
set_option maxRecDepth 100000
set_option maxHeartbeats 4000000
/-! counts, areas, steps -/
namespace W
open Il PySem
open G (tn popW half hullL lo up edg)

section
variable [HK]
local macro_rules | `(tactic| walk_at "st") => `(tactic| first | with_reducible assumption | exact Hd.tab (by assumption) | exact Shp.ins (by assumption) | exact Shp.ok (by assumption) | rfl)
theorem poly_dif {S C : List P} (h : G.Poly S C) : Dif C := fun a b he => G.edg_ne h he
theorem steps_sat {s : Store} {n c : Nat} {C S : List P} (h : Shp s n c C) (hp : G.Poly S C) (hs : ∀ c ∈ C, Sm c) (hl : C.length ≤ 1000) {Q : D → Store → Prop} {X : XP} (k : Q (.tup ((edg C).map stepD)) s) : Sat (m_steps [.ref n] s) Q X := by
  have hB : 3000 ≤ BIG := by decide
  have he := edg_len C
  unfold m_steps b_steps
  walk_at "go"
  refine sides_sat hl ?_
  walk_at "go"
  refine sa_compT edgeD stepD (by omega) (fun e hm => ⟨_, rfl, ?_⟩) ?_
  · have m := G.edg_mem (a := e.1) (b := e.2) hm
    walk_at "go"
    exact step_sat (poly_dif hp _ _ hm) (hs _ m.1) (hs _ m.2) ⟨rfl, rfl⟩
  walk_at "go"
  exact k
end
end W
end
section
set_option Elab.async false
set_option linter.all false
set_option maxRecDepth 100000
set_option maxHeartbeats 4000000
/-! stretched shapes, and their dots -/
namespace W
open Il PySem
open G (tn popW half hullL lo up edg)

theorem edg_map (f : P → P) (C : List P) : edg (C.map f) = (edg C).map fun e => (f e.1, f e.2) := by
  unfold G.edg
  rw [← List.map_drop, ← List.map_take, ← List.map_append, List.zip_map]
  rfl
section
variable [HK]
end
end W
end
section
set_option Elab.async false
set_option linter.all false
set_option maxRecDepth 100000
set_option maxHeartbeats 1000000
/-! odds and ends for the laws -/
namespace W
open Il PySem
open G (tn popW half hullL lo up edg)
section
variable [HK]
theorem right_sm {C : List P} (h : Right C) : ∀ c ∈ C, Sm c := fun c hc => Sm_dot (h.dot c hc)
end
end W
end
section
set_option Elab.async false
set_option linter.all false
set_option maxRecDepth 100000
set_option maxHeartbeats 1000000
/-! A hand whose draws are told: what is left of the cells falls, and then the mixed numbers go round. -/
namespace W
open Il PySem

structure Hr where
  cells : List Int
  p : Int
  l : Int
  m : Int
  k : Int
  hp : 0 ≤ p
  hl : 0 ≤ l
  hc : ∀ c ∈ cells, 0 ≤ c
abbrev RS (h : Hr) (rest : Store) : Store := .tab 1000 lamQ :: .lst [.lst (h.cells.map D.int), .int h.p, .int h.l, .int h.m, .int h.k] :: rest
def bln (n : Nat) : Nat := if n = 0 then 0 else Nat.log2 n + 1
theorem bln_le {n k : Nat} : bln n ≤ k ↔ n < 2 ^ k := by
  unfold bln
  split
  · rename_i h; subst h; simp [Nat.two_pow_pos]
  · rename_i h
    rw [Nat.succ_le_iff, Nat.log2_lt h]
theorem bln_mono {a b : Nat} (h : a ≤ b) : bln a ≤ bln b := bln_le.mpr (Nat.lt_of_le_of_lt h (bln_le.mp (Nat.le_refl _)))
theorem bln_div {a n : Nat} (ha : 0 < a) (hn : 2 ≤ n) : bln (a / n) < bln a := by
  have h1 : a < 2 ^ bln a := bln_le.mp (Nat.le_refl _)
  have h0 : bln a ≠ 0 := fun z => by rw [z] at h1; omega
  obtain ⟨k, hk⟩ : ∃ k, bln a = k + 1 := ⟨bln a - 1, by omega⟩
  rw [hk] at h1 ⊢
  refine Nat.lt_succ_of_le (bln_le.mpr ?_)
  have : a / n ≤ a / 2 := Nat.div_le_div_left hn (by decide)
  rw [Nat.pow_succ] at h1
  omega
def Hr.w (h : Hr) : Nat := bln h.l.toNat + ((h.cells.drop h.p.toNat).map fun c => bln c.toNat + 1).sum
def Hr.x (h : Hr) : Int := (h.m + 7919 * h.k).fmod 2147483647
def DG1 (x : Int) : Int := (x * 48271).fmod 2147483647
def DG2 (x : Int) : Int := (DG1 x * ((DG1 x).fdiv 1009 + 69621)).fmod 2147483647
def DG3 (x : Int) : Int := (DG2 x * ((DG2 x).fdiv 2003 + 40692)).fmod 2147483399
def DG (x : Int) : Int := (DG3 x).fdiv 16
theorem fm_mod (x : Int) : DG1 (x.fmod 2147483647) = DG1 x := by
  unfold DG1
  rw [Int.fmod_eq_emod_of_nonneg _ (by decide), Int.fmod_eq_emod_of_nonneg _ (by decide), Int.fmod_eq_emod_of_nonneg _ (by decide), Int.mul_emod, Int.emod_emod_of_dvd _ (Int.dvd_refl _), ← Int.mul_emod]
theorem DG_mod (x : Int) : DG (x.fmod 2147483647) = DG x := by
  unfold DG DG3 DG2
  rw [fm_mod]
/-- one draw -/
structure Drew (h : Hr) (n j : Int) (h' : Hr) : Prop where
  j0 : 0 ≤ j
  j1 : j < n
  le : h'.w ≤ h.w
  lt : 2 ≤ n → 0 < h.w → h'.w < h.w
  orb : h.w = 0 → h'.w = 0 ∧ h'.x = (h.x + 7919).fmod 2147483647 ∧ j = (DG h'.x).fmod n
def DrOk (dr : List D → Store → Res D) : Prop := ∀ (h : Hr) (rest : Store) (n : Int), 0 < n → n < 1073741824 → Sat (dr [.ref 1, .int n] (RS h rest)) (fun d t => ∃ j h', d = .int j ∧ t = RS h' rest ∧ Drew h n j h') NoX
theorem w_zero {h : Hr} (e : h.w = 0) : h.l = 0 ∧ h.cells.length ≤ h.p.toNat := by
  unfold Hr.w at e
  have h1 : bln h.l.toNat = 0 := by omega
  have h2 : ((h.cells.drop h.p.toNat).map fun c => bln c.toNat + 1).sum = 0 := by omega
  constructor
  · have := bln_le.mp (Nat.le_of_eq h1)
    have := h.hl
    omega
  · cases q : h.cells.drop h.p.toNat with
    | nil => simpa using q
    | cons c cs => rw [q] at h2; simp at h2
/-- a digit of a great cell -/
theorem drew_digit {h h' : Hr} {n : Int} (hn : 0 < n) {c : Int} (hc : 0 < c) (ec : h'.cells = h.cells) (el : h'.l = c.fdiv n) (e : (h.l = c ∧ h'.p = h.p) ∨ (h.l = 0 ∧ h'.p = h.p + 1 ∧ h.cells[h.p.toNat]? = some c)) : Drew h n (c.fmod n) h' := by
  have hb : c.fdiv n = c / n := Int.fdiv_eq_ediv_of_nonneg _ (by omega)
  have ht : (c / n).toNat = c.toNat / n.toNat := by
    obtain ⟨a, rfl⟩ := Int.eq_ofNat_of_zero_le (show 0 ≤ c by omega)
    obtain ⟨b, rfl⟩ := Int.eq_ofNat_of_zero_le (show 0 ≤ n by omega)
    rw [Int.toNat_natCast, Int.toNat_natCast, ← Int.natCast_ediv, Int.toNat_natCast]
  have hle : bln (c.toNat / n.toNat) ≤ bln c.toNat := bln_mono (Nat.div_le_self _ _)
  rcases e with ⟨e1, e2⟩ | ⟨e1, e2, e3⟩
  · have hw : h.w = bln c.toNat + ((h.cells.drop h.p.toNat).map fun c => bln c.toNat + 1).sum := by unfold Hr.w; rw [e1]
    have hw' : h'.w = bln (c.toNat / n.toNat) + ((h.cells.drop h.p.toNat).map fun c => bln c.toNat + 1).sum := by
      unfold Hr.w; rw [el, ec, e2, hb, ht]
    refine ⟨(fm_lt c hn).1, (fm_lt c hn).2, by omega, fun h2 _ => ?_, fun z => ?_⟩
    · have := bln_div (a := c.toNat) (n := n.toNat) (by omega) (by omega)
      omega
    · have := (w_zero z).1
      omega
  · have hd : h.cells.drop h.p.toNat = c :: h.cells.drop (h.p.toNat + 1) := by
      obtain ⟨h1, h2⟩ := List.getElem?_eq_some_iff.mp e3
      rw [List.drop_eq_getElem_cons h1, h2]
    have hp' : h'.p.toNat = h.p.toNat + 1 := by have := h.hp; omega
    have hw : h.w = (bln c.toNat + 1) + ((h.cells.drop (h.p.toNat + 1)).map fun c => bln c.toNat + 1).sum := by
      unfold Hr.w; rw [e1, hd]; simp [bln]
    have hw' : h'.w = bln (c.toNat / n.toNat) + ((h.cells.drop (h.p.toNat + 1)).map fun c => bln c.toNat + 1).sum := by
      unfold Hr.w; rw [el, ec, hp', hb, ht]
    exact ⟨(fm_lt c hn).1, (fm_lt c hn).2, by omega, fun _ _ => by omega, fun z => by omega⟩
/-- a mixed number -/
theorem drew_mix {h h' : Hr} {n : Int} (hn : 0 < n) (h0 : h.l = 0) (ec : h'.cells = h.cells) (el : h'.l = 0) (ek : h'.k = h.k + 1) (e : (h'.p = h.p ∧ h'.m = h.m ∧ h.cells.length ≤ h.p.toNat) ∨ (h'.p = h.p + 1 ∧ h.p.toNat < h.cells.length)) : Drew h n ((DG (h'.m + 7919 * h'.k)).fmod n) h' := by
  rcases e with ⟨e1, e2, e3⟩ | ⟨e1, e2⟩
  · have hw : h.w = 0 := by
      unfold Hr.w
      rw [h0, List.drop_eq_nil_of_le e3]
      rfl
    have hw' : h'.w = 0 := by
      unfold Hr.w
      rw [el, ec, e1, List.drop_eq_nil_of_le e3]
      rfl
    refine ⟨(fm_lt _ hn).1, (fm_lt _ hn).2, by omega, fun _ z => by omega, fun _ => ⟨hw', ?_, ?_⟩⟩
    · unfold Hr.x
      rw [e2, ek, Int.fmod_eq_emod_of_nonneg _ (by decide), Int.fmod_eq_emod_of_nonneg _ (by decide), Int.fmod_eq_emod_of_nonneg _ (by decide), Int.emod_add_emod]
      congr 1
      omega
    · unfold Hr.x
      rw [DG_mod]
  · obtain ⟨c, hc⟩ : ∃ c, h.cells[h.p.toNat]? = some c := ⟨_, List.getElem?_eq_getElem e2⟩
    have hd : h.cells.drop h.p.toNat = c :: h.cells.drop (h.p.toNat + 1) := by
      obtain ⟨h1, h2⟩ := List.getElem?_eq_some_iff.mp hc
      rw [List.drop_eq_getElem_cons h1, h2]
    have hp' : h'.p.toNat = h.p.toNat + 1 := by have := h.hp; omega
    have hw : h.w = (bln c.toNat + 1) + ((h.cells.drop (h.p.toNat + 1)).map fun c => bln c.toNat + 1).sum := by
      unfold Hr.w; rw [h0, hd]; simp [bln]
    have hw' : h'.w = ((h.cells.drop (h.p.toNat + 1)).map fun c => bln c.toNat + 1).sum := by
      unfold Hr.w; rw [el, ec, hp']; simp [bln]
    exact ⟨(fm_lt _ hn).1, (fm_lt _ hn).2, by omega, fun _ _ => by omega, fun z => by omega⟩
/-! the store -/
def WM : Nat := 134217728
def HdR (s : Store) : Prop := ∃ h rest, s = RS h rest ∧ h.w ≤ WM
instance : HK where
  B := 2
  Hd := HdR
  two := Nat.le_refl _
  app := fun {s} h o => by
    obtain ⟨h, rest, rfl, hw⟩ := h; exact ⟨h, rest ++ [o], rfl, hw⟩
  set := fun {s} h {n} hn o => by
    obtain ⟨h, rest, rfl, hw⟩ := h
    match n, hn with
    | n + 2, _ => exact ⟨h, rest.set n o, rfl, hw⟩
  len := fun {s} h => by
    obtain ⟨h, rest, rfl, _⟩ := h; simp
  tab := fun {s} h => by
    obtain ⟨h, rest, rfl, _⟩ := h; rfl
/-- the hand h is in the store -/
def At (h : Hr) (s : Store) : Prop := (∃ rest, s = RS h rest) ∧ h.w ≤ WM ∧ Good s
theorem At.hd {h : Hr} {s : Store} (a : At h s) : Hd s := by
  obtain ⟨⟨rest, e⟩, hw, g⟩ := a
  exact ⟨⟨h, rest, e, hw⟩, g⟩
theorem Hd.at {s : Store} (a : Hd s) : ∃ h, At h s := by
  obtain ⟨⟨h, rest, e, hw⟩, g⟩ := a
  exact ⟨h, ⟨rest, e⟩, hw, g⟩
theorem rs_get (h h' : Hr) (rest : Store) (n : Nat) (hn : HK.B ≤ n) : (RS h' rest)[n]? = (RS h rest)[n]? := by
  have hn : 2 ≤ n := hn
  match n, hn with
  | n + 2, _ => rfl
theorem draw_at {dr : List D → Store → Res D} (ok : DrOk dr) {h : Hr} {s : Store} (a : At h s) {n : Int} (hn : 0 < n) (hb : n < 1073741824) {P : D → Store → Prop} {X : XP} (k : ∀ j h' t, Drew h n j h' → At h' t → Gr s t → P (.int j) t) : Sat (dr [.ref 1, .int n] s) P X := by
  obtain ⟨⟨rest, rfl⟩, hw, hg⟩ := a
  refine (ok h rest n hn hb).mono (fun d t z => ?_) fun _ _ _ z => z.elim
  obtain ⟨j, h', rfl, rfl, dd⟩ := z
  exact k j h' _ dd ⟨⟨rest, rfl⟩, Nat.le_trans dd.le hw, hg.same fun m hm => rs_get h h' rest m hm⟩ (.of (Nat.le_refl _) fun m hm _ => rs_get h h' rest m hm)
theorem draw_hd {dr : List D → Store → Res D} (ok : DrOk dr) {s : Store} (hd : Hd s) {n : Int} (hn : 0 < n) (hb : n < 1073741824) {P : D → Store → Prop} {X : XP} (k : ∀ j t, 0 ≤ j → j < n → Hd t → Gr s t → P (.int j) t) : Sat (dr [.ref 1, .int n] s) P X := by
  obtain ⟨h, a⟩ := hd.at
  exact draw_at ok a hn hb fun j h' t dd a' gr => k j t dd.j0 dd.j1 a'.hd gr
/-- so many draws -/
structure Ev (h0 : Hr) (t : Nat) (h : Hr) : Prop where
  le : h.w ≤ h0.w
  lt : 0 < h0.w → 0 < t → h.w < h0.w
  orb : h0.w = 0 → h.w = 0 ∧ h.x = (h0.x + 7919 * t).fmod 2147483647
/-- what the t-th draw tells, where all is mixed -/
def dg (x : Int) (t : Nat) (n : Int) : Int := (DG (x + 7919 * t)).fmod n
theorem x_mod (h : Hr) : h.x.fmod 2147483647 = h.x := by
  unfold Hr.x
  rw [Int.fmod_eq_emod_of_nonneg _ (by decide), Int.fmod_eq_emod_of_nonneg _ (by decide)]
  exact Int.emod_emod_of_dvd _ (Int.dvd_refl _)
theorem Ev.zero (h : Hr) : Ev h 0 h := ⟨Nat.le_refl _, fun _ z => absurd z (by decide), fun e => ⟨e, by simp [x_mod]⟩⟩
theorem Ev.step {h0 h h' : Hr} {t : Nat} {n j : Int} (e : Ev h0 t h) (d : Drew h n j h') (hn : 2 ≤ n) : Ev h0 (t + 1) h' ∧ (h0.w = 0 → j = dg h0.x (t + 1) n) := by
  have key : h0.w = 0 → h'.w = 0 ∧ h'.x = (h0.x + 7919 * ((t + 1 : Nat) : Int)).fmod 2147483647 ∧ j = dg h0.x (t + 1) n := fun z => by
    obtain ⟨e1, e2⟩ := e.orb z
    obtain ⟨d1, d2, d3⟩ := d.orb e1
    have e3 : h'.x = (h0.x + 7919 * ((t + 1 : Nat) : Int)).fmod 2147483647 := by
      rw [d2, e2, Int.fmod_eq_emod_of_nonneg _ (by decide), Int.fmod_eq_emod_of_nonneg _ (by decide), Int.fmod_eq_emod_of_nonneg _ (by decide), Int.emod_add_emod]
      congr 1
      omega
    refine ⟨d1, e3, ?_⟩
    rw [d3, e3, DG_mod]
    rfl
  refine ⟨⟨Nat.le_trans d.le e.le, fun hw _ => ?_, fun z => ⟨(key z).1, (key z).2.1⟩⟩, fun z => (key z).2.2⟩
  by_cases c : 0 < h.w
  · exact Nat.lt_of_lt_of_le (d.lt hn c) e.le
  · have := d.le
    omega
/-! going round -/
def dist (r x : Int) : Nat := (((r - x) * 786425379).emod 2147483647).toNat
def mu (r : Int) (h : Hr) : Nat := if h.w = 0 then dist r h.x else 2147483647 + h.w
theorem dist_lt (r x : Int) : dist r x < 2147483647 := by
  unfold dist
  have h1 := Int.emod_nonneg ((r - x) * 786425379) (show (2147483647 : Int) ≠ 0 by decide)
  have h2 := Int.emod_lt_of_pos ((r - x) * 786425379) (show (0 : Int) < 2147483647 by decide)
  have e : ((r - x) * 786425379).emod 2147483647 = ((r - x) * 786425379) % 2147483647 := rfl
  rw [e]
  omega
theorem dist_spec {r x : Int} (hx : 0 ≤ x ∧ x < 2147483647) (t : Nat) (h : dist r x = t) : (x + 7919 * (t : Int)) % 2147483647 = r % 2147483647 ∧ x = (r - 7919 * (t : Int)) % 2147483647 := by
  have e : ((t : Nat) : Int) = ((r - x) * 786425379) % 2147483647 := by
    rw [← h]
    unfold dist
    exact Int.toNat_of_nonneg (Int.emod_nonneg _ (by decide))
  have e2 : (7919 * (t : Int)) % 2147483647 = (r - x) % 2147483647 := by
    rw [e, Int.mul_emod, Int.emod_emod_of_dvd _ (Int.dvd_refl _), ← Int.mul_emod]
    have : 7919 * ((r - x) * 786425379) = (r - x) + 2147483647 * ((r - x) * 2900) + (r - x) * (7919 * 786425379 - 1 - 2147483647 * 2900) := by grind
    rw [this]
    have h9 : (7919 * 786425379 - 1 - 2147483647 * 2900 : Int) = 0 := by decide
    rw [h9, Int.mul_zero, Int.add_zero, Int.add_mul_emod_self_left]
  constructor
  · rw [Int.add_emod, e2, ← Int.add_emod]
    congr 1
    omega
  · rw [Int.sub_emod, e2, ← Int.sub_emod, show r - (r - x) = x by omega]
    exact (Int.emod_eq_of_lt hx.1 hx.2).symm
theorem x_range (h : Hr) : 0 ≤ h.x ∧ h.x < 2147483647 := by
  unfold Hr.x
  exact ⟨(fm_lt _ (by decide)).1, (fm_lt _ (by decide)).2⟩
/-- so many draws on, nearer -/
theorem dist_step {r x : Int} (hx : 0 ≤ x ∧ x < 2147483647) {t : Nat} (ht : t ≤ dist r x) : dist r ((x + 7919 * (t : Int)).fmod 2147483647) = dist r x - t := by
  obtain ⟨d, hd⟩ : ∃ d, dist r x = d := ⟨_, rfl⟩
  have hlt := dist_lt r x
  rw [hd] at ht hlt ⊢
  have e1 := (dist_spec hx d hd).1
  have y0 : 0 ≤ (x + 7919 * (t : Int)).fmod 2147483647 ∧ (x + 7919 * (t : Int)).fmod 2147483647 < 2147483647 := ⟨(fm_lt _ (by decide)).1, (fm_lt _ (by decide)).2⟩
  obtain ⟨d', hd'⟩ : ∃ d', dist r ((x + 7919 * (t : Int)).fmod 2147483647) = d' := ⟨_, rfl⟩
  have hlt' := dist_lt r ((x + 7919 * (t : Int)).fmod 2147483647)
  rw [hd'] at hlt' ⊢
  have e2 := (dist_spec y0 d' hd').1
  rw [Int.fmod_eq_emod_of_nonneg _ (by decide), Int.emod_add_emod] at e2
  -- both come to r
  have e3 : (7919 * ((d : Int) - t - d')) % 2147483647 = 0 := by
    have : (x + 7919 * (d : Int)) % 2147483647 = (x + 7919 * (t : Int) + 7919 * (d' : Int)) % 2147483647 := by rw [e1, e2]
    have h2 := Int.emod_emod_of_dvd
    have h3 : ((x + 7919 * (d : Int)) - (x + 7919 * (t : Int) + 7919 * (d' : Int))) % 2147483647 = 0 := by
      rw [Int.sub_emod, this, ← Int.sub_emod, Int.sub_self]; rfl
    rw [← h3]
    congr 1
    omega
  have e4 : ((d : Int) - t - d') % 2147483647 = 0 := by
    have h5 : (786425379 * (7919 * ((d : Int) - t - d'))) % 2147483647 = 0 := by rw [Int.mul_emod, e3]; rfl
    have : 786425379 * (7919 * ((d : Int) - t - d')) = ((d : Int) - t - d') + 2147483647 * (((d : Int) - t - d') * 2900) + ((d : Int) - t - d') * (7919 * 786425379 - 1 - 2147483647 * 2900) := by grind
    rw [this] at h5
    have h9 : (7919 * 786425379 - 1 - 2147483647 * 2900 : Int) = 0 := by decide
    rw [h9, Int.mul_zero, Int.add_zero, Int.add_mul_emod_self_left] at h5
    exact h5
  clear e1 e2 e3 y0 hd hd'
  omega
/-- behind a try of T draws at most that told nothing: nearer -/
theorem mu_less {r : Int} {h0 h : Hr} {t T : Nat} (e : Ev h0 t h) (ht : 0 < t) (hT : t ≤ T) (hw : h0.w = 0 → T ≤ dist r h0.x) : mu r h < mu r h0 := by
  unfold mu
  by_cases c : h0.w = 0
  · obtain ⟨e1, e2⟩ := e.orb c
    rw [if_pos c, if_pos e1, e2, dist_step (x_range h0) (Nat.le_trans hT (hw c))]
    have := hw c
    omega
  · rw [if_neg c]
    have := e.lt (by omega) ht
    have := dist_lt r h.x
    split <;> omega
theorem mu_lt (r : Int) {h : Hr} (hw : h.w ≤ WM) : mu r h < 4294967296 := by
  unfold mu
  have := dist_lt r h.x
  have e : WM = 134217728 := rfl
  split <;> omega
/-- a loop with a measure that is told -/
theorem sb_whileX {p : Tx} {A : Bk} {en : En} {s : Store} {N : En → Store → Prop} {R : D → Store → Prop} {Y : XS} (I : Nat → En → Store → Prop) {m n : Nat} (h0 : I m en s) (hn : m < n) (hs : ∀ m en s, I m en s → Sat (p en s) (fun k t => (k = true → SatB (A en t) (fun en2 u => ∃ m', m' < m ∧ I m' en2 u) R Y) ∧ (k = false → N en t)) (fun c f t => Y c f en t)) : SatB (sWhile n p A en s) N R Y := by
  unfold sWhile
  induction n generalizing m en s with
  | zero => omega
  | succ n ih =>
    simp only [whileN]
    refine sb_of ((hs m en s h0).imp fun x t h => ?_)
    cases x with
    | false => exact h.2 rfl
    | true =>
      have := h.1 rfl
      simp only [if_true]
      revert this
      cases A en t with
      | next en2 s2 =>
        rintro ⟨m', hm', hI⟩
        exact ih hI (by omega)
      | ret d s2 => exact fun h => h
      | exc c f s2 => exact fun h => h
      | brk en2 s2 => exact fun h => h.elim
      | cont en2 s2 => exact fun h => h.elim
      | stuck => exact fun h => h.elim
end W
end
section
set_option Elab.async false
set_option linter.all false
set_option maxRecDepth 100000
set_option maxHeartbeats 4000000
/-! The second hand: its draws. -/
namespace W
open Il PySem
open G (tn popW half hullL lo up edg)

theorem ixc {cells : List Int} {p : Int} (hp : 0 ≤ p) {c : Int} (h : cells[p.toNat]? = some c) (s : Store) : oIx s (.lst (cells.map D.int)) (.int p) = some (.int c) := by
  have hl := (List.getElem?_eq_some_iff.mp h).1
  simp only [oIx, deref, atI, ixN, List.length_map]
  rw [if_pos hp, if_pos (by omega)]
  simp only [Option.bind_some, List.getElem?_map, h, Option.map_some]
theorem DG_eq (a b : Int) : DG (a + 7919 * b) = (((((a + 7919 * b) * 48271).fmod 2147483647 * ((((a + 7919 * b) * 48271).fmod 2147483647).fdiv 1009 + 69621)).fmod 2147483647 * (((((a + 7919 * b) * 48271).fmod 2147483647 * ((((a + 7919 * b) * 48271).fmod 2147483647).fdiv 1009 + 69621)).fmod 2147483647).fdiv 2003 + 40692)).fmod 2147483399).fdiv 16 := rfl
local macro_rules | `(tactic| walk_at "len") => `(tactic| first | exact fm_small _ | decide | assumption | omega)
theorem p18 (s : Store) : oPow s (.int 10) (.int 18) = some (.int (10 ^ 18)) := by
  simp only [oPow]
  rw [if_pos (by decide)]
  rfl
local macro_rules | `(tactic| walk_at "op") => `(tactic| exact p18 _)
theorem dr3 : DrOk m_law_draw_3 := by
  intro h rest n hn hb
  obtain ⟨cells, p, l, m, k, hp, hl, hc⟩ := h
  have n0 : n ≠ 0 := by omega
  have n1 : n.natAbs < 1073741824 := by omega
  unfold m_law_draw_3 b_law_draw_3
  -- behind the cell
  have digit : ∀ {p' l' m' : Int} (hp' : 0 ≤ p') (hl' : 0 < l') {x : Option Sl}, ((l = l' ∧ p' = p) ∨ (l = 0 ∧ p' = p + 1 ∧ cells[p.toNat]? = some l')) → ∃ j h', D.int (l'.fmod n) = .int j ∧ RS ⟨cells, p', l'.fdiv n, m', k, hp', Int.fdiv_nonneg (Int.le_of_lt hl') (Int.le_of_lt hn), hc⟩ rest = RS h' rest ∧ Drew ⟨cells, p, l, m, k, hp, hl, hc⟩ n j h' := fun {p' l' m'} hp' hl' {x} e =>
    ⟨_, _, rfl, rfl, drew_digit (h := ⟨cells, p, l, m, k, hp, hl, hc⟩) (h' := ⟨cells, p', l'.fdiv n, m', k, hp', Int.fdiv_nonneg (Int.le_of_lt hl') (Int.le_of_lt hn), hc⟩) hn hl' rfl rfl e⟩
  have mix : ∀ {p' m' : Int} (hp' : 0 ≤ p'), l = 0 → ((p' = p ∧ m' = m ∧ cells.length ≤ p.toNat) ∨ (p' = p + 1 ∧ p.toNat < cells.length)) → ∃ j h', D.int ((DG (m' + 7919 * (k + 1))).fmod n) = .int j ∧ RS ⟨cells, p', 0, m', k + 1, hp', Int.le_refl 0, hc⟩ rest = RS h' rest ∧ Drew ⟨cells, p, l, m, k, hp, hl, hc⟩ n j h' := fun {p' m'} hp' h0 e =>
    ⟨_, _, rfl, rfl, drew_mix (h := ⟨cells, p, l, m, k, hp, hl, hc⟩) (h' := ⟨cells, p', 0, m', k + 1, hp', Int.le_refl 0, hc⟩) hn h0 rfl rfl rfl e⟩
  have hlen : (cells.map D.int).length = cells.length := List.length_map _
  by_cases c0 : l = 0
  · subst c0
    by_cases c1 : p.toNat < cells.length
    · obtain ⟨c, ec⟩ : ∃ c, cells[p.toNat]? = some c := ⟨_, List.getElem?_eq_getElem c1⟩
      have hix := fun s => ixc hp ec s
      have hix1 := hix (RS ⟨cells, p, 0, m, k, hp, hl, hc⟩ rest)
      have c2 : p < ((cells.map D.int).length : Int) := by rw [hlen]; omega
      walk_at "go"
      refine ⟨fun h => ?_, fun h => ?_⟩
      · have h := of_decide_eq_true h
        have hc0 : 0 < c := by omega
        walk_at "go"
        exact digit (p' := p + 1) (by omega) hc0 (x := none) (.inr ⟨rfl, rfl, ec⟩)
      · walk_at "go"
        rw [← DG_eq]
        exact mix (p' := p + 1) (by omega) rfl (.inr ⟨rfl, c1⟩)
    · have c2 : ¬ p < ((cells.map D.int).length : Int) := by rw [hlen]; omega
      walk_at "go"
      rw [← DG_eq]
      exact mix (p' := p) hp rfl (.inl ⟨rfl, rfl, by omega⟩)
  · have hl0 : 0 < l := by omega
    walk_at "go"
    exact digit (p' := p) hp hl0 (x := none) (.inl ⟨rfl, rfl⟩)
/-! the hand -/
theorem sum_le {cs : List Int} {B : Nat} (h : ∀ c ∈ cs, bln c.toNat ≤ B) : (cs.map fun c => bln c.toNat + 1).sum ≤ cs.length * (B + 1) := by
  induction cs with
  | nil => simp
  | cons c cs ih =>
    have h1 := h c (by simp)
    have h2 := ih fun x hx => h x (List.mem_cons_of_mem _ hx)
    simp only [List.map_cons, List.sum_cons, List.length_cons]
    rw [Nat.succ_mul]
    omega
theorem first_hand {ns : List Int} (hl : ns.length ≤ 63) (hb : ∀ z ∈ ns, Builtin.Int.intBits z ≤ 1048576) (a : Int) : ∃ h : Hr, h.cells = (ns.map fun z => if z < 0 then -z else z) ∧ h.p = 0 ∧ h.l = 0 ∧ h.m = a ∧ h.k = 0 ∧ h.w ≤ WM := by
  have habs : ∀ z : Int, (if z < 0 then -z else z) = (z.natAbs : Int) := fun z => by split <;> omega
  refine ⟨⟨ns.map fun z => if z < 0 then -z else z, 0, 0, a, 0, by decide, by decide, fun c hc => ?_⟩, rfl, rfl, rfl, rfl, rfl, ?_⟩
  · obtain ⟨z, _, rfl⟩ := List.mem_map.mp hc
    rw [habs]; omega
  · have h1 := sum_le (cs := ns.map fun z => if z < 0 then -z else z) (B := 1048576) fun c hc => by
      obtain ⟨z, hz, rfl⟩ := List.mem_map.mp hc
      rw [habs, Int.toNat_natCast]
      have := hb z hz
      unfold Builtin.Int.intBits at this
      unfold bln
      split at this
      · rename_i e
        have : z = 0 := by simpa using e
        subst this
        decide
      · rename_i e
        have e2 : z ≠ 0 := by simpa using e
        rw [if_neg (by omega)]
        exact this
    unfold Hr.w
    rw [List.length_map] at h1
    have e : WM = 134217728 := rfl
    have : ns.length * (1048576 + 1) ≤ 63 * 1048577 := Nat.mul_le_mul hl (Nat.le_refl _)
    simp only [Int.toNat_zero, List.drop_zero]
    have e0 : bln 0 = 0 := rfl
    rw [e0]
    omega
theorem hand2_sat {ns : List Int} (hl : ns.length ≤ 63) (hb : ∀ z ∈ ns, Builtin.Int.intBits z ≤ 1048576) {P : D → Store → Prop} {X : XP} (k : ∀ t, Hd t → P (.ref 1) t) : Sat (m_law_hand_2 [.scr (ns.map D.int)] [.tab 1000 lamQ]) P X := by
  have hB : 1000 ≤ BIG := by decide
  have h63 : cut (ns.map D.int) none (some 63) = ns.map D.int := by
    simp only [cut, sIx, List.drop_zero, Nat.sub_zero]
    rw [if_neg (by decide)]
    exact List.take_of_length_le (by simp; omega)
  obtain ⟨h, e1, e2, e3, e4, e5, e6⟩ := first_hand hl hb (1 + (ns.length : Int))
  unfold m_law_hand_2 b_law_hand_2
  walk_at "go"
  rw [h63]
  refine sa_compT D.int (fun z => .int (if z < 0 then -z else z)) (by omega) (fun z hz => ⟨_, rfl, ?_⟩) ?_
  · walk_at "go"
    exact ⟨rfl, rfl⟩
  walk_at "go"
  refine k _ ⟨⟨h, [], ?_, e6⟩, good_short (Nat.le_refl _)⟩
  simp [RS, e1, e2, e3, e4, e5, List.map_map, Function.comp_def]
theorem any2_sat {s : Store} (hd : Hd s) {ds : List D} (h0 : ds ≠ []) (hb : ds.length < 1000) {P : D → Store → Prop} {X : XP} (k : ∀ d t, d ∈ ds → Hd t → Gr s t → P d t) : Sat (m_law_any_2 [.ref 1, .lst ds] s) P X := by
  have hpos : 0 < ds.length := List.length_pos_iff.mpr h0
  unfold m_law_any_2 b_law_any_2
  walk_at "go"
  refine draw_hd dr3 hd (by omega) (by omega) fun j t j1 j2 hd' gr => ?_
  obtain ⟨hlt, ei⟩ := ix_l j1 j2 t
  exact ex1 ei (k _ t (List.getElem_mem _) hd' gr)
theorem law_hull3_sat {ps : List P} (hp : ∀ a ∈ ps, smallP a) (hl : ps.length < 64) {d : D} (hd : d = .lst (ps.map pairD) ∨ d = .tup (ps.map pairD)) {s : Store} {Q : D → Store → Prop} {X : XP} (k : Q (hullD ps) s) : Sat (m_law_hull_3 [d] s) Q X := by
  have h0 := sortU_len ps
  have m1 : ∀ a ∈ sortU ps, smallP a := fun a ha => hp a (sortU_mem.mp ha)
  have m2 : ∀ a ∈ (sortU ps).reverse, smallP a := fun a ha => m1 a (List.mem_reverse.mp ha)
  have l1 := half_len (sortU ps)
  have l2 := half_len (sortU ps).reverse
  have hB : 10000 < BIG := by decide
  rw [List.length_reverse] at l2
  have hs : lSortSet s d = some ((sortU ps).map pairD) := by
    rcases hd with rfl | rfl
    · exact sortSet_l hl s
    · simp [lSortSet, deref, pairsOf_map, hl]
  have hc : ((half (sortU ps)).map pairD).length + ((half (sortU ps).reverse).map pairD).length ≤ BIG := by simp only [List.length_map]; omega
  unfold m_law_hull_3 b_law_hull_3
  walk_at "go"
  rw [← List.map_reverse]
  change SatB (forL (.nm 5) (HB m_law_turn 4 5) _ _ _) _ _ _
  refine hb_sat law_turn_ok (by decide) (Nat.le_of_ble_eq_true rfl) (Nat.le_of_ble_eq_true rfl) m1 (by omega) rfl fun x => ?_
  walk_at "go"
  rw [cutHalf]
  walk_at "go"
  change SatB (forL (.nm 5) (HB m_law_turn 4 5) _ _ _) _ _ _
  refine hb_sat law_turn_ok (by decide) (Nat.le_of_ble_eq_true rfl) (Nat.le_of_ble_eq_true rfl) m2 (by rw [List.length_reverse]; omega) rfl fun x => ?_
  walk_at "go"
  rw [cutHalf]
  walk_at "go"
  have e : ((half (sortU ps)).map pairD ++ (half (sortU ps).reverse).map pairD) = (hullL ps).map pairD := by simp [hullL]
  have e2 : ((hullL ps).map pairD).length = (hullL ps).length := List.length_map _
  rw [e, e2]
  refine ⟨fun h => ?_, fun h => ?_⟩
  · walk_at "go"
    have h := of_decide_eq_true h
    unfold hullD at k
    rw [if_pos (by omega)] at k
    exact k
  · walk_at "go"
    have h := of_decide_eq_false h
    unfold hullD at k
    rw [if_neg (by omega)] at k
    exact k
/-! corners -/
def gotQ (x0 wide : Int) (n : Nat) : List P := (List.range n).map fun i => (dg x0 (2 + 2 * i) (wide + 1), dg x0 (3 + 2 * i) (wide + 1))
def winB (wide r : Int) : Bool := (List.range 17).all fun d =>
  let x0 := (r - 7919 * (d : Int)) % 2147483647
  let qs := gotQ x0 wide (3 + dg x0 1 6).toNat
  qs.any fun a => qs.any fun b => qs.any fun c => decide (tn a b c ≠ 0)
theorem gotQ_succ (x0 wide : Int) (n : Nat) : gotQ x0 wide (n + 1) = gotQ x0 wide n ++ [(dg x0 (2 + 2 * n) (wide + 1), dg x0 (3 + 2 * n) (wide + 1))] := by
  unfold gotQ
  rw [List.range_succ, List.map_append]
  rfl
theorem win_use {wide r : Int} (h : winB wide r = true) {h0 : Hr} {n : Nat} (hn : (n : Int) = 3 + dg h0.x 1 6) (hd : dist r h0.x < 17) : ∃ a ∈ gotQ h0.x wide n, ∃ b ∈ gotQ h0.x wide n, ∃ c ∈ gotQ h0.x wide n, tn a b c ≠ 0 := by
  have hx := (dist_spec (x_range h0) _ rfl (r := r)).2
  have := List.all_eq_true.mp h (dist r h0.x) (List.mem_range.mpr hd)
  dsimp only at this
  rw [← hx] at this
  have en : (3 + dg h0.x 1 6).toNat = n := by omega
  rw [en] at this
  simp only [List.any_eq_true, decide_eq_true_eq] at this
  obtain ⟨a, ha, b, hb, c, hc, e⟩ := this
  exact ⟨a, ha, b, hb, c, hc, e⟩
/-- corners drawn in a square at x, y -/
structure Drw (x y wide : Int) (C : List P) : Prop where
  lo : 3 ≤ C.length
  hi : C.length ≤ 8
  sq : ∀ c ∈ C, x ≤ c.1 ∧ c.1 ≤ x + wide ∧ y ≤ c.2 ∧ c.2 ≤ y + wide
  hull : hullL C = C
theorem Drw.right {x y wide : Int} {C : List P} (h : Drw x y wide C) (hx : -100 ≤ x ∧ x + wide ≤ 100) (hy : -100 ≤ y ∧ y + wide ≤ 100) : Right C ∧ Wd wide C := by
  refine ⟨⟨h.lo, by have := h.hi; omega, fun c hc => ?_, h.hull⟩, fun a ha b hb => ?_⟩
  · have := h.sq c hc
    simp only [inDot, pairD, isDot, inR, Bool.and_eq_true, decide_eq_true_eq]
    omega
  · have := h.sq a ha
    have := h.sq b hb
    omega
theorem corners3_sat {s : Store} (hd : Hd s) {wide r : Int} (hw : 1 ≤ wide ∧ wide ≤ 40) (hwin : winB wide r = true) {Q : D → Store → Prop} {X : XP} (k : ∀ C t, Right C → Wd wide C → C.length ≤ 8 → (∀ c ∈ C, -60 ≤ c.1 ∧ c.1 ≤ 40 + wide ∧ -60 ≤ c.2 ∧ c.2 ≤ wide) → Hd t → Gr s t → Q (tupP C) t) : Sat (m_law_corners_3 [.ref 1, .int wide] s) Q X := by
  unfold m_law_corners_3 b_law_corners_3
  walk_at "go"
  refine any2_sat hd (by simp) (by simp) fun dx t1 mx hd1 gr1 => ?_
  walk_at "go"
  refine any2_sat hd1 (by simp) (by simp) fun dy t2 my hd2 gr2 => ?_
  obtain ⟨x, rfl, hx, hx2⟩ : ∃ x : Int, dx = .int x ∧ (-100 ≤ x ∧ x + wide ≤ 100) ∧ (-60 ≤ x ∧ x ≤ 40) := by
    simp only [List.mem_cons, List.not_mem_nil, or_false] at mx
    rcases mx with e | e | e | e <;> subst e <;> exact ⟨_, rfl, by omega⟩
  obtain ⟨y, rfl, hy, hy2⟩ : ∃ y : Int, dy = .int y ∧ (-100 ≤ y ∧ y + wide ≤ 100) ∧ (-60 ≤ y ∧ y ≤ 0) := by
    simp only [List.mem_cons, List.not_mem_nil, or_false] at my
    rcases my with e | e | e | e <;> subst e <;> exact ⟨_, rfl, by omega⟩
  obtain ⟨h2, a2⟩ := hd2.at
  have g2 := gr1.trans gr2
  walk_at "go"
  have hmu := mu_lt r a2.2.1
  refine sb_whileX (fun m en u => ∃ (h : Hr) (v2 : D) (y5 y6 : Option Sl), At h u ∧ Gr s u ∧ en = [some (.fro (.ref 1)), some (.fro (.int wide)), some (.fro v2), some (.fro (.int x)), some (.fro (.int y)), y5, y6] ∧ ((v2 = .non ∧ m = mu r h + 1) ∨ ∃ C, v2 = tupP C ∧ Drw x y wide C ∧ m = 0)) (m := mu r h2 + 1) ⟨h2, .non, none, none, a2, g2, rfl, .inl ⟨rfl, rfl⟩⟩ (by omega) ?_
  rintro m en u ⟨h0, v2, y5, y6, a0, gr0, rfl, hv⟩
  rcases hv with ⟨rfl, rfl⟩ | ⟨C, rfl, hC, rfl⟩
  · walk_at "go"
    refine draw_at dr3 a0 (by decide) (by decide) fun j hA tA dA aA grA => ?_
    obtain ⟨ev1, key1⟩ := (Ev.zero h0).step dA (by decide)
    have j0 := dA.j0
    have j1 := dA.j1
    walk_at "go"
    refine sb_forI (fun ds en u => ∃ (h : Hr) (qs : List P) (y6 : Option Sl), At h u ∧ Gr s u ∧ Ev h0 (1 + 2 * qs.length) h ∧ en = [some (.fro (.ref 1)), some (.fro (.int wide)), some (.fro .non), some (.fro (.int x)), some (.fro (.int y)), some (.own (qs.map pairD)), y6] ∧ (∀ q ∈ qs, x ≤ q.1 ∧ q.1 ≤ x + wide ∧ y ≤ q.2 ∧ q.2 ≤ y + wide) ∧ (h0.w = 0 → qs = (gotQ h0.x wide qs.length).map (G.sh (x, y))) ∧ qs.length + ds.length = (3 + j).toNat) _ ⟨hA, [], y6, aA, gr0.trans grA, ev1, rfl, by simp, fun _ => rfl, by simp [rangeL]⟩ ?_ ?_
    · rintro d ds en u ⟨h, qs, z6, a, gr, ev, rfl, hq, hgot, hlen⟩
      refine ⟨_, rfl, ?_⟩
      simp only [List.length_cons] at hlen
      have hB : 1000 ≤ BIG := by decide
      have hlt : (qs.map pairD).length < BIG := by rw [List.length_map]; omega
      walk_at "go"
      refine draw_at dr3 a (by omega) (by omega) fun p1 hB1 tB1 d1 aB1 grB1 => ?_
      obtain ⟨ev2, key2⟩ := ev.step d1 (by omega)
      walk_at "go"
      refine draw_at dr3 aB1 (by omega) (by omega) fun p2 hB2 tB2 d2 aB2 grB2 => ?_
      obtain ⟨ev3, key3⟩ := ev2.step d2 (by omega)
      walk_at "go"
      have q0 := d1.j0
      have q1 := d1.j1
      have q2 := d2.j0
      have q3 := d2.j1
      refine ⟨hB2, qs ++ [(x + p1, y + p2)], some (.fro d), aB2, gr.trans (grB1.trans grB2), ?_, by simp [pairD], fun q hq' => ?_, fun z => ?_, by simp only [List.length_append, List.length_cons, List.length_nil]; omega⟩
      · have e : 1 + 2 * (qs ++ [(x + p1, y + p2)]).length = 1 + 2 * qs.length + 1 + 1 := by simp only [List.length_append, List.length_cons, List.length_nil]; omega
        rw [e]; exact ev3
      · rcases List.mem_append.mp hq' with e | e
        · exact hq q e
        · rw [List.mem_singleton.mp e]; dsimp only; omega
      · have e : (qs ++ [(x + p1, y + p2)]).length = qs.length + 1 := by simp
        rw [e, gotQ_succ, List.map_append, ← hgot z]
        congr 1
        have k2 := key2 z
        have k3 := key3 z
        rw [show 1 + 2 * qs.length + 1 = 2 + 2 * qs.length by omega] at k2
        rw [show 1 + 2 * qs.length + 1 + 1 = 3 + 2 * qs.length by omega] at k3
        rw [k2, k3]
        simp only [List.map_cons, List.map_nil, G.sh, List.cons.injEq, Prod.mk.injEq, and_true]
        omega
    · rintro en u ⟨h, qs, z6, a, gr, ev, rfl, hq, hgot, hlen⟩
      simp only [List.length_nil, Nat.add_zero] at hlen
      have hsm : ∀ q ∈ qs, smallP q := fun q hq' => by
        have := hq q hq'
        unfold smallP
        omega
      walk_at "go"
      refine law_hull3_sat hsm (by omega) (.inl rfl) ?_
      by_cases c : 2 < (hullL qs).length
      · have e : hullD qs = tupP (hullL qs) := by unfold hullD; rw [if_pos c]
        rw [e]
        walk_at "go"
        have hle := G.hull_len_le c
        exact ⟨0, by omega, h, _, _, _, a, gr, rfl, .inr ⟨_, rfl, ⟨c, by omega, fun z hz => hq z (G.hull_mem hz), G.hull_idem fun e => by rw [e] at c; simp at c⟩, rfl⟩⟩
      · have e : hullD qs = .non := by unfold hullD; rw [if_neg (by omega)]
        rw [e]
        walk_at "go"
        have hless := mu_less (r := r) (T := 17) ev (by omega) (by omega) fun z => by
          apply Classical.byContradiction
          intro hlt
          obtain ⟨a', ha, b', hb, c', hc, hne⟩ := win_use hwin (h0 := h0) (n := qs.length) (by rw [← key1 z]; omega) (by omega)
          have hcol := G.hull_short (S := qs) (by omega) (x := G.sh (x, y) a') (y := G.sh (x, y) b') (z := G.sh (x, y) c') (by rw [hgot z]; exact List.mem_map_of_mem ha) (by rw [hgot z]; exact List.mem_map_of_mem hb) (by rw [hgot z]; exact List.mem_map_of_mem hc)
          rw [G.tn_sh] at hcol
          exact hne hcol
        exact ⟨mu r h + 1, by omega, h, _, _, _, a, gr, rfl, .inl ⟨rfl, rfl⟩⟩
  · walk_at "go"
    obtain ⟨c1, c2⟩ := hC.right hx hy
    exact k C u c1 c2 hC.hi (fun c hc => by have := hC.sq c hc; omega) a0.hd gr0
end W
end
section
set_option Elab.async false
set_option linter.all false
set_option maxRecDepth 100000
set_option maxHeartbeats 1000000
/-! Corners or none: things of any kind. -/
namespace W
open Il PySem
open G (tn popW half hullL lo up edg)

/-- a thing with no instance in sight -/
def nrT (d : D) : Bool := match d with
  | .tup xs => xs.all itemsNR
  | d => notRef d
theorem nrT_ref {d : D} (h : nrT d = true) : notRef d = true := by
  cases d <;> first | rfl | exact h
def dotP : D → P
  | .tup [.int a, .int b] => (a, b)
  | _ => (0, 0)
/-- whether a thing is the corners of a shape -/
def cornersB (d : D) : Bool := match d with
  | .tup xs => tupLen 3 12 d && xs.all isDot && decide (hullL (xs.map dotP) = xs.map dotP)
  | _ => false
theorem isDot_pair {d : D} (h : isDot d = true) : d = pairD (dotP d) ∧ inDot (dotP d) = true := by
  unfold isDot at h
  split at h
  · rename_i a b
    simp only [Bool.and_eq_true] at h
    obtain ⟨h1, h2⟩ := h
    cases a <;> simp only [inR] at h1 <;> try (cases h1)
    cases b <;> simp only [inR] at h2 <;> try (cases h2)
    rename_i x y
    refine ⟨rfl, ?_⟩
    simp only [inDot, pairD, isDot, inR, dotP, Bool.and_eq_true, decide_eq_true_eq] at h1 h2 ⊢
    exact ⟨h1, h2⟩
  · cases h
theorem dots_of {xs : List D} (h : xs.all isDot = true) : xs = (xs.map dotP).map pairD ∧ ∀ p ∈ xs.map dotP, inDot p = true := by
  rw [List.all_eq_true] at h
  constructor
  · rw [List.map_map]
    have : xs.map id = xs.map (pairD ∘ dotP) := List.map_congr_left fun d hd => (isDot_pair (h d hd)).1
    rw [List.map_id] at this
    exact this
  · intro p hp
    obtain ⟨d, hd, rfl⟩ := List.mem_map.mp hp
    exact (isDot_pair (h d hd)).2
/-- corners that are right: just those of which it is told -/
theorem cornersB_right {d : D} (h : cornersB d = true) : ∃ C, Right C ∧ d = tupP C := by
  unfold cornersB at h
  split at h
  · rename_i xs
    simp only [Bool.and_eq_true, decide_eq_true_eq, tupLen] at h
    obtain ⟨⟨⟨h1, h2⟩, h3⟩, h4⟩ := h
    obtain ⟨e1, e2⟩ := dots_of h3
    refine ⟨xs.map dotP, ⟨by rw [List.length_map]; omega, by rw [List.length_map]; omega, e2, h4⟩, ?_⟩
    show D.tup xs = D.tup _
    rw [← e1]
  · cases h
theorem hullD_eq {ps : List P} (h3 : 3 ≤ ps.length) (hp : ∀ p ∈ ps, inDot p = true) (s : Store) : oEq s (hullD ps) (tupP ps) = some (.bl (decide (hullL ps = ps))) := by
  unfold hullD
  split
  · have h1 := pairsT_ok (hullL ps)
    have h2 := pairsT_ok ps
    simp only [oEq, deref, h1, h2, Bool.and_self, if_true, D.eqv, pairs_eqv]
  · rename_i hn
    have h2 := pairsT_ok ps
    have h1 : (D.non).ok = true := rfl
    have e : decide (hullL ps = ps) = false := decide_eq_false fun e => by rw [e] at hn; omega
    rw [e]
    simp only [oEq, deref, h1, h2, Bool.and_self, if_true]
    rfl
theorem all_b (xs : List D) (f : D → Bool) (s : Store) : oAll s (.lst (xs.map fun x => .bl (f x))) = some (.bl (xs.all f)) := by
  have h := boolsOf_map f xs
  simp only [oAll, deref, h, Option.map_some, List.all_map]
  rfl
theorem are_any {d : D} (h : nrT d = true) {s : Store} {Q : D → Store → Prop} {X : XP} (k : Q (.bl (cornersB d)) s) : Sat (m_are_corners [d] s) Q X := by
  have hB : 12 ≤ BIG := by decide
  have hr := nrT_ref h
  unfold m_are_corners b_are_corners
  walk_at "go"
  refine istuple_sat hr ?_
  by_cases ht : tupLen 3 12 d = true
  · rw [ht]
    obtain ⟨xs, rfl⟩ : ∃ xs, d = .tup xs := by
      cases d <;> first | exact ⟨_, rfl⟩ | cases ht
    have hl := ht
    simp only [tupLen, Bool.and_eq_true, decide_eq_true_eq] at hl
    have hx : ∀ x ∈ xs, itemsNR x = true := List.all_eq_true.mp h
    have ha := all_b xs isDot s
    have e0 : cornersB (.tup xs) = (xs.all isDot && decide (hullL (xs.map dotP) = xs.map dotP)) := by
      show (tupLen 3 12 (.tup xs) && xs.all isDot && _) = _
      rw [ht, Bool.true_and]
    rw [e0] at k
    obtain ⟨A, hA⟩ : ∃ A, D.tup xs = A := ⟨_, rfl⟩
    rw [hA]
    walk_at "go"
    refine ⟨xs, .inr hA.symm, ?_⟩
    refine sa_compM (f := fun x => .bl (isDot x)) (by omega) (fun x hx' => ⟨_, rfl, ?_⟩) ?_
    · walk_at "go"
      refine isdot_sat (hx x hx') ?_
      exact ⟨rfl, rfl⟩
    generalize hL : xs.map (fun x => D.bl (isDot x)) = L at *
    walk_at "go"
    cases hd : xs.all isDot with
    | false =>
      rw [hd] at k
      walk_at "go"
      exact k
    | true =>
      rw [hd, Bool.true_and] at k
      obtain ⟨e1, e2⟩ := dots_of hd
      have eA : A = tupP (xs.map dotP) := by rw [← hA]; exact congrArg D.tup e1
      walk_at "go"
      rw [eA]
      refine hull_sat (fun a ha => small_dot (e2 a ha)) (by rw [List.length_map]; omega) ?_
      have he := hullD_eq (ps := xs.map dotP) (by rw [List.length_map]; omega) e2 s
      rw [← eA] at he ⊢
      generalize hullD (xs.map dotP) = HD at *
      walk_at "go"
      exact k
  · have hf : tupLen 3 12 d = false := by simpa using ht
    rw [hf]
    have e0 : cornersB d = false := by
      unfold cornersB
      split
      · rw [hf]; rfl
      · rfl
    rw [e0] at k
    walk_at "go"
    exact k
/-! the law's own look -/
def okJ : D → Bool
  | .ref _ => false
  | .scr _ => false
  | _ => true
theorem okJ_nr {d : D} (h : okJ d = true) : notRef d = true := by
  cases d <;> first | rfl | cases h
def okI (d : D) : Bool := match d with
  | .tup ys => ys.all okJ
  | d => okJ d
def okThg (d : D) : Bool := match d with
  | .tup xs => xs.all okI
  | d => okJ d
theorem okI_nr {d : D} (h : okI d = true) : itemsNR d = true := by
  cases d <;> first | rfl | cases h | skip
  rename_i xs
  show xs.all notRef = true
  exact List.all_eq_true.mpr fun x hx => okJ_nr (List.all_eq_true.mp h x hx)
theorem okT_nr {d : D} (h : okThg d = true) : nrT d = true := by
  cases d <;> first | rfl | cases h | skip
  rename_i xs
  show xs.all itemsNR = true
  exact List.all_eq_true.mpr fun x hx => okI_nr (List.all_eq_true.mp h x hx)
theorem lawin_sat {y : D} (h : okJ y = true) {en : En} {s : Store} (e1 : en[1]? = some (some (.fro y))) : Sat ((xAnd (xOp1 (oIsTy [.int]) (xRd 1)) (xAnd (xNot (xOp1 (oIsTy [.bool]) (xRd 1))) (xChain oLe oLe (xOp1 oNeg (xC (.int 100))) (xRd 1) (xC (.int 100))))) en s) (fun d t => d = .bl (inR (-100) 100 y) ∧ t = s) NoX := by
  cases y with
  | ref n => cases h
  | scr xs => cases h
  | int i =>
    walk_at "go"
    refine ⟨fun h1 => ?_, fun h1 => ?_⟩
    · walk_at "go"
      refine ⟨?_, rfl⟩
      show _ = D.bl (decide (-100 ≤ i) && decide (i ≤ 100))
      rw [h1, Bool.true_and]
    · refine ⟨?_, rfl⟩
      show _ = D.bl (decide (-100 ≤ i) && decide (i ≤ 100))
      rw [h1, Bool.false_and]
  | _ =>
    walk_at "go"
    exact ⟨rfl, rfl⟩
theorem isDot_len {xs : List D} (h : xs.length = 2) : isDot (.tup xs) = xs.all (inR (-100) 100) := by
  match xs, h with
  | [a, b], _ => simp [isDot]
theorem isDot_not {xs : List D} (h : xs.length ≠ 2) : isDot (.tup xs) = false := by
  match xs, h with
  | [], _ => rfl
  | [_], _ => rfl
  | _ :: _ :: _ :: _, _ => rfl
theorem lawdot_sat {x : D} (h : okI x = true) {s : Store} {Q : D → Store → Prop} {X : XP} (k : Q (.bl (isDot x)) s) : Sat (m_law_is_dot [x] s) Q X := by
  have hB : 12 ≤ BIG := by decide
  unfold m_law_is_dot b_law_is_dot
  cases x with
  | tup xs =>
    have ha := all_b xs (inR (-100) 100) s
    have hx : ∀ y ∈ xs, okJ y = true := List.all_eq_true.mp h
    have e1 := @isDot_len xs
    have e2 := @isDot_not xs
    have hlen : oLen s (.tup xs) = some (.int (xs.length : Int)) := rfl
    have hty : oIsTy [.tuple] s (.tup xs) = some (.bl true) := rfl
    have hA : ∃ A, D.tup xs = A := ⟨_, rfl⟩
    obtain ⟨A, hA⟩ := hA
    rw [hA] at hlen hty k e1 e2 ⊢
    walk_at "go"
    refine ⟨fun hh => ?_, fun hh => ?_⟩
    · have hn : xs.length ≠ 2 := fun e => by rw [e] at hh; simp at hh
      rw [e2 hn] at k
      walk_at "go"
      exact k
    · have hn : xs.length = 2 := by
        have : (xs.length : Int) = 2 := by simpa using hh
        omega
      rw [e1 hn] at k
      walk_at "go"
      refine ⟨xs, .inr hA.symm, ?_⟩
      refine sa_compM (f := fun x => .bl (inR (-100) 100 x)) (by omega) (fun y hy => ⟨_, rfl, ?_⟩) ?_
      · exact (lawin_sat (hx y hy) rfl).mono (fun _ _ h => h) fun _ _ _ h => h.elim
      generalize hL : xs.map (fun x => D.bl (inR (-100) 100 x)) = L at *
      walk_at "go"
      exact k
  | ref n => cases h
  | scr xs => cases h
  | _ =>
    walk_at "go"
    exact k
theorem lawcorn_any {d : D} (h : okThg d = true) {s : Store} {Q : D → Store → Prop} {X : XP} (k : Q (.bl (cornersB d)) s) : Sat (m_law_are_corners [d] s) Q X := by
  have hB : 12 ≤ BIG := by decide
  unfold m_law_are_corners b_law_are_corners
  cases d with
  | tup xs =>
    have ha := all_b xs isDot s
    have hx : ∀ y ∈ xs, okI y = true := List.all_eq_true.mp h
    have hlen : oLen s (.tup xs) = some (.int (xs.length : Int)) := rfl
    have hty : oIsTy [.tuple] s (.tup xs) = some (.bl true) := rfl
    have e0 : cornersB (.tup xs) = (tupLen 3 12 (.tup xs) && xs.all isDot && decide (hullL (xs.map dotP) = xs.map dotP)) := rfl
    have tl : tupLen 3 12 (.tup xs) = (decide ((3 : Int) ≤ xs.length) && decide ((xs.length : Int) ≤ 12)) := rfl
    have eT := fun (hd : xs.all isDot = true) => (congrArg D.tup (dots_of hd).1 : D.tup xs = tupP (xs.map dotP))
    obtain ⟨A, hA⟩ : ∃ A, D.tup xs = A := ⟨_, rfl⟩
    rw [hA] at hlen hty k e0 tl eT ⊢
    walk_at "go"
    refine ⟨fun h3 => ?_, fun h3 => ?_⟩
    · walk_at "go"
      cases h12 : decide ((xs.length : Int) ≤ 12) with
      | false =>
        have : cornersB A = false := by rw [e0, tl, h12, Bool.and_false]; rfl
        rw [this] at k
        walk_at "go"
        exact k
      | true =>
        have l12 : (xs.length : Int) ≤ 12 := of_decide_eq_true h12
        have l3 : (3 : Int) ≤ xs.length := of_decide_eq_true h3
        rw [e0, tl, h3, h12] at k
        simp only [Bool.true_and] at k
        walk_at "go"
        refine ⟨xs, .inr hA.symm, ?_⟩
        refine sa_compM (f := fun x => .bl (isDot x)) (by omega) (fun x hx' => ⟨_, rfl, ?_⟩) ?_
        · walk_at "go"
          refine lawdot_sat (hx x hx') ?_
          exact ⟨rfl, rfl⟩
        generalize hL : xs.map (fun x => D.bl (isDot x)) = L at *
        walk_at "go"
        cases hd : xs.all isDot with
        | false =>
          rw [hd] at k
          walk_at "go"
          exact k
        | true =>
          rw [hd, Bool.true_and] at k
          obtain ⟨_, e4⟩ := dots_of hd
          have eA : A = tupP (xs.map dotP) := eT hd
          walk_at "go"
          refine law_hull3_sat (ps := xs.map dotP) (fun a ha => small_dot (e4 a ha)) (by rw [List.length_map]; omega) (.inr eA) ?_
          have he := hullD_eq (ps := xs.map dotP) (by rw [List.length_map]; omega) e4 s
          have eA' : tupP (xs.map dotP) = A := eA.symm
          rw [eA'] at he
          generalize hullD (xs.map dotP) = HD at *
          walk_at "go"
          exact k
    · have : cornersB A = false := by rw [e0, tl, h3, Bool.false_and]; rfl
      rw [this] at k
      walk_at "go"
      exact k
  | ref n => cases h
  | scr xs => cases h
  | _ =>
    walk_at "go"
    exact k
end W
end
section
set_option Elab.async false
set_option linter.all false
set_option maxRecDepth 100000
set_option maxHeartbeats 4000000
/-! of_steps; shapes moved along; edges. -/
namespace G
open Il (sortU sortU_mem)
/-! stretched -/
def ml (k : Int) (p : P) : P := (k * p.1, k * p.2)
end G
namespace W
open Il PySem
open G (tn popW half hullL lo up edg)

section
variable [HK]
local macro_rules | `(tactic| walk_at "st") => `(tactic| first | with_reducible assumption | exact Hd.tab (by assumption) | exact Shp.ins (by assumption) | exact Shp.ok (by assumption) | rfl)
theorem num_sat {j : Int} (h : 0 ≤ j) {s : Store} {Q : D → Store → Prop} {X : XP} (k : Q (.bl true) s) : Sat (m_is_number [.int j] s) Q X := by
  unfold m_is_number b_is_number
  walk_at "go"
  refine isint_sat rfl ?_
  rw [show isI (.int j) = true from rfl]
  walk_at "go"
  rw [show decide (0 ≤ j) = true from decide_eq_true h]
  exact k
theorem right_sh {C : List P} (h : Right C) (v : P) (hd : ∀ c ∈ C, inDot (G.sh v c) = true) : Right (C.map (G.sh v)) :=
  ⟨by rw [List.length_map]; exact h.lo, by rw [List.length_map]; exact h.hi, fun c hc => by
    obtain ⟨p, hp, rfl⟩ := List.mem_map.mp hc
    exact hd p hp, by rw [G.hull_sh, h.hull]⟩
theorem gE_dvd (e : P × P) : gE e ∣ e.2.1 - e.1.1 ∧ gE e ∣ e.2.2 - e.1.2 := ⟨Int.gcd_dvd_left .., Int.gcd_dvd_right ..⟩
theorem div_back {g x : Int} (hg : g ≠ 0) (h : g ∣ x) : x.fdiv g * g = x := by
  obtain ⟨q, rfl⟩ := h
  rw [Int.mul_fdiv_cancel_left _ hg, Int.mul_comm]
theorem gcd_one {x y g : Int} (hg : g = (Int.gcd x y : Nat)) (h0 : 0 < g) : Int.gcd (x.fdiv g) (y.fdiv g) = 1 := by
  have d1 : g ∣ x := hg ▸ Int.gcd_dvd_left ..
  have d2 : g ∣ y := hg ▸ Int.gcd_dvd_right ..
  rw [Int.fdiv_eq_ediv_of_dvd d1, Int.fdiv_eq_ediv_of_dvd d2]
  have := Int.gcd_ediv_gcd_ediv_gcd (i := x) (j := y) (by omega)
  rw [← hg] at this
  exact this
theorem steppair_sat {e : P × P} (hne : e.1 ≠ e.2) (h1 : Sm e.1) (h2 : Sm e.2) {s : Store} {Q : D → Store → Prop} {X : XP} (k : Q (.bl true) s) : Sat (m_is_step_pair [stepD e] s) Q X := by
  obtain ⟨⟨a, b⟩, c, d⟩ := e
  have g0 := gE_pos hne
  have gx : Int.gcd ((c - a).fdiv (gE ((a, b), c, d))) ((d - b).fdiv (gE ((a, b), c, d))) = 1 := gcd_one rfl g0
  have hl : ((d - b).fdiv (gE ((a, b), c, d))).natAbs < 100000 := by
    have := div_back (by omega) (gE_dvd ((a, b), c, d)).2
    dsimp only at this
    have h3 : ((d - b).fdiv (gE ((a, b), c, d))).natAbs * (gE ((a, b), c, d)).natAbs = (d - b).natAbs := by rw [← Int.natAbs_mul, this]
    have h4 : 1 ≤ (gE ((a, b), c, d)).natAbs := by omega
    have h5 := Nat.le_mul_of_pos_right ((d - b).fdiv (gE ((a, b), c, d))).natAbs h4
    unfold Sm at h1 h2
    dsimp only at h1 h2
    omega
  unfold m_is_step_pair b_is_step_pair stepD
  dsimp only
  have hne0 : gE ((a, b), c, d) ≠ 0 := by omega
  generalize (c - a).fdiv (gE ((a, b), c, d)) = x at *
  generalize (d - b).fdiv (gE ((a, b), c, d)) = y at *
  generalize gE ((a, b), c, d) = g at *
  walk_at "go"
  refine istuple_sat rfl ?_
  rw [show tupLen 2 2 (.tup [.tup [.int x, .int y], .int g]) = true from rfl]
  walk_at "go"
  refine istuple_sat rfl ?_
  rw [show tupLen 2 2 (.tup [.int x, .int y]) = true from rfl]
  walk_at "go"
  refine num_sat (by omega) ?_
  walk_at "go"
  refine isint_sat rfl ?_
  rw [show isI (.int x) = true from rfl]
  walk_at "go"
  refine isint_sat rfl ?_
  rw [show isI (.int y) = true from rfl]
  walk_at "go"
  refine common_sat hl ?_
  rw [gx]
  walk_at "go"
  exact k
theorem ix_last (pre : List P) (c : P) (s : Store) : oIx s (.lst ((pre ++ [c]).map pairD)) (.int (-1)) = some (pairD c) := by
  rw [List.map_append]
  simp only [oIx, deref, atI, ixN, List.length_append, List.length_map, List.map_cons, List.map_nil, List.length_cons, List.length_nil]
  rw [if_neg (by decide), if_pos (by omega)]
  simp only [Option.bind_some]
  rw [show (-1 + ((pre.length + (0 + 1) : Nat) : Int)).toNat = pre.length by omega]
  simp
def mabs (p : P) : Int := if (if p.2 < 0 then -p.2 else p.2) > (if p.1 < 0 then -p.1 else p.1) then (if p.2 < 0 then -p.2 else p.2) else (if p.1 < 0 then -p.1 else p.1)
theorem ne_tupP' (C : List P) (s : Store) : oNe s (.tup (C.map pairD)) (.tup (C.map pairD)) = some (.bl false) := by
  simp only [oNe, deref, pairsT_ok C, Bool.and_self, if_true, D.eqv, pairs_eqv]
  simp
/-- the corners that some steps tell -/
theorem ofs_sat {M : List P} (hM : hullL M = M) {r0 : List P} (h0 : M = (0, 0) :: r0) (hP : G.Poly M M) (hlo : 3 ≤ M.length) (hhi : M.length ≤ 12) (hb : ∀ c ∈ M, c.1.natAbs ≤ 200 ∧ c.2.natAbs ≤ 200) {s : Store} (hD : Hd s) {Q : D → Store → Prop} {X : XP} (k : ∀ u m, Hd u → Gr s u → Shp u m 1 M → Q (.ref m) u) : Sat (m_of_steps [.tup ((edg M).map stepD)] s) Q X := by
  have hB : 3000 ≤ BIG := by decide
  have he := edg_len M
  have hsm : ∀ c ∈ M, Sm c := fun c hc => by have := hb c hc; unfold Sm; omega
  have hT : tupLen 3 12 (.tup ((edg M).map stepD)) = true := by
    simp only [tupLen, List.length_map, Bool.and_eq_true, decide_eq_true_eq]; omega
  have hnr : notRef (.tup ((edg M).map stepD)) = true := rfl
  unfold m_of_steps b_of_steps
  walk_at "go"
  refine istuple_sat hnr ?_
  rw [hT]
  walk_at "go"
  refine sa_compT stepD (fun e => .bl ((fun _ => true) e)) (by omega) (fun e hm => ⟨_, rfl, ?_⟩) ?_
  · have m := G.edg_mem (a := e.1) (b := e.2) hm
    walk_at "go"
    exact steppair_sat (poly_dif hP _ _ hm) (hsm _ m.1) (hsm _ m.2) ⟨rfl, rfl⟩
  refine ex1 (z := .bl true) (by simp only [oAll, deref, boolsOf_map, Option.map_some]; congr 2; simp) ?_
  walk_at "go"
  refine sb_forI (fun ds en u => u = s ∧ ∃ (y1 y3 y4 y5 : Option Sl) (own : List P), en = [some (.fro (.tup ((edg M).map stepD))), y1, some (.own (own.map pairD)), y3, y4, y5, none] ∧
    ((∃ pre c r, ds = ((c :: r).zip (r ++ [((0 : Int), (0 : Int))])).map stepD ∧ (c :: r).zip (r ++ [((0 : Int), (0 : Int))]) <:+ edg M ∧ pre ++ c :: r = M ∧ own = pre ++ [c]) ∨ (ds = [] ∧ own = M ++ [((0 : Int), (0 : Int))]))) _ ⟨rfl, _, _, _, _, [((0 : Int), (0 : Int))], rfl, .inl ⟨[], (0, 0), r0, by rw [h0]; rfl, by rw [h0]; exact List.suffix_refl _, by rw [h0]; rfl, rfl⟩⟩ ?_ ?_
  · rintro d ds en u ⟨rfl, y1, y3, y4, y5, own, rfl, h | ⟨h, _⟩⟩
    · obtain ⟨pre, c, r, hds, hsuf, hall, rfl⟩ := h
      have hlast := ix_last pre c u
      have hln : ((pre ++ [c]).map pairD).length + 1 ≤ BIG := by
        have : (pre ++ c :: r).length = M.length := by rw [hall]
        simp only [List.length_append, List.length_cons, List.length_map, List.length_nil] at this ⊢
        omega
      obtain ⟨n, rest, hz, hd, hds', hN⟩ : ∃ (n : P) (rest : List (P × P)), (c :: r).zip (r ++ [((0 : Int), (0 : Int))]) = (c, n) :: rest ∧ d = stepD (c, n) ∧ ds = rest.map stepD ∧
          ((∃ pre' c' r', rest.map stepD = ((c' :: r').zip (r' ++ [((0 : Int), (0 : Int))])).map stepD ∧ (c' :: r').zip (r' ++ [((0 : Int), (0 : Int))]) <:+ edg M ∧ pre' ++ c' :: r' = M ∧ (pre ++ [c]) ++ [n] = pre' ++ [c']) ∨ (rest.map stepD = [] ∧ (pre ++ [c]) ++ [n] = M ++ [((0 : Int), (0 : Int))])) := by
        cases r with
        | nil =>
          simp only [List.nil_append, List.zip_cons_cons, List.zip_nil_left, List.map_cons, List.map_nil, List.cons.injEq] at hds
          exact ⟨(0, 0), [], rfl, hds.1, hds.2, .inr ⟨rfl, by rw [← hall]⟩⟩
        | cons q r =>
          simp only [List.cons_append, List.zip_cons_cons, List.map_cons, List.cons.injEq] at hds
          refine ⟨q, (q :: r).zip (r ++ [((0 : Int), (0 : Int))]), by simp, hds.1, by simpa using hds.2, .inl ⟨pre ++ [c], q, r, rfl, ?_, by rw [← hall]; simp, rfl⟩⟩
          exact (List.suffix_cons _ _).trans (by simpa using hsuf)
      have hmem : (c, n) ∈ edg M := hsuf.subset (by rw [hz]; simp)
      have m := G.edg_mem hmem
      have hc := hb c m.1
      have hn := hb n m.2
      have g0 := gE_pos (e := (c, n)) (poly_dif hP _ _ hmem)
      have g1 := gE_le (e := (c, n)) (hsm c m.1) (hsm n m.2)
      have b1 := div_back (by omega) (gE_dvd (c, n)).1
      have b2 := div_back (by omega) (gE_dvd (c, n)).2
      have hg : (gE (c, n)).natAbs < 2 ^ 64 := by omega
      subst hd hds'
      clear hds
      unfold stepD
      refine ⟨_, rfl, ?_⟩
      dsimp only at b1 b2 ⊢
      generalize (n.1 - c.1).fdiv (gE (c, n)) = x at *
      generalize (n.2 - c.2).fdiv (gE (c, n)) = y at *
      generalize gE (c, n) = g at *
      walk_at "go"
      refine ⟨rfl, y1, some (.fro (.int x)), some (.fro (.int y)), some (.fro (.int g)), (pre ++ [c]) ++ [n], ?_, hN⟩
      have e : (((pre ++ [c]) ++ [n]).map pairD) = (pre ++ [c]).map pairD ++ [.tup [.int (c.1 + x * g), .int (c.2 + y * g)]] := by
        rw [b1, b2, List.map_append]
        simp only [List.map_cons, List.map_nil, pairD]
        rw [show c.1 + (n.1 - c.1) = n.1 by omega, show c.2 + (n.2 - c.2) = n.2 by omega]
      rw [e]
      rfl
    · cases h
  · rintro en u ⟨rfl, y1, y3, y4, y5, own, rfl, h | ⟨_, h⟩⟩
    · obtain ⟨pre, c, r, hds, _⟩ := h
      cases r <;> cases hds
    · subst h
      have hlast := ix_last M (0, 0) u
      have hcut : cut ((M ++ [((0 : Int), (0 : Int))]).map pairD) none (some (-1)) = M.map pairD := by
        rw [List.map_append]; exact cut_last _ _
      have hlast : oIx u (.lst ((M ++ [((0 : Int), (0 : Int))]).map pairD)) (.int (-1)) = some (.tup [.int 0, .int 0]) := hlast
      have hhd : hullD M = tupP M := by unfold hullD; rw [hM]; exact if_pos (by omega)
      have hne := ne_tupP' M u
      walk_at "go"
      rw [hcut]
      refine hull_sat (fun a ha => (hsm a ha).small) (by omega) ?_
      rw [hhd]
      walk_at "go"
      refine sa_compT pairD (fun p => .int (mabs p)) (by omega) (fun p hp => ⟨_, rfl, ?_⟩) ?_
      · walk_at "go"
        exact ⟨rfl, rfl⟩
      refine ex1 (max_map mabs (poly_ne hP) u) ?_
      have hmx : maxI (M.map mabs) ≤ 200 := by
        obtain ⟨c, hc, e⟩ := List.mem_map.mp (maxI_mem (M.map mabs) (by simp [poly_ne hP])).1
        have := hb c hc
        rw [← e]
        unfold mabs
        split <;> split <;> split <;> omega
      walk_at "go"
      exact raw_init_sat (.inr rfl) hD fun u m a b => k u _ m a b
end
end W
end
section
set_option Elab.async false
set_option linter.all false
set_option maxRecDepth 100000
set_option maxHeartbeats 1000000
/-! Steps that are none. -/
namespace W
open Il PySem
open G (tn popW half hullL lo up edg)

/-- a step and how often -/
def prD (e : P × Int) : D := .tup [.tup [.int e.1.1, .int e.1.2], .int e.2]
def prE (k : Int) (e : P × P) : P × Int := (((e.2.1 - e.1.1).fdiv (gE e), (e.2.2 - e.1.2).fdiv (gE e)), k * gE e)
theorem stepD_pr (e : P × P) : stepD e = prD (prE 1 e) := by
  unfold stepD prD prE
  rw [Int.one_mul]
structure GoodP (e : P × Int) : Prop where
  pos : 1 ≤ e.2
  top : e.2.natAbs < 2 ^ 64
  one : Int.gcd e.1.1 e.1.2 = 1
  sm : e.1.2.natAbs < 100000
def pathP (p : P) : List (P × Int) → List P
  | [] => [p]
  | e :: es => p :: pathP (p.1 + e.1.1 * e.2, p.2 + e.1.2 * e.2) es
def endP (p : P) : List (P × Int) → P
  | [] => p
  | e :: es => endP (p.1 + e.1.1 * e.2, p.2 + e.1.2 * e.2) es
theorem path_end (p : P) (es : List (P × Int)) : ∃ pre, pathP p es = pre ++ [endP p es] ∧ pre.length = es.length := by
  induction es generalizing p with
  | nil => exact ⟨[], rfl, rfl⟩
  | cons e es ih =>
    obtain ⟨pre, h, l⟩ := ih (p.1 + e.1.1 * e.2, p.2 + e.1.2 * e.2)
    exact ⟨p :: pre, by unfold pathP endP; rw [h]; rfl, by simp [l]⟩
theorem goodp_sat {e : P × Int} (h : GoodP e) {s : Store} {Q : D → Store → Prop} {X : XP} (k : Q (.bl true) s) : Sat (m_is_step_pair [prD e] s) Q X := by
  obtain ⟨⟨x, y⟩, g⟩ := e
  obtain ⟨h1, h2, h3, h4⟩ := h
  dsimp only at h1 h2 h3 h4
  unfold m_is_step_pair b_is_step_pair prD
  dsimp only
  have g0 : g ≠ 0 := by omega
  walk_at "go"
  refine istuple_sat rfl ?_
  rw [show tupLen 2 2 (.tup [.tup [.int x, .int y], .int g]) = true from rfl]
  walk_at "go"
  refine istuple_sat rfl ?_
  rw [show tupLen 2 2 (.tup [.int x, .int y]) = true from rfl]
  walk_at "go"
  refine num_sat (by omega) ?_
  walk_at "go"
  refine isint_sat rfl ?_
  rw [show isI (.int x) = true from rfl]
  walk_at "go"
  refine isint_sat rfl ?_
  rw [show isI (.int y) = true from rfl]
  walk_at "go"
  refine common_sat h4 ?_
  rw [h3]
  walk_at "go"
  exact k
/-- is no step -/
def NoPr (d : D) : Prop := ∀ (s : Store) (Q : D → Store → Prop) (X : XP), Q (.bl false) s → Sat (m_is_step_pair [d] s) Q X
theorem nopr_len {d : D} (hr : notRef d = true) (h : tupLen 2 2 d = false) : NoPr d := by
  intro s Q X k
  unfold m_is_step_pair b_is_step_pair
  walk_at "go"
  refine istuple_sat hr ?_
  rw [h]
  walk_at "go"
  exact k
theorem nopr_fst {a b : D} (hr : notRef a = true) (h : tupLen 2 2 a = false) : NoPr (.tup [a, b]) := by
  intro s Q X k
  have e0 : oIx s (.tup [a, b]) (.int 0) = some a := rfl
  have e1 : tupLen 2 2 (.tup [a, b]) = true := rfl
  have e2 : notRef (.tup [a, b]) = true := rfl
  generalize D.tup [a, b] = T at *
  unfold m_is_step_pair b_is_step_pair
  walk_at "go"
  refine istuple_sat e2 ?_
  rw [e1]
  walk_at "go"
  refine istuple_sat hr ?_
  rw [h]
  walk_at "go"
  exact k
theorem nopr_true {x y : Int} : NoPr (.tup [.tup [.int x, .int y], .bl true]) := by
  intro s Q X k
  unfold m_is_step_pair b_is_step_pair
  walk_at "go"
  refine istuple_sat rfl ?_
  rw [show tupLen 2 2 (.tup [.tup [.int x, .int y], .bl true]) = true from rfl]
  walk_at "go"
  refine istuple_sat rfl ?_
  rw [show tupLen 2 2 (.tup [.int x, .int y]) = true from rfl]
  walk_at "go"
  unfold m_is_number b_is_number
  walk_at "go"
  refine isint_sat rfl ?_
  rw [show isI (.bl true) = false from rfl]
  walk_at "go"
  exact k
theorem nopr_zero {x y : Int} : NoPr (.tup [.tup [.int x, .int y], .int 0]) := by
  intro s Q X k
  unfold m_is_step_pair b_is_step_pair
  walk_at "go"
  refine istuple_sat rfl ?_
  rw [show tupLen 2 2 (.tup [.tup [.int x, .int y], .int 0]) = true from rfl]
  walk_at "go"
  refine istuple_sat rfl ?_
  rw [show tupLen 2 2 (.tup [.int x, .int y]) = true from rfl]
  walk_at "go"
  refine num_sat (by omega) ?_
  walk_at "go"
  exact k
theorem nopr_gcd {x y g : Int} (h1 : 1 ≤ g) (h2 : Int.gcd x y ≠ 1) (h4 : y.natAbs < 100000) : NoPr (.tup [.tup [.int x, .int y], .int g]) := by
  intro s Q X k
  have g0 : g ≠ 0 := by omega
  have h5 : ((Int.gcd x y : Nat) : Int) ≠ 1 := by omega
  unfold m_is_step_pair b_is_step_pair
  walk_at "go"
  refine istuple_sat rfl ?_
  rw [show tupLen 2 2 (.tup [.tup [.int x, .int y], .int g]) = true from rfl]
  walk_at "go"
  refine istuple_sat rfl ?_
  rw [show tupLen 2 2 (.tup [.int x, .int y]) = true from rfl]
  walk_at "go"
  refine num_sat (by omega) ?_
  walk_at "go"
  refine isint_sat rfl ?_
  rw [show isI (.int x) = true from rfl]
  walk_at "go"
  refine isint_sat rfl ?_
  rw [show isI (.int y) = true from rfl]
  walk_at "go"
  refine common_sat h4 ?_
  walk_at "go"
  rw [show ((((Int.gcd x y : Nat) : Int)) == 1) = false by simpa using h5]
  exact k
theorem ofs_ty {d : D} (hr : notRef d = true) (h : tupLen 3 12 d = false) {s : Store} {Q : D → Store → Prop} {X : XP} (k : X 4 none s) : Sat (m_of_steps [d] s) Q X := by
  unfold m_of_steps b_of_steps
  walk_at "go"
  refine istuple_sat hr ?_
  rw [h]
  walk_at "go"
  exact k
/-- the first one is none, others are right -/
theorem ofs_bad {d : D} (hd : NoPr d) {es : List (P × Int)} (hg : ∀ e ∈ es, GoodP e) (hl : es.length ≤ 11) {s : Store} {Q : D → Store → Prop} {X : XP} (k : X 4 none s) : Sat (m_of_steps [.tup (d :: es.map prD)] s) Q X := by
  have hB : 3000 ≤ BIG := by decide
  have hr : notRef (.tup (d :: es.map prD)) = true := rfl
  by_cases hT : tupLen 3 12 (.tup (d :: es.map prD)) = true
  · let f : D → Bool := fun x => match x with
      | _ => false
    obtain ⟨A, hA⟩ : ∃ A, D.tup (d :: es.map prD) = A := ⟨_, rfl⟩
    rw [hA] at hr hT ⊢
    unfold m_of_steps b_of_steps
    walk_at "go"
    refine istuple_sat hr ?_
    rw [hT]
    walk_at "go"
    refine ⟨d :: es.map prD, .inr hA.symm, ?_⟩
    refine g_sa_cl_cons (sa_cl_cons rfl (by simp [BIG]) ?_)
    walk_at "go"
    refine hd _ _ _ ?_
    suffices H : ∀ (xs : List (P × Int)) (acc : List D) (n : Nat) , (∀ e ∈ xs, GoodP e) → acc = List.replicate 1 (D.bl false) ++ List.replicate n (D.bl true) → n + xs.length ≤ 11 → Sat (compL (.nm 1) tYes (xCall (fun _ => m_is_step_pair) 0 (lCons (xVar 1) lNil)) (wipe [some (.fro A), none, none, none, none, none, none] [1]) (xs.map prD) acc s) (fun L t => t = s ∧ ∃ m, L = D.bl false :: List.replicate m (D.bl true)) NoX by
      refine (H es [.bl false] 0 hg rfl (by omega)).mono ?_ fun _ _ _ h => h
      rintro L t ⟨rfl, m, rfl⟩
      have hb : oAll t (.lst (D.bl false :: List.replicate m (D.bl true))) = some (.bl false) := by
        have : boolsOf (List.replicate m (D.bl true)) = some (List.replicate m true) := by
          induction m with
          | zero => rfl
          | succ m ih => rw [List.replicate_succ, List.replicate_succ, boolsOf, ih]; rfl
        simp only [oAll, deref, boolsOf, this, Option.map_some]
        rfl
      generalize D.bl false :: List.replicate m (D.bl true) = L at *
      walk_at "go"
      exact k
    intro xs
    induction xs with
    | nil =>
      rintro acc n _ rfl _
      exact ⟨rfl, n, rfl⟩
    | cons e xs ih =>
      rintro acc n hx rfl hn
      simp only [List.length_cons] at hn
      rw [List.map_cons]
      refine g_sa_cl_cons (sa_cl_cons rfl (by simp [BIG]; omega) ?_)
      walk_at "go"
      refine goodp_sat (hx e (by simp)) ?_
      exact ih _ (n + 1) (fun e he => hx e (List.mem_cons_of_mem _ he)) (by rw [List.append_assoc, ← List.replicate_succ']) (by omega)
  · exact ofs_ty hr (by simpa using hT) k
theorem hullD_ne {ps : List P} (h3 : 3 ≤ ps.length) (s : Store) : ∃ b, oNe s (hullD ps) (tupP ps) = some (.bl b) := by
  unfold hullD
  have h2 := pairsT_ok ps
  split
  · have h1 := pairsT_ok (hullL ps)
    exact ⟨_, by simp only [oNe, deref, h1, h2, Bool.and_self, if_true]; rfl⟩
  · have h1 : (D.non).ok = true := rfl
    exact ⟨_, by simp only [oNe, deref, h1, h2, Bool.and_self, if_true]; rfl⟩
/-- right steps that do not close, or go too far -/
theorem ofs_open {es : List (P × Int)} (hg : ∀ e ∈ es, GoodP e) (hlo : 3 ≤ es.length) (hhi : es.length ≤ 12) (h : endP (0, 0) es ≠ (0, 0) ∨ (∀ c ∈ pathP (0, 0) es, smallP c) ∧ ∃ c ∈ (pathP (0, 0) es).dropLast, 200 < mabs c) {s : Store} {Q : D → Store → Prop} {X : XP} (k : X 4 none s) : Sat (m_of_steps [.tup (es.map prD)] s) Q X := by
  have hB : 3000 ≤ BIG := by decide
  have hT : tupLen 3 12 (.tup (es.map prD)) = true := by
    simp only [tupLen, List.length_map, Bool.and_eq_true, decide_eq_true_eq]; omega
  have hnr : notRef (.tup (es.map prD)) = true := rfl
  unfold m_of_steps b_of_steps
  walk_at "go"
  refine istuple_sat hnr ?_
  rw [hT]
  walk_at "go"
  refine sa_compT prD (fun e => .bl ((fun _ => true) e)) (by omega) (fun e hm => ⟨_, rfl, ?_⟩) ?_
  · walk_at "go"
    exact goodp_sat (hg e hm) ⟨rfl, rfl⟩
  refine ex1 (z := .bl true) (by simp only [oAll, deref, boolsOf_map, Option.map_some]; congr 2; simp) ?_
  walk_at "go"
  refine sb_forI (fun ds en u => u = s ∧ ∃ (y1 y3 y4 y5 : Option Sl) (pre : List P) (c : P) (xs : List (P × Int)), en = [some (.fro (.tup (es.map prD))), y1, some (.own ((pre ++ [c]).map pairD)), y3, y4, y5, none] ∧ ds = xs.map prD ∧ (∀ e ∈ xs, e ∈ es) ∧ pre ++ pathP c xs = pathP (0, 0) es ∧ endP c xs = endP (0, 0) es ∧ pre.length + xs.length = es.length) _ ⟨rfl, _, _, _, _, [], (0, 0), es, rfl, rfl, fun _ h => h, rfl, rfl, by simp⟩ ?_ ?_
  · rintro d ds en u ⟨rfl, y1, y3, y4, y5, pre, c, xs, rfl, hds, hsub, hp, he, hl⟩
    cases xs with
    | nil => cases hds
    | cons e xs =>
      simp only [List.map_cons, List.cons.injEq] at hds
      obtain ⟨rfl, rfl⟩ := hds
      have hge := hg e (hsub e (by simp))
      obtain ⟨⟨x, y⟩, g⟩ := e
      obtain ⟨g1, g2, g3, g4⟩ := hge
      dsimp only at g1 g2 g3 g4
      simp only [List.length_cons] at hl
      have hlast := ix_last pre c u
      have hln : ((pre ++ [c]).map pairD).length + 1 ≤ BIG := by
        simp only [List.length_append, List.length_map, List.length_cons, List.length_nil]; omega
      unfold prD
      refine ⟨_, rfl, ?_⟩
      dsimp only
      walk_at "go"
      refine ⟨rfl, y1, some (.fro (.int x)), some (.fro (.int y)), some (.fro (.int g)), pre ++ [c], (c.1 + x * g, c.2 + y * g), xs, ?_, rfl, fun e h => hsub e (List.mem_cons_of_mem _ h), ?_, he, ?_⟩
      · have e : (((pre ++ [c]) ++ [(c.1 + x * g, c.2 + y * g)]).map pairD) = (pre ++ [c]).map pairD ++ [pairD (c.1 + x * g, c.2 + y * g)] := List.map_append
        rw [e]; rfl
      · rw [← hp]; simp [pathP]
      · simp only [List.length_append, List.length_cons, List.length_nil]; omega
  · rintro en u ⟨rfl, y1, y3, y4, y5, pre, c, xs, rfl, hds, hsub, hp, he, hl⟩
    have : xs = [] := by cases xs with
      | nil => rfl
      | cons e xs => cases hds
    subst this
    simp only [List.length_nil, Nat.add_zero, endP] at hl he
    change pre ++ [c] = _ at hp
    rw [← he, ← hp] at h
    have hlast := ix_last pre c u
    have hcut : cut ((pre ++ [c]).map pairD) none (some (-1)) = pre.map pairD := by
      rw [List.map_append]; exact cut_last _ _
    rw [List.dropLast_concat] at h
    by_cases hc : c = (0, 0)
    · rcases h with h | ⟨hsm, c0, hc0, h200⟩
      · exact absurd hc h
      subst hc
      have hlast : oIx u (.lst ((pre ++ [((0 : Int), (0 : Int))]).map pairD)) (.int (-1)) = some (.tup [.int 0, .int 0]) := hlast
      obtain ⟨b, hne⟩ := hullD_ne (ps := pre) (by omega) u
      walk_at "go"
      rw [hcut]
      refine hull_sat (fun a ha => hsm a (List.mem_append_left _ ha)) (by omega) ?_
      generalize hullD pre = HD at *
      walk_at "go"
      refine ⟨fun hb => ?_, fun hb => ?_⟩
      · walk_at "go"
        exact k
      walk_at "go"
      refine sa_compT pairD (fun p => .int (mabs p)) (by omega) (fun p hp => ⟨_, rfl, ?_⟩) ?_
      · walk_at "go"
        exact ⟨rfl, rfl⟩
      have hpn : pre ≠ [] := fun e => by rw [e] at hc0; cases hc0
      refine ex1 (max_map mabs hpn u) ?_
      have hmx : 200 < maxI (pre.map mabs) := by
        have := (maxI_mem (pre.map mabs) (by simp [hpn])).2 (mabs c0) (List.mem_map_of_mem hc0)
        omega
      walk_at "go"
      exact k
    · have hne : oNe u (pairD c) (.tup [.int 0, .int 0]) = some (.bl true) := by
        have h1 := pair_ok c
        have : (D.tup [.int 0, .int 0]) = pairD (0, 0) := rfl
        rw [this]
        have h2 := pair_ok (0, 0)
        have d1 : deref u (pairD c) = pairD c := rfl
        have d2 : deref u (pairD (0, 0)) = pairD (0, 0) := rfl
        simp only [oNe, d1, d2, h1, h2, Bool.and_self, if_true, pair_eqv, decide_eq_false hc]
        rfl
      walk_at "go"
      exact k
/-! what steps of a shape come to -/
theorem chain_path (k : Int) (p c : P) : ∀ (r : List P) (d : P) (q : P), (∀ e ∈ (q :: r).zip (r ++ [d]), e.1 ≠ e.2) → p = (k * (q.1 - c.1), k * (q.2 - c.2)) → pathP p (((q :: r).zip (r ++ [d])).map (prE k)) = (q :: r ++ [d]).map fun z => (k * (z.1 - c.1), k * (z.2 - c.2)) := by
  intro r
  induction r generalizing p with
  | nil =>
    intro d q hne hp
    have h0 : gE (q, d) ≠ 0 := by
      have := gE_pos (e := (q, d)) (hne _ (by simp))
      omega
    have b1 := div_back h0 (gE_dvd (q, d)).1
    have b2 := div_back h0 (gE_dvd (q, d)).2
    dsimp only at b1 b2
    subst hp
    simp only [List.nil_append, List.zip_cons_cons, List.zip_nil_left, List.map_cons, List.map_nil, List.cons_append, pathP, prE, List.cons.injEq, and_true, true_and]
    refine Prod.ext ?_ ?_ <;> dsimp only
    · rw [Int.mul_left_comm, b1, ← Int.mul_add]; congr 1; omega
    · rw [Int.mul_left_comm, b2, ← Int.mul_add]; congr 1; omega
  | cons b r ih =>
    intro d q hne hp
    have h0 : gE (q, b) ≠ 0 := by
      have := gE_pos (e := (q, b)) (hne _ (by simp))
      omega
    have b1 := div_back h0 (gE_dvd (q, b)).1
    have b2 := div_back h0 (gE_dvd (q, b)).2
    dsimp only at b1 b2
    subst hp
    have e : ((q :: b :: r).zip (b :: r ++ [d])) = (q, b) :: ((b :: r).zip (r ++ [d])) := rfl
    rw [e] at hne ⊢
    simp only [List.map_cons, List.cons_append, pathP, List.cons.injEq, true_and]
    refine (ih _ d b (fun e he => hne e (List.mem_cons_of_mem _ he)) ?_).trans (by simp)
    refine Prod.ext ?_ ?_ <;> dsimp only [prE]
    · rw [Int.mul_left_comm, b1, ← Int.mul_add]; congr 1; omega
    · rw [Int.mul_left_comm, b2, ← Int.mul_add]; congr 1; omega
theorem endP_path (p : P) (es : List (P × Int)) : (pathP p es).getLast? = some (endP p es) := by
  obtain ⟨pre, h, _⟩ := path_end p es
  rw [h]; simp
theorem chain_end (k : Int) (p c : P) (r : List P) (d : P) (q : P) (hne : ∀ e ∈ (q :: r).zip (r ++ [d]), e.1 ≠ e.2) (hp : p = (k * (q.1 - c.1), k * (q.2 - c.2))) : endP p (((q :: r).zip (r ++ [d])).map (prE k)) = (k * (d.1 - c.1), k * (d.2 - c.2)) := by
  have h := endP_path p (((q :: r).zip (r ++ [d])).map (prE k))
  rw [chain_path k p c r d q hne hp, List.map_append] at h
  have e : ∀ (L : List P) (z : P), (L ++ [z]).getLast? = some z := fun L z => List.getLast?_concat
  rw [show [d].map (fun z => (k * (z.1 - c.1), k * (z.2 - c.2))) = [(k * (d.1 - c.1), k * (d.2 - c.2))] from rfl, e] at h
  exact (Option.some.inj h).symm
theorem endP_app (p : P) (a b : List (P × Int)) : endP p (a ++ b) = endP (endP p a) b := by
  induction a generalizing p with
  | nil => rfl
  | cons e a ih => exact ih _
theorem good_pr {k : Int} (hk : 1 ≤ k ∧ k ≤ 1000) {e : P × P} (hne : e.1 ≠ e.2) (h1 : Sm e.1) (h2 : Sm e.2) : GoodP (prE k e) := by
  have g0 := gE_pos hne
  have g1 := gE_le h1 h2
  obtain ⟨⟨a, b⟩, c, d⟩ := e
  have gx : Int.gcd ((c - a).fdiv (gE ((a, b), c, d))) ((d - b).fdiv (gE ((a, b), c, d))) = 1 := gcd_one rfl g0
  have hl : ((d - b).fdiv (gE ((a, b), c, d))).natAbs < 100000 := by
    have := div_back (by omega) (gE_dvd ((a, b), c, d)).2
    dsimp only at this
    have h3 : ((d - b).fdiv (gE ((a, b), c, d))).natAbs * (gE ((a, b), c, d)).natAbs = (d - b).natAbs := by rw [← Int.natAbs_mul, this]
    have h4 : 1 ≤ (gE ((a, b), c, d)).natAbs := by omega
    have h5 := Nat.le_mul_of_pos_right ((d - b).fdiv (gE ((a, b), c, d))).natAbs h4
    unfold Sm at h1 h2
    dsimp only at h1 h2
    omega
  refine ⟨?_, ?_, gx, hl⟩
  · show 1 ≤ k * _
    exact Int.mul_pos (by omega) g0
  · show (k * _).natAbs < _
    rw [Int.natAbs_mul]
    have : k.natAbs * (gE ((a, b), c, d)).natAbs ≤ 1000 * 40000 := Nat.mul_le_mul (by omega) (by omega)
    omega
end W
end
section
set_option Elab.async false
set_option linter.all false
set_option maxRecDepth 100000
set_option maxHeartbeats 1000000
/-! Things of any kind: drawn, refused. -/
namespace W
open Il PySem
open G (tn popW half hullL lo up edg)

local macro_rules | `(tactic| walk_at "st") => `(tactic| first | with_reducible assumption | exact Hd.tab (by assumption) | exact Shp.ins (by assumption) | exact Shp.ok (by assumption) | rfl)
theorem satB_next5 {o : Out} {en : En} {t : Store} {N : En → Store → Prop} {R : D → Store → Prop} {X : XS} (e : o = .next en t) (h : N en t) : SatB o N R X := by rw [e]; exact h
def wd05 : Nat → Option Str
  | 1 => some (PySem.Str.ofString "shape")
  | 2 => some (PySem.Str.ofString "dots")
  | 3 => some (PySem.Str.ofString "dot")
  | 4 => some (PySem.Str.ofString "steps")
  | _ => none
theorem word05 {f : Store → Res D} {s : Store} {Q : D → Store → Prop} {X : XP} (h : Sat (f s) (fun _ t => Q (.str (PySem.Str.ofString "let")) t) (fun c _ t => ∃ w, wd05 c = some w ∧ Q (.str w) t)) : Sat (runK 4 b_law_word_5 f s) Q X := by
  unfold b_law_word_5
  walk_at "go"
  refine h.mono (fun d t h => ?_) (fun c o t h => ?_)
  · walk_at "go"
    exact h
  · obtain ⟨w, e, h⟩ := h
    unfold wd05 at e
    split at e <;> cases e
    · refine ⟨true, by decide +kernel, fun _ => ?_, fun h => by cases h⟩
      refine satB_next5 (t := t) (en := [some (.thk f), some (.fro (.str (PySem.Str.ofString "shape"))), some (.exn 1 o), some (.fro (.lst [.bl true, .bl false, .bl false, .bl false]))]) (by kernel_rfl) ?_
      refine sb_seq (sb_ret (g_sa_var (sa_var rfl h)))
    · refine ⟨true, by decide +kernel, fun _ => ?_, fun h => by cases h⟩
      refine satB_next5 (t := t) (en := [some (.thk f), some (.fro (.str (PySem.Str.ofString "dots"))), some (.exn 2 o), some (.fro (.lst [.bl false, .bl true, .bl false, .bl false]))]) (by kernel_rfl) ?_
      refine sb_seq (sb_ret (g_sa_var (sa_var rfl h)))
    · refine ⟨true, by decide +kernel, fun _ => ?_, fun h => by cases h⟩
      refine satB_next5 (t := t) (en := [some (.thk f), some (.fro (.str (PySem.Str.ofString "dot"))), some (.exn 3 o), some (.fro (.lst [.bl false, .bl false, .bl true, .bl false]))]) (by kernel_rfl) ?_
      refine sb_seq (sb_ret (g_sa_var (sa_var rfl h)))
    · refine ⟨true, by decide +kernel, fun _ => ?_, fun h => by cases h⟩
      refine satB_next5 (t := t) (en := [some (.thk f), some (.fro (.str (PySem.Str.ofString "steps"))), some (.exn 4 o), some (.fro (.lst [.bl false, .bl false, .bl false, .bl true]))]) (by kernel_rfl) ?_
      refine sb_seq (sb_ret (g_sa_var (sa_var rfl h)))
def dotsB (d : D) : Bool := match d with
  | .tup xs => tupLen 1 30 d && xs.all isDot
  | _ => false
theorem hull_no {d : D} (h : nrT d = true) (hb : dotsB d = false) {s : Store} {Q : D → Store → Prop} {X : XP} (k : X 2 none s) : Sat (m_hull [d] s) Q X := by
  have hB : 30 ≤ BIG := by decide
  have hr := nrT_ref h
  unfold m_hull b_hull
  walk_at "go"
  refine istuple_sat hr ?_
  by_cases ht : tupLen 1 30 d = true
  · rw [ht]
    obtain ⟨xs, rfl⟩ : ∃ xs, d = .tup xs := by
      cases d <;> first | exact ⟨_, rfl⟩ | cases ht
    have hl := ht
    simp only [tupLen, Bool.and_eq_true, decide_eq_true_eq] at hl
    have hx : ∀ x ∈ xs, itemsNR x = true := List.all_eq_true.mp h
    have ha := all_b xs isDot s
    have e0 : xs.all isDot = false := by
      have : dotsB (.tup xs) = (tupLen 1 30 (.tup xs) && xs.all isDot) := rfl
      rw [this, ht, Bool.true_and] at hb
      exact hb
    rw [e0] at ha
    obtain ⟨A, hA⟩ : ∃ A, D.tup xs = A := ⟨_, rfl⟩
    rw [hA]
    walk_at "go"
    refine ⟨xs, .inr hA.symm, ?_⟩
    refine sa_compM (f := fun x => .bl (isDot x)) (by omega) (fun x hx' => ⟨_, rfl, ?_⟩) ?_
    · walk_at "go"
      refine isdot_sat (hx x hx') ?_
      exact ⟨rfl, rfl⟩
    generalize hL : xs.map (fun x => D.bl (isDot x)) = L at *
    walk_at "go"
    exact k
  · have hf : tupLen 1 30 d = false := by simpa using ht
    rw [hf]
    walk_at "go"
    exact k
theorem holds_no {d n : D} (h : itemsNR d = true) (hb : isDot d = false) {s : Store} {Q : D → Store → Prop} {X : XP} (k : X 3 none s) : Sat (m_holds [n, d] s) Q X := by
  unfold m_holds b_holds
  walk_at "go"
  refine isdot_sat h ?_
  rw [hb]
  walk_at "go"
  exact k
/-- drawn deep things -/
structure Dp (d : D) : Prop where
  j : okJ d = true
  i : okI d = true
  t : okThg d = true
  nd : isDot d = false
  nt : tupLen 3 12 d = false
  nh : dotsB d = false
theorem Dp.tup {d : D} (h : Dp d) : Dp (.tup [d]) :=
  ⟨rfl, by show [d].all okJ = true; simp [h.j], by show [d].all okI = true; simp [h.i], rfl, rfl, by show (tupLen 1 30 (.tup [d]) && [d].all isDot) = false; simp [h.nd]⟩
theorem Dp.lst (xs : List D) : Dp (.lst xs) := ⟨rfl, rfl, rfl, rfl, rfl, rfl⟩
theorem Dp.dct (xs : List (D × D)) : Dp (.dct xs) := ⟨rfl, rfl, rfl, rfl, rfl, rfl⟩
theorem sa_dct1 {i : Int} {a : Ex} {en : En} {s : Store} {P : D → Store → Prop} {X : XP} (h : Sat (a en s) (fun x t => P (.dct [(.int i, x)]) t) X) : Sat (xDct1 i a en s) P X := sat_bind (h.imp fun _ _ h => h)
theorem deep3_sat {s : Store} (hd : Hd s) {Q : D → Store → Prop} {X : XP} (k : ∀ d t, Dp d → Hd t → Gr s t → Q d t) : Sat (m_law_deep_3 [.ref 1] s) Q X := by
  unfold m_law_deep_3 b_law_deep_3
  walk_at "go"
  refine any2_sat hd (by simp) (by simp) fun d1 t1 m1 hd1 gr1 => ?_
  have hD1 : Dp d1 := by
    simp only [List.mem_cons, List.not_mem_nil, or_false] at m1
    rcases m1 with rfl | rfl | rfl
    · exact ⟨rfl, rfl, rfl, rfl, rfl, rfl⟩
    · exact ⟨rfl, rfl, rfl, rfl, rfl, rfl⟩
    · exact .dct _
  clear m1
  walk_at "go"
  refine draw_hd dr3 hd1 (by decide) (by decide) fun j t2 j0 j1 hd2 gr2 => ?_
  walk_at "go"
  refine sb_forI (fun _ en t => Hd t ∧ Gr s t ∧ ∃ v x2, Dp v ∧ en = [some (.fro (.ref 1)), some (.fro v), x2]) _ ⟨hd2, gr1.trans gr2, d1, none, hD1, rfl⟩ ?_ ?_
  · rintro d ds en t ⟨hdt, grt, v, x2, hv, rfl⟩
    refine ⟨_, rfl, ?_⟩
    walk_at "go"
    refine sa_dct1 ?_
    walk_at "go"
    refine any2_sat hdt (by simp) (by simp) fun d3 t3 m3 hd3 gr3 => ?_
    walk_at "go"
    refine ⟨hd3, grt.trans gr3, d3, _, ?_, rfl⟩
    simp only [List.mem_cons, List.not_mem_nil, or_false] at m3
    rcases m3 with rfl | rfl | rfl
    · exact hv.tup
    · exact .lst _
    · exact .dct _
  · rintro en t ⟨hdt, grt, v, x2, hv, rfl⟩
    walk_at "go"
    exact k v t hv hdt grt
theorem mem_cut {xs : List D} {i j : Option Int} {d : D} (h : d ∈ cut xs i j) : d ∈ xs := by
  unfold cut at h
  exact List.mem_of_mem_drop (List.mem_of_mem_take h)
theorem cut_len (xs : List D) (i j : Option Int) : (cut xs i j).length ≤ xs.length := by
  unfold cut
  simp only [List.length_take, List.length_drop]
  omega
end W
end
section
set_option Elab.async false
set_option linter.all false
set_option maxRecDepth 100000
set_option maxHeartbeats 4000000
/-! Bent corners. -/
namespace W
open Il PySem
open G (tn popW half hullL lo up edg)

local macro_rules | `(tactic| walk_at "st") => `(tactic| first | with_reducible assumption | exact Hd.tab (by assumption) | rfl)
theorem sa_revT5 {a : Ex} {en : En} {s : Store} {P : D → Store → Prop} {X : XP} (h : Sat (a en s) (fun x t => ∃ xs, x = .tup xs ∧ P (.tup xs.reverse) t) X) : Sat (xRevT a en s) P X :=
  sat_bind (h.imp fun x t h1 => by
    obtain ⟨xs, rfl, h9⟩ := h1
    exact h9)
theorem okG_tup {xs : List D} (h : ∀ x ∈ xs, okI x = true) : okThg (.tup xs) = true := List.all_eq_true.mpr h
theorem ok_bent {C : List P} {i j : Option Int} {y : D} {i' j' : Option Int} (hy : okI y = true) : okThg (.tup (cut (C.map pairD) i j ++ [y] ++ cut (C.map pairD) i' j')) = true := by
  refine okG_tup fun x hx => ?_
  simp only [List.mem_append, List.mem_singleton] at hx
  rcases hx with (hx | rfl) | hx
  · obtain ⟨p, _, rfl⟩ := List.mem_map.mp (mem_cut hx); rfl
  · exact hy
  · obtain ⟨p, _, rfl⟩ := List.mem_map.mp (mem_cut hx); rfl
theorem ok_two {C : List P} {i j : Option Int} {i' j' : Option Int} : okThg (.tup (cut (C.map pairD) i j ++ cut (C.map pairD) i' j')) = true := by
  refine okG_tup fun x hx => ?_
  simp only [List.mem_append] at hx
  rcases hx with hx | hx
  · obtain ⟨p, _, rfl⟩ := List.mem_map.mp (mem_cut hx); rfl
  · obtain ⟨p, _, rfl⟩ := List.mem_map.mp (mem_cut hx); rfl
theorem ok_pairs {L : List D} (h : ∀ x ∈ L, ∃ p, x = pairD p) : okThg (.tup L) = true := okG_tup fun x hx => by obtain ⟨p, rfl⟩ := h x hx; rfl
theorem bent4_sat {s : Store} (hd : Hd s) {C : List P} (h3 : 3 ≤ C.length) (h8 : C.length ≤ 8) {Q : D → Store → Prop} {X : XP} (k : ∀ d t, okThg d = true → Hd t → Gr s t → Q d t) : Sat (m_law_bent_4 [.ref 1, tupP C] s) Q X := by
  have hB : 3000 ≤ BIG := by decide
  have hlen : ∀ t, oLen t (tupP C) = some (.int (C.length : Int)) := fun t => by simp [oLen, deref]
  have hl0 := hlen s
  have hixc : ∀ (j : Int) t, 0 ≤ j → j < C.length → ∃ c, oIx t (tupP C) (.int j) = some (pairD c) := fun j t a b => by
    have hn : j.toNat < C.length := by omega
    refine ⟨C[j.toNat], ?_⟩
    show atI (C.map pairD) j = _
    simp only [atI, ixN, List.length_map]
    rw [if_pos a, if_pos (by omega)]
    simp only [Option.bind_some, List.getElem?_map, List.getElem?_eq_getElem hn, Option.map_some]
  have hcl : ∀ i j, (cut (C.map pairD) i j).length ≤ 8 := fun i j => by
    have := cut_len (C.map pairD) i j
    rw [List.length_map] at this
    omega
  have hrp : ∀ t, oRepT t (tupP C) (.int 5) = some (.tup (List.replicate 5 (C.map pairD)).flatten) := fun t => by
    show (if _ then _ else _) = _
    rw [if_pos ⟨by intro e; have := congrArg List.length e; rw [List.length_map, List.length_nil] at this; omega, by decide, by decide, by simp; omega⟩]
    rfl
  obtain ⟨A, hA⟩ : ∃ A, tupP C = A := ⟨_, rfl⟩
  have hA' : A = .tup (C.map pairD) := hA.symm
  rw [hA] at hl0 ⊢
  rw [hA] at hrp
  unfold m_law_bent_4 b_law_bent_4
  walk_at "go"
  refine draw_hd dr3 hd (by omega) (by omega) fun j t1 j0 j1 hd1 gr1 => ?_
  walk_at "go"
  refine draw_hd dr3 hd1 (by decide) (by decide) fun x t2 x0 x1 hd2 gr2 => ?_
  walk_at "go"
  refine draw_hd dr3 hd2 (by decide) (by decide) fun y t3 y0 y1 hd3 gr3 => ?_
  have gr := (gr1.trans gr2).trans gr3
  clear hd1 hd2 gr1 gr2 gr3 x0 x1 y0 y1 hl0
  obtain ⟨⟨c1, c2⟩, hc⟩ := hixc j t3 j0 j1
  rw [hA] at hc
  have hc' : oIx t3 A (.int j) = some (.tup [.int c1, .int c2]) := hc
  clear hc hixc
  have k1 := hcl none (some j)
  have k2 := hcl (some (j + 1)) none
  walk_at "go"
  refine any2_sat hd3 (by simp) (by simp) fun dx t4 m4 hd4 gr4 => ?_
  have hi : okI dx = true := by
    simp only [List.mem_append, List.mem_cons, List.not_mem_nil, or_false] at m4
    rcases m4 with (e | e | e | e | e | e) | e | e | e | e | e | e | e | e <;> subst e <;> first | rfl | skip
  clear m4
  have k3 := hcl (some 1) none
  have k4 := hcl none (some 1)
  have k5 := hcl (some j) none
  have hr4 := hrp t4
  have hlo : ∀ t, lListOf t A = some (C.map pairD) := fun t => by rw [hA']; rfl
  have hok := @ok_bent C
  have hrow : okThg (.tup (cut (C.map pairD) none (some j) ++ [dx] ++ cut (C.map pairD) (some (j + 1)) none)) = true := ok_bent hi
  walk_at "go"
  generalize D.tup (cut (C.map pairD) none (some j) ++ [dx] ++ cut (C.map pairD) (some (j + 1)) none) = ROW at *
  refine sa_revT5 ?_
  walk_at "go"
  have hlo4 := hlo t4
  walk_at "go"
  refine deep3_sat hd4 fun d5 t5 hp5 hd5 gr5 => ?_
  walk_at "go"
  refine any2_sat hd5 (by simp) (by simp) fun d6 t6 m6 hd6 gr6 => ?_
  refine k d6 t6 ?_ hd6 (((gr.trans gr4).trans gr5).trans gr6)
  clear k
  simp only [List.mem_append, List.mem_cons, List.not_mem_nil, or_false] at m6
  have hin : ∀ {i j : Option Int}, ∀ x ∈ cut (C.map pairD) i j, ∃ p, x = pairD p := fun x hx => by
    obtain ⟨p, _, rfl⟩ := List.mem_map.mp (mem_cut hx); exact ⟨p, rfl⟩
  rcases m6 with (m | (m | m | m | m) | m | m | m | m) | m | m | m | m | m | m | m
  · obtain ⟨l, hl, hx⟩ := List.mem_flatten.mp m
    rw [List.eq_of_mem_replicate hl, List.mem_singleton] at hx
    rw [hx]; exact hrow
  · subst m
    refine ok_pairs fun x hx => ?_
    obtain ⟨p, _, rfl⟩ := List.mem_map.mp (List.mem_reverse.mp hx); exact ⟨p, rfl⟩
  · subst m; exact ok_two
  · subst m; exact ok_pairs hin
  · subst m; exact ok_bent rfl
  · subst m; exact ok_bent rfl
  · subst m; exact ok_two
  · subst m
    refine ok_pairs fun x hx => ?_
    obtain ⟨l, hl, hx⟩ := List.mem_flatten.mp hx
    rw [List.eq_of_mem_replicate hl] at hx
    obtain ⟨p, _, rfl⟩ := List.mem_map.mp hx; exact ⟨p, rfl⟩
  · subst m; rfl
  · subst m; rfl
  · subst m; rfl
  · subst m; rfl
  · subst m; rfl
  · subst m; rfl
  · subst m
    rw [hA']
    refine okG_tup fun x hx => ?_
    rw [List.mem_singleton.mp hx]
    refine List.all_eq_true.mpr fun z hz => ?_
    obtain ⟨p, _, rfl⟩ := List.mem_map.mp hz; rfl
  · subst m; exact hp5.t
end W
end
section
set_option Elab.async false
set_option linter.all false
set_option maxRecDepth 100000
set_option maxHeartbeats 4000000
/-! Refusals of shapes and dots. -/
namespace W
open Il PySem
open G (tn popW half hullL lo up edg)

local macro_rules | `(tactic| walk_at "st") => `(tactic| first | with_reducible assumption | exact Hd.tab (by assumption) | exact Shp.ins (by assumption) | exact Shp.ok (by assumption) | rfl)
local macro_rules | `(tactic| walk_at "fn") => `(tactic| first
  | (with_reducible refine word05 ?_))
def F5w : Bk := (sSeq (sOwn 18 (lDisp (lCons (xLam 0 1000 lamQ (runK 4 b_law_word_5) (xCall (fun _ => m_holds) 0 (lCons (xVar 4) (lCons (xVar 8) lNil)))) lNil))) (sSeq (sApp 18 (xLam 0 1000 lamQ (runK 4 b_law_word_5) (xCall (fun _ => m_hull) 0 (lCons (xVar 9) lNil)))) (sSeq (sSeq (sFrz 14) (sApp 18 (xLam 0 1000 lamQ (runK 4 b_law_word_5) (xCall (fun _ => m_of_steps) 0 (lCons (xVar 14) lNil))))) (sSeq (sApp 18 (xLam 0 1000 lamQ (runK 4 b_law_word_5) (xCall (fun _ => m_holds) 0 (lCons (xVar 4) (lCons (xTup (lCons (xC (.int 100)) (lCons (xOp1 oNeg (xC (.int 100))) lNil))) lNil))))) (sSeq (sApp 18 (xLam 0 1000 lamQ (runK 4 b_law_word_5) (xCall (fun _ => m_hull) 0 (lCons (xOp2 oRepT (xSlT (xVar 3) pNo (pSome (xC (.int 1)))) (xC (.int 30))) lNil)))) (sSeq (sApp 18 (xLam 0 1000 lamQ (runK 4 b_law_word_5) (xCall (fun _ => m_of_steps) 0 (lCons (xVar 10) lNil)))) (sSeq (sIf (tOf (xOp2 oNe (xRd 18) (xLst (lDisp (lCons (xC (.str (PySem.Str.ofString "dot"))) (lCons (xC (.str (PySem.Str.ofString "dots"))) (lCons (xC (.str (PySem.Str.ofString "steps"))) (lCons (xC (.str (PySem.Str.ofString "let"))) (lCons (xC (.str (PySem.Str.ofString "let"))) (lCons (xC (.str (PySem.Str.ofString "let"))) lNil)))))))))) (sSeq (sRet (xC (.bl false))) sNil) sNil) sNil)))))))
def F5s : Bk := (sSeq (sAsg (.nm 10) (xCall (fun _ => m_steps) 0 (lCons (xVar 4) lNil))) (sSeq (sAsg (.tp [(.nm 11), (.nm 12)]) (xOp2 oIx (xRd 10) (xC (.int 0)))) (sSeq (sOwn 13 (lDisp (lCons (xTup (lCons (xTup (lCons (xOp2 oMul (xC (.int 2)) (xOp2 oIx (xRd 11) (xC (.int 0)))) (lCons (xOp2 oMul (xC (.int 2)) (xOp2 oIx (xRd 11) (xC (.int 1)))) lNil))) (lCons (xVar 12) lNil))) (lCons (xTup (lCons (xVar 11) (lCons (xOp2 oAdd (xRd 12) (xC (.int 1))) lNil))) (lCons (xTup (lCons (xVar 11) (lCons (xC (.int 0)) lNil))) (lCons (xTup (lCons (xVar 11) (lCons (xC (.bl true)) lNil))) (lCons (xVar 11) lNil))))))) (sSeq (sOwn 13 (lOp2 lCat (xRd 13) (xLst (lDisp (lCons (xTup (lCons (xVar 11) (lCons (xVar 12) (lCons (xC (.int 0)) lNil)))) (lCons (xTup (lCons (xC .non) (lCons (xC (.int 1)) lNil))) (lCons (xLst (lDisp (lCons (xVar 11) (lCons (xVar 12) lNil)))) (lCons (xTup (lCons (xLst (lOp1 lListOf (xRd 11))) (lCons (xVar 12) lNil))) lNil)))))))) (sSeq (sSeq (sFrz 13) (sOwn 14 (lOp2 lCat (xLst (lDisp (lCons (xC .non) (lCons (xTup lNil) (lCons (xLst (lOp1 lListOf (xRd 10))) (lCons (xSlT (xVar 10) pNo (pSome (xC (.int 2)))) (lCons (xSlT (xVar 10) (pSome (xC (.int 1))) pNo) (lCons (xOp2 oAdd (xRd 10) (xSlT (xVar 10) pNo (pSome (xC (.int 1))))) lNil)))))))) (xLst (lComp (iSeq (xVar 13)) (.nm 15) [15] tYes (xOp2 oAdd (xTup (lCons (xVar 15) lNil)) (xSlT (xVar 10) (pSome (xC (.int 1))) pNo))))))) (sSeq (sApp 14 (xOp1 oTupOf (xLst (lComp (iSeq (xVar 10)) (.tp [(.nm 16), (.nm 17)]) [16, 17] tYes (xTup (lCons (xVar 16) (lCons (xOp2 oMul (xC (.int 201)) (xRd 17)) lNil))))))) (sSeq (sAsg (.nm 14) (xCall (fun _ => m_law_any_2) 0 (lCons (xVar 1) (lCons (xLst (lOp2 lCat (xRd 14) (xLst (lDisp (lCons (xOp2 oAdd (xTup (lCons (xTup (lCons (xTup (lCons (xC (.int 0)) (lCons (xC (.int 0)) lNil))) (lCons (xC (.int 1)) lNil))) lNil)) (xRd 10)) (lCons (xC (.int 0)) (lCons (xC (.str (PySem.Str.ofString "0"))) (lCons (xC (.dct [])) (lCons (xCall (fun _ => m_law_deep_3) 0 (lCons (xVar 1) lNil)) lNil))))))))) lNil)))) F5w)))))))
def F5o : Bk := (sSeq (sOwn 7 (lDisp (lCons (xC .non) (lCons (xC (.int 0)) (lCons (xC (.str (PySem.Str.ofString "0"))) (lCons (xTup (lCons (xC (.int 0)) lNil)) (lCons (xTup (lCons (xC (.int 0)) (lCons (xC (.int 0)) (lCons (xC (.int 0)) lNil)))) (lCons (xLst (lDisp (lCons (xC (.int 0)) (lCons (xC (.int 0)) lNil)))) (lCons (xTup (lCons (xC (.int 101)) (lCons (xC (.int 0)) lNil))) (lCons (xTup (lCons (xC (.int 0)) (lCons (xOp1 oNeg (xC (.int 101))) lNil))) (lCons (xTup (lCons (xC (.bl true)) (lCons (xC (.int 0)) lNil))) (lCons (xTup (lCons (xC .non) (lCons (xC (.int 0)) lNil))) (lCons (xC (.dct [])) lNil))))))))))))) (sSeq (sAsg (.nm 8) (xCall (fun _ => m_law_any_2) 0 (lCons (xVar 1) (lCons (xLst (lOp2 lCat (xRd 7) (xLst (lDisp (lCons (xCall (fun _ => m_law_deep_3) 0 (lCons (xVar 1) lNil)) lNil))))) lNil)))) (sSeq (sOwn 7 (lDisp (lCons (xC .non) (lCons (xTup lNil) (lCons (xLst (lOp1 lListOf (xRd 3))) (lCons (xOp2 oAdd (xRd 3) (xTup (lCons (xVar 8) lNil))) (lCons (xTup (lCons (xVar 8) lNil)) (lCons (xOp2 oRepT (xRd 3) (xC (.int 11))) (lCons (xC (.int 0)) (lCons (xC (.str (PySem.Str.ofString "0"))) (lCons (xC (.dct [])) (lCons (xTup (lCons (xVar 3) lNil)) lNil)))))))))))) (sSeq (sAsg (.nm 9) (xCall (fun _ => m_law_any_2) 0 (lCons (xVar 1) (lCons (xLst (lOp2 lCat (xRd 7) (xLst (lDisp (lCons (xCall (fun _ => m_law_deep_3) 0 (lCons (xVar 1) lNil)) lNil))))) lNil)))) F5s))))
def F5i : Bk := (sSeq (sAsg (.nm 6) (xCall (fun _ => m_law_bent_4) 0 (lCons (xVar 1) (lCons (xVar 3) lNil)))) (sSeq (sIf (tOf (xOp2 oNe (xLam 0 1000 lamQ (runK 4 b_law_word_5) (xNew (fun _ => m_Shape_init) 0 0 (lCons (xVar 6) lNil))) (xIf (tOf (xCall (fun _ => m_law_are_corners) 0 (lCons (xVar 6) lNil))) (xC (.str (PySem.Str.ofString "let"))) (xC (.str (PySem.Str.ofString "shape")))))) (sSeq (sRet (xC (.bl false))) sNil) sNil) sNil))
def F5b : Bk := (sSeq (sAsg (.nm 3) (xCall (fun _ => m_law_corners_3) 0 (lCons (xVar 1) (lCons (xC (.int 6)) lNil)))) (sSeq (sAsg (.nm 4) (xNew (fun _ => m_Shape_init) 0 0 (lCons (xVar 3) lNil))) (sSeq (sFor (iRange1 (xC (.int 7))) (.nm 5) F5i) F5o)))
theorem b_k05_eq : b_law_k05 = (sSeq (sAsg (.nm 1) (xCall (fun _ => m_law_hand_2) 0 (lCons (xVar 0) lNil))) (sSeq (sIf (tOf (xOp2 oNe (xLam 0 1000 lamQ (runK 4 b_law_word_5) (xNew (fun _ => m_Shape_init) 0 0 (lCons (xTup (lCons (xTup (lCons (xC (.int 0)) (lCons (xC (.int 0)) lNil))) (lCons (xTup (lCons (xC (.int 1)) (lCons (xC (.int 0)) lNil))) (lCons (xTup (lCons (xC (.int 2)) (lCons (xC (.int 0)) lNil))) lNil)))) lNil))) (xC (.str (PySem.Str.ofString "shape"))))) (sSeq (sRet (xC (.bl false))) sNil) sNil) (sSeq (sIf (tOf (xOp2 oNe (xLam 0 1000 lamQ (runK 4 b_law_word_5) (xNew (fun _ => m_Shape_init) 0 0 (lCons (xTup (lCons (xTup (lCons (xOp1 oNeg (xC (.int 100))) (lCons (xOp1 oNeg (xC (.int 100))) lNil))) (lCons (xTup (lCons (xC (.int 100)) (lCons (xOp1 oNeg (xC (.int 100))) lNil))) (lCons (xTup (lCons (xC (.int 100)) (lCons (xC (.int 100)) lNil))) lNil)))) lNil))) (xC (.str (PySem.Str.ofString "let"))))) (sSeq (sRet (xC (.bl false))) sNil) sNil) (sSeq (sFor (iRange1 (xC (.int 3))) (.nm 2) F5b) (sSeq (sRet (xC (.bl true))) sNil))))) := rfl
/-- a shape of a thing, or none -/
theorem init_any {d : D} (h : okThg d = true) {t : Store} (hd : Hd t) {Q : Store → Prop} {X : XP} (k1 : cornersB d = true → ∀ u, Hd u → Gr t u → Q u) (k2 : cornersB d = false → ∀ u, Hd u → Gr t u → X 1 none u) : Sat (m_Shape_init [.ref t.length, d] (t ++ [.ins 0 []])) (fun d u => d = .non ∧ Q u) X := by
  cases hc : cornersB d with
  | true =>
    obtain ⟨C, hC, rfl⟩ := cornersB_right hc
    exact shape_init_sat hC hd fun u hu gu _ => k1 hc u hu gu
  | false =>
    unfold m_Shape_init b_Shape_init
    walk_at "go"
    refine are_any (okT_nr h) ?_
    rw [hc]
    walk_at "go"
    exact k2 hc _ (hd.app _) (gr_app _ _)
theorem inner05 {C : List P} (h3 : 3 ≤ C.length) (h8 : C.length ≤ 8) {s : Store} (hd : Hd s) {A : D} (hA : tupP C = A) {x0 x2 x4 x5 x6 x7 x8 x9 x10 x11 x12 x13 x14 x15 x16 x17 x18 : Option Sl} {N : En → Store → Prop} {R : D → Store → Prop} {X : XS}
    (k : ∀ u y6, Hd u → Gr s u → N [x0, some (.fro (.ref 1)), x2, some (.fro A), x4, x5, y6, x7, x8, x9, x10, x11, x12, x13, x14, x15, x16, x17, x18] u) :
    SatB (F5i [x0, some (.fro (.ref 1)), x2, some (.fro A), x4, x5, x6, x7, x8, x9, x10, x11, x12, x13, x14, x15, x16, x17, x18] s) N R X := by
  unfold F5i
  walk_at "go"
  rw [← hA]
  refine bent4_sat hd h3 h8 fun d t hk hd1 gr1 => ?_
  rw [hA]
  walk_at "go"
  refine init_any hk hd1 (fun hc u hd2 gr2 => ?_) (fun hc u hd2 gr2 => ?_)
  · walk_at "go"
    refine lawcorn_any hk ?_
    rw [hc]
    walk_at "go"
    exact k u _ hd2 (gr1.trans gr2)
  · walk_at "go"
    refine lawcorn_any hk ?_
    rw [hc]
    walk_at "go"
    exact k u _ hd2 (gr1.trans gr2)
theorem steps_sh5 (C : List P) (v : P) : (edg (C.map (G.sh v))).map stepD = (edg C).map stepD := by
  rw [edg_map, List.map_map]
  refine List.map_congr_left fun e _ => ?_
  unfold stepD gE G.sh
  dsimp only [Function.comp]
  rw [show e.2.1 + v.1 - (e.1.1 + v.1) = e.2.1 - e.1.1 by omega, show e.2.2 + v.2 - (e.1.2 + v.2) = e.2.2 - e.1.2 by omega]
theorem ix_first (d : D) (L : List D) (s : Store) : oIx s (.tup (d :: L)) (.int 0) = some d := by simp [oIx, deref, atI, ixN]
def BadS (d : D) : Prop := ∀ (s : Store) (Q : D → Store → Prop) (X : XP), X 4 none s → Sat (m_of_steps [d] s) Q X
theorem words05 {C : List P} (hC : Right C) {n : Nat} {s : Store} (hd : Hd s) (hS : Shp s n 0 C) {od nn bd A T : D} (ho : okI od = true) (hoD : isDot od = false) (hn : okThg nn = true) (hnD : dotsB nn = false) (hb : BadS bd) (hA : tupP C = A)
    (hT : ∀ (s : Store) (Q : D → Store → Prop) (X : XP), Hd s → (∀ u m, Hd u → Q (.ref m) u) → Sat (m_of_steps [T] s) Q X) {x0 x2 x5 x6 x7 x11 x12 x13 x15 x16 x17 x18 : Option Sl} {N : En → Store → Prop} {R : D → Store → Prop} {X : XS}
    (k : ∀ u y18, Hd u → N [x0, some (.fro (.ref 1)), x2, some (.fro A), some (.fro (.ref n)), x5, x6, x7, some (.fro od), some (.fro nn), some (.fro T), x11, x12, x13, some (.fro bd), x15, x16, x17, y18] u) :
    SatB (F5w [x0, some (.fro (.ref 1)), x2, some (.fro A), some (.fro (.ref n)), x5, x6, x7, some (.fro od), some (.fro nn), some (.fro T), x11, x12, x13, some (.fro bd), x15, x16, x17, x18] s) N R X := by
  have hB : 3000 ≤ BIG := by decide
  obtain ⟨c0, hc0⟩ : ∃ c0, cut (C.map pairD) none (some 1) = [pairD c0] ∧ c0 ∈ C := by
    rw [cut_take1]
    cases C with
    | nil => exact absurd hC.lo (by decide)
    | cons a r => exact ⟨a, rfl, by simp⟩
  have hdot0 : inDot c0 = true := hC.dot _ hc0.2
  have hA' : A = .tup (C.map pairD) := hA.symm
  have hrp : ∀ t, oRepT t (.tup (cut (C.map pairD) none (some 1))) (.int 30) = some (tupP (List.replicate 30 c0)) := fun t => by
    rw [hc0.1]
    unfold oRepT
    dsimp only
    rw [if_pos ⟨by simp, by decide, by decide, by simp⟩]
    show some (D.tup ((List.replicate 30 [pairD c0]).flatten)) = some (D.tup ((List.replicate 30 c0).map pairD))
    simp
  clear hc0
  have hC0 : C ≠ [] := fun e => by have := hC.lo; rw [e] at this; simp at this
  have hsm : ∀ c ∈ C, smallP c := fun c hc => small_dot (hC.dot c hc)
  unfold F5w
  walk_at "go"
  refine holds_no (okI_nr ho) hoD ?_
  walk_at "go"
  refine hull_no (okT_nr hn) hnD ?_
  walk_at "go"
  refine hb _ _ _ ?_
  walk_at "go"
  refine holds_sat hS (p := (100, -100)) hC0 hsm (by decide) (by have := hC.hi; omega) ?_
  have hr := hrp s
  walk_at "go"
  refine hullF_sat (ps := List.replicate 30 c0) (by simp) (by simp) (fun p hp => by rw [List.eq_of_mem_replicate hp]; exact hdot0) hd (fun _ => ?_) (fun _ u m hdu gru hSu => ?_)
  · walk_at "go"
    refine hT _ _ _ hd fun u m hdu => ?_
    walk_at "go"
    exact k _ _ hdu
  · walk_at "go"
    refine hT _ _ _ hdu fun u2 m hdu2 => ?_
    walk_at "go"
    exact k _ _ hdu2
/-! steps that are none -/
def zl (a b : P) (r : List P) : List (P × P) := (b :: r).zip (r ++ [a])
theorem edg_zl (a b : P) (r : List P) : edg (a :: b :: r) = (a, b) :: zl a b r := by simp [edg, zl]
theorem zl_len (a b : P) (r : List P) : (zl a b r).length = r.length + 1 := by simp [zl]
theorem map_pr (k : Int) (E : List (P × P)) : (E.map (prE k)).map prD = E.map fun e => prD (prE k e) := by rw [List.map_map]; rfl
theorem step_prs (E : List (P × P)) : E.map stepD = (E.map (prE 1)).map prD := by
  rw [map_pr]
  exact List.map_congr_left fun e _ => stepD_pr e
theorem tl_no {L : List D} (h : L.length < 3 ∨ 12 < L.length) : tupLen 3 12 (.tup L) = false := by
  simp only [tupLen]
  rcases h with h | h
  · rw [show decide ((3 : Int) ≤ (L.length : Int)) = false from decide_eq_false (by omega)]; rfl
  · rw [show decide ((L.length : Int) ≤ 12) = false from decide_eq_false (by omega)]; simp
structure St5 (C : List P) (a b : P) (r : List P) (x y g : Int) : Prop where
  eC : C = a :: b :: r
  r1 : 1 ≤ r.length
  r6 : r.length ≤ 6
  eS : stepD (a, b) = .tup [.tup [.int x, .int y], .int g]
  e1 : prE 1 (a, b) = ((x, y), g)
  g1 : 1 ≤ g
  g2 : g ≤ 40000
  gc : Int.gcd x y = 1
  ys : y.natAbs < 40000
  xg : x * g = b.1 - a.1
  yg : y * g = b.2 - a.2
  ne : a ≠ b
  dif : ∀ e ∈ zl a b r, e.1 ≠ e.2
  dif0 : ∀ e ∈ (a :: b :: r).zip (b :: r ++ [a]), e.1 ≠ e.2
  gd : ∀ k, 1 ≤ k → k ≤ 1000 → ∀ e ∈ edg C, GoodP (prE k e)
  sm : ∀ c ∈ C, Sm c
theorem st5_of {C : List P} (hC : Right C) (h8 : C.length ≤ 8) : ∃ a b r x y g, St5 C a b r x y g := by
  have hP := right_poly hC
  have hSm := right_sm hC
  have hdif := poly_dif hP
  match C, hC.lo with
  | a :: b :: c :: r, _ =>
    have hm : (a, b) ∈ edg (a :: b :: c :: r) := by rw [edg_zl]; simp
    have hne := hdif _ _ hm
    have hg := good_pr (k := 1) (by decide) (e := (a, b)) hne (hSm a (by simp)) (hSm b (by simp))
    have g0 := gE_pos (e := (a, b)) hne
    have b1 := div_back (by omega) (gE_dvd (a, b)).1
    have b2 := div_back (by omega) (gE_dvd (a, b)).2
    have hys : ((b.2 - a.2).fdiv (gE (a, b))).natAbs < 40000 := by
      dsimp only at b2
      have h3 : ((b.2 - a.2).fdiv (gE (a, b))).natAbs * (gE (a, b)).natAbs = (b.2 - a.2).natAbs := by rw [← Int.natAbs_mul, b2]
      have h4 : 1 ≤ (gE (a, b)).natAbs := by omega
      have h5 := Nat.le_mul_of_pos_right ((b.2 - a.2).fdiv (gE (a, b))).natAbs h4
      have h1 := hSm a (by simp)
      have h2 := hSm b (by simp)
      unfold Sm at h1 h2
      omega
    refine ⟨a, b, c :: r, (b.1 - a.1).fdiv (gE (a, b)), (b.2 - a.2).fdiv (gE (a, b)), gE (a, b), rfl, by simp, by simp at h8 ⊢; omega, rfl, by unfold prE; rw [Int.one_mul], by omega, gE_le (hSm a (by simp)) (hSm b (by simp)), hg.one, hys, b1, b2, hne, fun e he => hdif _ _ (by rw [edg_zl]; exact List.mem_cons_of_mem _ he), fun e he => hdif _ _ (by
      have : edg (a :: b :: c :: r) = (a :: b :: c :: r).zip (b :: c :: r ++ [a]) := by simp [edg]
      rw [this]; exact he), fun k k1 k2 e he => ?_, hSm⟩
    have m := G.edg_mem (a := e.1) (b := e.2) he
    exact good_pr ⟨k1, k2⟩ (hdif _ _ he) (hSm _ m.1) (hSm _ m.2)
section
variable {C : List P} {a b : P} {r : List P} {x y g : Int}
theorem St5.rest (h : St5 C a b r x y g) : cut ((edg C).map stepD) (some 1) none = ((zl a b r).map (prE 1)).map prD := by
  rw [h.eC, edg_zl, ← step_prs]
  simp only [List.map_cons, cut, sIx]
  rw [List.take_of_length_le (by simp)]
  simp
theorem St5.good (h : St5 C a b r x y g) : ∀ e ∈ (zl a b r).map (prE 1), GoodP e := fun e he => by
  obtain ⟨e0, h0, rfl⟩ := List.mem_map.mp he
  exact h.gd 1 (by decide) (by decide) e0 (by rw [h.eC, edg_zl]; exact List.mem_cons_of_mem _ h0)
theorem St5.endR (h : St5 C a b r x y g) (p : P) : endP p ((zl a b r).map (prE 1)) = (a.1 - b.1 + p.1, a.2 - b.2 + p.2) := by
  have := chain_end 1 p (b.1 - p.1, b.2 - p.2) r a b h.dif (by rw [Int.one_mul, Int.one_mul]; exact Prod.ext (by dsimp only; omega) (by dsimp only; omega))
  unfold zl
  rw [this]
  exact Prod.ext (by dsimp only; omega) (by dsimp only; omega)
theorem St5.len (h : St5 C a b r x y g) : ((zl a b r).map (prE 1)).length = r.length + 1 := by rw [List.length_map, zl_len]
theorem St5.bad1 (h : St5 C a b r x y g) {d : D} (hd : NoPr d) : BadS (.tup ([d] ++ cut ((edg C).map stepD) (some 1) none)) := fun s Q X k => by
  rw [h.rest]
  exact ofs_bad hd h.good (by rw [h.len]; have := h.r6; omega) k
theorem St5.bad0 (h : St5 C a b r x y g) {d : D} (hd : NoPr d) : BadS (.tup ([d] ++ (edg C).map stepD)) := fun s Q X k => by
  rw [step_prs]
  refine ofs_bad hd (fun e he => ?_) (by rw [List.length_map, edg_len, h.eC]; have := h.r6; simp; omega) k
  obtain ⟨e0, h0, rfl⟩ := List.mem_map.mp he
  exact h.gd 1 (by decide) (by decide) e0 h0
theorem St5.open1 (h : St5 C a b r x y g) : BadS (.tup ([.tup [.tup [.int x, .int y], .int (g + 1)]] ++ cut ((edg C).map stepD) (some 1) none)) := fun s Q X k => by
  have e : [D.tup [.tup [.int x, .int y], .int (g + 1)]] ++ cut ((edg C).map stepD) (some 1) none = ((((x, y), g + 1) : P × Int) :: (zl a b r).map (prE 1)).map prD := by rw [h.rest]; rfl
  rw [e]
  have h1 := h.g1
  have h2 := h.g2
  have h3 := h.ys
  refine ofs_open (fun e he => ?_) (by rw [List.length_cons, h.len]; have := h.r1; omega) (by rw [List.length_cons, h.len]; have := h.r6; omega) (.inl ?_) k
  · rcases List.mem_cons.mp he with rfl | he
    · exact ⟨by dsimp only; omega, by dsimp only; omega, h.gc, by dsimp only; omega⟩
    · exact h.good e he
  · show endP (0 + x * (g + 1), 0 + y * (g + 1)) _ ≠ _
    rw [h.endR]
    intro z
    have z1 := congrArg Prod.fst z
    have z2 := congrArg Prod.snd z
    dsimp only at z1 z2
    rw [Int.mul_add, h.xg] at z1
    rw [Int.mul_add, h.yg] at z2
    have hx : x = 0 := by omega
    have hy : y = 0 := by omega
    have := h.gc
    rw [hx, hy] at this
    exact absurd this (by decide)
theorem St5.open2 (h : St5 C a b r x y g) : BadS (.tup (cut ((edg C).map stepD) (some 1) none)) := fun s Q X k => by
  rw [h.rest]
  by_cases h3 : 3 ≤ ((zl a b r).map (prE 1)).length
  · refine ofs_open h.good h3 (by rw [h.len]; have := h.r6; omega) (.inl ?_) k
    rw [h.endR]
    intro z
    refine h.ne (Prod.ext ?_ ?_)
    · have := congrArg Prod.fst z; dsimp only at this; omega
    · have := congrArg Prod.snd z; dsimp only at this; omega
  · exact ofs_ty rfl (tl_no (.inl (by rw [List.length_map]; omega))) k
theorem St5.open3 (h : St5 C a b r x y g) : BadS (.tup (cut ((edg C).map stepD) none (some 2))) := fun s Q X k => by
  refine ofs_ty rfl (tl_no (.inl ?_)) k
  simp only [cut, sIx, List.length_take, List.drop_zero]
  split <;> omega
theorem St5.endA (h : St5 C a b r x y g) (k : Int) : endP (0, 0) ((edg C).map (prE k)) = (0, 0) := by
  have e : edg C = (a :: b :: r).zip (b :: r ++ [a]) := by rw [h.eC]; simp [edg]
  rw [e, chain_end k (0, 0) a (b :: r) a a h.dif0 (by simp)]
  simp
theorem St5.open4 (h : St5 C a b r x y g) : BadS (.tup ((edg C).map stepD ++ cut ((edg C).map stepD) none (some 1))) := fun s Q X k => by
  have ec : cut ((edg C).map stepD) none (some 1) = [prD ((x, y), g)] := by
    rw [h.eC, edg_zl]
    simp only [List.map_cons, h.eS, cut, sIx, List.drop_zero]
    simp
    rfl
  have el : (edg C).map stepD ++ cut ((edg C).map stepD) none (some 1) = ((edg C).map (prE 1) ++ [((x, y), g)]).map prD := by
    rw [ec, step_prs, List.map_append]; rfl
  rw [el]
  have hlen : (edg C).length = r.length + 2 := by rw [edg_len, h.eC]; rfl
  have h6 := h.r6
  have h1 := h.r1
  refine ofs_open (fun e he => ?_) (by simp; omega) (by simp; omega) (.inl ?_) k
  · rcases List.mem_append.mp he with he | he
    · obtain ⟨e0, h0, rfl⟩ := List.mem_map.mp he
      exact h.gd 1 (by decide) (by decide) e0 h0
    · rw [List.mem_singleton] at he
      subst he
      have := h.gd 1 (by decide) (by decide) (a, b) (by rw [h.eC, edg_zl]; simp)
      rw [h.e1] at this
      exact this
  · rw [endP_app, h.endA]
    show ((0 : Int) + x * g, (0 : Int) + y * g) ≠ _
    rw [h.xg, h.yg]
    intro z
    refine h.ne (Prod.ext ?_ ?_)
    · have := congrArg Prod.fst z; dsimp only at this; omega
    · have := congrArg Prod.snd z; dsimp only at this; omega
theorem St5.far (h : St5 C a b r x y g) (hw : Wd 6 C) : BadS (.tup ((edg C).map fun e => prD (prE 201 e))) := fun s Q X k => by
  rw [← map_pr]
  have e : edg C = (a :: b :: r).zip (b :: r ++ [a]) := by rw [h.eC]; simp [edg]
  have hp := chain_path 201 (0, 0) a (b :: r) a a h.dif0 (by simp)
  rw [← e] at hp
  have hlen : (edg C).length = r.length + 2 := by rw [edg_len, h.eC]; rfl
  have h6 := h.r6
  have h1 := h.r1
  refine ofs_open (fun e he => ?_) (by simp; omega) (by simp; omega) (.inr ⟨?_, ?_⟩) k
  · obtain ⟨e0, h0, rfl⟩ := List.mem_map.mp he
    exact h.gd 201 (by decide) (by decide) e0 h0
  · rw [hp]
    intro c hc
    obtain ⟨q, hq, rfl⟩ := List.mem_map.mp hc
    have hqC : q ∈ C := by
      rw [h.eC]
      rcases List.mem_append.mp hq with hq | hq
      · exact hq
      · rw [List.mem_singleton] at hq; subst hq; simp
    have s1 := h.sm q hqC
    have s2 := h.sm a (by rw [h.eC]; simp)
    unfold Sm at s1 s2
    unfold smallP
    dsimp only
    omega
  · have hp' : pathP (0, 0) ((edg C).map (prE 201)) = (a :: b :: r).map (fun z => (201 * (z.1 - a.1), 201 * (z.2 - a.2))) ++ [(201 * (a.1 - a.1), 201 * (a.2 - a.2))] := hp.trans List.map_append
    rw [hp', List.dropLast_concat]
    refine ⟨(201 * (b.1 - a.1), 201 * (b.2 - a.2)), ?_, ?_⟩
    · exact List.mem_map.mpr ⟨b, by simp, rfl⟩
    · have hne := h.ne
      have : b.1 - a.1 ≠ 0 ∨ b.2 - a.2 ≠ 0 := by
        by_cases z : b.1 - a.1 = 0
        · exact .inr fun z2 => hne (Prod.ext (by omega) (by omega))
        · exact .inl z
      unfold mabs
      dsimp only
      generalize b.1 - a.1 = u at *
      generalize b.2 - a.2 = v at *
      split <;> split <;> split <;> omega
end
theorem steps05 {C : List P} (hC : Right C) (hw : Wd 6 C) (h8 : C.length ≤ 8) {n : Nat} {s : Store} (hd : Hd s) (hS : Shp s n 0 C) {od nn A : D} (ho : okI od = true) (hoD : isDot od = false) (hn : okThg nn = true) (hnD : dotsB nn = false) (hA : tupP C = A)
    {x0 x2 x5 x6 x7 x10 x11 x12 x13 x14 x15 x16 x17 x18 : Option Sl} {N : En → Store → Prop} {R : D → Store → Prop} {X : XS}
    (k : ∀ u y10 y11 y12 y13 y14 y15 y16 y17 y18, Hd u → N [x0, some (.fro (.ref 1)), x2, some (.fro A), some (.fro (.ref n)), x5, x6, x7, some (.fro od), some (.fro nn), y10, y11, y12, y13, y14, y15, y16, y17, y18] u) :
    SatB (F5s [x0, some (.fro (.ref 1)), x2, some (.fro A), some (.fro (.ref n)), x5, x6, x7, some (.fro od), some (.fro nn), x10, x11, x12, x13, x14, x15, x16, x17, x18] s) N R X := by
  have hB : 3000 ≤ BIG := by decide
  have hP := right_poly hC
  have hT := right_tel hC
  obtain ⟨a, b, r, x, y, g, q⟩ := st5_of hC h8
  have hlen : (edg C).length ≤ 8 := by rw [edg_len]; exact h8
  have hL0 : ((edg C).map stepD).length ≤ 8 := by rw [List.length_map]; exact hlen
  have hcl : ∀ i j, (cut ((edg C).map stepD) i j).length ≤ 8 := fun i j => Nat.le_trans (cut_len _ i j) hL0
  have k1 := hcl (some 1) none
  have k2 := hcl none (some 1)
  have hofs : ∀ (s : Store) (Q : D → Store → Prop) (X : XP), Hd s → (∀ u m, Hd u → Q (.ref m) u) → Sat (m_of_steps [.tup ((edg C).map stepD)] s) Q X := by
    intro s Q X hd kk
    have hM0 : C.map (G.sh (-a.1, -a.2)) = (0, 0) :: (b :: r).map (G.sh (-a.1, -a.2)) := by
      rw [q.eC]; simp [G.sh]; omega
    have hMb : ∀ c ∈ C.map (G.sh (-a.1, -a.2)), (-6 ≤ c.1 ∧ c.1 ≤ 6) ∧ -6 ≤ c.2 ∧ c.2 ≤ 6 := fun c hc => by
      obtain ⟨p, hp, rfl⟩ := List.mem_map.mp hc
      have hc0 : a ∈ C := by rw [q.eC]; simp
      have h1 := hw p hp a hc0
      have h2 := hw a hc0 p hp
      simp only [G.sh]
      omega
    have hMR : Right (C.map (G.sh (-a.1, -a.2))) := right_sh hC _ fun c hc => by
      have := hMb _ (List.mem_map.mpr ⟨c, hc, rfl⟩)
      simp only [inDot, pairD, isDot, inR, Bool.and_eq_true, decide_eq_true_eq]
      omega
    rw [← steps_sh5 C (-a.1, -a.2)]
    generalize C.map (G.sh (-a.1, -a.2)) = M at hM0 hMb hMR
    exact ofs_sat hMR.hull hM0 (right_poly hMR) hMR.lo hMR.hi (fun c hc => by have := hMb c hc; omega) hd fun u m hu _ _ => kk u m hu
  obtain ⟨L, hL⟩ : ∃ L, (edg C).map stepD = L := ⟨_, rfl⟩
  have hixL : ∀ t, oIx t (.tup L) (.int 0) = some (.tup [.tup [.int x, .int y], .int g]) := fun t => by
    rw [← hL, q.eC, edg_zl, List.map_cons, q.eS]; exact ix_first _ _ _
  have g1 := q.g1
  have g2 := q.g2
  have ys := q.ys
  have gc2 : Int.gcd (2 * x) (2 * y) ≠ 1 := by rw [Int.gcd_mul_left, q.gc]; decide
  have b1 := q.bad1 (nopr_gcd (x := 2 * x) (y := 2 * y) (g := g) g1 gc2 (by omega))
  have b2 := q.open1
  have b3 := q.bad1 (nopr_zero (x := x) (y := y))
  have b4 := q.bad1 (nopr_true (x := x) (y := y))
  have b5 := q.bad1 (nopr_fst (a := .int x) (b := .int y) rfl rfl)
  have b6 := q.bad1 (nopr_len (d := .tup [.tup [.int x, .int y], .int g, .int 0]) rfl rfl)
  have b7 := q.bad1 (nopr_fst (a := .non) (b := .int 1) rfl rfl)
  have b8 := q.bad1 (nopr_len (d := .lst [.tup [.int x, .int y], .int g]) rfl rfl)
  have b9 := q.bad1 (nopr_fst (a := .lst [.int x, .int y]) (b := .int g) rfl rfl)
  have c1 := q.open2
  have c2 := q.open3
  have c3 := q.open4
  have c4 := q.far hw
  have c5 := q.bad0 (nopr_gcd (x := 0) (y := 0) (g := 1) (by decide) (by decide) (by decide))
  have tl := @ofs_ty
  rw [hL] at b1 b2 b3 b4 b5 b6 b7 b8 b9 c1 c2 c3 c5 k1 k2 hL0 hofs
  unfold F5s
  walk_at "go"
  refine steps_sat hS hP (right_sm hC) hT.len ?_
  rw [hL]
  have hix := hixL s
  walk_at "go"
  refine sa_compM (f := fun d => .tup ([d] ++ cut L (some 1) none)) (by simp [BIG]) (fun d hdm => ⟨_, rfl, ?_⟩) ?_
  · clear hdm
    walk_at "go"
    exact ⟨rfl, rfl⟩
  walk_at "go"
  subst hL
  refine sa_compT stepD (fun e => prD (prE 201 e)) (by omega) (fun e he => ⟨_, rfl, ?_⟩) ?_
  · walk_at "go"
    exact ⟨rfl, rfl⟩
  obtain ⟨L, hL⟩ : ∃ L, (edg C).map stepD = L := ⟨_, rfl⟩
  obtain ⟨L2, hL2⟩ : ∃ L2, (edg C).map (fun e => prD (prE 201 e)) = L2 := ⟨_, rfl⟩
  rw [hL] at b1 b2 b3 b4 b5 b6 b7 b8 b9 c1 c2 c3 c5 k1 k2 hL0 hofs
  rw [hL2] at c4
  rw [hL, hL2]
  walk_at "go"
  refine deep3_sat hd fun d5 t5 hp5 hd5 gr5 => ?_
  walk_at "go"
  refine any2_sat hd5 (by simp) (by simp) fun bd t6 m6 hd6 gr6 => ?_
  have hbd : BadS bd := by
    have c6 : ∀ {d}, notRef d = true → tupLen 3 12 d = false → BadS d := fun h1 h2 s Q X k => ofs_ty h1 h2 k
    simp only [List.map_append, List.map_cons, List.map_nil, List.mem_append, List.mem_cons, List.not_mem_nil, or_false] at m6
    rcases m6 with (((e | e | e | e | e | e) | (e | e | e | e | e) | e | e | e | e) | e) | e | e | e | e | e <;> rw [e] <;> first | exact b1 | exact b2 | exact b3 | exact b4 | exact b5 | exact b6 | exact b7 | exact b8 | exact b9 | exact c1 | exact c2 | exact c3 | exact c4 | exact c5 | exact c6 rfl rfl | exact c6 (okJ_nr hp5.j) hp5.nt
  clear m6 b1 b2 b3 b4 b5 b6 b7 b8 b9 c1 c2 c3 c4 c5
  walk_at "go"
  exact words05 hC hd6 ((hS.gr gr5).gr gr6) ho hoD hn hnD hbd hA hofs fun u y18 hdu => k _ _ _ _ _ _ _ _ _ _ hdu
theorem dotsB_tup (xs : List D) : dotsB (.tup xs) = (tupLen 1 30 (.tup xs) && xs.all isDot) := rfl
theorem dotsB_app {C : List P} {od : D} (hoD : isDot od = false) : dotsB (.tup (C.map pairD ++ [od])) = false := by
  show (tupLen 1 30 (.tup (C.map pairD ++ [od])) && (C.map pairD ++ [od]).all isDot) = false
  rw [List.all_append]
  simp [hoD]
theorem dotsB_rep {C : List P} (h3 : 3 ≤ C.length) : dotsB (.tup (List.replicate 11 (C.map pairD)).flatten) = false := by
  have hl : ((List.replicate 11 (C.map pairD)).flatten).length = 11 * C.length := by simp; omega
  rw [dotsB_tup]
  simp only [tupLen, hl]
  rw [show decide (((11 * C.length : Nat) : Int) ≤ 30) = false from decide_eq_false (by omega)]
  simp
theorem isDot_C {C : List P} (h3 : 3 ≤ C.length) : isDot (.tup (C.map pairD)) = false := isDot_not (by rw [List.length_map]; omega)
theorem odd05 {C : List P} (hC : Right C) (hw : Wd 6 C) (h8 : C.length ≤ 8) {n : Nat} {s : Store} (hd : Hd s) (hS : Shp s n 0 C) {A : D} (hA : tupP C = A)
    {x0 x2 x5 x6 x7 x8 x9 x10 x11 x12 x13 x14 x15 x16 x17 x18 : Option Sl} {N : En → Store → Prop} {R : D → Store → Prop} {X : XS}
    (k : ∀ u y7 y8 y9 y10 y11 y12 y13 y14 y15 y16 y17 y18, Hd u → N [x0, some (.fro (.ref 1)), x2, some (.fro A), some (.fro (.ref n)), x5, x6, y7, y8, y9, y10, y11, y12, y13, y14, y15, y16, y17, y18] u) :
    SatB (F5o [x0, some (.fro (.ref 1)), x2, some (.fro A), some (.fro (.ref n)), x5, x6, x7, x8, x9, x10, x11, x12, x13, x14, x15, x16, x17, x18] s) N R X := by
  have hB : 3000 ≤ BIG := by decide
  have h3 := hC.lo
  have hA' : A = .tup (C.map pairD) := hA.symm
  have hlA : (C.map pairD).length ≤ 8 := by rw [List.length_map]; exact h8
  have hrp : ∀ t, oRepT t A (.int 11) = some (.tup (List.replicate 11 (C.map pairD)).flatten) := fun t => by
    rw [hA']
    show (if _ then _ else _) = _
    rw [if_pos ⟨by intro e; have := congrArg List.length e; rw [List.length_map, List.length_nil] at this; omega, by decide, by decide, by simp; omega⟩]
    rfl
  have hlo : ∀ t, lListOf t A = some (C.map pairD) := fun t => by rw [hA']; rfl
  have hlo1 := hlo s
  have hadd : ∀ t d, oAdd t A (.tup [d]) = some (.tup (C.map pairD ++ [d])) := fun t d => by
    rw [hA']
    show (if _ then _ else _) = _
    rw [if_pos (by simp only [List.length_cons, List.length_nil]; omega)]
  unfold F5o
  walk_at "go"
  refine deep3_sat hd fun d1 t1 hp1 hd1 gr1 => ?_
  walk_at "go"
  refine any2_sat hd1 (by simp) (by simp) fun od t2 mo hd2 gr2 => ?_
  have ho : okI od = true ∧ isDot od = false := by
    simp only [List.mem_append, List.mem_cons, List.not_mem_nil, or_false] at mo
    rcases mo with (e | e | e | e | e | e | e | e | e | e | e) | e <;> subst e <;> first | exact ⟨rfl, rfl⟩ | exact ⟨hp1.i, hp1.nd⟩
  clear mo hp1 d1
  have hadd2 := hadd t2 od
  have hrp2 := hrp t2
  have hlo2 := hlo t2
  walk_at "go"
  refine deep3_sat hd2 fun d3 t3 hp3 hd3 gr3 => ?_
  walk_at "go"
  refine any2_sat hd3 (by simp) (by simp) fun nn t4 mn hd4 gr4 => ?_
  have hn : okThg nn = true ∧ dotsB nn = false := by
    simp only [List.mem_append, List.mem_cons, List.not_mem_nil, or_false] at mn
    rcases mn with (e | e | e | e | e | e | e | e | e | e) | e <;> subst e
    · exact ⟨rfl, rfl⟩
    · exact ⟨rfl, rfl⟩
    · exact ⟨rfl, rfl⟩
    · refine ⟨okG_tup fun x hx => ?_, dotsB_app ho.2⟩
      rcases List.mem_append.mp hx with hx | hx
      · obtain ⟨p, _, rfl⟩ := List.mem_map.mp hx; rfl
      · rw [List.mem_singleton.mp hx]; exact ho.1
    · refine ⟨okG_tup fun x hx => ?_, ?_⟩
      · rw [List.mem_singleton.mp hx]; exact ho.1
      · rw [dotsB_tup]; simp [ho.2]
    · refine ⟨ok_pairs fun x hx => ?_, dotsB_rep h3⟩
      obtain ⟨l, hl, hx⟩ := List.mem_flatten.mp hx
      rw [List.eq_of_mem_replicate hl] at hx
      obtain ⟨p, _, rfl⟩ := List.mem_map.mp hx
      exact ⟨p, rfl⟩
    · exact ⟨rfl, rfl⟩
    · exact ⟨rfl, rfl⟩
    · exact ⟨rfl, rfl⟩
    · rw [hA']
      refine ⟨okG_tup fun x hx => ?_, ?_⟩
      · rw [List.mem_singleton.mp hx]
        exact List.all_eq_true.mpr fun z hz => by obtain ⟨p, _, rfl⟩ := List.mem_map.mp hz; rfl
      · rw [dotsB_tup]; simp [isDot_C h3]
    · exact ⟨hp3.t, hp3.nh⟩
  clear mn hp3 d3
  walk_at "go"
  refine steps05 hC hw h8 hd4 ((((hS.gr gr1).gr gr2).gr gr3).gr gr4) ho.1 ho.2 hn.1 hn.2 hA fun u y10 y11 y12 y13 y14 y15 y16 y17 y18 hdu => ?_
  exact k _ _ _ _ _ _ _ _ _ _ _ _ _ hdu
theorem body05 {s : Store} (hd : Hd s) {x0 x2 x3 x4 x5 x6 x7 x8 x9 x10 x11 x12 x13 x14 x15 x16 x17 x18 : Option Sl} {N : En → Store → Prop} {R : D → Store → Prop} {X : XS}
    (k : ∀ u y3 y4 y5 y6 y7 y8 y9 y10 y11 y12 y13 y14 y15 y16 y17 y18, Hd u → N [x0, some (.fro (.ref 1)), x2, y3, y4, y5, y6, y7, y8, y9, y10, y11, y12, y13, y14, y15, y16, y17, y18] u) :
    SatB (F5b [x0, some (.fro (.ref 1)), x2, x3, x4, x5, x6, x7, x8, x9, x10, x11, x12, x13, x14, x15, x16, x17, x18] s) N R X := by
  have hB : 2000 ≤ BIG := by decide
  unfold F5b
  walk_at "go"
  refine corners3_sat hd (r := 0) (by decide) (by decide +kernel) fun C t1 hC hw h8 h60 hd1 gr1 => ?_
  obtain ⟨A, hA⟩ : ∃ A, tupP C = A := ⟨_, rfl⟩
  rw [hA]
  walk_at "go"
  rw [← hA]
  refine shape_init_sat hC hd1 fun u1 hd2 gr2 hS => ?_
  rw [hA]
  walk_at "go"
  generalize t1.length = n at *
  refine sb_forI (fun ds en s => Hd s ∧ Shp s n 0 C ∧ ∃ x5 x6, en = [x0, some (.fro (.ref 1)), x2, some (.fro A), some (.fro (.ref n)), x5, x6, x7, x8, x9, x10, x11, x12, x13, x14, x15, x16, x17, x18]) _ ⟨hd2, hS, _, _, rfl⟩ ?_ ?_
  · clear hS hd2 gr2 hd1 gr1
    rintro d ds en s ⟨hd, hS, x5, x6, rfl⟩
    refine ⟨_, rfl, ?_⟩
    refine inner05 hC.lo h8 hd hA fun u y6 hdu gu => ?_
    exact ⟨hdu, hS.gr gu, _, _, rfl⟩
  · clear hS hd2 gr2 hd1 gr1
    rintro en s ⟨hd, hS, x5, x6, rfl⟩
    refine odd05 hC hw h8 hd hS hA fun u y7 y8 y9 y10 y11 y12 y13 y14 y15 y16 y17 y18 hdu => ?_
    exact k _ _ _ _ _ _ _ _ _ _ _ _ _ _ _ _ _ hdu
theorem flat05 : cornersB (tupP [(0, 0), (1, 0), (2, 0)]) = false := by
  have e : cornersB (tupP [(0, 0), (1, 0), (2, 0)]) = (tupLen 3 12 (tupP [(0, 0), (1, 0), (2, 0)]) && (([((0 : Int), (0 : Int)), (1, 0), (2, 0)] : List P).map pairD).all isDot && decide (hullL [((0 : Int), (0 : Int)), (1, 0), (2, 0)] = [(0, 0), (1, 0), (2, 0)])) := rfl
  rw [e]
  have : hullL [((0 : Int), (0 : Int)), (1, 0), (2, 0)] = [(0, 0), (2, 0)] := (G.hull_sorted (k := [(0, 0), (1, 0), (2, 0)]) (by decide) (by decide) (by decide) (by decide)).trans (by decide)
  rw [this]
  simp
theorem far05 : Right [(-100, -100), (100, -100), (100, 100)] := ⟨by decide, by decide, by decide +kernel, (G.hull_sorted (k := [(-100, -100), (100, -100), (100, 100)]) (by decide) (by decide) (by decide) (by decide)).trans (by decide)⟩
theorem law05 (ns : List Int) (hl : ns.length ≤ 63) (hb : ∀ z ∈ ns, Builtin.Int.intBits z ≤ 1048576) : Sat (m_law_k05 [.scr (ns.map D.int)] [.tab 1000 lamQ]) (fun d _ => d = .bl true) NoX := by
  have hB : 2000 ≤ BIG := by decide
  have hf := flat05
  have hg := far05
  unfold m_law_k05
  rw [b_k05_eq]
  walk_at "go"
  refine hand2_sat hl hb fun t0 hd0 => ?_
  walk_at "go"
  refine init_any (d := tupP [(0, 0), (1, 0), (2, 0)]) rfl hd0 (fun hc => absurd hc (by rw [hf]; decide)) (fun _ u hd1 gr1 => ?_)
  clear hf
  walk_at "go"
  refine shape_init_sat hg hd1 fun u1 hd2 gr2 hS => ?_
  clear hg hS
  walk_at "go"
  refine sb_forI (fun ds en s => Hd s ∧ ∃ x0 x2 x3 x4 x5 x6 x7 x8 x9 x10 x11 x12 x13 x14 x15 x16 x17 x18, en = [x0, some (.fro (.ref 1)), x2, x3, x4, x5, x6, x7, x8, x9, x10, x11, x12, x13, x14, x15, x16, x17, x18]) _ ⟨hd2, _, _, _, _, _, _, _, _, _, _, _, _, _, _, _, _, _, _, rfl⟩ ?_ ?_
  · clear hd0 hd1 gr1 hd2 gr2
    rintro d ds en s ⟨hd, x0, x2, x3, x4, x5, x6, x7, x8, x9, x10, x11, x12, x13, x14, x15, x16, x17, x18, rfl⟩
    refine ⟨_, rfl, ?_⟩
    refine body05 hd fun u y3 y4 y5 y6 y7 y8 y9 y10 y11 y12 y13 y14 y15 y16 y17 y18 hdu => ?_
    exact ⟨hdu, _, _, _, _, _, _, _, _, _, _, _, _, _, _, _, _, _, _, rfl⟩
  · rintro en s ⟨hd, x0, x2, x3, x4, x5, x6, x7, x8, x9, x10, x11, x12, x13, x14, x15, x16, x17, x18, rfl⟩
    walk_at "go"
    rfl
theorem law_true (ns : List Int) (hl : ns.length ≤ 63) (hb : ∀ z ∈ ns, Builtin.Int.intBits z ≤ 1048576) : ∃ s, m_law_k05 [.scr (ns.map D.int)] [.tab 1000 lamQ] = .ok (.bl true) s := by
  obtain ⟨a, s, h1, h2⟩ := sat_elim (law05 ns hl hb)
  exact ⟨s, by rw [h1, h2]⟩
end W
end
section
set_option Elab.async false
set_option linter.all false
set_option maxRecDepth 100000
set_option maxHeartbeats 0
namespace W
open PySem PySem.Spec PyProof.Rows L2 Il
theorem law_at {w : World} {K : PySem.W.Frag} {mg : Str → Option Value} {fa : Addr} {h : Heap} (X : K.In h) (G : h.Ns mainGlobals mg) (c : He.SaysX W.fa fn [] tf ex w h K) (hfa : mg ("law" : Str) = some (.ref fa)) :
    LawAt PySem.Challenge.rw_dotpolygons_k05_refusals_of_shapes_and_d w K 9 63 "script" mg fa h := by
  have T : Txt K mg := ⟨⟨h, X, G⟩, c.t.d, c.more⟩
  have e := hfa.symm.trans T.m_law_k05
  cases e
  refine ⟨fdAt K ("law", none), [He.cT K ("law", none)], spM K (ctA K) (xtA K) m_law_k05 1, fun p hp => ?_, fun p hp => ?_, fun p hp => ?_, law_bind T.F_law_k05 (fun _ _ _ _ _ _ _ => rfl), fun H a ns hl hb hT hS => ?_, fun base X2 G2 TB => ?_⟩
  · rw [List.mem_singleton.mp hp]; exact c.empty _ (List.mem_singleton.mpr rfl)
  · rw [List.mem_singleton.mp hp]; exact c.out _ (List.mem_singleton.mpr rfl)
  · rw [List.mem_singleton.mp hp]; exact PySem.W.codeHd_of_K X (c.hd _ (List.mem_singleton.mpr rfl))
  · obtain ⟨s1, e⟩ := law_true ns hl hb
    refine law_sp (cs := [He.cT K ("law", none)]) (st := [.tab 1000 lamQ]) (by simp) hT hS rfl (fun n p o e1 e2 => ?_) ⟨s1, e⟩
    cases n with
    | zero =>
      cases e1
      cases e2
      exact ⟨1000, lamQ, rfl, rfl⟩
    | succ n => cases e2
  · exact ok_law_k05 T (TB _ (List.mem_singleton.mpr rfl))
end W
open PySem PySem.W PySem.Calls PyProof.Rows
theorem PySem.Challenge.cw_dotpolygons_k05_refusals_of_shapes_and_d_holds : PySem.Challenge.rw_dotpolygons_k05_refusals_of_shapes_and_d.Holds := by
  refine W.early ?hc
  case hc =>
    refine Il.law_endE (l := PySem.Challenge.rw_dotpolygons_k05_refusals_of_shapes_and_d) (n := 63) (k := 9) (x := "script") rfl (by decide) (by kernel_rfl) ⟨⟨rfl, by decide, by decide⟩, rfl⟩ ?F
    intro w mg fa h Y G hmg0
    obtain ⟨K, KX, c⟩ := Y
    have hmg : mg ("law" : PySem.Str) = some (.ref fa) := by
      have e : (HandSHeadRun.topDef W.RR.prog 44).name = ("law" : PySem.Str) := by kernel_rfl
      rw [← e]
      exact hmg0
    exact ⟨K, KX, W.law_at KX G c hmg⟩
end
end
