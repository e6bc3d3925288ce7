import PyProof.Rows.All
import Wide.All
import OpenK.AllK
import Wide.FinOn
import KE.KStateDown
import Lean
import HandS.ForMost
import HandS.Deep
import HandS.TupAny
import HandS.TupMul
import HandS.TupLe
import HandS.TryOnly
import HandS.Style
import HandS.Wide
import HandS.IsInst
import HandS.EndBits
import HandS.Zip
import HandS.SetFor
import HandS.Defaults
import HandS.Head0
import HandS.Head1
import HandS.Head2
import HandS.HeadEnd
import HandS.HeadHook1
import HandS.HeadHook2
import KE.KDictKeyed
import KE.KDictWalk
import KE.KIndexOf
import HandS.DictComp
import KE.KDictDisplayH
import KE.KEqDict
import HandS.SortInts
import PyProof.TupleOfSeq
import KE.SortData
import KE.KItemsList
import KE.KDictZip
import HandS.ListItems
import KE.DatumOrd
import PyProof.P3Eq
import HandS.DictSubView
import PyProof.SumAny
import PyProof.ListOps
import PyProof.EqKinds
import HandS.ExcOwn
import HandS.ExcIs
import HandS.Small
import HandS.WordsExc
import HandS.Codes
import HandS.OwnEq
import PyProof.InstNe
import HandS.Text
import HandS.RaiseMore
import HandS.HotCalls
import PyProof.Rows.StrMul
import PySem.Challenge.RW_lettogether_k30_whole_texts
set_option Elab.async false
set_option linter.all false
set_option maxRecDepth 100000
set_option maxHeartbeats 0
/-! The core layer: pure values, a small heap, combinators. -/
namespace Co
open PySem

inductive MV where
  | non | bl (b : Bool) | int (i : Int) | str (x : Str) | ref (n : Nat) | nil | cons (h t : MV) | frz (t : MV)
  deriving DecidableEq

def MV.ofL : List MV → MV
  | [] => .nil
  | x :: xs => .cons x (ofL xs)
def MV.toL : MV → Option (List MV)
  | .nil => some []
  | .cons h t => (toL t).map (h :: ·)
  | _ => none
theorem MV.toL_ofL : ∀ l : List MV, (MV.ofL l).toL = some l
  | [] => rfl
  | x :: xs => by simp [MV.ofL, MV.toL, MV.toL_ofL xs]

inductive MO where
  | lst (xs : List MV) | dct (lk : Bool) (kvs : List (MV × MV)) | ins (c : Str) (fs : List (Str × MV))
  deriving DecidableEq

abbrev MH := List MO

inductive Res (α : Type) where
  | ok (a : α) (m : MH) | ex (c : Str) (m : MH) | bad

def Res.bind {α β : Type} (r : Res α) (f : α → MH → Res β) : Res β :=
  match r with
  | .ok a m => f a m
  | .ex c m => .ex c m
  | .bad => .bad
theorem Res.bind_ok {α β : Type} (a : α) (m : MH) (f : α → MH → Res β) : (Res.ok a m).bind f = f a m := rfl
theorem Res.bind_eq_ok {α β : Type} {r : Res α} {f : α → MH → Res β} {b : β} {m' : MH} : r.bind f = .ok b m' ↔ ∃ a m, r = .ok a m ∧ f a m = .ok b m' := by
  cases r with
  | ok a m =>
    constructor
    · intro h; exact ⟨a, m, rfl, h⟩
    · rintro ⟨a1, m1, e, h⟩; cases e; exact h
  | ex c m => simp [Res.bind]
  | bad => simp [Res.bind]

abbrev Sl := List (Option MV)
abbrev CE := Sl → MH → Res MV
abbrev CA := Sl → MH → Res (List MV)
inductive Fl where
  | nx (r : Sl) | rt (v : MV) | bk (r : Sl) | ct (r : Sl)
abbrev CS := Sl → MH → Res Fl
abbrev CG := MV → Sl → MH → Res Sl
/-- two-place and list operations by values -/
abbrev B2 := MV → MV → MH → Res MV
abbrev BL := List MV → MH → Res MV
abbrev BM := MV → List MV → MH → Res MV

/-! ### expressions -/
def cVar (i : Nat) : CE := fun r m => match r[i]? with
  | some (some v) => .ok v m
  | _ => .bad
def cK (v : MV) : CE := fun _ m => .ok v m
def cBin (f : B2) (a b : CE) : CE := fun r m => (a r m).bind fun x m1 => (b r m1).bind fun y m2 => f x y m2
def cUn (f : MV → MH → Res MV) (a : CE) : CE := fun r m => (a r m).bind f
def cNot (a : CE) : CE := fun r m => (a r m).bind fun x m1 => match x with
  | .bl b => .ok (.bl (!b)) m1
  | _ => .bad
def cAnd (a b : CE) : CE := fun r m => (a r m).bind fun x m1 => match x with
  | .bl true => b r m1
  | .bl false => .ok (.bl false) m1
  | _ => .bad
def cOr (a b : CE) : CE := fun r m => (a r m).bind fun x m1 => match x with
  | .bl false => b r m1
  | .bl true => .ok (.bl true) m1
  | _ => .bad
def cIte (c a b : CE) : CE := fun r m => (c r m).bind fun x m1 => match x with
  | .bl true => a r m1
  | .bl false => b r m1
  | _ => .bad
def cChain (f g : B2) (a b c : CE) : CE := fun r m => (a r m).bind fun x m1 => (b r m1).bind fun y m2 => (f x y m2).bind fun z m3 => match z with
  | .bl true => (c r m3).bind fun w m4 => g y w m4
  | .bl false => .ok (.bl false) m3
  | _ => .bad
def aNil : CA := fun _ m => .ok [] m
def aCons (a : CE) (t : CA) : CA := fun r m => (a r m).bind fun x m1 => (t r m1).bind fun xs m2 => .ok (x :: xs) m2
def cTup (t : CA) : CE := fun r m => (t r m).bind fun xs m1 => .ok (MV.ofL xs) m1
def alloc (o : MO) (m : MH) : Res MV := .ok (.ref m.length) (m ++ [o])
def szOk (n : Nat) : Bool := decide (n ≤ 1000000)
def newL (xs : List MV) (m : MH) : Res MV := if szOk xs.length then alloc (.lst xs) m else .bad
def cLst (t : CA) : CE := fun r m => (t r m).bind newL
def cCall (f : BL) (t : CA) : CE := fun r m => (t r m).bind f
/-- the type of a receiver -/
def kindM : MV → MH → Option String
  | .str _, _ => some "str"
  | .nil, _ => some "tuple"
  | .cons _ _, _ => some "tuple"
  | .frz _, _ => some "list"
  | .ref n, m => match m[n]? with
    | some (.lst _) => some "list"
    | some (.dct _ _) => some "dict"
    | _ => none
  | _, _ => none
def cMeth (T : String) (f : BM) (o : CE) (t : CA) : CE := fun r m => (o r m).bind fun x m1 => if kindM x m1 = some T then (t r m1).bind fun xs m2 => f x xs m2 else .bad

/-! ### statements -/
def sNx : CS := fun r m => .ok (.nx r) m
def sBad : CS := fun _ _ => .bad
/-- raise C() -/
def sRz (c : Str) : CS := fun _ m => .ex c m
def sSeq (a b : CS) : CS := fun r m => (a r m).bind fun f m1 => match f with
  | .nx r1 => b r1 m1
  | f => .ok f m1
def sRet (e : CE) : CS := fun r m => (e r m).bind fun v m1 => .ok (.rt v) m1
def sExpr (e : CE) : CS := fun r m => (e r m).bind fun _ m1 => .ok (.nx r) m1
def sIf (c : CE) (a b : CS) : CS := fun r m => (c r m).bind fun x m1 => match x with
  | .bl true => a r m1
  | .bl false => b r m1
  | _ => .bad
def sBrk : CS := fun r m => .ok (.bk r) m
def sCnt : CS := fun r m => .ok (.ct r) m
def sAsg (e : CE) (g : CG) : CS := fun r m => (e r m).bind fun v m1 => (g v r m1).bind fun r1 m2 => .ok (.nx r1) m2
def lstAt (n : Nat) (m : MH) : Option (List MV) := match m[n]? with
  | some (.lst xs) => some xs
  | _ => none
def dctAt (n : Nat) (m : MH) : Option (List (MV × MV)) := match m[n]? with
  | some (.dct _ xs) => some xs
  | _ => none
def gNm (i : Nat) : CG := fun v r m => .ok (r.set i (some v)) m
def gNil : CG := fun v r m => match v with
  | .nil => .ok r m
  | _ => .bad
def gCons (g h : CG) : CG := fun v r m => match v with
  | .cons a b => (g a r m).bind fun r1 m1 => h b r1 m1
  | _ => .bad
/-- (a, b, ..) = a tuple or a list -/
def gUnp (n : Nat) (g : CG) : CG := fun v r m => match v with
  | .ref k => match lstAt k m with
    | some xs => if xs.length = n then g (MV.ofL xs) r m else .bad
    | none => .bad
  | v => g v r m
/-- o[i] = v, the operation by values -/
abbrev B3 := MV → MV → MV → MH → Res Unit
def gSub (o i : CE) (f : B3) : CG := fun v r m => (o r m).bind fun a m1 => (i r m1).bind fun b m2 => (f a b v m2).bind fun _ m3 => .ok r m3
/-- name op= e -/
def sAug (i : Nat) (f : B2) (e : CE) : CS := fun r m => match r[i]? with
  | some (some x) => (e r m).bind fun y m1 => (f x y m1).bind fun z m2 => .ok (.nx (r.set i (some z))) m2
  | _ => .bad
/-- o[i] op= e -/
def sAugS (get f : B2) (set : B3) (o i e : CE) : CS := fun r m => (o r m).bind fun a m1 => (i r m1).bind fun b m2 => (get a b m2).bind fun x m3 => (e r m3).bind fun y m4 => (f x y m4).bind fun z m5 => (set a b z m5).bind fun _ m6 => .ok (.nx r) m6
/-- a, b = x, y and a, b, c = x, y, z with plain names -/
def sPar2 (i j : Nat) (t : CA) : CS := fun r m => (t r m).bind fun vs m1 => match vs with
  | [v, w] => .ok (.nx ((r.set i (some v)).set j (some w))) m1
  | _ => .bad
def sPar3 (i j l : Nat) (t : CA) : CS := fun r m => (t r m).bind fun vs m1 => match vs with
  | [v, w, z] => .ok (.nx (((r.set i (some v)).set j (some w)).set l (some z))) m1
  | _ => .bad

def whileN (c : CE) (b : CS) : Nat → Sl → MH → Res Fl
  | 0, _, _ => .bad
  | n + 1, r, m => (c r m).bind fun x m1 => match x with
    | .bl true => (b r m1).bind fun f m2 => match f with
      | .nx r2 => whileN c b n r2 m2
      | .ct r2 => whileN c b n r2 m2
      | .bk r2 => .ok (.nx r2) m2
      | .rt v => .ok (.rt v) m2
    | .bl false => .ok (.nx r) m1
    | _ => .bad
def big : Nat := 1000000
def sWhile (c : CE) (b : CS) : CS := fun r m => whileN c b big r m

/-- what a loop walks -/
inductive Src where
  | its (xs : List MV) | lst (n : Nat) | dct (n k : Nat) | zip (a b : Nat) | enm (a : Nat)
/-- the item at a turn: none, stuck; some none, the end -/
def Src.at : Src → Nat → MH → Option (Option MV)
  | .its xs, i, _ => some xs[i]?
  | .lst n, i, m => (lstAt n m).map fun xs => xs[i]?
  | .dct n k, i, m => (dctAt n m).bind fun kvs => if kvs.length = k then some (kvs[i]?.map (·.1)) else none
  | .zip a b, i, m => (lstAt a m).bind fun xs => (lstAt b m).map fun ys => match xs[i]?, ys[i]? with
    | some x, some y => some (.cons x (.cons y .nil))
    | _, _ => none
  | .enm a, i, m => (lstAt a m).map fun xs => xs[i]?.map fun x => .cons (.int i) (.cons x .nil)
abbrev CI := Sl → MH → Res Src
def forN (s : Src) (g : CG) (b : CS) : Nat → Nat → Sl → MH → Res Fl
  | 0, _, _, _ => .bad
  | n + 1, i, r, m => match s.at i m with
    | none => .bad
    | some none => .ok (.nx r) m
    | some (some v) => (g v r m).bind fun r1 m1 => (b r1 m1).bind fun f m2 => match f with
      | .nx r2 => forN s g b n (i + 1) r2 m2
      | .ct r2 => forN s g b n (i + 1) r2 m2
      | .bk r2 => .ok (.nx r2) m2
      | .rt v => .ok (.rt v) m2
def sFor (it : CI) (g : CG) (b : CS) : CS := fun r m => (it r m).bind fun s m1 => forN s g b big 0 r m1

/-- for x in e: a list, a tuple, the script; its type is told by the text -/
def iLst (e : CE) : CI := fun r m => (e r m).bind fun v m1 => match v with
  | .ref n => match lstAt n m1 with
    | some _ => .ok (.lst n) m1
    | none => .bad
  | .frz t => match t.toL with
    | some xs => .ok (.its xs) m1
    | none => .bad
  | _ => .bad
def iTupl (e : CE) : CI := fun r m => (e r m).bind fun v m1 => match v.toL with
  | some xs => .ok (.its xs) m1
  | none => .bad
def iSeq (e : CE) : CI := fun r m => (e r m).bind fun v m1 => match v with
  | .ref n => match lstAt n m1 with
    | some _ => .ok (.lst n) m1
    | none => .bad
  | .frz t => match t.toL with
    | some xs => .ok (.its xs) m1
    | none => .bad
  | v => match v.toL with
    | some xs => .ok (.its xs) m1
    | none => .bad
def rangeL (lo : Int) (n : Nat) : List MV := (List.range n).map fun i => .int (lo + (i : Nat))
def iRange (t : CA) : CI := fun r m => (t r m).bind fun vs m1 => match vs with
  | [.int j] => if decide (j.natAbs < 2 ^ 60) then .ok (.its (rangeL 0 j.toNat)) m1 else .bad
  | [.int i, .int j] => if decide (i.natAbs < 2 ^ 60) && decide (j.natAbs < 2 ^ 60) then .ok (.its (rangeL i (j - i).toNat)) m1 else .bad
  | _ => .bad
def iZip2 (t : CA) : CI := fun r m => (t r m).bind fun vs m1 => match vs with
  | [.ref a, .ref b] => match lstAt a m1, lstAt b m1 with
    | some _, some _ => .ok (.zip a b) m1
    | _, _ => .bad
  | _ => .bad
def iEnm (t : CA) : CI := fun r m => (t r m).bind fun vs m1 => match vs with
  | [.ref a] => match lstAt a m1 with
    | some _ => .ok (.enm a) m1
    | _ => .bad
  | _ => .bad

/-! ### comprehensions -/
def wipeM (r : Sl) : List Nat → Sl
  | [] => r
  | v :: vs => (wipeM r vs).set v none
def compN (s : Src) (g : CG) (c e : CE) (r : Sl) : Nat → Nat → List MV → MH → Res (List MV)
  | 0, _, _, _ => .bad
  | n + 1, i, acc, m => match s.at i m with
    | none => .bad
    | some none => .ok acc m
    | some (some v) => (g v r m).bind fun r1 m1 => (c r1 m1).bind fun x m2 => match x with
      | .bl true => (e r1 m2).bind fun y m3 => compN s g c e r n (i + 1) (acc ++ [y]) m3
      | .bl false => compN s g c e r n (i + 1) acc m2
      | _ => .bad
def cComp (it : CI) (vs : List Nat) (g : CG) (c e : CE) : CE := fun r m => (it r m).bind fun s m1 => (compN s g c e (wipeM r vs) big 0 [] m1).bind fun xs m2 => newL xs m2

/-- a pure value as a key -/
def nkL : MV → List NestedKey
  | .nil => []
  | .cons h t => nk1 h :: nkL t
  | _ => []
where nk1 : MV → NestedKey
  | .non => .none
  | .bl b => .num (if b then 1 else 0)
  | .int i => .num i
  | .str x => .text x
  | .nil => .tup []
  | .cons h t => .tup (nk1 h :: nkL t)
  | _ => .none
def isT : MV → Bool
  | .nil => true
  | .cons _ _ => true
  | _ => false
/-- may be a key: a tuple to a depth -/
def keyOk : Nat → MV → Bool
  | _, .non => true
  | _, .bl _ => true
  | _, .int _ => true
  | _, .str _ => true
  | k + 1, .nil => true
  | k + 1, .cons h t => keyOk k h && isT t && keyOk (k + 1) t
  | _, _ => false


/-! ### operations by values -/
def eqv : MV → MV → Bool
  | .non, .non => true
  | .bl a, .bl b => a == b
  | .bl a, .int j => (if a then 1 else 0) == j
  | .int i, .bl b => i == (if b then 1 else 0)
  | .int i, .int j => i == j
  | .str x, .str y => x == y
  | .nil, .nil => true
  | .cons a b, .cons c d => eqv a c && eqv b d
  | .frz a, .frz b => eqv a b
  | _, _ => false
/-- a chain's items by f -/
def chainM (f : MV → Option MV) : MV → Option MV
  | .nil => some .nil
  | .cons h t => (f h).bind fun h1 => (chainM f t).map fun t1 => .cons h1 t1
  | _ => none
def mapM? (f : MV → Option MV) : List MV → Option MV
  | [] => some .nil
  | h :: t => (f h).bind fun h1 => (mapM? f t).map fun t1 => .cons h1 t1
/-- lists read off the heap, to a depth -/
def deep (m : MH) : Nat → MV → Option MV
  | _, .non => some .non
  | _, .bl b => some (.bl b)
  | _, .int i => some (.int i)
  | _, .str x => if x.cps.all (· < 0x110000) then some (.str x) else none
  | 0, _ => none
  | k + 1, .nil => some .nil
  | k + 1, .cons h t => chainM (deep m k) (.cons h t)
  | k + 1, .frz t => (chainM (deep m k) t).map .frz
  | k + 1, .ref n => (lstAt n m).bind fun xs => (mapM? (deep m k) xs).map .frz
def eqM (m : MH) (a b : MV) : Option Bool := match a, b with
  | .int i, .int j => some (i == j)
  | a, b => (deep m 40 a).bind fun x => (deep m 40 b).map fun y => eqv x y
def oEq : B2 := fun a b m => match eqM m a b with
  | some c => .ok (.bl c) m
  | none => .bad
def oNe : B2 := fun a b m => match eqM m a b with
  | some c => .ok (.bl (!c)) m
  | none => .bad
def oI (f : Int → Int → MV) : B2 := fun a b m => match a, b with
  | .int i, .int j => .ok (f i j) m
  | _, _ => .bad
def oLt : B2 := oI fun i j => .bl (decide (i < j))
def oLe : B2 := oI fun i j => .bl (decide (i ≤ j))
def oGt : B2 := oI fun i j => .bl (decide (j < i))
def oGe : B2 := oI fun i j => .bl (decide (j ≤ i))
def oIs : B2 := fun a b m => match b with
  | .non => .ok (.bl (decide (a = .non))) m
  | .bl y => match a with
    | .bl x => .ok (.bl (x == y)) m
    | _ => .bad
  | _ => .bad
def oIsNot : B2 := fun a b m => match b with
  | .non => .ok (.bl (!decide (a = .non))) m
  | .bl y => match a with
    | .bl x => .ok (.bl (!(x == y))) m
    | _ => .bad
  | _ => .bad
def oSub : B2 := oI fun i j => .int (i - j)
def oAdd : B2 := fun a b m => match a, b with
  | .int i, .int j => .ok (.int (i + j)) m
  | .ref i, .ref j => match lstAt i m, lstAt j m with
    | some xs, some ys => newL (xs ++ ys) m
    | _, _ => .bad
  | a, b => match a.toL, b.toL with
    | some xs, some ys => if szOk (xs.length + ys.length) then .ok (MV.ofL (xs ++ ys)) m else .bad
    | _, _ => .bad
def mulOk (i j : Int) : Bool := decide (i.natAbs < 2 ^ 64) || decide (j.natAbs < 2 ^ 64) || (decide (i.natAbs < 2 ^ 1000) && decide (j.natAbs < 2 ^ 1000))
def oMul : B2 := fun a b m => match a, b with
  | .int i, .int j => if mulOk i j then .ok (.int (i * j)) m else .bad
  | .ref n, .int k => match lstAt n m with
    | some [x] => if decide (0 ≤ k) && decide (k ≤ 1000) then newL (List.replicate k.toNat x) m else .bad
    | _ => .bad
  | a, .int k => match a.toL with
    | some [x] => if decide (0 ≤ k) && decide (k ≤ 1000) then .ok (MV.ofL (List.replicate k.toNat x)) m else .bad
    | _ => .bad
  | _, _ => .bad
def oMod : B2 := fun a b m => match a, b with
  | .int i, .int j => if decide (0 < j) then .ok (.int (i % j)) m else .bad
  | _, _ => .bad
def oDiv : B2 := fun a b m => match a, b with
  | .int i, .int j => if decide (0 < j) && decide (j < 1073741824) then .ok (.int (i / j)) m else .bad
  | _, _ => .bad
def oPow : B2 := fun a b m => match a, b with
  | .int i, .int j => if decide (0 ≤ j) && decide (j ≤ 1000000) && decide (i.natAbs < 2 ^ 64) then .ok (.int (i ^ j.toNat)) m else .bad
  | _, _ => .bad
def oNeg : MV → MH → Res MV := fun a m => match a with
  | .int i => .ok (.int (-i)) m
  | _ => .bad
/-- a sequence's items: a tuple, a list, the script -/
def seqAt (a : MV) (m : MH) : Option (List MV) := match a with
  | .ref n => lstAt n m
  | .frz t => t.toL
  | a => a.toL
/-- the place of an entry -/
def keyAt (kvs : List (MV × MV)) (k : MV) : Option MV := match kvs with
  | [] => none
  | (a, v) :: r => if eqv a k then some v else keyAt r k
def oIx : B2 := fun a b m => match b with
  | .int i => match seqAt a m with
    | some xs => match L2.atI xs i with
      | some v => .ok v m
      | none => .bad
    | none => .bad
  | k => match a with
    | .ref n => match dctAt n m with
      | some kvs => if isT k && keyOk 8 k then match keyAt kvs k with
          | some v => .ok v m
          | none => .bad
        else .bad
      | none => .bad
    | _ => .bad
/-- xs[i] in place, for op= -/
def oGet : B2 := fun a b m => match a, b with
  | .ref n, .int i => match lstAt n m with
    | some xs => if decide (0 ≤ i) then match xs[i.toNat]? with
        | some v => .ok v m
        | none => .bad
      else .bad
    | none => .bad
  | _, _ => .bad
def oAddI : B2 := oI fun i j => .int (i + j)
def oSubI : B2 := oI fun i j => .int (i - j)
/-- xs[i] = v, d[k] = v -/
def dPut (kvs : List (MV × MV)) (k v : MV) : List (MV × MV) := match kvs with
  | [] => [(k, v)]
  | (a, w) :: r => if eqv a k then (a, v) :: r else (a, w) :: dPut r k v
def oSet : B3 := fun a b v m => match a with
  | .ref n => match m[n]? with
    | some (.lst xs) => match b with
      | .int i => match L2.ixN xs.length i with
        | some j => .ok () (m.set n (.lst (xs.set j v)))
        | none => .bad
      | _ => .bad
    | some (.dct false kvs) => if isT b && keyOk 8 b && szOk kvs.length then .ok () (m.set n (.dct false (dPut kvs b v))) else .bad
    | _ => .bad
  | _ => .bad
/-- x in a list or tuple, k in d -/
def anyEq (x : MV) : List MV → Bool
  | [] => false
  | y :: r => eqv y x || anyEq x r
def inM (m : MH) (a b : MV) : Option Bool := match b with
  | .str y => match a with
    | .str x => some (!(Builtin.Str.occurrences y x 0 y.length 1).isEmpty)
    | _ => none
  | .ref n => match m[n]? with
    | some (.lst xs) => (deep m 40 a).bind fun x => (mapM? (deep m 39) xs).bind fun t => t.toL.map fun ys => anyEq x ys
    | some (.dct _ kvs) => if isT a && keyOk 8 a then some (keyAt kvs a).isSome else none
    | _ => none
  | b => (deep m 40 a).bind fun x => (chainM (deep m 39) b).bind fun t => t.toL.map fun ys => anyEq x ys
def oIn : B2 := fun a b m => match inM m a b with
  | some c => .ok (.bl c) m
  | none => .bad
def oNotIn : B2 := fun a b m => match inM m a b with
  | some c => .ok (.bl (!c)) m
  | none => .bad
/-! ### built-ins and methods -/
def asInts : List MV → Option (List Int)
  | [] => some []
  | .int i :: r => (asInts r).map (i :: ·)
  | _ :: _ => none
def bLen : BL := fun as m => match as with
  | [.str x] => if szOk x.length then .ok (.int x.length) m else .bad
  | [a] => match seqAt a m with
    | some xs => .ok (.int xs.length) m
    | none => match a with
      | .ref n => match dctAt n m with
        | some kvs => .ok (.int kvs.length) m
        | none => .bad
      | _ => .bad
  | _ => .bad
def bMin : BL := fun as m => match as with
  | [.int i, .int j] => .ok (.int (if j < i then j else i)) m
  | _ => .bad
def bMax : BL := fun as m => match as with
  | [.int i, .int j] => .ok (.int (if j > i then j else i)) m
  | _ => .bad
def bAbs : BL := fun as m => match as with
  | [.int i] => .ok (.int (if i < 0 then -i else i)) m
  | _ => .bad
def bTuple : BL := fun as m => match as with
  | [.ref n] => match lstAt n m with
    | some xs => .ok (MV.ofL xs) m
    | none => .bad
  | _ => .bad
def bList : BL := fun as m => match as with
  | [a] => match seqAt a m with
    | some xs => newL xs m
    | none => .bad
  | _ => .bad
def asBools : List MV → Option (List Bool)
  | [] => some []
  | .bl i :: r => (asBools r).map (i :: ·)
  | _ :: _ => none
def bAll : BL := fun as m => match as with
  | [.ref n] => match lstAt n m with
    | some xs => match asBools xs with
      | some bs => .ok (.bl (bs.all id)) m
      | none => .bad
    | none => .bad
  | _ => .bad
def bAny : BL := fun as m => match as with
  | [.ref n] => match lstAt n m with
    | some xs => match asBools xs with
      | some bs => .ok (.bl (bs.any id)) m
      | none => .bad
    | none => .bad
  | _ => .bad
def bSum : BL := fun as m => match as with
  | [.ref n] => match (lstAt n m).bind asInts with
    | some ns => .ok (.int ns.sum) m
    | none => .bad
  | _ => .bad
def cDict0 : CE := fun _ m => alloc (.dct false []) m
/-- d.get(k, x) -/
def mGet : BM := fun a as m => match a, as with
  | .ref n, [k, x] => match dctAt n m with
    | some kvs => if isT k && keyOk 8 k then .ok ((keyAt kvs k).getD x) m else .bad
    | none => .bad
  | _, _ => .bad
/-- isinstance(x, T), T a built-in class -/
def tyN : MV → MH → Option String
  | .non, _ => some "NoneType"
  | .bl _, _ => some "bool"
  | .int _, _ => some "int"
  | .str _, _ => some "str"
  | .nil, _ => some "tuple"
  | .cons _ _, _ => some "tuple"
  | .frz _, _ => some "list"
  | .ref n, m => match m[n]? with
    | some (.lst _) => some "list"
    | _ => none
def isSub (a b : String) : Bool := a == b || (a == "bool" && b == "int")
def oIsi (T : String) : MV → MH → Res MV := fun a m => match tyN a m with
  | some t => .ok (.bl (isSub t T)) m
  | none => .bad
def mAppend : BM := fun a as m => match a, as with
  | .ref n, [v] => match lstAt n m with
    | some xs => if szOk xs.length then .ok .non (m.set n (.lst (xs ++ [v]))) else .bad
    | none => .bad
  | _, _ => .bad
def mExtend : BM := fun a as m => match a, as with
  | .ref n, [.ref k] => match lstAt n m, lstAt k m with
    | some xs, some ys => if szOk (xs.length + ys.length) then .ok .non (m.set n (.lst (xs ++ ys))) else .bad
    | _, _ => .bad
  | _, _ => .bad
def mPop : BM := fun a as m => match a, as with
  | .ref n, [] => match lstAt n m with
    | some xs => match xs[xs.length - 1]? with
      | some v => .ok v (m.set n (.lst xs.dropLast))
      | none => .bad
    | none => .bad
  | .ref n, [.int i] => match lstAt n m with
    | some xs => match L2.ixN xs.length i with
      | some k => match xs[k]? with
        | some v => .ok v (m.set n (.lst (xs.eraseIdx k)))
        | none => .bad
      | none => .bad
    | none => .bad
  | _, _ => .bad
def lstOf (a : MV) (m : MH) : Option (List MV) := match a with
  | .ref n => lstAt n m
  | .frz t => t.toL
  | _ => none
def mCntL : BM := fun a as m => match as with
  | [.int k] => match (lstOf a m).bind asInts with
    | some ns => .ok (.int (ns.count k : Nat)) m
    | none => .bad
  | _ => .bad
def mIdxL : BM := fun a as m => match as with
  | [.int k] => match (lstOf a m).bind asInts with
    | some ns => if ns.contains k then .ok (.int (ns.idxOf k : Nat)) m else .bad
    | none => .bad
  | _ => .bad
def mCntT : BM := fun a as m => match as with
  | [.int k] => match a.toL.bind asInts with
    | some ns => .ok (.int (ns.count k : Nat)) m
    | none => .bad
  | _ => .bad
def mIdxT : BM := fun a as m => match as with
  | [.int k] => match a.toL.bind asInts with
    | some ns => if ns.contains k then .ok (.int (ns.idxOf k : Nat)) m else .bad
    | none => .bad
  | _ => .bad
/-- a[lo:hi] -/
def partOf (c : Option CE) (r : Sl) (m : MH) : Res (Option Int) := match c with
  | none => .ok none m
  | some c => (c r m).bind fun v m1 => match v with
    | .int i => .ok (some i) m1
    | _ => .bad
def cutM (xs : List MV) (lo hi : Option Int) : List MV := (xs.drop (HT.sIx xs.length 0 lo)).take (HT.sIx xs.length xs.length hi - HT.sIx xs.length 0 lo)
def slM (a : MV) (lo hi : Option Int) (m : MH) : Res MV := match a with
  | .ref n => match lstAt n m with
    | some xs => newL (cutM xs lo hi) m
    | none => .bad
  | .frz t => match t.toL with
    | some xs => newL (cutM xs lo hi) m
    | none => .bad
  | a => match a.toL with
    | some xs => .ok (MV.ofL (cutM xs lo hi)) m
    | none => .bad
def cSlice (a : CE) (lo hi : Option CE) : CE := fun r m => (a r m).bind fun x m1 => (partOf lo r m1).bind fun l m2 => (partOf hi r m2).bind fun h m3 => slM x l h m3
def cTrue : CE := fun _ m => .ok (.bl true) m
/-! ### a def by its body; the law -/
def slots (n : Nat) (as : List MV) : Sl := as.map some ++ List.replicate (n - as.length) none
def runB (n : Nat) (body : CS) : BL := fun as m => (body (slots n as) m).bind fun f m1 => match f with
  | .rt v => .ok v m1
  | .nx _ => .ok .non m1
  | _ => .bad
def script (ns : List Int) : MV := .frz (MV.ofL (ns.map .int))
/-- the law's run on the core gives True for every script -/
def Good (f : BL) : Prop := ∀ ns : List Int, ns.length ≤ 63 → ∃ m, f [script ns] [] = .ok (.bl true) m
/-- xs.remove(k), ints -/
def mRem : BM := fun a as m => match a, as with
  | .ref n, [.int k] => match (lstAt n m).bind asInts with
    | some ns => if ns.contains k then .ok .non (m.set n (.lst ((ns.erase k).map .int))) else .bad
    | none => .bad
  | _, _ => .bad
/-! ### dicts that are walked, made by comprehensions, compared; sorted -/
def sLock (e : CE) (s : CS) : CS := fun r m => match e r m with
  | .ok (.ref n) _ => match m[n]? with
    | some (.dct false kvs) => (s r (m.set n (.dct true kvs))).bind fun f m1 => .ok f (m1.set n (.dct false kvs))
    | _ => .bad
  | _ => .bad
def cLock (e : CE) (c : CE) : CE := fun r m => match e r m with
  | .ok (.ref n) _ => match m[n]? with
    | some (.dct false kvs) => (c r (m.set n (.dct true kvs))).bind fun v m1 => .ok v (m1.set n (.dct false kvs))
    | _ => .bad
  | _ => .bad
def iDct (e : CE) : CI := fun r m => (e r m).bind fun v m1 => match v with
  | .ref n => match m1[n]? with
    | some (.dct true kvs) => .ok (.dct n kvs.length) m1
    | _ => .bad
  | _ => .bad
def dcompN (s : Src) (g : CG) (c k e : CE) (r : Sl) : Nat → Nat → List (MV × MV) → MH → Res (List (MV × MV))
  | 0, _, _, _ => .bad
  | n + 1, i, acc, m => match s.at i m with
    | none => .bad
    | some none => .ok acc m
    | some (some v) => (g v r m).bind fun r1 m1 => (c r1 m1).bind fun x m2 => match x with
      | .bl true => (k r1 m2).bind fun kk m3 => (e r1 m3).bind fun y m4 => if isT kk && keyOk 8 kk && szOk acc.length then dcompN s g c k e r n (i + 1) (dPut acc kk y) m4 else .bad
      | .bl false => dcompN s g c k e r n (i + 1) acc m2
      | _ => .bad
def cDComp (it : CI) (vs : List Nat) (g : CG) (c k e : CE) : CE := fun r m => (it r m).bind fun s m1 => (dcompN s g c k e (wipeM r vs) big 0 [] m1).bind fun kvs m2 => alloc (.dct false kvs) m2
def cDict1 (k e : CE) : CE := fun r m => (k r m).bind fun kk m1 => (e r m1).bind fun y m2 => if isT kk && keyOk 8 kk then alloc (.dct false [(kk, y)]) m2 else .bad
def dEqL (m : MH) (b : List (MV × MV)) : List (MV × MV) → Option Bool
  | [] => some true
  | (k, v) :: r => match keyAt b k with
    | none => some false
    | some w => match eqM m v w with
      | some true => dEqL m b r
      | some false => some false
      | none => none
def dEqM (m : MH) (a b : MV) : Option Bool := match a, b with
  | .ref i, .ref j => match dctAt i m, dctAt j m with
    | some x, some y => if x.length = y.length then dEqL m y x else some false
    | _, _ => none
  | _, _ => none
def oEqD : B2 := fun a b m => match dEqM m a b with
  | some c => .ok (.bl c) m
  | none => .bad
def oNeD : B2 := fun a b m => match dEqM m a b with
  | some c => .ok (.bl (!c)) m
  | none => .bad
def insI (x : Int) : List Int → List Int
  | [] => [x]
  | y :: l => if x ≤ y then x :: y :: l else y :: insI x l
def sortI : List Int → List Int
  | [] => []
  | x :: l => insI x (sortI l)
def lexP (p q : Int × Int) : Bool := if p.1 = q.1 then decide (p.2 ≤ q.2) else decide (p.1 < q.1)
def insP (x : Int × Int) : List (Int × Int) → List (Int × Int)
  | [] => [x]
  | y :: l => if lexP x y then x :: y :: l else y :: insP x l
def sortP : List (Int × Int) → List (Int × Int)
  | [] => []
  | x :: l => insP x (sortP l)
def asPrs : List MV → Option (List (Int × Int))
  | [] => some []
  | .cons (.int a) (.cons (.int b) .nil) :: r => (asPrs r).map ((a, b) :: ·)
  | _ :: _ => none
def bSorted : BL := fun as m => match as with
  | [a] => match seqAt a m with
    | some xs => match asInts xs with
      | some ns => newL ((sortI ns).map .int) m
      | none => match a with
        | .ref _ => match asPrs xs with
          | some ps => newL ((sortP ps).map fun p => .cons (.int p.1) (.cons (.int p.2) .nil)) m
          | none => .bad
        | _ => .bad
    | none => .bad
  | _ => .bad
end Co

namespace Co
open PySem PySem.Spec PyProof.Rows L2

/-! ### how pure values and the small heap stand in HandS's heap -/
abbrev Al := Nat → Option Addr
/-- what is fixed through a law -/
structure Zx where
  P : Program
  w : World
  K : PySem.W.Frag
  mg : Str → Option Value
abbrev zx (X : Cx) : Zx := ⟨X.prog, X.w, X.K, X.mg⟩

def KL (K : PySem.W.Frag) (a : Addr) (xs : List V) : Prop :=
  ∃ (o : Obj) (its : Array Value) (n : Nat), K.lookup a = some o ∧ o.cls = .type "list" ∧ o.dict = none ∧ o.data = .seq its n ∧ its.size ≤ sizeLine ∧ Vals xs its.toList
def FzL (K : PySem.W.Frag) (H : Hp) (a : Addr) (xs : List V) : Prop := (∃ o, H a = some (.frz o (.lst xs))) ∨ KL K a xs
theorem FzL.sq {K : PySem.W.Frag} {H : Hp} {a : Addr} {xs : List V} (h : FzL K H a xs) : SqL K H a xs := by
  rcases h with ⟨o, h⟩ | h
  · exact .inl (.inr ⟨o, h⟩)
  · exact .inr h

/-- a tuple whose object is known to bear no dict -/
def TD (K : PySem.W.Frag) (H : Hp) (a : Addr) (xs : List V) : Prop := (∃ o, H a = some (.frz o (.tup xs)) ∧ o.dict = none) ∨
  ∃ (o : Obj) (its : Array Value) (n : Nat), K.lookup a = some o ∧ o.cls = .type "tuple" ∧ o.dict = none ∧ o.data = .seq its n ∧ its.size ≤ sizeLine ∧ Vals xs its.toList
theorem TD.sq {K : PySem.W.Frag} {H : Hp} {a : Addr} {xs : List V} (h : TD K H a xs) : SqT K H a xs := by
  rcases h with ⟨o, h, _⟩ | ⟨o, its, n, h1, h2, h3, h4⟩
  · exact .inl (.inr ⟨o, h⟩)
  · exact .inr ⟨o, its, n, h1, h2, h4⟩
mutual
inductive RV (Z : Zx) (al : Al) (H : Hp) : MV → V → Prop
  | non : RV Z al H .non .non
  | bl (b : Bool) : RV Z al H (.bl b) (.bl b)
  | int (i : Int) : RV Z al H (.int i) (.int i)
  | str (x : Str) : RV Z al H (.str x) (.str x)
  | ref {n : Nat} {a : Addr} : al n = some a → RV Z al H (.ref n) (.ref a)
  | tup {t : MV} {a : Addr} {xs : List V} : TD Z.K H a xs → RVs Z al H t xs → RV Z al H t (.ref a)
  | frz {t : MV} {a : Addr} {xs : List V} : FzL Z.K H a xs → RVs Z al H t xs → RV Z al H (.frz t) (.ref a)
inductive RVs (Z : Zx) (al : Al) (H : Hp) : MV → List V → Prop
  | nil : RVs Z al H .nil []
  | cons {h t : MV} {x : V} {xs : List V} : RV Z al H h x → RVs Z al H t xs → RVs Z al H (.cons h t) (x :: xs)
end
abbrev RL (Z : Zx) (al : Al) (H : Hp) : List MV → List V → Prop := Paired (RV Z al H)

section
variable {Z : Zx} {al : Al} {H : Hp}
theorem RVs.ofL : ∀ {l : List MV} {xs : List V}, RL Z al H l xs → RVs Z al H (MV.ofL l) xs
  | _, _, .nil => .nil
  | _, _, .cons r t => .cons r (RVs.ofL t)
theorem RVs.toL : ∀ {t : MV} {xs : List V}, RVs Z al H t xs → ∃ l, t.toL = some l ∧ RL Z al H l xs
  | .nil, _, .nil => ⟨[], rfl, .nil⟩
  | .cons h t, _, .cons r q => by
    obtain ⟨l, e, p⟩ := RVs.toL q
    exact ⟨h :: l, by simp [MV.toL, e], .cons r p⟩
theorem RV.tup_inv {t : MV} {l : List MV} {x : V} (h : RV Z al H t x) (e : t.toL = some l) : ∃ a xs, x = .ref a ∧ TD Z.K H a xs ∧ RL Z al H l xs := by
  cases h with
  | tup hs hv =>
    obtain ⟨l', e', p⟩ := RVs.toL hv
    rw [e] at e'; cases e'
    exact ⟨_, _, rfl, hs, p⟩
  | _ => simp [MV.toL] at e
end
theorem Paired.get? {α β : Type} {F : α → β → Prop} : ∀ {l : List α} {r : List β} {i : Nat} {a : α}, Paired F l r → l[i]? = some a → ∃ b, r[i]? = some b ∧ F a b
  | _, _, _, _, .nil, e => by simp at e
  | _, _, 0, _, .cons r _, e => by simp at e; subst e; exact ⟨_, rfl, r⟩
  | _, _, i + 1, _, .cons _ t, e => by
    obtain ⟨b, h1, h2⟩ := Paired.get? (i := i) t (by simpa using e)
    exact ⟨b, by simpa using h1, h2⟩
theorem Paired.get2? {α β : Type} {F : α → β → Prop} : ∀ {l : List α} {r : List β} {i : Nat} {b : β}, Paired F l r → r[i]? = some b → ∃ a, l[i]? = some a ∧ F a b
  | _, _, _, _, .nil, e => by simp at e
  | _, _, 0, _, .cons r _, e => by simp at e; subst e; exact ⟨_, rfl, r⟩
  | _, _, i + 1, _, .cons _ t, e => by
    obtain ⟨b, h1, h2⟩ := Paired.get2? (i := i) t (by simpa using e)
    exact ⟨b, by simpa using h1, h2⟩
theorem Paired.len {α β : Type} {F : α → β → Prop} : ∀ {l : List α} {r : List β}, Paired F l r → l.length = r.length
  | _, _, .nil => rfl
  | _, _, .cons _ t => by simp [Paired.len t]
theorem Paired.append {α β : Type} {F : α → β → Prop} : ∀ {l l2 : List α} {r r2 : List β}, Paired F l r → Paired F l2 r2 → Paired F (l ++ l2) (r ++ r2)
  | _, _, _, _, .nil, s => s
  | _, _, _, _, .cons r t, s => .cons r (Paired.append t s)
theorem Paired.take {α β : Type} {F : α → β → Prop} : ∀ {l : List α} {r : List β} (n : Nat), Paired F l r → Paired F (l.take n) (r.take n)
  | _, _, 0, _ => by simpa using Paired.nil
  | _, _, _ + 1, .nil => .nil
  | _, _, n + 1, .cons r t => .cons r (Paired.take n t)
theorem Paired.drop {α β : Type} {F : α → β → Prop} : ∀ {l : List α} {r : List β} (n : Nat), Paired F l r → Paired F (l.drop n) (r.drop n)
  | _, _, 0, h => h
  | _, _, _ + 1, .nil => .nil
  | _, _, n + 1, .cons r t => Paired.drop n t
theorem Paired.set {α β : Type} {F : α → β → Prop} {a : α} {b : β} (h : F a b) : ∀ {l : List α} {r : List β} (n : Nat), Paired F l r → Paired F (l.set n a) (r.set n b)
  | _, _, _, .nil => .nil
  | _, _, 0, .cons r t => .cons h t
  | _, _, n + 1, .cons r t => .cons r (Paired.set h n t)
theorem Paired.imp {α β : Type} {F G : α → β → Prop} (f : ∀ a b, F a b → G a b) : ∀ {l : List α} {r : List β}, Paired F l r → Paired G l r
  | _, _, .nil => .nil
  | _, _, .cons r t => .cons (f _ _ r) (Paired.imp f t)
theorem Paired.rep {α β : Type} {F : α → β → Prop} {a : α} {b : β} (h : F a b) : ∀ n : Nat, Paired F (List.replicate n a) (List.replicate n b)
  | 0 => .nil
  | n + 1 => .cons h (Paired.rep h n)

/-- a dict of nested keys -/
abbrev DE := NestedKey × Addr × Value
def DX (P : Program) (w : World) (a : Addr) (es : List DE) : Heap → Prop := fun h => (a == sysModules) = false ∧ es.length ≤ sizeLine ∧ ∃ o ents ep, h.get? a = some o ∧ o.ExactDict ∧ o.data = .dict ents ep ∧ ents.toList = es.map (entryOfKey (nestedKind P w)) ∧ (es.map (·.1)).Nodup
abbrev DO (Z : Zx) (a : Addr) (es : List DE) : HO := .ext (DX Z.P Z.w a es)

def EntR (Z : Zx) (al : Al) (H : Hp) (p : MV × MV) (q : DE) : Prop :=
  isT p.1 = true ∧ keyOk 8 p.1 = true ∧ q.1 = nkL.nk1 p.1 ∧ RV Z al H p.1 (.ref q.2.1) ∧ ∃ x, RelV x q.2.2 ∧ RV Z al H p.2 x

inductive OR (Z : Zx) (al : Al) (H : Hp) : MO → Addr → Prop
  | lst {ys : List MV} {xs : List V} {a : Addr} : H a = some (.lst xs) → RL Z al H ys xs → OR Z al H (.lst ys) a
  | dct {kvs : List (MV × MV)} {es : List DE} {a : Addr} : H a = some (DO Z a es) → Paired (EntR Z al H) kvs es → OR Z al H (.dct false kvs) a
  | dctL {kvs : List (MV × MV)} {es : List DE} {a : Addr} {o : Obj} : H a = some (.frz o (DO Z a es)) → Paired (EntR Z al H) kvs es → OR Z al H (.dct true kvs) a
  | ins {c : Str} {fs : List (Str × MV)} {C dx a : Addr} {gs : List (Str × V)} : H a = some (.ins C dx gs) → Z.mg c = some (.ref C) → Paired (fun (p : Str × MV) (q : Str × V) => p.1 = q.1 ∧ RV Z al H p.2 q.2) fs gs → OR Z al H (.ins c fs) a

structure Rel (Z : Zx) (al : Al) (m : MH) (H : Hp) : Prop where
  has : ∀ n o, m[n]? = some o → ∃ a, al n = some a ∧ OR Z al H o a
  dom : ∀ n a, al n = some a → n < m.length
  inj : ∀ n n' a, al n = some a → al n' = some a → n = n'

/-- what values lean on stands -/
structure Ext0 (al : Al) (H : Hp) (al' : Al) (H' : Hp) : Prop where
  le : ∀ n a, al n = some a → al' n = some a
  tup : ∀ a xs, H a = some (.tup xs) → H' a = some (.tup xs)
  frz : ∀ a o u, H a = some (.frz o u) → H' a = some (.frz o u)
/-- the heap has grown or was written as the small heap tells; all else stands -/
structure Ext (al : Al) (H : Hp) (al' : Al) (H' : Hp) : Prop where
  le : ∀ n a, al n = some a → al' n = some a
  tup : ∀ a xs, H a = some (.tup xs) → H' a = some (.tup xs)
  frz : ∀ a o u, H a = some (.frz o u) → H' a = some (.frz o u)
  frm : ∀ a o, H a = some o → (∀ n, al n ≠ some a) → H' a = some o ∧ ∀ n, al' n ≠ some a
theorem Ext.e0 {al al' : Al} {H H' : Hp} (e : Ext al H al' H') : Ext0 al H al' H' := ⟨e.le, e.tup, e.frz⟩
theorem Ext.refl {al : Al} {H : Hp} : Ext al H al H := ⟨fun _ _ h => h, fun _ _ h => h, fun _ _ _ h => h, fun _ _ h n => ⟨h, n⟩⟩
theorem Ext.trans {al al1 al2 : Al} {H H1 H2 : Hp} (a : Ext al H al1 H1) (b : Ext al1 H1 al2 H2) : Ext al H al2 H2 :=
  ⟨fun n x h => b.le n x (a.le n x h), fun x xs h => b.tup x xs (a.tup x xs h), fun x o u h => b.frz x o u (a.frz x o u h), fun x o h n => let ⟨h1, n1⟩ := a.frm x o h n; b.frm x o h1 n1⟩
section
variable {Z : Zx} {al al' : Al} {H H' : Hp}
theorem Ext0.sqT (e : Ext0 al H al' H') {a : Addr} {xs : List V} (h : SqT Z.K H a xs) : SqT Z.K H' a xs := by
  rcases h with (h | ⟨o, h⟩) | h
  · exact .inl (.inl (e.tup a xs h))
  · exact .inl (.inr ⟨o, e.frz a o _ h⟩)
  · exact .inr h
theorem Ext0.td (e : Ext0 al H al' H') {a : Addr} {xs : List V} (h : TD Z.K H a xs) : TD Z.K H' a xs := by
  rcases h with ⟨o, h, d⟩ | h
  · exact .inl ⟨o, e.frz a o _ h, d⟩
  · exact .inr h
theorem Ext0.fzL (e : Ext0 al H al' H') {a : Addr} {xs : List V} (h : FzL Z.K H a xs) : FzL Z.K H' a xs := by
  rcases h with ⟨o, h⟩ | h
  · exact .inl ⟨o, e.frz a o _ h⟩
  · exact .inr h
mutual
theorem RV.mono0 (e : Ext0 al H al' H') : ∀ {v : MV} {x : V}, RV Z al H v x → RV Z al' H' v x
  | _, _, .non => .non
  | _, _, .bl b => .bl b
  | _, _, .int i => .int i
  | _, _, .str i => .str i
  | _, _, .ref h => .ref (e.le _ _ h)
  | _, _, .tup h r => .tup (e.td (Z := Z) h) (RVs.mono0 e r)
  | _, _, .frz h r => .frz (e.fzL (Z := Z) h) (RVs.mono0 e r)
theorem RVs.mono0 (e : Ext0 al H al' H') : ∀ {v : MV} {x : List V}, RVs Z al H v x → RVs Z al' H' v x
  | _, _, .nil => .nil
  | _, _, .cons h r => .cons (RV.mono0 e h) (RVs.mono0 e r)
end
theorem RL.mono0 (e : Ext0 al H al' H') {l : List MV} {xs : List V} (h : RL Z al H l xs) : RL Z al' H' l xs := Paired.imp (fun _ _ r => r.mono0 e) h
theorem EntR.mono0 (e : Ext0 al H al' H') {p : MV × MV} {q : DE} (h : EntR Z al H p q) : EntR Z al' H' p q :=
  let ⟨h1, h2, h3, h4, x, h5, h6⟩ := h
  ⟨h1, h2, h3, h4.mono0 e, x, h5, h6.mono0 e⟩
/-- an object that stands where it stood -/
theorem OR.stay0 (e : Ext0 al H al' H') {o : MO} {a : Addr} (h : OR Z al H o a) (s : H' a = H a) : OR Z al' H' o a := by
  cases h with
  | lst h r => exact .lst (s.trans h) (RL.mono0 e r)
  | dct h r => exact .dct (s.trans h) (Paired.imp (fun _ _ q => EntR.mono0 e q) r)
  | dctL h r => exact .dctL (s.trans h) (Paired.imp (fun _ _ q => EntR.mono0 e q) r)
  | ins h c r => exact .ins (s.trans h) c (Paired.imp (fun _ _ q => ⟨q.1, q.2.mono0 e⟩) r)
theorem Ext.sqT (e : Ext al H al' H') {a : Addr} {xs : List V} (h : SqT Z.K H a xs) : SqT Z.K H' a xs := e.e0.sqT (Z := Z) h
theorem Ext.td (e : Ext al H al' H') {a : Addr} {xs : List V} (h : TD Z.K H a xs) : TD Z.K H' a xs := e.e0.td (Z := Z) h
theorem Ext.fzL (e : Ext al H al' H') {a : Addr} {xs : List V} (h : FzL Z.K H a xs) : FzL Z.K H' a xs := e.e0.fzL (Z := Z) h
theorem RV.mono (e : Ext al H al' H') {v : MV} {x : V} (h : RV Z al H v x) : RV Z al' H' v x := h.mono0 e.e0
theorem RVs.mono (e : Ext al H al' H') {v : MV} {x : List V} (h : RVs Z al H v x) : RVs Z al' H' v x := h.mono0 e.e0
theorem RL.mono (e : Ext al H al' H') {l : List MV} {xs : List V} (h : RL Z al H l xs) : RL Z al' H' l xs := RL.mono0 e.e0 h
theorem EntR.mono (e : Ext al H al' H') {p : MV × MV} {q : DE} (h : EntR Z al H p q) : EntR Z al' H' p q := EntR.mono0 e.e0 h
theorem OR.stay (e : Ext al H al' H') {o : MO} {a : Addr} (h : OR Z al H o a) (s : H' a = H a) : OR Z al' H' o a := OR.stay0 e.e0 h s
theorem OR.some {o : MO} {a : Addr} (h : OR Z al H o a) : ∃ u, H a = some u := by
  cases h with
  | lst h r => exact ⟨_, h⟩
  | dct h r => exact ⟨_, h⟩
  | dctL h r => exact ⟨_, h⟩
  | ins h c r => exact ⟨_, h⟩
theorem Rel.tracked {m : MH} (R : Rel Z al m H) {n : Nat} {a : Addr} (h : al n = some a) : ∃ u, H a = some u := by
  obtain ⟨a', e, o⟩ := R.has n (m[n]'(R.dom n a h)) (List.getElem?_eq_getElem (R.dom n a h))
  rw [h] at e; cases e
  exact o.some
theorem Rel.fresh {m : MH} (R : Rel Z al m H) {p : Addr} (h : H p = none) : ∀ n, al n ≠ some p := fun n e => by
  obtain ⟨u, hu⟩ := R.tracked e
  rw [h] at hu; cases hu
/-- a new thing that is not in the small heap (a tuple) -/
theorem Ext.new {m : MH} (R : Rel Z al m H) {p : Addr} {o : HO} (h : H p = none) : Ext al H al (upd H p o) :=
  ⟨fun _ _ e => e, fun a xs e => by rw [upd_ne (ne_of_none e h)]; exact e, fun a _ u e => by rw [upd_ne (ne_of_none e h)]; exact e, fun a u e n => ⟨by rw [upd_ne (ne_of_none e h)]; exact e, n⟩⟩
theorem Rel.new {m : MH} (R : Rel Z al m H) {p : Addr} {o : HO} (h : H p = none) : Rel Z al m (upd H p o) := by
  refine ⟨fun n ob e => ?_, R.dom, R.inj⟩
  obtain ⟨a, h1, h2⟩ := R.has n ob e
  obtain ⟨u, hu⟩ := h2.some
  exact ⟨a, h1, h2.stay (Ext.new R h) (upd_ne (ne_of_none hu h))⟩
/-- a new object of the small heap -/
def alAdd (al : Al) (n : Nat) (p : Addr) : Al := fun k => if k = n then some p else al k
theorem Ext.add {m : MH} (R : Rel Z al m H) {p : Addr} {o : HO} (h : H p = none) : Ext al H (alAdd al m.length p) (upd H p o) := by
  refine ⟨fun n a e => ?_, (Ext.new R h).tup, (Ext.new R h).frz, fun a u e n => ⟨((Ext.new R h).frm a u e n).1, fun k hk => ?_⟩⟩
  · unfold alAdd
    rw [if_neg (by have := R.dom n a e; omega)]
    exact e
  · unfold alAdd at hk
    split at hk
    · cases hk
      rw [h] at e; cases e
    · exact n k hk
theorem Rel.add {m : MH} (R : Rel Z al m H) {p : Addr} {u : HO} {o : MO} (h : H p = none) (ho : OR Z (alAdd al m.length p) (upd H p u) o p) : Rel Z (alAdd al m.length p) (m ++ [o]) (upd H p u) := by
  refine ⟨fun n ob e => ?_, fun n a e => ?_, fun n n' a e e' => ?_⟩
  · by_cases hn : n < m.length
    · rw [List.getElem?_append_left hn] at e
      obtain ⟨a, h1, h2⟩ := R.has n ob e
      obtain ⟨v, hv⟩ := h2.some
      exact ⟨a, (Ext.add R h (o := u)).le n a h1, h2.stay (Ext.add R h) (upd_ne (ne_of_none hv h))⟩
    · rw [List.getElem?_append_right (by omega)] at e
      have e1 : n - m.length = 0 := by
        cases q : n - m.length with
        | zero => rfl
        | succ j => rw [q] at e; simp at e
      rw [e1] at e
      simp at e
      subst e
      have e2 : n = m.length := by omega
      subst e2
      exact ⟨p, by unfold alAdd; rw [if_pos rfl], ho⟩
  · unfold alAdd at e
    rw [List.length_append, List.length_singleton]
    split at e
    · omega
    · have := R.dom n a e; omega
  · unfold alAdd at e e'
    split at e
    · split at e'
      · omega
      · cases e
        exact absurd e' (R.fresh h n')
    · split at e'
      · cases e'
        exact absurd e (R.fresh h n)
      · exact R.inj n n' a e e'
/-- an object of the small heap is written; what stood there was no tuple, nothing locked -/
theorem Ext.wr {m : MH} (R : Rel Z al m H) {n : Nat} {a : Addr} {o o' : HO} (h : al n = some a) (ho : H a = some o) (mu : Mut (some o)) : Ext al H al (upd H a o') := by
  refine ⟨fun _ _ e => e, fun b xs e => ?_, fun b q u e => ?_, fun b u e k => ⟨?_, k⟩⟩
  · rw [upd_ne fun z => by rw [z, ho] at e; cases e; exact mu]; exact e
  · rw [upd_ne fun z => by rw [z, ho] at e; cases e; exact mu]; exact e
  · rw [upd_ne fun z => k n (by rw [z]; exact h)]; exact e
theorem Rel.wr {m : MH} (R : Rel Z al m H) {n : Nat} {a : Addr} {o o' : HO} {ob : MO} (h : al n = some a) (ho : H a = some o) (mu : Mut (some o)) (hn : OR Z al (upd H a o') ob a) : Rel Z al (m.set n ob) (upd H a o') := by
  refine ⟨fun k v e => ?_, fun k b e => by rw [List.length_set]; exact R.dom k b e, R.inj⟩
  by_cases hk : n = k
  · subst hk
    rw [List.getElem?_set_self (R.dom n a h)] at e
    cases e
    exact ⟨a, h, hn⟩
  · rw [List.getElem?_set_ne hk] at e
    obtain ⟨b, h1, h2⟩ := R.has k v e
    exact ⟨b, h1, h2.stay (Ext.wr R h ho mu) (upd_ne fun z => hk (R.inj n k b (by rw [z]; exact h) h1))⟩
theorem Rel.lst {m : MH} (R : Rel Z al m H) {n : Nat} {a : Addr} {ys : List MV} (h : al n = some a) (e : lstAt n m = some ys) : ∃ xs, H a = some (.lst xs) ∧ RL Z al H ys xs := by
  unfold lstAt at e
  split at e
  · rename_i xs q
    cases e
    obtain ⟨a', h1, h2⟩ := R.has n _ q
    rw [h] at h1; cases h1
    cases h2 with
    | lst h3 h4 => exact ⟨_, h3, h4⟩
  · cases e
theorem lstAt_eq {n : Nat} {m : MH} {ys : List MV} (e : lstAt n m = some ys) : m[n]? = some (.lst ys) := by
  unfold lstAt at e
  split at e
  · rename_i xs q
    cases e
    exact q
  · cases e
end

/-! ### readings -/
def RSl (Z : Zx) (al : Al) (H : Hp) (r : Sl) (σ : L2.St) : Prop := r.length = σ.length ∧ ∀ (i : Nat) v, r[i]? = some (some v) → ∃ x, σ[i]? = some (some x) ∧ RV Z al H v x
theorem RSl.mono {Z : Zx} {al al' : Al} {H H' : Hp} {r : Sl} {σ : L2.St} (h : RSl Z al H r σ) (e : Ext al H al' H') : RSl Z al' H' r σ :=
  ⟨h.1, fun i v q => let ⟨x, h1, h2⟩ := h.2 i v q; ⟨x, h1, h2.mono e⟩⟩
theorem RSl.set {Z : Zx} {al : Al} {H : Hp} {r : Sl} {σ : L2.St} {v : MV} {x : V} (h : RSl Z al H r σ) (hv : RV Z al H v x) (i : Nat) : RSl Z al H (r.set i (some v)) (σ.set i (some x)) := by
  refine ⟨by rw [List.length_set, List.length_set]; exact h.1, fun j w q => ?_⟩
  by_cases hj : i = j
  · subst hj
    by_cases hl : i < r.length
    · rw [List.getElem?_set_self hl] at q
      cases q
      exact ⟨x, List.getElem?_set_self (by rw [← h.1]; exact hl), hv⟩
    · rw [List.getElem?_eq_none (by rw [List.length_set]; omega)] at q; cases q
  · rw [List.getElem?_set_ne hj] at q ⊢
    exact h.2 j w q
/-- an end that is reached with v and m' -/
def KV1 (Z : Zx) (al : Al) (H : Hp) (v : MV) (m' : MH) (Q : VK) : Prop := ∀ al' H' x, Ext al H al' H' → Rel Z al' m' H' → RV Z al' H' v x → Q x H'
def RE (Z : Zx) (c : CE) : TE := fun σ H Q => ∃ al m r v m', Rel Z al m H ∧ RSl Z al H r σ ∧ c r m = .ok v m' ∧ KV1 Z al H v m' Q
def RT (Z : Zx) (c : CE) : TT := fun σ H Q => ∃ al m r b m', Rel Z al m H ∧ RSl Z al H r σ ∧ c r m = .ok (.bl b) m' ∧ ∀ al' H', Ext al H al' H' → Rel Z al' m' H' → Q b H'
def RA (Z : Zx) (c : CA) : TA := fun σ H Q => ∃ al m r vs m', Rel Z al m H ∧ RSl Z al H r σ ∧ c r m = .ok vs m' ∧ ∀ al' H' xs, Ext al H al' H' → Rel Z al' m' H' → RL Z al' H' vs xs → Q xs H'
def RB (Z : Zx) (f : B2) : R2 := fun x y H Q => ∃ al m a b v m', Rel Z al m H ∧ RV Z al H a x ∧ RV Z al H b y ∧ f a b m = .ok v m' ∧ KV1 Z al H v m' Q
def RU (Z : Zx) (f : MV → MH → Res MV) : V → Hp → VK → Prop := fun x H Q => ∃ al m a v m', Rel Z al m H ∧ RV Z al H a x ∧ f a m = .ok v m' ∧ KV1 Z al H v m' Q
def RC (Z : Zx) (f : BL) : List V → Hp → VK → Prop := fun xs H Q => ∃ al m as v m', Rel Z al m H ∧ RL Z al H as xs ∧ f as m = .ok v m' ∧ KV1 Z al H v m' Q
/-- behind a statement -/
def KS (Z : Zx) (al : Al) (H : Hp) (σ : L2.St) (f : Fl) (m' : MH) (D : Ends) : Prop := ∀ al' H', Ext al H al' H' → Rel Z al' m' H' → match f with
  | .nx r => ∀ σ' : L2.St, σ'.length = σ.length → RSl Z al' H' r σ' → D.nx σ' H'
  | .bk r => ∀ σ' : L2.St, σ'.length = σ.length → RSl Z al' H' r σ' → D.bk σ' H'
  | .ct r => ∀ σ' : L2.St, σ'.length = σ.length → RSl Z al' H' r σ' → D.ct σ' H'
  | .rt v => ∀ x, RV Z al' H' v x → D.rt x H'
def RS (Z : Zx) (c : CS) : TS := fun D σ H => ∃ al m r f m', Rel Z al m H ∧ RSl Z al H r σ ∧ c r m = .ok f m' ∧ KS Z al H σ f m' D
/-- a target; vs: the slots that it may change -/
def RG (Z : Zx) (vs : List Nat) (g : CG) : TG := fun x σ H Q => ∃ al m r v r' m', Rel Z al m H ∧ RSl Z al H r σ ∧ RV Z al H v x ∧ g v r m = .ok r' m' ∧
  ∀ al' H' σ', Ext al H al' H' → Rel Z al' m' H' → RSl Z al' H' r' σ' → σ'.length = σ.length → (∀ j, j ∉ vs → σ'[j]? = σ[j]?) → Q σ' H'
theorem PE.imp {X : Cx} {e : Expr} {t t' : TE} (h : PE X e t) (f : ∀ σ H Q, t' σ H Q → t σ H Q) : PE X e t' := ⟨fun pins s σ H Q I q => h.run pins s σ H Q I (f σ H Q q)⟩
theorem PT.imp {X : Cx} {e : Expr} {t t' : TT} (h : PT X e t) (f : ∀ σ H Q, t' σ H Q → t σ H Q) : PT X e t' := ⟨fun pins s σ H Q I q => h.run pins s σ H Q I (f σ H Q q)⟩
theorem PW.imp {X : Cx} {e : Expr} {t t' : TT} (h : PW X e t) (f : ∀ σ H Q, t' σ H Q → t σ H Q) : PW X e t' := ⟨fun wh pins s σ H Q I q => h.run wh pins s σ H Q I (f σ H Q q)⟩
theorem PA.imp {X : Cx} {e : List Expr} {t t' : TA} (h : PA X e t) (f : ∀ σ H Q, t' σ H Q → t σ H Q) : PA X e t' := ⟨fun pos pins s σ H Q I q => h.run pos pins s σ H Q I (f σ H Q q)⟩
theorem PS.imp {X : Cx} {e : Stmt} {t t' : TS} (h : PS X e t) (f : ∀ D σ H, t' D σ H → t D σ H) : PS X e t' := ⟨fun pins s σ H D I q => h.run pins s σ H D I (f D σ H q)⟩
theorem PSs.imp {X : Cx} {e : List Stmt} {t t' : TS} (h : PSs X e t) (f : ∀ D σ H, t' D σ H → t D σ H) : PSs X e t' := ⟨fun pins s σ H D I q => h.run pins s σ H D I (f D σ H q)⟩
theorem PG.imp {X : Cx} {e : Expr} {t t' : TG} (h : PG X e t) (f : ∀ v σ H Q, t' v σ H Q → t v σ H Q) : PG X e t' := ⟨fun pins s σ H v u Q I r q => h.run pins s σ H v u Q I r (f v σ H Q q)⟩
end Co

namespace Co
open PySem PySem.Spec PyProof.Rows L2

theorem if1 {p q : Prop} (h : p) : if true = true then p else q := by simpa using h
theorem if0 {p q : Prop} (h : q) : if false = true then p else q := by simpa using h
section
variable {X : Cx}

/-! ### expressions -/
theorem ce_var {i : Nat} {x : Str} {pos : Pos} (hN : X.N[i]? = some x) (hv : Vis X.env.scope x) (hd : (x == ("__debug__" : Str)) = false := by decide) (hcd : (x == ("__classdict__" : Str)) = false := by decide) : PE X (.Name x pos) (RE (zx X) (cVar i)) := by
  refine PE.imp (pe_var hN hv hd hcd) fun σ H Q h => ?_
  obtain ⟨al, m, r, v, m', R, S, e, k⟩ := h
  unfold cVar at e
  split at e
  · rename_i hw
    cases e
    obtain ⟨x, h1, h2⟩ := S.2 i v hw
    exact ⟨x, h1, k al H x Ext.refl R h2⟩
  · cases e
/-- a value that stands for the same in every heap -/
theorem ce_val {e : Expr} {v : MV} {x : V} (h : PE X e (tC x)) (hv : ∀ al H, RV (zx X) al H v x) : PE X e (RE (zx X) (cK v)) := by
  refine PE.imp h fun σ H Q h => ?_
  obtain ⟨al, m, r, w, m', R, S, e, k⟩ := h
  cases e
  exact k al H x Ext.refl R (hv al H)
theorem ce_int {i j pos} : PE X (.Constant (.int i) j pos) (RE (zx X) (cK (.int i))) := ce_val pe_int fun _ _ => .int i
theorem ce_bl {b j pos} : PE X (.Constant (.bool b) j pos) (RE (zx X) (cK (.bl b))) := ce_val pe_bl fun _ _ => .bl b
theorem ce_non {j pos} : PE X (.Constant .none j pos) (RE (zx X) (cK .non)) := ce_val pe_non fun _ _ => .non
theorem ce_str {x j pos} : PE X (.Constant (.str x) j pos) (RE (zx X) (cK (.str x))) := ce_val pe_str fun _ _ => .str x
/-- a module's constant -/
theorem ce_glob {x : Str} {v : MV} {y : V} {u : Value} {pos : Pos} (hg : Gl X x) (hm : X.mg x = some u) (r : RelV y u) (hv : ∀ al H, RV (zx X) al H v y) (hd : (x == ("__debug__" : Str)) = false := by decide) : PE X (.Name x pos) (RE (zx X) (cK v)) :=
  ce_val (pe_glob hg hm r hd) hv

variable {a b c : Expr} {ca cb cc : CE} {pos : Pos}
theorem ext_op {σ : L2.St} {H : Hp} {Q : VK} {f : B2} (h : RE (zx X) (cBin f ca cb) σ H Q) : tOp (RB (zx X) f) (RE (zx X) ca) (RE (zx X) cb) σ H Q := by
  obtain ⟨al, m, r, v, m', R, S, e, k⟩ := h
  obtain ⟨x, m1, e1, e⟩ := Res.bind_eq_ok.mp e
  obtain ⟨y, m2, e2, e⟩ := Res.bind_eq_ok.mp e
  exact ⟨al, m, r, x, m1, R, S, e1, fun al1 H1 vx E1 R1 rx => ⟨al1, m1, r, y, m2, R1, S.mono E1, e2, fun al2 H2 vy E2 R2 ry => ⟨al2, m2, x, y, v, m', R2, rx.mono E2, ry, e, fun al3 H3 z E3 R3 rz => k al3 H3 z (E1.trans (E2.trans E3)) R3 rz⟩⟩⟩
theorem ce_bin {op : Operator} {f : B2} (ho : OpR X (binaryOp op) (RB (zx X) f)) (ha : PE X a (RE (zx X) ca)) (hb : PE X b (RE (zx X) cb)) : PE X (.BinOp a op b pos) (RE (zx X) (cBin f ca cb)) :=
  PE.imp (pe_op ho ha hb) fun _ _ _ h => ext_op h
theorem ce_cmp {op : CmpOp} {f : B2} (ho : OpR X (compareOp op) (RB (zx X) f)) (ha : PE X a (RE (zx X) ca)) (hb : PE X b (RE (zx X) cb)) (hm : behindInMarks op b = false) : PE X (.Compare a [op] [b] pos) (RE (zx X) (cBin f ca cb)) :=
  PE.imp (pe_cmpR ho ha hb hm) fun _ _ _ h => ext_op h
/-- a test's reading from a value's -/
theorem rt_re {c : CE} {σ : L2.St} {H : Hp} {Q : Bool → Hp → Prop} (h : RT (zx X) c σ H Q) : RE (zx X) c σ H fun x H' => ∃ k, x = .bl k ∧ Q k H' := by
  obtain ⟨al, m, r, b, m', R, S, e, k⟩ := h
  refine ⟨al, m, r, .bl b, m', R, S, e, fun al' H' x E' R' rv => ?_⟩
  cases rv with
  | bl => exact ⟨b, rfl, k al' H' E' R'⟩
  | tup _ q => nomatch q
theorem ct_cmp {op : CmpOp} {f : B2} (ho : OpR X (compareOp op) (RB (zx X) f)) (ha : PE X a (RE (zx X) ca)) (hb : PE X b (RE (zx X) cb)) (hm : behindInMarks op b = false) : PT X (.Compare a [op] [b] pos) (RT (zx X) (cBin f ca cb)) :=
  PT.imp (pt_cmpR ho ha hb hm) fun _ _ _ h => ext_op (rt_re h)
theorem ct_val {e : Expr} {c : CE} (h : PE X e (RE (zx X) c)) (he : ∀ whole, isTrue e X.env whole = (do let v ← whole; standAt e.pos; holding [v] (truthy v)) := by intro _; rfl) : PT X e (RT (zx X) c) :=
  PT.imp (pt_val h he) fun _ _ _ h => rt_re h
theorem ext_chain {σ : L2.St} {H : Hp} {Q : VK} {f g : B2} (h : RE (zx X) (cChain f g ca cb cc) σ H Q) : tChain (RB (zx X) f) (RB (zx X) g) (RE (zx X) ca) (RE (zx X) cb) (RE (zx X) cc) σ H Q := by
  obtain ⟨al, m, r, v, m', R, S, e, k⟩ := h
  obtain ⟨x, m1, e1, e⟩ := Res.bind_eq_ok.mp e
  obtain ⟨y, m2, e2, e⟩ := Res.bind_eq_ok.mp e
  obtain ⟨z, m3, e3, e⟩ := Res.bind_eq_ok.mp e
  refine ⟨al, m, r, x, m1, R, S, e1, fun al1 H1 vx E1 R1 rx => ⟨al1, m1, r, y, m2, R1, S.mono E1, e2, fun al2 H2 vy E2 R2 ry => ⟨al2, m2, x, y, z, m3, R2, rx.mono E2, ry, e3, fun al3 H3 vz E3 R3 rz => ?_⟩⟩⟩
  split at e
  · cases rz with
    | bl =>
      refine ⟨true, rfl, ?_⟩
      refine if1 ?_
      obtain ⟨w, m4, e4, e⟩ := Res.bind_eq_ok.mp e
      exact ⟨al3, m3, r, w, m4, R3, S.mono (E1.trans (E2.trans E3)), e4, fun al4 H4 vw E4 R4 rw' => ⟨al4, m4, y, w, v, m', R4, ry.mono (E3.trans E4), rw', e, fun al5 H5 u E5 R5 ru => k al5 H5 u (E1.trans (E2.trans (E3.trans (E4.trans E5)))) R5 ru⟩⟩
    | tup _ q => nomatch q
  · cases rz with
    | bl =>
      refine ⟨false, rfl, ?_⟩
      refine if0 ?_
      cases e
      exact k al3 H3 _ (E1.trans (E2.trans E3)) R3 (.bl false)
    | tup _ q => nomatch q
  · cases e
theorem ce_chain {op op' : CmpOp} {f g : B2} (ho : OpR X (compareOp op) (RB (zx X) f)) (ho' : OpR X (compareOp op') (RB (zx X) g)) (ha : PE X a (RE (zx X) ca)) (hb : PE X b (RE (zx X) cb)) (hc : PE X c (RE (zx X) cc))
    (hm : lastMarks [op, op'] [b, c] = false := by with_unfolding_all rfl) : PE X (.Compare a [op, op'] [b, c] pos) (RE (zx X) (cChain f g ca cb cc)) :=
  PE.imp (pe_chain ho ho' ha hb hc hm) fun _ _ _ h => ext_chain h
theorem ct_chain {op op' : CmpOp} {f g : B2} (ho : OpR X (compareOp op) (RB (zx X) f)) (ho' : OpR X (compareOp op') (RB (zx X) g)) (ha : PE X a (RE (zx X) ca)) (hb : PE X b (RE (zx X) cb)) (hc : PE X c (RE (zx X) cc))
    (hm : lastMarks [op, op'] [b, c] = false := by with_unfolding_all rfl) : PT X (.Compare a [op, op'] [b, c] pos) (RT (zx X) (cChain f g ca cb cc)) :=
  PT.imp (pt_chain ho ho' ha hb hc hm) fun _ _ _ h => ext_chain (rt_re h)
theorem ce_un {op : UnaryOp} {f : MV → MH → Res MV} (ho : UnR X (unaryOp op) (RU (zx X) f)) (ha : PE X a (RE (zx X) ca)) : PE X (.UnaryOp op a pos) (RE (zx X) (cUn f ca)) := by
  refine PE.imp (pe_un ho ha) fun σ H Q h => ?_
  obtain ⟨al, m, r, v, m', R, S, e, k⟩ := h
  obtain ⟨x, m1, e1, e⟩ := Res.bind_eq_ok.mp e
  exact ⟨al, m, r, x, m1, R, S, e1, fun al1 H1 vx E1 R1 rx => ⟨al1, m1, x, v, m', R1, rx, e, fun al2 H2 z E2 R2 rz => k al2 H2 z (E1.trans E2) R2 rz⟩⟩
theorem rv_bl {Z : Zx} {al : Al} {H : Hp} {b : Bool} {x : V} (h : RV Z al H (.bl b) x) : x = .bl b := by
  cases h with
  | bl => rfl
  | tup _ q => nomatch q
theorem rv_int {Z : Zx} {al : Al} {H : Hp} {b : Int} {x : V} (h : RV Z al H (.int b) x) : x = .int b := by
  cases h with
  | int => rfl
  | tup _ q => nomatch q
theorem rv_str {Z : Zx} {al : Al} {H : Hp} {b : Str} {x : V} (h : RV Z al H (.str b) x) : x = .str b := by
  cases h with
  | str => rfl
  | tup _ q => nomatch q
theorem rv_non {Z : Zx} {al : Al} {H : Hp} {x : V} (h : RV Z al H .non x) : x = .non := by
  cases h with
  | non => rfl
  | tup _ q => nomatch q
theorem rv_ref {Z : Zx} {al : Al} {H : Hp} {n : Nat} {x : V} (h : RV Z al H (.ref n) x) : ∃ a, x = .ref a ∧ al n = some a := by
  cases h with
  | ref e => exact ⟨_, rfl, e⟩
  | tup _ q => nomatch q
theorem ce_not (ha : PE X a (RE (zx X) ca)) : PE X (.UnaryOp .Not a pos) (RE (zx X) (cNot ca)) := by
  refine PE.imp (pe_not ha) fun σ H Q h => ?_
  obtain ⟨al, m, r, v, m', R, S, e, k⟩ := h
  obtain ⟨x, m1, e1, e⟩ := Res.bind_eq_ok.mp e
  refine ⟨al, m, r, x, m1, R, S, e1, fun al1 H1 vx E1 R1 rx => ?_⟩
  split at e
  · cases e
    exact ⟨_, rv_bl rx, k al1 H1 _ E1 R1 (.bl _)⟩
  · cases e
theorem ct_not (ha : PT X a (RT (zx X) ca)) : PT X (.UnaryOp .Not a pos) (RT (zx X) (cNot ca)) := by
  refine PT.imp (pt_not ha) fun σ H Q h => ?_
  obtain ⟨al, m, r, v, m', R, S, e, k⟩ := h
  obtain ⟨x, m1, e1, e⟩ := Res.bind_eq_ok.mp e
  split at e
  · rename_i c
    cases e
    exact ⟨al, m, r, c, _, R, S, e1, fun al1 H1 E1 R1 => k al1 H1 E1 R1⟩
  · cases e
variable {rest : List Expr}
theorem ce_one {op} (h : PE X a (RE (zx X) ca)) : PE X (.BoolOp op [a] pos) (RE (zx X) ca) := pe_one h
theorem ce_and (ha : PE X a (RE (zx X) ca)) (hb : PE X (.BoolOp .And (b :: rest) pos) (RE (zx X) cb)) : PE X (.BoolOp .And (a :: b :: rest) pos) (RE (zx X) (cAnd ca cb)) := by
  refine PE.imp (pe_and ha hb) fun σ H Q h => ?_
  obtain ⟨al, m, r, v, m', R, S, e, k⟩ := h
  obtain ⟨x, m1, e1, e⟩ := Res.bind_eq_ok.mp e
  refine ⟨al, m, r, x, m1, R, S, e1, fun al1 H1 vx E1 R1 rx => ?_⟩
  split at e
  · refine ⟨true, rv_bl rx, ?_⟩
    refine if1 ?_
    exact ⟨al1, m1, r, v, m', R1, S.mono E1, e, fun al2 H2 y E2 R2 ry => k al2 H2 y (E1.trans E2) R2 ry⟩
  · refine ⟨false, rv_bl rx, ?_⟩
    refine if0 ?_
    cases e
    exact k al1 H1 _ E1 R1 (.bl _)
  · cases e
theorem ce_or (ha : PE X a (RE (zx X) ca)) (hb : PE X (.BoolOp .Or (b :: rest) pos) (RE (zx X) cb)) : PE X (.BoolOp .Or (a :: b :: rest) pos) (RE (zx X) (cOr ca cb)) := by
  refine PE.imp (pe_or ha hb) fun σ H Q h => ?_
  obtain ⟨al, m, r, v, m', R, S, e, k⟩ := h
  obtain ⟨x, m1, e1, e⟩ := Res.bind_eq_ok.mp e
  refine ⟨al, m, r, x, m1, R, S, e1, fun al1 H1 vx E1 R1 rx => ?_⟩
  split at e
  · refine ⟨false, rv_bl rx, ?_⟩
    refine if0 ?_
    exact ⟨al1, m1, r, v, m', R1, S.mono E1, e, fun al2 H2 y E2 R2 ry => k al2 H2 y (E1.trans E2) R2 ry⟩
  · refine ⟨true, rv_bl rx, ?_⟩
    refine if1 ?_
    cases e
    exact k al1 H1 _ E1 R1 (.bl _)
  · cases e
theorem cw_and1 (ha : PT X a (RT (zx X) ca)) : PW X (.BoolOp .And [a] pos) (RT (zx X) ca) := pw_and1 ha
theorem cw_or1 (ha : PT X a (RT (zx X) ca)) : PW X (.BoolOp .Or [a] pos) (RT (zx X) ca) := pw_or1 ha
theorem cw_and (ha : PT X a (RT (zx X) ca)) (hb : PW X (.BoolOp .And (b :: rest) pos) (RT (zx X) cb)) : PW X (.BoolOp .And (a :: b :: rest) pos) (RT (zx X) (cAnd ca cb)) := by
  refine PW.imp (pw_and ha hb) fun σ H Q h => ?_
  obtain ⟨al, m, r, v, m', R, S, e, k⟩ := h
  obtain ⟨x, m1, e1, e⟩ := Res.bind_eq_ok.mp e
  split at e
  · refine ⟨al, m, r, true, m1, R, S, e1, fun al1 H1 E1 R1 => ?_⟩
    refine if1 ?_
    exact ⟨al1, m1, r, v, m', R1, S.mono E1, e, fun al2 H2 E2 R2 => k al2 H2 (E1.trans E2) R2⟩
  · refine ⟨al, m, r, false, m1, R, S, e1, fun al1 H1 E1 R1 => ?_⟩
    refine if0 ?_
    cases e
    exact k al1 H1 E1 R1
  · cases e
theorem cw_or (ha : PT X a (RT (zx X) ca)) (hb : PW X (.BoolOp .Or (b :: rest) pos) (RT (zx X) cb)) : PW X (.BoolOp .Or (a :: b :: rest) pos) (RT (zx X) (cOr ca cb)) := by
  refine PW.imp (pw_or ha hb) fun σ H Q h => ?_
  obtain ⟨al, m, r, v, m', R, S, e, k⟩ := h
  obtain ⟨x, m1, e1, e⟩ := Res.bind_eq_ok.mp e
  split at e
  · refine ⟨al, m, r, false, m1, R, S, e1, fun al1 H1 E1 R1 => ?_⟩
    refine if0 ?_
    exact ⟨al1, m1, r, v, m', R1, S.mono E1, e, fun al2 H2 E2 R2 => k al2 H2 (E1.trans E2) R2⟩
  · refine ⟨al, m, r, true, m1, R, S, e1, fun al1 H1 E1 R1 => ?_⟩
    refine if1 ?_
    cases e
    exact k al1 H1 E1 R1
  · cases e
theorem ce_ite (hc : PT X c (RT (zx X) cc)) (ha : PE X a (RE (zx X) ca)) (hb : PE X b (RE (zx X) cb)) : PE X (.IfExp c a b pos) (RE (zx X) (cIte cc ca cb)) := by
  refine PE.imp (pe_ifExp hc ha hb) fun σ H Q h => ?_
  obtain ⟨al, m, r, v, m', R, S, e, k⟩ := h
  obtain ⟨x, m1, e1, e⟩ := Res.bind_eq_ok.mp e
  split at e
  · refine ⟨al, m, r, true, m1, R, S, e1, fun al1 H1 E1 R1 => ?_⟩
    refine if1 ?_
    exact ⟨al1, m1, r, v, m', R1, S.mono E1, e, fun al2 H2 y E2 R2 ry => k al2 H2 y (E1.trans E2) R2 ry⟩
  · refine ⟨al, m, r, false, m1, R, S, e1, fun al1 H1 E1 R1 => ?_⟩
    refine if0 ?_
    exact ⟨al1, m1, r, v, m', R1, S.mono E1, e, fun al2 H2 y E2 R2 ry => k al2 H2 y (E1.trans E2) R2 ry⟩
  · cases e
/-! ### arguments, displays -/
variable {es : List Expr} {cs : CA}
theorem ca_nil : PA X [] (RA (zx X) aNil) := by
  refine PA.imp pa_nil fun σ H Q h => ?_
  obtain ⟨al, m, r, v, m', R, S, e, k⟩ := h
  cases e
  exact k al H [] Ext.refl R .nil
theorem ca_cons (ha : PE X a (RE (zx X) ca)) (hr : PA X es (RA (zx X) cs)) (hs : starEach (a :: es) X.env = (false, eval a X.env) :: starEach es X.env := by rfl) : PA X (a :: es) (RA (zx X) (aCons ca cs)) := by
  refine PA.imp (pa_cons ha hr hs) fun σ H Q h => ?_
  obtain ⟨al, m, r, v, m', R, S, e, k⟩ := h
  obtain ⟨x, m1, e1, e⟩ := Res.bind_eq_ok.mp e
  obtain ⟨xs, m2, e2, e⟩ := Res.bind_eq_ok.mp e
  cases e
  exact ⟨al, m, r, x, m1, R, S, e1, fun al1 H1 y E1 R1 ry => ⟨al1, m1, r, xs, _, R1, S.mono E1, e2, fun al2 H2 ys E2 R2 rs => k al2 H2 _ (E1.trans E2) R2 (.cons (ry.mono E2) rs)⟩⟩
theorem szOk_line {n : Nat} (h : szOk n = true) : n ≤ sizeLine := by
  have h1 : n ≤ 1000000 := of_decide_eq_true h
  rw [sizeLine_eq]
  omega
theorem szOk_lt {n : Nat} (h : szOk n = true) : n < sizeLine := by
  have h1 : n ≤ 1000000 := of_decide_eq_true h
  rw [sizeLine_eq]
  omega
/-- a new list -/
theorem newL_ok {Z : Zx} {al : Al} {m m' : MH} {H : Hp} {Q : VK} {ys : List MV} {xs : List V} {v : MV} (R : Rel Z al m H) (r : RL Z al H ys xs) (e : newL ys m = .ok v m') (k : KV1 Z al H v m' Q) :
    xs.length ≤ 1000000 ∧ ∀ p, H p = none → Q (.ref p) (upd H p (.lst xs)) := by
  unfold newL at e
  split at e
  · rename_i hz
    cases e
    refine ⟨by rw [← Paired.len r]; exact of_decide_eq_true hz, fun p hp => ?_⟩
    exact k _ _ _ (Ext.add R hp) (Rel.add R hp (.lst upd_same (RL.mono (Ext.add R hp) r))) (.ref (by unfold alAdd; rw [if_pos rfl]))
  · cases e
theorem million {n : Nat} (h : n ≤ 1000000) : n ≤ sizeLine := by rw [sizeLine_eq]; omega
theorem ce_lst (h : PA X es (RA (zx X) cs)) : PE X (.List es pos) (RE (zx X) (cLst cs)) := by
  refine PE.imp (pe_lst h) fun σ H Q h => ?_
  obtain ⟨al, m, r, v, m', R, S, e, k⟩ := h
  obtain ⟨xs, m1, e1, e⟩ := Res.bind_eq_ok.mp e
  refine ⟨al, m, r, xs, m1, R, S, e1, fun al1 H1 ys E1 R1 rs => ?_⟩
  obtain ⟨z, q⟩ := newL_ok R1 rs e (Q := Q) fun al2 H2 y E2 R2 ry => k al2 H2 y (E1.trans E2) R2 ry
  exact ⟨million z, q⟩
/-- a tuple that is laid, its object known -/
theorem lay_tup {pins : List (Addr × Obj)} {s : Shared} {σ : L2.St} {H : Hp} {Q : VK} {h' : Heap} {its : List Value} {xs : List V} (I : Inv X pins σ H { s with heap := h' }) (r : Vals xs its) (hz : xs.length ≤ sizeLine)
    (q : ∀ p o, H p = none → o.dict = none → Q (.ref p) (upd H p (.frz o (.tup xs)))) :
    EP X pins σ Q (.ref h'.objs.size) { s with heap := h'.push { cls := .type "tuple", data := .seq its.toArray } } := by
  refine ⟨.ref h'.objs.size, upd H h'.objs.size (.frz { cls := .type "tuple", data := .seq its.toArray } (.tup xs)), I.laid (s := { s with heap := h' }) (t' := s.toks) (fun b u e => Heap.get?_push_of_some _ e) (Nat.le_refl _) ⟨Heap.get?_push_size _ rfl, hz, its, r, IsTup.new _ _⟩, rfl, q _ _ (I.hok.fresh (Nat.le_refl _)) rfl⟩
/-- .. in the core's terms -/
theorem tup_q {Z : Zx} {al : Al} {m : MH} {H : Hp} {Q : VK} {l : List MV} {xs : List V} (R : Rel Z al m H) (r : RL Z al H l xs) (k : KV1 Z al H (MV.ofL l) m Q) (p : Addr) (o : Obj) (hp : H p = none) (ho : o.dict = none) : Q (.ref p) (upd H p (.frz o (.tup xs))) :=
  k _ _ _ (Ext.new R hp) (Rel.new R hp) (.tup (.inl ⟨o, upd_same, ho⟩) (RVs.ofL (RL.mono (Ext.new R hp) r)))
theorem ce_tup {x1} {n : Nat} (h : PA X es (RA (zx X) cs)) (hc : ∀ r m vs m', cs r m = .ok vs m' → vs.length = n) (hl : n ≤ 1000 := by decide) : PE X (.Tuple es x1 pos) (RE (zx X) (cTup cs)) := by
  refine ⟨fun pins s σ H Q I hq => ?_⟩
  obtain ⟨al, m, r, v, m', R, S, e, k⟩ := hq
  obtain ⟨xs, m1, e1, e⟩ := Res.bind_eq_ok.mp e
  cases e
  have hn := hc _ _ _ _ e1
  refine wpAny_Tuple_spliced (thn (h.run pos pins s σ H (fun ys H1 => ys.length ≤ sizeLine ∧ ∀ p o, H1 p = none → o.dict = none → Q (.ref p) (upd H1 p (.frz o (.tup ys)))) I ⟨al, m, r, xs, _, R, S, e1, fun al1 H1 ys E1 R1 rs => ⟨?_, ?_⟩⟩) fun us s1 ⟨ys, H1, I1, rv, z, q⟩ => ⟨by rw [← rv.length]; exact z, ?_⟩)
  · rw [← Paired.len rs, hn, sizeLine_eq]
    omega
  · exact tup_q R1 rs fun al2 H2 y E2 R2 ry => k al2 H2 y (E1.trans E2) R2 ry
  · exact lay_tup (s := s1) (h' := s1.heap) I1 rv z q
theorem len_nil : ∀ r m vs m', aNil r m = .ok vs m' → vs.length = 0 := fun r m vs m' e => by cases e; rfl
theorem len_cons {ca : CE} {cs : CA} {n : Nat} (h : ∀ r m vs m', cs r m = .ok vs m' → vs.length = n) : ∀ r m vs m', aCons ca cs r m = .ok vs m' → vs.length = n + 1 := fun r m vs m' e => by
  obtain ⟨x, m1, e1, e⟩ := Res.bind_eq_ok.mp e
  obtain ⟨xs, m2, e2, e⟩ := Res.bind_eq_ok.mp e
  cases e
  rw [List.length_cons, h _ _ _ _ e2]
end
end Co

namespace Co
open PySem PySem.Spec PyProof.Rows L2

/-! ### data read off -/
mutual
def toD : MV → PyData
  | .non => .none
  | .bl b => .bool b
  | .int i => .int i
  | .str x => .str x
  | .nil => .tuple []
  | .cons h t => .tuple (toD h :: toDs t)
  | .frz t => .list (toDs t)
  | .ref _ => .none
def toDs : MV → List PyData
  | .cons h t => toD h :: toDs t
  | _ => []
end
inductive Wf : Bool → MV → Prop
  | non : Wf true .non
  | bl (b : Bool) : Wf true (.bl b)
  | int (i : Int) : Wf true (.int i)
  | str (x : Str) : Wf true (.str x)
  | nil : Wf false .nil
  | cons {h t : MV} : Wf true h → Wf false t → Wf false (.cons h t)
  | tup {t : MV} : Wf false t → Wf true t
  | frz {t : MV} : Wf false t → Wf true (.frz t)
theorem Wf.chain {h t : MV} {b : Bool} (x : Wf b (.cons h t)) : Wf true h ∧ Wf false t := by
  cases x with
  | cons a b => exact ⟨a, b⟩
  | tup q => cases q with | cons a b => exact ⟨a, b⟩
theorem nwf_ref {n : Nat} : ¬ Wf true (.ref n) := fun h => by
  cases h with
  | tup q => cases q
/-- == of pure values is that of data -/
theorem eqv_d : ∀ (a b : MV), (Wf true a → Wf true b → eqv a b = PyData.eqv (toD a) (toD b)) ∧ (Wf false a → Wf false b → eqv a b = PyData.eqvAll (toDs a) (toDs b)) := by
  intro a
  induction a with
  | non => intro b; exact ⟨fun _ h => by cases b <;> first | exact absurd h nwf_ref | simp [eqv, toD, PyData.eqv], fun h => nomatch h⟩
  | bl x => intro b; exact ⟨fun _ _ => by cases b <;> simp [eqv, toD, PyData.eqv], fun h => nomatch h⟩
  | int x => intro b; exact ⟨fun _ _ => by cases b <;> simp [eqv, toD, PyData.eqv], fun h => nomatch h⟩
  | str x => intro b; exact ⟨fun _ _ => by cases b <;> simp [eqv, toD, PyData.eqv], fun h => nomatch h⟩
  | ref n => intro b; exact ⟨fun h => absurd h nwf_ref, fun h => nomatch h⟩
  | nil =>
    intro b
    refine ⟨fun _ h => ?_, fun _ h => ?_⟩
    · cases b <;> simp [eqv, toD, PyData.eqv, PyData.eqvAll]
    · cases h <;> simp [eqv, toDs, PyData.eqvAll]
  | cons x y ih1 ih2 =>
    intro b
    have ch : ∀ b, Wf false (.cons x y) → Wf false b → eqv (.cons x y) b = PyData.eqvAll (toDs (.cons x y)) (toDs b) := fun b h h' => by
      obtain ⟨h1, h2⟩ := h.chain
      cases b with
      | nil => simp [eqv, toDs, PyData.eqvAll]
      | cons x' y' =>
        obtain ⟨h3, h4⟩ := h'.chain
        simp only [eqv, toDs, PyData.eqvAll]
        rw [(ih1 x').1 h1 h3, (ih2 y').2 h2 h4]
      | _ => nomatch h'
    refine ⟨fun h h' => ?_, ch b⟩
    obtain ⟨h1, h2⟩ := h.chain
    cases b with
    | cons x' y' =>
      obtain ⟨h3, h4⟩ := h'.chain
      rw [ch _ (.cons h1 h2) (.cons h3 h4)]
      simp only [toD, toDs, PyData.eqv]
    | _ => simp [eqv, toD, PyData.eqv, PyData.eqvAll]
  | frz t ih =>
    intro b
    refine ⟨fun h h' => ?_, fun h => nomatch h⟩
    cases b with
    | frz t' =>
      have h1 : Wf false t := by cases h with | frz q => exact q | tup q => nomatch q
      have h2 : Wf false t' := by cases h' with | frz q => exact q | tup q => nomatch q
      simp only [eqv, toD, PyData.eqv]
      exact (ih t').2 h1 h2
    | _ => simp [eqv, toD, PyData.eqv]
/-- what deep gives -/
structure Dok (k : Nat) (v : MV) : Prop where
  lay : (toD v).canLay0 = true
  dep : (toD v).depth ≤ k
  wf : Wf true v
theorem Dok.shaped {k : Nat} {v : MV} (h : Dok k v) (hk : k ≤ 64) : SeqAt.shaped (toD v) = true := by
  have := h.dep
  simp only [SeqAt.shaped, Bool.and_eq_true, decide_eq_true_eq]
  exact ⟨h.lay, by omega⟩
/-- a chain of such -/
inductive Dch (k : Nat) : MV → Prop
  | nil : Dch k .nil
  | cons {h t : MV} : Dok k h → Dch k t → Dch k (.cons h t)
theorem Dch.lay {k : Nat} : ∀ {t : MV}, Dch k t → PyData.canLayAll0 (toDs t) = true
  | _, .nil => by simp [toDs, PyData.canLayAll0]
  | _, .cons h t => by simp [toDs, PyData.canLayAll0, h.lay, Dch.lay t]
theorem Dch.dep {k : Nat} : ∀ {t : MV}, Dch k t → PyData.depthAll (toDs t) ≤ k
  | _, .nil => by simp [toDs, PyData.depthAll]
  | _, .cons h t => by
    have h1 := h.dep
    have h2 := Dch.dep t
    simp only [toDs, PyData.depthAll]
    omega
theorem Dch.wf {k : Nat} : ∀ {t : MV}, Dch k t → Wf false t
  | _, .nil => .nil
  | _, .cons h t => .cons h.wf (Dch.wf t)
theorem Dch.toD {k : Nat} : ∀ {t : MV}, Dch k t → Co.toD t = .tuple (toDs t)
  | _, .nil => rfl
  | _, .cons h t => rfl
theorem Dch.tup {k : Nat} {t : MV} (h : Dch k t) : Dok (k + 1) t := by
  refine ⟨?_, ?_, ?_⟩
  · rw [h.toD]; simp only [PyData.canLay0]; exact h.lay
  · rw [h.toD]; simp only [PyData.depth]; have := h.dep; omega
  · exact .tup h.wf
theorem Dch.frz {k : Nat} {t : MV} (h : Dch k t) : Dok (k + 1) (.frz t) := by
  refine ⟨?_, ?_, .frz h.wf⟩
  · simp only [Co.toD, PyData.canLay0]; exact h.lay
  · simp only [Co.toD, PyData.depth]; have := h.dep; omega
section
variable {Z : Zx} {al : Al} {m : MH} {H : Hp}
theorem chain_dp {f : MV → Option MV} {k : Nat} (hf : ∀ v v' x, f v = some v' → RV Z al H v x → Dok k v' ∧ Dp Z.K H x (toD v')) :
    ∀ {t t' : MV} {xs : List V}, chainM f t = some t' → RVs Z al H t xs → Dch k t' ∧ DpAll Z.K H xs (toDs t')
  | .nil, _, _, e, .nil => by cases e; exact ⟨.nil, .nil⟩
  | .cons h t, t', _, e, .cons r q => by
    unfold chainM at e
    cases e1 : f h with
    | none => rw [e1] at e; cases e
    | some h1 =>
      cases e2 : chainM f t with
      | none => rw [e1, e2] at e; cases e
      | some t1 =>
        rw [e1, e2] at e
        cases e
        obtain ⟨a1, a2⟩ := hf _ _ _ e1 r
        obtain ⟨b1, b2⟩ := chain_dp hf e2 q
        exact ⟨.cons a1 b1, .cons a2 b2⟩
theorem map_dp {f : MV → Option MV} {k : Nat} (hf : ∀ v v' x, f v = some v' → RV Z al H v x → Dok k v' ∧ Dp Z.K H x (toD v')) :
    ∀ {l : List MV} {t' : MV} {xs : List V}, mapM? f l = some t' → RL Z al H l xs → Dch k t' ∧ DpAll Z.K H xs (toDs t')
  | [], _, _, e, .nil => by cases e; exact ⟨.nil, .nil⟩
  | h :: t, t', _, e, .cons r q => by
    unfold mapM? at e
    cases e1 : f h with
    | none => rw [e1] at e; cases e
    | some h1 =>
      cases e2 : mapM? f t with
      | none => rw [e1, e2] at e; cases e
      | some t1 =>
        rw [e1, e2] at e
        cases e
        obtain ⟨a1, a2⟩ := hf _ _ _ e1 r
        obtain ⟨b1, b2⟩ := map_dp hf e2 q
        exact ⟨.cons a1 b1, .cons a2 b2⟩
theorem scal_ok {k : Nat} {v : MV} (h1 : (toD v).canLay0 = true) (h2 : (toD v).depth = 0) (h3 : Wf true v) : Dok k v := ⟨h1, by omega, h3⟩
theorem deep_dp (R : Rel Z al m H) : ∀ (k : Nat) (v v' : MV) (x : V), deep m k v = some v' → RV Z al H v x → Dok k v' ∧ Dp Z.K H x (toD v') := by
  intro k
  induction k with
  | zero =>
    intro v v' x e r
    cases v with
    | non => cases e; rw [rv_non r]; exact ⟨scal_ok (by simp [toD, PyData.canLay0]) (by simp [toD, PyData.depth]) .non, .non⟩
    | bl b => cases e; rw [rv_bl r]; exact ⟨scal_ok (by simp [toD, PyData.canLay0]) (by simp [toD, PyData.depth]) (.bl _), .bl b⟩
    | int i => cases e; rw [rv_int r]; exact ⟨scal_ok (by simp [toD, PyData.canLay0]) (by simp [toD, PyData.depth]) (.int _), .int i⟩
    | str z =>
      simp only [deep] at e
      split at e
      · rename_i hz
        cases e; rw [rv_str r]; exact ⟨scal_ok (by simp only [toD, PyData.canLay0]; exact hz) (by simp [toD, PyData.depth]) (.str _), .str z⟩
      · cases e
    | _ => cases e
  | succ k ih =>
    intro v v' x e r
    cases v with
    | non => cases e; rw [rv_non r]; exact ⟨scal_ok (by simp [toD, PyData.canLay0]) (by simp [toD, PyData.depth]) .non, .non⟩
    | bl b => cases e; rw [rv_bl r]; exact ⟨scal_ok (by simp [toD, PyData.canLay0]) (by simp [toD, PyData.depth]) (.bl _), .bl b⟩
    | int i => cases e; rw [rv_int r]; exact ⟨scal_ok (by simp [toD, PyData.canLay0]) (by simp [toD, PyData.depth]) (.int _), .int i⟩
    | str z =>
      simp only [deep] at e
      split at e
      · rename_i hz
        cases e; rw [rv_str r]; exact ⟨scal_ok (by simp only [toD, PyData.canLay0]; exact hz) (by simp [toD, PyData.depth]) (.str _), .str z⟩
      · cases e
    | nil =>
      cases e
      cases r with
      | tup h q => cases q; exact ⟨Dch.nil.tup, .tup h.sq .nil⟩
    | cons a b =>
      simp only [deep] at e
      cases r with
      | tup h q =>
        obtain ⟨c1, c2⟩ := chain_dp (fun v v' x e r => ih v v' x e r) e q
        exact ⟨c1.tup, by rw [c1.toD]; exact .tup h.sq c2⟩
    | frz t =>
      simp only [deep, Option.map_eq_some_iff] at e
      obtain ⟨t', e1, rfl⟩ := e
      cases r with
      | frz h q =>
        obtain ⟨c1, c2⟩ := chain_dp (fun v v' x e r => ih v v' x e r) e1 q
        exact ⟨c1.frz, .lst h.sq c2⟩
      | tup _ q => nomatch q
    | ref n =>
      simp only [deep] at e
      obtain ⟨a, rfl, ha⟩ := rv_ref r
      cases e1 : lstAt n m with
      | none => rw [e1] at e; cases e
      | some ys =>
        rw [e1] at e
        simp only [Option.bind_some, Option.map_eq_some_iff] at e
        obtain ⟨t', e2, rfl⟩ := e
        obtain ⟨xs, h1, h2⟩ := R.lst ha e1
        obtain ⟨c1, c2⟩ := map_dp (fun v v' x e r => ih v v' x e r) e2 h2
        exact ⟨c1.frz, .lst (.of h1) c2⟩
end

theorem eqM_dp {Z : Zx} {al : Al} {m : MH} {H : Hp} (R : Rel Z al m H) {a b : MV} {x y : V} {c : Bool} (e : eqM m a b = some c) (ra : RV Z al H a x) (rb : RV Z al H b y) :
    ∃ d d', Dp Z.K H x d ∧ Dp Z.K H y d' ∧ SeqAt.shaped d = true ∧ SeqAt.shaped d' = true ∧ PyData.eqv d d' = c := by
  unfold eqM at e
  split at e
  · cases e
    rw [rv_int ra, rv_int rb]
    exact ⟨_, _, .int _, .int _, by simp [SeqAt.shaped, PyData.canLay0, PyData.depth], by simp [SeqAt.shaped, PyData.canLay0, PyData.depth], by simp [PyData.eqv]⟩
  · cases e1 : deep m 40 a with
    | none => rw [e1] at e; cases e
    | some a' =>
      cases e2 : deep m 40 b with
      | none => rw [e1, e2] at e; cases e
      | some b' =>
        rw [e1, e2] at e
        cases e
        obtain ⟨p1, p2⟩ := deep_dp R 40 _ _ _ e1 ra
        obtain ⟨q1, q2⟩ := deep_dp R 40 _ _ _ e2 rb
        exact ⟨_, _, p2, q2, p1.shaped (by decide), q1.shaped (by decide), ((eqv_d a' b').1 p1.wf q1.wf).symm⟩

section
variable {X : Cx}
/-! ### comparisons -/
theorem co_eq (hu : X.A.units + 64 < cLine) : OpR X (compareOp .Eq) (RB (zx X) oEq) := by
  intro pins s σ H x y v u Q I rx ry h
  obtain ⟨al, m, a, b, w, m', R, ra, rb, e, k⟩ := h
  unfold oEq at e
  split at e
  · rename_i c hc
    cases e
    obtain ⟨d, d', h1, h2, h3, h4, h5⟩ := eqM_dp R hc ra rb
    exact op_eqD hu pins s σ H x y v u Q I rx ry ⟨d, d', h1, h2, h3, h4, by rw [h5]; exact k al H _ Ext.refl R (.bl c)⟩
  · cases e
theorem co_ne (hu : X.A.units + 64 < cLine) : OpR X (compareOp .NotEq) (RB (zx X) oNe) := by
  intro pins s σ H x y v u Q I rx ry h
  obtain ⟨al, m, a, b, w, m', R, ra, rb, e, k⟩ := h
  unfold oNe at e
  split at e
  · rename_i c hc
    cases e
    obtain ⟨d, d', h1, h2, h3, h4, h5⟩ := eqM_dp R hc ra rb
    exact op_neD hu pins s σ H x y v u Q I rx ry ⟨d, d', h1, h2, h3, h4, by rw [h5]; exact k al H _ Ext.refl R (.bl _)⟩
  · cases e
theorem co_I {f : Value → Value → Sem Value} {g : Int → Int → V} {g' : Int → Int → MV} (ho : OpR X f (rI0 g)) (hg : ∀ i j al H, RV (zx X) al H (g' i j) (g i j)) : OpR X f (RB (zx X) (oI g')) := by
  intro pins s σ H x y v u Q I rx ry h
  obtain ⟨al, m, a, b, w, m', R, ra, rb, e, k⟩ := h
  unfold oI at e
  split at e
  · cases e
    exact ho pins s σ H x y v u Q I rx ry ⟨_, _, rv_int ra, rv_int rb, k al H _ Ext.refl R (hg _ _ _ _)⟩
  · cases e
theorem co_lt : OpR X (compareOp .Lt) (RB (zx X) oLt) := co_I op_lt fun _ _ _ _ => .bl _
theorem co_le : OpR X (compareOp .LtE) (RB (zx X) oLe) := co_I op_le fun _ _ _ _ => .bl _
theorem co_gt : OpR X (compareOp .Gt) (RB (zx X) oGt) := co_I op_gt fun _ _ _ _ => .bl _
theorem co_ge : OpR X (compareOp .GtE) (RB (zx X) oGe) := co_I op_ge fun _ _ _ _ => .bl _
theorem co_sub : OpR X (binaryOp .Sub) (RB (zx X) oSub) := co_I op_sub fun _ _ _ _ => .int _
theorem rv_isnon {Z : Zx} {al : Al} {H : Hp} {a : MV} {x : V} (h : RV Z al H a x) : decide (a = .non) = decide (x = .non) := by
  cases h <;> first
    | rfl
    | (rename_i q; cases q <;> rfl)
    | (rename_i q _; cases q <;> rfl)
theorem co_is : OpR X (compareOp .Is) (RB (zx X) oIs) := by
  intro pins s σ H x y v u Q I rx ry h
  obtain ⟨al, m, a, b, w, m', R, ra, rb, e, k⟩ := h
  unfold oIs at e
  split at e
  · cases e
    refine op_isN pins s σ H x y v u Q I rx ry ⟨rv_non rb, ?_⟩
    rw [← rv_isnon ra]
    exact k al H _ Ext.refl R (.bl _)
  · split at e
    · cases e
      refine op_is_bl pins s σ H x y v u Q I rx ry ⟨_, _, rv_bl ra, rv_bl rb, ?_⟩
      rw [← Bool.beq_eq_decide_eq]
      exact k al H _ Ext.refl R (.bl _)
    · cases e
  · cases e
theorem co_isnot : OpR X (compareOp .IsNot) (RB (zx X) oIsNot) := by
  intro pins s σ H x y v u Q I rx ry h
  obtain ⟨al, m, a, b, w, m', R, ra, rb, e, k⟩ := h
  unfold oIsNot at e
  split at e
  · cases e
    refine op_notN pins s σ H x y v u Q I rx ry ⟨rv_non rb, ?_⟩
    rw [← rv_isnon ra]
    exact k al H _ Ext.refl R (.bl _)
  · split at e
    · cases e
      refine op_isnot_bl pins s σ H x y v u Q I rx ry ⟨_, _, rv_bl ra, rv_bl rb, ?_⟩
      rw [← Bool.beq_eq_decide_eq]
      exact k al H _ Ext.refl R (.bl _)
    · cases e
  · cases e
end
end Co

namespace Co
open PySem PySem.Spec PyProof.Rows L2
section
variable {X : Cx}
/-! ### arithmetic -/
theorem co_mod : OpR X (binaryOp .Mod) (RB (zx X) oMod) := by
  intro pins s σ H x y v u Q I rx ry h
  obtain ⟨al, m, a, b, w, m', R, ra, rb, e, k⟩ := h
  unfold oMod at e
  split at e
  · split at e
    · rename_i hj
      cases e
      exact op_mod pins s σ H x y v u Q I rx ry ⟨_, _, rv_int ra, rv_int rb, of_decide_eq_true hj, k al H _ Ext.refl R (.int _)⟩
    · cases e
  · cases e
theorem co_div : OpR X (binaryOp .FloorDiv) (RB (zx X) oDiv) := by
  intro pins s σ H x y v u Q I rx ry h
  obtain ⟨al, m, a, b, w, m', R, ra, rb, e, k⟩ := h
  unfold oDiv at e
  split at e
  · split at e
    · rename_i hj
      cases e
      simp only [Bool.and_eq_true, decide_eq_true_eq] at hj
      exact op_fdiv pins s σ H x y v u Q I rx ry ⟨_, _, rv_int ra, rv_int rb, hj, k al H _ Ext.refl R (.int _)⟩
    · cases e
  · cases e
theorem co_pow : OpR X (binaryOp .Pow) (RB (zx X) oPow) := by
  intro pins s σ H x y v u Q I rx ry h
  obtain ⟨al, m, a, b, w, m', R, ra, rb, e, k⟩ := h
  unfold oPow at e
  split at e
  · split at e
    · rename_i hj
      cases e
      simp only [Bool.and_eq_true, decide_eq_true_eq] at hj
      exact op_pow pins s σ H x y v u Q I rx ry ⟨_, _, rv_int ra, rv_int rb, ⟨hj.1.1, hj.1.2, hj.2⟩, k al H _ Ext.refl R (.int _)⟩
    · cases e
  · cases e
theorem co_neg : UnR X (unaryOp .USub) (RU (zx X) oNeg) := by
  intro pins s σ H x v Q I rx h
  obtain ⟨al, m, a, w, m', R, ra, e, k⟩ := h
  unfold oNeg at e
  split at e
  · cases e
    exact un_neg pins s σ H x v Q I rx ⟨_, rv_int ra, k al H _ Ext.refl R (.int _)⟩
  · cases e
theorem cat_td {pins : List (Addr × Obj)} {s : Shared} {σ : L2.St} {H : Hp} {Q : VK} {a b : Addr} {xs ys : List V} (I : Inv X pins σ H s) (ha : SqT X.K H a xs) (hb : SqT X.K H b ys) (hz : xs.length + ys.length ≤ sizeLine)
    (q0 : xs = [] → Q (.ref b) H) (q1 : xs ≠ [] → ys = [] → Q (.ref a) H) (q2 : xs ≠ [] → ys ≠ [] → ∀ p o, H p = none → o.dict = none → Q (.ref p) (upd H p (.frz o (.tup (xs ++ ys))))) :
    wpAny (model X.prog X.w) X.A (binaryOp .Add (.ref a) (.ref b)) (EP X pins σ Q) X.xe s := by
  by_cases hx : xs = []
  · subst hx
    obtain ⟨its, r1, p1, _⟩ := I.tuple ha
    obtain ⟨its2, r2, p2, _⟩ := I.tuple hb
    cases r1
    exact cat_tup0 p1 p2 ⟨.ref b, H, I, rfl, q0 rfl⟩
  · obtain ⟨its, r1, p1, _⟩ := I.tuple ha
    obtain ⟨its2, r2, p2, _⟩ := I.tuple hb
    refine HT.cat_tup p1 p2 (fun z => hx (r1.nil_iff.mp z)) (fun z => ⟨.ref a, H, I, rfl, q1 hx (r2.nil_iff.mp z)⟩) (fun z => ?_) (by rw [← r1.length, ← r2.length]; exact hz)
    exact lay_tup (s := s) (h' := s.heap) I (r1.append r2) (by rw [List.length_append]; exact hz) (q2 hx fun w => z (r2.nil_iff.mpr w))
theorem co_add : OpR X (binaryOp .Add) (RB (zx X) oAdd) := by
  intro pins s σ H x y v u Q I rx ry h
  obtain ⟨al, m, a, b, w, m', R, ra, rb, e, k⟩ := h
  unfold oAdd at e
  split at e
  · cases e
    exact op_add pins s σ H x y v u Q I rx ry ⟨_, _, rv_int ra, rv_int rb, k al H _ Ext.refl R (.int _)⟩
  · split at e
    · rename_i e1 e2
      obtain ⟨a1, rfl, h1⟩ := rv_ref ra
      obtain ⟨a2, rfl, h2⟩ := rv_ref rb
      obtain ⟨l1, g1, r1⟩ := R.lst h1 e1
      obtain ⟨l2, g2, r2⟩ := R.lst h2 e2
      obtain ⟨z, q⟩ := newL_ok R (Paired.append r1 r2) e k
      rw [List.length_append] at z
      exact op_cat pins s σ H _ _ v u Q I rx ry ⟨a1, a2, _, _, rfl, rfl, g1, g2, million z, q⟩
    · cases e
  · split at e
    · rename_i e1 e2
      split at e
      · rename_i hz
        cases e
        obtain ⟨p1, l1, rfl, t1, r1⟩ := ra.tup_inv e1
        obtain ⟨p2, l2, rfl, t2, r2⟩ := rb.tup_inv e2
        cases rx
        cases ry
        refine cat_td I t1.sq t2.sq (by rw [← Paired.len r1, ← Paired.len r2]; exact szOk_line hz) (fun z => ?_) (fun _ z => ?_) (fun _ _ p o hp ho => ?_)
        · subst z
          cases r1
          exact k al H _ Ext.refl R (.tup t2 (RVs.ofL r2))
        · subst z
          cases r2
          refine k al H _ Ext.refl R (.tup t1 ?_)
          rw [List.append_nil]
          exact RVs.ofL r1
        · exact tup_q R (Paired.append r1 r2) k p o hp ho
      · cases e
    · cases e
theorem natAbs64 {i : Int} (h : i.natAbs < 2 ^ 64) : -(2 ^ 64) < i ∧ i < 2 ^ 64 := by
  constructor <;> omega
/-! ### t * k -/
theorem tuple_mul1 (l : Addr) (items : Array Value) (n : Nat) (dd : Option Addr) (sl : Array (Option Value)) (u : Tok) :
    Meets (Builtin.«tuple.__mul__» ⟨[.ref l, .int 1 u], []⟩) (fun _ R s => s.heap.get? l = some { cls := .type "tuple", dict := dd, data := .seq items n, slots := sl } ∧ R (.ok (.ret (Value.ref l))) s) :=
  .of_wp fun prog w A R s h => by
    obtain ⟨hp, g, d, tk, os⟩ := s
    obtain ⟨hl, h⟩ := h
    have f1 := AutoSeq1.idx_int
    wp_walk using wpAny_loadPart' hl
    exact ⟨_, rfl, h⟩
theorem tuple_mul0 (l : Addr) (items : Array Value) (n : Nat) (dd : Option Addr) (sl : Array (Option Value)) (u : Tok) (c1 : items.isEmpty = false) :
    Meets (Builtin.«tuple.__mul__» ⟨[.ref l, .int 0 u], []⟩) (fun _ R s => s.heap.get? l = some { cls := .type "tuple", dict := dd, data := .seq items n, slots := sl } ∧ R (.ok (.ret (Value.ref s.heap.objs.size))) { s with heap := s.heap.push { cls := Value.type "tuple", data := Data.seq #[] } }) :=
  .of_wp fun prog w A R s h => by
    obtain ⟨hp, g, d, tk, os⟩ := s
    obtain ⟨hl, h⟩ := h
    have f1 := AutoSeq1.idx_int
    wp_walk using wpAny_loadPart' hl
    exact ⟨_, rfl, h⟩
theorem rep_one {α : Type} (x : α) (n : Nat) : (List.replicate n [x]).flatten = List.replicate n x := by
  induction n with
  | zero => rfl
  | succ n ih => simp [List.replicate_succ, ih]
theorem mul_td {pins : List (Addr × Obj)} {s : Shared} {σ : L2.St} {H : Hp} {Q : VK} {l : Addr} {k : Int} {t : Tok} {x : V} (I : Inv X pins σ H s) (hT : SqT X.K H l [x]) (h0 : 0 ≤ k) (h2 : k ≤ 1000)
    (q1 : k = 1 → Q (.ref l) H) (q : ∀ p o, H p = none → o.dict = none → Q (.ref p) (upd H p (.frz o (.tup (List.replicate k.toNat x))))) :
    wpAny (model X.prog X.w) X.A (binaryOp .Mult (.ref l) (.int k t)) (EP X pins σ Q) X.xe s := by
  obtain ⟨its, r, ⟨⟨cls, dd, data, sl⟩, ho, hc, n, hd⟩, hs⟩ := I.tuple hT
  simp only at hc hd
  subst hc hd
  have hle : its.length = 1 := r.length.symm
  have hi : its.toArray.isEmpty = false := by
    cases its with
    | nil => cases hle
    | cons a b => rfl
  have hsz0 : its.toArray.size = 1 := by rw [List.size_toArray, hle]
  by_cases k1 : k = 1
  · subst k1
    refine wpAny_binaryOp_repeat_ref (T := "tuple") (U := "int") (by decide) ⟨_, ho, rfl⟩ (fun s' => typeIs_int s' 1 t) noFill_tuple_mul F.fills_int_mul F.slot_int_rmul repeat_tuple F.slot_int_index.lookup
      (call_meets F.slot_int_rmul (typeIs_int s 1 t) F.entry_int_rmul (F.args_int_rmul_2 _ _) (int_rmul_tuple 1 t l its.toArray n dd sl)
        ⟨ho, rfl, ⟨_, ho, rfl⟩, call_meets F.slot_tuple_mul ⟨_, ho, rfl⟩ F.entry_tuple_mul (F.args_tuple_mul_2 _ _) (tuple_mul1 l its.toArray n dd sl t) ⟨ho, ?_⟩⟩)
    exact ⟨.ref l, H, I, rfl, q1 rfl⟩
  · by_cases k0 : k = 0
    · subst k0
      refine wpAny_binaryOp_repeat_ref (T := "tuple") (U := "int") (by decide) ⟨_, ho, rfl⟩ (fun s' => typeIs_int s' 0 t) noFill_tuple_mul F.fills_int_mul F.slot_int_rmul repeat_tuple F.slot_int_index.lookup
        (call_meets F.slot_int_rmul (typeIs_int s 0 t) F.entry_int_rmul (F.args_int_rmul_2 _ _) (int_rmul_tuple 0 t l its.toArray n dd sl)
          ⟨ho, rfl, ⟨_, ho, rfl⟩, call_meets F.slot_tuple_mul ⟨_, ho, rfl⟩ F.entry_tuple_mul (F.args_tuple_mul_2 _ _) (tuple_mul0 l its.toArray n dd sl t hi) ⟨ho, ?_⟩⟩)
      exact lay_tup (s := s) (h' := s.heap) (its := []) I .nil (by decide) q
    · have hm : ((its.toArray.size : Nat) : Int) * k ≤ 1000000 := by rw [hsz0]; omega
      have flen : (List.replicate k.toNat its).flatten.length ≤ sizeLine := by
        rw [PyProof.Rows.lm_len_rep_flat, hle, sizeLine_eq]
        omega
      have c0 : (decide (k < -(2 ^ 63)) || decide (k ≥ 2 ^ 63)) = false := by
        rw [decide_eq_false (by omega), decide_eq_false (by omega)] <;> rfl
      have c1 : (its.toArray.isEmpty || k == 1) = false := by
        rw [hi, Bool.false_or]
        exact beq_eq_false_iff_ne.mpr (by omega)
      have c2 : (decide (k ≤ 0) || its.toArray.isEmpty) = false := by
        rw [hi, Bool.or_false]
        exact decide_eq_false (by omega)
      have c4 : Builtin.Tuple.tupleTooMany (((its.toArray.size : Nat) : Int) * k) = false := by
        unfold Builtin.Tuple.tupleTooMany
        rw [sizeLine_eq]
        exact decide_eq_false (by omega)
      refine wpAny_binaryOp_repeat_ref (T := "tuple") (U := "int") (by decide) ⟨_, ho, rfl⟩ (fun s' => typeIs_int s' k t) noFill_tuple_mul F.fills_int_mul F.slot_int_rmul repeat_tuple F.slot_int_index.lookup
        (call_meets F.slot_int_rmul (typeIs_int s k t) F.entry_int_rmul (F.args_int_rmul_2 _ _) (int_rmul_tuple k t l its.toArray n dd sl)
          ⟨ho, rfl, ⟨_, ho, rfl⟩, call_meets F.slot_tuple_mul ⟨_, ho, rfl⟩ F.entry_tuple_mul (F.args_tuple_mul_2 _ _) (tuple_mulW l its.toArray n dd sl k t c0 c1 c2 (by omega) c4 (by rw [size_rep, List.size_toArray]; exact flen)) ⟨ho, ?_⟩⟩)
      rw [size_rep]
      refine lay_tup (s := s) (h' := s.heap) (its := (List.replicate k.toNat its).flatten) (xs := List.replicate k.toNat x) I ?_ ?_ q
      · have := r.rep k.toNat
        rw [rep_one] at this
        exact this
      · rw [List.length_replicate, sizeLine_eq]
        omega
theorem co_mul : OpR X (binaryOp .Mult) (RB (zx X) oMul) := by
  intro pins s σ H x y v u Q I rx ry h
  obtain ⟨al, m, a, b, w, m', R, ra, rb, e, k⟩ := h
  unfold oMul at e
  split at e
  · rename_i i j
    split at e
    · rename_i hm
      cases e
      have q := k al H _ Ext.refl R (.int _)
      simp only [mulOk, Bool.or_eq_true, Bool.and_eq_true, decide_eq_true_eq] at hm
      rcases hm with (hm | hm) | hm
      · exact op_mul pins s σ H x y v u Q I rx ry ⟨_, _, rv_int ra, rv_int rb, .inl (natAbs64 hm), q⟩
      · exact op_mul pins s σ H x y v u Q I rx ry ⟨_, _, rv_int ra, rv_int rb, .inr (natAbs64 hm), q⟩
      · exact op_mulW pins s σ H x y v u Q I rx ry ⟨_, _, rv_int ra, rv_int rb, wide_mul hm.1 hm.2 (by decide) (by decide) (by decide), q⟩
    · cases e
  · split at e
    · rename_i z e1
      split at e
      · rename_i hk
        simp only [Bool.and_eq_true, decide_eq_true_eq] at hk
        obtain ⟨a1, rfl, h1⟩ := rv_ref ra
        obtain ⟨l1, g1, r1⟩ := R.lst h1 e1
        cases r1 with
        | cons rz rr =>
          cases rr
          obtain ⟨zz, q⟩ := newL_ok R (Paired.rep rz _) e k
          refine op_rep pins s σ H _ _ v u Q I rx ry ⟨a1, _, _, rfl, rv_int rb, g1, by omega, by omega, ?_, ?_⟩
          · rw [sizeLine_eq]
            simp only [List.length_cons, List.length_nil]
            omega
          · rw [rep_one]
            exact q
      · cases e
    · cases e
  · rename_i kk _ _
    split at e
    · rename_i z e1
      split at e
      · rename_i hk
        cases e
        simp only [Bool.and_eq_true, decide_eq_true_eq] at hk
        obtain ⟨p1, l1, rfl, t1, r1⟩ := ra.tup_inv e1
        cases r1 with
        | cons rz rr =>
          cases rr
          rw [rv_int rb] at ry
          obtain ⟨t, rfl⟩ := ry
          cases rx
          refine mul_td I t1.sq hk.1 hk.2 (fun z => ?_) (fun p o hp ho => ?_)
          · subst z
            exact k al H _ Ext.refl R (.tup t1 (.cons rz .nil))
          · exact tup_q R (Paired.rep rz _) k p o hp ho
      · cases e
    · cases e
  · cases e
/-! ### in, not in -/
theorem toDs_toL : ∀ {t : MV} {l : List MV}, t.toL = some l → toDs t = l.map toD
  | .nil, _, e => by cases e; rfl
  | .cons h t, l, e => by
    simp only [MV.toL, Option.map_eq_some_iff] at e
    obtain ⟨l', e1, rfl⟩ := e
    simp [toDs, toDs_toL e1]
theorem Dch.mem {k : Nat} : ∀ {t : MV} {l : List MV}, Dch k t → t.toL = some l → ∀ y ∈ l, Dok k y
  | _, _, .nil, e, y, hy => by cases e; cases hy
  | _, _, .cons h t, e, y, hy => by
    simp only [MV.toL, Option.map_eq_some_iff] at e
    obtain ⟨l', e1, rfl⟩ := e
    rcases List.mem_cons.mp hy with rfl | hy
    · exact h
    · exact Dch.mem t e1 y hy
theorem anyEq_d {k j : Nat} {x : MV} (hx : Dok j x) : ∀ {l : List MV}, (∀ y ∈ l, Dok k y) → anyEq x l = (l.map toD).any fun z => PyData.eqv z (toD x)
  | [], _ => rfl
  | y :: r, h => by
    rw [anyEq, List.map_cons, List.any_cons, anyEq_d hx fun z hz => h z (List.mem_cons_of_mem _ hz), (eqv_d y x).1 (h y List.mem_cons_self).wf hx.wf]
theorem in_seq {pins : List (Addr × Obj)} {s : Shared} {σ : L2.St} {al : Al} {m : MH} {H : Hp} {a b : MV} {x y : V} {v u : Value} {c : Bool} (I : Inv X pins σ H s) (hu : X.A.units + 64 < cLine) (R : Rel (zx X) al m H) (ra : RV (zx X) al H a x) (rb : RV (zx X) al H b y) (rx : RelV x v) (ry : RelV y u)
    (hb : ∀ y, b ≠ .str y) (hd : ∀ n kvs lk, b = .ref n → m[n]? ≠ some (.dct lk kvs)) (e : inM m a b = some c) {E : Value → Shared → Prop} {Q : Value → Shared → Prop} :
    (Q (.bool c) s → wpAny (model X.prog X.w) X.A (compareOp .In v u) Q E s) ∧ (Q (.bool (!c)) s → wpAny (model X.prog X.w) X.A (compareOp .NotIn v u) Q E s) := by
  have main : ∀ {t x' : MV} {ys : List MV} {xs : List V} {p : Addr}, deep m 40 a = some x' → Dch 39 t → t.toL = some ys → DpAll X.K H xs (toDs t) → y = .ref p → (SqL X.K H p xs ∨ SqT X.K H p xs) → anyEq x' ys = c →
      (Q (.bool c) s → wpAny (model X.prog X.w) X.A (compareOp .In v u) Q E s) ∧ (Q (.bool (!c)) s → wpAny (model X.prog X.w) X.A (compareOp .NotIn v u) Q E s) := by
    intro t x' ys xs p e1 hc e2 da ey hs ec
    obtain ⟨p1, p2⟩ := deep_dp R 40 _ _ _ e1 ra
    obtain ⟨as, r1⟩ := Dp.reads I _ x v p2 rx
    subst ey
    have hl := hc.lay
    have hdp := hc.dep
    have hdx := p1.dep
    have room : X.A.units + 1 + min (PyData.depthAll (toDs t)) (toD x').depth < cLine := by omega
    have ea : ((toDs t).any fun z => PyData.eqv z (toD x')) = c := by
      rw [toDs_toL e2, ← anyEq_d p1 (hc.mem e2), ec]
    rcases hs with hs | hs
    · obtain ⟨bs, r2⟩ := Dp.reads I (.list (toDs t)) (.ref p) u (.lst hs da) ry
      exact ⟨fun q => SeqAt.in_list_reads r2 r1 hl p1.lay room (by rw [ea]; exact q), fun q => SeqAt.notIn_list_reads r2 r1 hl p1.lay room (by rw [ea]; exact q)⟩
    · obtain ⟨bs, r2⟩ := Dp.reads I (.tuple (toDs t)) (.ref p) u (.tup hs da) ry
      exact ⟨fun q => SeqAt.in_tuple_reads r2 r1 hl p1.lay room (by rw [ea]; exact q), fun q => SeqAt.notIn_tuple_reads r2 r1 hl p1.lay room (by rw [ea]; exact q)⟩
  unfold inM at e
  split at e
  · exact absurd rfl (hb _)
  · rename_i n
    split at e
    · rename_i xs hx
      obtain ⟨p, rfl, hp⟩ := rv_ref rb
      have e0 : lstAt n m = some xs := by unfold lstAt; rw [hx]
      obtain ⟨vs, h1, h2⟩ := R.lst hp e0
      cases e1 : deep m 40 a with
      | none => rw [e1] at e; cases e
      | some x' =>
        cases e2 : mapM? (deep m 39) xs with
        | none => rw [e1, e2] at e; cases e
        | some t =>
          cases e3 : t.toL with
          | none => rw [e1, e2] at e; simp [e3] at e
          | some ys =>
            rw [e1, e2] at e
            simp only [Option.bind_some, e3, Option.map_some, Option.some.injEq] at e
            obtain ⟨c1, c2⟩ := map_dp (fun v v' x e r => deep_dp R 39 v v' x e r) e2 h2
            exact main e1 c1 e3 c2 rfl (.inl (.of h1)) e
    · rename_i lk kvs hx
      exact absurd hx (hd n kvs lk rfl)
    · cases e
  · cases e1 : deep m 40 a with
    | none => rw [e1] at e; cases e
    | some x' =>
      cases e2 : chainM (deep m 39) b with
      | none => rw [e1, e2] at e; cases e
      | some t =>
        cases e3 : t.toL with
        | none => rw [e1, e2] at e; simp [e3] at e
        | some ys =>
          rw [e1, e2] at e
          simp only [Option.bind_some, e3, Option.map_some, Option.some.injEq] at e
          cases rb with
          | tup h q =>
            obtain ⟨c1, c2⟩ := chain_dp (fun v v' x e r => deep_dp R 39 v v' x e r) e2 q
            exact main e1 c1 e3 c2 rfl (.inr h.sq) e
          | _ => simp [chainM] at e2
end
end Co

namespace Co
open PySem PySem.Spec PyProof.Rows L2
/-! ### dicts of nested keys -/
theorem keyOk_succ : ∀ (v : MV) (n : Nat), keyOk n v = true → keyOk (n + 1) v = true := by
  intro v
  induction v with
  | cons h t ih1 ih2 =>
    intro n e
    cases n with
    | zero => simp [keyOk] at e
    | succ n =>
      simp only [keyOk, Bool.and_eq_true] at e ⊢
      exact ⟨⟨ih1 n e.1.1, e.1.2⟩, ih2 (n + 1) e.2⟩
  | nil => intro n e; cases n <;> simp [keyOk] at e ⊢
  | ref k => intro n e; cases n <;> simp [keyOk] at e
  | frz k => intro n e; cases n <;> simp [keyOk] at e
  | _ => intro n e; cases n <;> simp [keyOk]
section
variable {X : Cx} {pins : List (Addr × Obj)} {s : Shared} {σ : L2.St} {H : Hp} {al : Al}
mutual
theorem key_is (I : Inv X pins σ H s) : ∀ (n : Nat) {v : MV} {x : V} {u : Value}, RV (zx X) al H v x → RelV x u → keyOk n v = true → NestedIs s.heap (nkL.nk1 v) u ∧ (nkL.nk1 v).depth ≤ n
  | n, _, _, _, .non, r, _ => by cases r; exact ⟨.none, by simp [nkL.nk1, NestedKey.depth]⟩
  | n, _, _, _, .bl b, r, _ => by cases r; exact ⟨.bool rfl, by simp [nkL.nk1, NestedKey.depth]⟩
  | n, _, _, _, .int i, r, _ => by obtain ⟨t, rfl⟩ := r; exact ⟨.int i t, by simp [nkL.nk1, NestedKey.depth]⟩
  | n, _, _, _, .str i, r, _ => by obtain ⟨t, rfl⟩ := r; exact ⟨.text i t, by simp [nkL.nk1, NestedKey.depth]⟩
  | n, _, _, _, .ref h, r, k => by cases n <;> simp [keyOk] at k
  | n, _, _, _, .frz h q, r, k => by cases n <;> simp [keyOk] at k
  | n, v, _, _, .tup h q, r, k => by
    cases r
    obtain ⟨its, rv, ⟨o, e1, e2, z, e3⟩, hz⟩ := I.tuple h.sq
    cases n with
    | zero => cases q <;> simp [keyOk] at k
    | succ n =>
      obtain ⟨c1, c2⟩ := keys_are I n q (by simpa using rv) k
      have e : nkL.nk1 v = .tup (nkL v) := by cases q <;> simp [nkL.nk1, nkL]
      rw [e]
      exact ⟨.tup e1 e2 e3 c1, by simp only [NestedKey.depth]; omega⟩
theorem keys_are (I : Inv X pins σ H s) : ∀ (n : Nat) {v : MV} {xs : List V} {us : List Value}, RVs (zx X) al H v xs → Vals xs us → keyOk (n + 1) v = true → NestedAll s.heap (nkL v) us ∧ NestedKey.depthAll (nkL v) ≤ n
  | n, _, _, _, .nil, r, k => by cases r; exact ⟨by simp only [nkL]; exact .nil, by simp [nkL, NestedKey.depthAll]⟩
  | n, _, _, _, .cons h q, r, k => by
    cases r with
    | cons r1 r2 =>
      simp only [keyOk, Bool.and_eq_true] at k
      obtain ⟨a1, a2⟩ := key_is I n h r1 k.1.1
      obtain ⟨b1, b2⟩ := keys_are I n q r2 k.2
      exact ⟨by simp only [nkL]; exact .cons a1 b1, by simp only [nkL, NestedKey.depthAll]; omega⟩
end
end
/-- == of keys -/
theorem nk_isT {v : MV} (h : isT v = true) : nkL.nk1 v = .tup (nkL v) := by cases v <;> simp [isT, nkL.nk1, nkL] at h ⊢
theorem eqv_nk : ∀ (a b : MV) (i j : Nat), (keyOk i a = true → keyOk j b = true → eqv a b = decide (nkL.nk1 a = nkL.nk1 b)) := by
  intro a
  induction a with
  | ref n => intro b i j h; cases i <;> simp [keyOk] at h
  | frz n => intro b i j h; cases i <;> simp [keyOk] at h
  | non => intro b i j _ h'; cases b <;> first | (cases j <;> simp [keyOk] at h'; done) | simp [eqv, nkL.nk1]
  | bl x =>
    intro b i j _ h'
    cases b with
    | bl y => cases x <;> cases y <;> simp [eqv, nkL.nk1]
    | int y => cases x <;> (simp only [eqv, nkL.nk1]; rw [Bool.eq_iff_iff]; simp)
    | _ => first | (cases j <;> simp [keyOk] at h'; done) | simp [eqv, nkL.nk1]
  | int x =>
    intro b i j _ h'
    cases b with
    | bl y => cases y <;> (simp only [eqv, nkL.nk1]; rw [Bool.eq_iff_iff]; simp)
    | int y => simp only [eqv, nkL.nk1]; rw [Bool.eq_iff_iff]; simp
    | _ => first | (cases j <;> simp [keyOk] at h'; done) | simp [eqv, nkL.nk1]
  | str x =>
    intro b i j _ h'
    cases b with
    | str y => simp only [eqv, nkL.nk1]; rw [Bool.eq_iff_iff]; simp
    | _ => first | (cases j <;> simp [keyOk] at h'; done) | simp [eqv, nkL.nk1]
  | nil => intro b i j _ h'; cases b <;> first | (cases j <;> simp [keyOk] at h'; done) | simp [eqv, nkL.nk1]
  | cons x y ih1 ih2 =>
    intro b i j h h'
    cases i with
    | zero => simp [keyOk] at h
    | succ i =>
      cases j with
      | zero => cases b <;> first | (simp [keyOk] at h'; done) | simp [eqv, nkL.nk1]
      | succ j =>
        simp only [keyOk, Bool.and_eq_true] at h
        cases b with
        | cons x' y' =>
          simp only [keyOk, Bool.and_eq_true] at h'
          have e1 := ih1 x' i j h.1.1 h'.1.1
          have e2 := ih2 y' (i + 1) (j + 1) h.2 h'.2
          rw [nk_isT h.1.2, nk_isT h'.1.2] at e2
          simp only [eqv, nkL.nk1]
          rw [e1, e2, Bool.eq_iff_iff]
          simp
        | ref n => simp [keyOk] at h'
        | frz n => simp [keyOk] at h'
        | _ => simp [eqv, nkL.nk1]
section
variable {Z : Zx} {al : Al} {H : Hp}
theorem keyAt_at {k : MV} (hk : keyOk 8 k = true) : ∀ {kvs : List (MV × MV)} {es : List DE}, Paired (EntR Z al H) kvs es → 
    match keyAt kvs k, atKey es (nkL.nk1 k) with
    | none, none => True
    | some v, some (_, u) => ∃ x, RelV x u ∧ RV Z al H v x
    | _, _ => False
  | _, _, .nil => by simp [keyAt, atKey]
  | (a, v) :: kvs, (nk, q, u) :: es, .cons h t => by
    obtain ⟨h1, h2, h3, h4, x, h5, h6⟩ := h
    have e := eqv_nk a k 8 8 h2 hk
    have h3 : nk = nkL.nk1 a := h3
    subst h3
    by_cases c : nkL.nk1 a = nkL.nk1 k
    · rw [decide_eq_true c] at e
      simp only [keyAt, e, if_true, atKey, List.find?, decide_eq_true c, Option.map_some]
      exact ⟨x, h5, h6⟩
    · rw [decide_eq_false c] at e
      have ih := keyAt_at hk t
      simp only [keyAt, e, atKey, List.find?, decide_eq_false c] at ih ⊢
      exact ih
theorem put_stored {k v : MV} {a : Addr} {u : Value} {x : V} (hk : keyOk 8 k = true) (hT : isT k = true) (hv : RV Z al H v x) (hu : RelV x u) (ha : RV Z al H k (.ref a)) :
    ∀ {kvs : List (MV × MV)} {es : List DE}, Paired (EntR Z al H) kvs es → (es.map (·.1)).Nodup → Paired (EntR Z al H) (dPut kvs k v) (storedH es (nkL.nk1 k) a u)
  | _, _, .nil, _ => by
    simp only [dPut, storedH, atKey, List.find?]
    exact .cons ⟨hT, hk, rfl, ha, x, hu, hv⟩ .nil
  | (b, w) :: kvs, (nk, q, z) :: es, .cons h t, nd => by
    have h0 := h
    obtain ⟨h1, h2, h3, h4, y, h5, h6⟩ := h
    have e := eqv_nk b k 8 8 h2 hk
    have h3 : nk = nkL.nk1 b := h3
    subst h3
    rw [List.map_cons, List.nodup_cons] at nd
    by_cases c : nkL.nk1 b = nkL.nk1 k
    · rw [decide_eq_true c] at e
      have es0 : es.map (putAt (nkL.nk1 k) u) = es := by
        conv => rhs; rw [← List.map_id es]
        refine List.map_congr_left fun p hp => ?_
        unfold putAt
        rw [if_neg fun z => nd.1 (by rw [c, ← z]; exact List.mem_map.mpr ⟨p, hp, rfl⟩)]
        rfl
      simp only [dPut, e, if_true, storedH, atKey, List.find?, decide_eq_true c, Option.map_some, Option.isSome_some, List.map_cons, es0]
      unfold putAt
      rw [if_pos c]
      exact .cons ⟨h1, h2, rfl, h4, x, hu, hv⟩ t
    · rw [decide_eq_false c] at e
      have ih := put_stored hk hT hv hu ha t nd.2
      have hat : atKey ((nkL.nk1 b, q, z) :: es) (nkL.nk1 k) = atKey es (nkL.nk1 k) := by
        simp only [atKey, List.find?, decide_eq_false c]
      have e2 : storedH ((nkL.nk1 b, q, z) :: es) (nkL.nk1 k) a u = (nkL.nk1 b, q, z) :: storedH es (nkL.nk1 k) a u := by
        unfold storedH
        rw [hat]
        split
        · rw [List.map_cons]
          congr 1
          unfold putAt
          rw [if_neg c]
        · rfl
      rw [e2]
      simp only [dPut, e]
      exact .cons h0 ih
theorem dPut_len : ∀ (kvs : List (MV × MV)) (k v : MV), (dPut kvs k v).length ≤ kvs.length + 1
  | [], _, _ => by simp [dPut]
  | (a, w) :: r, k, v => by
    unfold dPut
    split
    · simp
    · have := dPut_len r k v
      simp only [List.length_cons]
      omega
end
section
variable {X : Cx} {pins : List (Addr × Obj)} {s : Shared} {σ : L2.St} {H : Hp} {al : Al}
theorem dict_of (I : Inv X pins σ H s) {a : Addr} {es : List DE} {kvs : List (MV × MV)} (h : ObjOk X.prog X.w H s.heap a (DO (zx X) a es)) (p : Paired (EntR (zx X) al H) kvs es) :
    (a == sysModules) = false ∧ es.length ≤ sizeLine ∧ s.heap.DictOfH (nestedKind X.prog X.w) a es := by
  obtain ⟨⟨h1, h2, o, ents, ep, h3, h4, h5, h6, h7⟩, _⟩ := h
  refine ⟨h1, h2, o, ents, ep, h3, h4, h5, h6, fun q hq => ?_, h7⟩
  obtain ⟨i, hi, rfl⟩ := List.getElem_of_mem hq
  obtain ⟨kv, _, e1, e2, e3, e4, _⟩ := Paired.get2? p (List.getElem?_eq_getElem hi)
  rw [e3]
  exact key_is I 8 e4 rfl e2
theorem Rel.dct {Z : Zx} {m : MH} (R : Rel Z al m H) {n : Nat} {a : Addr} {kvs : List (MV × MV)} (h : al n = some a) (e : dctAt n m = some kvs) : ∃ es, (H a = some (DO Z a es) ∨ ∃ o, H a = some (.frz o (DO Z a es))) ∧ Paired (EntR Z al H) kvs es := by
  unfold dctAt at e
  split at e
  · rename_i lk xs q
    cases e
    obtain ⟨a', h1, h2⟩ := R.has n _ q
    rw [h] at h1; cases h1
    cases h2 with
    | dct h3 h4 => exact ⟨_, .inl h3, h4⟩
    | dctL h3 h4 => exact ⟨_, .inr ⟨_, h3⟩, h4⟩
  · cases e
theorem dict_ok (I : Inv X pins σ H s) {m : MH} (R : Rel (zx X) al m H) {n : Nat} {a : Addr} {kvs : List (MV × MV)} (h : al n = some a) (e : dctAt n m = some kvs) :
    ∃ es, Paired (EntR (zx X) al H) kvs es ∧ (a == sysModules) = false ∧ es.length ≤ sizeLine ∧ s.heap.DictOfH (nestedKind X.prog X.w) a es := by
  obtain ⟨es, h1, h2⟩ := R.dct h e
  rcases h1 with h1 | ⟨o, h1⟩
  · exact ⟨es, h2, dict_of I (I.hok a _ h1) h2⟩
  · obtain ⟨_, h3⟩ := I.hok a _ h1
    exact ⟨es, h2, dict_of I h3 h2⟩
theorem in_dct (I : Inv X pins σ H s) (hu : X.A.units + 64 < cLine) {m : MH} (R : Rel (zx X) al m H) {a : MV} {n : Nat} {x y : V} {v u : Value} {kvs : List (MV × MV)} (ra : RV (zx X) al H a x) (rb : RV (zx X) al H (.ref n) y) (rx : RelV x v) (ry : RelV y u)
    (e : dctAt n m = some kvs) (hT : isT a = true) (hk : keyOk 8 a = true) {Q : VK} :
    (Q (.bl (keyAt kvs a).isSome) H → wpAny (model X.prog X.w) X.A (compareOp .In v u) (EP X pins σ Q) X.xe s) ∧ (Q (.bl (!(keyAt kvs a).isSome)) H → wpAny (model X.prog X.w) X.A (compareOp .NotIn v u) (EP X pins σ Q) X.xe s) := by
  obtain ⟨p, rfl, hp⟩ := rv_ref rb
  cases ry
  obtain ⟨es, h1, h2, h3, h4⟩ := dict_ok I R hp e
  have hx : ∃ q, v = .ref q := by
    cases ra with
    | tup _ _ => cases rx; exact ⟨_, rfl⟩
    | _ => simp [isT] at hT
  obtain ⟨q, rfl⟩ := hx
  have ki := key_is I 8 ra rx hk
  have hat := keyAt_at hk h1
  have hiso : (atKey es (nkL.nk1 a)).isSome = (keyAt kvs a).isSome := by
    cases c1 : keyAt kvs a <;> cases c2 : atKey es (nkL.nk1 a) <;> simp [c1, c2] at hat ⊢
  have room : (nestedKind X.prog X.w).room X.A.in1 := by show X.A.units + 1 + 8 < cLine; omega
  refine ⟨fun z => wpAny_in_heap (knd := nestedKind X.prog X.w) room ki h2 h4 ?_, fun z => ?_⟩
  · rw [hiso]
    exact ⟨.bl _, H, I.tok _, rfl, z⟩
  · show wpAny _ _ (do return Value.bool (!(← contains (.ref p) (.ref q)))) _ _ _
    refine wpAny_bind (wpAny_contains_heap (knd := nestedKind X.prog X.w) room ki h2 h4 (wpAny_pure ?_))
    rw [hiso]
    exact ⟨.bl _, H, I.tok _, rfl, z⟩
end
section
variable {X : Cx}
theorem co_in (hu : X.A.units + 64 < cLine) : OpR X (compareOp .In) (RB (zx X) oIn) := by
  intro pins s σ H x y v u Q I rx ry h
  obtain ⟨al, m, a, b, w, m', R, ra, rb, e, k⟩ := h
  unfold oIn at e
  split at e
  · rename_i c hc
    cases e
    have q := k al H _ Ext.refl R (.bl c)
    by_cases hs : ∃ y, b = .str y
    · obtain ⟨z, rfl⟩ := hs
      simp only [inM] at hc
      split at hc
      · cases hc
        exact op_in_str pins s σ H x y v u Q I rx ry ⟨_, _, rv_str ra, rv_str rb, q⟩
      · cases hc
    · by_cases hd : ∃ n lk kvs, b = .ref n ∧ m[n]? = some (.dct lk kvs)
      · obtain ⟨n, lk, kvs, rfl, hx⟩ := hd
        simp only [inM, hx] at hc
        split at hc
        · rename_i hk
          cases hc
          simp only [Bool.and_eq_true] at hk
          exact (in_dct I hu R ra rb rx ry (by unfold dctAt; rw [hx]) hk.1 hk.2).1 q
        · cases hc
      · exact (in_seq I hu R ra rb rx ry (fun y e => hs ⟨y, e⟩) (fun n kvs lk e1 e2 => hd ⟨n, lk, kvs, e1, e2⟩) hc).1 ⟨.bl _, H, I, rfl, q⟩
  · cases e
theorem co_notin (hu : X.A.units + 64 < cLine) : OpR X (compareOp .NotIn) (RB (zx X) oNotIn) := by
  intro pins s σ H x y v u Q I rx ry h
  obtain ⟨al, m, a, b, w, m', R, ra, rb, e, k⟩ := h
  unfold oNotIn at e
  split at e
  · rename_i c hc
    cases e
    have q := k al H _ Ext.refl R (.bl _)
    by_cases hs : ∃ y, b = .str y
    · obtain ⟨z, rfl⟩ := hs
      simp only [inM] at hc
      split at hc
      · cases hc
        exact op_notin_str pins s σ H x y v u Q I rx ry ⟨_, _, rv_str ra, rv_str rb, q⟩
      · cases hc
    · by_cases hd : ∃ n lk kvs, b = .ref n ∧ m[n]? = some (.dct lk kvs)
      · obtain ⟨n, lk, kvs, rfl, hx⟩ := hd
        simp only [inM, hx] at hc
        split at hc
        · rename_i hk
          cases hc
          simp only [Bool.and_eq_true] at hk
          exact (in_dct I hu R ra rb rx ry (by unfold dctAt; rw [hx]) hk.1 hk.2).2 q
        · cases hc
      · exact (in_seq I hu R ra rb rx ry (fun y e => hs ⟨y, e⟩) (fun n kvs lk e1 e2 => hd ⟨n, lk, kvs, e1, e2⟩) hc).2 ⟨.bl _, H, I, rfl, q⟩
  · cases e
/-! ### subscripts -/
theorem atI_rl {Z : Zx} {al : Al} {H : Hp} {ys : List MV} {xs : List V} {i : Int} {v : MV} (r : RL Z al H ys xs) (e : atI ys i = some v) : ∃ x, atI xs i = some x ∧ RV Z al H v x := by
  unfold atI at e ⊢
  rw [Paired.len r] at e
  cases c : ixN xs.length i with
  | none => rw [c] at e; cases e
  | some j =>
    rw [c] at e
    exact Paired.get? r e
theorem seq_of {Z : Zx} {al : Al} {m : MH} {H : Hp} (R : Rel Z al m H) {a : MV} {x : V} {ys : List MV} (ra : RV Z al H a x) (e : seqAt a m = some ys) : ∃ p xs, x = .ref p ∧ (SqL Z.K H p xs ∨ SqT Z.K H p xs) ∧ RL Z al H ys xs := by
  unfold seqAt at e
  split at e
  · obtain ⟨p, rfl, hp⟩ := rv_ref ra
    obtain ⟨xs, h1, h2⟩ := R.lst hp e
    exact ⟨p, xs, rfl, .inl (.of h1), h2⟩
  · cases ra with
    | frz h q =>
      obtain ⟨l, e', r⟩ := q.toL
      rw [e] at e'; cases e'
      exact ⟨_, _, rfl, .inl h.sq, r⟩
    | tup _ q => nomatch q
  · obtain ⟨p, xs, h1, h2, h3⟩ := ra.tup_inv e
    exact ⟨p, xs, h1, .inr h2.sq, h3⟩
theorem co_ix (hu : X.A.units + 64 < cLine) : IxR X (RB (zx X) oIx) := by
  intro value slice pins s σ H x y v u Q I rx ry h hs
  obtain ⟨al, m, a, b, w, m', R, ra, rb, e, k⟩ := h
  unfold oIx at e
  split at e
  · split at e
    · rename_i ys e1
      split at e
      · rename_i z e2
        cases e
        obtain ⟨p, xs, rfl, h1, h2⟩ := seq_of R ra e1
        obtain ⟨x', h3, h4⟩ := atI_rl h2 e2
        have q := k al H x' Ext.refl R h4
        rcases h1 with h1 | h1
        · exact ix_list value slice pins s σ H _ y v u Q I rx ry ⟨p, xs, _, _, rfl, rv_int rb, h1, h3, q⟩ hs
        · exact ix_tup value slice pins s σ H _ y v u Q I rx ry ⟨p, xs, _, _, rfl, rv_int rb, h1, h3, q⟩ hs
      · cases e
    · cases e
  · rename_i kk hni
    split at e
    · split at e
      · rename_i n kvs e1
        split at e
        · rename_i hTk
          split at e
          · rename_i z e2
            cases e
            simp only [Bool.and_eq_true] at hTk
            obtain ⟨p, rfl, hp⟩ := rv_ref ra
            cases rx
            obtain ⟨es, h1, h2, h3, h4⟩ := dict_ok I R hp e1
            have hx : ∃ q, u = .ref q := by
              cases rb with
              | tup _ _ => cases ry; exact ⟨_, rfl⟩
              | _ => simp [isT] at hTk
            obtain ⟨q, rfl⟩ := hx
            have ki := key_is I 8 rb ry hTk.2
            have hat := keyAt_at hTk.2 h1
            rw [e2] at hat
            have room : (nestedKind X.prog X.w).room X.A.in1 := by show X.A.units + 1 + 8 < cLine; omega
            cases c2 : atKey es (nkL.nk1 b) with
            | none => rw [c2] at hat; exact hat.elim
            | some pr =>
              rw [c2] at hat
              obtain ⟨x', g1, g2⟩ := hat
              exact tail_any h4.typeIs slot_dict_getitem.lookup (wpAny_getItem_heap (knd := nestedKind X.prog X.w) room ki h4 c2 ⟨x', H, I.tok _, g1, k al H x' Ext.refl R g2⟩) hs
          · cases e
        · cases e
      · cases e
    · cases e
end
end Co

namespace Co
open PySem PySem.Spec PyProof.Rows L2
section
variable {X : Cx}
/-! ### stores -/
def R3 (Z : Zx) (f : B3) : TSet := fun o i v H Q => ∃ al m a b c m', Rel Z al m H ∧ RV Z al H a o ∧ RV Z al H b i ∧ RV Z al H c v ∧ f a b c m = .ok () m' ∧ ∀ al' H', Ext al H al' H' → Rel Z al' m' H' → Q H'
theorem storedH_len (es : List DE) (k : NestedKey) (a : Addr) (u : Value) : (storedH es k a u).length ≤ es.length + 1 := by
  unfold storedH
  split
  · rw [List.length_map]; omega
  · rw [List.length_append, List.length_singleton]; omega
theorem dx_ok {P : Program} {w : World} {H : Hp} {h : Heap} {a : Addr} {es : List DE} (hs : (a == sysModules) = false) (hl : es.length ≤ sizeLine) (hd : h.DictOfH (nestedKind P w) a es) : ObjOk P w H h a (.ext (DX P w a es)) := by
  obtain ⟨o, ents, ep, h3, h4, h5, h6, h7, h8⟩ := hd
  refine ⟨⟨hs, hl, o, ents, ep, h3, h4, h5, h6, h8⟩, ⟨o, h3⟩, fun h1 h2 ⟨z1, z2, o', e', p', z3, z4⟩ k => ⟨z1, z2, o', e', p', k o' z3, z4⟩⟩
theorem co_set (hu : X.A.units + 64 < cLine) : PSet X (R3 (zx X) oSet) := by
  intro pins s σ H o i v ov iv u Q I ro ri rv h
  obtain ⟨al, m, a, b, c, m', R, ra, rb, rc, e, k⟩ := h
  unfold oSet at e
  split at e
  · rename_i n
    obtain ⟨p, rfl, hp⟩ := rv_ref ra
    split at e
    · rename_i ys hy
      obtain ⟨xs, h1, h2⟩ := R.lst hp (by unfold lstAt; rw [hy])
      split at e
      · split at e
        · rename_i j hj
          cases e
          refine set_list pins s σ H _ i v ov iv u Q I ro ri rv ⟨p, xs, _, j, rfl, rv_int rb, h1, by rw [← Paired.len h2]; exact hj, ?_⟩
          exact k al _ (Ext.wr R hp h1 trivial) (Rel.wr R hp h1 trivial (.lst upd_same (RL.mono (Ext.wr R hp h1 trivial) (Paired.set rc j h2))))
        · cases e
      · cases e
    · rename_i kvs hy
      split at e
      · rename_i hk
        cases e
        simp only [Bool.and_eq_true] at hk
        cases ro
        obtain ⟨a', h1, h2⟩ := R.has n _ hy
        rw [hp] at h1; cases h1
        cases h2 with
        | @dct _ es _ h3 h4 =>
          obtain ⟨g1, g2, g3⟩ := dict_of I (I.hok p _ h3) h4
          have hx : ∃ q, iv = .ref q := by
            cases rb with
            | tup _ _ => cases ri; exact ⟨_, rfl⟩
            | _ => simp [isT] at hk
          obtain ⟨q, rfl⟩ := hx
          have ki := key_is I 8 rb ri hk.1.2
          have room : (nestedKind X.prog X.w).room X.A.in1 := by show X.A.units + 1 + 8 < cLine; omega
          have nd : _ := g3.nodup
          have hi : i = .ref q := by
            cases rb with
            | tup _ _ => cases ri; rfl
            | _ => simp [isT] at hk
          subst hi
          have hlen : (storedH es (nkL.nk1 b) q u).length ≤ sizeLine := by
            have z1 := storedH_len es (nkL.nk1 b) q u
            have z2 := Paired.len h4
            have z3 : kvs.length ≤ 1000000 := of_decide_eq_true hk.2
            rw [sizeLine_eq]
            exact Nat.le_trans z1 (by omega)
          refine wpAny_setItem_heap (knd := nestedKind X.prog X.w) (hsz := g2) room ki g3 fun h' hm hs => ?_
          have new : ObjOk X.prog X.w (upd H p (DO (zx X) p (storedH es (nkL.nk1 b) q u))) h' p (DO (zx X) p (storedH es (nkL.nk1 b) q u)) := dx_ok g1 hlen hm
          obtain ⟨ob, _, _, hob, _⟩ := id hm
          refine ⟨_, I.write (x := p) (e := p) (by rw [h3]; trivial) (.inl rfl) (fun b u hb q => (hs.2 b hb).trans q) ⟨ob, hob⟩ new, ?_⟩
          exact k al _ (Ext.wr R hp h3 trivial) (Rel.wr R hp h3 trivial (.dct upd_same (Paired.imp (fun _ _ q => EntR.mono (Ext.wr R hp h3 trivial) q) (put_stored hk.1.2 hk.1.1 rc rv rb h4 nd))))
      · cases e
    · cases e
  · cases e
theorem ce_dict0 {pos : Pos} : PE X (.Dict [] [] pos) (RE (zx X) cDict0) := by
  refine ⟨fun pins s σ H Q I h => ?_⟩
  obtain ⟨al, m, r, v, m', R, S, e, k⟩ := h
  cases e
  have hf := I.hok.fresh (Nat.le_refl s.heap.objs.size)
  have hn : (s.heap.objs.size == sysModules) = false := by
    have := dk_empty (P := X.prog) (w := X.w) (H := H) s.heap I.big
    exact this.2.1
  have hd : (s.heap.push { cls := .type "dict", data := .dict #[] }).DictOfH (nestedKind X.prog X.w) s.heap.objs.size [] := Heap.DictOfH.new s.heap
  refine wpAny_Dict_empty ⟨.ref s.heap.objs.size, _, I.laid (a := s.heap.objs.size) (o := DO (zx X) s.heap.objs.size []) (t' := s.toks) (fun _ _ q => Heap.get?_push_of_some _ q) (Nat.le_refl _) (dx_ok hn (by decide) hd), rfl, ?_⟩
  exact k _ _ _ (Ext.add R hf) (Rel.add R hf (.dct upd_same .nil)) (.ref (by unfold alAdd; rw [if_pos rfl]))
/-! ### slices -/
def RSl3 (Z : Zx) (f : MV → Option Int → Option Int → MH → Res MV) : V → Option Int → Option Int → Hp → VK → Prop := fun x lo hi H Q => ∃ al m a v m', Rel Z al m H ∧ RV Z al H a x ∧ f a lo hi m = .ok v m' ∧ KV1 Z al H v m' Q
theorem cut_rl {Z : Zx} {al : Al} {H : Hp} {ys : List MV} {xs : List V} (r : RL Z al H ys xs) (lo hi : Option Int) : RL Z al H (cutM ys lo hi) (cutV xs lo hi) := by
  unfold cutM cutV
  rw [Paired.len r]
  exact Paired.take _ (Paired.drop _ r)
theorem cut_whole {xs : List V} {lo hi : Option Int} (h : HT.sIx xs.length 0 lo = 0 ∧ HT.sIx xs.length xs.length hi = xs.length) : cutV xs lo hi = xs := by
  unfold cutV
  rw [h.1, h.2, List.drop_zero, Nat.sub_zero, List.take_length]
theorem co_sl : SlR X (RSl3 (zx X) slM) := by
  intro pins s σ H x v vl vu lo hi sl Q I rx hs pl pu h
  obtain ⟨al, m, a, w, m', R, ra, e, k⟩ := h
  unfold slM at e
  split at e
  · split at e
    · rename_i n xs e1
      obtain ⟨p, rfl, hp⟩ := rv_ref ra
      obtain ⟨vs, h1, h2⟩ := R.lst hp e1
      exact sl_list pins s σ H _ v vl vu lo hi sl Q I rx hs pl pu ⟨p, vs, rfl, .of h1, (newL_ok R (cut_rl h2 lo hi) e k).2⟩
    · cases e
  · split at e
    · rename_i t xs e1
      cases ra with
      | frz h q =>
        obtain ⟨l, e', r⟩ := q.toL
        rw [e1] at e'; cases e'
        exact sl_list pins s σ H _ v vl vu lo hi sl Q I rx hs pl pu ⟨_, _, rfl, h.sq, (newL_ok R (cut_rl r lo hi) e k).2⟩
      | tup _ q => nomatch q
    · cases e
  · split at e
    · rename_i e1
      cases e
      obtain ⟨p, xs, rfl, h2, h3⟩ := ra.tup_inv e1
      cases rx
      obtain ⟨its, r, ht, hz⟩ := I.tuple h2.sq
      have hlen : its.toArray.size = xs.length := by rw [List.size_toArray]; exact r.length.symm
      refine ⟨"tuple", _, PyProof.Rows.slot_tuple_getitem.lookup, ht.typeIs, ?_⟩
      by_cases hw : HT.sIx xs.length 0 lo = 0 ∧ HT.sIx xs.length xs.length hi = xs.length
      · refine getItem_tuple_whole ht hs pl pu (by rw [hlen]; exact hw) ⟨.ref p, H, I, rfl, k al H _ Ext.refl R (.tup h2 (RVs.ofL ?_))⟩
        have := cut_rl h3 lo hi
        rw [cut_whole hw] at this
        exact this
      · refine HT.getItem_tuple_cut ht hs pl pu (by rw [hlen]; exact hw) ?_ (by rw [hlen]; exact hz)
        rw [hlen]
        exact lay_tup (s := s) (h' := s.heap) I ((r.drop (HT.sIx xs.length 0 lo)).take (HT.sIx xs.length xs.length hi - HT.sIx xs.length 0 lo)) (Nat.le_trans (cutV_length xs lo hi) hz) (tup_q R (cut_rl h3 lo hi) k)
    · cases e
def RO (Z : Zx) (c : Option CE) : TO := fun σ H Q => ∃ al m r v m', Rel Z al m H ∧ RSl Z al H r σ ∧ partOf c r m = .ok v m' ∧ ∀ al' H', Ext al H al' H' → Rel Z al' m' H' → Q v H'
structure PO' (X : Cx) (e : Option Expr) (c : Option CE) : Prop where
  po : PO X e (RO (zx X) c)
theorem co_none : PO' X none none := ⟨⟨fun pins s σ H Q I h => by
  obtain ⟨al, m, r, v, m', R, S, e, k⟩ := h
  cases e
  exact po_none.run pins s σ H Q I (k al H Ext.refl R)⟩⟩
theorem co_some {e : Expr} {c : CE} (h : PE X e (RE (zx X) c)) : PO' X (some e) (some c) := ⟨⟨fun pins s σ H Q I hq => by
  obtain ⟨al, m, r, v, m', R, S, e, k⟩ := hq
  obtain ⟨x, m1, e1, e⟩ := Res.bind_eq_ok.mp e
  refine (po_some h).run pins s σ H Q I ⟨al, m, r, x, m1, R, S, e1, fun al1 H1 y E1 R1 ry => ?_⟩
  split at e
  · cases e
    exact ⟨_, rv_int ry, k al1 H1 E1 R1⟩
  · cases e⟩⟩
theorem ce_slice {e : Expr} {lo hi : Option Expr} {c : CE} {cl ch : Option CE} {p2 pos : Pos} (he : PE X e (RE (zx X) c)) (hl : PO' X lo cl) (hu : PO' X hi ch) : PE X (.Subscript e (.Slice lo hi none p2) pos) (RE (zx X) (cSlice c cl ch)) := by
  refine PE.imp (pe_slice co_sl he hl.po hu.po) fun σ H Q h => ?_
  obtain ⟨al, m, r, v, m', R, S, e, k⟩ := h
  obtain ⟨x, m1, e1, e⟩ := Res.bind_eq_ok.mp e
  obtain ⟨l, m2, e2, e⟩ := Res.bind_eq_ok.mp e
  obtain ⟨u, m3, e3, e⟩ := Res.bind_eq_ok.mp e
  exact ⟨al, m, r, x, m1, R, S, e1, fun al1 H1 y E1 R1 ry => ⟨al1, m1, r, l, m2, R1, S.mono E1, e2, fun al2 H2 E2 R2 => ⟨al2, m2, r, u, m3, R2, S.mono (E1.trans E2), e3, fun al3 H3 E3 R3 => ⟨al3, m3, x, v, m', R3, ry.mono (E2.trans E3), e, fun al4 H4 z E4 R4 rz => k al4 H4 z (E1.trans (E2.trans (E3.trans E4))) R4 rz⟩⟩⟩⟩
theorem ce_ix {a b : Expr} {ca cb : CE} {pos : Pos} (hu : X.A.units + 64 < cLine) (ha : PE X a (RE (zx X) ca)) (hb : PE X b (RE (zx X) cb)) (hs : PlainIx b) : PE X (.Subscript a b pos) (RE (zx X) (cBin oIx ca cb)) :=
  PE.imp (pe_ix (co_ix hu) ha hb hs) fun _ _ _ h => ext_op h
/-! ### built-ins -/
theorem asInts_rl {Z : Zx} {al : Al} {H : Hp} : ∀ {ys : List MV} {xs : List V} {ns : List Int}, RL Z al H ys xs → asInts ys = some ns → xs = ns.map V.int
  | _, _, _, .nil, e => by cases e; rfl
  | .int i :: r, _, ns, .cons h t, e => by
    simp only [asInts, Option.map_eq_some_iff] at e
    obtain ⟨l, e1, rfl⟩ := e
    rw [List.map_cons, ← asInts_rl t e1, rv_int h]
  | .non :: r, _, _, _, e => by cases e
  | .bl _ :: r, _, _, _, e => by cases e
  | .str _ :: r, _, _, _, e => by cases e
  | .ref _ :: r, _, _, _, e => by cases e
  | .nil :: r, _, _, _, e => by cases e
  | .cons _ _ :: r, _, _, _, e => by cases e
  | .frz _ :: r, _, _, _, e => by cases e
theorem asBools_rl {Z : Zx} {al : Al} {H : Hp} : ∀ {ys : List MV} {xs : List V} {ns : List Bool}, RL Z al H ys xs → asBools ys = some ns → xs = ns.map V.bl
  | _, _, _, .nil, e => by cases e; rfl
  | .bl i :: r, _, ns, .cons h t, e => by
    simp only [asBools, Option.map_eq_some_iff] at e
    obtain ⟨l, e1, rfl⟩ := e
    rw [List.map_cons, ← asBools_rl t e1, rv_bl h]
  | .non :: r, _, _, _, e => by cases e
  | .int _ :: r, _, _, _, e => by cases e
  | .str _ :: r, _, _, _, e => by cases e
  | .ref _ :: r, _, _, _, e => by cases e
  | .nil :: r, _, _, _, e => by cases e
  | .cons _ _ :: r, _, _, _, e => by cases e
  | .frz _ :: r, _, _, _, e => by cases e
theorem rl1 {Z : Zx} {al : Al} {H : Hp} {a : MV} {xs : List V} (h : RL Z al H [a] xs) : ∃ x, xs = [x] ∧ RV Z al H a x := by
  cases h with | cons h t => cases t; exact ⟨_, rfl, h⟩
theorem rl2 {Z : Zx} {al : Al} {H : Hp} {a b : MV} {xs : List V} (h : RL Z al H [a, b] xs) : ∃ x y, xs = [x, y] ∧ RV Z al H a x ∧ RV Z al H b y := by
  cases h with | cons h t => cases t with | cons h2 t => cases t; exact ⟨_, _, rfl, h, h2⟩
theorem cb_min (hc : X.calm = true) : CallR X (.builtin "min") (RC (zx X) bMin) := by
  intro pins s σ H xs us Q I r h
  obtain ⟨al, m, as, v, m', R, ra, e, k⟩ := h
  unfold bMin at e
  split at e
  · cases e
    obtain ⟨x, y, rfl, h1, h2⟩ := rl2 ra
    exact call_min2 hc pins s σ H _ us Q I r ⟨_, _, by rw [rv_int h1, rv_int h2], k al H _ Ext.refl R (.int _)⟩
  · cases e
theorem cb_max (hc : X.calm = true) : CallR X (.builtin "max") (RC (zx X) bMax) := by
  intro pins s σ H xs us Q I r h
  obtain ⟨al, m, as, v, m', R, ra, e, k⟩ := h
  unfold bMax at e
  split at e
  · cases e
    obtain ⟨x, y, rfl, h1, h2⟩ := rl2 ra
    exact call_max2 hc pins s σ H _ us Q I r ⟨_, _, by rw [rv_int h1, rv_int h2], k al H _ Ext.refl R (.int _)⟩
  · cases e
theorem cb_abs : CallR X (.builtin "abs") (RC (zx X) bAbs) := by
  intro pins s σ H xs us Q I r h
  obtain ⟨al, m, as, v, m', R, ra, e, k⟩ := h
  unfold bAbs at e
  split at e
  · cases e
    obtain ⟨x, rfl, h1⟩ := rl1 ra
    exact call_abs pins s σ H _ us Q I r ⟨_, by rw [rv_int h1], k al H _ Ext.refl R (.int _)⟩
  · cases e
theorem cb_tuple : CallR X (.type "tuple") (RC (zx X) bTuple) := by
  intro pins s σ H xs us Q I r h
  obtain ⟨al, m, as, v, m', R, ra, e, k⟩ := h
  unfold bTuple at e
  split at e
  · split at e
    · rename_i n ys e1
      cases e
      obtain ⟨x, rfl, h1⟩ := rl1 ra
      obtain ⟨p, rfl, hp⟩ := rv_ref h1
      obtain ⟨vs, g1, g2⟩ := R.lst hp e1
      obtain ⟨u, rfl, rx⟩ := vals1 r
      cases rx
      obtain ⟨its, r', pl, hz⟩ := I.list (.of g1)
      have hlen := r'.length
      refine call_tuple_list pl.isList (fun h' kp => ?_) (by simp only [List.size_toArray] <;> omega)
      have I1 : Inv X pins σ H { s with heap := h' } := I.kept (t' := s.toks) kp
      exact lay_tup (s := s) (h' := h') I1 r' hz (tup_q R g2 k)
    · cases e
  · cases e
theorem cb_list (hc : X.calm = true) : CallR X (.type "list") (RC (zx X) bList) := by
  intro pins s σ H xs us Q I r h
  obtain ⟨al, m, as, v, m', R, ra, e, k⟩ := h
  unfold bList at e
  split at e
  · obtain ⟨x, rfl, h1⟩ := rl1 ra
    split at e
    · rename_i ys e1
      obtain ⟨p, vs, rfl, h2, h3⟩ := seq_of R h1 e1
      exact call_list_of pins s σ H _ us Q I r ⟨p, vs, rfl, h2, (newL_ok R h3 e k).2⟩
    · cases e
  · cases e
theorem cb_all (hc : X.calm = true) : CallR X (.builtin "all") (RC (zx X) bAll) := by
  intro pins s σ H xs us Q I r h
  obtain ⟨al, m, as, v, m', R, ra, e, k⟩ := h
  unfold bAll at e
  split at e
  · split at e
    · rename_i n ys e1
      split at e
      · rename_i bs e2
        cases e
        obtain ⟨x, rfl, h1⟩ := rl1 ra
        obtain ⟨p, rfl, hp⟩ := rv_ref h1
        obtain ⟨vs, g1, g2⟩ := R.lst hp e1
        rw [asBools_rl g2 e2] at g1
        exact cr_all hc pins s σ H _ us Q I r ⟨p, bs, rfl, .of g1, k al H _ Ext.refl R (.bl _)⟩
      · cases e
    · cases e
  · cases e
theorem cb_any (hc : X.calm = true) : CallR X (.builtin "any") (RC (zx X) bAny) := by
  intro pins s σ H xs us Q I r h
  obtain ⟨al, m, as, v, m', R, ra, e, k⟩ := h
  unfold bAny at e
  split at e
  · split at e
    · rename_i n ys e1
      split at e
      · rename_i bs e2
        cases e
        obtain ⟨x, rfl, h1⟩ := rl1 ra
        obtain ⟨p, rfl, hp⟩ := rv_ref h1
        obtain ⟨vs, g1, g2⟩ := R.lst hp e1
        rw [asBools_rl g2 e2] at g1
        exact cr_any hc pins s σ H _ us Q I r ⟨p, bs, rfl, .of g1, k al H _ Ext.refl R (.bl _)⟩
      · cases e
    · cases e
  · cases e
theorem cb_sum (hc : X.calm = true) : CallR X (.builtin "sum") (RC (zx X) bSum) := by
  intro pins s σ H xs us Q I r h
  obtain ⟨al, m, as, v, m', R, ra, e, k⟩ := h
  unfold bSum at e
  split at e
  · split at e
    · rename_i n ns e1
      cases e
      obtain ⟨ys, e2, e3⟩ := Option.bind_eq_some_iff.mp e1
      obtain ⟨x, rfl, h1⟩ := rl1 ra
      obtain ⟨p, rfl, hp⟩ := rv_ref h1
      obtain ⟨vs, g1, g2⟩ := R.lst hp e2
      rw [asInts_rl g2 e3] at g1
      exact cr_sum hc pins s σ H _ us Q I r ⟨p, ns, rfl, .of g1, k al H _ Ext.refl R (.int _)⟩
    · cases e
  · cases e
theorem cb_len : CallR X (.builtin "len") (RC (zx X) bLen) := by
  intro pins s σ H xs us Q I r h
  obtain ⟨al, m, as, v, m', R, ra, e, k⟩ := h
  unfold bLen at e
  split at e
  · split at e
    · rename_i hz
      cases e
      obtain ⟨x, rfl, h1⟩ := rl1 ra
      exact call_len_str pins s σ H _ us Q I r ⟨_, by rw [rv_str h1], szOk_line hz, k al H _ Ext.refl R (.int _)⟩
    · cases e
  · obtain ⟨x, rfl, h1⟩ := rl1 ra
    split at e
    · rename_i ys e1
      cases e
      obtain ⟨p, vs, rfl, h2, h3⟩ := seq_of R h1 e1
      exact call_len_seq pins s σ H _ us Q I r ⟨p, vs, rfl, h2, by rw [← Paired.len h3]; exact k al H _ Ext.refl R (.int _)⟩
    · split at e
      · split at e
        · rename_i n kvs e1
          cases e
          obtain ⟨p, rfl, hp⟩ := rv_ref h1
          obtain ⟨u, rfl, rx⟩ := vals1 r
          cases rx
          obtain ⟨es, g1, g2, g3, g4⟩ := dict_ok I R hp e1
          have hl := Paired.len g1
          have hk : s.heap.DictKeyed (nestedKind X.prog X.w) p (pairsH es) := ⟨es, g4, rfl⟩
          refine PyProof.Rows.call_len_slot (n := (pairsH es).length) hk.typeIs F.slot_dict_len (fun Q' hq => len_keyed g2 hk hq) (by omega) (by rw [pairsH_length]; rw [sizeLine_eq] at g3; omega) ?_
          rw [pairsH_length, ← hl]
          exact ⟨.int _, H, I.tok _, ⟨_, rfl⟩, k al H _ Ext.refl R (.int _)⟩
        · cases e
      · cases e
  · cases e
end
end Co

namespace Co
open PySem PySem.Spec PyProof.Rows L2
section
variable {X : Cx}
theorem ext_call {σ : L2.St} {H : Hp} {Q : VK} {f : BL} {cs : CA} (h : RE (zx X) (cCall f cs) σ H Q) : RA (zx X) cs σ H fun vs H1 => RC (zx X) f vs H1 Q := by
  obtain ⟨al, m, r, v, m', R, S, e, k⟩ := h
  obtain ⟨xs, m1, e1, e⟩ := Res.bind_eq_ok.mp e
  exact ⟨al, m, r, xs, m1, R, S, e1, fun al1 H1 ys E1 R1 rs => ⟨al1, m1, xs, v, m', R1, rs, e, fun al2 H2 z E2 R2 rz => k al2 H2 z (E1.trans E2) R2 rz⟩⟩
variable {x : Str} {p pos : Pos} {e : Expr} {es : List Expr} {cs : CA} {id T : String} {f : BL}
theorem ce_callB (hc : CallR X (.builtin id) (RC (zx X) f)) (hg : Gl X x) (hm : X.mg x = none) (hv : bootBuiltins x = some (.builtin id)) (ha : PA X (e :: es) (RA (zx X) cs)) (hn : x ≠ "__name__" := by decide) (hdb : (x == ("__debug__" : Str)) = false := by decide)
    (he : starEach (e :: es) X.env = (false, eval e X.env) :: starEach es X.env := by rfl) (hpl : (backTo pos (starEach es X.env)).any (·.1) = false := by rfl) : PE X (.Call (.Name x p) (e :: es) [] pos) (RE (zx X) (cCall f cs)) :=
  PE.imp (pe_callB hc hg hm hv ha hn hdb he hpl) fun _ _ _ h => ext_call h
theorem ce_callTy (hc : CallR X (.type T) (RC (zx X) f)) (hg : Gl X x) (hm : X.mg x = none) (hv : bootBuiltins x = some (.type T)) (ha : PA X (e :: es) (RA (zx X) cs)) (hn : x ≠ "__name__" := by decide) (hdb : (x == ("__debug__" : Str)) = false := by decide)
    (he : starEach (e :: es) X.env = (false, eval e X.env) :: starEach es X.env := by rfl) (hpl : (backTo pos (starEach es X.env)).any (·.1) = false := by rfl) : PE X (.Call (.Name x p) (e :: es) [] pos) (RE (zx X) (cCall f cs)) :=
  PE.imp (pe_callTy hc hg hm hv ha hn hdb he hpl) fun _ _ _ h => ext_call h
/-! ### isinstance(e, T) -/
def isNames : List String := ["int", "bool", "str", "list", "tuple"]
theorem isSub_kit : ∀ t ∈ ["NoneType", "bool", "int", "str", "tuple", "list"], ∀ b ∈ isNames, kitB t b = some (isSub t b) := by decide +kernel
theorem tyN_ty {Z : Zx} {al : Al} {m : MH} {H : Hp} (R : Rel Z al m H) {a : MV} {x : V} {t : String} (ra : RV Z al H a x) (e : tyN a m = some t) : TyX Z.K H x (.type t) ∧ t ∈ ["NoneType", "bool", "int", "str", "tuple", "list"] := by
  cases a with
  | non => cases e; rw [rv_non ra]; exact ⟨.base .non, by simp⟩
  | bl b => cases e; rw [rv_bl ra]; exact ⟨.base (.bl _), by simp⟩
  | int b => cases e; rw [rv_int ra]; exact ⟨.base (.int _), by simp⟩
  | str b => cases e; rw [rv_str ra]; exact ⟨.base (.str _), by simp⟩
  | nil =>
    cases e
    cases ra with
    | tup h q =>
      rcases h with ⟨o, h, _⟩ | ⟨o, its, n, h1, h2, _⟩
      · exact ⟨.fTuple h, by simp⟩
      · exact ⟨.kTuple h1 h2, by simp⟩
  | cons =>
    cases e
    cases ra with
    | tup h q =>
      rcases h with ⟨o, h, _⟩ | ⟨o, its, n, h1, h2, _⟩
      · exact ⟨.fTuple h, by simp⟩
      · exact ⟨.kTuple h1 h2, by simp⟩
  | frz =>
    cases e
    cases ra with
    | frz h q =>
      rcases h with ⟨o, h⟩ | ⟨o, its, n, h1, h2, _⟩
      · exact ⟨.base (.frz h), by simp⟩
      · exact ⟨.kList h1 h2, by simp⟩
    | tup _ q => nomatch q
  | ref n =>
    simp only [tyN] at e
    split at e
    · rename_i xs hx
      cases e
      obtain ⟨a, rfl, ha⟩ := rv_ref ra
      obtain ⟨vs, h1, h2⟩ := R.lst ha (by unfold lstAt; rw [hx])
      exact ⟨.base (.lst h1), by simp⟩
    · cases e
theorem ce_isi {c : CE} {px pT : Pos} (hT : T ∈ isNames) (h : PE X e (RE (zx X) c)) (hg : Gl X "isinstance") (hm : X.mg "isinstance" = none) (hgT : Gl X x) (hmT : X.mg x = none) (hv : bootBuiltins x = some (.type T)) (hn : x ≠ "__name__" := by decide) (hdb : (x == ("__debug__" : Str)) = false := by decide)
    (hv0 : bootBuiltins "isinstance" = some (.builtin "isinstance") := by decide +kernel)
    (hs : starEach [e, .Name x pT] X.env = (false, eval e X.env) :: starEach [.Name x pT] X.env := by rfl) (hpl : (backTo pos (starEach [.Name x pT] X.env)).any (·.1) = false := by rfl) (hs2 : starEach [.Name x pT] X.env = (false, eval (.Name x pT) X.env) :: starEach [] X.env := by rfl) :
    PE X (.Call (.Name "isinstance" px) [e, .Name x pT] [] pos) (RE (zx X) (cUn (oIsi T) c)) := by
  refine PE.imp (pe_callB (call_isi (X := X)) hg hm hv0 (pa_cons h (pa_cons (pe_bltn (v := .ty T) hgT hmT hv rfl hn hdb) pa_nil hs2) hs) (by decide) (by decide) hs hpl) fun σ H Q h => ?_
  obtain ⟨al, m, r, v, m', R, S, e, k⟩ := h
  obtain ⟨y, m1, e1, e⟩ := Res.bind_eq_ok.mp e
  refine ⟨al, m, r, y, m1, R, S, e1, fun al1 H1 z E1 R1 rz => ?_⟩
  unfold oIsi at e
  split at e
  · rename_i t ht
    cases e
    obtain ⟨h1, h2⟩ := tyN_ty R1 rz ht
    exact ⟨z, .ty T, .type t, .type T, isSub t T, rfl, .ty T, h1, kit_ty (isSub_kit t h2 T hT), k al1 H1 _ E1 R1 (.bl _)⟩
  · cases e
/-! ### methods of built-in types -/
def RM (Z : Zx) (f : BM) : V → List V → Hp → VK → Prop := fun x xs H Q => ∃ al m a as v m', Rel Z al m H ∧ RV Z al H a x ∧ RL Z al H as xs ∧ f a as m = .ok v m' ∧ KV1 Z al H v m' Q
theorem kind_is {pins : List (Addr × Obj)} {s : Shared} {σ : L2.St} {al : Al} {m : MH} {H : Hp} (I : Inv X pins σ H s) (R : Rel (zx X) al m H) {a : MV} {x : V} {v : Value} (ra : RV (zx X) al H a x) (rx : RelV x v) (e : kindM a m = some T) :
    s.TypeIs v T ∧ ∀ b, v = .ref b → ∃ ob, s.heap.get? b = some ob ∧ ob.dict = none := by
  have tupc : ∀ {q : Addr} {xs : List V}, TD X.K H q xs → v = .ref q → s.TypeIs v "tuple" ∧ ∀ b, v = .ref b → ∃ ob, s.heap.get? b = some ob ∧ ob.dict = none := by
    intro q xs h hv
    subst hv
    obtain ⟨its, rv, ht, _⟩ := I.tuple h.sq
    refine ⟨ht.typeIs, fun b eb => ?_⟩
    cases eb
    rcases h with ⟨o, h, d⟩ | ⟨o, its', n, h1, h2, h3, _⟩
    · obtain ⟨h4, _⟩ := I.hok q _ h
      exact ⟨o, h4, d⟩
    · exact ⟨o, I.kIn _ _ h1, h3⟩
  have lstc : ∀ {q : Addr} {xs : List V}, SqL X.K H q xs → v = .ref q → s.TypeIs v "list" ∧ ∀ b, v = .ref b → ∃ ob, s.heap.get? b = some ob ∧ ob.dict = none := by
    intro q xs h hv
    subst hv
    obtain ⟨its, _, pl, _⟩ := I.list h
    refine ⟨pl.isList.typeIs, fun b eb => ?_⟩
    cases eb
    obtain ⟨o, n, e, c, hd, _⟩ := pl
    exact ⟨o, e, hd⟩
  cases a with
  | str z =>
    cases e
    rw [rv_str ra] at rx
    obtain ⟨t, rfl⟩ := rx
    exact ⟨typeIs_str s z t, fun _ e => nomatch e⟩
  | nil =>
    cases e
    cases ra with
    | tup h q => exact tupc h rx
  | cons =>
    cases e
    cases ra with
    | tup h q => exact tupc h rx
  | frz =>
    cases e
    cases ra with
    | frz h q => exact lstc h.sq rx
    | tup _ q => nomatch q
  | ref n =>
    simp only [kindM] at e
    obtain ⟨q, rfl, hq⟩ := rv_ref ra
    split at e
    · rename_i xs hx
      cases e
      obtain ⟨vs, h1, h2⟩ := R.lst hq (by unfold lstAt; rw [hx])
      exact lstc (.of h1) rx
    · rename_i lk kvs hx
      cases e
      cases rx
      obtain ⟨es, g1, g2, g3, g4⟩ := dict_ok I R hq (by unfold dctAt; rw [hx])
      refine ⟨g4.typeIs, fun b eb => ?_⟩
      cases eb
      obtain ⟨o, _, _, e1, e2, _⟩ := g4
      exact ⟨o, e1, e2.2.1⟩
    · cases e
  | _ => cases e
theorem ce_bm {o : Expr} {co : CE} {name : Str} {apos cpos : Pos} {f : BM} (pa : PlainAttrs T) (slot : Slot T name id) (hty : typeOf (.builtin id) = pure (.type "method_descriptor")) (hm : MtR X id (RM (zx X) f)) (ho : PE X o (RE (zx X) co)) (ha : PA X (e :: es) (RA (zx X) cs))
    (hbase : attributeBase o name X.env (eval o X.env) = eval o X.env := by rfl)
    (hfew : ((backTo cpos (starEach (e :: es) X.env)).all (fun x => !x.1) && (backToKw cpos (keywordEach [] X.env)).all (fun x => x.1.isSome)
      && decide ((e :: es).length + ([] : List Keyword).length + (if ([] : List Keyword).isEmpty then 0 else 1) < 30)) = true := by rfl)
    (hline : (apos.endLine == cpos.line) = true := by rfl) (hs : starEach (e :: es) X.env = (false, eval e X.env) :: starEach es X.env := by rfl) (hplain : (backTo cpos (starEach es X.env)).any (·.1) = false := by rfl) :
    PE X (.Call (.Attribute o name apos) (e :: es) [] cpos) (RE (zx X) (cMeth T f co cs)) := by
  refine ⟨fun pins s σ H Q I h => ?_⟩
  obtain ⟨al, m, r, v, m', R, S, ee, k⟩ := h
  obtain ⟨x, m1, e1, ee⟩ := Res.bind_eq_ok.mp ee
  split at ee
  · rename_i hk
    obtain ⟨xs, m2, e2, ee⟩ := Res.bind_eq_ok.mp ee
    refine wpAny_Call_method_late hbase hfew hline rfl (thn (ho.run pins s σ H (fun y H1 => ∃ al1, Ext al H al1 H1 ∧ Rel (zx X) al1 m1 H1 ∧ RV (zx X) al1 H1 x y) I ⟨al, m, r, x, m1, R, S, e1, fun al1 H1 y E1 R1 ry => ⟨al1, E1, R1, ry⟩⟩) fun u s1 ⟨y, H1, I1, ru, al1, E1, R1, ry⟩ => ?_)
    obtain ⟨h1, h2⟩ := kind_is I1 R1 ry ru hk
    refine ⟨T, id, pa, slot, hty, h1, h2, ?_⟩
    have hA := ha.run cpos pins s1 σ H1 (fun ys H2 => RM (zx X) f y ys H2 Q) I1 ⟨al1, m1, r, xs, m2, R1, S.mono E1, e2, fun al2 H2 ys E2 R2 rs => ⟨al2, m2, x, xs, v, m', R2, ry.mono E2, rs, ee, fun al3 H3 z E3 R3 rz => k al3 H3 z (E1.trans (E2.trans E3)) R3 rz⟩⟩
    rw [hs] at hA ⊢
    refine Calls.callWith_builtin (by show (false || (backTo cpos (starEach es X.env)).any (·.1)) = false; rw [hplain] <;> rfl) (Calls.evalArgs_plain ?_)
    exact thn hA fun us s2 ⟨vs, H2, I2, r2, q2⟩ => hm pins s2 σ H2 y vs u us Q I2 ru r2 q2
  · cases ee
theorem ce_bm0 {o : Expr} {co : CE} {name : Str} {apos cpos : Pos} {f : BM} (pa : PlainAttrs T) (slot : Slot T name id) (hty : typeOf (.builtin id) = pure (.type "method_descriptor")) (hm : MtR X id (RM (zx X) f)) (ho : PE X o (RE (zx X) co))
    (hbase : attributeBase o name X.env (eval o X.env) = eval o X.env := by rfl) (hline : (apos.endLine == cpos.line) = true := by rfl) :
    PE X (.Call (.Attribute o name apos) [] [] cpos) (RE (zx X) (cMeth T f co aNil)) := by
  refine ⟨fun pins s σ H Q I h => ?_⟩
  obtain ⟨al, m, r, v, m', R, S, ee, k⟩ := h
  obtain ⟨x, m1, e1, ee⟩ := Res.bind_eq_ok.mp ee
  split at ee
  · rename_i hk
    refine wpAny_Call_method0_late hbase hline (thn (ho.run pins s σ H (fun y H1 => ∃ al1, Ext al H al1 H1 ∧ Rel (zx X) al1 m1 H1 ∧ RV (zx X) al1 H1 x y) I ⟨al, m, r, x, m1, R, S, e1, fun al1 H1 y E1 R1 ry => ⟨al1, E1, R1, ry⟩⟩) fun u s1 ⟨y, H1, I1, ru, al1, E1, R1, ry⟩ => ?_)
    obtain ⟨h1, h2⟩ := kind_is I1 R1 ry ru hk
    refine ⟨T, id, pa, slot, hty, h1, h2, Calls.callWith_builtin rfl (PySem.evalArgs_none (hm pins s1 σ H1 y [] u [] Q I1 ru .nil ?_))⟩
    exact ⟨al1, m1, x, [], v, m', R1, ry, .nil, ee, fun al3 H3 z E3 R3 rz => k al3 H3 z (E1.trans E3) R3 rz⟩
  · cases ee
theorem mc_append : MtR X "list.append" (RM (zx X) mAppend) := by
  intro pins s σ H x xs v us Q I rx rxs h
  obtain ⟨al, m, a, as, w, m', R, ra, rs, e, k⟩ := h
  unfold mAppend at e
  split at e
  · split at e
    · rename_i n z ys e1
      split at e
      · rename_i hz
        cases e
        obtain ⟨p, rfl, hp⟩ := rv_ref ra
        obtain ⟨vs, h1, h2⟩ := R.lst hp e1
        obtain ⟨y, rfl, ry⟩ := rl1 rs
        refine mt_append pins s σ H _ _ v us Q I rx rxs ⟨p, vs, y, rfl, rfl, h1, by rw [← Paired.len h2]; exact szOk_lt hz, ?_⟩
        exact k al _ _ (Ext.wr R hp h1 trivial) (Rel.wr R hp h1 trivial (.lst upd_same (RL.mono (Ext.wr R hp h1 trivial) (Paired.append h2 (.cons ry .nil))))) .non
      · cases e
    · cases e
  · cases e
theorem mc_extend : MtR X "list.extend" (RM (zx X) mExtend) := by
  intro pins s σ H x xs v us Q I rx rxs h
  obtain ⟨al, m, a, as, w, m', R, ra, rs, e, k⟩ := h
  unfold mExtend at e
  split at e
  · split at e
    · rename_i n kk ys zs e1 e2
      split at e
      · rename_i hz
        cases e
        obtain ⟨p, rfl, hp⟩ := rv_ref ra
        obtain ⟨vs, h1, h2⟩ := R.lst hp e1
        obtain ⟨y, rfl, ry⟩ := rl1 rs
        obtain ⟨q, rfl, hq⟩ := rv_ref ry
        obtain ⟨ws, h3, h4⟩ := R.lst hq e2
        refine mt_extend pins s σ H _ _ v us Q I rx rxs ⟨p, q, vs, ws, rfl, rfl, h1, h3, by rw [← Paired.len h2, ← Paired.len h4]; exact szOk_line hz, ?_⟩
        exact k al _ _ (Ext.wr R hp h1 trivial) (Rel.wr R hp h1 trivial (.lst upd_same (RL.mono (Ext.wr R hp h1 trivial) (Paired.append h2 h4)))) .non
      · cases e
    · cases e
  · cases e
theorem Paired.dropLast {α β : Type} {F : α → β → Prop} : ∀ {l : List α} {r : List β}, Paired F l r → Paired F l.dropLast r.dropLast
  | _, _, .nil => .nil
  | _, _, .cons _ .nil => .nil
  | _, _, .cons h (.cons h2 t) => .cons h (Paired.dropLast (.cons h2 t))
theorem Paired.eraseIdx {α β : Type} {F : α → β → Prop} : ∀ {l : List α} {r : List β} (k : Nat), Paired F l r → Paired F (l.eraseIdx k) (r.eraseIdx k)
  | _, _, _, .nil => by simpa using Paired.nil
  | _, _, 0, .cons h t => by simpa using t
  | _, _, k + 1, .cons h t => by simpa using Paired.cons h (Paired.eraseIdx k t)
theorem mc_pop : MtR X "list.pop" (RM (zx X) mPop) := by
  intro pins s σ H x xs v us Q I rx rxs h
  obtain ⟨al, m, a, as, w, m', R, ra, rs, e, k⟩ := h
  unfold mPop at e
  split at e
  · split at e
    · rename_i n ys e1
      split at e
      · rename_i z hz
        cases e
        obtain ⟨p, rfl, hp⟩ := rv_ref ra
        obtain ⟨vs, h1, h2⟩ := R.lst hp e1
        cases rs
        rw [Paired.len h2] at hz
        obtain ⟨y, g1, g2⟩ := Paired.get? h2 hz
        refine mt_pop pins s σ H _ _ v us Q I rx rxs ⟨p, vs, y, rfl, rfl, h1, g1, ?_⟩
        exact k al _ _ (Ext.wr R hp h1 trivial) (Rel.wr R hp h1 trivial (.lst upd_same (RL.mono (Ext.wr R hp h1 trivial) (Paired.dropLast h2)))) (g2.mono (Ext.wr R hp h1 trivial))
      · cases e
    · cases e
  · rename_i n i
    split at e
    · rename_i ys e1
      split at e
      · rename_i kk hk
        split at e
        · rename_i z hz
          cases e
          obtain ⟨p, rfl, hp⟩ := rv_ref ra
          obtain ⟨vs, h1, h2⟩ := R.lst hp e1
          obtain ⟨y, rfl, ry⟩ := rl1 rs
          rw [Paired.len h2] at hk
          obtain ⟨y2, g1, g2⟩ := Paired.get? h2 hz
          obtain ⟨j1, j2, j3, j4⟩ := ixN_seq hk
          obtain ⟨its, n', _, _, hsz⟩ := I.lst h1
          rw [sizeLine_eq] at hsz
          refine mt_popAt pins s σ H _ _ v us Q I rx rxs ⟨p, vs, i, kk, y2, rfl, by rw [rv_int ry], h1, by omega, by omega, j1, g1, ?_⟩
          exact k al _ _ (Ext.wr R hp h1 trivial) (Rel.wr R hp h1 trivial (.lst upd_same (RL.mono (Ext.wr R hp h1 trivial) (Paired.eraseIdx kk h2)))) (g2.mono (Ext.wr R hp h1 trivial))
        · cases e
      · cases e
    · cases e
  · cases e
theorem lst_of {Z : Zx} {al : Al} {m : MH} {H : Hp} (R : Rel Z al m H) {a : MV} {x : V} {ys : List MV} (ra : RV Z al H a x) (e : lstOf a m = some ys) : ∃ p xs, x = .ref p ∧ SqL Z.K H p xs ∧ RL Z al H ys xs := by
  unfold lstOf at e
  split at e
  · obtain ⟨p, rfl, hp⟩ := rv_ref ra
    obtain ⟨xs, h1, h2⟩ := R.lst hp e
    exact ⟨p, xs, rfl, .of h1, h2⟩
  · cases ra with
    | frz h q =>
      obtain ⟨l, e', r⟩ := q.toL
      rw [e] at e'; cases e'
      exact ⟨_, _, rfl, h.sq, r⟩
    | tup _ q => nomatch q
  · cases e
theorem mc_cntL : MtR X "list.count" (RM (zx X) mCntL) := by
  intro pins s σ H x xs v us Q I rx rxs h
  obtain ⟨al, m, a, as, w, m', R, ra, rs, e, k⟩ := h
  unfold mCntL at e
  split at e
  · split at e
    · rename_i ns e1
      cases e
      obtain ⟨ys, e2, e3⟩ := Option.bind_eq_some_iff.mp e1
      obtain ⟨p, vs, rfl, h1, h2⟩ := lst_of R ra e2
      obtain ⟨y, rfl, ry⟩ := rl1 rs
      rw [asInts_rl h2 e3] at h1
      exact mt_lcount pins s σ H _ _ v us Q I rx rxs ⟨p, ns, _, rfl, by rw [rv_int ry], h1, k al H _ Ext.refl R (.int _)⟩
    · cases e
  · cases e
theorem mc_idxL : MtR X "list.index" (RM (zx X) mIdxL) := by
  intro pins s σ H x xs v us Q I rx rxs h
  obtain ⟨al, m, a, as, w, m', R, ra, rs, e, k⟩ := h
  unfold mIdxL at e
  split at e
  · split at e
    · rename_i ns e1
      split at e
      · rename_i hc
        cases e
        obtain ⟨ys, e2, e3⟩ := Option.bind_eq_some_iff.mp e1
        obtain ⟨p, vs, rfl, h1, h2⟩ := lst_of R ra e2
        obtain ⟨y, rfl, ry⟩ := rl1 rs
        rw [asInts_rl h2 e3] at h1
        obtain ⟨u, rfl, ru⟩ := rxs.one
        rw [rv_int ry] at ru
        obtain ⟨t, rfl⟩ := ru
        cases rx
        obtain ⟨its, rv, pl, hz⟩ := I.list h1
        rw [List.length_map] at hz
        exact SeqAt.list_index_ints pl.isList (intsAre_of rv) hz (by simpa using hc) ⟨.int _, H, I.tok _, ⟨_, rfl⟩, k al H _ Ext.refl R (.int _)⟩
      · cases e
    · cases e
  · cases e
theorem mc_cntT : MtR X "tuple.count" (RM (zx X) mCntT) := by
  intro pins s σ H x xs v us Q I rx rxs h
  obtain ⟨al, m, a, as, w, m', R, ra, rs, e, k⟩ := h
  unfold mCntT at e
  split at e
  · rename_i kk
    split at e
    · rename_i ns e1
      cases e
      obtain ⟨ys, e2, e3⟩ := Option.bind_eq_some_iff.mp e1
      obtain ⟨p, vs, rfl, h1, h2⟩ := ra.tup_inv e2
      obtain ⟨y, rfl, ry⟩ := rl1 rs
      rw [asInts_rl h2 e3] at h1
      obtain ⟨u, rfl, ru⟩ := rxs.one
      rw [rv_int ry] at ru
      obtain ⟨t, rfl⟩ := ru
      cases rx
      obtain ⟨its, rv, ⟨⟨cls, dd, data, sl⟩, ho, hc, n, hd⟩, hlen⟩ := I.tuple h1.sq
      simp only at hc hd
      subst hc hd
      have hi := ints_of_vals rv
      refine call_meets PySem.F.slot_tuple_count ⟨_, ho, rfl⟩ PySem.F.entry_tuple_count (PySem.F.args_tuple_count_2 _ _)
        (SeqAt.tuple_countAt p its.toArray n dd sl (.int kk t) (eqk kk)) ⟨ho, fun y hy => (eqk_gives hi y (by simpa using hy)).at _ _, ?_⟩
      have ec : its.toArray.toList.countP (eqk kk) = ns.count kk := eqk_count hi
      refine ⟨.int (ns.count kk : Nat), H, I.tok _, ⟨s.toks, ?_⟩, k al H _ Ext.refl R (.int _)⟩
      show Value.int ((its.toArray.toList.countP (eqk kk) : Nat) : Int) s.toks = Value.int ((ns.count kk : Nat) : Int) s.toks
      rw [ec]
    · cases e
  · cases e
theorem mc_idxT : MtR X "tuple.index" (RM (zx X) mIdxT) := by
  intro pins s σ H x xs v us Q I rx rxs h
  obtain ⟨al, m, a, as, w, m', R, ra, rs, e, k⟩ := h
  unfold mIdxT at e
  split at e
  · split at e
    · rename_i ns e1
      split at e
      · rename_i hc
        cases e
        obtain ⟨ys, e2, e3⟩ := Option.bind_eq_some_iff.mp e1
        obtain ⟨p, vs, rfl, h1, h2⟩ := ra.tup_inv e2
        obtain ⟨y, rfl, ry⟩ := rl1 rs
        rw [asInts_rl h2 e3] at h1
        obtain ⟨u, rfl, ru⟩ := rxs.one
        rw [rv_int ry] at ru
        obtain ⟨t, rfl⟩ := ru
        cases rx
        obtain ⟨its, rv, pl, hz⟩ := I.tuple h1.sq
        exact SeqAt.tuple_index_ints pl (intsAre_of rv) (by simpa using hc) ⟨.int _, H, I.tok _, ⟨_, rfl⟩, k al H _ Ext.refl R (.int _)⟩
      · cases e
    · cases e
  · cases e
theorem mc_get (hu : X.A.units + 64 < cLine) : MtR X "dict.get" (RM (zx X) mGet) := by
  intro pins s σ H x xs v us Q I rx rxs h
  obtain ⟨al, m, a, as, w, m', R, ra, rs, e, k⟩ := h
  unfold mGet at e
  split at e
  · rename_i n kk dflt
    split at e
    · rename_i kvs e1
      split at e
      · rename_i hk
        cases e
        simp only [Bool.and_eq_true] at hk
        obtain ⟨p, rfl, hp⟩ := rv_ref ra
        obtain ⟨y, z, rfl, ry, rz⟩ := rl2 rs
        obtain ⟨u1, u2, rfl, ru1, ru2⟩ := rxs.two
        cases rx
        obtain ⟨es, g1, g2, g3, g4⟩ := dict_ok I R hp e1
        have hx : ∃ q, u1 = .ref q := by
          cases ry with
          | tup _ _ => cases ru1; exact ⟨_, rfl⟩
          | _ => simp [isT] at hk
        obtain ⟨q, rfl⟩ := hx
        have ki := key_is I 8 ry ru1 hk.2
        have hat := keyAt_at hk.2 g1
        have room : (nestedKind X.prog X.w).room X.A.in1 := by show X.A.units + 1 + 8 < cLine; omega
        have hkd : s.heap.DictKeyed (nestedKind X.prog X.w) p (pairsH es) := ⟨es, g4, rfl⟩
        refine getOr_keyed (knd := nestedKind X.prog X.w) room ki g2 hkd ?_
        rw [valueAt_pairsH]
        cases c1 : keyAt kvs kk with
        | none =>
          cases c2 : atKey es (nkL.nk1 kk) with
          | none =>
            rw [c1] at k
            exact ⟨z, H, I.tok _, ru2, k al H _ Ext.refl R rz⟩
          | some pr => rw [c1, c2] at hat; exact hat.elim
        | some w =>
          cases c2 : atKey es (nkL.nk1 kk) with
          | none => rw [c1, c2] at hat; exact hat.elim
          | some pr =>
            rw [c1, c2] at hat
            obtain ⟨x', g5, g6⟩ := hat
            rw [c1] at k
            exact ⟨x', H, I.tok _, g5, k al H _ Ext.refl R g6⟩
      · cases e
    · cases e
  · cases e
/-! ### calls of defs -/
def spOf (Z : Zx) (g : BL) (n : Nat) : Sp := fun vs H Q _ => vs.length = n ∧ RC Z g vs H Q
structure Fx (P : Program) (w : World) (K : PySem.W.Frag) (mg : Str → Option Value) (base : Heap) (k : Nat) (name : Str) (n : Nat) (g : BL) : Prop where
  ex : ∃ (f : Addr) (fd : FuncData) (ps : List Str), FnOk P w K mg base CX0 k f fd ps (spOf ⟨P, w, K, mg⟩ g n) ∧ mg name = some (.ref f) ∧ PySem.W.keepIn K (.ref f) = true ∧ Binds K fd ps [] ∧ ps.length = n
theorem ce_call {k n : Nat} {g : BL} (F : Fx X.prog X.w X.K X.mg X.base k x n g) (hr : Room k X.A) (hg : Gl X x) (ha : PA X (e :: es) (RA (zx X) cs)) (hc : ∀ r m vs m', cs r m = .ok vs m' → vs.length = n)
    (hdb : (x == ("__debug__" : Str)) = false := by decide) (he : starEach (e :: es) X.env = (false, eval e X.env) :: starEach es X.env := by rfl) (hpl : (backTo pos (starEach es X.env)).any (·.1) = false := by rfl) :
    PE X (.Call (.Name x p) (e :: es) [] pos) (RE (zx X) (cCall g cs)) := by
  obtain ⟨f, fd, ps, F1, h1, h2, h3, h4⟩ := F.ex
  refine PE.imp (pe_call F1 hr hg h1 h2 h3 .nil pass0 ha hdb he hpl) fun σ H Q h => ?_
  obtain ⟨al, m, r, v, m', R, S, ee, kk⟩ := h
  obtain ⟨xs, m1, e1, ee⟩ := Res.bind_eq_ok.mp ee
  refine ⟨al, m, r, xs, m1, R, S, e1, fun al1 H1 ys E1 R1 rs => ?_⟩
  show spOf _ g n (ys ++ []) H1 Q E0
  rw [List.append_nil]
  exact ⟨by rw [← Paired.len rs]; exact hc _ _ _ _ e1, al1, m1, xs, v, m', R1, rs, ee, fun al2 H2 z E2 R2 rz => kk al2 H2 z (E1.trans E2) R2 rz⟩
theorem ce_call0 {k : Nat} {g : BL} (F : Fx X.prog X.w X.K X.mg X.base k x 0 g) (hr : Room k X.A) (hg : Gl X x)
    (hdb : (x == ("__debug__" : Str)) = false := by decide) : PE X (.Call (.Name x p) [] [] pos) (RE (zx X) (cCall g aNil)) := by
  obtain ⟨f, fd, ps, F1, h1, h2, h3, h4⟩ := F.ex
  refine PE.imp (pe_call0 F1 hr hg h1 h2 h3 .nil pass0 hdb) fun σ H Q h => ?_
  obtain ⟨al, m, r, v, m', R, S, ee, kk⟩ := h
  exact ⟨rfl, al, m, [], v, m', R, .nil, ee, kk⟩
end
end Co

namespace Co
open PySem PySem.Spec PyProof.Rows L2
section
variable {X : Cx}
/-! ### statements -/
theorem KS.mono {Z : Zx} {al al1 : Al} {H H1 : Hp} {σ σ1 : L2.St} {f : Fl} {m' : MH} {D : Ends} (k : KS Z al H σ f m' D) (E1 : Ext al H al1 H1) (hl : σ1.length = σ.length) : KS Z al1 H1 σ1 f m' D := by
  intro al2 H2 E2 R2
  have := k al2 H2 (E1.trans E2) R2
  cases f with
  | nx r => exact fun σ' h => this σ' (h.trans hl)
  | bk r => exact fun σ' h => this σ' (h.trans hl)
  | ct r => exact fun σ' h => this σ' (h.trans hl)
  | rt v => exact this
variable {st : Stmt} {rest : List Stmt} {ca cb : CS} {e : Expr} {ce : CE} {pos : Pos}
theorem cs_nil : PSs X [] (RS (zx X) sNx) := by
  refine PSs.imp pss_nil fun D σ H h => ?_
  obtain ⟨al, m, r, f, m', R, S, e, k⟩ := h
  cases e
  exact k al H Ext.refl R σ rfl S
theorem cs_cons (h1 : PS X st (RS (zx X) ca)) (h2 : PSs X rest (RS (zx X) cb)) : PSs X (st :: rest) (RS (zx X) (sSeq ca cb)) := by
  refine PSs.imp (pss_cons h1 h2) fun D σ H h => ?_
  obtain ⟨al, m, r, f, m', R, S, e, k⟩ := h
  obtain ⟨g, m1, e1, e⟩ := Res.bind_eq_ok.mp e
  refine ⟨al, m, r, g, m1, R, S, e1, ?_⟩
  intro al1 H1 E1 R1
  cases g with
  | nx r1 => exact fun σ1 hl S1 => ⟨al1, m1, r1, f, m', R1, S1, e, k.mono E1 hl⟩
  | bk r1 => cases e; exact k al1 H1 E1 R1
  | ct r1 => cases e; exact k al1 H1 E1 R1
  | rt v => cases e; exact k al1 H1 E1 R1
theorem cs_one (h1 : PS X st (RS (zx X) ca)) : PSs X [st] (RS (zx X) ca) := pss_one h1
theorem cs_never {sts : List Stmt} : PSs X sts (RS (zx X) sBad) := PSs.imp pss_never fun D σ H h => by
  obtain ⟨al, m, r, f, m', R, S, e, k⟩ := h
  cases e
theorem cs_rz {c : Str} {st : Stmt} : PS X st (RS (zx X) (sRz c)) := PS.imp ps_never fun D σ H h => by
  obtain ⟨al, m, r, f, m', R, S, e, k⟩ := h
  cases e
theorem cs_never1 {st : Stmt} : PS X st (RS (zx X) sBad) := PS.imp ps_never fun D σ H h => by
  obtain ⟨al, m, r, f, m', R, S, e, k⟩ := h
  cases e
theorem cs_pass : PS X (.Pass pos) (RS (zx X) sNx) := PS.imp ps_pass fun D σ H h => by
  obtain ⟨al, m, r, f, m', R, S, e, k⟩ := h
  cases e
  exact k al H Ext.refl R σ rfl S
theorem cs_brk : PS X (.Break pos) (RS (zx X) sBrk) := PS.imp ps_break fun D σ H h => by
  obtain ⟨al, m, r, f, m', R, S, e, k⟩ := h
  cases e
  exact k al H Ext.refl R σ rfl S
theorem cs_cnt : PS X (.Continue pos) (RS (zx X) sCnt) := PS.imp ps_continue fun D σ H h => by
  obtain ⟨al, m, r, f, m', R, S, e, k⟩ := h
  cases e
  exact k al H Ext.refl R σ rfl S
theorem cs_expr (he : PE X e (RE (zx X) ce)) (hs : swapsWith e none pos.line X.env = pure false := by rfl) : PS X (.Expr e pos) (RS (zx X) (sExpr ce)) := by
  refine PS.imp (ps_expr he hs) fun D σ H h => ?_
  obtain ⟨al, m, r, f, m', R, S, e, k⟩ := h
  obtain ⟨x, m1, e1, e⟩ := Res.bind_eq_ok.mp e
  cases e
  exact ⟨al, m, r, x, _, R, S, e1, fun al1 H1 y E1 R1 ry => k al1 H1 E1 R1 σ rfl (S.mono E1)⟩
theorem cs_ret (he : PE X e (RE (zx X) ce)) : PS X (.Return (some e) pos) (RS (zx X) (sRet ce)) := by
  refine PS.imp (ps_ret he) fun D σ H h => ?_
  obtain ⟨al, m, r, f, m', R, S, e, k⟩ := h
  obtain ⟨x, m1, e1, e⟩ := Res.bind_eq_ok.mp e
  cases e
  exact ⟨al, m, r, x, _, R, S, e1, fun al1 H1 y E1 R1 ry => k al1 H1 E1 R1 y ry⟩
theorem cs_if {c : Expr} {a b : List Stmt} {cc : CE} (hc : PT X c (RT (zx X) cc)) (ha : PSs X a (RS (zx X) ca)) (hb : PSs X b (RS (zx X) cb)) : PS X (.If c a b pos) (RS (zx X) (sIf cc ca cb)) := by
  refine PS.imp (ps_if hc ha hb) fun D σ H h => ?_
  obtain ⟨al, m, r, f, m', R, S, e, k⟩ := h
  obtain ⟨x, m1, e1, e⟩ := Res.bind_eq_ok.mp e
  split at e
  · refine ⟨al, m, r, true, m1, R, S, e1, fun al1 H1 E1 R1 => if1 ?_⟩
    exact ⟨al1, m1, r, f, m', R1, S.mono E1, e, k.mono E1 rfl⟩
  · refine ⟨al, m, r, false, m1, R, S, e1, fun al1 H1 E1 R1 => if0 ?_⟩
    exact ⟨al1, m1, r, f, m', R1, S.mono E1, e, k.mono E1 rfl⟩
  · cases e
/-! ### targets -/
/-- a value, or the pair that an iterator yields (a tuple of which no more is known) -/
def RVx (Z : Zx) (wk : Bool) (al : Al) (H : Hp) (v : MV) (x : V) : Prop := match wk with
  | false => RV Z al H v x
  | true => ∃ a xs, x = .ref a ∧ SqT Z.K H a xs ∧ RVs Z al H v xs
def RGx (Z : Zx) (wk : Bool) (vs : List Nat) (g : CG) : TG := fun x σ H Q => ∃ al m r v r' m', Rel Z al m H ∧ RSl Z al H r σ ∧ RVx Z wk al H v x ∧ g v r m = .ok r' m' ∧
  ∀ al' H' σ', Ext al H al' H' → Rel Z al' m' H' → RSl Z al' H' r' σ' → σ'.length = σ.length → (∀ j, j ∉ vs → σ'[j]? = σ[j]?) → Q σ' H'
def RGs (Z : Zx) (vs : List Nat) (g : CG) : TGs := fun xs σ H Q => ∃ al m r v r' m', Rel Z al m H ∧ RSl Z al H r σ ∧ RVs Z al H v xs ∧ g v r m = .ok r' m' ∧
  ∀ al' H' σ', Ext al H al' H' → Rel Z al' m' H' → RSl Z al' H' r' σ' → σ'.length = σ.length → (∀ j, j ∉ vs → σ'[j]? = σ[j]?) → Q σ' H'
theorem cg_name {i : Nat} {x : Str} (hN : X.N.Nodup) (hi : X.N[i]? = some x) (hx : Loc X.env.scope x) (hf : X.fn x = true ∨ X.env.scope.names.lookup x = some .local := by first | exact .inl rfl | exact .inr rfl | assumption) : PG X (.Name x pos) (RGx (zx X) false [i] (gNm i)) := by
  refine PG.imp (pg_name hN hi hx hf) fun v σ H Q h => ?_
  obtain ⟨al, m, r, w, r', m', R, S, rv, e, k⟩ := h
  cases e
  refine k al H _ Ext.refl R (S.set rv i) (List.length_set) fun j hj => ?_
  rw [List.getElem?_set_ne fun z => hj (by simp [z])]
theorem cgs_nil : PGs X [] (RGs (zx X) [] Co.gNil) := by
  refine ⟨fun pins s σ H vs us Q I r h => ?_⟩
  obtain ⟨al, m, rr, w, r', m', R, S, rv, e, k⟩ := h
  cases rv with
  | nil => cases e; exact pgs_nil.run pins s σ H _ us Q I r ⟨rfl, k al H σ Ext.refl R S rfl fun _ _ => rfl⟩
  | cons h t => cases e
theorem cgs_cons {es : List Expr} {g h : CG} {vs ws : List Nat} (h1 : PG X e (RGx (zx X) false vs g)) (h2 : PGs X es (RGs (zx X) ws h))
    (hs : (assignEach (e :: es) X.env).map (·.2) = assign e X.env :: (assignEach es X.env).map (·.2) := by rfl) : PGs X (e :: es) (RGs (zx X) (vs ++ ws) (Co.gCons g h)) := by
  refine ⟨fun pins s σ H xs us Q I r hq => ?_⟩
  obtain ⟨al, m, rr, w, r', m', R, S, rv, ee, k⟩ := hq
  cases rv with
  | nil => cases ee
  | cons ra rt =>
    obtain ⟨r1, m1, e1, ee⟩ := Res.bind_eq_ok.mp ee
    refine (pgs_cons h1 h2 hs).run pins s σ H _ us Q I r ⟨_, _, rfl, al, m, rr, _, r1, m1, R, S, ra, e1, fun al1 H1 σ1 E1 R1 S1 hl1 f1 => ?_⟩
    refine ⟨al1, m1, r1, _, r', m', R1, S1, rt.mono E1, ee, fun al2 H2 σ2 E2 R2 S2 hl2 f2 => ?_⟩
    refine k al2 H2 σ2 (E1.trans E2) R2 S2 (hl2.trans hl1) fun j hj => ?_
    rw [List.mem_append, not_or] at hj
    rw [f2 j hj.2, f1 j hj.1]
theorem cg_tup {es : List Expr} {kk n : Nat} {g : CG} {vs : List Nat} {wk : Bool} (hc : X.calm = true) (h : PGs X es (RGs (zx X) vs g)) (hlen : ∀ v r m r' m', g v r m = .ok r' m' → ∃ l, v.toL = some l ∧ l.length = n)
    (hn : (assignEach es X.env).length = n := by rfl) (hst : (assignEach es X.env).findIdx? (·.1) = none := by rfl) : PG X (.Tuple es kk pos) (RGx (zx X) wk vs (gUnp n g)) := by
  refine ⟨fun pins s σ H v u Q I ru hq => ?_⟩
  obtain ⟨al, m, r, w, r', m', R, S, rv, e, k⟩ := hq
  have tupc : g w r m = .ok r' m' → (∃ a xs, v = .ref a ∧ SqT X.K H a xs ∧ RVs (zx X) al H w xs) → wpAny (model X.prog X.w) X.A (assign (.Tuple es kk pos) X.env u) (fun _ s' => ∃ σ' H', Inv X pins σ' H' s' ∧ Q σ' H') X.xe s := by
    intro e ⟨a, xs, ev, q1, q2⟩
    subst ev
    obtain ⟨l, h1, h2⟩ := hlen _ _ _ _ _ e
    obtain ⟨l', e', p⟩ := q2.toL
    rw [h1] at e'; cases e'
    exact (pg_tup hc h hn hst).run pins s σ H _ u Q I ru ⟨a, xs, rfl, q1, by rw [← Paired.len p]; exact h2, al, m, r, w, r', m', R, S, q2, e, k⟩
  cases wk with
  | true =>
    obtain ⟨a, xs, ev, q1, q2⟩ := id rv
    unfold gUnp at e
    cases q2 with
    | nil => exact tupc e rv
    | cons _ _ => exact tupc e rv
  | false =>
    have rv : RV (zx X) al H w v := rv
    unfold gUnp at e
    split at e
    · split at e
      · rename_i n1 ys e1
        split at e
        · rename_i hl
          obtain ⟨a, rfl, ha⟩ := rv_ref rv
          obtain ⟨xs, g1, g2⟩ := R.lst ha e1
          exact (pg_lst hc h hn hst).run pins s σ H _ u Q I ru ⟨a, xs, rfl, .of g1, by rw [← Paired.len g2]; exact hl, al, m, r, _, r', m', R, S, RVs.ofL g2, e, k⟩
        · cases e
      · cases e
    · refine tupc e ?_
      obtain ⟨l, h1, h2⟩ := hlen _ _ _ _ _ e
      cases rv with
      | tup a b => exact ⟨_, _, rfl, a.sq, b⟩
      | _ => simp [MV.toL] at h1
theorem glen_nil : ∀ v r m r' m', Co.gNil v r m = .ok r' m' → ∃ l, v.toL = some l ∧ l.length = 0 := fun v r m r' m' h => by
  unfold Co.gNil at h
  split at h
  · exact ⟨[], rfl, rfl⟩
  · cases h
theorem glen_cons {g h : CG} {n : Nat} (hh : ∀ v r m r' m', h v r m = .ok r' m' → ∃ l, v.toL = some l ∧ l.length = n) : ∀ v r m r' m', Co.gCons g h v r m = .ok r' m' → ∃ l, v.toL = some l ∧ l.length = n + 1 := fun v r m r' m' e => by
  unfold Co.gCons at e
  split at e
  · rename_i a b
    obtain ⟨r1, m1, e1, e⟩ := Res.bind_eq_ok.mp e
    obtain ⟨l, h1, h2⟩ := hh _ _ _ _ _ e
    exact ⟨a :: l, by simp [MV.toL, h1], by simp [h2]⟩
  · cases e
theorem cg_sub {o i : Expr} {co ci : CE} {f : B3} (ho : PE X o (RE (zx X) co)) (hi : PE X i (RE (zx X) ci)) (hs : PSet X (R3 (zx X) f))
    (ha : ∀ v, assign (.Subscript o i pos) X.env v = (do
      let ov ← holding [v] (eval o X.env)
      let iv ← holding [v, ov] (eval i X.env)
      standAt pos
      holding [v, ov, iv] (setItem ov iv v)
      release [v, ov, iv] []) := by intro _; rfl) : PG X (.Subscript o i pos) (RGx (zx X) false [] (Co.gSub co ci f)) := by
  refine PG.imp (pg_sub ho hi hs ha) fun v σ H Q h => ?_
  obtain ⟨al, m, r, w, r', m', R, S, rv, e, k⟩ := h
  obtain ⟨x, m1, e1, e⟩ := Res.bind_eq_ok.mp e
  obtain ⟨y, m2, e2, e⟩ := Res.bind_eq_ok.mp e
  obtain ⟨u, m3, e3, e⟩ := Res.bind_eq_ok.mp e
  cases e
  refine ⟨al, m, r, x, m1, R, S, e1, fun al1 H1 a E1 R1 ra => ⟨al1, m1, r, y, m2, R1, S.mono E1, e2, fun al2 H2 b E2 R2 rb => ?_⟩⟩
  have rv : RV (zx X) al H w v := rv
  exact ⟨al2, m2, x, y, w, _, R2, ra.mono E2, rb, rv.mono (E1.trans E2), e3, fun al3 H3 E3 R3 => k al3 H3 σ (E1.trans (E2.trans E3)) R3 (S.mono (E1.trans (E2.trans E3))) rfl fun _ _ => rfl⟩
theorem ext_asg {c : CE} {g : CG} {vs : List Nat} {σ : L2.St} {H : Hp} {D : Ends} (h : RS (zx X) (sAsg c g) D σ H) : tAsg (RE (zx X) c) (RGx (zx X) false vs g) D σ H := by
  obtain ⟨al, m, r, f, m', R, S, e, k⟩ := h
  obtain ⟨x, m1, e1, e⟩ := Res.bind_eq_ok.mp e
  obtain ⟨r1, m2, e2, e⟩ := Res.bind_eq_ok.mp e
  cases e
  exact ⟨al, m, r, x, m1, R, S, e1, fun al1 H1 a E1 R1 ra => ⟨al1, m1, r, x, r1, _, R1, S.mono E1, ra, e2, fun al2 H2 σ2 E2 R2 S2 hl _ => k al2 H2 (E1.trans E2) R2 σ2 hl S2⟩⟩
theorem ext_set {c : CE} {i : Nat} {σ : L2.St} {H : Hp} {D : Ends} (h : RS (zx X) (sAsg c (gNm i)) D σ H) : tAsg (RE (zx X) c) (gName i) D σ H := by
  obtain ⟨al, m, r, f, m', R, S, e, k⟩ := h
  obtain ⟨x, m1, e1, e⟩ := Res.bind_eq_ok.mp e
  obtain ⟨r1, m2, e2, e⟩ := Res.bind_eq_ok.mp e
  cases e2
  cases e
  exact ⟨al, m, r, x, _, R, S, e1, fun al1 H1 a E1 R1 ra => k al1 H1 E1 R1 _ List.length_set ((S.mono E1).set ra i)⟩
theorem cs_set {i : Nat} {x : Str} {pos' : Pos} (hN : X.N.Nodup) (hi : X.N[i]? = some x) (hx : Loc X.env.scope x) (he : PE X e (RE (zx X) ce)) (hs : swapsWith e (some (.Name x pos')) pos.line X.env = pure false := by rfl) (hf : X.fn x = true ∨ X.env.scope.names.lookup x = some .local := by first | exact .inl rfl | exact .inr rfl | assumption) :
    PS X (.Assign [.Name x pos'] e pos) (RS (zx X) (sAsg ce (gNm i))) := PS.imp (ps_set hN hi hx he hs hf) fun _ _ _ h => ext_set h
theorem cs_asg {tg : Expr} {g : CG} {vs : List Nat} (he : PE X e (RE (zx X) ce)) (hg : PG X tg (RGx (zx X) false vs g)) (hs : swapsWithSole [tg] e pos.line X.env = pure false := by rfl) (hw : swappedStores [tg] e X.env = pure none := by rfl)
    (h1 : (assignEach [tg] X.env).map (·.2) = [assign tg X.env] := by rfl) : PS X (.Assign [tg] e pos) (RS (zx X) (sAsg ce g)) := PS.imp (ps_asg he hg hs hw h1) fun _ _ _ h => ext_asg h
theorem cs_par2 {i j : Nat} {x y : Str} {a b : Expr} {cs : CA} {px py pt : Pos} {kt k2 pt2} (hc : X.calm = true) (hN : X.N.Nodup) (hi : X.N[i]? = some x) (hj : X.N[j]? = some y) (hij : i ≠ j)
    (hx : X.env.scope.names.lookup x = some .local) (hy : X.env.scope.names.lookup y = some .local) (ha : PA X [a, b] (RA (zx X) cs))
    (hw : swappedStores [.Tuple [.Name x px, .Name y py] kt pt] (.Tuple [a, b] k2 pt2) X.env = pure (some [x, y]))
    (hs : swapsWithSole [.Tuple [.Name x px, .Name y py] kt pt] (.Tuple [a, b] k2 pt2) pos.line X.env = pure false := by rfl) :
    PS X (.Assign [.Tuple [.Name x px, .Name y py] kt pt] (.Tuple [a, b] k2 pt2) pos) (RS (zx X) (sPar2 i j cs)) := by
  refine PS.imp (ps_par hc hN hi hj hij hx hy ha hw hs) fun D σ H h => ?_
  obtain ⟨al, m, r, f, m', R, S, e, k⟩ := h
  obtain ⟨xs, m1, e1, e⟩ := Res.bind_eq_ok.mp e
  refine ⟨al, m, r, xs, m1, R, S, e1, fun al1 H1 ys E1 R1 rs => ?_⟩
  split at e
  · cases e
    obtain ⟨u, w, rfl, r1, r2⟩ := rl2 rs
    exact ⟨u, w, rfl, k al1 H1 E1 R1 _ (by rw [List.length_set, List.length_set]) (((S.mono E1).set r1 i).set r2 j)⟩
  · cases e
theorem cs_par3 {i j l : Nat} {x y z : Str} {a b c : Expr} {cs : CA} {px py pz pt : Pos} {kt k2 pt2} (hc : X.calm = true) (hN : X.N.Nodup) (hi : X.N[i]? = some x) (hj : X.N[j]? = some y) (hl : X.N[l]? = some z) (hij : i ≠ j) (hil : i ≠ l) (hjl : j ≠ l)
    (hx : X.env.scope.names.lookup x = some .local) (hy : X.env.scope.names.lookup y = some .local) (hz : X.env.scope.names.lookup z = some .local) (ha : PA X [a, b, c] (RA (zx X) cs))
    (hw : swappedStores [.Tuple [.Name x px, .Name y py, .Name z pz] kt pt] (.Tuple [a, b, c] k2 pt2) X.env = pure (some [x, y, z]))
    (hs : swapsWithSole [.Tuple [.Name x px, .Name y py, .Name z pz] kt pt] (.Tuple [a, b, c] k2 pt2) pos.line X.env = pure false := by rfl) :
    PS X (.Assign [.Tuple [.Name x px, .Name y py, .Name z pz] kt pt] (.Tuple [a, b, c] k2 pt2) pos) (RS (zx X) (sPar3 i j l cs)) := by
  refine PS.imp (ps_par3 hc hN hi hj hl hij hil hjl hx hy hz ha hw hs) fun D σ H h => ?_
  obtain ⟨al, m, r, f, m', R, S, e, k⟩ := h
  obtain ⟨xs, m1, e1, e⟩ := Res.bind_eq_ok.mp e
  refine ⟨al, m, r, xs, m1, R, S, e1, fun al1 H1 ys E1 R1 rs => ?_⟩
  split at e
  · cases e
    cases rs with
    | cons r1 rs =>
      obtain ⟨u, w, rfl, r2, r3⟩ := rl2 rs
      exact ⟨_, u, w, rfl, k al1 H1 E1 R1 _ (by rw [List.length_set, List.length_set, List.length_set]) ((((S.mono E1).set r1 i).set r2 j).set r3 l)⟩
  · cases e
theorem cs_aug {i : Nat} {x : Str} {op : Operator} {f : B2} {pos' : Pos} (hN : X.N.Nodup) (hi : X.N[i]? = some x) (hx : Loc X.env.scope x) (he : PE X e (RE (zx X) ce)) (ho : PIp X op (RB (zx X) f)) (hf : X.fn x = true ∨ X.env.scope.names.lookup x = some .local := by first | exact .inl rfl | exact .inr rfl | assumption) :
    PS X (.AugAssign (.Name x pos') op e pos) (RS (zx X) (sAug i f ce)) := by
  refine PS.imp (ps_aug hN hi hx he ho hf) fun D σ H h => ?_
  obtain ⟨al, m, r, fl, m', R, S, e, k⟩ := h
  unfold sAug at e
  split at e
  · rename_i v hv
    obtain ⟨y, m1, e1, e⟩ := Res.bind_eq_ok.mp e
    obtain ⟨z, m2, e2, e⟩ := Res.bind_eq_ok.mp e
    cases e
    obtain ⟨xv, h1, h2⟩ := S.2 i v hv
    exact ⟨xv, h1, al, m, r, y, m1, R, S, e1, fun al1 H1 b E1 R1 rb => ⟨al1, m1, v, y, z, _, R1, h2.mono E1, rb, e2, fun al2 H2 c E2 R2 rc => k al2 H2 (E1.trans E2) R2 _ List.length_set ((S.mono (E1.trans E2)).set rc i)⟩⟩
  · cases e
theorem co_iadd : PIp X .Add (RB (zx X) oAddI) := co_I (f := inplaceOp .Add) iop_add fun _ _ _ _ => .int _
theorem co_isub : PIp X .Sub (RB (zx X) oSubI) := co_I (f := inplaceOp .Sub) iop_sub fun _ _ _ _ => .int _
theorem co_get : PGet X (RB (zx X) oGet) := by
  intro pins s σ H o i ov iv Q I ro ri h
  obtain ⟨al, m, a, b, w, m', R, ra, rb, e, k⟩ := h
  unfold oGet at e
  split at e
  · split at e
    · rename_i n j ys e1
      split at e
      · rename_i hj
        split at e
        · rename_i z hz
          cases e
          obtain ⟨p, rfl, hp⟩ := rv_ref ra
          obtain ⟨vs, h1, h2⟩ := R.lst hp e1
          rw [rv_int rb] at ri
          obtain ⟨t, rfl⟩ := ri
          cases ro
          obtain ⟨y, g1, g2⟩ := Paired.get? h2 hz
          obtain ⟨its, rv, pl, hsz⟩ := I.list (.of h1)
          obtain ⟨u, hu, ru⟩ := rv.get g1
          obtain ⟨hlt, _⟩ := List.getElem?_eq_some_iff.mp g1
          rw [sizeLine_eq] at hsz
          exact wpAny_getItem_list pl.isList (of_decide_eq_true hj) (by omega) (by simpa using hu) ⟨y, H, I, ru, k al H _ Ext.refl R g2⟩
        · cases e
      · cases e
    · cases e
  · cases e
theorem cs_augS {o i : Expr} {co ci : CE} {get f : B2} {set : B3} {op : Operator} {tpos : Pos} (ho : PE X o (RE (zx X) co)) (hi : PE X i (RE (zx X) ci)) (hg : PGet X (RB (zx X) get)) (he : PE X e (RE (zx X) ce)) (hp : PIp X op (RB (zx X) f)) (hs : PSet X (R3 (zx X) set))
    (ha : ∀ ov iv new, augStore i ov iv new = (do holding [new, ov, iv] (setItem ov iv new); release [new, ov, iv] []; pure .next) := by intros; rfl) : PS X (.AugAssign (.Subscript o i tpos) op e pos) (RS (zx X) (sAugS get f set co ci ce)) := by
  refine PS.imp (ps_augS ho hi hg he hp hs ha) fun D σ H h => ?_
  obtain ⟨al, m, r, fl, m', R, S, e, k⟩ := h
  obtain ⟨a, m1, e1, e⟩ := Res.bind_eq_ok.mp e
  obtain ⟨b, m2, e2, e⟩ := Res.bind_eq_ok.mp e
  obtain ⟨x, m3, e3, e⟩ := Res.bind_eq_ok.mp e
  obtain ⟨y, m4, e4, e⟩ := Res.bind_eq_ok.mp e
  obtain ⟨z, m5, e5, e⟩ := Res.bind_eq_ok.mp e
  obtain ⟨u, m6, e6, e⟩ := Res.bind_eq_ok.mp e
  cases e
  refine ⟨al, m, r, a, m1, R, S, e1, fun al1 H1 va E1 R1 ra => ⟨al1, m1, r, b, m2, R1, S.mono E1, e2, fun al2 H2 vb E2 R2 rb => ⟨al2, m2, a, b, x, m3, R2, ra.mono E2, rb, e3, fun al3 H3 vx E3 R3 rx => ⟨al3, m3, r, y, m4, R3, S.mono (E1.trans (E2.trans E3)), e4, fun al4 H4 vy E4 R4 ry => ⟨al4, m4, x, y, z, m5, R4, rx.mono E4, ry, e5, fun al5 H5 vz E5 R5 rz => ?_⟩⟩⟩⟩⟩
  have E35 := E3.trans (E4.trans E5)
  exact ⟨al5, m5, a, b, z, _, R5, ra.mono (E2.trans E35), rb.mono E35, rz, e6, fun al6 H6 E6 R6 => k al6 H6 (E1.trans (E2.trans (E35.trans E6))) R6 σ rfl (S.mono (E1.trans (E2.trans (E35.trans E6))))⟩
/-! ### while -/
theorem cs_while {c : Expr} {body : List Stmt} {cc : CE} {cb : CS} (hp : PassesOwn (model X.prog X.w) X.A X.env X.xe) (hc : PT X c (RT (zx X) cc)) (hb : PSs X body (RS (zx X) cb)) : PS X (.While c body [] pos) (RS (zx X) (sWhile cc cb)) := by
  refine PS.imp (ps_while hp hc hb) fun D σ H h => ?_
  refine ⟨fun n σ1 H1 => ∃ al m r f m', Rel (zx X) al m H1 ∧ RSl (zx X) al H1 r σ1 ∧ whileN cc cb n r m = .ok f m' ∧ KS (zx X) al H1 σ1 f m' D, ⟨big, h⟩, ?_⟩
  rintro n σ1 H1 ⟨al, m, r, f, m', R, S, e, k⟩
  cases n with
  | zero => cases e
  | succ n =>
    unfold whileN at e
    obtain ⟨x, m1, e1, e⟩ := Res.bind_eq_ok.mp e
    split at e
    · refine ⟨al, m, r, true, m1, R, S, e1, fun al1 H2 E1 R1 => if1 ?_⟩
      obtain ⟨g, m2, e2, e⟩ := Res.bind_eq_ok.mp e
      refine ⟨fun σ' H' => ∃ al m r f m', Rel (zx X) al m H' ∧ RSl (zx X) al H' r σ' ∧ whileN cc cb n r m = .ok f m' ∧ KS (zx X) al H' σ' f m' D, fun σ' H' hn => ⟨n, Nat.lt_succ_self n, hn⟩, ?_⟩
      refine ⟨al1, m1, r, g, m2, R1, S.mono E1, e2, ?_⟩
      intro al2 H3 E2 R2
      cases g with
      | nx r2 => exact fun σ' hl S' => ⟨al2, m2, r2, f, m', R2, S', e, k.mono (E1.trans E2) hl⟩
      | ct r2 => exact fun σ' hl S' => ⟨al2, m2, r2, f, m', R2, S', e, k.mono (E1.trans E2) hl⟩
      | bk r2 => cases e; exact fun σ' hl S' => k al2 H3 (E1.trans E2) R2 σ' hl S'
      | rt v => cases e; exact fun x rx => k al2 H3 (E1.trans E2) R2 x rx
    · refine ⟨al, m, r, false, m1, R, S, e1, fun al1 H2 E1 R1 => if0 ?_⟩
      cases e
      exact k al1 H2 E1 R1 σ1 rfl (S.mono E1)
    · cases e
/-! ### what is walked -/
def SrcOk (Z : Zx) (wk : Bool) (al0 : Al) (H0 : Hp) (s : Src) (J : It) : Prop := ∀ al m H i, Ext al0 H0 al H → Rel Z al m H → match s.at i m with
  | none => True
  | some none => J.stop i H
  | some (some v) => J.go i H ∧ ∀ x H', J.yld i H x H' → Ext al H al H' ∧ Rel Z al m H' ∧ RVx Z wk al H' v x
def RI (Z : Zx) (wk : Bool) (c : CI) : TI := fun σ H Rr => ∃ al m r s m', Rel Z al m H ∧ RSl Z al H r σ ∧ c r m = .ok s m' ∧ ∀ al' H' J, Ext al H al' H' → Rel Z al' m' H' → SrcOk Z wk al' H' s J → Rr J H'
theorem PI.imp {X : Cx} {tg e : Expr} {t t' : TI} (h : PI X tg e t) (f : ∀ σ H Q, t' σ H Q → t σ H Q) : PI X tg e t' := ⟨fun pins s σ H Q I q => h.run pins s σ H Q I (f σ H Q q)⟩
theorem SrcOk.mono {Z : Zx} {wk : Bool} {al al1 : Al} {H H1 : Hp} {s : Src} {J : It} (h : SrcOk Z wk al H s J) (E : Ext al H al1 H1) : SrcOk Z wk al1 H1 s J := fun al2 m H2 i E2 R2 => h al2 m H2 i (E.trans E2) R2
theorem cs_for {tg iter : Expr} {body : List Stmt} {wk : Bool} {ci : CI} {g : CG} {vs : List Nat} {cb : CS} (hp : PassesOwn (model X.prog X.w) X.A X.env X.xe) (hc : X.calm = true) (hi : PI X tg iter (RI (zx X) wk ci)) (hg : PG X tg (RGx (zx X) wk vs g)) (hb : PSs X body (RS (zx X) cb))
    (hs : ∀ x, foldedSetIterable iter X.env x = pure x := by intro _; rfl) : PS X (.For tg iter body [] pos) (RS (zx X) (sFor ci g cb)) := by
  refine PS.imp (ps_for hp hc hi hg hb hs) fun D σ H h => ?_
  obtain ⟨al, m, r, f, m', R, S, e, k⟩ := h
  obtain ⟨s, m1, e1, e⟩ := Res.bind_eq_ok.mp e
  refine ⟨al, m, r, s, m1, R, S, e1, fun al1 H1 J E1 R1 sj => ?_⟩
  let W : Nat → Nat → L2.St → Hp → Prop := fun i n σ2 H2 => ∃ al m r f m', Rel (zx X) al m H2 ∧ RSl (zx X) al H2 r σ2 ∧ forN s g cb n i r m = .ok f m' ∧ SrcOk (zx X) wk al H2 s J ∧ KS (zx X) al H2 σ2 f m' D
  refine ⟨W, ⟨big, al1, m1, r, f, m', R1, S.mono E1, e, sj, k.mono E1 rfl⟩, ?_⟩
  rintro i n σ2 H2 ⟨al2, m2, r2, f2, m2', R2, S2, e2, sj2, k2⟩
  cases n with
  | zero => cases e2
  | succ n =>
    unfold forN at e2
    have hj := sj2 al2 m2 H2 i Ext.refl R2
    split at e2
    · cases e2
    · rename_i hx
      rw [hx] at hj
      cases e2
      exact .inl ⟨hj, k2 al2 H2 Ext.refl R2 σ2 rfl S2⟩
    · rename_i v hx
      rw [hx] at hj
      obtain ⟨r3, m3, e3, e2⟩ := Res.bind_eq_ok.mp e2
      obtain ⟨fl, m4, e4, e2⟩ := Res.bind_eq_ok.mp e2
      refine .inr ⟨hj.1, W (i + 1) n, fun σ' H' hn => ⟨n, Nat.lt_succ_self n, hn⟩, fun x H' hy => ?_⟩
      obtain ⟨E3, R3, rv⟩ := hj.2 x H' hy
      refine ⟨al2, m2, r2, v, r3, m3, R3, S2.mono E3, rv, e3, fun al4 H4 σ4 E4 R4 S4 hl4 _ => ?_⟩
      refine ⟨al4, m3, r3, fl, m4, R4, S4, e4, ?_⟩
      intro al5 H5 E5 R5
      have E := E3.trans (E4.trans E5)
      cases fl with
      | nx r5 => exact fun σ' hl S' => ⟨al5, m4, r5, f2, m2', R5, S', e2, sj2.mono E, k2.mono E (hl.trans hl4)⟩
      | ct r5 => exact fun σ' hl S' => ⟨al5, m4, r5, f2, m2', R5, S', e2, sj2.mono E, k2.mono E (hl.trans hl4)⟩
      | bk r5 => cases e2; exact fun σ' hl S' => k2 al5 H5 E R5 σ' (hl.trans hl4) S'
      | rt v => cases e2; exact fun x rx => k2 al5 H5 E R5 x rx
end
end Co

namespace Co
open PySem PySem.Spec PyProof.Rows L2
section
variable {X : Cx} {tg e : Expr} {ce : CE} {pos : Pos}
theorem sq_uniq {K : PySem.W.Frag} {H : Hp} {a : Addr} {xs : List V} (h : H a = some (.lst xs)) : SqL K H a xs := .of h
/-- a source whose items stand as they are -/
theorem src_its_t {Z : Zx} {al : Al} {H : Hp} {a : Addr} {ys : List MV} {xs : List V} (h : TD Z.K H a xs) (r : RL Z al H ys xs) : SrcOk Z false al H (.its ys) (Itt Z.K a) := by
  intro al1 m H1 i E1 R1
  simp only [Src.at]
  have h1 := (E1.td (Z := Z) h).sq
  have r1 := RL.mono E1 r
  cases c : ys[i]? with
  | none =>
    have : ys.length ≤ i := List.getElem?_eq_none_iff.mp c
    exact ⟨xs, h1, by rw [← Paired.len r]; exact this⟩
  | some v =>
    obtain ⟨x, g1, g2⟩ := Paired.get? r1 c
    refine ⟨⟨xs, x, h1, g1⟩, fun y H' hy => ?_⟩
    obtain ⟨rfl, hy⟩ := hy
    have := hy xs h1
    rw [g1] at this
    cases this
    exact ⟨Ext.refl, R1, g2⟩
theorem src_its_f {Z : Zx} {al : Al} {H : Hp} {a : Addr} {ys : List MV} {xs : List V} (h : FzL Z.K H a xs) (r : RL Z al H ys xs) : SrcOk Z false al H (.its ys) (Itl Z.K a) := by
  intro al1 m H1 i E1 R1
  simp only [Src.at]
  have h1 := (E1.fzL (Z := Z) h).sq
  have r1 := RL.mono E1 r
  cases c : ys[i]? with
  | none =>
    have : ys.length ≤ i := List.getElem?_eq_none_iff.mp c
    exact ⟨xs, h1, by rw [← Paired.len r]; exact this⟩
  | some v =>
    obtain ⟨x, g1, g2⟩ := Paired.get? r1 c
    refine ⟨⟨xs, x, h1, g1⟩, fun y H' hy => ?_⟩
    obtain ⟨rfl, hy⟩ := hy
    have := hy xs h1
    rw [g1] at this
    cases this
    exact ⟨Ext.refl, R1, g2⟩
theorem src_lst {Z : Zx} {al : Al} {H : Hp} {n : Nat} {a : Addr} (h : al n = some a) : SrcOk Z false al H (.lst n) (Itl Z.K a) := by
  intro al1 m H1 i E1 R1
  simp only [Src.at]
  cases e : lstAt n m with
  | none => simp
  | some ys =>
    obtain ⟨xs, h1, r1⟩ := R1.lst (E1.le n a h) e
    have h1 : SqL Z.K H1 a xs := .of h1
    simp only [Option.map_some]
    cases c : ys[i]? with
    | none =>
      have : ys.length ≤ i := List.getElem?_eq_none_iff.mp c
      exact ⟨xs, h1, by rw [← Paired.len r1]; exact this⟩
    | some v =>
      obtain ⟨x, g1, g2⟩ := Paired.get? r1 c
      refine ⟨⟨xs, x, h1, g1⟩, fun y H' hy => ?_⟩
      obtain ⟨rfl, hy⟩ := hy
      have := hy xs h1
      rw [g1] at this
      cases this
      exact ⟨Ext.refl, R1, g2⟩
theorem ci_lst (h : PE X e (RE (zx X) ce)) : PI X tg e (RI (zx X) false (iLst ce)) := by
  refine PI.imp (pi_list h) fun σ H Q hq => ?_
  obtain ⟨al, m, r, s, m', R, S, ee, k⟩ := hq
  obtain ⟨v, m1, e1, ee⟩ := Res.bind_eq_ok.mp ee
  refine ⟨al, m, r, v, m1, R, S, e1, fun al1 H1 x E1 R1 rx => ?_⟩
  split at ee
  · split at ee
    · rename_i n xs e2
      cases ee
      obtain ⟨a, rfl, ha⟩ := rv_ref rx
      obtain ⟨vs, g1, g2⟩ := R1.lst ha e2
      exact ⟨a, rfl, ⟨vs, .of g1⟩, k al1 H1 _ E1 R1 (src_lst ha)⟩
    · cases ee
  · split at ee
    · rename_i t xs e2
      cases ee
      cases rx with
      | frz hf q =>
        obtain ⟨l, e', p⟩ := q.toL
        rw [e2] at e'; cases e'
        exact ⟨_, rfl, ⟨_, hf.sq⟩, k al1 H1 _ E1 R1 (src_its_f hf p)⟩
      | tup _ q => nomatch q
    · cases ee
  · cases ee
theorem ci_tup (h : PE X e (RE (zx X) ce)) : PI X tg e (RI (zx X) false (iTupl ce)) := by
  refine PI.imp (pi_tup h) fun σ H Q hq => ?_
  obtain ⟨al, m, r, s, m', R, S, ee, k⟩ := hq
  obtain ⟨v, m1, e1, ee⟩ := Res.bind_eq_ok.mp ee
  refine ⟨al, m, r, v, m1, R, S, e1, fun al1 H1 x E1 R1 rx => ?_⟩
  split at ee
  · rename_i xs e2
    cases ee
    obtain ⟨a, vs, rfl, g1, g2⟩ := rx.tup_inv e2
    exact ⟨a, rfl, ⟨vs, g1.sq⟩, k al1 H1 _ E1 R1 (src_its_t g1 g2)⟩
  · cases ee
theorem it_list {pins : List (Addr × Obj)} {s : Shared} {σ : L2.St} {H : Hp} {R : It → Hp → Prop} {a : Addr} {xs : List V} (I : Inv X pins σ H s) (hq : SqL X.K H a xs) (q : R (Itl X.K a) H) : wpAny (model X.prog X.w) X.A (pyIter (.ref a)) (PIE X pins σ tg R) X.xe s := by
  obtain ⟨its, rv, p, hz⟩ := I.list hq
  refine wpAny_pyIter_list p.isList ?_
  refine ⟨s.heap.objs.size, [s.heap.objs.size], _, _, H, rfl, I.kept (t' := s.toks) fun b o e => Heap.get?_push_of_some _ e, turn_list a _, ⟨_, Heap.get?_push_size _ rfl, rfl, rfl⟩, fun b hb => ?_, q⟩
  have e : b = s.heap.objs.size := by simpa using hb
  subst e
  exact I.fpOk (Nat.le_refl _) (I.hok.fresh (Nat.le_refl _))
theorem it_tup {pins : List (Addr × Obj)} {s : Shared} {σ : L2.St} {H : Hp} {R : It → Hp → Prop} {a : Addr} {xs : List V} (I : Inv X pins σ H s) (hq : SqT X.K H a xs) (q : R (Itt X.K a) H) : wpAny (model X.prog X.w) X.A (pyIter (.ref a)) (PIE X pins σ tg R) X.xe s := by
  obtain ⟨its, rv, p, hz⟩ := I.tuple hq
  refine wpAny_pyIter_tuple (show s.heap.IsTuple a its.toArray from p) ?_
  refine ⟨s.heap.objs.size, [s.heap.objs.size], _, _, H, rfl, I.kept (t' := s.toks) fun b o e => Heap.get?_push_of_some _ e, turn_tuple a _, ⟨_, Heap.get?_push_size _ rfl, rfl, rfl⟩, fun b hb => ?_, q⟩
  have e : b = s.heap.objs.size := by simpa using hb
  subst e
  exact I.fpOk (Nat.le_refl _) (I.hok.fresh (Nat.le_refl _))
theorem ci_seq (h : PE X e (RE (zx X) ce)) : PI X tg e (RI (zx X) false (iSeq ce)) := by
  refine ⟨fun pins s0 σ H Q I hq => ?_⟩
  obtain ⟨al, m, r, s, m', R, S, ee, k⟩ := hq
  obtain ⟨v, m1, e1, ee⟩ := Res.bind_eq_ok.mp ee
  refine thn (h.run pins s0 σ H (fun x H1 => ∃ al1, Ext al H al1 H1 ∧ Rel (zx X) al1 m1 H1 ∧ RV (zx X) al1 H1 v x) I ⟨al, m, r, v, m1, R, S, e1, fun al1 H1 x E1 R1 rx => ⟨al1, E1, R1, rx⟩⟩) fun u s1 ⟨x, H1, I1, ru, al1, E1, R1, rx⟩ => ?_
  split at ee
  · split at ee
    · rename_i n xs e2
      cases ee
      obtain ⟨a, rfl, ha⟩ := rv_ref rx
      obtain ⟨vs, g1, g2⟩ := R1.lst ha e2
      cases ru
      exact it_list I1 (.of g1) (k al1 H1 _ E1 R1 (src_lst ha))
    · cases ee
  · split at ee
    · rename_i t xs e2
      cases ee
      cases rx with
      | frz hf q =>
        obtain ⟨l, e', p⟩ := q.toL
        rw [e2] at e'; cases e'
        cases ru
        exact it_list I1 hf.sq (k al1 H1 _ E1 R1 (src_its_f hf p))
      | tup _ q => nomatch q
    · cases ee
  · split at ee
    · rename_i xs e2
      cases ee
      obtain ⟨a, vs, rfl, g1, g2⟩ := rx.tup_inv e2
      cases ru
      exact it_tup I1 g1.sq (k al1 H1 _ E1 R1 (src_its_t g1 g2))
    · cases ee
theorem src_range {Z : Zx} {al : Al} {H : Hp} (lo : Int) (n : Nat) : SrcOk Z false al H (.its (rangeL lo n)) (Itr lo n) := by
  intro al1 m H1 i E1 R1
  simp only [Src.at, rangeL, List.getElem?_map]
  by_cases hi : i < n
  · rw [List.getElem?_range hi]
    refine ⟨hi, fun x H' hy => ?_⟩
    obtain ⟨rfl, rfl⟩ := hy
    exact ⟨Ext.refl, R1, .int _⟩
  · rw [List.getElem?_eq_none (by rw [List.length_range]; omega)]
    show n ≤ i
    omega
theorem pow60 {j : Int} (h : j.natAbs < 2 ^ 60) : -(2 ^ 62) ≤ j ∧ j < 2 ^ 62 := by constructor <;> omega
theorem ci_range1 {a : Expr} {cs : CA} {p : Pos} (hg : Gl X "range") (hm : X.mg "range" = none) (ha : PA X [a] (RA (zx X) cs)) (hl : ∀ r m vs m', cs r m = .ok vs m' → vs.length = 1) (hs : starEach [a] X.env = [(false, eval a X.env)] := by rfl) : PI X tg (.Call (.Name "range" p) [a] [] pos) (RI (zx X) false (iRange cs)) := by
  refine PI.imp (pi_range1 hg hm ha hs) fun σ H Q hq => ?_
  obtain ⟨al, m, r, s, m', R, S, ee, k⟩ := hq
  obtain ⟨vs, m1, e1, ee⟩ := Res.bind_eq_ok.mp ee
  have hlen := hl _ _ _ _ e1
  refine ⟨al, m, r, vs, m1, R, S, e1, fun al1 H1 xs E1 R1 rs => ?_⟩
  split at ee
  · split at ee
    · rename_i j hj
      cases ee
      obtain ⟨x, rfl, rx⟩ := rl1 rs
      have hb := pow60 (of_decide_eq_true hj)
      exact ⟨j, by rw [rv_int rx], hb.1, hb.2, k al1 H1 _ E1 R1 (src_range 0 _)⟩
    · cases ee
  · cases hlen
  · cases ee
theorem ci_range2 {a b : Expr} {cs : CA} {p : Pos} (hg : Gl X "range") (hm : X.mg "range" = none) (ha : PA X [a, b] (RA (zx X) cs)) (hl : ∀ r m vs m', cs r m = .ok vs m' → vs.length = 2) (hs : starEach [a, b] X.env = [(false, eval a X.env), (false, eval b X.env)] := by rfl) (hs2 : starEach [b] X.env = [(false, eval b X.env)] := by rfl) :
    PI X tg (.Call (.Name "range" p) [a, b] [] pos) (RI (zx X) false (iRange cs)) := by
  refine PI.imp (pi_range2 hg hm ha hs hs2) fun σ H Q hq => ?_
  obtain ⟨al, m, r, s, m', R, S, ee, k⟩ := hq
  obtain ⟨vs, m1, e1, ee⟩ := Res.bind_eq_ok.mp ee
  have hlen := hl _ _ _ _ e1
  refine ⟨al, m, r, vs, m1, R, S, e1, fun al1 H1 xs E1 R1 rs => ?_⟩
  split at ee
  · cases hlen
  · split at ee
    · rename_i i j hj
      cases ee
      simp only [Bool.and_eq_true, decide_eq_true_eq] at hj
      obtain ⟨x, y, rfl, rx, ry⟩ := rl2 rs
      have h1 := pow60 hj.1
      have h2 := pow60 hj.2
      exact ⟨i, j, by rw [rv_int rx, rv_int ry], ⟨h1.1, h1.2, h2.1, h2.2⟩, k al1 H1 _ E1 R1 (src_range i _)⟩
    · cases ee
  · cases ee
theorem src_zip {Z : Zx} {al : Al} {H : Hp} {n1 n2 : Nat} {a b : Addr} (h1 : al n1 = some a) (h2 : al n2 = some b) : SrcOk Z true al H (.zip n1 n2) (Itz Z.K a b) := by
  intro al1 m H1 i E1 R1
  simp only [Src.at]
  cases e1 : lstAt n1 m with
  | none => simp
  | some ys =>
    cases e2 : lstAt n2 m with
    | none => simp
    | some zs =>
      obtain ⟨xs, g1, r1⟩ := R1.lst (E1.le n1 a h1) e1
      obtain ⟨ws, g2, r2⟩ := R1.lst (E1.le n2 b h2) e2
      have s1 : SqL Z.K H1 a xs := .of g1
      have s2 : SqL Z.K H1 b ws := .of g2
      simp only [Option.bind_some, Option.map_some]
      cases c1 : ys[i]? with
      | none =>
        have : ys.length ≤ i := List.getElem?_eq_none_iff.mp c1
        exact ⟨xs, ws, s1, s2, .inl (by rw [← Paired.len r1]; exact this)⟩
      | some v =>
        cases c2 : zs[i]? with
        | none =>
          have : zs.length ≤ i := List.getElem?_eq_none_iff.mp c2
          exact ⟨xs, ws, s1, s2, .inr (by rw [← Paired.len r2]; exact this)⟩
        | some w =>
          obtain ⟨x, g3, g4⟩ := Paired.get? r1 c1
          obtain ⟨y, g5, g6⟩ := Paired.get? r2 c2
          refine ⟨⟨xs, ws, x, y, s1, s2, g3, g5⟩, fun z H' hy => ?_⟩
          obtain ⟨T, x1, x2, rfl, hT, rfl, f1, f2⟩ := hy
          have q1 := f1 xs s1
          rw [g3] at q1; cases q1
          have q2 := f2 ws s2
          rw [g5] at q2; cases q2
          exact ⟨Ext.new R1 hT, Rel.new R1 hT, T, _, rfl, .inl (.inl upd_same), .cons (g4.mono (Ext.new R1 hT)) (.cons (g6.mono (Ext.new R1 hT)) .nil)⟩
theorem ci_zip {elts : List Expr} {kk : Nat} {tpos p : Pos} {e2 : Expr} {cs : CA} (hg : Gl X "zip") (hm : X.mg "zip" = none) (ha : PA X [e, e2] (RA (zx X) cs))
    (hs : starEach [e, e2] X.env = (false, eval e X.env) :: starEach [e2] X.env := by rfl) (hpl : (backTo pos (starEach [e2] X.env)).any (·.1) = false := by rfl) :
    PI X (.Tuple elts kk tpos) (.Call (.Name "zip" p) [e, e2] [] pos) (RI (zx X) true (iZip2 cs)) := by
  refine PI.imp (pi_zip hg hm ha hs hpl) fun σ H Q hq => ?_
  obtain ⟨al, m, r, s, m', R, S, ee, k⟩ := hq
  obtain ⟨vs, m1, e1, ee⟩ := Res.bind_eq_ok.mp ee
  refine ⟨al, m, r, vs, m1, R, S, e1, fun al1 H1 xs E1 R1 rs => ?_⟩
  split at ee
  · split at ee
    · rename_i n1 n2 ys zs q1 q2
      cases ee
      obtain ⟨x, y, rfl, rx, ry⟩ := rl2 rs
      obtain ⟨a, rfl, h1⟩ := rv_ref rx
      obtain ⟨b, rfl, h2⟩ := rv_ref ry
      obtain ⟨us, g1, _⟩ := R1.lst h1 q1
      obtain ⟨ws, g2, _⟩ := R1.lst h2 q2
      exact ⟨a, b, us, ws, rfl, .of g1, .of g2, k al1 H1 _ E1 R1 (src_zip h1 h2)⟩
    · cases ee
  · cases ee
theorem src_enm {Z : Zx} {al : Al} {H : Hp} {n1 : Nat} {a : Addr} (h1 : al n1 = some a) : SrcOk Z true al H (.enm n1) (Ite Z.K a) := by
  intro al1 m H1 i E1 R1
  simp only [Src.at]
  cases e1 : lstAt n1 m with
  | none => simp
  | some ys =>
    obtain ⟨xs, g1, r1⟩ := R1.lst (E1.le n1 a h1) e1
    have s1 : SqL Z.K H1 a xs := .of g1
    simp only [Option.map_some]
    cases c1 : ys[i]? with
    | none =>
      have : ys.length ≤ i := List.getElem?_eq_none_iff.mp c1
      exact ⟨xs, s1, by rw [← Paired.len r1]; exact this⟩
    | some v =>
      obtain ⟨x, g3, g4⟩ := Paired.get? r1 c1
      refine ⟨⟨xs, x, s1, g3⟩, fun z H' hy => ?_⟩
      obtain ⟨T, x1, rfl, hT, rfl, f1⟩ := hy
      have q1 := f1 xs s1
      rw [g3] at q1; cases q1
      exact ⟨Ext.new R1 hT, Rel.new R1 hT, T, _, rfl, .inl (.inl upd_same), .cons (.int _) (.cons (g4.mono (Ext.new R1 hT)) .nil)⟩
theorem ci_enm {elts : List Expr} {kk : Nat} {tpos p : Pos} {cs : CA} (hg : Gl X "enumerate") (hm : X.mg "enumerate" = none) (ha : PA X [e] (RA (zx X) cs)) (hs : starEach [e] X.env = [(false, eval e X.env)] := by rfl) :
    PI X (.Tuple elts kk tpos) (.Call (.Name "enumerate" p) [e] [] pos) (RI (zx X) true (iEnm cs)) := by
  refine PI.imp (pi_enum hg hm ha hs) fun σ H Q hq => ?_
  obtain ⟨al, m, r, s, m', R, S, ee, k⟩ := hq
  obtain ⟨vs, m1, e1, ee⟩ := Res.bind_eq_ok.mp ee
  refine ⟨al, m, r, vs, m1, R, S, e1, fun al1 H1 xs E1 R1 rs => ?_⟩
  split at ee
  · split at ee
    · rename_i n1 ys q1
      cases ee
      obtain ⟨x, rfl, rx⟩ := rl1 rs
      obtain ⟨a, rfl, h1⟩ := rv_ref rx
      obtain ⟨us, g1, _⟩ := R1.lst h1 q1
      exact ⟨a, us, rfl, .of g1, k al1 H1 _ E1 R1 (src_enm h1)⟩
    · cases ee
  · cases ee
/-! ### comprehensions -/
theorem wipeM_length (r : Sl) : ∀ vs : List Nat, (wipeM r vs).length = r.length
  | [] => rfl
  | v :: vs => by unfold wipeM; rw [List.length_set, wipeM_length r vs]
theorem wipe_rsl {Z : Zx} {al : Al} {H : Hp} {r : Sl} {σ : L2.St} (S : RSl Z al H r σ) (vs : List Nat) : RSl Z al H (wipeM r vs) (wipe σ vs) := by
  induction vs with
  | nil => exact S
  | cons v vs ih =>
    refine ⟨by unfold wipeM wipe; rw [List.length_set, List.length_set]; exact ih.1, fun i w q => ?_⟩
    unfold wipeM at q
    unfold wipe
    by_cases hi : v = i
    · subst hi
      by_cases hl : v < (wipeM r vs).length
      · rw [List.getElem?_set_self hl] at q; cases q
      · rw [List.getElem?_eq_none (by rw [List.length_set]; omega)] at q; cases q
    · rw [List.getElem?_set_ne hi] at q ⊢
      exact ih.2 i w q
theorem wipe_same {σ σ' : L2.St} {vs : List Nat} (hl : σ'.length = σ.length) (h : ∀ j, j ∉ vs → σ'[j]? = σ[j]?) : wipe σ' vs = wipe σ vs := by
  refine List.ext_getElem? fun j => ?_
  have key : ∀ (ws : List Nat) (τ : L2.St), (wipe τ ws)[j]? = if j ∈ ws then (if j < τ.length then some none else none) else τ[j]? := by
    intro ws τ
    induction ws with
    | nil => simp [wipe]
    | cons w ws ih =>
      unfold wipe
      by_cases hj : w = j
      · subst hj
        rw [if_pos List.mem_cons_self]
        by_cases hl : w < τ.length
        · rw [List.getElem?_set_self (by rw [wipe_length]; exact hl), if_pos hl]
        · rw [List.getElem?_eq_none (by rw [List.length_set, wipe_length]; omega), if_neg hl]
      · rw [List.getElem?_set_ne hj, ih]
        simp [Ne.symm hj]
  rw [key, key, hl]
  split
  · rfl
  · rename_i hj
    exact h j hj
theorem wipe_wipe (σ : L2.St) (vs : List Nat) : wipe (wipe σ vs) vs = wipe σ vs := by
  refine wipe_same (wipe_length σ vs) fun j hj => ?_
  induction vs with
  | nil => rfl
  | cons w ws ih =>
    unfold wipe
    rw [List.mem_cons, not_or] at hj
    rw [List.getElem?_set_ne (Ne.symm hj.1)]
    exact ih hj.2
theorem cts_nil : PTs X [] (RT (zx X) cTrue) := ⟨fun pins s σ H Q I h => by
  obtain ⟨al, m, r, b, m', R, S, e, k⟩ := h
  cases e
  exact pts_nil.run pins s σ H Q I (k al H Ext.refl R)⟩
theorem cts_one {c : Expr} {cc : CE} (h : PT X c (RT (zx X) cc)) : PTs X [c] (RT (zx X) cc) := pts_one h
theorem frm_D {al al' : Al} {H H' : Hp} {D : Addr} {o : HO} (E : Ext al H al' H') (h : H D = some o) (n : ∀ k, al k ≠ some D) : H' D = some o ∧ ∀ k, al' k ≠ some D := E.frm D o h n
/-- the list of the comprehension, not yet in the small heap, is written -/
theorem e0_D {al : Al} {H : Hp} {D : Addr} {xs ys : List V} (h : H D = some (.lst xs)) : Ext0 al H al (upd H D (.lst ys)) :=
  ⟨fun _ _ e => e, fun b z e => by rw [upd_ne fun q => by rw [q, h] at e; cases e]; exact e, fun b z u e => by rw [upd_ne fun q => by rw [q, h] at e; cases e]; exact e⟩
theorem rel_D {Z : Zx} {al : Al} {m : MH} {H : Hp} (R : Rel Z al m H) {D : Addr} {xs ys : List V} (h : H D = some (.lst xs)) (n : ∀ k, al k ≠ some D) : Rel Z al m (upd H D (.lst ys)) := by
  refine ⟨fun k o e => ?_, R.dom, R.inj⟩
  obtain ⟨a, h1, h2⟩ := R.has k o e
  exact ⟨a, h1, h2.stay0 (e0_D h) (upd_ne fun q => n k (by rw [← q]; exact h1))⟩
/-- .. seen from ahead of its making -/
theorem ext_D {al0 al : Al} {H0 H : Hp} {D : Addr} {xs ys : List V} (E : Ext al0 H0 al H) (h0 : H0 D = none) (h : H D = some (.lst xs)) (n : ∀ k, al k ≠ some D) : Ext al0 H0 al (upd H D (.lst ys)) :=
  ⟨E.le, fun b z e => (e0_D (al := al) h).tup b z (E.tup b z e), fun b z u e => (e0_D (al := al) h).frz b z u (E.frz b z u e), fun b o e k => by
    obtain ⟨h1, h2⟩ := E.frm b o e k
    exact ⟨by rw [upd_ne fun q => by rw [q, h0] at e; cases e]; exact h1, h2⟩⟩
theorem ext_D0 {Z : Zx} {al : Al} {m : MH} {H : Hp} (R : Rel Z al m H) {D : Addr} {ys : List V} (h0 : H D = none) : Ext al H al (upd H D (.lst ys)) := Ext.new R h0
theorem ext_lc {iter elt : Expr} {ifs : List Expr} {wk : Bool} {ci : CI} {g : CG} {vs ws : List Nat} {cc ce : CE} (hv : ∀ i ∈ ws, i ∈ vs) {σ : L2.St} {H : Hp} {Q : VK} (h : RE (zx X) (cComp ci vs g cc ce) σ H Q) :
    tLc (RI (zx X) wk ci) (RGx (zx X) wk ws g) (RT (zx X) cc) (RE (zx X) ce) vs σ H Q := by
  obtain ⟨al, m, r, v, m', R, S, e, k⟩ := h
  obtain ⟨s, m1, e1, e⟩ := Res.bind_eq_ok.mp e
  obtain ⟨xs, m2, e2, e⟩ := Res.bind_eq_ok.mp e
  refine ⟨al, m, r, s, m1, R, S, e1, fun al1 H1 J E1 R1 sj D hD => ?_⟩
  unfold newL at e
  split at e
  · rename_i hz
    cases e
    -- the state between two turns
    let W : Nat → Nat → Hp → Prop := fun i n H2 => ∃ al2 m3 acc avs, Ext al1 H1 al2 H2 ∧ Rel (zx X) al2 m3 H2 ∧ (∀ k, al2 k ≠ some D) ∧ H2 D = some (.lst avs) ∧ RL (zx X) al2 H2 acc avs ∧ compN s g cc ce (wipeM r vs) n i acc m3 = .ok xs m2
    have S1 : ∀ {al2 : Al} {H2 : Hp}, Ext al1 H1 al2 H2 → RSl (zx X) al2 H2 (wipeM r vs) (wipe σ vs) := fun E2 => wipe_rsl (S.mono (E1.trans E2)) vs
    refine ⟨W, ⟨big, al1, m1, [], [], Ext.new R1 hD, Rel.new R1 hD, R1.fresh hD, upd_same, .nil, e2⟩, ?_⟩
    rintro i n H2 ⟨al2, m3, acc, avs, E2, R2, nD, hD2, ra, ec⟩
    have hacc : ∀ (n i : Nat) (acc : List MV) (m3 : MH), compN s g cc ce (wipeM r vs) n i acc m3 = .ok xs m2 → acc.length ≤ xs.length := by
      intro n
      induction n with
      | zero => intro i acc m3 ec; cases ec
      | succ n ih =>
        intro i acc m3 ec
        unfold compN at ec
        split at ec
        · cases ec
        · cases ec; exact Nat.le_refl _
        · obtain ⟨r3, m4, q1, ec⟩ := Res.bind_eq_ok.mp ec
          obtain ⟨x, m5, q2, ec⟩ := Res.bind_eq_ok.mp ec
          split at ec
          · obtain ⟨y, m6, q3, ec⟩ := Res.bind_eq_ok.mp ec
            have := ih _ _ _ ec
            rw [List.length_append, List.length_singleton] at this
            omega
          · exact ih _ _ _ ec
          · cases ec
    cases n with
    | zero => cases ec
    | succ n =>
      unfold compN at ec
      have hj := sj al2 m3 H2 i E2 R2
      split at ec
      · cases ec
      · rename_i hx
        rw [hx] at hj
        cases ec
        refine .inl ⟨hj, ?_⟩
        -- the list comes into the small heap
        have al3 : Al := alAdd al2 m2.length D
        have E3 : Ext al H (alAdd al2 m2.length D) H2 := by
          have E12 := E1.trans E2
          refine ⟨fun n a ha => ?_, E12.tup, E12.frz, fun a o ha nn => ?_⟩
          · have h1 := E12.le n a ha
            unfold alAdd
            rw [if_neg (by have := R2.dom n a h1; omega)]
            exact h1
          · obtain ⟨h1, h2⟩ := E12.frm a o ha nn
            refine ⟨h1, fun k hk => ?_⟩
            unfold alAdd at hk
            split at hk
            · cases hk
              obtain ⟨h3, _⟩ := E1.frm D o ha nn
              rw [hD] at h3; cases h3
            · exact h2 k hk
        have e0 : Ext0 al2 H2 (alAdd al2 m2.length D) H2 := ⟨fun n a ha => by
          unfold alAdd
          rw [if_neg (by have := R2.dom n a ha; omega)]
          exact ha, fun _ _ h => h, fun _ _ _ h => h⟩
        have R3 : Rel (zx X) (alAdd al2 m2.length D) (m2 ++ [.lst xs]) H2 := by
          refine ⟨fun n ob e => ?_, fun n a e => ?_, fun n n' a e e' => ?_⟩
          · by_cases hn : n < m2.length
            · rw [List.getElem?_append_left hn] at e
              obtain ⟨a, h1, h2⟩ := R2.has n ob e
              exact ⟨a, e0.le n a h1, h2.stay0 e0 rfl⟩
            · rw [List.getElem?_append_right (by omega)] at e
              have q : n - m2.length = 0 := by
                cases q : n - m2.length with
                | zero => rfl
                | succ j => rw [q] at e; simp at e
              rw [q] at e
              simp at e
              subst e
              have q2 : n = m2.length := by omega
              subst q2
              exact ⟨D, by unfold alAdd; rw [if_pos rfl], .lst hD2 (RL.mono0 e0 ra)⟩
          · unfold alAdd at e
            rw [List.length_append, List.length_singleton]
            split at e
            · omega
            · have := R2.dom n a e; omega
          · unfold alAdd at e e'
            split at e
            · split at e'
              · omega
              · cases e
                exact absurd e' (nD n')
            · split at e'
              · cases e'
                exact absurd e (nD n)
              · exact R2.inj n n' a e e'
        exact k _ _ _ E3 R3 (.ref (by unfold alAdd; rw [if_pos rfl]))
      · rename_i v hx
        rw [hx] at hj
        obtain ⟨r3, m4, q1, ec⟩ := Res.bind_eq_ok.mp ec
        obtain ⟨x, m5, q2, ec⟩ := Res.bind_eq_ok.mp ec
        refine .inr ⟨hj.1, W (i + 1) n, fun H' hn => ⟨n, Nat.lt_succ_self n, hn⟩, fun y H' hy => ?_⟩
        obtain ⟨E3, R3, rv⟩ := hj.2 y H' hy
        obtain ⟨d3, n3⟩ := frm_D E3 hD2 nD
        refine ⟨al2, m3, wipeM r vs, v, r3, m4, R3, S1 (E2.trans E3), rv, q1, fun al4 H4 σ4 E4 R4 S4 hl4 f4 => ?_⟩
        refine ⟨wipe_same hl4 (fun j hj => f4 j fun z => hj (hv j z)) |>.trans (wipe_wipe σ vs), ?_⟩
        obtain ⟨d4, n4⟩ := frm_D E4 d3 n3
        split at ec
        · refine ⟨al4, m4, r3, true, m5, R4, S4, q2, fun al5 H5 E5 R5 => if1 ?_⟩
          obtain ⟨d5, n5⟩ := frm_D E5 d4 n4
          obtain ⟨w, m6, q3, ec⟩ := Res.bind_eq_ok.mp ec
          refine ⟨al5, m5, r3, w, m6, R5, S4.mono E5, q3, fun al6 H6 z E6 R6 rz => ?_⟩
          obtain ⟨d6, n6⟩ := frm_D E6 d5 n5
          have E26 := E3.trans (E4.trans (E5.trans E6))
          refine ⟨avs, d6, ?_, al6, m6, acc ++ [w], avs ++ [z], ext_D (E2.trans E26) hD d6 n6, rel_D R6 d6 n6, n6, upd_same, RL.mono0 (e0_D d6) (Paired.append (RL.mono E26 ra) (.cons rz .nil)), ec⟩
          have := hacc _ _ _ _ ec
          rw [List.length_append, List.length_singleton] at this
          have hz' : xs.length ≤ 1000000 := of_decide_eq_true hz
          rw [← Paired.len ra, sizeLine_eq]
          omega
        · refine ⟨al4, m4, r3, false, m5, R4, S4, q2, fun al5 H5 E5 R5 => if0 ?_⟩
          obtain ⟨d5, n5⟩ := frm_D E5 d4 n4
          have E25 := E3.trans (E4.trans E5)
          exact ⟨al5, m5, acc, avs, E2.trans E25, R5, n5, d5, RL.mono E25 ra, ec⟩
        · cases ec
  · cases e
end
end Co

namespace Co
open PySem PySem.Spec PyProof.Rows L2
section
variable {X : Cx} {elt tg iter : Expr} {ifs : List Expr} {scope : Scope} {own : List (Str × Nat)} {pos : Pos} {wk : Bool} {ci : CI} {g : CG} {ws : List Nat} {cc ce : CE}
theorem ce_comp (hc : X.calm = true) (hN : X.N.Nodup) (hv : ∀ i ∈ ws, i ∈ own.map (·.2)) (hi : PI X tg iter (RI (zx X) wk ci)) (ok : BlkOk X.N X.env.scope scope own)
    (hg : ∀ (s : Shared) (H : Hp) (C : Addr) (cl : List (Str × Addr)) (fp : List Addr), PG (X.blk s H scope (compEnvC scope cl C X.env) fp) tg (RGx (zx X) wk ws g)) (ht : ∀ (s : Shared) (H : Hp) (C : Addr) (cl : List (Str × Addr)) (fp : List Addr), PTs (X.blk s H scope (compEnvC scope cl C X.env) fp) ifs (RT (zx X) cc))
    (he : ∀ (s : Shared) (H : Hp) (C : Addr) (cl : List (Str × Addr)) (fp : List Addr), PE (X.blk s H scope (compEnvC scope cl C X.env) fp) elt (RE (zx X) ce)) (hs : ∀ x, foldedSetIterable iter X.env x = pure x := by intro _; rfl) :
    PE X (.ListComp elt [⟨tg, iter, ifs, 0⟩] scope pos) (RE (zx X) (cComp ci (own.map (·.2)) g cc ce)) :=
  PE.imp (pe_lc hc hN hi ok hg ht he hs) fun _ _ _ h => ext_lc (iter := iter) (elt := elt) (ifs := ifs) hv h
theorem cs_setLc {i : Nat} {y : Str} {py spos : Pos} (hc : X.calm = true) (hN : X.N.Nodup) (hv : ∀ i ∈ ws, i ∈ own.map (·.2)) (hy : X.N[i]? = some y) (hyl : X.env.scope.names.lookup y = some .local)
    (hsw : swapsWith (.ListComp elt [⟨tg, iter, ifs, 0⟩] scope pos) (some (.Name y py)) spos.line X.env = pure true) (hi : PI X tg iter (RI (zx X) wk ci)) (ok : BlkOk X.N X.env.scope scope own)
    (hg : ∀ (s : Shared) (H : Hp) (C : Addr) (cl : List (Str × Addr)) (fp : List Addr), PG (X.blk s H scope (compEnvC scope cl C X.env) fp) tg (RGx (zx X) wk ws g)) (ht : ∀ (s : Shared) (H : Hp) (C : Addr) (cl : List (Str × Addr)) (fp : List Addr), PTs (X.blk s H scope (compEnvC scope cl C X.env) fp) ifs (RT (zx X) cc))
    (he : ∀ (s : Shared) (H : Hp) (C : Addr) (cl : List (Str × Addr)) (fp : List Addr), PE (X.blk s H scope (compEnvC scope cl C X.env) fp) elt (RE (zx X) ce)) (hs : ∀ x, foldedSetIterable iter X.env x = pure x := by intro _; rfl) :
    PS X (.Assign [.Name y py] (.ListComp elt [⟨tg, iter, ifs, 0⟩] scope pos) spos) (RS (zx X) (sAsg (cComp ci (own.map (·.2)) g cc ce) (gNm i))) := by
  refine PS.imp (ps_setLc hc hN hy hyl hsw hi ok hg ht he hs) fun D σ H h => ?_
  exact ext_lc (iter := iter) (elt := elt) (ifs := ifs) hv (show RE (zx X) (cComp ci (own.map (·.2)) g cc ce) σ H _ from by
    obtain ⟨al, m, r, f, m', R, S, e, k⟩ := h
    obtain ⟨x, m1, e1, e⟩ := Res.bind_eq_ok.mp e
    obtain ⟨r1, m2, e2, e⟩ := Res.bind_eq_ok.mp e
    cases e2
    cases e
    exact ⟨al, m, r, x, _, R, S, e1, fun al1 H1 a E1 R1 ra => k al1 H1 E1 R1 _ List.length_set ((S.mono E1).set ra i)⟩)
end
/-! ### a def by its body -/
theorem start_rsl {Z : Zx} {al : Al} {H : Hp} {N : List Str} {as : List MV} {vs : List V} (r : RL Z al H as vs) : RSl Z al H (slots N.length as) (L2.start N vs) := by
  have hl := Paired.len r
  refine ⟨by unfold slots L2.start; simp [hl], fun i v e => ?_⟩
  unfold slots at e
  unfold L2.start
  by_cases hi : i < as.length
  · rw [List.getElem?_append_left (by simpa using hi), List.getElem?_map] at e
    rw [List.getElem?_append_left (by rw [List.length_map, ← hl]; exact hi), List.getElem?_map]
    cases q : as[i]? with
    | none => rw [q] at e; cases e
    | some w =>
      rw [q] at e
      cases e
      obtain ⟨x, h1, h2⟩ := Paired.get? r q
      exact ⟨x, by rw [h1]; rfl, h2⟩
  · rw [List.getElem?_append_right (by simpa using hi), List.getElem?_replicate] at e
    split at e <;> cases e
section
variable {P : Program} {w : World} {K : PySem.W.Frag} {mg : Str → Option Value} {base : Heap}
abbrev FnP (K : PySem.W.Frag) (x qual : Str) (st : Stmt) (f : Addr) (fd : FuncData) : Prop := FunD K x qual (defArgs st) (defBody st) (defScope st) [] [] f fd
theorem fn_ok {x qual : Str} {st : Stmt} {f : Addr} {fd : FuncData} {N ps : List Str} {k n : Nat} {body : CS} (F : FnP K x qual st f fd) (S : FnScope N ps (defScope st)) (hn : N.length = n)
    (hb : ∀ (cdv : Value) (A : Around) (outer : List Env) (s : Shared) (H : Hp) (E : XK), Room k (A.deeper (envOfC qual (defScope st) s.heap.objs.size f cdv)) → PSs (cxOf CX0 P w K mg base N qual (defScope st) f cdv A outer s H E).nox (defBody st) (RS ⟨P, w, K, mg⟩ body)) :
    FnOk P w K mg base CX0 (k + 1) f fd ps (spOf ⟨P, w, K, mg⟩ (runB n body) ps.length) := by
  refine F.ok S (fun vs H Q E h => h.1) (fun cdv A outer s H vs Q E hr h => ?_)
  refine ⟨RS ⟨P, w, K, mg⟩ body, PSs.nox (hb cdv A outer s H E hr), ?_⟩
  obtain ⟨hl, al, m, as, v, m', R, rs, e, k⟩ := h
  obtain ⟨fl, m1, e1, e⟩ := Res.bind_eq_ok.mp e
  refine ⟨al, m, slots n as, fl, m1, R, by rw [← hn]; exact start_rsl rs, e1, ?_⟩
  intro al1 H1 E1 R1
  cases fl with
  | rt x => cases e; exact fun y ry => k al1 H1 y E1 R1 ry
  | nx r => cases e; exact fun σ' _ _ => k al1 H1 _ E1 R1 .non
  | bk r => cases e
  | ct r => cases e
end
/-! ### the head's hook, with further facts -/
def tupBD (x : Str) (vs : List He.Dv) (K : PySem.W.Frag) : Bool := match K.lookup (He.ga K x) with
  | some ⟨.type c, none, .seq its _, _⟩ => decide (c = "tuple") && (decide (its.size ≤ sizeLine) && He.relAll (vs.map (He.Dv.v K)) its.toList)
  | _ => false
theorem tupBD_ok {K : PySem.W.Frag} {x : Str} {vs : List He.Dv} (h : tupBD x vs K = true) (H : Hp) : TD K H (He.ga K x) (vs.map (He.Dv.v K)) := by
  unfold tupBD at h
  split at h
  · rename_i c its n sl q
    obtain ⟨h1, h2⟩ := He.ba h
    obtain ⟨h3, h4⟩ := He.ba h2
    exact .inr ⟨_, its, n, q, congrArg Value.type (of_decide_eq_true h1), rfl, rfl, of_decide_eq_true h3, He.relAll_ok h4⟩
  · cases h
abbrev AlX : Type := Bool × He.AlD
def obsX (xf : List (PySem.W.Frag → Bool)) (fa : List He.Fa) (fn : List He.DefD) (K : PySem.W.Frag) : AlX := (xf.all fun f => f K, He.obsD fa fn K)
def obsXG (n : Nat) (xf : List (PySem.W.Frag → Bool)) (fa : List He.Fa) (fn : List He.DefD) (g : Addr → Option Obj) : AlX := obsX xf fa fn (He.frG g (He.asD g n))
def SaysX (xf : List (PySem.W.Frag → Bool)) (fa : List He.Fa) (fn : List He.DefD) (K : PySem.W.Frag) : Prop := obsX xf fa fn K = (true, He.valD fn)
def hookX (n : Nat) (xf : List (PySem.W.Frag → Bool)) (fa : List He.Fa) (fn : List He.DefD) : PySem.W.Hook where
  α := AlX
  obs := fun s => obsXG n xf fa fn s.heap.get?
  val := fun _ => (true, He.valD fn)
  says := fun _ h => ∃ K : PySem.W.Frag, K.In h ∧ SaysX xf fa fn K
  of := fun _ _ e => ⟨_, He.frG_in, e⟩
  keeps := fun _ _ _ ⟨K, hK, c⟩ k => ⟨K, PySem.W.Frag.In.keeps hK k, c⟩
theorem obsXG_eq {n : Nat} {xf : List (PySem.W.Frag → Bool)} {fa : List He.Fa} {fn : List He.DefD} {g : Addr → Option Obj} {s : Shared} (h : ∀ a, g a = s.heap.get? a) : obsXG n xf fa fn g = (hookX n xf fa fn).obs s := by
  have e : g = s.heap.get? := funext h
  rw [e] <;> rfl
section
variable {xf : List (PySem.W.Frag → Bool)} {fa : List He.Fa} {fn : List He.DefD} {K : PySem.W.Frag}
theorem SaysX.d (c : SaysX xf fa fn K) : He.SaysD fa fn K := congrArg (fun z : AlX => z.2) c
theorem SaysX.x (c : SaysX xf fa fn K) (i : Nat) {f : PySem.W.Frag → Bool} (h : xf[i]? = some f) : f K = true := by
  have c1 : (xf.all fun f => f K) = true := congrArg (fun z : AlX => z.1) c
  exact List.all_eq_true.mp c1 f (List.mem_of_getElem? h)
end
end Co

namespace Co
open PySem PySem.Spec PyProof.Rows L2
theorem cv {X : Cx} (i : Nat) {x : Str} {pos : Pos} (hN : X.N[i]? = some x := by rfl) (hv : Vis X.env.scope x := by first | exact Or.inl rfl | exact Or.inr (Or.inl rfl) | exact Or.inr (Or.inr rfl)) (hd : (x == ("__debug__" : Str)) = false := by decide) (hcd : (x == ("__classdict__" : Str)) = false := by decide) : PE X (.Name x pos) (RE (zx X) (cVar i)) :=
  ce_var hN hv hd hcd
theorem bb_len : bootBuiltins "len" = some (.builtin "len") := by decide +kernel
theorem bb_min : bootBuiltins "min" = some (.builtin "min") := by decide +kernel
theorem bb_max : bootBuiltins "max" = some (.builtin "max") := by decide +kernel
theorem bb_abs : bootBuiltins "abs" = some (.builtin "abs") := by decide +kernel
theorem bb_sum : bootBuiltins "sum" = some (.builtin "sum") := by decide +kernel
theorem bb_all : bootBuiltins "all" = some (.builtin "all") := by decide +kernel
theorem bb_any : bootBuiltins "any" = some (.builtin "any") := by decide +kernel
theorem bb_sorted : bootBuiltins "sorted" = some (.builtin "sorted") := by decide +kernel
theorem bb_tuple : bootBuiltins "tuple" = some (.type "tuple") := by decide +kernel
theorem bb_list : bootBuiltins "list" = some (.type "list") := by decide +kernel
theorem bb_int : bootBuiltins "int" = some (.type "int") := by decide +kernel
theorem bb_bool : bootBuiltins "bool" = some (.type "bool") := by decide +kernel
theorem bb_str : bootBuiltins "str" = some (.type "str") := by decide +kernel
/-! ### the law -/
theorem ints_rvs {Z : Zx} {al : Al} {H : Hp} : ∀ ns : List Int, RVs Z al H (MV.ofL (ns.map .int)) (ns.map V.int)
  | [] => .nil
  | n :: r => .cons (.int n) (ints_rvs r)
theorem rel_nil {Z : Zx} {H : Hp} : Rel Z (fun _ => none) [] H := ⟨fun n o e => by simp at e, fun n a e => (by cases e), fun n n' a e => (by cases e)⟩
theorem law_true (Z : Zx) (H : Hp) (a : Addr) (ns : List Int) (hl : ns.length ≤ 63) (hO : Only H) (hS : SqL Z.K H a (ns.map V.int)) {f : BL} (hf : Good f) : RC Z f [.ref a] H (fun v _ => v = .bl true) := by
  obtain ⟨m, e⟩ := hf ns hl
  have fz : FzL Z.K H a (ns.map V.int) := by
    rcases hS with (h | ⟨o, h⟩) | h
    · rcases hO a with q | ⟨o, xs, q⟩
      · rw [q] at h; cases h
      · rw [q] at h; cases h
    · exact .inl ⟨o, h⟩
    · exact .inr h
  exact ⟨fun _ => none, [], [script ns], .bl true, m, rel_nil, .cons (.frz fz (ints_rvs ns)) .nil, e, fun al H' x E R rv => rv_bl rv⟩
end Co

namespace Co
open PySem PySem.Spec PyProof.Rows L2
section
variable {X : Cx}
theorem ints_rl {Z : Zx} {al : Al} {H : Hp} : ∀ ns : List Int, RL Z al H (ns.map .int) (ns.map V.int)
  | [] => .nil
  | n :: r => .cons (.int n) (ints_rl r)
theorem first_k : ∀ {ns : List Int} {k : Int}, k ∈ ns → ∃ j : Nat, ns[j]? = some k ∧ (∀ i : Nat, i < j → ns[i]? ≠ some k) ∧ ns.eraseIdx j = ns.erase k
  | [], k, h => by simp at h
  | a :: l, k, h => by
    by_cases e : a = k
    · subst e
      exact ⟨0, rfl, fun i hi => by omega, by simp⟩
    · have hm : k ∈ l := by
        rcases List.mem_cons.mp h with x | x
        · exact absurd x.symm e
        · exact x
      obtain ⟨j, h1, h2, h3⟩ := first_k hm
      refine ⟨j + 1, h1, fun i hi => ?_, ?_⟩
      · cases i with
        | zero => simpa using e
        | succ i => exact h2 i (by omega)
      · have hb : (a == k) = false := by simpa using e
        rw [List.eraseIdx_cons_succ, h3, List.erase_cons, hb]
        rfl
theorem mc_rem : MtR X "list.remove" (RM (zx X) mRem) := by
  intro pins s σ H x xs v us Q I rx rxs h
  obtain ⟨al, m, a, as, w, m', R, ra, rs, e, k⟩ := h
  unfold mRem at e
  split at e
  · rename_i n kk
    split at e
    · rename_i ns e1
      split at e
      · rename_i hc
        cases e
        obtain ⟨ys, e2, e3⟩ := Option.bind_eq_some_iff.mp e1
        obtain ⟨p, rfl, hp⟩ := rv_ref ra
        obtain ⟨vs, h1, h2⟩ := R.lst hp e2
        obtain ⟨y, rfl, ry⟩ := rl1 rs
        rw [asInts_rl h2 e3] at h1
        obtain ⟨j, j1, j2, j3⟩ := first_k (show kk ∈ ns by simpa using hc)
        refine mt_remove pins s σ H _ _ v us Q I rx rxs ⟨p, ns, kk, j, rfl, by rw [rv_int ry], h1, j1, j2, ?_⟩
        rw [j3]
        exact k al _ _ (Ext.wr R hp h1 trivial) (Rel.wr R hp h1 trivial (.lst upd_same (ints_rl _))) .non
      · cases e
    · cases e
  · cases e
end
end Co

namespace Co
open PySem PySem.Spec PyProof.Rows L2
/-! ### a dict is locked, and unlocked -/
/-- what values lean on, but for locked dicts -/
structure Ext1 (al : Al) (H : Hp) (al' : Al) (H' : Hp) : Prop where
  le : ∀ n a, al n = some a → al' n = some a
  ft : ∀ a o xs, H a = some (.frz o (.tup xs)) → H' a = some (.frz o (.tup xs))
  fl : ∀ a o xs, H a = some (.frz o (.lst xs)) → H' a = some (.frz o (.lst xs))
section
variable {Z : Zx} {al al' : Al} {H H' : Hp}
mutual
theorem RV.mono1 (e : Ext1 al H al' H') : ∀ {v : MV} {x : V}, RV Z al H v x → RV Z al' H' v x
  | _, _, .non => .non
  | _, _, .bl b => .bl b
  | _, _, .int i => .int i
  | _, _, .str i => .str i
  | _, _, .ref h => .ref (e.le _ _ h)
  | _, _, .tup h r => .tup (h.imp (fun ⟨o, q, d⟩ => ⟨o, e.ft _ _ _ q, d⟩) id) (RVs.mono1 e r)
  | _, _, .frz h r => .frz (h.imp (fun ⟨o, q⟩ => ⟨o, e.fl _ _ _ q⟩) id) (RVs.mono1 e r)
theorem RVs.mono1 (e : Ext1 al H al' H') : ∀ {v : MV} {x : List V}, RVs Z al H v x → RVs Z al' H' v x
  | _, _, .nil => .nil
  | _, _, .cons h r => .cons (RV.mono1 e h) (RVs.mono1 e r)
end
theorem RL.mono1 (e : Ext1 al H al' H') {l : List MV} {xs : List V} (h : RL Z al H l xs) : RL Z al' H' l xs := Paired.imp (fun _ _ r => r.mono1 e) h
theorem EntR.mono1 (e : Ext1 al H al' H') {p : MV × MV} {q : DE} (h : EntR Z al H p q) : EntR Z al' H' p q :=
  let ⟨h1, h2, h3, h4, x, h5, h6⟩ := h
  ⟨h1, h2, h3, h4.mono1 e, x, h5, h6.mono1 e⟩
theorem OR.stay1 (e : Ext1 al H al' H') {o : MO} {a : Addr} (h : OR Z al H o a) (s : H' a = H a) : OR Z al' H' o a := by
  cases h with
  | lst h r => exact .lst (s.trans h) (RL.mono1 e r)
  | dct h r => exact .dct (s.trans h) (Paired.imp (fun _ _ q => EntR.mono1 e q) r)
  | dctL h r => exact .dctL (s.trans h) (Paired.imp (fun _ _ q => EntR.mono1 e q) r)
  | ins h c r => exact .ins (s.trans h) c (Paired.imp (fun _ _ q => ⟨q.1, q.2.mono1 e⟩) r)
theorem RSl.mono1 {r : Sl} {σ : L2.St} (h : RSl Z al H r σ) (e : Ext1 al H al' H') : RSl Z al' H' r σ :=
  ⟨h.1, fun i v q => let ⟨x, h1, h2⟩ := h.2 i v q; ⟨x, h1, h2.mono1 e⟩⟩
/-- the object of the small heap at n is laid anew; what stood there was neither a tuple nor a frozen one -/
theorem Rel.put1 {m : MH} (R : Rel Z al m H) {n : Nat} {a : Addr} {o : HO} {ob : MO} (h : al n = some a) (e : Ext1 al H al (upd H a o)) (hn : OR Z al (upd H a o) ob a) : Rel Z al (m.set n ob) (upd H a o) := by
  refine ⟨fun k v q => ?_, fun k b q => by rw [List.length_set]; exact R.dom k b q, R.inj⟩
  by_cases hk : n = k
  · subst hk
    rw [List.getElem?_set_self (R.dom n a h)] at q
    cases q
    exact ⟨a, h, hn⟩
  · rw [List.getElem?_set_ne hk] at q
    obtain ⟨b, h1, h2⟩ := R.has k v q
    exact ⟨b, h1, h2.stay1 e (upd_ne fun z => hk (R.inj n k b (by rw [z]; exact h) h1))⟩
theorem ext1_upd {a : Addr} {o : HO} (h1 : ∀ ob xs, H a ≠ some (.frz ob (.tup xs))) (h2 : ∀ ob xs, H a ≠ some (.frz ob (.lst xs))) : Ext1 al H al (upd H a o) :=
  ⟨fun _ _ q => q, fun b ob xs q => by rw [upd_ne fun z => h1 ob xs (by rw [← z]; exact q)]; exact q, fun b ob xs q => by rw [upd_ne fun z => h2 ob xs (by rw [← z]; exact q)]; exact q⟩
/-- from an unlocked dict through a locked time to an unlocked one -/
theorem ext_lock {n : Nat} {a : Addr} {u : HO} {od : Obj} (h : al n = some a) (hu : H a = some u) (mu : Mut (some u)) (E : Ext al (upd H a (.frz od u)) al' H') : Ext al H al' (upd H' a u) := by
  have ne : ∀ b o, H b = some o → ¬ Mut (some o) → b ≠ a := fun b o q nm z => by rw [z, hu] at q; cases q; exact nm mu
  refine ⟨E.le, fun b xs q => ?_, fun b o w q => ?_, fun b o q nn => ?_⟩
  · have hb := ne b _ q (fun z => z)
    rw [upd_ne hb]
    exact E.tup b xs (by rw [upd_ne hb]; exact q)
  · have hb := ne b _ q (fun z => z)
    rw [upd_ne hb]
    exact E.frz b o w (by rw [upd_ne hb]; exact q)
  · have hb : b ≠ a := fun z => nn n (by rw [z]; exact h)
    obtain ⟨h1, h2⟩ := E.frm b o (by rw [upd_ne hb]; exact q) nn
    exact ⟨by rw [upd_ne hb]; exact h1, h2⟩
end
section
variable {X : Cx}
/-- the locked heaps -/
theorem lock_rel {al : Al} {m : MH} {H : Hp} {n : Nat} {a : Addr} {kvs : List (MV × MV)} {es : List DE} (R : Rel (zx X) al m H) (h : al n = some a) (hd : H a = some (DO (zx X) a es)) (hp : Paired (EntR (zx X) al H) kvs es) (od : Obj) :
    Ext1 al H al (upd H a (.frz od (DO (zx X) a es))) ∧ Rel (zx X) al (m.set n (.dct true kvs)) (upd H a (.frz od (DO (zx X) a es))) := by
  have e : Ext1 al H al (upd H a (.frz od (DO (zx X) a es))) := ext1_upd (fun ob xs q => by rw [hd] at q; cases q) (fun ob xs q => by rw [hd] at q; cases q)
  exact ⟨e, R.put1 h e (.dctL upd_same (Paired.imp (fun _ _ q => EntR.mono1 e q) hp))⟩
theorem unlock_rel {al al' : Al} {m : MH} {H H' : Hp} {n : Nat} {a : Addr} {od : Obj} {kvs : List (MV × MV)} {es : List DE} (R : Rel (zx X) al' m H') (h : al' n = some a) (hd : H' a = some (.frz od (DO (zx X) a es))) (hp : Paired (EntR (zx X) al' H') kvs es) :
    Ext1 al' H' al' (upd H' a (DO (zx X) a es)) ∧ Rel (zx X) al' (m.set n (.dct false kvs)) (upd H' a (DO (zx X) a es)) := by
  have e : Ext1 al' H' al' (upd H' a (DO (zx X) a es)) := ext1_upd (fun ob xs q => by rw [hd] at q; cases q) (fun ob xs q => by rw [hd] at q; cases q)
  exact ⟨e, R.put1 h e (.dct upd_same (Paired.imp (fun _ _ q => EntR.mono1 e q) hp))⟩
theorem cs_lock {st : Stmt} {e : CE} {c : CS} (h : PS X st (RS (zx X) c)) : PS X st (RS (zx X) (sLock e c)) := by
  refine PS.imp (ps_lock h) fun D σ H hq => ?_
  obtain ⟨al, m, r, f, m', R, S, ee, k⟩ := hq
  unfold sLock at ee
  split at ee
  · rename_i n mm _
    split at ee
    · rename_i kvs hy
      obtain ⟨g, m1, e1, ee⟩ := Res.bind_eq_ok.mp ee
      cases ee
      obtain ⟨a, ha, ho⟩ := R.has n _ hy
      cases ho with
      | @dct _ es _ h3 h4 =>
        refine ⟨a, DO (zx X) a es, h3, trivial, fun od => ?_⟩
        obtain ⟨x1, R1⟩ := lock_rel R ha h3 h4 od
        refine ⟨al, _, r, f, m1, R1, S.mono1 x1, e1, ?_⟩
        intro al2 H2 E2 R2
        have hz := E2.frz a od _ upd_same
        have hp2 : Paired (EntR (zx X) al2 H2) kvs es := Paired.imp (fun _ _ q => EntR.mono E2 q) (Paired.imp (fun _ _ q => EntR.mono1 x1 q) h4)
        obtain ⟨x2, R3⟩ := unlock_rel (al := al) (H := H) R2 (E2.le n a ha) hz hp2
        have kk := k al2 _ (ext_lock ha h3 trivial E2) R3
        cases f with
        | nx r2 => exact fun σ' hl S' => ⟨hz, kk σ' hl (S'.mono1 x2)⟩
        | bk r2 => exact fun σ' hl S' => ⟨hz, kk σ' hl (S'.mono1 x2)⟩
        | ct r2 => exact fun σ' hl S' => ⟨hz, kk σ' hl (S'.mono1 x2)⟩
        | rt v => exact fun x rx => ⟨hz, kk x (rx.mono1 x2)⟩
    · cases ee
  · cases ee
theorem ce_lock {ex : Expr} {e c : CE} (h : PE X ex (RE (zx X) c)) : PE X ex (RE (zx X) (cLock e c)) := by
  refine PE.imp (pe_lock h) fun σ H Q hq => ?_
  obtain ⟨al, m, r, f, m', R, S, ee, k⟩ := hq
  unfold cLock at ee
  split at ee
  · rename_i n mm _
    split at ee
    · rename_i kvs hy
      obtain ⟨g, m1, e1, ee⟩ := Res.bind_eq_ok.mp ee
      cases ee
      obtain ⟨a, ha, ho⟩ := R.has n _ hy
      cases ho with
      | @dct _ es _ h3 h4 =>
        refine ⟨a, DO (zx X) a es, h3, trivial, fun od => ?_⟩
        obtain ⟨x1, R1⟩ := lock_rel R ha h3 h4 od
        refine ⟨al, _, r, f, m1, R1, S.mono1 x1, e1, ?_⟩
        intro al2 H2 y E2 R2 ry
        have hz := E2.frz a od _ upd_same
        have hp2 : Paired (EntR (zx X) al2 H2) kvs es := Paired.imp (fun _ _ q => EntR.mono E2 q) (Paired.imp (fun _ _ q => EntR.mono1 x1 q) h4)
        obtain ⟨x2, R3⟩ := unlock_rel (al := al) (H := H) R2 (E2.le n a ha) hz hp2
        exact ⟨hz, k al2 _ y (ext_lock ha h3 trivial E2) R3 (ry.mono1 x2)⟩
    · cases ee
  · cases ee
end
end Co

namespace Co
open PySem PySem.Spec PyProof.Rows L2
/-! ### the keys of a locked dict -/
def Itn (P : Program) (w : World) (d : Addr) (o : Obj) : It :=
  ⟨fun i H => ∃ es, H d = some (.frz o (.ext (DX P w d es))) ∧ i < es.length, fun i H x H' => H' = H ∧ ∀ es, H d = some (.frz o (.ext (DX P w d es))) → ∃ en, es[i]? = some en ∧ x = .ref en.2.1,
    fun i H => ∃ es, H d = some (.frz o (.ext (DX P w d es))) ∧ es.length ≤ i⟩
theorem dx_read {X : Cx} {pins : List (Addr × Obj)} {σ : L2.St} {H : Hp} {s : Shared} {d : Addr} {o : Obj} {ents : Array DictEntry} {ep : Nat} {es : List DE} (I : Inv X pins σ H s) (h : H d = some (.frz o (.ext (DX X.prog X.w d es)))) (hod : o.data = .dict ents ep) :
    (d == sysModules) = false ∧ s.heap.get? d = some o ∧ o.ExactDict ∧ ents.toList = es.map (entryOfKey (nestedKind X.prog X.w)) := by
  obtain ⟨g, ⟨a1, a2, o2, ents2, ep2, a3, a4, a5, a6, a7⟩, _⟩ := I.hok d _ h
  rw [g] at a3
  cases a3
  rw [hod] at a5
  cases a5
  exact ⟨a1, g, a4, a6⟩
theorem ents_len {P : Program} {w : World} {ents : Array DictEntry} {es : List DE} (h : ents.toList = es.map (entryOfKey (nestedKind P w))) : ents.size = es.length := by
  have := congrArg List.length h
  rwa [Array.length_toList, List.length_map] at this
theorem ents_at {P : Program} {w : World} {ents : Array DictEntry} {es : List DE} (h : ents.toList = es.map (entryOfKey (nestedKind P w))) (i : Nat) : ents[i]? = (es[i]?).map (entryOfKey (nestedKind P w)) := by
  rw [← List.getElem?_map, ← h, Array.getElem?_toList]
theorem turn_nk {P : Program} {w : World} {K : PySem.W.Frag} {tg : Expr} {d : Addr} {o : Obj} {ents : Array DictEntry} {ep : Nat} (it : Addr) (hod : o.data = .dict ents ep) : Turn P w K tg (Itn P w d o) [it] it (fun i h => h.IsKeyIter it d i ents.size ep) where
  mem := List.mem_cons_self
  obj := fun i h st b hb => by
    cases List.mem_singleton.mp hb
    obtain ⟨oi, e1, _, e2⟩ := st
    exact ⟨oi, e1, fun v z => nomatch e2.symm.trans z⟩
  keep := fun i h h' st k => st.at fun oi q => k it List.mem_cons_self oi q
  item := by
    intro X hP hw hK hc i pins s σ H E I hf st hg
    cases hP
    cases hw
    cases hK
    obtain ⟨es, hd, hi⟩ := hg
    obtain ⟨b0, b1, b2, b3, b4, b5⟩ := hf it List.mem_cons_self
    obtain ⟨c1, c2, c3, c4⟩ := dx_read I hd hod
    have hx : ents[i]? = some (entryOfKey (nestedKind X.prog X.w) es[i]) := by rw [ents_at c4, List.getElem?_eq_getElem hi]; rfl
    refine next_key_item st c2 hod rfl hx fun h' st' sb => ?_
    have I2 : Inv X pins σ H { s with heap := h' } := I.turned (t' := s.toks) (fun b ob nb q => (sb.2 b nb).trans q) b0 b1 b3 b4 b5
    obtain ⟨oi, q1, q2, q3⟩ := id st'
    refine ⟨_, rfl, go_of (s := { s with heap := h' }) q1 q2 q3 (by decide) ⟨.ref es[i].2.1, H, I2, rfl, ⟨rfl, fun es2 hd2 => ?_⟩, st', fun b hb => (hf b hb).1⟩⟩
    obtain ⟨_, _, _, c5⟩ := dx_read I hd2 hod
    have hx2 := (ents_at c5 i).symm.trans hx
    obtain ⟨en, g1, g2⟩ := Option.map_eq_some_iff.mp hx2
    refine ⟨en, g1, ?_⟩
    have g3 := congrArg DictEntry.key g2
    simp only [entryOfKey, Value.ref.injEq] at g3
    rw [g3]
  done := by
    intro X hP hw hK hc i pins s σ H E I hf st hg
    cases hP
    cases hw
    cases hK
    obtain ⟨es, hd, hi⟩ := hg
    obtain ⟨b0, b1, b2, b3, b4, b5⟩ := hf it List.mem_cons_self
    obtain ⟨c1, c2, c3, c4⟩ := dx_read I hd hod
    refine next_key_end (I.ok.hd hc) st c2 hod rfl (by rw [ents_len c4]; exact hi) fun h' eb => ⟨rfl, ?_⟩
    exact I.turned (t' := s.toks) (fun b ob nb q => eb b ob nb q) b0 b1 b3 b4 b5
  self := fun A i s Q E st h => wpAny_pyIter_keyiter st h
section
variable {X : Cx} {tg e : Expr} {ce : CE}
theorem src_dct {al : Al} {H : Hp} {n : Nat} {a : Addr} {o : Obj} {es : List DE} {k : Nat} (h : al n = some a) (hH : H a = some (.frz o (DO (zx X) a es))) : SrcOk (zx X) false al H (.dct n k) (Itn X.prog X.w a o) := by
  intro al1 m H1 i E1 R1
  simp only [Src.at]
  cases e1 : dctAt n m with
  | none => simp
  | some kvs =>
    simp only [Option.bind_some]
    by_cases hl : kvs.length = k
    · rw [if_pos hl]
      have ha := E1.le n a h
      have hz := E1.frz a o _ hH
      obtain ⟨es1, g1, g2⟩ := R1.dct ha e1
      have g3 : H1 a = some (.frz o (DO (zx X) a es1)) := by
        rcases g1 with g1 | ⟨o2, g1⟩
        · rw [hz] at g1; cases g1
        · have q := Option.some.inj (hz.symm.trans g1)
          injection q with q1 q2
          rw [g1, q1]
      cases c : kvs[i]? with
      | none =>
        have : kvs.length ≤ i := List.getElem?_eq_none_iff.mp c
        exact ⟨es1, g3, by rw [← Paired.len g2]; exact this⟩
      | some kv =>
        obtain ⟨en, q1, q2⟩ := Paired.get? g2 c
        refine ⟨⟨es1, g3, (List.getElem?_eq_some_iff.mp q1).1⟩, fun x H' hy => ?_⟩
        obtain ⟨rfl, hy⟩ := hy
        obtain ⟨en2, q3, rfl⟩ := hy es1 g3
        rw [q1] at q3
        cases q3
        exact ⟨Ext.refl, R1, q2.2.2.2.1⟩
    · rw [if_neg hl]
      trivial
theorem ci_dct (h : PE X e (RE (zx X) ce)) : PI X tg e (RI (zx X) false (iDct ce)) := by
  refine ⟨fun pins s0 σ H Q I hq => ?_⟩
  obtain ⟨al, m, r, s, m', R, S, ee, k⟩ := hq
  obtain ⟨v, m1, e1, ee⟩ := Res.bind_eq_ok.mp ee
  refine thn (h.run pins s0 σ H (fun x H1 => ∃ al1, Ext al H al1 H1 ∧ Rel (zx X) al1 m1 H1 ∧ RV (zx X) al1 H1 v x) I ⟨al, m, r, v, m1, R, S, e1, fun al1 H1 x E1 R1 rx => ⟨al1, E1, R1, rx⟩⟩) fun u s1 ⟨x, H1, I1, ru, al1, E1, R1, rx⟩ => ?_
  split at ee
  · rename_i _ n
    split at ee
    · rename_i kvs e2
      cases ee
      obtain ⟨a, rfl, ha⟩ := rv_ref rx
      cases ru
      obtain ⟨a2, ha2, ho⟩ := R1.has _ _ e2
      rw [ha] at ha2
      cases ha2
      cases ho with
      | @dctL _ es _ o h3 h4 =>
        obtain ⟨_, ⟨_, _, o2, ents, ep, q3, _, q5, _, _⟩, _⟩ := I1.hok a _ h3
        have hod : o.data = .dict ents ep := by
          obtain ⟨g, _⟩ := I1.hok a _ h3
          rw [g] at q3
          cases q3
          exact q5
        obtain ⟨c1, c2, c3, c4⟩ := dx_read I1 h3 hod
        refine iter_keys c1 c2 c3 hod ?_
        exact pi_one (tk := s1.toks) I1 _ (turn_nk _ hod) ⟨_, Heap.get?_push_size _ rfl, rfl, rfl⟩ (k al1 H1 _ E1 R1 (src_dct ha h3))
    · cases ee
  · cases ee
end
end Co

namespace Co
open PySem PySem.Spec PyProof.Rows L2
/-! ### dict comprehensions, the keys nested tuples -/
/-- d[y] = z in the core's terms -/
def DStep (Z : Zx) (D : Addr) (y z : V) (H : Hp) (Nx : Hp → Prop) : Prop := ∃ (al : Al) (kk : MV) (kvs : List (MV × MV)) (es : List DE), Paired (EntR Z al H) kvs es ∧ H D = some (DO Z D es) ∧ isT kk = true ∧ keyOk 8 kk = true ∧ RV Z al H kk y ∧ kvs.length ≤ 1000000 ∧
  ∀ q u, y = .ref q → RelV z u → (es.map (·.1)).Nodup → Nx (upd H D (DO Z D (storedH es (nkL.nk1 kk) q u)))
theorem dstep_ok {Y : Cx} {pins : List (Addr × Obj)} {σ : L2.St} {H : Hp} {s : Shared} {E : Value → Shared → Prop} {D : Addr} {y z : V} {u r : Value} {Nx : Hp → Prop} (hu : Y.A.units + 64 < cLine) (J : Inv Y pins σ H s) (ry : RelV y u) (rz : RelV z r) (h : DStep (zx Y) D y z H Nx) :
    wpAny (model Y.prog Y.w) Y.A (dictSet D u r) (fun _ s' => ∃ H', Inv Y pins σ H' s' ∧ Nx H') E s := by
  obtain ⟨al, kk, kvs, es, hp, hD, hT, hk, rk, hl, nx⟩ := h
  obtain ⟨g1, g2, g3⟩ := dict_of J (J.hok D _ hD) hp
  obtain ⟨q, hy, hq⟩ : ∃ q, y = .ref q ∧ u = .ref q := by
    cases rk with
    | tup _ _ => cases ry; exact ⟨_, rfl, rfl⟩
    | _ => simp [isT] at hT
  have ki := key_is J 8 rk ry hk
  rw [hq] at ki ⊢
  have hlen : (storedH es (nkL.nk1 kk) q r).length ≤ sizeLine := by
    have z1 := storedH_len es (nkL.nk1 kk) q r
    have z2 := Paired.len hp
    rw [sizeLine_eq]
    omega
  refine wpAny_dictSet_heap (knd := nestedKind Y.prog Y.w) (hsz := g2) (show Y.A.units + 8 < cLine by omega) ki g3 fun h' hm hs => ?_
  have new : ObjOk Y.prog Y.w (upd H D (DO (zx Y) D (storedH es (nkL.nk1 kk) q r))) h' D (DO (zx Y) D (storedH es (nkL.nk1 kk) q r)) := dx_ok g1 hlen hm
  obtain ⟨ob, _, _, hob, _⟩ := id hm
  exact ⟨_, J.write (x := D) (e := D) (by rw [hD]; trivial) (.inl rfl) (fun b v nb w => (hs.2 b nb).trans w) ⟨ob, hob⟩ new, nx q r hy rz g3.nodup⟩
/-- the reading of {k: v for target in iter if ..} -/
def tDn (Z : Zx) (wi : TI) (g : TG) (tt : TT) (tk tv : TE) (vs : List Nat) : TE := fun σ H Q => wi σ H fun J H1 => ∀ D, H1 D = none → ∃ W : Nat → Nat → Hp → Prop, (∃ n, W 0 n (upd H1 D (DO Z D []))) ∧ ∀ i n H2, W i n H2 →
  (J.stop i H2 ∧ Q (.ref D) H2) ∨ (J.go i H2 ∧ ∃ Nx : Hp → Prop, (∀ H3, Nx H3 → ∃ n', n' < n ∧ W (i + 1) n' H3) ∧ ∀ x H3, J.yld i H2 x H3 → g x (wipe σ vs) H3 fun σ4 H4 => wipe σ4 vs = wipe σ vs ∧ tt σ4 H4 fun b H5 =>
    if b = true then tk σ4 H5 fun y H6 => tv σ4 H6 fun z H7 => DStep Z D y z H7 Nx else Nx H5)
section
variable {X : Cx} {kx vx tg iter : Expr} {ifs : List Expr} {scope : Scope} {own : List (Str × Nat)} {pos : Pos} {wi : TI} {g : TG} {tt : TT} {tk tv : TE}
theorem dn_core {pins : List (Addr × Obj)} {s0 : Shared} {σ0 : L2.St} {H0 : Hp} {Q : VK} {pos2 : Pos} {use : Option (Value → Sem Unit)} {Qf : Value → Shared → Prop} (hu : X.A.units + 64 < cLine) (hc : X.calm = true) (hN : X.N.Nodup) (hi : PI X tg iter wi) (ok : BlkOk X.N X.env.scope scope own)
    (hg : ∀ (s : Shared) (H : Hp) (C : Addr) (cl : List (Str × Addr)) (fp : List Addr), PG (X.blk s H scope (compEnvC scope cl C X.env) fp) tg g)
    (ht : ∀ (s : Shared) (H : Hp) (C : Addr) (cl : List (Str × Addr)) (fp : List Addr), PTs (X.blk s H scope (compEnvC scope cl C X.env) fp) ifs tt)
    (hk : ∀ (s : Shared) (H : Hp) (C : Addr) (cl : List (Str × Addr)) (fp : List Addr), PE (X.blk s H scope (compEnvC scope cl C X.env) fp) kx tk)
    (he : ∀ (s : Shared) (H : Hp) (C : Addr) (cl : List (Str × Addr)) (fp : List Addr), PE (X.blk s H scope (compEnvC scope cl C X.env) fp) vx tv)
    (hs : ∀ x, foldedSetIterable iter X.env x = pure x) (I0 : Inv X pins σ0 H0 s0) (hq : tDn (zx X) wi g tt tk tv (own.map (·.2)) σ0 H0 Q)
    (last : ∀ D C s' mm H', Inv X pins σ0 H' s' → Q (.ref D) H' → s'.heap.Ns C mm → FpOk X pins H' C → compPost (model X.prog X.w) X.A X.xe use Qf (.ref D) C (.ok .next) s') :
    wpAny (model X.prog X.w) X.A (comprehension (.DictComp kx vx [⟨tg, iter, ifs, 0⟩] scope pos) scope X.env pos2 newDict false (eval iter X.env) use) Qf X.xe s0 := by
  have hfr : ∀ y ∈ scope.names, y.2 = .free → ∃ c, X.env.cells.lookup y.1 = some c := fun y hy fy =>
    (ok.free y hy fy).elim (fun a => I0.ok.has _ (.inl a)) (fun a => I0.ok.has _ (.inr a))
  refine wpAny_comprehension_free (use := use) rfl hs (closure_ok hfr) ok.kind (fun y hy fy => by rw [ok.uniq y hy, fy]) ?_
  refine thn (hi.run pins s0 σ0 H0 _ I0 hq) fun v1 s1 w1 => thn w1 fun v2 s2 w2 => ?_
  obtain ⟨it, fp, tn, J, H2, rfl, I2, T, n2, f2, q⟩ := w2
  refine wpAny_newObj_type (newEnv_comp ?_)
  -- the new dict
  obtain ⟨D, hD⟩ : ∃ D, D = s2.heap.objs.size := ⟨_, rfl⟩
  have hD0 : H2 D = none := I2.hok.fresh (by rw [hD]; exact Nat.le_refl _)
  obtain ⟨W, ⟨k0, w0⟩, turn⟩ := q D hD0
  obtain ⟨s3, hs3⟩ : ∃ s3 : Shared, s3 = { s2 with heap := s2.heap.push { cls := .type "dict", data := .dict #[] } } := ⟨_, rfl⟩
  have hp3 : s3.heap = s2.heap.push { cls := .type "dict", data := .dict #[] } := by rw [hs3]
  have hsys : (D == sysModules) = false := by
    have z := dk_empty (P := X.prog) (w := X.w) (H := H2) s2.heap I2.big
    rw [hD]
    exact z.2.1
  have hnew : (s2.heap.push { cls := .type "dict", data := .dict #[] }).DictOfH (nestedKind X.prog X.w) D [] := by rw [hD]; exact Heap.DictOfH.new s2.heap
  obtain ⟨H3, hH3⟩ : ∃ H3, H3 = upd H2 D (DO (zx X) D []) := ⟨_, rfl⟩
  rw [← hH3] at w0
  have I3 : Inv X pins σ0 H3 s3 := by
    rw [hs3, hH3]
    exact I2.laid (t' := s2.toks) (fun b o z => Heap.get?_push_of_some _ z) (by rw [hD]; exact Nat.le_refl _) (dx_ok hsys (by decide) hnew)
  have lt2 : ∀ b ∈ fp, b < s2.heap.objs.size := fun b hb => let ⟨o, z, _⟩ := T.obj _ _ n2 b hb; Heap.lt_size z
  have f3 : ∀ b ∈ fp, FpOk X pins H3 b ∧ b < s3.heap.objs.size := fun b hb => by
    have l2 := lt2 b hb
    have ne : b ≠ D := by rw [hD]; exact Nat.ne_of_lt l2
    refine ⟨⟨by rw [hH3, upd_ne ne]; exact (f2 b hb).1, (f2 b hb).2⟩, ?_⟩
    rw [hp3, Heap.size_push]
    exact Nat.lt_succ_of_lt l2
  have n3 : tn 0 s3.heap := T.keep _ _ _ n2 fun b _ o z => by rw [hp3]; exact Heap.get?_push_of_some _ z
  have I4 := block_start I3 ok hN f3
  -- the block's own names
  obtain ⟨cl, hcl⟩ : ∃ cl, cl = cellsFrom (s3.heap.objs.size + 1) scope.names (cloFrom X.env.cells scope.names []) := ⟨_, rfl⟩
  have bg := hg s3 H3 s3.heap.objs.size cl fp
  have bt := ht s3 H3 s3.heap.objs.size cl fp
  have bk := hk s3 H3 s3.heap.objs.size cl fp
  have be := he s3 H3 s3.heap.objs.size cl fp
  have z3 : ∀ b ∈ fp, H3 b = none := fun b hb => (f3 b hb).1.1
  rw [← hcl] at I4
  obtain ⟨s4, hs4⟩ : ∃ s4 : Shared, s4 = { s3 with heap := pushCells (s3.heap.push { cls := .type "dict", data := .dict #[] }) scope.names } := ⟨_, rfl⟩
  rw [← hs4] at I4
  have n4 : tn 0 s4.heap := T.keep _ _ _ n3 fun b _ o z => by rw [hs4]; exact pushCells_keeps _ _ _ _ (Heap.get?_push_of_some _ z)
  have goal : codeAny (model X.prog X.w) X.A (.compStart (.DictComp kx vx [⟨tg, iter, ifs, 0⟩] scope pos) 0 (.ref it) (.ref D) (compEnvC scope cl s3.heap.objs.size X.env)) (compPost (model X.prog X.w) X.A X.xe use Qf (.ref D) s3.heap.objs.size) s4 := by
    obtain ⟨ce, hce⟩ : ∃ ce, ce = compEnvC scope cl s3.heap.objs.size X.env := ⟨_, rfl⟩
    rw [← hce] at I4 bg bt bk be ⊢
    have hloc : ce.locals = s3.heap.objs.size := by rw [hce]; rfl
    have fpk : ∀ {σ' : L2.St} {H' : Hp} {s' : Shared}, Inv (X.blk s3 H3 scope ce fp) [] σ' H' s' → (∀ b ∈ fp, H' b = none) → ∀ b ∈ fp, FpOk (X.blk s3 H3 scope ce fp) [] H' b := fun {σ' H' s'} J' hn b hb =>
      ⟨hn b hb, (J'.ok.exf b hb).1, J'.ok.exfs b hb, .inl hb, fun x c z => (J'.ok.exf b hb).2 x c z, fun p hp => by
        have hp' : p ∈ ([] : List (Addr × Obj)) ++ [] := hp
        simp at hp'⟩
    have lp : codeAny (model X.prog X.w) X.A (.compLoop (.DictComp kx vx [⟨tg, iter, ifs, 0⟩] scope pos) 0 (.ref it) (.ref D) ce) (compPost (model X.prog X.w) X.A X.xe use Qf (.ref D) s3.heap.objs.size) s4 := by
      refine compLoop_anyD (fun n s' => ∃ i H', Inv (X.blk s3 H3 scope ce fp) [] (wipe σ0 (own.map (·.2))) H' s' ∧ tn i s'.heap ∧ (∀ b ∈ fp, H' b = none) ∧ W i n H') (fun n s5 hI => ?_) k0 ⟨0, H3, I4, n4, z3, w0⟩
      obtain ⟨i, H5, I5, n5, z5, w5⟩ := hI
      rcases turn i n H5 w5 with ⟨stop, qq⟩ | ⟨go, Nx, hNx, step⟩
      · refine thnF (T.done (X.blk s3 H3 scope ce fp) rfl rfl rfl hc i [] s5 _ H5 (fun _ _ => False) I5 (fpk I5 z5) n5 stop) fun r s6 ⟨hr, I6⟩ => ?_
        cases hr
        have I7 : Inv X pins σ0 H5 s6 := I3.call' (ch := fp) I6.os I6.base I6.hok I6.bare fun b hb =>
          let z := (f3 b hb).1.2
          ⟨z.2.2.1, z.1, z.2.2.2.1, z.2.2.2.2⟩
        have nC : H5 s3.heap.objs.size = none := hloc ▸ (I6.free : H5 ce.locals = none)
        obtain ⟨mm, hns, _⟩ := I6.loc
        have hns' : s6.heap.Ns s3.heap.objs.size mm := hloc ▸ (hns : s6.heap.Ns ce.locals mm)
        exact last D _ s6 mm H5 I7 qq hns' (I3.fpOk (Nat.le_refl _) nC)
      · refine thnF (T.item (X.blk s3 H3 scope ce fp) rfl rfl rfl hc i [] s5 _ H5 (fun _ _ => False) I5 (fpk I5 z5) n5 go) fun r s6 ⟨u, hr, h6⟩ => ?_
        cases hr
        refine thnF h6 fun _ s7 ⟨x, H7, I7, r7, y7, n7, z7⟩ => ?_
        have J7 := I7.pinned (fpk I7 z7) (T.obj _ _ n7)
        refine thnF (bg.run _ s7 _ H7 x u _ J7 r7 (step x H7 y7)) fun _ s8 ⟨σ8, H8, I8, hw8, q8⟩ => ?_
        refine thnF (bt.run _ s8 σ8 H8 _ I8 q8) fun b s9 ⟨H9, I9, q9⟩ => ?_
        have fin : ∀ {s' : Shared} {H' : Hp}, Inv (X.blk s3 H3 scope ce fp) ([] ++ pinsAt fp s7.heap) σ8 H' s' → Nx H' →
            ∃ n', n' < n ∧ ∃ i H', Inv (X.blk s3 H3 scope ce fp) [] (wipe σ0 (own.map (·.2))) H' s' ∧ tn i s'.heap ∧ (∀ b ∈ fp, H' b = none) ∧ W i n' H' := fun {s' H'} J' nx => by
          obtain ⟨n', hn', w'⟩ := hNx H' nx
          have pinned : ∀ b ∈ fp, ∀ o, s7.heap.get? b = some o → s'.heap.get? b = some o ∧ H' b = none := fun b hb o z =>
            let y := J'.pin (b, o) (List.mem_append_right _ (List.mem_append_right _ (mem_pinsAt hb z)))
            ⟨y.1, y.2.1⟩
          have hlen : (wipe σ0 (own.map (·.2))).length = σ8.length := by rw [← hw8, wipe_length]
          refine ⟨n', hn', i + 1, H', (J'.unpinned (pins := [])).weak hlen (fun j v z => (wipe_some (by rw [hw8]; exact z)).1), T.keep _ _ _ n7 fun b hb o z => (pinned b hb o z).1, fun b hb => ?_, w'⟩
          obtain ⟨o, z, _⟩ := T.obj _ _ n7 b hb
          exact (pinned b hb o z).2
        cases b with
        | false =>
          rw [if_neg (by decide)] at q9 ⊢
          exact fin I9 q9
        | true =>
          rw [if_pos rfl] at q9 ⊢
          refine thnF (bk.run _ s9 σ8 H9 _ I9 q9) fun u10 s10 ⟨y10, H10, I10, r10, q10⟩ => ?_
          refine thnF (be.run _ s10 σ8 H10 _ I10 q10) fun u11 s11 ⟨y11, H11, I11, r11, q11⟩ => ?_
          refine wpAny_mono (dstep_ok (Y := X.blk s3 H3 scope ce fp) hu I11 r10 r11 q11) (fun _ s12 ⟨H12, I12, x12⟩ => fin I12 x12) fun _ _ z => z
    exact codeAny_compStart_dict lp (T.self X.A 0 _ _ _ n4 lp)
  subst hs4
  subst hcl
  subst hs3
  subst hD
  exact goal
variable (hu : X.A.units + 64 < cLine) (hc : X.calm = true) (hN : X.N.Nodup) (hi : PI X tg iter wi) (ok : BlkOk X.N X.env.scope scope own)
    (hg : ∀ (s : Shared) (H : Hp) (C : Addr) (cl : List (Str × Addr)) (fp : List Addr), PG (X.blk s H scope (compEnvC scope cl C X.env) fp) tg g)
    (ht : ∀ (s : Shared) (H : Hp) (C : Addr) (cl : List (Str × Addr)) (fp : List Addr), PTs (X.blk s H scope (compEnvC scope cl C X.env) fp) ifs tt)
    (hk : ∀ (s : Shared) (H : Hp) (C : Addr) (cl : List (Str × Addr)) (fp : List Addr), PE (X.blk s H scope (compEnvC scope cl C X.env) fp) kx tk)
    (he : ∀ (s : Shared) (H : Hp) (C : Addr) (cl : List (Str × Addr)) (fp : List Addr), PE (X.blk s H scope (compEnvC scope cl C X.env) fp) vx tv)
    (hs : ∀ x, foldedSetIterable iter X.env x = pure x)
include hu hc hN hi ok hg ht hk he hs
theorem pe_dn : PE X (.DictComp kx vx [⟨tg, iter, ifs, 0⟩] scope pos) (tDn (zx X) wi g tt tk tv (own.map (·.2))) := by
  refine ⟨fun pins s0 σ0 H0 Q I0 hq => ?_⟩
  rw [arm_eval_DictComp]
  refine dn_core hu hc hN hi ok hg ht hk he hs I0 hq fun D C s' mm H' J q hn fp => ?_
  obtain ⟨c0, c1, c2, c3, c4, c5⟩ := fp
  exact ⟨mm, hn, fun h'' sb => ⟨.ref D, H', J.turned (t' := s'.toks) (fun b o nb z => (sb.2 b nb).trans z) c0 c1 c3 c4 c5, rfl, q⟩⟩
theorem ps_setDn {i : Nat} {y : Str} {py spos : Pos} (hy : X.N[i]? = some y) (hyl : X.env.scope.names.lookup y = some .local) (hsw : swapsWith (.DictComp kx vx [⟨tg, iter, ifs, 0⟩] scope pos) (some (.Name y py)) spos.line X.env = pure true) :
    PS X (.Assign [.Name y py] (.DictComp kx vx [⟨tg, iter, ifs, 0⟩] scope pos) spos) (tAsg (tDn (zx X) wi g tt tk tv (own.map (·.2))) (gName i)) := by
  refine ⟨fun pins s0 σ0 H0 D I0 hq => ?_⟩
  rw [exec_Assign_Name_used _ _ _ _ hsw]
  refine wpAny_bind (wpAny_standAt (wpAny_bind ?_))
  show wpAny _ X.A (do let _ ← comprehension (.DictComp kx vx [⟨tg, iter, ifs, 0⟩] scope pos) scope X.env (firstIterPos [⟨tg, iter, ifs, 0⟩] pos) newDict false (eval iter X.env) (some (assign (.Name y py) X.env))) _ _ s0
  have hq : tDn (zx X) wi g tt tk tv (own.map (·.2)) σ0 H0 (fun x H1 => gName i x σ0 H1 D.nx) := hq
  refine wpAny_bind (thn (dn_core (Qf := fun _ s' => SP X pins D .next s') hu hc hN hi ok hg ht hk he hs I0 hq fun L C s' mm H' J q hn fp => ?_) fun _ s' z => wpAny_pure (wpAny_pure z))
  show wpAny _ _ (assign (.Name y py) X.env (.ref L)) _ _ _
  obtain ⟨c0, c1, c2, c3, c4, c5⟩ := fp
  refine wpAny_assign_Name (store_ok2 (v := V.ref L) J hN hy (.inl hyl) rfl (fun s2 J2 ⟨a, sb, ha⟩ => ?_) (.inr hyl))
  have nea : C ≠ a := ha.elim (fun z => by rw [z]; exact c1) (fun z w => c4 y a z w.symm)
  exact ⟨mm, hn.sameBut sb nea, fun h3 sb3 => ⟨_, H', J2.turned (t' := s2.toks) (fun b o nb z => (sb3.2 b nb).trans z) c0 c1 c3 c4 c5, q⟩⟩
end
end Co

namespace Co
open PySem PySem.Spec PyProof.Rows L2
/-- a dict that is not in the small heap is written -/
theorem e0_N {Z : Zx} {al : Al} {H : Hp} {D : Addr} {es es' : List DE} (h : H D = some (DO Z D es)) : Ext0 al H al (upd H D (DO Z D es')) :=
  ⟨fun _ _ e => e, fun b z e => by rw [upd_ne fun q => by rw [q, h] at e; cases e]; exact e, fun b z u e => by rw [upd_ne fun q => by rw [q, h] at e; cases e]; exact e⟩
theorem rel_N {Z : Zx} {al : Al} {m : MH} {H : Hp} (R : Rel Z al m H) {D : Addr} {es es' : List DE} (h : H D = some (DO Z D es)) (n : ∀ k, al k ≠ some D) : Rel Z al m (upd H D (DO Z D es')) := by
  refine ⟨fun k o e => ?_, R.dom, R.inj⟩
  obtain ⟨a, h1, h2⟩ := R.has k o e
  exact ⟨a, h1, h2.stay0 (e0_N h) (upd_ne fun q => n k (by rw [← q]; exact h1))⟩
theorem ext_N {Z : Zx} {al0 al : Al} {H0 H : Hp} {D : Addr} {es es' : List DE} (E : Ext al0 H0 al H) (h0 : H0 D = none) (h : H D = some (DO Z D es)) : Ext al0 H0 al (upd H D (DO Z D es')) :=
  ⟨E.le, fun b z e => (e0_N (al := al) h).tup b z (E.tup b z e), fun b z u e => (e0_N (al := al) h).frz b z u (E.frz b z u e), fun b o e k => by
    obtain ⟨h1, h2⟩ := E.frm b o e k
    exact ⟨by rw [upd_ne fun q => by rw [q, h0] at e; cases e]; exact h1, h2⟩⟩
/-- what stands in the heap comes into the small heap -/
theorem rel_in {Z : Zx} {al : Al} {m : MH} {H : Hp} (R : Rel Z al m H) {D : Addr} {o : MO} (nD : ∀ k, al k ≠ some D) (ho : OR Z (alAdd al m.length D) H o D) : Rel Z (alAdd al m.length D) (m ++ [o]) H := by
  have e0 : Ext0 al H (alAdd al m.length D) H := ⟨fun n a ha => by
    unfold alAdd
    rw [if_neg (by have := R.dom n a ha; omega)]
    exact ha, fun _ _ h => h, fun _ _ _ h => h⟩
  refine ⟨fun n ob e => ?_, fun n a e => ?_, fun n n' a e e' => ?_⟩
  · by_cases hn : n < m.length
    · rw [List.getElem?_append_left hn] at e
      obtain ⟨a, h1, h2⟩ := R.has n ob e
      exact ⟨a, e0.le n a h1, h2.stay0 e0 rfl⟩
    · rw [List.getElem?_append_right (by omega)] at e
      have q : n - m.length = 0 := by
        cases q : n - m.length with
        | zero => rfl
        | succ j => rw [q] at e; simp at e
      rw [q] at e
      simp at e
      subst e
      have q2 : n = m.length := by omega
      subst q2
      exact ⟨D, by unfold alAdd; rw [if_pos rfl], ho⟩
  · unfold alAdd at e
    rw [List.length_append, List.length_singleton]
    split at e
    · omega
    · have := R.dom n a e; omega
  · unfold alAdd at e e'
    split at e
    · split at e'
      · omega
      · cases e
        exact absurd e' (nD n')
    · split at e'
      · cases e'
        exact absurd e (nD n)
      · exact R.inj n n' a e e'
theorem ext_in {Z : Zx} {al0 al : Al} {m : MH} {H0 H : Hp} (E : Ext al0 H0 al H) (R : Rel Z al m H) {D : Addr} (h0 : H0 D = none) : Ext al0 H0 (alAdd al m.length D) H := by
  refine ⟨fun n a ha => ?_, E.tup, E.frz, fun a o ha nn => ?_⟩
  · have h1 := E.le n a ha
    unfold alAdd
    rw [if_neg (by have := R.dom n a h1; omega)]
    exact h1
  · obtain ⟨h1, h2⟩ := E.frm a o ha nn
    refine ⟨h1, fun k hk => ?_⟩
    unfold alAdd at hk
    split at hk
    · cases hk
      rw [h0] at ha
      cases ha
    · exact h2 k hk
theorem e0_in {Z : Zx} {al : Al} {m : MH} {H : Hp} (R : Rel Z al m H) {D : Addr} : Ext0 al H (alAdd al m.length D) H := ⟨fun n a ha => by
    unfold alAdd
    rw [if_neg (by have := R.dom n a ha; omega)]
    exact ha, fun _ _ h => h, fun _ _ _ h => h⟩
section
variable {X : Cx}
theorem ext_dn {wk : Bool} {ci : CI} {g : CG} {vs ws : List Nat} {cc ck ce : CE} (hv : ∀ i ∈ ws, i ∈ vs) {σ : L2.St} {H : Hp} {Q : VK} (h : RE (zx X) (cDComp ci vs g cc ck ce) σ H Q) :
    tDn (zx X) (RI (zx X) wk ci) (RGx (zx X) wk ws g) (RT (zx X) cc) (RE (zx X) ck) (RE (zx X) ce) vs σ H Q := by
  obtain ⟨al, m, r, v, m', R, S, e, k⟩ := h
  obtain ⟨s, m1, e1, e⟩ := Res.bind_eq_ok.mp e
  obtain ⟨kvs, m2, e2, e⟩ := Res.bind_eq_ok.mp e
  cases e
  refine ⟨al, m, r, s, m1, R, S, e1, fun al1 H1 J E1 R1 sj D hD => ?_⟩
  let W : Nat → Nat → Hp → Prop := fun i n H2 => ∃ al2 m3 acc es, Ext al1 H1 al2 H2 ∧ Rel (zx X) al2 m3 H2 ∧ (∀ k, al2 k ≠ some D) ∧ H2 D = some (DO (zx X) D es) ∧ Paired (EntR (zx X) al2 H2) acc es ∧ dcompN s g cc ck ce (wipeM r vs) n i acc m3 = .ok kvs m2
  have S1 : ∀ {al2 : Al} {H2 : Hp}, Ext al1 H1 al2 H2 → RSl (zx X) al2 H2 (wipeM r vs) (wipe σ vs) := fun E2 => wipe_rsl (S.mono (E1.trans E2)) vs
  refine ⟨W, ⟨big, al1, m1, [], [], Ext.new R1 hD, Rel.new R1 hD, R1.fresh hD, upd_same, .nil, e2⟩, ?_⟩
  rintro i n H2 ⟨al2, m3, acc, es, E2, R2, nD, hD2, ra, ec⟩
  cases n with
  | zero => cases ec
  | succ n =>
    unfold dcompN at ec
    have hj := sj al2 m3 H2 i E2 R2
    split at ec
    · cases ec
    · rename_i hx
      rw [hx] at hj
      cases ec
      refine .inl ⟨hj, ?_⟩
      refine k _ _ _ ?_ (rel_in R2 nD (.dct hD2 (Paired.imp (fun _ _ q => EntR.mono0 (e0_in R2) q) ra))) (.ref (by unfold alAdd; rw [if_pos rfl]))
      have E12 := E1.trans E2
      refine ⟨fun n a ha => ?_, E12.tup, E12.frz, fun a o ha nn => ?_⟩
      · exact (e0_in R2).le n a (E12.le n a ha)
      · obtain ⟨h1, h2⟩ := E12.frm a o ha nn
        refine ⟨h1, fun kk hk => ?_⟩
        unfold alAdd at hk
        split at hk
        · cases hk
          obtain ⟨h3, _⟩ := E1.frm D o ha nn
          rw [hD] at h3; cases h3
        · exact h2 kk hk
    · rename_i v hx
      rw [hx] at hj
      obtain ⟨r3, m4, q1, ec⟩ := Res.bind_eq_ok.mp ec
      obtain ⟨x, m5, q2, ec⟩ := Res.bind_eq_ok.mp ec
      refine .inr ⟨hj.1, W (i + 1) n, fun H' hn => ⟨n, Nat.lt_succ_self n, hn⟩, fun y H' hy => ?_⟩
      obtain ⟨E3, R3, rv⟩ := hj.2 y H' hy
      obtain ⟨d3, n3⟩ := frm_D E3 hD2 nD
      refine ⟨al2, m3, wipeM r vs, v, r3, m4, R3, S1 (E2.trans E3), rv, q1, fun al4 H4 σ4 E4 R4 S4 hl4 f4 => ?_⟩
      refine ⟨wipe_same hl4 (fun j hj => f4 j fun z => hj (hv j z)) |>.trans (wipe_wipe σ vs), ?_⟩
      obtain ⟨d4, n4⟩ := frm_D E4 d3 n3
      split at ec
      · refine ⟨al4, m4, r3, true, m5, R4, S4, q2, fun al5 H5 E5 R5 => if1 ?_⟩
        obtain ⟨d5, n5⟩ := frm_D E5 d4 n4
        obtain ⟨kk, m6, q3, ec⟩ := Res.bind_eq_ok.mp ec
        refine ⟨al5, m5, r3, kk, m6, R5, S4.mono E5, q3, fun al6 H6 z E6 R6 rz => ?_⟩
        obtain ⟨d6, n6⟩ := frm_D E6 d5 n5
        obtain ⟨w, m7, q4, ec⟩ := Res.bind_eq_ok.mp ec
        refine ⟨al6, m6, r3, w, m7, R6, S4.mono (E5.trans E6), q4, fun al7 H7 z2 E7 R7 rz2 => ?_⟩
        obtain ⟨d7, n7⟩ := frm_D E7 d6 n6
        split at ec
        · rename_i hk
          simp only [Bool.and_eq_true] at hk
          have E27 := E3.trans (E4.trans (E5.trans (E6.trans E7)))
          have ra7 : Paired (EntR (zx X) al7 H7) acc es := Paired.imp (fun _ _ q => EntR.mono E27 q) ra
          refine ⟨al7, kk, acc, es, ra7, d7, hk.1.1, hk.1.2, rz.mono E7, of_decide_eq_true hk.2, fun q u hy2 hu2 nd => ?_⟩
          subst hy2
          refine ⟨al7, m7, dPut acc kk w, _, ext_N (E2.trans E27) hD d7, rel_N R7 d7 n7, n7, upd_same, ?_, ec⟩
          exact Paired.imp (fun _ _ z => EntR.mono0 (e0_N d7) z) (put_stored hk.1.2 hk.1.1 rz2 hu2 (rz.mono E7) ra7 nd)
        · cases ec
      · refine ⟨al4, m4, r3, false, m5, R4, S4, q2, fun al5 H5 E5 R5 => if0 ?_⟩
        obtain ⟨d5, n5⟩ := frm_D E5 d4 n4
        have E25 := E3.trans (E4.trans E5)
        exact ⟨al5, m5, acc, es, E2.trans E25, R5, n5, d5, Paired.imp (fun _ _ q => EntR.mono E25 q) ra, ec⟩
      · cases ec
variable {kx vx tg iter : Expr} {ifs : List Expr} {scope : Scope} {own : List (Str × Nat)} {pos : Pos} {wk : Bool} {ci : CI} {g : CG} {ws : List Nat} {cc ck ce : CE}
theorem ce_dcomp (hu : X.A.units + 64 < cLine) (hc : X.calm = true) (hN : X.N.Nodup) (hv : ∀ i ∈ ws, i ∈ own.map (·.2)) (hi : PI X tg iter (RI (zx X) wk ci)) (ok : BlkOk X.N X.env.scope scope own)
    (hg : ∀ (s : Shared) (H : Hp) (C : Addr) (cl : List (Str × Addr)) (fp : List Addr), PG (X.blk s H scope (compEnvC scope cl C X.env) fp) tg (RGx (zx X) wk ws g)) (ht : ∀ (s : Shared) (H : Hp) (C : Addr) (cl : List (Str × Addr)) (fp : List Addr), PTs (X.blk s H scope (compEnvC scope cl C X.env) fp) ifs (RT (zx X) cc))
    (hk : ∀ (s : Shared) (H : Hp) (C : Addr) (cl : List (Str × Addr)) (fp : List Addr), PE (X.blk s H scope (compEnvC scope cl C X.env) fp) kx (RE (zx X) ck))
    (he : ∀ (s : Shared) (H : Hp) (C : Addr) (cl : List (Str × Addr)) (fp : List Addr), PE (X.blk s H scope (compEnvC scope cl C X.env) fp) vx (RE (zx X) ce)) (hs : ∀ x, foldedSetIterable iter X.env x = pure x := by intro _; rfl) :
    PE X (.DictComp kx vx [⟨tg, iter, ifs, 0⟩] scope pos) (RE (zx X) (cDComp ci (own.map (·.2)) g cc ck ce)) :=
  PE.imp (pe_dn hu hc hN hi ok hg ht hk he hs) fun _ _ _ h => ext_dn hv h
theorem cs_setDc {i : Nat} {y : Str} {py spos : Pos} (hu : X.A.units + 64 < cLine) (hc : X.calm = true) (hN : X.N.Nodup) (hv : ∀ i ∈ ws, i ∈ own.map (·.2)) (hy : X.N[i]? = some y) (hyl : X.env.scope.names.lookup y = some .local)
    (hsw : swapsWith (.DictComp kx vx [⟨tg, iter, ifs, 0⟩] scope pos) (some (.Name y py)) spos.line X.env = pure true) (hi : PI X tg iter (RI (zx X) wk ci)) (ok : BlkOk X.N X.env.scope scope own)
    (hg : ∀ (s : Shared) (H : Hp) (C : Addr) (cl : List (Str × Addr)) (fp : List Addr), PG (X.blk s H scope (compEnvC scope cl C X.env) fp) tg (RGx (zx X) wk ws g)) (ht : ∀ (s : Shared) (H : Hp) (C : Addr) (cl : List (Str × Addr)) (fp : List Addr), PTs (X.blk s H scope (compEnvC scope cl C X.env) fp) ifs (RT (zx X) cc))
    (hk : ∀ (s : Shared) (H : Hp) (C : Addr) (cl : List (Str × Addr)) (fp : List Addr), PE (X.blk s H scope (compEnvC scope cl C X.env) fp) kx (RE (zx X) ck))
    (he : ∀ (s : Shared) (H : Hp) (C : Addr) (cl : List (Str × Addr)) (fp : List Addr), PE (X.blk s H scope (compEnvC scope cl C X.env) fp) vx (RE (zx X) ce)) (hs : ∀ x, foldedSetIterable iter X.env x = pure x := by intro _; rfl) :
    PS X (.Assign [.Name y py] (.DictComp kx vx [⟨tg, iter, ifs, 0⟩] scope pos) spos) (RS (zx X) (sAsg (cDComp ci (own.map (·.2)) g cc ck ce) (gNm i))) := by
  refine PS.imp (ps_setDn hu hc hN hi ok hg ht hk he hs hy hyl hsw) fun D σ H h => ?_
  exact ext_dn hv (show RE (zx X) (cDComp ci (own.map (·.2)) g cc ck ce) σ H _ from by
    obtain ⟨al, m, r, f, m', R, S, e, k⟩ := h
    obtain ⟨x, m1, e1, e⟩ := Res.bind_eq_ok.mp e
    obtain ⟨r1, m2, e2, e⟩ := Res.bind_eq_ok.mp e
    cases e2
    cases e
    exact ⟨al, m, r, x, _, R, S, e1, fun al1 H1 a E1 R1 ra => k al1 H1 E1 R1 _ List.length_set ((S.mono E1).set ra i)⟩)
end
end Co

namespace Co
open PySem PySem.Spec PyProof.Rows L2
section
variable {X : Cx}
/-! ### {k: v} -/
theorem ce_dict1 {k v : Expr} {ck cv : CE} {pos : Pos} (hu : X.A.units + 64 < cLine) (hk : PE X k (RE (zx X) ck)) (hv : PE X v (RE (zx X) cv)) : PE X (.Dict [some k] [v] pos) (RE (zx X) (cDict1 ck cv)) := by
  refine ⟨fun pins s0 σ H0 Q I0 hq => ?_⟩
  obtain ⟨al, m, r, w, m', R, S, e, kq⟩ := hq
  obtain ⟨kk, m1, e1, e⟩ := Res.bind_eq_ok.mp e
  obtain ⟨y, m2, e2, e⟩ := Res.bind_eq_ok.mp e
  split at e
  · rename_i hb
    simp only [Bool.and_eq_true] at hb
    cases e
    obtain ⟨D, hD⟩ : ∃ D, D = s0.heap.objs.size := ⟨_, rfl⟩
    have hD0 : H0 D = none := I0.hok.fresh (by rw [hD]; exact Nat.le_refl _)
    have hsys : (D == sysModules) = false := by
      have z := dk_empty (P := X.prog) (w := X.w) (H := H0) s0.heap I0.big
      rw [hD]
      exact z.2.1
    have hnew : (s0.heap.push { cls := .type "dict", data := .dict #[] }).DictOfH (nestedKind X.prog X.w) D [] := by rw [hD]; exact Heap.DictOfH.new s0.heap
    have I1 : Inv X pins σ (upd H0 D (DO (zx X) D [])) { s0 with heap := s0.heap.push { cls := .type "dict", data := .dict #[] } } :=
      I0.laid (t' := s0.toks) (fun b o z => Heap.get?_push_of_some _ z) (by rw [hD]; exact Nat.le_refl _) (dx_ok hsys (by decide) hnew)
    have E1 : Ext al H0 al (upd H0 D (DO (zx X) D [])) := Ext.new R hD0
    have R1 : Rel (zx X) al m (upd H0 D (DO (zx X) D [])) := Rel.new R hD0
    have walk : wpAny (model X.prog X.w) X.A (evalPairs (pairTrees [some k] [v] X.env pos)) (fun vs s1 => ∃ ps, CarriesH (nestedKind X.prog X.w) s1.heap vs ps ∧ s1.heap.DictOfH (nestedKind X.prog X.w) s0.heap.objs.size [] ∧
        ∀ h' tk, h'.DictOfH (nestedKind X.prog X.w) s0.heap.objs.size (storedAllH [] ps) → Heap.SameBut s0.heap.objs.size s1.heap h' → EP X pins σ Q (.ref s0.heap.objs.size) { s1 with heap := h', toks := tk }) X.xe { s0 with heap := s0.heap.push { cls := .type "dict", data := .dict #[] } } := by
      refine pairTrees_cons_walk ?_
      refine thn (hk.run pins _ σ _ (fun x H2 => ∃ al2, Ext al (upd H0 D (DO (zx X) D [])) al2 H2 ∧ Rel (zx X) al2 m1 H2 ∧ RV (zx X) al2 H2 kk x) I1 ⟨al, m, r, kk, m1, R1, S.mono E1, e1, fun al2 H2 x E2 R2 rx => ⟨al2, E2, R2, rx⟩⟩) fun u2 s2 ⟨x2, H2, I2, r2, al2, E2, R2, rx2⟩ => ?_
      refine thn (hv.run pins _ σ _ (fun x H3 => ∃ al3, Ext al2 H2 al3 H3 ∧ Rel (zx X) al3 m2 H3 ∧ RV (zx X) al3 H3 y x) I2 ⟨al2, m1, r, y, m2, R2, S.mono (E1.trans E2), e2, fun al3 H3 x E3 R3 rx => ⟨al3, E3, R3, rx⟩⟩) fun u3 s3 ⟨x3, H3, I3, r3, al3, E3, R3, rx3⟩ => ?_
      refine pairTrees_nil_walk ?_
      have nD : ∀ j, al j ≠ some D := R.fresh hD0
      obtain ⟨d2, n2⟩ := frm_D E2 upd_same nD
      obtain ⟨d3, n3⟩ := frm_D E3 d2 n2
      obtain ⟨g1, g2, g3⟩ := dict_of I3 (I3.hok D _ d3) (Paired.nil (F := EntR (zx X) al3 H3))
      obtain ⟨q, hx2, hu2⟩ : ∃ q, x2 = .ref q ∧ u2 = .ref q := by
        cases rx2 with
        | tup _ _ => cases r2; exact ⟨_, rfl, rfl⟩
        | _ => simp [isT] at hb
      have rk3 := rx2.mono E3
      have ki := key_is I3 8 rk3 r2 hb.2
      subst hx2
      subst hu2
      rw [hD] at g3
      refine ⟨[(nkL.nk1 kk, q, u3)], ⟨rfl, rfl, ki, trivial⟩, g3, fun h' tk hm hs => ?_⟩
      have hm' : h'.DictOfH (nestedKind X.prog X.w) D [(nkL.nk1 kk, q, u3)] := by rw [hD]; exact hm
      have new : ObjOk X.prog X.w (upd H3 D (DO (zx X) D [(nkL.nk1 kk, q, u3)])) h' D (DO (zx X) D [(nkL.nk1 kk, q, u3)]) := dx_ok g1 (by rw [sizeLine_eq]; simp) hm'
      obtain ⟨ob, _, _, hob, _⟩ := id hm'
      have hs' : Heap.SameBut D s3.heap h' := by rw [hD]; exact hs
      have I4 := I3.write (x := D) (e := D) (t' := tk) (by rw [d3]; trivial) (.inl rfl) (fun b o nb z => (hs'.2 b nb).trans z) ⟨ob, hob⟩ new
      have R4 : Rel (zx X) al3 m2 (upd H3 D (DO (zx X) D [(nkL.nk1 kk, q, u3)])) := rel_N R3 d3 n3
      have ent : EntR (zx X) al3 H3 (kk, y) (nkL.nk1 kk, q, u3) := ⟨hb.1, hb.2, rfl, rk3, x3, r3, rx3⟩
      have o4 : OR (zx X) (alAdd al3 m2.length D) (upd H3 D (DO (zx X) D [(nkL.nk1 kk, q, u3)])) (.dct false [(kk, y)]) D := .dct upd_same (.cons ((ent.mono0 (e0_N d3)).mono0 (e0_in R4)) .nil)
      refine ⟨.ref D, _, I4, by rw [hD]; rfl, ?_⟩
      refine kq _ _ _ (ext_in (ext_N (E1.trans (E2.trans E3)) hD0 d3) R4 hD0) (rel_in R4 n3 o4) (.ref (by unfold alAdd; rw [if_pos rfl]))
    rw [arm_eval_Dict, zip_pairTrees [some k] [v] X.env pos rfl rfl, dictDisplay_pairs (pairTrees [some k] [v] X.env pos) (by intro z; cases z) (by show 1 < 17; decide)]
    exact wpAny_bind (wpAny_standAt (wpAny_bind (wpAny_subDictH (knd := nestedKind X.prog X.w) (Q := fun d s' => wpAny (model X.prog X.w) X.A (pure (Value.ref d)) (EP X pins σ Q) X.xe s') (show X.A.units + 8 < cLine by omega) (by show 1 ≤ 15; decide)
      (wpAny_mono walk (fun vs s1 ⟨ps, a1, a2, a3⟩ => ⟨ps, a1, a2, fun h' tk b1 b2 => wpAny_pure (a3 h' tk b1 b2)⟩) fun _ _ z => z))))
  · cases e
end
end Co

namespace Co
open PySem PySem.Spec PyProof.Rows L2
/-! ### == of dicts -/
def EqB (prog : Program) (w : World) (A : Around) (s : Shared) (y x : Value) (b : Bool) : Prop := ∀ (E : Value → Shared → Prop) (Q : Bool → Shared → Prop), Q b s → wpAny (model prog w) A (eqBool y x) Q E s
inductive Hn (prog : Program) (w : World) (A : Around) (s : Shared) (ys : List DE) : List DE → Bool → Prop
  | nil : Hn prog w A s ys [] true
  | miss {k : NestedKey} {a : Addr} {v : Value} {l : List DE} : atKey ys k = none → Hn prog w A s ys ((k, a, v) :: l) false
  | no {k : NestedKey} {a c : Addr} {v y : Value} {l : List DE} : atKey ys k = some (c, y) → EqB prog w A s v y false → Hn prog w A s ys ((k, a, v) :: l) false
  | yes {k : NestedKey} {a c : Addr} {v y : Value} {l : List DE} {r : Bool} : atKey ys k = some (c, y) → EqB prog w A s v y true → Hn prog w A s ys l r → Hn prog w A s ys ((k, a, v) :: l) r
section
variable {prog : Program} {w : World} {A : Around} {E : Value → Shared → Prop} {s : Shared}
theorem pairsN {nm : String} {a b : Addr} {xs ys : List DE} {r : Bool} {Q : Bool → Shared → Prop} (hu : A.units + 8 < cLine) (na : (a == sysModules) = false) (nb : (b == sysModules) = false) (da : s.heap.DictOfH (nestedKind prog w) a xs) (db : s.heap.DictOfH (nestedKind prog w) b ys)
    (hit : xs.length = ys.length → Hn prog w A s ys xs r) (h : Q (decide (xs.length = ys.length) && r) s) : wpAny (model prog w) A (Builtin.Dict.samePairs nm a b) Q E s := by
  obtain ⟨oa, ea, pa, ga, _, ha, ta, ia, nda⟩ := da
  obtain ⟨ob, eb, pb, gb, _, hb, tb, ib, ndb⟩ := db
  have za : ea.size = xs.length := ents_len ta
  have zb : eb.size = ys.length := ents_len tb
  have sa : ¬ (a == sysModules) = true := by rw [na]; decide
  have sb : ¬ (b == sysModules) = true := by rw [nb]; decide
  unfold Builtin.Dict.samePairs
  unfold Builtin.Dict.showsAll
  rw [if_neg sa, if_neg sb]
  refine wpAny_bind (wpAny_pure (wpAny_bind (wpAny_pure (wpAny_bind (wpAny_dictEntries ga ha ?_)))))
  dsimp only
  refine wpAny_bind (wpAny_dictEntries gb hb ?_)
  by_cases hz : xs.length = ys.length
  · have hit' := hit hz
    have hQ : Q r s := by simpa [hz] using h
    rw [if_neg (by rw [za, zb, hz]; simp)]
    refine wpAny_bind (wpAny_dictEpoch ga ha (wpAny_bind ?_))
    rw [Std.Legacy.Range.forIn_eq_forIn_range']
    simp only [Nat.div_one, Nat.add_sub_cancel, Std.Legacy.Range.size, Nat.sub_zero]
    refine wpAny_forIn_list _ (fun rest q s' => s' = s ∧ q = (none, ()) ∧ ∃ i, rest = List.range' i (ea.size - i) ∧ i ≤ ea.size ∧ Hn prog w A s ys (xs.drop i) r) _ ?_ ?_ _ _ ⟨rfl, rfl, 0, by simp, Nat.zero_le _, by simpa using hit'⟩
    · rintro j rest q s' ⟨rfl, rfl, i, hr, hi, hd⟩
      have hlt : i < ea.size := by
        refine Nat.lt_of_not_le fun z => ?_
        rw [Nat.sub_eq_zero_of_le z] at hr
        simp at hr
      have hsp : ea.size - i = (ea.size - (i + 1)) + 1 := by omega
      rw [hsp, List.range'_succ] at hr
      injection hr with hj hrest
      subst hj
      have hx : j < xs.length := by omega
      obtain ⟨kk, hkk⟩ : ∃ x : DE, xs[j] = x := ⟨_, rfl⟩
      obtain ⟨k, c, v⟩ := kk
      have hxj : xs[j]? = some (k, c, v) := by rw [List.getElem?_eq_getElem hx, hkk]
      have hej : ea[j]? = some (entryOfKey (nestedKind prog w) (k, c, v)) := by rw [ents_at ta, hxj]; rfl
      have hdr : xs.drop j = (k, c, v) :: xs.drop (j + 1) := by rw [List.drop_eq_getElem_cons hx, hkk]
      rw [hdr] at hd
      refine wpAny_bind (wpAny_dictEntries ga ha ?_)
      rw [hej]
      have ki : (nestedKind prog w).is s'.heap k c := ia (k, c, v) (List.mem_of_getElem? hxj)
      refine wpAny_bind (wpAny_holding (wpAny_bind ?_))
      refine wpAny_dictFind_heap (knd := nestedKind prog w) (k := k) (a := c) (show A.units + 8 < cLine from hu) ki gb hb tb ib ndb (fun hno => ?_) (fun i2 p hi2 => ?_)
      · have hn := atKey_none_of_get hno
        cases hd with
        | miss _ =>
          refine wpAny_pure ?_
          show wpAny _ _ (if (!false) = true then _ else _) _ _ _
          rw [if_pos (by decide)]
          exact wpAny_pure (wpAny_pure hQ)
        | no z _ => rw [hn] at z; cases z
        | yes z _ _ => rw [hn] at z; cases z
      · have hy := atKey_of_get ndb hi2
        have he2 : eb[i2]? = some (entryOfKey (nestedKind prog w) (k, p)) := by rw [ents_at tb, hi2]; rfl
        refine wpAny_bind (wpAny_dictEntries gb hb ?_)
        rw [he2]
        cases hd with
        | miss z => rw [hy] at z; cases z
        | no z f =>
          rw [hy] at z
          cases z
          refine wpAny_holding (f _ _ ?_)
          show wpAny _ _ (if (!false) = true then _ else _) _ _ _
          rw [if_pos (by decide)]
          exact wpAny_pure (wpAny_pure hQ)
        | yes z f g =>
          rw [hy] at z
          cases z
          refine wpAny_holding (f _ _ ?_)
          show wpAny _ _ (if (!true) = true then _ else _) _ _ _
          rw [if_neg (by decide)]
          refine wpAny_bind (wpAny_dictEpoch ga ha ?_)
          rw [if_neg (by simp)]
          exact wpAny_pure ⟨rfl, rfl, j + 1, hrest, hlt, g⟩
    · rintro q s' ⟨rfl, rfl, i, hr, hi, hd⟩
      have hin : i = ea.size := by
        refine Nat.le_antisymm hi (Nat.le_of_not_lt fun z => ?_)
        have hsp : ea.size - i = (ea.size - (i + 1)) + 1 := by omega
        rw [hsp, List.range'_succ] at hr
        cases hr
      refine wpAny_pure ?_
      rw [hin, za, List.drop_length] at hd
      cases hd
      exact hQ
  · rw [if_pos (by rw [za, zb]; simpa using hz)]
    have hQ : Q false s := by simpa [hz] using h
    exact wpAny_bind (wpAny_rule (wpAny_pure hQ))
theorem eqN {a b : Addr} {xs ys : List DE} {r : Bool} {Q : Value → Shared → Prop} (hu : A.units + 10 < cLine) (na : (a == sysModules) = false) (nb : (b == sysModules) = false) (da : s.heap.DictOfH (nestedKind prog w) a xs) (db : s.heap.DictOfH (nestedKind prog w) b ys)
    (hit : xs.length = ys.length → Hn prog w A.in1 s ys xs r) (h : Q (.bool (decide (xs.length = ys.length) && r)) s) : wpAny (model prog w) A (compareOp .Eq (.ref a) (.ref b)) Q E s := by
  have tya : s.TypeIs (.ref a) "dict" := let ⟨o, _, _, g, x, _⟩ := da; ⟨o, g, x.1⟩
  have tyb : s.TypeIs (.ref b) "dict" := let ⟨o, _, _, g, x, _⟩ := db; ⟨o, g, x.1⟩
  refine wpAny_richCompare_same_room (op := .Eq) tya tyb PySem.F.slot_dict_eq ?_ (by omega)
  refine wpAny_call_entry PySem.F.slot_dict_eq tya PySem.F.entry_dict_eq ?_ (PySem.F.args_dict_eq_2 _ _)
  show wpAny _ _ (Builtin.Dict.dictSlotArgs "__eq__" ⟨[.ref a, .ref b], []⟩ >>= _) _ _ s
  refine wpAny_bind ?_
  unfold Builtin.Dict.dictSlotArgs
  refine wpAny_bind (wpAny_notOrdered_dict tya ?_)
  show wpAny _ _ (pure (Value.ref a, Value.ref b)) _ _ s
  refine wpAny_pure (wpAny_bind (wpAny_isInstance (T := "dict") tyb PySem.F.sub_dict_dict ?_))
  simp only [Bool.not_true, if_false, Bool.false_eq_true]
  refine wpAny_bind (wpAny_pure (wpAny_bind (wpAny_pure (wpAny_bind (pairsN (show A.units + 1 + 8 < cLine by omega) na nb da db hit ?_)))))
  exact wpAny_pure ⟨_, rfl, (fun x => nomatch x), by simpa using h⟩
theorem neN {a b : Addr} {xs ys : List DE} {r : Bool} {Q : Value → Shared → Prop} (hu : A.units + 10 < cLine) (na : (a == sysModules) = false) (nb : (b == sysModules) = false) (da : s.heap.DictOfH (nestedKind prog w) a xs) (db : s.heap.DictOfH (nestedKind prog w) b ys)
    (hit : xs.length = ys.length → Hn prog w A.in1 s ys xs r) (h : Q (.bool (!(decide (xs.length = ys.length) && r))) s) : wpAny (model prog w) A (compareOp .NotEq (.ref a) (.ref b)) Q E s := by
  have tya : s.TypeIs (.ref a) "dict" := let ⟨o, _, _, g, x, _⟩ := da; ⟨o, g, x.1⟩
  have tyb : s.TypeIs (.ref b) "dict" := let ⟨o, _, _, g, x, _⟩ := db; ⟨o, g, x.1⟩
  refine wpAny_richCompare_same_room (op := .NotEq) tya tyb PySem.F.slot_dict_ne ?_ (by omega)
  refine wpAny_call_entry PySem.F.slot_dict_ne tya PySem.F.entry_dict_ne ?_ (PySem.F.args_dict_ne_2 _ _)
  show wpAny _ _ (Builtin.Dict.dictSlotArgs "__ne__" ⟨[.ref a, .ref b], []⟩ >>= _) _ _ s
  refine wpAny_bind ?_
  unfold Builtin.Dict.dictSlotArgs
  refine wpAny_bind (wpAny_notOrdered_dict tya ?_)
  show wpAny _ _ (pure (Value.ref a, Value.ref b)) _ _ s
  refine wpAny_pure (wpAny_bind (wpAny_isInstance (T := "dict") tyb PySem.F.sub_dict_dict ?_))
  simp only [Bool.not_true, if_false, Bool.false_eq_true]
  refine wpAny_bind (wpAny_pure (wpAny_bind (wpAny_pure (wpAny_bind (pairsN (show A.units + 1 + 8 < cLine by omega) na nb da db hit ?_)))))
  exact wpAny_pure ⟨_, rfl, (fun x => nomatch x), by simpa using h⟩
end
section
variable {X : Cx}
theorem eqM_dp40 {Z : Zx} {al : Al} {m : MH} {H : Hp} (R : Rel Z al m H) {a b : MV} {x y : V} {c : Bool} (e : eqM m a b = some c) (ra : RV Z al H a x) (rb : RV Z al H b y) :
    ∃ d d', Dp Z.K H x d ∧ Dp Z.K H y d' ∧ d.canLay0 = true ∧ d'.canLay0 = true ∧ d.depth ≤ 40 ∧ PyData.eqv d d' = c := by
  unfold eqM at e
  split at e
  · cases e
    rw [rv_int ra, rv_int rb]
    exact ⟨_, _, .int _, .int _, by simp [PyData.canLay0], by simp [PyData.canLay0], by simp [PyData.depth], by simp [PyData.eqv]⟩
  · cases e1 : deep m 40 a with
    | none => rw [e1] at e; cases e
    | some a' =>
      cases e2 : deep m 40 b with
      | none => rw [e1, e2] at e; cases e
      | some b' =>
        rw [e1, e2] at e
        cases e
        obtain ⟨p1, p2⟩ := deep_dp R 40 _ _ _ e1 ra
        obtain ⟨q1, q2⟩ := deep_dp R 40 _ _ _ e2 rb
        exact ⟨_, _, p2, q2, p1.lay, q1.lay, p1.dep, ((eqv_d a' b').1 p1.wf q1.wf).symm⟩
/-- the values of two entries -/
theorem eqB_of {pins : List (Addr × Obj)} {σ : L2.St} {H : Hp} {s : Shared} (I : Inv X pins σ H s) (hu : X.A.units + 64 < cLine) {al : Al} {m : MH} (R : Rel (zx X) al m H) {v w : MV} {x y : V} {a b : Value} {c : Bool} (e : eqM m v w = some c) (rv : RV (zx X) al H v x) (rw' : RV (zx X) al H w y) (ra : RelV x a) (rb : RelV y b) : EqB X.prog X.w X.A.in1 s a b c := by
  obtain ⟨d, d', h1, h2, h3, h4, h6, h5⟩ := eqM_dp40 R e rv rw'
  obtain ⟨as, r1⟩ := Dp.reads I d x a h1 ra
  obtain ⟨bs, r2⟩ := Dp.reads I d' y b h2 rb
  intro E Q hq
  rw [← h5] at hq
  exact SeqAt.eqAt_reads d d' X.A.in1 s a b as bs r1 r2 h3 h4 (show X.A.units + 1 + min d.depth d'.depth < cLine by omega) X.prog X.w E Q hq
theorem hits_of {pins : List (Addr × Obj)} {σ : L2.St} {H : Hp} {s : Shared} (I : Inv X pins σ H s) (hu : X.A.units + 64 < cLine) {al : Al} {m : MH} (R : Rel (zx X) al m H) {kb : List (MV × MV)} {ys : List DE} (hb : Paired (EntR (zx X) al H) kb ys) :
    ∀ {ka : List (MV × MV)} {xs : List DE} {c : Bool}, Paired (EntR (zx X) al H) ka xs → dEqL m kb ka = some c → Hn X.prog X.w X.A.in1 s ys xs c
  | _, _, c, .nil, e => by cases e; exact .nil
  | (k, v) :: ka, (nk, a, u) :: xs, c, .cons h t, e => by
    obtain ⟨h1, h2, h3, h4, x, h5, h6⟩ := h
    simp only at h1 h2 h3 h4 h5 h6
    have hat := keyAt_at h2 hb
    rw [← h3] at hat
    unfold dEqL at e
    cases e1 : keyAt kb k with
    | none =>
      rw [e1] at e hat
      cases e
      cases c2 : atKey ys nk with
      | none => exact .miss c2
      | some p => rw [c2] at hat; simp at hat
    | some w =>
      rw [e1] at e hat
      cases c2 : atKey ys nk with
      | none => rw [c2] at hat; simp at hat
      | some p =>
        rw [c2] at hat
        obtain ⟨y, g1, g2⟩ := hat
        cases e2 : eqM m v w with
        | none => simp only [e2] at e; cases e
        | some b =>
          have hq := eqB_of I hu R e2 h6 g2 h5 g1
          cases b with
          | true =>
            simp only [e2] at e
            exact .yes (c := p.1) (y := p.2) c2 hq (hits_of I hu R hb t e)
          | false =>
            simp only [e2] at e
            cases e
            exact .no (c := p.1) (y := p.2) c2 hq
theorem dEq_of {pins : List (Addr × Obj)} {σ : L2.St} {H : Hp} {s : Shared} (I : Inv X pins σ H s) (hu : X.A.units + 64 < cLine) {al : Al} {m : MH} (R : Rel (zx X) al m H) {a b : MV} {x y : V} {c : Bool} (e : dEqM m a b = some c) (ra : RV (zx X) al H a x) (rb : RV (zx X) al H b y) :
    ∃ p q xs ys r, x = .ref p ∧ y = .ref q ∧ (p == sysModules) = false ∧ (q == sysModules) = false ∧ s.heap.DictOfH (nestedKind X.prog X.w) p xs ∧ s.heap.DictOfH (nestedKind X.prog X.w) q ys ∧ (xs.length = ys.length → Hn X.prog X.w X.A.in1 s ys xs r) ∧ (decide (xs.length = ys.length) && r) = c := by
  unfold dEqM at e
  split at e
  · rename_i i j
    split at e
    · rename_i ka kb e1 e2
      obtain ⟨p, rfl, hp⟩ := rv_ref ra
      obtain ⟨q, rfl, hq⟩ := rv_ref rb
      obtain ⟨xs, f1, f2, f3, f4⟩ := dict_ok I R hp e1
      obtain ⟨ys, g1, g2, g3, g4⟩ := dict_ok I R hq e2
      have l1 := Paired.len f1
      have l2 := Paired.len g1
      split at e
      · rename_i hl
        exact ⟨p, q, xs, ys, c, rfl, rfl, f2, g2, f4, g4, fun _ => hits_of I hu R g1 f1 e, by rw [decide_eq_true (by omega)]; rfl⟩
      · rename_i hl
        cases e
        exact ⟨p, q, xs, ys, false, rfl, rfl, f2, g2, f4, g4, fun z => absurd z (by omega), by simp⟩
    · cases e
  · cases e
theorem co_eqD (hu : X.A.units + 64 < cLine) : OpR X (compareOp .Eq) (RB (zx X) oEqD) := by
  intro pins s σ H x y v u Q I rx ry h
  obtain ⟨al, m, a, b, w, m', R, ra, rb, e, k⟩ := h
  unfold oEqD at e
  split at e
  · rename_i c hc
    cases e
    obtain ⟨p, q, xs, ys, r, rfl, rfl, n1, n2, d1, d2, hit, he⟩ := dEq_of I hu R hc ra rb
    cases rx
    cases ry
    refine eqN (show X.A.units + 10 < cLine by omega) n1 n2 d1 d2 hit ?_
    rw [he]
    exact ⟨.bl c, H, I, rfl, k al H _ Ext.refl R (.bl c)⟩
  · cases e
theorem co_neD (hu : X.A.units + 64 < cLine) : OpR X (compareOp .NotEq) (RB (zx X) oNeD) := by
  intro pins s σ H x y v u Q I rx ry h
  obtain ⟨al, m, a, b, w, m', R, ra, rb, e, k⟩ := h
  unfold oNeD at e
  split at e
  · rename_i c hc
    cases e
    obtain ⟨p, q, xs, ys, r, rfl, rfl, n1, n2, d1, d2, hit, he⟩ := dEq_of I hu R hc ra rb
    cases rx
    cases ry
    refine neN (show X.A.units + 10 < cLine by omega) n1 n2 d1 d2 hit ?_
    rw [he]
    exact ⟨.bl (!c), H, I, rfl, k al H _ Ext.refl R (.bl _)⟩
  · cases e
end
end Co

namespace Co
open PySem PySem.Spec PyProof.Rows L2
/-! ### sorted -/
section
variable {prog : Program} {w : World} {A : Around} {E : Value → Shared → Prop} {s : Shared}
theorem sorted_seq {T : String} {l : Addr} {o : Obj} {vs : List Value} {n : Nat} {ltv : Value → Value → Bool} {Q : Value → Shared → Prop} (hT : T = "list" ∨ T = "tuple") (ho : s.heap.get? l = some o) (hc : o.cls = .type T) (hd : o.data = .seq vs.toArray n) (O : SrtO.Swo ltv) (hz : vs.length ≤ sizeLine)
    (hS : 2 ≤ vs.length → ∀ (h1 : Heap) (a : Addr), h1.get? a = some (seqObj "list" vs.toArray 0) → (∀ b q, s.heap.get? b = some q → b ≠ a ∧ h1.get? b = some q) → SrtO.SortableO prog w A.in1.in1 { s with heap := h1 } a vs ltv)
    (h : ∀ (h1 h2 : Heap) (out : List Value), SrtO.Srtd ltv out → SrtO.Stb ltv out vs → (∀ b q, s.heap.get? b = some q → h1.get? b = some q) → (∀ b q, h1.get? b = some q → h2.get? b = some q) → (∃ k, h2.get? h1.objs.size = some (seqObj "list" out.toArray k)) → Q (.ref h1.objs.size) { s with heap := h2 }) :
    wpAny (model prog w) A (call (.builtin "sorted") [.ref l]) Q E s := by
  refine Calls.call_function_entry kind_sorted plain_sorted entry_sorted (args_sorted1 _) ?_
  unfold Builtin.«sorted»
  refine wpAny_bind (m := checkCount "sorted" 1 1 _) (wpAny_pure (wpAny_bind ?_))
  refine wpAny_collect_seq (hsz := by rw [List.size_toArray]; exact hz) l hT ho hc hd fun h1 k1 => wpAny_bind (wpAny_newList (items := vs.toArray.toList) ?_ (by simpa using hz))
  have at1 : (h1.push (seqObj "list" vs.toArray 0)).get? h1.objs.size = some (seqObj "list" vs.toArray 0) := Heap.get?_push_size _ rfl
  have kk : ∀ b q, s.heap.get? b = some q → b ≠ h1.objs.size ∧ (h1.push (seqObj "list" vs.toArray 0)).get? b = some q := fun b q z =>
    ⟨Nat.ne_of_lt (Heap.lt_size (k1 b q z)), Heap.get?_push_of_some _ (k1 b q z)⟩
  show wpAny _ _ _ _ _ { s with heap := h1.push (seqObj "list" vs.toArray 0) }
  refine wpAny_bind (wpAny_holding (wpAny_call_entry slot_list_sort ⟨_, at1, rfl⟩ entry_list_sort ?_ (args_list_sort _)))
  refine SrtO.list_sort_ord O at1 hz (fun h2 => hS h2 _ _ at1 kk) fun out a1 a2 => ⟨_, rfl, wpAny_pure ⟨_, rfl, h h1 _ out a1 a2 k1 (fun b q z => ?_) (sortedHeap_at at1)⟩⟩
  have lt := Heap.lt_size z
  rw [sortedHeap_old (Nat.ne_of_lt lt) (by rw [size_push']; exact Nat.lt_succ_of_lt lt)]
  exact Heap.get?_push_of_some _ z
end
/-! the one sorted list -/
theorem insI_perm (x : Int) : ∀ l, (insI x l).Perm (x :: l)
  | [] => List.Perm.refl _
  | y :: l => by
    unfold insI
    split
    · exact List.Perm.refl _
    · exact ((insI_perm x l).cons y).trans (List.Perm.swap x y l)
theorem sortI_perm : ∀ l, (sortI l).Perm l
  | [] => List.Perm.refl _
  | x :: l => (insI_perm x _).trans ((sortI_perm l).cons x)
theorem insI_sorted (x : Int) : ∀ l : List Int, l.Pairwise (· ≤ ·) → (insI x l).Pairwise (· ≤ ·)
  | [], _ => List.pairwise_singleton _ _
  | y :: l, h => by
    unfold insI
    split
    · rename_i hx
      refine List.pairwise_cons.mpr ⟨fun z hz => ?_, h⟩
      rcases List.mem_cons.mp hz with rfl | hz
      · exact hx
      · exact Int.le_trans hx ((List.pairwise_cons.mp h).1 z hz)
    · rename_i hx
      obtain ⟨h1, h2⟩ := List.pairwise_cons.mp h
      refine List.pairwise_cons.mpr ⟨fun z hz => ?_, insI_sorted x l h2⟩
      rcases List.mem_cons.mp ((insI_perm x l).mem_iff.mp hz) with rfl | hz
      · omega
      · exact h1 z hz
theorem sortI_sorted : ∀ l : List Int, (sortI l).Pairwise (· ≤ ·)
  | [] => .nil
  | x :: l => insI_sorted x _ (sortI_sorted l)
theorem sortI_uniq {l ns : List Int} (h1 : l.Perm ns) (h2 : l.Pairwise (· ≤ ·)) : l = sortI ns :=
  List.Perm.eq_of_pairwise (le := (· ≤ ·)) (fun a b _ _ p q => Int.le_antisymm p q) h2 (sortI_sorted ns) (h1.trans (sortI_perm ns).symm)
theorem lexP_iff {p q : Int × Int} : lexP p q = true ↔ p.1 < q.1 ∨ (p.1 = q.1 ∧ p.2 ≤ q.2) := by
  unfold lexP
  by_cases e : p.1 = q.1
  · rw [if_pos e, decide_eq_true_eq]; omega
  · rw [if_neg e, decide_eq_true_eq]; omega
theorem lexP_anti {p q : Int × Int} (h1 : lexP p q = true) (h2 : lexP q p = true) : p = q := by
  have a := lexP_iff.mp h1
  have b := lexP_iff.mp h2
  exact Prod.ext (by omega) (by omega)
theorem insP_perm (x : Int × Int) : ∀ l, (insP x l).Perm (x :: l)
  | [] => List.Perm.refl _
  | y :: l => by
    unfold insP
    split
    · exact List.Perm.refl _
    · exact ((insP_perm x l).cons y).trans (List.Perm.swap x y l)
theorem sortP_perm : ∀ l, (sortP l).Perm l
  | [] => List.Perm.refl _
  | x :: l => (insP_perm x _).trans ((sortP_perm l).cons x)
theorem insP_sorted (x : Int × Int) : ∀ l : List (Int × Int), l.Pairwise (fun p q => lexP p q = true) → (insP x l).Pairwise (fun p q => lexP p q = true)
  | [], _ => List.pairwise_singleton _ _
  | y :: l, h => by
    unfold insP
    obtain ⟨h1, h2⟩ := List.pairwise_cons.mp h
    split
    · rename_i hx
      refine List.pairwise_cons.mpr ⟨fun z hz => ?_, h⟩
      rcases List.mem_cons.mp hz with rfl | hz
      · exact hx
      · have a := lexP_iff.mp hx
        have b := lexP_iff.mp (h1 z hz)
        exact lexP_iff.mpr (by omega)
    · rename_i hx
      refine List.pairwise_cons.mpr ⟨fun z hz => ?_, insP_sorted x l h2⟩
      rcases List.mem_cons.mp ((insP_perm x l).mem_iff.mp hz) with rfl | hz
      · have a : ¬ _ := fun q => hx (lexP_iff.mpr q)
        exact lexP_iff.mpr (by omega)
      · exact h1 z hz
theorem sortP_sorted : ∀ l : List (Int × Int), (sortP l).Pairwise (fun p q => lexP p q = true)
  | [] => .nil
  | x :: l => insP_sorted x _ (sortP_sorted l)
theorem sortP_uniq {l ns : List (Int × Int)} (h1 : l.Perm ns) (h2 : l.Pairwise (fun p q => lexP p q = true)) : l = sortP ns :=
  List.Perm.eq_of_pairwise (le := fun p q => lexP p q = true) (fun a b _ _ p q => lexP_anti p q) h2 (sortP_sorted ns) (h1.trans (sortP_perm ns).symm)
end Co

namespace Co
open PySem PySem.Spec PyProof.Rows L2
abbrev encPI (p : Int × Int) : MV := .cons (.int p.1) (.cons (.int p.2) .nil)
theorem asPrs_eq : ∀ {ys : List MV} {ps : List (Int × Int)}, asPrs ys = some ps → ys = ps.map encPI
  | [], _, e => by cases e; rfl
  | .cons (.int a) (.cons (.int b) .nil) :: r, ps, e => by
    obtain ⟨qs, e1, rfl⟩ := Option.map_eq_some_iff.mp e
    rw [List.map_cons, ← asPrs_eq e1]
theorem rl_pairs {Z : Zx} {al : Al} {H : Hp} : ∀ {ps : List (Int × Int)} {xs : List V}, RL Z al H (ps.map encPI) xs → ∀ x ∈ xs, ∃ p ∈ ps, ∃ t, x = .ref t ∧ TD Z.K H t [.int p.1, .int p.2]
  | [], _, h => by
    rw [List.map_nil] at h
    cases h
    simp
  | p :: ps, _, h => by
    rw [List.map_cons] at h
    cases h with
    | cons r t =>
      intro x hx
      rcases List.mem_cons.mp hx with rfl | hx
      · obtain ⟨a, ys, rfl, g1, g2⟩ := r.tup_inv (l := [.int p.1, .int p.2]) rfl
        cases g2 with
        | cons q1 q =>
          cases q with
          | cons q2 q3 =>
            cases q3
            rw [rv_int q1, rv_int q2] at g1
            exact ⟨p, List.mem_cons_self, a, rfl, g1⟩
      · obtain ⟨q, hq, y⟩ := rl_pairs t x hx
        exact ⟨q, List.mem_cons_of_mem _ hq, y⟩
section
variable {X : Cx} {pins : List (Addr × Obj)} {s : Shared} {σ : L2.St} {H : Hp}
/-- the new list -/
theorem sorted_end {al : Al} {m m' : MH} {Q : VK} {v : MV} {ys : List MV} {zs : List V} {h1 h2 : Heap} {out : List Value} (I : Inv X pins σ H s) (R : Rel (zx X) al m H) (e : newL ys m = .ok v m') (k : KV1 (zx X) al H v m' Q) (rl : RL (zx X) al H ys zs) (vl : Vals zs out)
    (k1 : ∀ b q, s.heap.get? b = some q → h1.get? b = some q) (k2 : ∀ b q, h1.get? b = some q → h2.get? b = some q) (he : ∃ n, h2.get? h1.objs.size = some (seqObj "list" out.toArray n)) : EP X pins σ Q (.ref h1.objs.size) { s with heap := h2 } := by
  obtain ⟨n, he⟩ := he
  obtain ⟨z, q⟩ := newL_ok R rl e k
  have I1 : Inv X pins σ H { s with heap := h1 } := I.kept (t' := s.toks) k1
  have fr : H h1.objs.size = none := I1.hok.fresh (Nat.le_refl _)
  exact ⟨.ref h1.objs.size, _, I1.laid (s := { s with heap := h1 }) (o := .lst zs) (t' := s.toks) (h' := h2) k2 (Nat.le_refl _) ⟨million z, out, n, vl, he⟩, rfl, q _ fr⟩
theorem isPair_uniq {h : Heap} {v : Value} {a b c d : Int} (x : Srt.IsPair h v a b) (y : Srt.IsPair h v c d) : (a, b) = (c, d) := by
  obtain ⟨p, o, t, u, n, e1, g1, c1, d1⟩ := x
  obtain ⟨p', o', t', u', n', e2, g2, c2, d2⟩ := y
  rw [e1] at e2
  cases e2
  rw [g1] at g2
  cases g2
  rw [d1] at d2
  cases d2
  rfl
open Classical in
noncomputable def keyOfV (h : Heap) (v : Value) : Int × Int := if x : ∃ p : Int × Int, Srt.IsPair h v p.1 p.2 then Classical.choose x else (0, 0)
theorem keyOfV_eq {h : Heap} {v : Value} {p : Int × Int} (x : Srt.IsPair h v p.1 p.2) : keyOfV h v = p := by
  unfold keyOfV
  rw [dif_pos ⟨p, x⟩]
  exact isPair_uniq (Classical.choose_spec (⟨p, x⟩ : ∃ p : Int × Int, Srt.IsPair h v p.1 p.2)) x
theorem pair_of {t : Addr} {p : Int × Int} (I : Inv X pins σ H s) (h : TD X.K H t [.int p.1, .int p.2]) : Srt.IsPair s.heap (.ref t) p.1 p.2 := by
  obtain ⟨its, rv, ⟨o, ho, hc, n, hd⟩, hlen⟩ := I.tuple h.sq
  cases rv with
  | cons r1 q =>
    cases q with
    | cons r2 q2 =>
      cases q2
      obtain ⟨t1, rfl⟩ := r1
      obtain ⟨t2, rfl⟩ := r2
      exact ⟨t, o, t1, t2, n, rfl, ho, hc, hd⟩
theorem cb_sorted (hc : X.calm = true) (hu : X.A.units + 64 < cLine) : CallR X (.builtin "sorted") (RC (zx X) bSorted) := by
  intro pins s σ H xs us Q I r h
  obtain ⟨al, m, as, v, m', R, ra, e, k⟩ := h
  unfold bSorted at e
  split at e
  · obtain ⟨x, rfl, h1⟩ := rl1 ra
    obtain ⟨u, rfl, ru⟩ := r.one
    split at e
    · rename_i ys e1
      obtain ⟨p, vs, rfl, h2, h3⟩ := seq_of R h1 e1
      cases ru
      split at e
      · rename_i ns e2
        have hv := asInts_rl h3 e2
        subst hv
        have fin : ∀ {T : String} {o : Obj} {its : List Value} {n : Nat}, T = "list" ∨ T = "tuple" → s.heap.get? p = some o → o.cls = .type T → o.data = .seq its.toArray n → Vals (ns.map V.int) its → its.length ≤ sizeLine → wpAny (model X.prog X.w) X.A (call (.builtin "sorted") [.ref p]) (EP X pins σ Q) X.xe s := by
          intro T o its n hT ho hcl hd rv hz
          have hi := rv.ints
          refine sorted_seq hT ho hcl hd SrtO.swo_int hz (fun h2 _ _ _ _ => SrtO.ints_sortable hi h2) fun a b out o1 o2 k1 k2 he => ?_
          obtain ⟨w1, w2, w3⟩ := SrtO.ints_out hi o1 o2
          have hs := sortI_uniq w2 w3
          rw [hs] at w1
          exact sorted_end I R e k (ints_rl _) (vals_of_ints w1) k1 k2 he
        rcases h2 with h2 | h2
        · obtain ⟨its, rv, pl, hz⟩ := I.list h2
          obtain ⟨o, ho, hcl, n, hd⟩ := pl.isList
          exact fin (.inl rfl) ho hcl hd rv (by rw [← rv.length]; exact hz)
        · obtain ⟨its, rv, ⟨o, ho, hcl, n, hd⟩, hz⟩ := I.tuple h2
          exact fin (.inr rfl) ho hcl hd rv (by rw [← rv.length]; exact hz)
      · split at e
        · split at e
          · rename_i n0 _ ps e3
            have hy := asPrs_eq e3
            subst hy
            have h2 : SqL X.K H p vs := by
              obtain ⟨p2, hp, hal⟩ := rv_ref h1
              cases hp
              obtain ⟨vs2, g1, g2⟩ := R.lst hal (show lstAt _ m = some _ from e1)
              rcases h2 with h2 | h2
              · exact h2
              · exact absurd h2 (by
                  intro z
                  obtain ⟨its, rv, ⟨o, ho, hcl, n, hd⟩, hz⟩ := I.tuple z
                  obtain ⟨its2, rv2, pl, _⟩ := I.list (.of g1)
                  obtain ⟨o2, ho2, hcl2, _⟩ := pl.isList
                  rw [ho] at ho2
                  cases ho2
                  rw [hcl] at hcl2
                  exact absurd (Value.type.inj hcl2) (by decide))
            obtain ⟨its, rv, pl, hz⟩ := I.list h2
            obtain ⟨o, ho, hcl, n, hd⟩ := pl.isList
            have hpr := rl_pairs h3
            obtain ⟨b1, b2⟩ := refs_back rv fun x hx => let ⟨_, _, t, y, _⟩ := hpr x hx; ⟨t, y⟩
            have hP : ∀ u ∈ its, ∃ q ∈ ps, Srt.IsPair s.heap u q.1 q.2 ∧ RV (zx X) al H (encPI q) (backV u) := fun u hu => by
              obtain ⟨t, rfl⟩ := b2 u hu
              have hm : V.ref t ∈ vs := by rw [b1]; exact List.mem_map.mpr ⟨_, hu, rfl⟩
              obtain ⟨q, hq, t2, y, g⟩ := hpr _ hm
              cases y
              exact ⟨q, hq, pair_of I g, .tup g (.cons (.int _) (.cons (.int _) .nil))⟩
            have hK : ∀ u ∈ its, Srt.IsPair s.heap u (keyOfV s.heap u).1 (keyOfV s.heap u).2 ∧ RV (zx X) al H (encPI (keyOfV s.heap u)) (backV u) := fun u hu => by
              obtain ⟨q, _, g1, g2⟩ := hP u hu
              rw [keyOfV_eq g1]
              exact ⟨g1, g2⟩
            have hps : its.map (keyOfV s.heap) = ps := by
              have key : ∀ {qs : List (Int × Int)} {ws : List V} {jts : List Value}, RL (zx X) al H (qs.map encPI) ws → Vals ws jts → jts.map (keyOfV s.heap) = qs := by
                intro qs
                induction qs with
                | nil =>
                  intro ws jts a b
                  rw [List.map_nil] at a
                  cases a
                  cases b
                  rfl
                | cons q qs ih =>
                  intro ws jts a b
                  rw [List.map_cons] at a
                  cases a with
                  | cons a1 a2 =>
                    cases b with
                    | cons b1 b2 =>
                      rw [List.map_cons, ih a2 b2]
                      obtain ⟨q2, hq2, t, y, g⟩ := rl_pairs (ps := [q]) (.cons a1 .nil) _ List.mem_cons_self
                      subst y
                      cases b1
                      have : q2 = q := by simpa using hq2
                      subst this
                      rw [keyOfV_eq (pair_of I g)]
              exact key h3 rv
            have hzl : its.length ≤ sizeLine := by rw [← rv.length]; exact hz
            refine sorted_seq (.inl rfl) ho hcl hd (SrtO.swo_lex (keyOfV s.heap)) hzl (fun h2 h₁ a ha kk => ?_) fun a b out o1 o2 k1 k2 he => ?_
            · refine SrtO.pairs_sortableO (s := { s with heap := h₁ }) (by omega) (fun u hm => (hK u hm).1.keeps fun b q z _ => (kk b q z).2) fun q z => ?_
              have z' : some q = some (seqObj "list" its.toArray 0) := z.symm.trans ha
              cases z'
              intro cc
              exact absurd (Value.type.inj cc) (by decide)
            · have mem : ∀ u ∈ out, u ∈ its := fun u hm => o2.perm.mem_iff.mp hm
              have e4 : out.map (keyOfV s.heap) = sortP ps := by
                refine sortP_uniq (by rw [← hps]; exact o2.perm.map _) (List.pairwise_map.mpr (o1.imp fun {x y} z => ?_))
                have := SrtO.lexB_no.mp z
                exact lexP_iff.mpr (by omega)
              rw [← e4, List.map_map] at e
              refine sorted_end (zs := out.map backV) I R e k ?_ (vals_back fun u hm => b2 u (mem u hm)) k1 k2 he
              have : ∀ l : List Value, (∀ u ∈ l, u ∈ its) → RL (zx X) al H (l.map ((fun p : Int × Int => MV.cons (.int p.1) (.cons (.int p.2) .nil)) ∘ keyOfV s.heap)) (l.map backV) := by
                intro l
                induction l with
                | nil => intro _; exact .nil
                | cons w l ih => intro hm; exact .cons (hK w (hm w List.mem_cons_self)).2 (ih fun u hu => hm u (List.mem_cons_of_mem _ hu))
              exact this out mem
          · cases e
        · cases e
    · cases e
  · cases e
end
end Co

namespace Co
open PySem PySem.Spec PyProof.Rows L2
theorem sw_dict {kx vx : Expr} {gs : List Comprehension} {scope : Scope} {pos py : Pos} {y : Str} {l : Nat} {env : Env} (h1 : env.scope.kind = .function) (h2 : env.scope.names.lookup y = some .local) (h3 : (py.line == pos.line) = true)
    (h4 : (scope.names.any fun (n, k) => n == y && (k == .local || k == .cell)) = false) : swapsWith (.DictComp kx vx gs scope pos) (some (.Name y py)) l env = pure true := by
  have k1 : env.kindOf y = some .local := h2
  have k2 : env.blockKind = .function := by
    unfold Env.blockKind
    rw [h1]
    rfl
  unfold swapsWith
  simp only [k2, k1, h4, h3, Expr.pos]
  rfl
end Co

namespace Co
open PySem
/-! ### two-clause comprehensions, sorted of any data -/
def comp2N (s : Src) (g : CG) (c : CE) (it1 : CI) (vs1 : List Nat) (g1 : CG) (c1 e : CE) (r : Sl) : Nat → Nat → List MV → MH → Res (List MV)
  | 0, _, _, _ => .bad
  | n + 1, i, acc, m => match s.at i m with
    | none => .bad
    | some none => .ok acc m
    | some (some v) => (g v r m).bind fun r1 m1 => (c r1 m1).bind fun x m2 => match x with
      | .bl true => (it1 r1 m2).bind fun s1 m3 => (compN s1 g1 c1 e (wipeM r1 vs1) big 0 acc m3).bind fun acc1 m4 => comp2N s g c it1 vs1 g1 c1 e r n (i + 1) acc1 m4
      | .bl false => comp2N s g c it1 vs1 g1 c1 e r n (i + 1) acc m2
      | _ => .bad
def cComp2 (it : CI) (vs : List Nat) (g : CG) (c : CE) (it1 : CI) (vs1 : List Nat) (g1 : CG) (c1 e : CE) : CE := fun r m => (it r m).bind fun s m1 => (comp2N s g c it1 vs1 g1 c1 e (wipeM r vs) big 0 [] m1).bind fun xs m2 => newL xs m2
mutual
def pdM : MV → PyData
  | .non => .none
  | .bl b => .bool b
  | .int i => .int i
  | .str x => .str x
  | .nil => .tuple []
  | .cons h t => .tuple (pdM h :: pdMs t)
  | .frz t => .list (pdMs t)
  | .ref _ => .none
def pdMs : MV → List PyData
  | .cons h t => pdM h :: pdMs t
  | _ => []
end
abbrev VD := MV × PyData
def ltD (a b : VD) : Bool := PySem.W.dataLt a.2 b.2
def insD (x : VD) : List VD → List VD
  | [] => [x]
  | y :: l => if ltD y x then y :: insD x l else x :: y :: l
def sortD : List VD → List VD
  | [] => []
  | x :: l => insD x (sortD l)
/-- strictly ascending, all pairs -/
def strictD : List VD → Bool
  | [] => true
  | x :: l => (l.all fun y => ltD x y) && strictD l
def alikeD (ds : List PyData) : Bool := ds.all fun d => ds.all fun e => PySem.W.alike d e
def tupD : PyData → Bool
  | .tuple (_ :: _) => true
  | _ => false
def othD : PyData → Bool
  | .tuple _ => false
  | .none => false
  | _ => true
/-- sorted(xs), xs of any data that can be compared, no two of them equal -/
def bSortD : BL := fun as m => match as with
  | [.ref n] => match lstAt n m with
    | some xs => match mapM? (deep m 39) xs with
      | some t => if alikeD (pdMs t) && ((pdMs t).all tupD || (pdMs t).all othD) && strictD (sortD (xs.zip (pdMs t))) then newL ((sortD (xs.zip (pdMs t))).map (·.1)) m else .bad
      | none => .bad
    | none => .bad
  | _ => .bad
end Co

namespace Co
open PySem PySem.Spec PyProof.Rows L2
mutual
theorem pdM_eq : ∀ v, pdM v = toD v
  | .non => rfl
  | .bl _ => rfl
  | .int _ => rfl
  | .str _ => rfl
  | .nil => rfl
  | .cons h t => by simp only [pdM, toD, pdM_eq h, pdMs_eq t]
  | .frz t => by simp only [pdM, toD, pdMs_eq t]
  | .ref _ => rfl
theorem pdMs_eq : ∀ v, pdMs v = toDs v
  | .cons h t => by simp only [pdMs, toDs, pdM_eq h, pdMs_eq t]
  | .non => rfl
  | .bl _ => rfl
  | .int _ => rfl
  | .str _ => rfl
  | .nil => rfl
  | .frz _ => rfl
  | .ref _ => rfl
end
theorem insD_perm (x : VD) : ∀ l, (insD x l).Perm (x :: l)
  | [] => List.Perm.refl _
  | y :: l => by
    unfold insD
    split
    · exact ((insD_perm x l).cons y).trans (List.Perm.swap x y l)
    · exact List.Perm.refl _
theorem sortD_perm : ∀ l, (sortD l).Perm l
  | [] => List.Perm.refl _
  | x :: l => (insD_perm x _).trans ((sortD_perm l).cons x)
theorem strictD_pw : ∀ {l : List VD}, strictD l = true → l.Pairwise fun a b => ltD a b = true
  | [], _ => .nil
  | x :: l, h => by
    simp only [strictD, Bool.and_eq_true, List.all_eq_true] at h
    exact List.pairwise_cons.mpr ⟨fun y hy => h.1 y hy, strictD_pw h.2⟩
theorem strictD_ne : ∀ {l : List VD}, strictD l = true → ∀ a ∈ l, ∀ b ∈ l, a = b ∨ ltD a b = true ∨ ltD b a = true
  | [], _, a, ha, _, _ => by cases ha
  | x :: l, h, a, ha, b, hb => by
    simp only [strictD, Bool.and_eq_true, List.all_eq_true] at h
    rcases List.mem_cons.mp ha with rfl | ha' <;> rcases List.mem_cons.mp hb with rfl | hb'
    · exact .inl rfl
    · exact .inr (.inl (h.1 _ hb'))
    · exact .inr (.inr (h.1 _ ha'))
    · exact strictD_ne h.2 a ha' b hb'
theorem sortD_uniq {l : List VD} (h : strictD (sortD l) = true) : l.mergeSort (PySem.W.dataLe false fun p : VD => p.2) = sortD l := by
  have T := PySem.W.sortLe_total (PyProof.Rows.listOrd PyProof.Rows.itemOrd) false (fun p : VD => PySem.W.keyToks p.2)
  have asy : ∀ {a b : VD}, ltD a b = true → ltD b a = false := fun {a b} h => PyProof.Rows.KeyOrd.klt_asymm (O := PyProof.Rows.listOrd PyProof.Rows.itemOrd) (a := PySem.W.keyToks a.2) (b := PySem.W.keyToks b.2) h
  have pw := strictD_pw h
  have hp : (l.mergeSort (PySem.W.dataLe false fun p : VD => p.2)).Perm (sortD l) := (List.mergeSort_perm _ _).trans (sortD_perm l).symm
  refine List.Perm.eq_of_pairwise (le := fun a b => PySem.W.dataLe false (fun p : VD => p.2) a b = true) (fun a b ha hb p q => ?_) (PySem.W.sort_pairwise T l) (pw.imp fun {a b} z => ?_) hp
  · have p' : (!ltD b a) = true := p
    have q' : (!ltD a b) = true := q
    rcases strictD_ne h a (hp.mem_iff.mp ha) b hb with e | e | e
    · exact e
    · rw [e] at q'; cases q'
    · rw [e] at p'; cases p'
  · show (!ltD b a) = true
    rw [asy z]; rfl
section
variable {X : Cx}
theorem alikeD_ok {ds : List PyData} (h : alikeD ds = true) : PySem.W.AllAlike ds := fun d hd e he => by
  simp only [alikeD, List.all_eq_true] at h
  exact h d hd e he
theorem sortableD_ok {ds : List PyData} (h : (ds.all tupD || ds.all othD) = true) : PySem.W.Sortable ds := by
  simp only [Bool.or_eq_true, List.all_eq_true] at h
  rcases h with h | h
  · refine .inl fun d hd => ?_
    have := h d hd
    unfold tupD at this
    split at this
    · exact ⟨_, _, rfl⟩
    · cases this
  · refine .inr fun d hd => ?_
    have := h d hd
    unfold othD at this
    split at this
    · cases this
    · cases this
    · rename_i h1 h2
      exact ⟨fun e => h2 e, fun xs e => h1 xs e⟩
theorem each_sort {al : Al} {H : Hp} {s : Shared} {pins} {σ : L2.St} (I : Inv X pins σ H s) : ∀ {xs : List MV} {vs : List V} {its : List Value} {ds : List PyData}, RL (zx X) al H xs vs → Vals vs its → DpAll X.K H vs ds →
    PySem.W.EachIs (fun v (b : VD) => ∃ y, RelV y v ∧ RV (zx X) al H b.1 y) its (xs.zip ds) ∧ PySem.W.EachIs (fun v (b : VD) => ∃ as, Reads s.heap v b.2 as) its (xs.zip ds) ∧ xs.length = ds.length
  | [], _, _, _, .nil, h2, h3 => by cases h2; cases h3; exact ⟨.nil, .nil, rfl⟩
  | x :: xs, _, _, _, .cons r1 r2, h2, h3 => by
    cases h2 with
    | cons a1 a2 =>
      cases h3 with
      | cons b1 b2 =>
        obtain ⟨q1, q2, q3⟩ := each_sort I r2 a2 b2
        exact ⟨.cons ⟨_, a1, r1⟩ q1, .cons (Dp.reads I _ _ _ b1 a1) q2, by simp [q3]⟩
theorem each_out {al : Al} {H : Hp} : ∀ {out : List Value} {bs : List VD}, PySem.W.EachIs (fun v (b : VD) => ∃ y, RelV y v ∧ RV (zx X) al H b.1 y) out bs → ∃ zs, RL (zx X) al H (bs.map (·.1)) zs ∧ Vals zs out
  | _, _, .nil => ⟨[], .nil, .nil⟩
  | _, _, .cons ⟨y, h1, h2⟩ t => by
    obtain ⟨zs, q1, q2⟩ := each_out t
    exact ⟨y :: zs, .cons h2 q1, .cons h1 q2⟩
theorem zip_snd_map : ∀ {xs : List MV} {ds : List PyData}, xs.length = ds.length → (xs.zip ds).map (fun p : VD => p.2) = ds
  | [], [], _ => rfl
  | x :: xs, d :: ds, h => by simp [zip_snd_map (by simpa using h)]
  | [], _ :: _, h => by simp at h
  | _ :: _, [], h => by simp at h
theorem Dch.mem_dep {k : Nat} : ∀ {t : MV}, Dch k t → ∀ d ∈ toDs t, d.depth ≤ k
  | _, .nil, d, h => by simp [toDs] at h
  | _, .cons h t, d, hd => by
    simp only [toDs, List.mem_cons] at hd
    rcases hd with rfl | hd
    · exact h.dep
    · exact Dch.mem_dep t d hd
theorem cb_sortD (hu : X.A.units + 64 < cLine) : CallR X (.builtin "sorted") (RC (zx X) bSortD) := by
  intro pins s σ H xs us Q I r h
  obtain ⟨al, m, as, v, m', R, ra, e, k⟩ := h
  unfold bSortD at e
  split at e
  · rename_i n
    obtain ⟨x, rfl, h1⟩ := rl1 ra
    obtain ⟨u, rfl, ru⟩ := r.one
    obtain ⟨p, rfl, hal⟩ := rv_ref h1
    cases ru
    split at e
    · rename_i ys e1
      split at e
      · rename_i t e2
        split at e
        · rename_i hc
          simp only [Bool.and_eq_true] at hc
          obtain ⟨⟨c1, c2⟩, c3⟩ := hc
          obtain ⟨vs, g1, g2⟩ := R.lst hal e1
          obtain ⟨d1, d2⟩ := map_dp (fun v v' x e r => deep_dp R 39 v v' x e r) e2 g2
          rw [pdMs_eq] at c1 c2 c3 e
          obtain ⟨its, rv, pl, hz⟩ := I.list (.of g1)
          obtain ⟨w1, w2, w3⟩ := each_sort I g2 rv d2
          have em := zip_snd_map w3
          have hL : (ys.zip (toDs t)).length ≤ sizeLine := by
            have := Paired.len g2
            simp only [List.length_zip]
            omega
          refine PySem.W.sorted_data (R := fun v (b : VD) => ∃ y, RelV y v ∧ RV (zx X) al H b.1 y) (enc := fun b : VD => b.2) (bs := ys.zip (toDs t)) pl.isList w1 w2 (by rw [em]; exact alikeD_ok c1) (by rw [em]; exact sortableD_ok (by simpa using c2)) hL (fun b hb => ?_) fun out ho hE => ?_
          · have hb2 : b.2 ∈ toDs t := by rw [← em]; exact List.mem_map.mpr ⟨b, hb, rfl⟩
            have := d1.mem_dep _ hb2
            omega
          · rw [sortD_uniq c3] at hE
            obtain ⟨zs, q1, q2⟩ := each_out hE
            obtain ⟨z, q⟩ := newL_ok R q1 e k
            obtain ⟨ep, he'⟩ := PyProof.Rows.sortedAll_at s.heap its out.toArray
            exact ⟨.ref _, _, I.laid (t' := s.toks) (o := .lst zs) (fun _ _ => PyProof.Rows.sortedAll_old) (Nat.le_succ _) ⟨million z, out, ep, q2, he'⟩, rfl, q _ (I.hok.fresh (Nat.le_succ _))⟩
        · cases e
      · cases e
    · cases e
  · cases e
end
end Co

namespace Co
open PySem PySem.Spec PyProof.Rows L2
section
variable {X : Cx}
theorem Ext0.tr {al al1 al2 : Al} {H H1 H2 : Hp} (a : Ext0 al H al1 H1) (b : Ext0 al1 H1 al2 H2) : Ext0 al H al2 H2 := ⟨fun n x h => b.le n x (a.le n x h), fun x y h => b.tup x y (a.tup x y h), fun x y z h => b.frz x y z (a.frz x y z h)⟩
def RI0 (Z : Zx) (wk : Bool) (c : CI) : TI := fun σ H Rr => ∃ al m r s m', Rel Z al m H ∧ RSl Z al H r σ ∧ c r m = .ok s m' ∧ ∀ al' H' J, Ext al H al' H' → Rel Z al' m' H' → (∀ al2 H2, Ext0 al' H' al2 H2 → SrcOk Z wk al2 H2 s J) → Rr J H'
theorem ci_tup0 {tg e : Expr} {ce : CE} (h : PE X e (RE (zx X) ce)) : PI X tg e (RI0 (zx X) false (iTupl ce)) := by
  refine PI.imp (pi_tup h) fun σ H Q hq => ?_
  obtain ⟨al, m, r, s, m', R, S, ee, k⟩ := hq
  obtain ⟨v, m1, e1, ee⟩ := Res.bind_eq_ok.mp ee
  refine ⟨al, m, r, v, m1, R, S, e1, fun al1 H1 x E1 R1 rx => ?_⟩
  split at ee
  · rename_i xs e2
    cases ee
    obtain ⟨a, vs, rfl, g1, g2⟩ := rx.tup_inv e2
    exact ⟨a, rfl, ⟨vs, g1.sq⟩, k al1 H1 _ E1 R1 fun al2 H2 E2 => src_its_t (E2.td (Z := zx X) g1) (RL.mono0 E2 g2)⟩
  · cases ee
theorem compN_len {s : Src} {g : CG} {cc ce : CE} {r : Sl} {xs : List MV} {m2 : MH} : ∀ (n i : Nat) (acc : List MV) (m3 : MH), compN s g cc ce r n i acc m3 = .ok xs m2 → acc.length ≤ xs.length := by
  intro n
  induction n with
  | zero => intro i acc m3 ec; cases ec
  | succ n ih =>
    intro i acc m3 ec
    unfold compN at ec
    split at ec
    · cases ec
    · cases ec; exact Nat.le_refl _
    · obtain ⟨r3, m4, q1, ec⟩ := Res.bind_eq_ok.mp ec
      obtain ⟨x, m5, q2, ec⟩ := Res.bind_eq_ok.mp ec
      split at ec
      · obtain ⟨y, m6, q3, ec⟩ := Res.bind_eq_ok.mp ec
        have := ih _ _ _ ec
        rw [List.length_append, List.length_singleton] at this
        omega
      · exact ih _ _ _ ec
      · cases ec
theorem comp2N_len {s : Src} {g : CG} {c : CE} {it1 : CI} {vs1 : List Nat} {g1 : CG} {c1 e : CE} {r : Sl} {xs : List MV} {m2 : MH} : ∀ (n i : Nat) (acc : List MV) (m3 : MH), comp2N s g c it1 vs1 g1 c1 e r n i acc m3 = .ok xs m2 → acc.length ≤ xs.length := by
  intro n
  induction n with
  | zero => intro i acc m3 ec; cases ec
  | succ n ih =>
    intro i acc m3 ec
    unfold comp2N at ec
    split at ec
    · cases ec
    · cases ec; exact Nat.le_refl _
    · obtain ⟨r3, m4, q1, ec⟩ := Res.bind_eq_ok.mp ec
      obtain ⟨x, m5, q2, ec⟩ := Res.bind_eq_ok.mp ec
      split at ec
      · obtain ⟨y, m6, q3, ec⟩ := Res.bind_eq_ok.mp ec
        obtain ⟨y', m6', q3', ec⟩ := Res.bind_eq_ok.mp ec
        have := ih _ _ _ ec
        have := compN_len _ _ _ _ q3'
        omega
      · exact ih _ _ _ ec
      · cases ec
theorem ext_lc2 {wk wk1 : Bool} {ci ci1 : CI} {g g1 : CG} {vs vs1 ws ws1 : List Nat} {cc cc1 ce : CE} (hv : ∀ i ∈ ws, i ∈ vs) (hv1 : ∀ i ∈ ws1, i ∈ vs1) {σ : L2.St} {H : Hp} {Q : VK} (h : RE (zx X) (cComp2 ci vs g cc ci1 vs1 g1 cc1 ce) σ H Q) :
    tLc2 (RI (zx X) wk ci) (RGx (zx X) wk ws g) (RT (zx X) cc) (RI0 (zx X) wk1 ci1) (RGx (zx X) wk1 ws1 g1) (RT (zx X) cc1) (RE (zx X) ce) vs vs1 σ H Q := by
  obtain ⟨al, m, r, v, m', R, S, e, k⟩ := h
  obtain ⟨s, m1, e1, e⟩ := Res.bind_eq_ok.mp e
  obtain ⟨xs, m2, e2, e⟩ := Res.bind_eq_ok.mp e
  refine ⟨al, m, r, s, m1, R, S, e1, fun al1 H1 J E1 R1 sj D hD => ?_⟩
  unfold newL at e
  split at e
  · rename_i hz
    cases e
    let W : Nat → Nat → Hp → Prop := fun i n H2 => ∃ al2 m3 acc avs, Ext al1 H1 al2 H2 ∧ Rel (zx X) al2 m3 H2 ∧ (∀ k, al2 k ≠ some D) ∧ H2 D = some (.lst avs) ∧ RL (zx X) al2 H2 acc avs ∧ comp2N s g cc ci1 vs1 g1 cc1 ce (wipeM r vs) n i acc m3 = .ok xs m2
    have S1 : ∀ {al2 : Al} {H2 : Hp}, Ext al1 H1 al2 H2 → RSl (zx X) al2 H2 (wipeM r vs) (wipe σ vs) := fun E2 => wipe_rsl (S.mono (E1.trans E2)) vs
    refine ⟨W, ⟨big, al1, m1, [], [], Ext.new R1 hD, Rel.new R1 hD, R1.fresh hD, upd_same, .nil, e2⟩, ?_⟩
    rintro i n H2 ⟨al2, m3, acc, avs, E2, R2, nD, hD2, ra, ec⟩
    cases n with
    | zero => cases ec
    | succ n =>
      unfold comp2N at ec
      have hj := sj al2 m3 H2 i E2 R2
      split at ec
      · cases ec
      · rename_i hx
        rw [hx] at hj
        cases ec
        refine .inl ⟨hj, ?_⟩
        have E3 : Ext al H (alAdd al2 m2.length D) H2 := by
          have E12 := E1.trans E2
          refine ⟨fun n a ha => ?_, E12.tup, E12.frz, fun a o ha nn => ?_⟩
          · have h1 := E12.le n a ha
            unfold alAdd
            rw [if_neg (by have := R2.dom n a h1; omega)]
            exact h1
          · obtain ⟨h1, h2⟩ := E12.frm a o ha nn
            refine ⟨h1, fun k hk => ?_⟩
            unfold alAdd at hk
            split at hk
            · cases hk
              obtain ⟨h3, _⟩ := E1.frm D o ha nn
              rw [hD] at h3; cases h3
            · exact h2 k hk
        have e0 : Ext0 al2 H2 (alAdd al2 m2.length D) H2 := ⟨fun n a ha => by
          unfold alAdd
          rw [if_neg (by have := R2.dom n a ha; omega)]
          exact ha, fun _ _ h => h, fun _ _ _ h => h⟩
        have R3 : Rel (zx X) (alAdd al2 m2.length D) (m2 ++ [.lst xs]) H2 := by
          refine ⟨fun n ob e => ?_, fun n a e => ?_, fun n n' a e e' => ?_⟩
          · by_cases hn : n < m2.length
            · rw [List.getElem?_append_left hn] at e
              obtain ⟨a, h1, h2⟩ := R2.has n ob e
              exact ⟨a, e0.le n a h1, h2.stay0 e0 rfl⟩
            · rw [List.getElem?_append_right (by omega)] at e
              have q : n - m2.length = 0 := by
                cases q : n - m2.length with
                | zero => rfl
                | succ j => rw [q] at e; simp at e
              rw [q] at e
              simp at e
              subst e
              have q2 : n = m2.length := by omega
              subst q2
              exact ⟨D, by unfold alAdd; rw [if_pos rfl], .lst hD2 (RL.mono0 e0 ra)⟩
          · unfold alAdd at e
            rw [List.length_append, List.length_singleton]
            split at e
            · omega
            · have := R2.dom n a e; omega
          · unfold alAdd at e e'
            split at e
            · split at e'
              · omega
              · cases e
                exact absurd e' (nD n')
            · split at e'
              · cases e'
                exact absurd e (nD n)
              · exact R2.inj n n' a e e'
        exact k _ _ _ E3 R3 (.ref (by unfold alAdd; rw [if_pos rfl]))
      · rename_i v hx
        rw [hx] at hj
        obtain ⟨r3, m4, q1, ec⟩ := Res.bind_eq_ok.mp ec
        obtain ⟨x, m5, q2, ec⟩ := Res.bind_eq_ok.mp ec
        refine .inr ⟨hj.1, W (i + 1) n, fun H' hn => ⟨n, Nat.lt_succ_self n, hn⟩, fun y H' hy => ?_⟩
        obtain ⟨E3, R3, rv⟩ := hj.2 y H' hy
        obtain ⟨d3, n3⟩ := frm_D E3 hD2 nD
        refine ⟨al2, m3, wipeM r vs, v, r3, m4, R3, S1 (E2.trans E3), rv, q1, fun al4 H4 σ4 E4 R4 S4 hl4 f4 => ?_⟩
        refine ⟨wipe_same hl4 (fun j hj => f4 j fun z => hj (hv j z)) |>.trans (wipe_wipe σ vs), ?_⟩
        obtain ⟨d4, n4⟩ := frm_D E4 d3 n3
        split at ec
        · refine ⟨al4, m4, r3, true, m5, R4, S4, q2, fun al5 H5 E5 R5 => if1 ?_⟩
          obtain ⟨d5, n5⟩ := frm_D E5 d4 n4
          obtain ⟨s1, m6, q3, ec⟩ := Res.bind_eq_ok.mp ec
          obtain ⟨acc1, m7, q4, ec⟩ := Res.bind_eq_ok.mp ec
          refine ⟨al5, m5, r3, s1, m6, R5, S4.mono E5, q3, fun al6 H6 J1 E6 R6 sj1 => ?_⟩
          obtain ⟨d6, n6⟩ := frm_D E6 d5 n5
          have E26 := E3.trans (E4.trans (E5.trans E6))
          let W1 : Nat → Nat → Hp → Prop := fun j k H7 => ∃ al7 m8 ac7 av7, Ext0 al6 H6 al7 H7 ∧ Ext al1 H1 al7 H7 ∧ Rel (zx X) al7 m8 H7 ∧ (∀ k, al7 k ≠ some D) ∧ H7 D = some (.lst av7) ∧ RL (zx X) al7 H7 ac7 av7 ∧ compN s1 g1 cc1 ce (wipeM r3 vs1) k j ac7 m8 = .ok acc1 m7 ∧ RSl (zx X) al7 H7 (wipeM r3 vs1) (wipe σ4 vs1)
          refine ⟨W1, ⟨big, al6, m6, acc, avs, Ext.refl.e0, E2.trans E26, R6, n6, d6, RL.mono E26 ra, q4, wipe_rsl (S4.mono (E5.trans E6)) vs1⟩, ?_⟩
          rintro j k7 H7 ⟨al7, m8, ac7, av7, F0, F1, R7, n7, d7, ra7, ec7, S7⟩
          cases k7 with
          | zero => cases ec7
          | succ k7 =>
            unfold compN at ec7
            have hj7 := sj1 al7 H7 F0 al7 m8 H7 j Ext.refl R7
            split at ec7
            · cases ec7
            · rename_i hx7
              rw [hx7] at hj7
              cases ec7
              exact .inl ⟨hj7, al7, m7, acc1, av7, F1, R7, n7, d7, ra7, ec⟩
            · rename_i v7 hx7
              rw [hx7] at hj7
              obtain ⟨r8, m9, t1, ec7⟩ := Res.bind_eq_ok.mp ec7
              obtain ⟨x8, m10, t2, ec7⟩ := Res.bind_eq_ok.mp ec7
              refine .inr ⟨hj7.1, W1 (j + 1) k7, fun H' hn => ⟨k7, Nat.lt_succ_self k7, hn⟩, fun y8 H8 hy8 => ?_⟩
              obtain ⟨G3, T3, rv8⟩ := hj7.2 y8 H8 hy8
              obtain ⟨d8, n8⟩ := frm_D G3 d7 n7
              refine ⟨al7, m8, wipeM r3 vs1, v7, r8, m9, T3, S7.mono G3, rv8, t1, fun al9 H9 σ9 G4 T4 S9 hl9 f9 => ?_⟩
              refine ⟨wipe_same hl9 (fun j hj => f9 j fun z => hj (hv1 j z)) |>.trans (wipe_wipe σ4 vs1), ?_⟩
              obtain ⟨d9, n9⟩ := frm_D G4 d8 n8
              split at ec7
              · refine ⟨al9, m9, r8, true, m10, T4, S9, t2, fun al10 H10 G5 T5 => if1 ?_⟩
                obtain ⟨d10, n10⟩ := frm_D G5 d9 n9
                obtain ⟨w, m11, t3, ec7⟩ := Res.bind_eq_ok.mp ec7
                refine ⟨al10, m10, r8, w, m11, T5, S9.mono G5, t3, fun al11 H11 z G6 T6 rz => ?_⟩
                obtain ⟨d11, n11⟩ := frm_D G6 d10 n10
                have G := G3.trans (G4.trans (G5.trans G6))
                have ED := e0_D (al := al11) (ys := av7 ++ [z]) d11
                refine ⟨av7, d11, ?_, al11, m11, ac7 ++ [w], av7 ++ [z], (F0.tr G.e0).tr ED, ext_D (F1.trans G) hD d11 n11, rel_D T6 d11 n11, n11, upd_same, RL.mono0 ED (Paired.append (RL.mono G ra7) (.cons rz .nil)), ec7, ?_⟩
                · have a1 := compN_len _ _ _ _ ec7
                  have a2 := comp2N_len _ _ _ _ ec
                  rw [List.length_append, List.length_singleton] at a1
                  have hz' : xs.length ≤ 1000000 := of_decide_eq_true hz
                  rw [← Paired.len ra7, sizeLine_eq]
                  omega
                · exact ⟨S7.1, fun i v hi => let ⟨x, p1, p2⟩ := S7.2 i v hi; ⟨x, p1, p2.mono0 (G.e0.tr ED)⟩⟩
              · refine ⟨al9, m9, r8, false, m10, T4, S9, t2, fun al10 H10 G5 T5 => if0 ?_⟩
                obtain ⟨d10, n10⟩ := frm_D G5 d9 n9
                have G := G3.trans (G4.trans G5)
                exact ⟨al10, m10, ac7, av7, F0.tr G.e0, F1.trans G, T5, n10, d10, RL.mono G ra7, ec7, S7.mono G⟩
              · cases ec7
        · refine ⟨al4, m4, r3, false, m5, R4, S4, q2, fun al5 H5 E5 R5 => if0 ?_⟩
          obtain ⟨d5, n5⟩ := frm_D E5 d4 n4
          have E25 := E3.trans (E4.trans E5)
          exact ⟨al5, m5, acc, avs, E2.trans E25, R5, n5, d5, RL.mono E25 ra, ec⟩
        · cases ec
  · cases e
theorem ce_comp2 {elt tg iter tg1 iter1 : Expr} {ifs ifs1 : List Expr} {scope : Scope} {own : List (Str × Nat)} {pos : Pos} {wk wk1 : Bool} {ci ci1 : CI} {g g1 : CG} {ws ws1 vs1 : List Nat} {cc cc1 ce : CE} (hc : X.calm = true) (hN : X.N.Nodup) (hv : ∀ i ∈ ws, i ∈ own.map (·.2)) (hv1 : ∀ i ∈ ws1, i ∈ vs1) (hv2 : ∀ i ∈ vs1, i ∈ own.map (·.2))
    (hi : PI X tg iter (RI (zx X) wk ci)) (ok : BlkOk X.N X.env.scope scope own)
    (hg : ∀ (s : Shared) (H : Hp) (C : Addr) (cl : List (Str × Addr)) (fp : List Addr), PG (X.blk s H scope (compEnvC scope cl C X.env) fp) tg (RGx (zx X) wk ws g)) (ht : ∀ (s : Shared) (H : Hp) (C : Addr) (cl : List (Str × Addr)) (fp : List Addr), PTs (X.blk s H scope (compEnvC scope cl C X.env) fp) ifs (RT (zx X) cc))
    (hi1 : ∀ (s : Shared) (H : Hp) (C : Addr) (cl : List (Str × Addr)) (fp : List Addr), PI (X.blk s H scope (compEnvC scope cl C X.env) fp) tg1 iter1 (RI0 (zx X) wk1 ci1))
    (hg1 : ∀ (s : Shared) (H : Hp) (C : Addr) (cl : List (Str × Addr)) (fp : List Addr), PG (X.blk s H scope (compEnvC scope cl C X.env) fp) tg1 (RGx (zx X) wk1 ws1 g1)) (ht1 : ∀ (s : Shared) (H : Hp) (C : Addr) (cl : List (Str × Addr)) (fp : List Addr), PTs (X.blk s H scope (compEnvC scope cl C X.env) fp) ifs1 (RT (zx X) cc1))
    (he : ∀ (s : Shared) (H : Hp) (C : Addr) (cl : List (Str × Addr)) (fp : List Addr), PE (X.blk s H scope (compEnvC scope cl C X.env) fp) elt (RE (zx X) ce)) (hs : ∀ x, foldedSetIterable iter X.env x = pure x := by intro _; rfl) (hs1 : ∀ env x, foldedSetIterable iter1 env x = pure x := by intro _ _; rfl) :
    PE X (.ListComp elt [⟨tg, iter, ifs, 0⟩, ⟨tg1, iter1, ifs1, 0⟩] scope pos) (RE (zx X) (cComp2 ci (own.map (·.2)) g cc ci1 vs1 g1 cc1 ce)) :=
  PE.imp (pe_lc2 hc hN hi ok hv2 hg ht hi1 hg1 ht1 he hs hs1) fun _ _ _ h => ext_lc2 hv hv1 h
end
end Co

namespace Co
open PySem
/-! ### list(zip(a, b)), xs[::-1], lists of ints compared, greatest and least of a list -/
def mvPair (x y : MV) : MV := .cons x (.cons y .nil)
def bListZip : BL := fun as m => match as with
  | [.ref a, .ref b] => match lstAt a m, lstAt b m with
    | some xs, some ys => newL (List.zipWith mvPair xs ys) m
    | _, _ => .bad
  | _ => .bad
def oRev : MV → MH → Res MV := fun a m => match a with
  | .ref n => match lstAt n m with
    | some xs => newL xs.reverse m
    | none => .bad
  | .frz t => match t.toL with
    | some xs => newL xs.reverse m
    | none => .bad
  | _ => .bad
/-- a < b, lists of ints -/
def ltIs : List Int → List Int → Bool
  | [], [] => false
  | [], _ :: _ => true
  | _ :: _, [] => false
  | a :: x, b :: y => if a = b then ltIs x y else decide (a < b)
def oGtL : B2 := fun a b m => match a, b with
  | .ref i, .ref j => match (lstAt i m).bind asInts, (lstAt j m).bind asInts with
    | some x, some y => .ok (.bl (ltIs y x)) m
    | _, _ => .bad
  | _, _ => .bad
/-- max of a list of ints -/
def bMaxL : BL := fun as m => match as with
  | [.ref n] => match (lstAt n m).bind asInts with
    | some (x :: xs) => .ok (.int (xs.foldl max x)) m
    | _ => .bad
  | _ => .bad
end Co

namespace Co
open PySem PySem.Spec PyProof.Rows L2 PySem.W
/-! ### list(zip(a, b)) -/
section
structure ZG (xs ys : Array Value) (lo : Addr) (h : Heap) (as : List Addr) : Prop where
  rise : as.Pairwise (· < ·)
  above : ∀ a ∈ as, lo < a
  pairs : ∀ (j : Nat) (a : Addr), as[j]? = some a → ∃ x y, xs[j]? = some x ∧ ys[j]? = some y ∧ IsPair h a x y
theorem ZG.there {xs ys : Array Value} {lo : Addr} {h : Heap} {as : List Addr} (g : ZG xs ys lo h as) {a : Addr} (ha : a ∈ as) : a < h.objs.size := by
  obtain ⟨j, hj⟩ := List.mem_iff_getElem?.mp ha
  obtain ⟨_, _, _, _, e⟩ := g.pairs j a hj
  exact Heap.lt_size e
def ZSt (xs ys : Array Value) (z TI TO i1 i2 l1 l2 S : Addr) (h : Heap) (i : Nat) : Prop :=
  IsPair h TI (.ref i1) (.ref i2) ∧ h.IsListIter i1 l1 i ∧ h.IsListIter i2 l2 i ∧ h.IsList l1 xs ∧ h.IsList l2 ys ∧
    ((IsZip h z TI TO .none ∧ ∃ a b, IsPair h TO a b) ∨ ∃ T f oT, IsZipHeld h z TI TO T f ∧ h.get? T = some oT ∧ S < T)
structure Low (z TI TO i1 i2 l1 l2 S : Addr) : Prop where
  z : z < S
  TI : TI < S
  TO : TO < S
  i1 : i1 < S
  i2 : i2 < S
  l1 : l1 < S
  l2 : l2 < S
variable {xs ys : Array Value} {z TI TO i1 i2 l1 l2 S : Addr}
theorem ZSt.keep {h h' : Heap} {i : Nat} (L : Low z TI TO i1 i2 l1 l2 S) (x : ZSt xs ys z TI TO i1 i2 l1 l2 S h i) (hk : ∀ b o, b ≠ S → h.get? b = some o → h'.get? b = some o) : ZSt xs ys z TI TO i1 i2 l1 l2 S h' i := by
  obtain ⟨hTI, h1, h2, hl1, hl2, hh⟩ := x
  refine ⟨hk _ _ (Nat.ne_of_lt L.TI) hTI, h1.at fun o e => hk _ o (Nat.ne_of_lt L.i1) e, h2.at fun o e => hk _ o (Nat.ne_of_lt L.i2) e, hl1.at fun o e => hk _ o (Nat.ne_of_lt L.l1) e, hl2.at fun o e => hk _ o (Nat.ne_of_lt L.l2) e, ?_⟩
  rcases hh with ⟨hz, a, b, hT⟩ | ⟨T, f, oT, hz, hT, hS⟩
  · exact .inl ⟨hk _ _ (Nat.ne_of_lt L.z) hz, a, b, hk _ _ (Nat.ne_of_lt L.TO) hT⟩
  · exact .inr ⟨T, f, oT, hk _ _ (Nat.ne_of_lt L.z) hz, hk _ _ (Nat.ne_of_gt hS) hT, hS⟩
variable {prog : Program} {w : World} {A : Around} {E : Value → Shared → Prop} {s : Shared}
theorem zl_item {i : Nat} {x y : Value} {Q : Option Value → Shared → Prop} (D : ZipApart z TI TO i1 i2 l1 l2) (L : Low z TI TO i1 i2 l1 l2 S) (hst : ZSt xs ys z TI TO i1 i2 l1 l2 S s.heap i) (hS : S < s.heap.objs.size) (hx : xs[i]? = some x) (hy : ys[i]? = some y)
    (hQ : ∀ h', ZSt xs ys z TI TO i1 i2 l1 l2 S h' (i + 1) → IsPair h' s.heap.objs.size x y → h'.objs.size = s.heap.objs.size + 1 → (∀ b o, S ≤ b → s.heap.get? b = some o → h'.get? b = some o) →
      (∀ c o, c ≠ z → c ≠ TO → c ≠ i1 → c ≠ i2 → s.heap.get? c = some o → h'.get? c = some o) → Q (some (.ref s.heap.objs.size)) { s with heap := h' }) :
    wpAny (model prog w) A (pyNext (.ref z)) Q E s := by
  obtain ⟨hTI, h1, h2, hl1, hl2, hh⟩ := hst
  have lz := L.z
  have lTO := L.TO
  have l1' := L.i1
  have l2' := L.i2
  rcases hh with ⟨hz, a, b, hTO⟩ | ⟨T, f, oT, hz, hT, hST⟩
  · refine wpAny_pyNext_zip_item D hz hTI hTO h1 h2 hl1 hl2 hx hy fun h' z' TO' h1' h2' hp hsz hk => ?_
    refine hQ h' ⟨hk _ _ D.TIz D.TITO D.TIi1 D.TIi2 hTI, h1', h2', hl1.at fun o e => hk _ o D.l1z D.l1TO D.l1i1 D.l1i2 e, hl2.at fun o e => hk _ o D.l2z D.l2TO D.l2i1 D.l2i2 e, .inr ⟨s.heap.objs.size, false, _, z', hp, hS⟩⟩ hp hsz (fun b o hb e => hk b o (Nat.ne_of_gt (Nat.lt_of_lt_of_le lz hb)) (Nat.ne_of_gt (Nat.lt_of_lt_of_le lTO hb)) (Nat.ne_of_gt (Nat.lt_of_lt_of_le l1' hb)) (Nat.ne_of_gt (Nat.lt_of_lt_of_le l2' hb)) e) hk
  · refine wpAny_pyNext_zip_item_held D hz hT hTI h1 h2 hl1 hl2 hx hy fun h' z' h1' h2' hp hsz hk => ?_
    refine hQ h' ⟨hk _ _ D.TIz D.TIi1 D.TIi2 hTI, h1', h2', hl1.at fun o e => hk _ o D.l1z D.l1i1 D.l1i2 e, hl2.at fun o e => hk _ o D.l2z D.l2i1 D.l2i2 e, .inr ⟨T, true, _, z', hk T _ (Nat.ne_of_gt (Nat.lt_trans lz hST)) (Nat.ne_of_gt (Nat.lt_trans l1' hST)) (Nat.ne_of_gt (Nat.lt_trans l2' hST)) hT, hST⟩⟩ hp hsz (fun b o hb e => hk b o (Nat.ne_of_gt (Nat.lt_of_lt_of_le lz hb)) (Nat.ne_of_gt (Nat.lt_of_lt_of_le l1' hb)) (Nat.ne_of_gt (Nat.lt_of_lt_of_le l2' hb)) e) fun c o c1 _ c3 c4 e => hk c o c1 c3 c4 e
theorem zl_done {i : Nat} {Q : Option Value → Shared → Prop} (hh : A.handled = none) (D : ZipApart z TI TO i1 i2 l1 l2) (hst : ZSt xs ys z TI TO i1 i2 l1 l2 S s.heap i) (hend : xs[i]? = none ∨ ys[i]? = none)
    (hQ : ∀ h', (∀ c o, c ≠ z → c ≠ TO → c ≠ i1 → c ≠ i2 → s.heap.get? c = some o → h'.get? c = some o) → Q none { s with heap := h' }) : wpAny (model prog w) A (pyNext (.ref z)) Q E s := by
  obtain ⟨hTI, h1, h2, hl1, hl2, hz⟩ := hst
  rcases hz with ⟨hz, a, b, hTO⟩ | ⟨T, f, oT, hz, hT, hST⟩
  · exact wpAny_pyNext_zip_end hh D hz hTI hTO h1 h2 hl1 hl2 hend hQ
  · exact wpAny_pyNext_zip_end_held hh D hz hT hTI h1 h2 hl1 hl2 hend fun h' hk => hQ h' fun c o c1 _ c3 c4 e => hk c o c1 c3 c4 e
theorem zl_loop {R : Result → Shared → Prop} (hh : A.handled = none) (D : ZipApart z TI TO i1 i2 l1 l2) (L : Low z TI TO i1 i2 l1 l2 S) (hn : min xs.size ys.size ≤ sizeLine) (res : Value) {h₁ : Heap}
    (hR : ∀ h' tk acc c as, (∀ b o, b ≠ S → b ≠ z → b ≠ TO → b ≠ i1 → b ≠ i2 → h₁.get? b = some o → h'.get? b = some o) → h'.get? S = some { cls := .type "list", dict := none, data := .seq acc c, slots := #[] } → as.length = min xs.size ys.size → ZG xs ys S h' as →
      acc.toList = as.map Value.ref → R (.ok (.ret res)) { s with heap := h', toks := tk }) :
    ∀ (k i : Nat) (h : Heap) (tk c : Nat) (acc : Array Value) (as : List Addr), min xs.size ys.size - i = k → i ≤ min xs.size ys.size → ZSt xs ys z TI TO i1 i2 l1 l2 S h i → (∀ b o, b ≠ S → b ≠ z → b ≠ TO → b ≠ i1 → b ≠ i2 → h₁.get? b = some o → h.get? b = some o) →
      h.get? S = some { cls := .type "list", dict := none, data := .seq acc c, slots := #[] } → acc.toList = as.map Value.ref → as.length = i → ZG xs ys S h as →
      codeAny (model prog w) A (.builtin "list.extend.loop" ⟨[.ref S, .ref z, res], []⟩) R { s with heap := h, toks := tk } := by
  have lz := L.z
  have lTO := L.TO
  have l1' := L.i1
  have l2' := L.i2
  intro k
  induction k with
  | zero =>
    intro i h tk c acc as hk hi hst hkeep hS hacc hal hG
    have hin : i = min xs.size ys.size := by omega
    have hend : xs[i]? = none ∨ ys[i]? = none := by
      by_cases h0 : xs.size ≤ i
      · exact .inl (Array.getElem?_eq_none h0)
      · exact .inr (Array.getElem?_eq_none (by omega))
    refine codeAny_builtin PySem.F.entry_extend_loop ?_
    rw [Around.under_plainId PySem.F.plain_extend_loop _]
    show wpAny _ A.in1 (pyNext (.ref z) >>= _) _ _ _
    refine wpAny_bind (zl_done (s := { s with heap := h, toks := tk }) (A := A.in1) hh D hst hend fun h' he => ?_)
    refine wpAny_pure (hR h' tk acc c as (fun b o h0 h1 h2 h3 h4 e => he b o h1 h2 h3 h4 (hkeep b o h0 h1 h2 h3 h4 e)) (he S _ (Nat.ne_of_gt lz) (Nat.ne_of_gt lTO) (Nat.ne_of_gt l1') (Nat.ne_of_gt l2') hS) (by omega) ⟨hG.rise, hG.above, fun j a hj => ?_⟩ hacc)
    obtain ⟨x, y, e1, e2, e3⟩ := hG.pairs j a hj
    have := hG.above a (List.mem_of_getElem? hj)
    exact ⟨x, y, e1, e2, he a _ (Nat.ne_of_gt (Nat.lt_trans lz this)) (Nat.ne_of_gt (Nat.lt_trans lTO this)) (Nat.ne_of_gt (Nat.lt_trans l1' this)) (Nat.ne_of_gt (Nat.lt_trans l2' this)) e3⟩
  | succ k ih =>
    intro i h tk c acc as hk hi hst hkeep hS hacc hal hG
    have hlt : i < min xs.size ys.size := by omega
    obtain ⟨x, hx⟩ : ∃ p, xs[i]? = some p := ⟨xs[i], Array.getElem?_eq_getElem (by omega)⟩
    obtain ⟨y, hy⟩ : ∃ p, ys[i]? = some p := ⟨ys[i], Array.getElem?_eq_getElem (by omega)⟩
    have hsz : acc.size = i := by rw [← Array.length_toList, hacc, List.length_map, hal]
    refine codeAny_builtin PySem.F.entry_extend_loop ?_
    rw [Around.under_plainId PySem.F.plain_extend_loop _]
    show wpAny _ A.in1 (pyNext (.ref z) >>= _) _ _ _
    refine wpAny_bind (zl_item (s := { s with heap := h, toks := tk }) (S := S) D L hst (Heap.lt_size hS) hx hy fun h' hst' ht hz hks hkp => ?_)
    dsimp only at ht hz hkp hks ⊢
    have hS' := hks S _ (Nat.le_refl _) hS
    have up : ∀ b o, b ≠ S → h'.get? b = some o → (h'.update S (Obj.mapSeq (·.push (Value.ref h.objs.size)))).get? b = some o := fun b o hb e => (Heap.get?_update_other _ _ (Ne.symm hb)).trans e
    have hSl : S < h.objs.size := Heap.lt_size hS
    show wpAny _ A.in1 (updateSeq S (·.push (Value.ref h.objs.size)) >>= _) _ _ _
    refine wpAny_bind ?_
    refine wpAny_updateSeq hS' rfl (wpAny_pure ⟨plainId_quiet PySem.F.plain_extend_loop _, ih (i + 1) _ tk _ (acc.push (Value.ref h.objs.size)) (as ++ [h.objs.size]) (by omega) hlt (hst'.keep L up)
      (fun b o h0 h1 h2 h3 h4 e => up b o h0 (hkp b o h1 h2 h3 h4 (hkeep b o h0 h1 h2 h3 h4 e))) (Heap.get?_update_self _ hS' rfl) (by rw [Array.toList_push, hacc, List.map_append]; rfl) (by rw [List.length_append, hal]; rfl) ⟨?_, ?_, ?_⟩⟩) (by rw [hsz]; omega) (by show (acc.push (Value.ref h.objs.size)).size ≤ sizeLine + 1; rw [Array.size_push, hsz]; omega)
    · refine List.pairwise_append.mpr ⟨hG.rise, List.pairwise_singleton _ _, fun a ha b hb => ?_⟩
      rw [List.mem_singleton.mp hb]
      exact hG.there ha
    · intro a ha
      rcases List.mem_append.mp ha with ha | ha
      · exact hG.above a ha
      · rw [List.mem_singleton.mp ha]; exact hSl
    · intro j b hj
      rcases Nat.lt_trichotomy j as.length with h1 | h1 | h1
      · rw [List.getElem?_append_left h1] at hj
        obtain ⟨x', y', e1, e2, e3⟩ := hG.pairs j b hj
        have hb := hG.above b (List.mem_of_getElem? hj)
        exact ⟨x', y', e1, e2, up b _ (Nat.ne_of_gt hb) (hks b _ (Nat.le_of_lt hb) e3)⟩
      · subst h1
        have hb : h.objs.size = b := by simpa using hj
        subst hb
        exact ⟨x, y, by rw [hal]; exact hx, by rw [hal]; exact hy, up _ _ (Nat.ne_of_gt hSl) ht⟩
      · have hnone : (as ++ [h.objs.size])[j]? = none := List.getElem?_eq_none (by rw [List.length_append, List.length_singleton]; omega)
        rw [hnone] at hj; cases hj
theorem zl_len_none : typeLookup (.type "zip") "__len__" = pure none := am_miss_of_fast (by decide +kernel)
theorem zl_hint_none : typeLookup (.type "zip") "__length_hint__" = pure none := am_miss_of_fast (by decide +kernel)
theorem zl_hint {r : Addr} (hT : s.TypeIs (.ref r) "zip") {Q : Bool → Shared → Prop} (h : Q true s) : wpAny (model prog w) A (Builtin.List.listLengthHint (.ref r)) Q E s := by
  unfold Builtin.List.listLengthHint
  refine wpAny_bind (wpAny_specialOf hT zl_len_none ?_)
  refine wpAny_ite_split (fun hab => absurd hab (by decide)) (fun _ => ?_)
  refine wpAny_ite_split (fun hab => absurd hab (by decide)) (fun _ => ?_)
  refine wpAny_bind (wpAny_specialOf hT zl_hint_none ?_)
  exact wpAny_pure h
theorem zl_extend {R : Result → Shared → Prop} (hh : A.handled = none) (D : ZipApart z TI TO i1 i2 l1 l2) (L : Low z TI TO i1 i2 l1 l2 S) (hst : ZSt xs ys z TI TO i1 i2 l1 l2 S s.heap 0) (hz : IsZip s.heap z TI TO .none) (res : Value) (c₀ : Nat) (hS : s.heap.get? S = some { cls := .type "list", data := .seq #[] c₀ })
    (hR : ∀ h' tk acc c as, (∀ b o, b ≠ S → b ≠ z → b ≠ TO → b ≠ i1 → b ≠ i2 → s.heap.get? b = some o → h'.get? b = some o) → h'.get? S = some { cls := .type "list", dict := none, data := .seq acc c, slots := #[] } → as.length = min xs.size ys.size → ZG xs ys S h' as →
      acc.toList = as.map Value.ref → R (.ok (.ret res)) { s with heap := h', toks := tk }) (hn : min xs.size ys.size ≤ sizeLine) :
    wpAny (model prog w) A.in1 (Builtin.List.listExtendWith (.ref S) (.ref z) res)
      (fun fin s' => match fin with | .done f => R (.ok f) s' | .again c' => c'.quiet = true ∧ codeAny (model prog w) A c' R s') (fun e s' => R (.error e) s') s := by
  have hT : s.TypeIs (.ref z) "zip" := ⟨_, hz, rfl⟩
  have key : ∀ (h : Heap) (c₁ tk : Nat), (∀ b o, b ≠ S → s.heap.get? b = some o → h.get? b = some o) →
      h.get? S = some { cls := .type "list", data := .seq #[] c₁ } → codeAny (model prog w) A (.builtin "list.extend.loop" ⟨[.ref S, .ref z, res], []⟩) R { s with heap := h, toks := tk } := by
    intro h c₁ tk hk hS₁
    exact zl_loop (s := s) (h₁ := s.heap) hh D L hn res hR (min xs.size ys.size) 0 h tk c₁ #[] [] (Nat.sub_zero _) (Nat.zero_le _) (hst.keep L hk) (fun b o hb _ _ _ _ e => hk b o hb e) hS₁ rfl rfl ⟨List.Pairwise.nil, (fun _ ha => nomatch ha), (fun j a hj => by simp at hj)⟩
  unfold Builtin.List.listExtendWith
  refine wpAny_bind (wpAny_typeOf (T := "zip") hT ?_)
  have h1 : Builtin.List.listSameRef (.ref S) (.ref z) = false := by
    have : S ≠ z := Nat.ne_of_gt L.z
    simp [Builtin.List.listSameRef, this]
  have h2 : (Value.type "zip" == Value.type "list") = false := by decide
  have h3 : (Value.type "zip" == Value.type "tuple") = false := by decide
  simp only [h1, h2, h3, Bool.or_false, Bool.false_eq_true, if_false]
  refine wpAny_bind (wpAny_pyIter_zip hz ?_)
  refine wpAny_bind (wpAny_holding (zl_hint hT ?_))
  refine wpAny_ite_split (fun _ => ?_) (fun _ => wpAny_pure ⟨plainId_quiet PySem.F.plain_extend_loop _, key _ c₀ _ (fun b o _ e => e) hS⟩)
  refine wpAny_bind (wpAny_rule ?_)
  refine wpAny_bind ?_
  show wpAny _ _ (updateSeq S (·.push .none) >>= fun _ => updateSeq S (·.pop)) _ _ _
  refine wpAny_bind (wpAny_updateSeq hS rfl ?_)
  have hS₂ := Heap.get?_update_self (Obj.mapSeq (·.push Value.none)) hS rfl
  refine wpAny_updateSeq (hz := by seq_fits) hS₂ rfl ?_
  have hS₃ := Heap.get?_update_self (Obj.mapSeq (·.pop)) hS₂ rfl
  refine wpAny_pure ⟨plainId_quiet PySem.F.plain_extend_loop _, key _ _ _ (fun b o hb e => ?_) hS₃⟩
  exact (Heap.get?_update_other _ _ (Ne.symm hb)).trans ((Heap.get?_update_other _ _ (Ne.symm hb)).trans e)
theorem zl_init {R : Result → Shared → Prop} (hh : A.handled = none) (D : ZipApart z TI TO i1 i2 l1 l2) (L : Low z TI TO i1 i2 l1 l2 S) (hst : ZSt xs ys z TI TO i1 i2 l1 l2 S s.heap 0) (hz : IsZip s.heap z TI TO .none) (hS : s.heap.get? S = some { cls := .type "list", data := .seq #[] })
    (hR : ∀ h' tk acc c as, (∀ b o, b ≠ S → b ≠ z → b ≠ TO → b ≠ i1 → b ≠ i2 → s.heap.get? b = some o → h'.get? b = some o) → h'.get? S = some { cls := .type "list", dict := none, data := .seq acc c, slots := #[] } → as.length = min xs.size ys.size → ZG xs ys S h' as →
      acc.toList = as.map Value.ref → R (.ok (.ret .none)) { s with heap := h', toks := tk }) (hn : min xs.size ys.size ≤ sizeLine) :
    wpAny (model prog w) A.in1 (Builtin.«list.__init__» ⟨[.ref S, .ref z], []⟩)
      (fun fin s' => match fin with | .done f => R (.ok f) s' | .again c' => c'.quiet = true ∧ codeAny (model prog w) A c' R s') (fun e s' => R (.error e) s') s := by
  show wpAny _ _ (do let old ← Builtin.List.listItems (.ref S); Builtin.List.listUpdate (.ref S) (fun _ => #[]); letGo old.toList.reverse; Builtin.List.listExtendWith (.ref S) (.ref z) .none) _ _ s
  refine wpAny_bind ?_
  unfold Builtin.List.listItems
  refine wpAny_bind (wpAny_seqItems hS rfl (wpAny_pure ?_))
  show wpAny _ _ (updateSeq S (fun _ => #[]) >>= fun _ => letGo (#[] : Array Value).toList.reverse >>= fun _ => Builtin.List.listExtendWith (.ref S) (.ref z) .none) _ _ s
  refine wpAny_bind (wpAny_updateSeq hS rfl ?_)
  have hS₂ := Heap.get?_update_self (Obj.mapSeq (fun _ => (#[] : Array Value))) hS rfl
  have oth : ∀ b o, b ≠ S → s.heap.get? b = some o → (s.heap.update S (Obj.mapSeq (fun _ => (#[] : Array Value)))).get? b = some o :=
    fun b o hb e => (Heap.get?_update_other _ _ (Ne.symm hb)).trans e
  refine wpAny_bind (wpAny_letGo ?_)
  refine zl_extend hh D L (hst.keep L oth) (oth _ _ (Nat.ne_of_lt L.z) hz) .none _ hS₂ (fun h' tk acc c as hk hS' hl hG hacc => ?_) hn
  exact hR h' tk acc c as (fun b o hb c1 c2 c3 c4 e => hk b o hb c1 c2 c3 c4 (oth b o hb e)) hS' hl hG hacc
theorem zl_call {Q : Value → Shared → Prop} (hh : A.handled = none) (D : ZipApart z TI TO i1 i2 l1 l2) (L : Low z TI TO i1 i2 l1 l2 s.heap.objs.size) (hTI : IsPair s.heap TI (.ref i1) (.ref i2)) (h1 : s.heap.IsListIter i1 l1 0) (h2 : s.heap.IsListIter i2 l2 0) (hl1 : s.heap.IsList l1 xs) (hl2 : s.heap.IsList l2 ys) (hz : IsZip s.heap z TI TO .none) (hTO : ∃ a b, IsPair s.heap TO a b) (hn : min xs.size ys.size ≤ sizeLine)
    (hQ : ∀ h' tk acc c as, (∀ b o, b ≠ z → b ≠ TO → b ≠ i1 → b ≠ i2 → s.heap.get? b = some o → h'.get? b = some o) → h'.get? s.heap.objs.size = some { cls := .type "list", dict := none, data := .seq acc c, slots := #[] } → as.length = min xs.size ys.size → ZG xs ys s.heap.objs.size h' as →
      acc.toList = as.map Value.ref → Q (.ref s.heap.objs.size) { s with heap := h', toks := tk }) :
    wpAny (model prog w) A (call (.type "list") [.ref z]) Q E s := by
  refine callType_codes (Q₁ := fun obj s₁ => obj = .ref s.heap.objs.size ∧ s₁ = { s with heap := s.heap.push { cls := .type "list", data := .seq #[] } }) PySem.F.called_list (PySem.F.typeCall_list_1 _) PySem.F.entry_list_init
    (code_list_new _ ⟨rfl, rfl⟩) fun obj s₁ h₁ => ?_
  obtain ⟨rfl, rfl⟩ := h₁
  have hS : (s.heap.push { cls := .type "list", data := .seq #[] }).get? s.heap.objs.size = some { cls := .type "list", data := .seq #[] } := Heap.get?_push_size _ rfl
  have up : ∀ b o, s.heap.get? b = some o → (s.heap.push { cls := .type "list", data := .seq #[] }).get? b = some o := fun b o e => Heap.get?_push_of_some _ e
  obtain ⟨a, b, hTO⟩ := hTO
  have st : ZSt xs ys z TI TO i1 i2 l1 l2 s.heap.objs.size (s.heap.push { cls := .type "list", data := .seq #[] }) 0 := ⟨up _ _ hTI, h1.at fun o e => up _ o e, h2.at fun o e => up _ o e, hl1.at fun o e => up _ o e, hl2.at fun o e => up _ o e, .inl ⟨up _ _ hz, a, b, up _ _ hTO⟩⟩
  refine ⟨⟨_, hS, rfl⟩, PySem.F.args_list_init_2 _ _, zl_init (A := A.in1) hh D L st (up _ _ hz) hS (fun h' tk acc c as hk hS' hl hG hacc => ?_) hn⟩
  exact ⟨rfl, hQ h' tk acc c as (fun b o c1 c2 c3 c4 e => hk b o (Nat.ne_of_lt (Heap.lt_size e)) c1 c2 c3 c4 (up b o e)) hS' hl hG hacc⟩
end

section
abbrev tupO (x y : Value) : Obj := { cls := .type "tuple", data := .seq #[x, y] }
abbrev ZP := (V × V) × Value × Value
def putZ : Hp → List Addr → List ZP → Hp
  | H, a :: as, p :: ps => putZ (upd H a (.frz (tupO p.2.1 p.2.2) (.tup [p.1.1, p.1.2]))) as ps
  | H, _, _ => H
theorem putZ_off {b : Addr} : ∀ (as : List Addr) (ps : List ZP) (H : Hp), b ∉ as → putZ H as ps b = H b
  | [], _, _, _ => rfl
  | _ :: _, [], _, _ => rfl
  | a :: as, p :: ps, H, h => by
    show putZ (upd H a _) as ps b = H b
    rw [putZ_off as ps _ (fun z => h (List.mem_cons_of_mem _ z)), upd_ne (fun z => h (by rw [z]; exact List.mem_cons_self))]
theorem putZ_at : ∀ (as : List Addr) (ps : List ZP) (H : Hp), as.length = ps.length → as.Nodup → Paired (fun (t : Addr) (p : ZP) => putZ H as ps t = some (.frz (tupO p.2.1 p.2.2) (.tup [p.1.1, p.1.2]))) as ps
  | [], [], _, _, _ => .nil
  | [], _ :: _, _, h, _ => by cases h
  | _ :: _, [], _, h, _ => by cases h
  | a :: as, p :: ps, H, h, hn => by
    have hn' := List.nodup_cons.mp hn
    have ih := putZ_at as ps (upd H a (.frz (tupO p.2.1 p.2.2) (.tup [p.1.1, p.1.2]))) (Nat.succ.inj h) hn'.2
    refine .cons ?_ ih
    show putZ (upd H a (.frz (tupO p.2.1 p.2.2) (.tup [p.1.1, p.1.2]))) as ps a = _
    rw [putZ_off as ps _ hn'.1, upd_same]
/-- pairs of values with what stands for them -/
def zps : List V → List V → List Value → List Value → List ZP
  | x :: xs, y :: ys, u :: us, v :: vs => ((x, y), u, v) :: zps xs ys us vs
  | _, _, _, _ => []
theorem zps_len : ∀ {xs ys : List V} {us vs : List Value}, Vals xs us → Vals ys vs → (zps xs ys us vs).length = min us.length vs.length
  | _, _, _, _, .nil, _ => by simp [zps]
  | _, _, _, _, .cons _ _, .nil => by simp [zps]
  | _, _, _, _, .cons _ r, .cons _ q => by
    have := zps_len r q
    simp only [zps, List.length_cons, this]
    omega
theorem zps_get : ∀ {xs ys : List V} {us vs : List Value}, Vals xs us → Vals ys vs → ∀ {j : Nat} {p : ZP}, (zps xs ys us vs)[j]? = some p → us[j]? = some p.2.1 ∧ vs[j]? = some p.2.2 ∧ RelV p.1.1 p.2.1 ∧ RelV p.1.2 p.2.2
  | _, _, _, _, .nil, _, j, p, h => by simp [zps] at h
  | _, _, _, _, .cons _ _, .nil, j, p, h => by simp [zps] at h
  | _, _, _, _, .cons r1 r, .cons q1 q, 0, p, h => by
    simp only [zps, List.getElem?_cons_zero, Option.some.injEq] at h
    subst h
    exact ⟨rfl, rfl, r1, q1⟩
  | _, _, _, _, .cons r1 r, .cons q1 q, j + 1, p, h => by
    simp only [zps, List.getElem?_cons_succ] at h
    have := zps_get r q h
    simpa using this
variable {X : Cx}
theorem zip_laid {pins : List (Addr × Obj)} {σ : L2.St} {H : Hp} {s : Shared} {h' : Heap} {tk : Nat} {S : Addr} {vx vy : List V} {us vs : List Value} {acc : Array Value} {c : Nat} {as : List Addr} (I : Inv X pins σ H s) (hz : us.length ≤ sizeLine) (rx : Vals vx us) (ry : Vals vy vs)
    (hk : ∀ b o, s.heap.get? b = some o → h'.get? b = some o) (hS0 : s.heap.objs.size ≤ S) (hS : h'.get? S = some { cls := .type "list", dict := none, data := .seq acc c, slots := #[] }) (hl : as.length = min us.length vs.length) (hG : ZG us.toArray vs.toArray S h' as) (hacc : acc.toList = as.map Value.ref) :
    ∃ H1 : Hp, (∀ b o, H b = some o → H1 b = some o) ∧ H1 S = none ∧ Paired (fun (t : Addr) (p : ZP) => H1 t = some (.frz (tupO p.2.1 p.2.2) (.tup [p.1.1, p.1.2]))) as (zps vx vy us vs) ∧ Inv X pins σ (upd H1 S (.lst (as.map V.ref))) { s with heap := h', toks := tk } := by
  have hl2 : as.length = (zps vx vy us vs).length := by rw [hl, zps_len rx ry]
  have hSn : S ∉ as := fun z => Nat.lt_irrefl _ (hG.above _ z)
  have nd : as.Nodup := List.Pairwise.imp (fun {a b} (h : a < b) => Nat.ne_of_lt h) hG.rise
  have new : ∀ t ∈ as, H t = none := fun t ht => I.hok.fresh (Nat.le_trans hS0 (Nat.le_of_lt (hG.above t ht)))
  have newS : H S = none := I.hok.fresh hS0
  have atP := putZ_at as (zps vx vy us vs) H hl2 nd
  have off : ∀ b, b ∉ as → putZ H as (zps vx vy us vs) b = H b := fun b h1 => putZ_off as _ _ h1
  have kp1 : ∀ b u, H b = some u → (putZ H as (zps vx vy us vs)) b = some u := fun b u e => by
    rw [off b (fun z => by rw [new b z] at e; cases e)]
    exact e
  have S1 : putZ H as (zps vx vy us vs) S = none := by rw [off S hSn]; exact newS
  have kp : ∀ b u, H b = some u → (upd (putZ H as (zps vx vy us vs)) S (.lst (as.map V.ref))) b = some u := fun b u e => by
    rw [upd_ne (fun z => by rw [z, newS] at e; cases e)]
    exact kp1 b u e
  have eS : upd (putZ H as (zps vx vy us vs)) S (.lst (as.map V.ref)) S = some (.lst (as.map V.ref)) := upd_same
  have low : ∀ b o, s.heap.get? b = some o → b ∉ as ∧ b ≠ S := fun b o e => ⟨fun z => absurd (Heap.lt_size e) (Nat.not_lt.mpr (Nat.le_trans hS0 (Nat.le_of_lt (hG.above b z)))), Nat.ne_of_lt (Nat.lt_of_lt_of_le (Heap.lt_size e) hS0)⟩
  refine ⟨putZ H as (zps vx vy us vs), kp1, S1, atP, ?_⟩
  refine I.call' (ch := []) rfl ⟨fun b o q _ _ _ => hk b o q, fun b o q _ _ _ => ⟨o.slots, hk b o q⟩, fun b o q n _ => ?_, fun b o q _ => ⟨o, hk b o q⟩, fun b xs q => kp b _ q, fun b o u q => kp b _ q, fun b ps q => ⟨#[], by rw [kp b _ q]; simp⟩⟩ (fun b u q => ?_) I.bare fun b z => by simp at z
  · obtain ⟨z1, z2⟩ := low b o q
    rw [upd_ne z2, off b z1]
    exact n
  · by_cases hb2 : b = S
    · rw [hb2] at q ⊢
      rw [eS] at q
      cases q
      refine ⟨by rw [List.length_map, hl]; omega, acc.toList, c, by rw [hacc]; exact LiI.vals_refs as, ?_⟩
      rw [Array.toArray_toList]
      exact hS
    · rw [upd_ne hb2] at q
      by_cases hb : b ∈ as
      · obtain ⟨j, pk, e1, e2, e3⟩ := LiI.paired_ix atP hb
        rw [e3] at q
        cases q
        obtain ⟨x, y, f1, f2, f3⟩ := hG.pairs j b e1
        obtain ⟨g1, g2, g3, g4⟩ := zps_get rx ry e2
        rw [List.getElem?_toArray] at f1 f2
        rw [g1] at f1
        rw [g2] at f2
        cases f1
        cases f2
        exact ⟨f3, by show 2 ≤ sizeLine; decide, [pk.2.1, pk.2.2], .cons g3 (.cons g4 .nil), ⟨_, f3, rfl, _, rfl⟩⟩
      · rw [off b hb] at q
        exact (I.hok b u q).stay (fun d v _ y => hk d v y) (fun d y => kp d _ y) fun d xs y => kp d _ y
theorem Ext.sub {al : Al} {H H1 : Hp} (h : ∀ b u, H b = some u → H1 b = some u) : Ext al H al H1 := ⟨fun _ _ e => e, fun a xs e => h a _ e, fun a o u e => h a _ e, fun a o e n => ⟨h a _ e, n⟩⟩
theorem Rel.sub {Z : Zx} {al : Al} {m : MH} {H H1 : Hp} (R : Rel Z al m H) (h : ∀ b u, H b = some u → H1 b = some u) : Rel Z al m H1 := by
  refine ⟨fun n ob e => ?_, R.dom, R.inj⟩
  obtain ⟨a, h1, h2⟩ := R.has n ob e
  obtain ⟨u, hu⟩ := h2.some
  exact ⟨a, h1, h2.stay (Ext.sub h) ((h a u hu).trans hu.symm)⟩
theorem zps_rl {Z : Zx} {al : Al} {H : Hp} : ∀ {xs ys : List MV} {vx vy : List V} {us vs : List Value} {as : List Addr}, RL Z al H xs vx → RL Z al H ys vy → Vals vx us → Vals vy vs → Paired (fun (t : Addr) (p : ZP) => H t = some (.frz (tupO p.2.1 p.2.2) (.tup [p.1.1, p.1.2]))) as (zps vx vy us vs) → RL Z al H (List.zipWith mvPair xs ys) (as.map V.ref)
  | _, _, _, _, _, _, as, .nil, _, .nil, _, p => by
    simp only [zps] at p
    cases p
    simp
    exact .nil
  | _, _, _, _, _, _, as, .cons _ _, .nil, .cons _ _, .nil, p => by
    simp only [zps] at p
    cases p
    simp
    exact .nil
  | _, _, _, _, _, _, as, .cons r1 r, .cons q1 q, .cons v1 v, .cons w1 w, p => by
    simp only [zps] at p
    cases p with
    | cons h t => exact .cons (.tup (.inl ⟨_, h, rfl⟩) (.cons r1 (.cons q1 .nil))) (zps_rl r q v w t)
theorem ce_listzip {e e2 : Expr} {cs : CA} {p p2 pos pos2 : Pos} (hc : X.calm = true) (hg : Gl X "list") (hm : X.mg "list" = none) (hg2 : Gl X "zip") (hm2 : X.mg "zip" = none) (ha : PA X [e, e2] (RA (zx X) cs))
    (hs : starEach [.Call (.Name "zip" p2) [e, e2] [] pos2] X.env = (false, eval (.Call (.Name "zip" p2) [e, e2] [] pos2) X.env) :: starEach [] X.env := by rfl)
    (hs2 : starEach [e, e2] X.env = (false, eval e X.env) :: starEach [e2] X.env := by rfl) (hpl : (backTo pos2 (starEach [e2] X.env)).any (·.1) = false := by rfl) :
    PE X (.Call (.Name "list" p) [.Call (.Name "zip" p2) [e, e2] [] pos2] [] pos) (RE (zx X) (cCall bListZip cs)) := by
  refine ⟨fun pins s σ H Q I hq => ?_⟩
  obtain ⟨al, m, r, v, m', R, S, ee, k⟩ := hq
  obtain ⟨vs, m1, e1, ee⟩ := Res.bind_eq_ok.mp ee
  refine wpAny_Call_Name_kw (ld_blt I hg hm bb_list ?_)
  refine PyProof.Rows.callWith_type1 ?_ hs rfl
  rw [hs]
  show wpAny _ _ (spliced ((false, eval (.Call (.Name "zip" p2) [e, e2] [] pos2) X.env) :: backTo pos (starEach [] X.env))) _ _ s
  refine Calls.spliced_cons ?_
  refine Call_ (ld_blt I hg2 hm2 PyProof.Rows.boot_zip (PyProof.Rows.callWith_type1 (thn (ha.run pos2 pins s σ H (fun xs H1 => ∃ al1, Ext al H al1 H1 ∧ Rel (zx X) al1 m1 H1 ∧ RL (zx X) al1 H1 vs xs) I ⟨al, m, r, vs, m1, R, S, e1, fun al1 H1 xs E1 R1 rs => ⟨al1, E1, R1, rs⟩⟩) fun us s1 ⟨xs, H1, I1, r1, al1, E1, R1, rs⟩ => ?_) hs2 hpl))
  unfold bListZip at ee
  split at ee
  · rename_i na nb
    split at ee
    · rename_i mx my hx hy
      cases rs with
      | cons ra rs =>
        cases rs with
        | cons rb rs =>
          cases rs
          obtain ⟨a, rfl, ha1⟩ := rv_ref ra
          obtain ⟨b, rfl, hb1⟩ := rv_ref rb
          cases r1 with
          | cons q1 q2 =>
            cases q2 with
            | cons q2 q3 =>
              cases q3
              cases q1
              cases q2
              obtain ⟨vx, hvx, rlx⟩ := R1.lst ha1 hx
              obtain ⟨vy, hvy, rly⟩ := R1.lst hb1 hy
              obtain ⟨its, rv1, p1, z1⟩ := I1.list (.of hvx)
              obtain ⟨its2, rv2, p2', z2⟩ := I1.list (.of hvy)
              have la : a < s1.heap.objs.size := p1.lt
              have lb : b < s1.heap.objs.size := p2'.lt
              refine call_zip_2 p1.isList p2'.isList fun h' hz hTI hTO h1 h2 hsz hk => ?_
              refine Calls.spliced_nil ?_
              have lt5 : ∀ k, k < 5 → s1.heap.objs.size + k < h'.objs.size := fun k hk5 => by rw [hsz]; exact Nat.add_lt_add_left hk5 _
              refine zl_call (s := { s1 with heap := h' }) (I1.ok.hd hc) (PySem.W.ktu_apart s1.heap.objs.size a b la lb) ⟨lt5 4 (by decide), lt5 2 (by decide), lt5 3 (by decide), lt5 0 (by decide), lt5 1 (by decide), Nat.lt_trans la (lt5 0 (by decide)), Nat.lt_trans lb (lt5 0 (by decide))⟩ hTI h1 h2 (p1.isList.at fun o z => hk _ o z) (p2'.isList.at fun o z => hk _ o z) hz ⟨_, _, hTO⟩ ?_ fun h2' tk acc c as hk2 hS hl hG hacc => ?_
              · have : its.toArray.size ≤ sizeLine := by rw [List.size_toArray, ← rv1.length]; exact z1
                exact Nat.le_trans (Nat.min_le_left _ _) this
              · have hk3 : ∀ b o, s1.heap.get? b = some o → h2'.get? b = some o := fun b o z => by
                  have lt := Heap.lt_size z
                  have ne : ∀ k, b ≠ s1.heap.objs.size + k := fun k => Nat.ne_of_lt (Nat.lt_of_lt_of_le lt (Nat.le_add_right _ _))
                  exact hk2 b o (ne 4) (ne 3) (ne 0) (ne 1) (hk b o z)
                have hS0 : s1.heap.objs.size ≤ h'.objs.size := Nat.le_of_lt (lt5 0 (by decide))
                obtain ⟨H2, k1, k2, k3, J⟩ := zip_laid (tk := tk) I1 (by rw [← rv1.length]; exact z1) rv1 rv2 hk3 hS0 hS (by simpa using hl) hG hacc
                have E2 : Ext al1 H1 al1 H2 := Ext.sub k1
                have R2 : Rel (zx X) al1 m1 H2 := R1.sub k1
                obtain ⟨_, q⟩ := newL_ok R2 (zps_rl (RL.mono E2 rlx) (RL.mono E2 rly) rv1 rv2 k3) ee fun al3 H3 y E3 R3 ry => k al3 H3 y (E1.trans (E2.trans E3)) R3 ry
                exact ⟨.ref _, _, J, rfl, q _ k2⟩
    · cases ee
  · cases ee
/-! ### xs[::-1] -/
theorem Paired.reverse {α β : Type} {F : α → β → Prop} : ∀ {l : List α} {r : List β}, Paired F l r → Paired F l.reverse r.reverse
  | _, _, .nil => .nil
  | _, _, .cons h t => by rw [List.reverse_cons, List.reverse_cons]; exact Paired.append (Paired.reverse t) (.cons h .nil)
theorem ce_rev {a : Expr} {ca : CE} {k : Nat} {p1 p2 p3 pos : Pos} (ha : PE X a (RE (zx X) ca)) : PE X (.Subscript a (.Slice none none (some (.UnaryOp .USub (.Constant (.int 1) k p1) p2)) p3) pos) (RE (zx X) (cUn oRev ca)) := by
  refine PE.imp (pe_revL ha) fun σ H Q h => ?_
  obtain ⟨al, m, r, v, m', R, S, e, k⟩ := h
  obtain ⟨x, m1, e1, e⟩ := Res.bind_eq_ok.mp e
  refine ⟨al, m, r, x, m1, R, S, e1, fun al1 H1 vx E1 R1 rx => ?_⟩
  unfold oRev at e
  split at e
  · split at e
    · rename_i n xs hx
      obtain ⟨p, rfl, hp⟩ := rv_ref rx
      obtain ⟨ys, h1, h2⟩ := R1.lst hp hx
      exact ⟨p, ys, rfl, .of h1, (newL_ok R1 (Paired.reverse h2) e fun al2 H2 y E2 R2 ry => k al2 H2 y (E1.trans E2) R2 ry).2⟩
    · cases e
  · split at e
    · rename_i t xs hx
      cases rx with
      | frz hf q =>
        obtain ⟨l, e', q2⟩ := q.toL
        rw [hx] at e'; cases e'
        exact ⟨_, _, rfl, hf.sq, (newL_ok R1 (Paired.reverse q2) e fun al2 H2 y E2 R2 ry => k al2 H2 y (E1.trans E2) R2 ry).2⟩
      | tup _ q => nomatch q
    · cases e
  · cases e
end
end Co

namespace Co
open PySem
/-! ### the least of a list of rows; xs.count(True) -/
def rowsAt (m : MH) : List MV → Option (List (List Int))
  | [] => some []
  | .ref k :: r => ((lstAt k m).bind asInts).bind fun ns => (rowsAt m r).map (ns :: ·)
  | _ :: _ => none
def minRow (r : List Int) (rs : List (List Int)) : List Int := rs.foldl (fun a y => if ltIs y a = true then y else a) r
/-- min of a list of rows, no two of them equal -/
def bMinR : BL := fun as m => match as with
  | [.ref n] => match lstAt n m with
    | some xs => match rowsAt m xs with
      | some (r :: rs) => if decide (r :: rs).Nodup then match xs[(r :: rs).idxOf (minRow r rs)]? with
          | some v => .ok v m
          | none => .bad
        else .bad
      | _ => .bad
    | none => .bad
  | _ => .bad
/-- xs.count(True), a list of truth values -/
def mCntB : BM := fun a as m => match as with
  | [.bl k] => match (lstOf a m).bind asBools with
    | some ns => .ok (.int (ns.count k : Nat)) m
    | none => .bad
  | _ => .bad
end Co

namespace Co
open PySem PySem.Spec PyProof.Rows L2 PySem.W
section
variable {X : Cx}
theorem holds_ints {h : Heap} : ∀ {ns : List Int} {its : List Value}, Vals (ns.map V.int) its → HoldAll h its ns
  | [], _, .nil => ⟨[], .nil⟩
  | n :: ns, _, .cons r t => by
    obtain ⟨tk, rfl⟩ : ∃ tk, _ = Value.int n tk := r
    exact HoldAll.cons (holds_int n tk) (holds_ints t)
theorem listLt_ltIs : ∀ x y : List Int, listLt x y = ltIs x y
  | [], [] => rfl
  | [], _ :: _ => rfl
  | _ :: _, [] => rfl
  | a :: x, b :: y => by
    rw [listLt, ltIs, listLt_ltIs x y]
    rfl
theorem holds_lst {pins : List (Addr × Obj)} {s : Shared} {σ : L2.St} {H : Hp} {al : Al} {m : MH} {n : Nat} {p : Addr} {ns : List Int} (I : Inv X pins σ H s) (R : Rel (zx X) al m H) (hp : al n = some p) (e : (lstAt n m).bind asInts = some ns) : Holds s.heap (.ref p) ns := by
  obtain ⟨ys, e2, e3⟩ := Option.bind_eq_some_iff.mp e
  obtain ⟨vs, g1, g2⟩ := R.lst hp e2
  obtain ⟨its, rv, pl, hz⟩ := I.list (.of g1)
  rw [asInts_rl g2 e3] at rv
  exact holds_list pl.isList (holds_ints rv)
theorem depI : Datum.depth (List Int) ≤ 8 := by decide
theorem co_gtL (hu : X.A.units + 64 < cLine) : OpR X (compareOp .Gt) (RB (zx X) oGtL) := by
  intro pins s σ H x y v u Q I rx ry h
  obtain ⟨al, m, a, b, w, m', R, ra, rb, e, k⟩ := h
  unfold oGtL at e
  split at e
  · split at e
    · rename_i i j xs ys e1 e2
      cases e
      obtain ⟨p, rfl, hp⟩ := rv_ref ra
      obtain ⟨q, rfl, hq⟩ := rv_ref rb
      cases rx
      cases ry
      refine gt_datum (holds_lst I R hp e1) (holds_lst I R hq e2) (by have := depI; omega) ⟨.bl _, H, I, rfl, k al H _ Ext.refl R ?_⟩
      rw [show DatumOrd.lt ys xs = ltIs ys xs from listLt_ltIs ys xs]
      exact .bl _
    · cases e
  · cases e
theorem foldl_max_mem : ∀ (ns : List Int) (n : Int), ns.foldl max n ∈ n :: ns ∧ ∀ y ∈ n :: ns, y ≤ ns.foldl max n
  | [], n => by simp
  | a :: ns, n => by
    obtain ⟨h1, h2⟩ := foldl_max_mem ns (max n a)
    rw [List.foldl_cons]
    have hm : max n a ≤ ns.foldl max (max n a) := h2 _ (by simp)
    refine ⟨?_, fun y hy => ?_⟩
    · rcases List.mem_cons.mp h1 with h | h
      · rw [h]
        rcases Int.le_total n a with z | z
        · rw [Int.max_eq_right z]; simp
        · rw [Int.max_eq_left z]; simp
      · simp [h]
    · rcases List.mem_cons.mp hy with rfl | hy
      · exact Int.le_trans (Int.le_max_left _ _) hm
      · rcases List.mem_cons.mp hy with rfl | hy
        · exact Int.le_trans (Int.le_max_right _ _) hm
        · exact h2 y (by simp [hy])
theorem cb_maxL (hc : X.calm = true) : CallR X (.builtin "max") (RC (zx X) bMaxL) := by
  intro pins s σ H xs us Q I r h
  obtain ⟨al, m, as, v, m', R, ra, e, k⟩ := h
  unfold bMaxL at e
  split at e
  · split at e
    · rename_i n a ns e1
      cases e
      obtain ⟨ys, e2, e3⟩ := Option.bind_eq_some_iff.mp e1
      obtain ⟨x, rfl, h1⟩ := rl1 ra
      obtain ⟨p, rfl, hp⟩ := rv_ref h1
      obtain ⟨vs, g1, g2⟩ := R.lst hp e2
      rw [asInts_rl g2 e3] at g1
      refine cr_max hc pins s σ H _ us Q I r ⟨p, a :: ns, rfl, .of g1, by simp, fun z hz hy => ?_⟩
      obtain ⟨f1, f2⟩ := foldl_max_mem ns a
      have : z = ns.foldl max a := Int.le_antisymm (f2 z hz) (hy _ f1)
      rw [this]
      exact k al H _ Ext.refl R (.int _)
    · cases e
  · cases e
/-! min of rows -/
theorem holds_rows {pins : List (Addr × Obj)} {s : Shared} {σ : L2.St} {H : Hp} {al : Al} {m : MH} (I : Inv X pins σ H s) (R : Rel (zx X) al m H) : ∀ {xs : List MV} {vs : List V} {its : List Value} {rows : List (List Int)}, RL (zx X) al H xs vs → Vals vs its → rowsAt m xs = some rows → HoldAll s.heap its rows
  | _, _, _, _, .nil, h2, e => by cases h2; cases e; exact ⟨[], .nil⟩
  | .ref k :: xs, _, _, rows, .cons r1 r2, h2, e => by
    cases h2 with
    | cons a1 a2 =>
      simp only [rowsAt] at e
      obtain ⟨ns, e1, e2⟩ := Option.bind_eq_some_iff.mp e
      obtain ⟨rs, e3, rfl⟩ := Option.map_eq_some_iff.mp e2
      obtain ⟨p, rfl, hp⟩ := rv_ref r1
      cases a1
      exact HoldAll.cons (holds_lst I R hp e1) (holds_rows I R r2 a2 e3)
  | .non :: _, _, _, _, .cons _ _, _, e => by simp [rowsAt] at e
  | .bl _ :: _, _, _, _, .cons _ _, _, e => by simp [rowsAt] at e
  | .int _ :: _, _, _, _, .cons _ _, _, e => by simp [rowsAt] at e
  | .str _ :: _, _, _, _, .cons _ _, _, e => by simp [rowsAt] at e
  | .nil :: _, _, _, _, .cons _ _, _, e => by simp [rowsAt] at e
  | .cons _ _ :: _, _, _, _, .cons _ _, _, e => by simp [rowsAt] at e
  | .frz _ :: _, _, _, _, .cons _ _, _, e => by simp [rowsAt] at e
theorem ints_inj : ∀ {a b : List Int}, a.map (Datum.toD (α := Int)) = b.map Datum.toD → a = b
  | [], [], _ => rfl
  | [], _ :: _, h => by cases h
  | _ :: _, [], h => by cases h
  | x :: a, y :: b, h => by
    simp only [List.map_cons, List.cons.injEq] at h
    have h1 : (PyData.int x) = .int y := h.1
    cases h1
    rw [ints_inj h.2]
theorem holds_uniq {h : Heap} {v : Value} {a b : List Int} (ha : Holds h v a) (hb : Holds h v b) : a = b := by
  obtain ⟨as, ra⟩ := ha
  obtain ⟨bs, rb⟩ := hb
  have e := (Reads.unique ra _ _ rb).1
  have e' : PyData.list (a.map Datum.toD) = .list (b.map Datum.toD) := e
  exact ints_inj (PyData.list.inj e')
theorem minOf_row (r : List Int) (rs : List (List Int)) : minOf r rs = minRow r rs := by
  unfold minOf minRow
  congr 1
  funext a y
  rw [show DatumOrd.lt y a = ltIs y a from listLt_ltIs y a]
theorem cb_minR (hc : X.calm = true) (hu : X.A.units + 64 < cLine) : CallR X (.builtin "min") (RC (zx X) bMinR) := by
  intro pins s σ H xs us Q I r h
  obtain ⟨al, m, as, v, m', R, ra, e, k⟩ := h
  unfold bMinR at e
  split at e
  · split at e
    · rename_i n ys e2
      split at e
      · rename_i row rows e3
        split at e
        · rename_i hnd
          split at e
          · rename_i w hw
            cases e
            obtain ⟨x, rfl, h1⟩ := rl1 ra
            obtain ⟨p, rfl, hp⟩ := rv_ref h1
            obtain ⟨vs, g1, g2⟩ := R.lst hp e2
            obtain ⟨its, rv, pl, hz⟩ := I.list (.of g1)
            have HA := holds_rows I R g2 rv e3
            rw [Vals.ref1 r]
            refine min_list_datum (I.ok.hd hc) pl.isList (by simpa using HA) (by have := depI; omega) fun i z h' tk hi hm hk => ?_
            have hi' : its[i]? = some z := by simpa using hi
            obtain ⟨row', q1, q2⟩ := HA.at hi'
            have q3 : row' = minRow row rows := by rw [← minOf_row]; exact holds_uniq (q2.keeps hk) hm
            have nd : (row :: rows).Nodup := of_decide_eq_true hnd
            have q4 : i = (row :: rows).idxOf (minRow row rows) := by
              rw [← q3]
              obtain ⟨hl, hg⟩ := List.getElem?_eq_some_iff.mp q1
              rw [← hg]
              exact (List.Nodup.idxOf_getElem nd i hl).symm
            rw [← q4] at hw
            obtain ⟨y, f1, f2⟩ := Paired.get? g2 hw
            obtain ⟨z', f3, f4⟩ := Paired.get? rv f1
            rw [hi'] at f3
            cases f3
            exact ⟨y, H, I.kept (t' := tk) hk, f4, k al H _ Ext.refl R f2⟩
          · cases e
        · cases e
      · cases e
    · cases e
  · cases e
end
end Co

namespace Co
open PySem
/-! ### d.items(), d a new dict that nobody else looks at (it stays locked) -/
def iItm (e : CE) : CI := fun r m => (e r m).bind fun v m1 => match v with
  | .ref n => match m1[n]? with
    | some (.dct false kvs) => .ok (.its (kvs.map fun p => .cons p.1 (.cons p.2 .nil))) (m1.set n (.dct true kvs))
    | _ => .bad
  | _ => .bad
end Co

namespace Co
open PySem PySem.Spec PyProof.Rows L2
/-! ### d.items() -/
def Itp (P : Program) (w : World) (d : Addr) (o : Obj) : It :=
  ⟨fun i H => ∃ es en v, H d = some (.frz o (.ext (DX P w d es))) ∧ es[i]? = some en ∧ RelV v en.2.2,
    fun i H x H' => ∃ T k v, x = .ref T ∧ H T = none ∧ H' = upd H T (.tup [.ref k, v]) ∧ ∀ es, H d = some (.frz o (.ext (DX P w d es))) → ∃ en, es[i]? = some en ∧ k = en.2.1 ∧ RelV v en.2.2,
    fun i H => ∃ es, H d = some (.frz o (.ext (DX P w d es))) ∧ es.length ≤ i⟩
theorem turn_itm {P : Program} {w : World} {K : PySem.W.Frag} {elts : List Expr} {kk : Nat} {tpos : Pos} {d : Addr} {o : Obj} {ents : Array DictEntry} {ep : Nat} (it : Addr) (hod : o.data = .dict ents ep) :
    Turn P w K (.Tuple elts kk tpos) (Itp P w d o) [it] it (fun i h => ∃ ok ov, h.get? it = some (DVw.itmOb d .none i ents.size ep ok ov)) where
  mem := by simp
  obj := fun i h st b hb => by
    have e : b = it := by simpa using hb
    subst e
    obtain ⟨ok, ov, e⟩ := st
    exact ⟨_, e, fun v z => nomatch z⟩
  keep := fun i h h' st k => let ⟨ok, ov, e⟩ := st; ⟨ok, ov, k it (by simp) _ e⟩
  item := by
    intro X hP hw hK hc i pins s σ H E I hf st hg
    subst hP hw hK
    obtain ⟨es, en, v, hd, hen, rv⟩ := hg
    obtain ⟨c1, c2, c3, c4⟩ := dx_read I hd hod
    obtain ⟨ok, ov, hit⟩ := st
    have hlt : it < s.heap.objs.size := Heap.lt_size hit
    have hx : ents[i]? = some (entryOfKey (nestedKind X.prog X.w) en) := by rw [ents_at c4, hen]; rfl
    refine DVw.itm_item hit c2 hod rfl hx fun h' b1 b2 b3 b4 => ?_
    refine ⟨_, rfl, wpAny_letOwnedTupleGo_items (s := { s with heap := h' }) (d := d) (i := i + 1) (n := ents.size) (ep := ep) (ok := (entryOfKey (nestedKind X.prog X.w) en).key) (ov := (entryOfKey (nestedKind X.prog X.w) en).val) b1 fun h'' he' sb => ?_⟩
    have hT2 : h''.get? s.heap.objs.size = some { cls := .type "tuple", data := .seq #[(entryOfKey (nestedKind X.prog X.w) en).key, (entryOfKey (nestedKind X.prog X.w) en).val] } := (sb.2 _ (Nat.ne_of_gt hlt)).trans b2
    have new : ObjOk X.prog X.w (upd H s.heap.objs.size (.tup [.ref en.2.1, v])) h'' s.heap.objs.size (.tup [.ref en.2.1, v]) :=
      ⟨by show 2 ≤ sizeLine; decide, [(entryOfKey (nestedKind X.prog X.w) en).key, (entryOfKey (nestedKind X.prog X.w) en).val], .cons rfl (.cons rv .nil), ⟨_, hT2, rfl, _, rfl⟩⟩
    have I1 : Inv X pins σ (upd H s.heap.objs.size (.tup [.ref en.2.1, v])) { s with heap := h'' } :=
      I.turnedNew (t' := s.toks) (ch := [it]) (fun b ob hb z => (sb.2 b (by simpa using hb)).trans (b4 b ob (by simpa using hb) z)) hf (Nat.le_refl _) new
    refine ⟨.ref s.heap.objs.size, _, I1, rfl, ⟨_, en.2.1, v, rfl, I.hok.fresh (Nat.le_refl _), rfl, fun es2 hd2 => ?_⟩, ⟨_, _, he'⟩, fun b hb => ?_⟩
    · obtain ⟨_, _, _, c5⟩ := dx_read I hd2 hod
      have hx2 := (ents_at c5 i).symm.trans hx
      obtain ⟨en2, g1, g2⟩ := Option.map_eq_some_iff.mp hx2
      refine ⟨en2, g1, ?_, ?_⟩
      · have g3 := congrArg DictEntry.key g2
        simp only [entryOfKey, Value.ref.injEq] at g3
        exact g3.symm
      · have g3 := congrArg DictEntry.val g2
        simp only [entryOfKey] at g3
        rw [g3]
        exact rv
    · have z : b = it := by simpa using hb
      rw [z, upd_ne (Nat.ne_of_lt hlt)]
      exact (hf it (by simp)).1
  done := by
    intro X hP hw hK hc i pins s σ H E I hf st hg
    subst hP hw hK
    obtain ⟨es, hd, hi⟩ := hg
    obtain ⟨f0, f1, f2, f3, f4, f5⟩ := hf it (by simp)
    obtain ⟨c1, c2, c3, c4⟩ := dx_read I hd hod
    obtain ⟨ok, ov, hit⟩ := st
    have he : ents[i]? = none := Array.getElem?_eq_none (by rw [ents_len c4]; exact hi)
    exact DVw.itm_end (I.ok.hd hc) hit c2 hod rfl he fun h' eb => ⟨rfl, I.turned (t' := s.toks) (fun b ob hb e => eb b ob hb e) f0 f1 f3 f4 f5⟩
  self := fun A i s Q E st h => let ⟨_, _, e⟩ := st; PySem.W.kcp_self e h
section
variable {X : Cx} {e : Expr} {ce : CE} {apos cpos : Pos}
theorem src_itm {al : Al} {H : Hp} {a : Addr} {o : Obj} {es : List DE} {kvs : List (MV × MV)} (hH : H a = some (.frz o (DO (zx X) a es))) (hp : Paired (EntR (zx X) al H) kvs es) : SrcOk (zx X) true al H (.its (kvs.map fun p => .cons p.1 (.cons p.2 .nil))) (Itp X.prog X.w a o) := by
  intro al1 m H1 i E1 R1
  simp only [Src.at, List.getElem?_map]
  have hz := E1.frz a o _ hH
  cases c : kvs[i]? with
  | none =>
    have : kvs.length ≤ i := List.getElem?_eq_none_iff.mp c
    exact ⟨es, hz, by rw [← Paired.len hp]; exact this⟩
  | some kv =>
    obtain ⟨en, q1, q2⟩ := Paired.get? hp c
    obtain ⟨_, _, _, r1, x, rx, r2⟩ := EntR.mono E1 q2
    refine ⟨⟨es, en, x, hz, q1, rx⟩, fun y H' hy => ?_⟩
    obtain ⟨T, k, v, rfl, hT, rfl, hy⟩ := hy
    obtain ⟨en2, q3, rfl, rv⟩ := hy es hz
    rw [q1] at q3
    cases q3
    have := RelV.inj rv rx
    subst this
    exact ⟨Ext.new R1 hT, Rel.new R1 hT, T, _, rfl, .inl (.inl upd_same), .cons (r1.mono (Ext.new R1 hT)) (.cons (r2.mono (Ext.new R1 hT)) .nil)⟩
theorem ext_lockF {al : Al} {H : Hp} {n : Nat} {a : Addr} {u : HO} {od : Obj} (h : al n = some a) (hu : H a = some u) (mu : Mut (some u)) : Ext al H al (upd H a (.frz od u)) := by
  have ne : ∀ b o, H b = some o → ¬ Mut (some o) → b ≠ a := fun b o q nm z => by rw [z, hu] at q; cases q; exact nm mu
  refine ⟨fun _ _ q => q, fun b xs q => ?_, fun b o w q => ?_, fun b o q nn => ?_⟩
  · rw [upd_ne (ne b _ q (fun z => z))]; exact q
  · rw [upd_ne (ne b _ q (fun z => z))]; exact q
  · have hb : b ≠ a := fun z => nn n (by rw [z]; exact h)
    exact ⟨by rw [upd_ne hb]; exact q, nn⟩
theorem ci_itm {elts : List Expr} {kk : Nat} {tpos : Pos} {pl : Sem Bool} (h : PE X e (RE (zx X) ce))
    (ht : eval (.Call (.Attribute e "items" apos) [] [] cpos) X.env = (do
      let ov ← eval e X.env
      standAt apos.atName
      let (f, first) ← holding [ov] (getMethod ov "items" pl)
      callWith cpos f first (backTo cpos (starEach [] X.env)) (backToKw cpos (keywordEach [] X.env))) := by rfl) :
    PI X (.Tuple elts kk tpos) (.Call (.Attribute e "items" apos) [] [] cpos) (RI (zx X) true (iItm ce)) := by
  refine ⟨fun pins s0 σ H Q I hq => ?_⟩
  obtain ⟨al, m, r, s, m', R, S, ee, k⟩ := hq
  obtain ⟨v, m1, e1, ee⟩ := Res.bind_eq_ok.mp ee
  refine PySem.W.methodCall_KW (pl := pl) (thn (h.run pins s0 σ H (fun x H1 => ∃ al1, Ext al H al1 H1 ∧ Rel (zx X) al1 m1 H1 ∧ RV (zx X) al1 H1 v x) I ⟨al, m, r, v, m1, R, S, e1, fun al1 H1 x E1 R1 rx => ⟨al1, E1, R1, rx⟩⟩) fun u s1 ⟨x, H1, I1, ru, al1, E1, R1, rx⟩ => ?_) ht
  split at ee
  · rename_i _ n
    split at ee
    · rename_i kvs e2
      cases ee
      obtain ⟨a, rfl, ha⟩ := rv_ref rx
      cases ru
      obtain ⟨a2, ha2, ho⟩ := R1.has _ _ e2
      rw [ha] at ha2
      cases ha2
      cases ho with
      | @dct _ es _ h3 h4 =>
        obtain ⟨o, I2⟩ := I1.lock h3 trivial
        obtain ⟨x1, R2⟩ := lock_rel R1 ha h3 h4 o
        have E2 : Ext al1 H1 al1 (upd H1 a (.frz o (DO (zx X) a es))) := ext_lockF ha h3 trivial
        obtain ⟨_, ⟨_, _, o2, ents, ep, q3, _, q5, _, _⟩, _⟩ := I2.hok a _ upd_same
        have hod : o.data = .dict ents ep := by
          obtain ⟨g, _⟩ := I2.hok a _ upd_same
          rw [g] at q3
          cases q3
          exact q5
        obtain ⟨c1, c2, c3, c4⟩ := dx_read I2 upd_same hod
        have raw : s1.heap.DictRaw a ents ep := ⟨o, c2, c3, hod⟩
        refine getMethod_builtin raw.typeIs PySem.F.plainAttrs_dict PySem.F.slot_dict_items PySem.F.type_dict_items (fun b hb => by cases hb; exact ⟨o, c2, c3.2.1⟩) ?_
        refine callWith_method0 (first := [.ref a]) (call_meetsIn PySem.F.slot_dict_items raw.typeIs PySem.F.entry_dict_items (PySem.F.args_dict_items_1 _) (meets_dict_items_raw a c1) ⟨⟨ents, ep, raw⟩, ?_⟩)
        have I3 : Inv X pins σ (upd H1 a (.frz o (DO (zx X) a es))) { s1 with heap := s1.heap.push (DSub.viewOb "dict_items" a) } := I2.kept (t' := s1.toks) fun b ob q => Heap.get?_push_of_some _ q
        refine DSub.iter_itms (Heap.get?_push_size _ rfl) (Heap.get?_push_of_some _ c2) hod ?_
        refine pi_one (tk := s1.toks) I3 _ (turn_itm _ hod) ⟨.none, .none, Heap.get?_push_size _ rfl⟩ (k al1 _ _ (E1.trans E2) R2 (src_itm upd_same (Paired.imp (fun _ _ q => EntR.mono1 x1 q) h4)))
    · cases ee
  · cases ee
end
end Co

namespace Co
open PySem
/-! ### a list times a number -/
def oMulL : B2 := fun a b m => match a, b with
  | .ref n, .int k => match lstAt n m with
    | some xs => if decide (0 ≤ k) && decide (k ≤ 100) && decide (xs.length ≤ 10000) then newL (List.replicate k.toNat xs).flatten m else .bad
    | none => .bad
  | _, _ => .bad
end Co

namespace Co
open PySem PySem.Spec PyProof.Rows L2
section
variable {X : Cx}
theorem rl_rep {Z : Zx} {al : Al} {H : Hp} {ys : List MV} {xs : List V} (r : RL Z al H ys xs) : ∀ n : Nat, RL Z al H (List.replicate n ys).flatten (List.replicate n xs).flatten
  | 0 => .nil
  | n + 1 => by
    rw [List.replicate_succ, List.replicate_succ, List.flatten_cons, List.flatten_cons]
    exact Paired.append r (rl_rep r n)
theorem co_mulL : OpR X (binaryOp .Mult) (RB (zx X) oMulL) := by
  intro pins s σ H x y v u Q I rx ry h
  obtain ⟨al, m, a, b, w, m', R, ra, rb, e, k⟩ := h
  unfold oMulL at e
  split at e
  · rename_i n1 kk
    split at e
    · rename_i z e1
      split at e
      · rename_i hk
        simp only [Bool.and_eq_true, decide_eq_true_eq] at hk
        obtain ⟨a1, rfl, h1⟩ := rv_ref ra
        obtain ⟨l1, g1, r1⟩ := R.lst h1 e1
        obtain ⟨zz, q⟩ := newL_ok R (rl_rep r1 _) e k
        have hl := Paired.len r1
        refine op_rep pins s σ H _ _ v u Q I rx ry ⟨a1, _, _, rfl, rv_int rb, g1, by omega, by omega, ?_, q⟩
        rw [sizeLine_eq, ← hl]
        have h2 : kk.toNat ≤ 100 := by have := hk.1.2; omega
        exact Nat.le_trans (Nat.mul_le_mul hk.2 h2) (by decide)
      · cases e
    · cases e
  · cases e
end
end Co

namespace Co
open PySem
/-! ### sum(lists, []) -/
def listsAt (m : MH) : List MV → Option (List (List MV))
  | [] => some []
  | .ref k :: r => (lstAt k m).bind fun xs => (listsAt m r).map (xs :: ·)
  | _ :: _ => none
def bSumL : BL := fun as m => match as with
  | [.ref n, .ref e] => match (lstAt n m).bind (listsAt m), lstAt e m with
    | some (l :: ls), some [] => if decide ((l :: ls).flatten.length ≤ 100000) then newL (l :: ls).flatten m else .bad
    | _, _ => .bad
  | _ => .bad
end Co

namespace Co
open PySem PySem.Spec PyProof.Rows L2
theorem args_sum2 (a b : Value) : argsOk "sum" ⟨[a, b], []⟩ := by unfold argsOk; kernel_rfl
theorem sub_list_str : isSubtype (.type "list") (.type "str") = pure false := by rw [isSubtype_type]; kernel_rfl
theorem sub_list_bytes : isSubtype (.type "list") (.type "bytes") = pure false := by rw [isSubtype_type]; kernel_rfl
theorem sub_list_bytearray : isSubtype (.type "list") (.type "bytearray") = pure false := by rw [isSubtype_type]; kernel_rfl
def preL (L : Nat → List Value) : Nat → List Value
  | 0 => []
  | i + 1 => preL L i ++ L i
theorem preL_le (L : Nat → List Value) : ∀ {i j : Nat}, i ≤ j → (preL L i).length ≤ (preL L j).length
  | i, 0, h => by rw [show i = 0 by omega]; exact Nat.le_refl _
  | i, j + 1, h => by
    by_cases e : i = j + 1
    · rw [e]; exact Nat.le_refl _
    · have := preL_le L (i := i) (j := j) (by omega)
      rw [preL, List.length_append]
      omega
section
variable {prog : Program} {w : World} {A : Around} {R : Result → Shared → Prop} {I l : Addr} {items : Array Value}
theorem sum_lists_loop (hh : A.handled = none) (a : Nat → Addr) (L : Nat → List Value) (hP : ∀ i, i < items.size → items[i]? = some (.ref (a i))) (S : Addr) (hSI : S ≠ I) (hSl : S ≠ l) (hlI : l ≠ I) (hz : (preL L items.size).length ≤ sizeLine) :
    ∀ (k i : Nat) (s : Shared) (T : Addr) (nT c : Nat), items.size - i = k → i ≤ items.size → s.heap.IsListIter I l i → s.heap.IsList l items → s.heap.get? S = some { cls := .type "list", dict := none, data := .seq #[.ref T] c, slots := #[] } → IsL s.heap T (preL L i).toArray nT → S ≠ T → T ≠ I →
    (∀ j, j < items.size → a j ≠ S ∧ a j ≠ I ∧ ∃ nj, IsL s.heap (a j) (L j).toArray nj) →
    (∀ h' tk T' n', IsL h' T' (preL L items.size).toArray n' → (∀ b o, b ≠ I → b ≠ S → s.heap.get? b = some o → h'.get? b = some o) → (i < items.size → s.heap.objs.size ≤ T') → (i = items.size → T' = T) → R (.ok (.ret (.ref T'))) { s with heap := h', toks := tk }) →
    codeAny (model prog w) A (.builtin "sum.loop" ⟨[.ref I, .ref S, rawInt 2, rawInt 0], []⟩) R s := by
  intro k
  induction k with
  | zero =>
    intro i s T nT c hk hi hit hl hS hT hST hTI hls hR
    have hin : i = items.size := by omega
    subst hin
    refine codeAny_builtin F.entry_sum_loop ?_
    rw [Around.under_plainId F.plain_sum_loop _]
    show wpAny _ A.in1 (seqItems? (.ref S) >>= _) _ _ s
    refine wpAny_bind (wpAny_seqItems hS rfl ?_)
    show wpAny _ A.in1 (tryCatch (pyNext (.ref I)) _ >>= _) _ _ s
    refine wpAny_bind (wpAny_tryCatch (wpAny_pyNext_list_end (show A.in1.handled = none from hh) hit hl (by simp) fun h' eb => ?_))
    exact wpAny_pure (hR h' s.toks T nT (eb T _ hTI hT) (fun b o hb _ e => eb b o hb e) (fun z => absurd z (Nat.lt_irrefl _)) fun _ => rfl)
  | succ k ih =>
    intro i s T nT c hk hi hit hl hS hT hST hTI hls hR
    have hlt : i < items.size := by omega
    refine codeAny_builtin F.entry_sum_loop ?_
    rw [Around.under_plainId F.plain_sum_loop _]
    show wpAny _ A.in1 (seqItems? (.ref S) >>= _) _ _ s
    refine wpAny_bind (wpAny_seqItems hS rfl ?_)
    show wpAny _ A.in1 (tryCatch (pyNext (.ref I)) _ >>= _) _ _ s
    refine wpAny_bind (wpAny_tryCatch (wpAny_pyNext_list_item hit hl (hP i hlt) fun h' hit' sb => ?_))
    have hS' := (sb.2 S hSI).trans hS
    have hT' := (sb.2 T hTI).trans hT
    obtain ⟨q1, q2, ni, q3⟩ := hls i hlt
    have hA' := (sb.2 (a i) q2).trans q3
    have hl' := hl.extBut sb.extBut hlI
    have hsize : h'.objs.size = s.heap.objs.size := sb.1
    have hz1 : (preL L (i + 1)).length ≤ sizeLine := Nat.le_trans (preL_le L hlt) hz
    have hsz : (preL L i).toArray.size + (L i).toArray.size ≤ sizeLine := by
      rw [preL, List.length_append] at hz1
      simpa using hz1
    show wpAny _ A.in1 ((holding [Value.ref (a i)] (binaryOp .Add (.ref T) (.ref (a i)))).attempt >>= _) _ _ _
    refine wpAny_bind (wpAny_attempt (wpAny_holding (PySem.P.add_list hT' hA' ?_ hsz)))
    have hlS : S < h'.objs.size := Heap.lt_size hS'
    have hN1 : (h'.push { cls := .type "list", data := .seq ((preL L i).toArray ++ (L i).toArray) }).get? h'.objs.size = some { cls := .type "list", dict := none, data := .seq (preL L (i + 1)).toArray 0, slots := #[] } := by
      rw [Heap.get?_push_size _ rfl, preL]
      simp
    have hS1 : (h'.push { cls := .type "list", data := .seq ((preL L i).toArray ++ (L i).toArray) }).get? S = some { cls := .type "list", dict := none, data := .seq #[.ref T] c, slots := #[] } := Heap.get?_push_of_some _ hS'
    have keep : ∀ b o, h'.get? b = some o → (h'.push { cls := .type "list", data := .seq ((preL L i).toArray ++ (L i).toArray) }).get? b = some o := fun b o e => Heap.get?_push_of_some _ e
    have hps : (h'.push { cls := .type "list", data := .seq ((preL L i).toArray ++ (L i).toArray) }).objs.size = h'.objs.size + 1 := size_push' _ _
    show wpAny _ A.in1 (updateSeq S (fun _ => #[.ref h'.objs.size]) >>= _) _ _ { s with heap := h'.push { cls := .type "list", data := .seq ((preL L i).toArray ++ (L i).toArray) } }
    generalize h'.push { cls := .type "list", data := .seq ((preL L i).toArray ++ (L i).toArray) } = h1 at *
    refine wpAny_bind (wpAny_updateSeq hS1 rfl ?_)
    have hS₂ := Heap.get?_update_self (Obj.mapSeq fun _ => #[Value.ref h'.objs.size]) hS1 rfl
    refine wpAny_bind (wpAny_letGo ?_)
    refine wpAny_bind (wpAny_updateSeq hS₂ rfl (wpAny_pure ⟨plainId_quiet F.plain_sum_loop _, ?_⟩))
    have hS₃ := Heap.get?_update_self (Obj.mapSeq fun _ => #[Value.ref h'.objs.size]) hS₂ rfl
    have oth : ∀ b, b ≠ S → ((h1.update S (Obj.mapSeq fun _ => #[Value.ref h'.objs.size])).update S (Obj.mapSeq fun _ => #[Value.ref h'.objs.size])).get? b = h1.get? b := fun b hb => (Heap.get?_update_other _ _ (Ne.symm hb)).trans (Heap.get?_update_other _ _ (Ne.symm hb))
    refine ih (i + 1) _ h'.objs.size 0 _ (by omega) hlt (hit'.at fun o e => (oth I (Ne.symm hSI)).trans (keep I o e)) (hl'.at fun o e => (oth l (Ne.symm hSl)).trans (keep l o e)) hS₃ ((oth _ (Nat.ne_of_gt hlS)).trans hN1) (Nat.ne_of_lt hlS) ?_ (fun j hj => ?_) fun h2 tk T' n' hT2 kp fr fe => ?_
    · obtain ⟨oi, e, _⟩ := hit'
      exact Nat.ne_of_gt (Heap.lt_size e)
    · obtain ⟨p1, p2, nj, p3⟩ := hls j hj
      exact ⟨p1, p2, nj, (oth _ p1).trans (keep _ _ ((sb.2 _ p2).trans p3))⟩
    · refine hR h2 tk T' n' hT2 (fun b o hb1 hb2 e => kp b o hb1 hb2 ((oth b hb2).trans (keep b o ((sb.2 b hb1).trans e)))) (fun _ => ?_) fun z => absurd z (Nat.ne_of_lt hlt)
      by_cases hi1 : i + 1 < items.size
      · have := fr hi1
        rw [Heap.size_update, Heap.size_update, hps] at this
        omega
      · rw [fe (by omega)]; omega
end
section
variable {prog : Program} {w : World} {A : Around} {E : Value → Shared → Prop} {s : Shared}
theorem call_sum_lists {l e : Addr} {items : Array Value} {ne : Nat} {Q : Value → Shared → Prop} (hh : A.handled = none) (hl : s.heap.IsList l items) (he : IsL s.heap e #[] ne) (a : Nat → Addr) (L : Nat → List Value) (h0 : 0 < items.size)
    (hP : ∀ i, i < items.size → items[i]? = some (.ref (a i))) (hls : ∀ j, j < items.size → ∃ nj, IsL s.heap (a j) (L j).toArray nj) (hz : (preL L items.size).length ≤ sizeLine)
    (hQ : ∀ h' tk T' n', IsL h' T' (preL L items.size).toArray n' → (∀ b o, s.heap.get? b = some o → h'.get? b = some o) → s.heap.objs.size ≤ T' → Q (.ref T') { s with heap := h', toks := tk }) :
    wpAny (model prog w) A (call (.builtin "sum") [.ref l, .ref e]) Q E s := by
  refine call_function_tree F.kind_sum F.plain_sum F.entry_sum (args_sum2 _ _) ?_
  unfold Builtin.«sum»
  simp only [List.length_cons, List.length_nil]
  rw [if_neg (by decide)]
  refine wpAny_bind (wpAny_of_eq (show Builtin.Builtins.bindParams "sum" ["start"] 0 ⟨[.ref e], []⟩ = pure [some (.ref e)] from rfl) ?_)
  refine wpAny_bind (wpAny_pyIter_list hl ?_)
  have hlt : l < s.heap.objs.size := by obtain ⟨o, ho, _⟩ := id hl; exact Heap.lt_size ho
  have het : e < s.heap.objs.size := Heap.lt_size he
  have hit : (s.heap.push { cls := .type "list_iterator", data := .fields #[.ref l, .int 0 0] }).IsListIter s.heap.objs.size l 0 := ⟨_, Heap.get?_push_size _ rfl, rfl, rfl⟩
  have keep : ∀ b o, s.heap.get? b = some o → (s.heap.push { cls := .type "list_iterator", data := .fields #[.ref l, .int 0 0] }).get? b = some o := fun b o q => Heap.get?_push_of_some _ q
  have hsz : (s.heap.push { cls := .type "list_iterator", data := .fields #[.ref l, .int 0 0] }).objs.size = s.heap.objs.size + 1 := size_push' _ _
  generalize s.heap.push { cls := .type "list_iterator", data := .fields #[.ref l, .int 0 0] } = h1 at *
  refine wpAny_bind (wpAny_pure ?_)
  have hT : Shared.TypeIs ({ s with heap := h1 } : Shared) (.ref e) "list" := ⟨_, keep e _ he, rfl⟩
  simp only [List.forIn_cons, List.forIn_nil]
  refine wpAny_bind (wpAny_bind (wpAny_bind (wpAny_isInstance (T := "list") (b := false) hT sub_list_str ?_)))
  simp only [Bool.false_eq_true, if_false]
  refine wpAny_pure (wpAny_bind (wpAny_bind (wpAny_isInstance (T := "list") (b := false) hT sub_list_bytes ?_)))
  simp only [Bool.false_eq_true, if_false]
  refine wpAny_pure (wpAny_bind (wpAny_bind (wpAny_isInstance (T := "list") (b := false) hT sub_list_bytearray ?_)))
  simp only [Bool.false_eq_true, if_false]
  refine wpAny_pure (wpAny_pure ?_)
  refine wpAny_bind (wpAny_newObj_type ?_)
  have lt1 : ∀ b : Addr, b < s.heap.objs.size → b ≠ s.heap.objs.size := fun b hb => Nat.ne_of_lt hb
  have lt2 : ∀ b : Addr, b < s.heap.objs.size → b ≠ h1.objs.size := fun b hb => by rw [hsz]; exact Nat.ne_of_lt (Nat.lt_succ_of_lt hb)
  have hSI : (h1.objs.size : Addr) ≠ s.heap.objs.size := by rw [hsz]; exact Nat.succ_ne_self _
  refine wpAny_pure ⟨plainId_quiet F.plain_sum_loop _, sum_lists_loop (I := s.heap.objs.size) (l := l) hh a L hP h1.objs.size hSI (Ne.symm (lt2 l hlt)) (lt1 l hlt) hz items.size 0 _ e ne 0 (Nat.sub_zero _) (Nat.zero_le _) (hit.at fun o q => Heap.get?_push_of_some _ q) (hl.at fun o q => Heap.get?_push_of_some _ (keep _ _ q)) (Heap.get?_push_size _ rfl) (Heap.get?_push_of_some _ (keep _ _ he)) (Ne.symm (lt2 e het)) (lt1 e het) (fun j hj => ?_) fun h' tk T' n' hT' kp fr fe => ?_⟩
  · obtain ⟨nj, p⟩ := hls j hj
    have := Heap.lt_size p
    exact ⟨lt2 _ this, lt1 _ this, nj, Heap.get?_push_of_some _ (keep _ _ p)⟩
  · refine hQ h' tk T' n' hT' (fun b o q => ?_) ?_
    · have := Heap.lt_size q
      exact kp b o (lt1 b this) (lt2 b this) (Heap.get?_push_of_some _ (keep _ _ q))
    · have := fr h0
      rw [size_push', hsz] at this
      exact Nat.le_trans (Nat.le_trans (Nat.le_succ _) (Nat.le_succ _)) this
end
section
variable {X : Cx}
theorem lists_at {pins : List (Addr × Obj)} {s : Shared} {σ : L2.St} {H : Hp} {al : Al} {m : MH} (I : Inv X pins σ H s) (R : Rel (zx X) al m H) : ∀ {xs : List MV} {vs : List V} {its : List Value} {ls : List (List MV)}, RL (zx X) al H xs vs → Vals vs its → listsAt m xs = some ls →
    ∃ (as : List Addr) (Ls : List (List Value)) (Vs : List (List V)), its = as.map Value.ref ∧ as.length = Ls.length ∧ Paired (fun a l => ∃ n, IsL s.heap a l.toArray n) as Ls ∧ Paired (RL (zx X) al H) ls Vs ∧ Paired Vals Vs Ls
  | _, _, _, _, .nil, h2, e => by cases h2; cases e; exact ⟨[], [], [], rfl, rfl, .nil, .nil, .nil⟩
  | .ref k :: xs, _, _, ls, .cons r1 r2, h2, e => by
    cases h2 with
    | cons a1 a2 =>
      simp only [listsAt] at e
      obtain ⟨ns, e1, e2⟩ := Option.bind_eq_some_iff.mp e
      obtain ⟨rs, e3, rfl⟩ := Option.map_eq_some_iff.mp e2
      obtain ⟨p, rfl, hp⟩ := rv_ref r1
      cases a1
      obtain ⟨as, Ls, Vs, h1, h2, h3, h4, h5⟩ := lists_at I R r2 a2 e3
      obtain ⟨l1, g1, g2⟩ := R.lst hp e1
      obtain ⟨z, its2, n2, rr, hl2, ee⟩ := I.lstM g1
      exact ⟨p :: as, its2 :: Ls, l1 :: Vs, by rw [h1]; rfl, by simp [h2], .cons ⟨n2, ee⟩ h3, .cons g2 h4, .cons rr h5⟩
  | .non :: _, _, _, _, .cons _ _, _, e => by simp [listsAt] at e
  | .bl _ :: _, _, _, _, .cons _ _, _, e => by simp [listsAt] at e
  | .int _ :: _, _, _, _, .cons _ _, _, e => by simp [listsAt] at e
  | .str _ :: _, _, _, _, .cons _ _, _, e => by simp [listsAt] at e
  | .nil :: _, _, _, _, .cons _ _, _, e => by simp [listsAt] at e
  | .cons _ _ :: _, _, _, _, .cons _ _, _, e => by simp [listsAt] at e
  | .frz _ :: _, _, _, _, .cons _ _, _, e => by simp [listsAt] at e
theorem preL_flat : ∀ (Ls : List (List Value)) (L : Nat → List Value), (∀ (i : Nat) l, Ls[i]? = some l → L i = l) → preL L Ls.length = Ls.flatten := by
  intro Ls L h
  have key : ∀ i, i ≤ Ls.length → preL L i = (Ls.take i).flatten := by
    intro i
    induction i with
    | zero => intro _; rfl
    | succ i ih =>
      intro hi
      rw [preL, ih (by omega), List.take_succ, List.getElem?_eq_getElem (by omega), Option.toList_some, List.flatten_append, h i _ (List.getElem?_eq_getElem (by omega))]
      simp
  rw [key _ (Nat.le_refl _), List.take_length]
theorem rl_flat {Z : Zx} {al : Al} {H : Hp} : ∀ {ls : List (List MV)} {Vs : List (List V)}, Paired (RL Z al H) ls Vs → RL Z al H ls.flatten Vs.flatten
  | _, _, .nil => .nil
  | _, _, .cons h t => by rw [List.flatten_cons, List.flatten_cons]; exact Paired.append h (rl_flat t)
theorem vals_flat : ∀ {Vs : List (List V)} {Ls : List (List Value)}, Paired Vals Vs Ls → Vals Vs.flatten Ls.flatten
  | _, _, .nil => .nil
  | _, _, .cons h t => by rw [List.flatten_cons, List.flatten_cons]; exact Paired.append h (vals_flat t)
theorem cb_sumL (hc : X.calm = true) : CallR X (.builtin "sum") (RC (zx X) bSumL) := by
  intro pins s σ H xs us Q I r h
  obtain ⟨al, m, as, v, m', R, ra, e, k⟩ := h
  unfold bSumL at e
  split at e
  · rename_i n en
    split at e
    · rename_i l ls e1 e2
      split at e
      · rename_i hz
        obtain ⟨ys, e3, e4⟩ := Option.bind_eq_some_iff.mp e1
        obtain ⟨x, y, rfl, h1, h2⟩ := rl2 ra
        obtain ⟨p, rfl, hp⟩ := rv_ref h1
        obtain ⟨q, rfl, hq⟩ := rv_ref h2
        obtain ⟨vs, g1, g2⟩ := R.lst hp e3
        obtain ⟨ws, g3, g4⟩ := R.lst hq e2
        cases g4
        obtain ⟨u, u', rfl, ru, ru'⟩ := vals2 r
        cases ru
        cases ru'
        obtain ⟨z1, its, n1, r1, hl1, ee1⟩ := I.lstM g1
        obtain ⟨z2, its2, n2, r2, hl2, ee2⟩ := I.lstM g3
        have : its2 = [] := by cases r2; rfl
        subst this
        obtain ⟨ads, Ls, Vs, t1, t2, t3, t4, t5⟩ := lists_at I R g2 r1 e4
        have rf := rl_flat t4
        have vf := vals_flat t5
        obtain ⟨zz, qn⟩ := newL_ok R rf e k
        have hlen : its.toArray.size = Ls.length := by rw [t1]; simp [t2]
        have hLs : Ls.length = (l :: ls).length := by rw [← Paired.len t5, ← Paired.len t4]
        refine call_sum_lists (I.ok.hd hc) ⟨_, ee1, rfl, _, rfl⟩ ee2 (fun i => ads.getD i 0) (fun i => Ls.getD i []) (by rw [hlen, hLs]; simp) (fun i hi => ?_) (fun j hj => ?_) ?_ fun h' tk T' n' hT' kp fr => ?_
        · have hi' : i < ads.length := by rw [t2, ← hlen]; exact hi
          rw [t1, List.getElem?_toArray, List.getElem?_map, List.getElem?_eq_getElem hi', Option.map_some, List.getD_eq_getElem?_getD, List.getElem?_eq_getElem hi']
          rfl
        · have hj' : j < ads.length := by rw [t2, ← hlen]; exact hj
          obtain ⟨L1, w1, w2⟩ := Paired.get? t3 (List.getElem?_eq_getElem hj')
          rw [List.getD_eq_getElem?_getD, List.getElem?_eq_getElem hj', List.getD_eq_getElem?_getD, w1]
          exact w2
        · rw [hlen, preL_flat Ls _ fun i l h => by rw [List.getD_eq_getElem?_getD, h]; rfl, ← vf.length]
          exact million zz
        · rw [hlen, preL_flat Ls _ fun i l h => by rw [List.getD_eq_getElem?_getD, h]; rfl] at hT'
          exact ⟨.ref T', _, I.laid (o := .lst Vs.flatten) (t' := tk) (fun b u q => kp b u q) fr ⟨million zz, Ls.flatten, n', vf, hT'⟩, rfl, qn T' (I.hok.fresh fr)⟩
      · cases e
    · cases e
  · cases e
end
end Co

namespace Co
open PySem PySem.Spec PyProof.Rows L2
section
variable {X : Cx}
/-! ### bs.count(b) -/
def eqb (k : Bool) : Value → Bool
  | .bool b => b == k
  | _ => false
theorem vals_bools : ∀ {bs : List Bool} {its : List Value}, Vals (bs.map V.bl) its → its = bs.map Value.bool
  | [], _, .nil => rfl
  | b :: bs, _, .cons r t => by
    have r : _ = Value.bool b := r
    rw [r, vals_bools t]; rfl
theorem mc_cntB : MtR X "list.count" (RM (zx X) mCntB) := by
  intro pins s σ H x xs v us Q I rx rxs h
  obtain ⟨al, m, a, as, w, m', R, ra, rs, e, k⟩ := h
  unfold mCntB at e
  split at e
  · rename_i kb
    split at e
    · rename_i ns e1
      cases e
      obtain ⟨ys, e2, e3⟩ := Option.bind_eq_some_iff.mp e1
      obtain ⟨p, vs, rfl, h1, h2⟩ := lst_of R ra e2
      obtain ⟨y, rfl, ry⟩ := rl1 rs
      rw [asBools_rl h2 e3] at h1
      rw [rv_bl ry] at rxs
      cases rx
      obtain ⟨u, rfl, ru⟩ := rxs.one
      have ru : u = Value.bool kb := ru
      subst ru
      obtain ⟨its, rv, ⟨⟨cls, dd, data, sl⟩, n, ho, hc, hdn, hd⟩, hlen⟩ := I.list h1
      simp only at hc hd
      subst hc hd
      have hi := vals_bools rv
      subst hi
      refine call_meets PySem.F.slot_list_count ⟨_, ho, rfl⟩ PySem.F.entry_list_count (PySem.F.args_list_count_2 _ _)
        (SeqAt.list_countAt p (ns.map Value.bool).toArray n dd sl (.bool kb) (eqb kb)) ⟨ho, fun y hy => ?_, ?_⟩
      · have hy : y ∈ ns.map Value.bool := by simpa using hy
        obtain ⟨b, _, rfl⟩ := List.mem_map.mp hy
        exact PySem.SeqAt.EqAt.bool_bool b kb
      · have ec : (ns.map Value.bool).toArray.toList.countP (eqb kb) = ns.count kb := by
          show (ns.map Value.bool).countP (eqb kb) = _
          rw [List.countP_map]
          rfl
        refine ⟨.int (ns.count kb : Nat), H, I.tok _, ⟨s.toks, ?_⟩, k al H _ Ext.refl R (.int _)⟩
        show Value.int (((ns.map Value.bool).toArray.toList.countP (eqb kb) : Nat) : Int) s.toks = Value.int ((ns.count kb : Nat) : Int) s.toks
        rw [ec]
    · cases e
  · cases e
end
end Co

/-! own classes: fields, methods, making, len(o) -/
namespace Co
open PySem
def putFM (f : Str) (v : MV) : List (Str × MV) → List (Str × MV)
  | [] => [(f, v)]
  | (g, w) :: r => if g = f then (g, v) :: r else (g, w) :: putFM f v r
/-- o.f -/
def oFld (C f : Str) : MV → MH → Res MV := fun x m => match x with
  | .ref n => match m[n]? with
    | some (.ins c fs) => if c = C then match fs.lookup f with
        | some v => .ok v m
        | none => .bad
      else .bad
    | _ => .bad
  | _ => .bad
def cFld (C f : Str) (e : CE) : CE := fun r m => (e r m).bind (oFld C f)
/-- o.f = v -/
def oPutF (C f : Str) (x y : MV) (m : MH) : Res Unit := match x with
  | .ref n => match m[n]? with
    | some (.ins c fs) => if c = C ∧ fs.length < 1000 then .ok () (m.set n (.ins C (putFM f y fs))) else .bad
    | _ => .bad
  | _ => .bad
def sFld (C f : Str) (o v : CE) : CS := fun r m => (v r m).bind fun y m1 => (o r m1).bind fun x m2 => (oPutF C f x y m2).bind fun _ m3 => .ok (.nx r) m3
/-- C(..) -/
def oMake (C : Str) (g : BL) : BL := fun vs m => (g (.ref m.length :: vs) (m ++ [.ins C []])).bind fun u m2 => match u with
  | .non => .ok (.ref m.length) m2
  | _ => .bad
/-- is an instance of C without an attribute k -/
def insOk (C k : Str) (x : MV) (m : MH) : Bool := match x with
  | .ref n => match m[n]? with
    | some (.ins c fs) => c == C && (fs.lookup k).isNone
    | _ => false
  | _ => false
/-- o.k(..) -/
def cMeO (C k : Str) (g : BL) (o : CE) (t : CA) : CE := fun r m => (o r m).bind fun x m1 => if insOk C k x m1 then (t r m1).bind fun vs m2 => g (x :: vs) m2 else .bad
/-- len(o) by its __len__ -/
def bLenO (C : Str) (g : BL) : BL := fun as m => match as with
  | [x] => if insOk C "__len__" x m then (g [x] m).bind fun v m1 => match v with
      | .int k => if decide (0 ≤ k) && decide (k < 2 ^ 60) then .ok (.int k) m1 else .bad
      | _ => .bad
    else .bad
  | _ => .bad
end Co

namespace Co
open PySem PySem.Spec PyProof.Rows L2
abbrev FR (Z : Zx) (al : Al) (H : Hp) (p : Str × MV) (q : Str × V) : Prop := p.1 = q.1 ∧ RV Z al H p.2 q.2
section
variable {Z : Zx} {al : Al} {H : Hp}
theorem fr_look {f : Str} : ∀ {fs : List (Str × MV)} {gs : List (Str × V)}, Paired (FR Z al H) fs gs → match fs.lookup f with
    | some v => ∃ w, gs.lookup f = some w ∧ RV Z al H v w
    | none => gs.lookup f = none
  | _, _, .nil => rfl
  | (a, v) :: fs, (b, w) :: gs, .cons r t => by
    have ih := fr_look (f := f) t
    obtain ⟨r1, r2⟩ := r
    obtain rfl : a = b := r1
    rw [List.lookup_cons, List.lookup_cons]
    cases q : (f == a) with
    | true => exact ⟨w, rfl, r2⟩
    | false => exact ih
theorem fr_put {f : Str} {v : MV} {w : V} (hv : RV Z al H v w) : ∀ {fs : List (Str × MV)} {gs : List (Str × V)}, Paired (FR Z al H) fs gs → Paired (FR Z al H) (putFM f v fs) (putF f w gs)
  | _, _, .nil => .cons ⟨rfl, hv⟩ .nil
  | (a, x) :: fs, (b, y) :: gs, .cons r t => by
    have ih := fr_put (f := f) hv t
    obtain ⟨r1, r2⟩ := r
    obtain rfl : a = b := r1
    unfold putFM putF
    by_cases q : a = f
    · rw [if_pos q, if_pos q]; exact .cons ⟨rfl, hv⟩ t
    · rw [if_neg q, if_neg q]; exact .cons ⟨rfl, r2⟩ ih
theorem Rel.ins {m : MH} (R : Rel Z al m H) {n : Nat} {x : V} {c : Str} {fs : List (Str × MV)} (hx : RV Z al H (.ref n) x) (e : m[n]? = some (.ins c fs)) :
    ∃ a C dx gs, x = .ref a ∧ al n = some a ∧ H a = some (.ins C dx gs) ∧ Z.mg c = some (.ref C) ∧ Paired (FR Z al H) fs gs := by
  obtain ⟨a, h1, h2⟩ := R.has n _ e
  cases hx with
  | ref h =>
    rw [h1] at h; cases h
    cases h2 with
    | ins h c r => exact ⟨a, _, _, _, rfl, h1, h, c, r⟩
  | tup _ h => cases h
end
section
variable {X : Cx} {e o value : Expr} {es : List Expr} {C f k : Str} {pos pos' apos p : Pos} {ce co cv : CE} {cs : CA}
/-- a class's name stands for a plain class that has no such attribute -/
def NoF (K : PySem.W.Frag) (mg : Str → Option Value) (C f : Str) : Prop := ∃ a, mg C = some (.ref a) ∧ Cls K a ∧ NoAttr K a f
theorem ce_fld (hk : NoF X.K X.mg C f) (he : PE X e (RE (zx X) ce)) (hb : attributeBase e f X.env (eval e X.env) = eval e X.env := by rfl) : PE X (.Attribute e f pos) (RE (zx X) (cFld C f ce)) := by
  refine PE.imp (pe_fld he hb) fun σ H Q h => ?_
  obtain ⟨al, m, r, v, m', R, S, ee, kk⟩ := h
  obtain ⟨x, m1, e1, e2⟩ := Res.bind_eq_ok.mp ee
  refine ⟨al, m, r, x, m1, R, S, e1, fun al1 H1 y E1 R1 ry => ?_⟩
  unfold oFld at e2
  split at e2
  · split at e2
    · rename_i n _ c fs hm
      split at e2
      · rename_i hc
        obtain ⟨a, Ca, dx, gs, rfl, ha, hh, hmg, pr⟩ := R1.ins ry hm
        obtain ⟨ca, g1, g2, g3⟩ := hk
        have hq : X.mg c = some (.ref Ca) := hmg
        rw [hc, g1] at hq
        have hca : Ca = ca := by cases hq; rfl
        subst hca
        have l := fr_look (f := f) pr
        split at e2
        · rename_i w hw
          rw [hw] at l
          obtain ⟨z, l1, l2⟩ := l
          cases e2
          exact ⟨a, Ca, dx, gs, z, rfl, hh, g2, g3, l1, kk al1 H1 z E1 R1 l2⟩
        · cases e2
      · cases e2
    · cases e2
  · cases e2
theorem cs_fld (hk : NoF X.K X.mg C f) (ho : PE X o (RE (zx X) co)) (hv : PE X value (RE (zx X) cv)) (hs : swapsWith value (some (.Attribute o f pos')) pos.line X.env = pure false := by rfl) :
    PS X (.Assign [.Attribute o f pos'] value pos) (RS (zx X) (sFld C f co cv)) := by
  refine PS.imp (ps_fld ho hv hs) fun D σ H h => ?_
  obtain ⟨al, m, r, fl, m', R, S, ee, kk⟩ := h
  obtain ⟨y, m1, e1, f2⟩ := Res.bind_eq_ok.mp ee
  obtain ⟨x, m2, e2, f3⟩ := Res.bind_eq_ok.mp f2
  obtain ⟨u, m3, e3, e4⟩ := Res.bind_eq_ok.mp f3
  cases e4
  refine ⟨al, m, r, y, m1, R, S, e1, fun al1 H1 yv E1 R1 ry => ?_⟩
  refine ⟨al1, m1, r, x, m2, R1, S.mono E1, e2, fun al2 H2 xv E2 R2 rx => ?_⟩
  unfold oPutF at e3
  split at e3
  · split at e3
    · rename_i n _ c fs hm
      split at e3
      · rename_i hc
        obtain ⟨a, Ca, dx, gs, rfl, ha, hh, hmg, pr⟩ := R2.ins rx hm
        obtain ⟨ca, g1, g2, g3⟩ := hk
        have hq : X.mg c = some (.ref Ca) := hmg
        rw [hc.1, g1] at hq
        have hca : Ca = ca := by cases hq; rfl
        subst hca
        cases e3
        have ry2 := ry.mono E2
        refine ⟨a, Ca, dx, gs, rfl, hh, g2, g3, by rw [← Paired.len pr]; exact hc.2, ?_⟩
        have mu : Mut (some (HO.ins Ca dx gs)) := True.intro
        have E3 := Ext.wr R2 (o' := .ins Ca dx (putF f yv gs)) ha hh mu
        have R3 : Rel (zx X) al2 (m2.set n (.ins C (putFM f y fs))) (upd H2 a (.ins Ca dx (putF f yv gs))) :=
          Rel.wr R2 ha hh mu (.ins upd_same g1 (Paired.imp (fun p q z => ⟨z.1, z.2.mono E3⟩) (fr_put ry2 pr)))
        have z := kk al2 _ ((E1.trans E2).trans E3) R3
        exact z σ rfl (S.mono ((E1.trans E2).trans E3))
      · cases e3
    · cases e3
  · cases e3
/-! ### methods -/
structure Mx (P : Program) (w : World) (K : PySem.W.Frag) (mg : Str → Option Value) (base : Heap) (j : Nat) (C k : Str) (n : Nat) (g : BL) : Prop where
  ex : ∃ (c f : Addr) (fd : FuncData) (ps : List Str), mg C = some (.ref c) ∧ Cls K c ∧ Meth K c k f ∧ FnOk P w K mg base CX0 j f fd ps (spOf ⟨P, w, K, mg⟩ g n) ∧ Binds K fd ps [] ∧ ps.length = n
structure Ix (P : Program) (w : World) (K : PySem.W.Frag) (mg : Str → Option Value) (base : Heap) (j : Nat) (C : Str) (n : Nat) (g : BL) : Prop where
  ex : ∃ (c f : Addr) (fd : FuncData) (ps : List Str), mg C = some (.ref c) ∧ Mk K c f ∧ FnOk P w K mg base CX0 j f fd ps (spOf ⟨P, w, K, mg⟩ g n) ∧ Binds K fd ps [] ∧ ps.length = n
theorem insOk_inv {Z : Zx} {al : Al} {H : Hp} {m : MH} {x : MV} {y : V} (R : Rel Z al m H) (h : insOk C k x m = true) (ry : RV Z al H x y) {c : Addr} (hc : Z.mg C = some (.ref c)) :
    ∃ a dx gs, y = .ref a ∧ H a = some (.ins c dx gs) ∧ gs.lookup k = none := by
  unfold insOk at h
  split at h
  · split at h
    · rename_i n c' fs hm
      obtain ⟨a, Ca, dx, gs, rfl, ha, hh, hmg, pr⟩ := R.ins ry hm
      rw [Bool.and_eq_true, beq_iff_eq] at h
      rw [h.1, hc] at hmg
      cases hmg
      have l := fr_look (f := k) pr
      cases q : fs.lookup k with
      | none => rw [q] at l; exact ⟨a, dx, gs, rfl, hh, l⟩
      | some v => rw [q] at h; exact absurd h.2 (by simp)
    · cases h
  · cases h
theorem ce_meO {pl : Sem Bool} {j n : Nat} {g : BL} (F : Mx X.prog X.w X.K X.mg X.base j C k (n + 1) g) (hr : Room j X.A) (ho : PE X o (RE (zx X) co)) (ha : PA X (e :: es) (RA (zx X) cs)) (hc : ∀ r m vs m', cs r m = .ok vs m' → vs.length = n)
    (hst : starEach (e :: es) X.env = (false, eval e X.env) :: starEach es X.env := by rfl) (hpl : (backTo pos (starEach es X.env)).any (·.1) = false := by rfl)
    (ht : eval (.Call (.Attribute o k apos) (e :: es) [] pos) X.env = (do
      let ov ← eval o X.env
      standAt apos.atName
      let (f, first) ← holding [ov] (getMethod ov k pl)
      callWith pos f first (backTo pos (starEach (e :: es) X.env)) (backToKw pos (keywordEach [] X.env))) := by rfl) :
    PE X (.Call (.Attribute o k apos) (e :: es) [] pos) (RE (zx X) (cMeO C k g co cs)) := by
  obtain ⟨c, f, fd, ps, h1, h2, h3, h4, h5, h6⟩ := F.ex
  refine PE.imp (pe_meth ho h2 h3 h4 hr h5 .nil pass0 ha hst hpl ht) fun σ H Q h => ?_
  obtain ⟨al, m, r, v, m', R, S, ee, kk⟩ := h
  obtain ⟨x, m1, e1, ee⟩ := Res.bind_eq_ok.mp ee
  refine ⟨al, m, r, x, m1, R, S, e1, fun al1 H1 y E1 R1 ry => ?_⟩
  split at ee
  · rename_i hi
    obtain ⟨a, dx, gs, rfl, hh, hl⟩ := insOk_inv R1 hi ry h1
    obtain ⟨xs, m2, e2, ee⟩ := Res.bind_eq_ok.mp ee
    refine ⟨a, dx, gs, rfl, hh, hl, al1, m1, r, xs, m2, R1, S.mono E1, e2, fun al2 H2 ys E2 R2 rs => ?_⟩
    show spOf _ g (n + 1) (.ref a :: (ys ++ [])) H2 Q E0
    rw [List.append_nil]
    exact ⟨by simp [← Paired.len rs, hc _ _ _ _ e2], al2, m2, x :: xs, v, m', R2, .cons (ry.mono E2) rs, ee, fun al3 H3 z E3 R3 rz => kk al3 H3 z ((E1.trans E2).trans E3) R3 rz⟩
  · cases ee
theorem ce_meO0 {pl : Sem Bool} {j : Nat} {g : BL} (F : Mx X.prog X.w X.K X.mg X.base j C k 1 g) (hr : Room j X.A) (ho : PE X o (RE (zx X) co))
    (ht : eval (.Call (.Attribute o k apos) [] [] pos) X.env = (do
      let ov ← eval o X.env
      standAt apos.atName
      let (f, first) ← holding [ov] (getMethod ov k pl)
      callWith pos f first (backTo pos (starEach [] X.env)) (backToKw pos (keywordEach [] X.env))) := by rfl) :
    PE X (.Call (.Attribute o k apos) [] [] pos) (RE (zx X) (cMeO C k g co aNil)) := by
  obtain ⟨c, f, fd, ps, h1, h2, h3, h4, h5, h6⟩ := F.ex
  refine PE.imp (pe_meth0 ho h2 h3 h4 hr h5 .nil pass0 ht) fun σ H Q h => ?_
  obtain ⟨al, m, r, v, m', R, S, ee, kk⟩ := h
  obtain ⟨x, m1, e1, ee⟩ := Res.bind_eq_ok.mp ee
  refine ⟨al, m, r, x, m1, R, S, e1, fun al1 H1 y E1 R1 ry => ?_⟩
  split at ee
  · rename_i hi
    obtain ⟨a, dx, gs, rfl, hh, hl⟩ := insOk_inv R1 hi ry h1
    refine ⟨a, dx, gs, rfl, hh, hl, ?_⟩
    exact ⟨rfl, al1, m1, [x], v, m', R1, .cons ry .nil, ee, fun al3 H3 z E3 R3 rz => kk al3 H3 z (E1.trans E3) R3 rz⟩
  · cases ee
theorem ce_make {j n : Nat} {g : BL} (F : Ix X.prog X.w X.K X.mg X.base j C (n + 1) g) (hr : Room (j + 1) X.A) (hg : Gl X C) (ha : PA X (e :: es) (RA (zx X) cs)) (hc : ∀ r m vs m', cs r m = .ok vs m' → vs.length = n)
    (hdb : (C == ("__debug__" : Str)) = false := by decide) (he : starEach (e :: es) X.env = (false, eval e X.env) :: starEach es X.env := by rfl) (hpl : (backTo pos (starEach es X.env)).any (·.1) = false := by rfl) :
    PE X (.Call (.Name C p) (e :: es) [] pos) (RE (zx X) (cCall (oMake C g) cs)) := by
  obtain ⟨c, f, fd, ps, h1, h2, h4, h5, h6⟩ := F.ex
  refine PE.imp (pe_make h2 h4 hr hg h1 h5 .nil pass0 ha hdb he hpl) fun σ H Q h => ?_
  obtain ⟨al, m, r, v, m', R, S, ee, kk⟩ := h
  obtain ⟨xs, m1, e1, ee⟩ := Res.bind_eq_ok.mp ee
  refine ⟨al, m, r, xs, m1, R, S, e1, fun al1 H1 ys E1 R1 rs => ?_⟩
  intro x dx hx hdx hne
  show spOf _ g (n + 1) (.ref x :: (ys ++ [])) _ _ E0
  rw [List.append_nil]
  obtain ⟨u, m2, e2, ee⟩ := Res.bind_eq_ok.mp ee
  have E2 : Co.Ext al1 H1 al1 (upd H1 dx (.own x)) := Co.Ext.new R1 hdx
  have R2 : Rel (zx X) al1 m1 (upd H1 dx (.own x)) := Rel.new R1 hdx
  have hx2 : upd H1 dx (.own x) x = none := by rw [upd_ne hne.symm]; exact hx
  have E3 := Co.Ext.add R2 (o := .ins c dx []) hx2
  have R3 : Rel (zx X) (alAdd al1 m1.length x) (m1 ++ [.ins C []]) (upd (upd H1 dx (.own x)) x (.ins c dx [])) := Rel.add R2 hx2 (.ins upd_same h1 .nil)
  have rx : RV (zx X) (alAdd al1 m1.length x) (upd (upd H1 dx (.own x)) x (.ins c dx [])) (.ref m1.length) (.ref x) := .ref (by unfold alAdd; rw [if_pos rfl])
  refine ⟨by simp [← Paired.len rs, hc _ _ _ _ e1], _, _, .ref m1.length :: xs, u, m2, R3, .cons rx (RL.mono (E2.trans E3) rs), e2, fun al4 H4 z E4 R4 rz => ?_⟩
  cases u <;> cases ee
  cases rz with
  | non => exact ⟨rfl, kk al4 H4 _ (((E1.trans E2).trans E3).trans E4) R4 (rx.mono E4)⟩
  | tup _ h => cases h
/-! ### len(o) -/
theorem ce_lenO {j : Nat} {g : BL} (F : Mx X.prog X.w X.K X.mg X.base j C "__len__" 1 g) (hr : Room (j + 1) X.A) (hg : Gl X "len") (hm : X.mg "len" = none) (ha : PA X [e] (RA (zx X) cs)) (hs : starEach [e] X.env = [(false, eval e X.env)] := by rfl) :
    PE X (.Call (.Name "len" p) [e] [] pos) (RE (zx X) (cCall (bLenO C g) cs)) := by
  obtain ⟨c, f, fd, ps, h1, h2, h3, h4, h5, h6⟩ := F.ex
  have hc : CallR X (.builtin "len") (fun xs H Q => RC (zx X) (bLenO C g) xs H Q) := by
    intro pins s σ H xs us Q I rv h
    obtain ⟨al, m, as, v, m', R, rs, ee, kk⟩ := h
    unfold bLenO at ee
    split at ee
    · rename_i x
      split at ee
      · rename_i hi
        obtain ⟨w, m1, e1, ee⟩ := Res.bind_eq_ok.mp ee
        cases rs with
        | cons rx rn =>
          cases rn
          obtain ⟨a, dx, gs, rfl, hh, hl⟩ := insOk_inv R hi rx h1
          obtain ⟨u, rfl, ru⟩ := vals1 rv
          obtain rfl : u = Value.ref a := ru
          obtain ⟨mA, O, _, _, _, _⟩ := ins_get I.hok hh
          obtain ⟨od, IA, _⟩ := O.look
          refine Calls.call_function_entry kind_len plain_len entry_len (args_len1 _) ?_
          unfold Builtin.«len»
          refine wpAny_bind (m := oneArg "len" _) (wpAny_pure ?_)
          refine wpAny_bind (m := callSpecial? (.ref a) (Str.ofString "__len__")) (PySem.W.special_fn I.kIn IA h3.at_ (beq_iff_eq.mp h3.fn) ?_)
          have hrun := h4.run X.A.in1 X.stack s H ⟨[.ref a], []⟩ [.ref a] [.ref a] (fun z H' => ∃ k : Int, z = .int k ∧ 0 ≤ k ∧ k < 2 ^ 60 ∧ Q (.int k) H') E0 hr.in1 I.env0.in1 (h5 s [.ref a] I.kIn (by simp [h6])) (.cons rfl .nil) ⟨rfl, al, m, [x], w, m1, R, .cons rx .nil, e1, fun al1 H1 z E1 R1 rz => by
            cases w <;> first | cases ee | skip
            rename_i kk2
            obtain rfl := rv_int rz
            simp only at ee
            split at ee
            · rename_i hb
              rw [Bool.and_eq_true] at hb
              cases ee
              exact ⟨kk2, rfl, of_decide_eq_true hb.1, of_decide_eq_true hb.2, kk al1 H1 _ E1 R1 rz⟩
            · cases ee⟩
          refine wpAny_call (codeAny_mono hrun fun r s' hq => ?_)
          cases r with
          | error e => exact hq.elim
          | ok fl =>
            cases fl with
            | ret u =>
              obtain ⟨v', H', I', rv', k0, rfl, hk0, hk1, q⟩ := I.after hq
              obtain ⟨t, rfl⟩ := rv'
              refine wpAny_bind (wpAny_holding (wpAny_pure ?_))
              refine wpAny_bind (wpAny_letGo ?_)
              show wpAny _ _ (if k0 < 0 then _ else _) _ _ _
              rw [if_neg (by omega)]
              show wpAny _ _ (if k0 ≥ 2 ^ 63 then _ else _) _ _ _
              rw [if_neg (by omega)]
              exact wpAny_bind (wpAny_mkInt (wpAny_pure ⟨_, rfl, ⟨.int k0, H', I'.tok _, ⟨_, rfl⟩, q⟩⟩))
            | next => exact hq.elim
            | brk => exact hq.elim
            | cont => exact hq.elim
      · cases ee
    · cases ee
  refine PE.imp (pe_callB hc hg hm bb_len ha (he := hs)) fun σ H Q h => ?_
  obtain ⟨al, m, r, v, m', R, S, ee, kk⟩ := h
  obtain ⟨xs, m1, e1, ee⟩ := Res.bind_eq_ok.mp ee
  exact ⟨al, m, r, xs, m1, R, S, e1, fun al1 H1 ys E1 R1 rs => ⟨al1, m1, xs, v, m', R1, rs, ee, fun al2 H2 z E2 R2 rz => kk al2 H2 z (E1.trans E2) R2 rz⟩⟩
end
end Co

/-! exceptions: what is let out, what is caught -/
namespace Co
open PySem
def cNx (c : CE) : CE := fun r m => match c r m with
  | .ok v m1 => .ok v m1
  | _ => .bad
/-- a statement that lets nothing out -/
def sNox (c : CS) : CS := fun r m => match c r m with
  | .ok f m1 => .ok f m1
  | _ => .bad
def sIfX (c : CE) (a b : CS) : CS := fun r m => match c r m with
  | .ok (.bl true) m1 => a r m1
  | .ok (.bl false) m1 => b r m1
  | _ => .bad
def cIteX (c a b : CE) : CE := fun r m => match c r m with
  | .ok (.bl true) m1 => a r m1
  | .ok (.bl false) m1 => b r m1
  | _ => .bad
def cCallX (g : BL) (t : CA) : CE := fun r m => match t r m with
  | .ok vs m1 => g vs m1
  | _ => .bad
def cMeOX (C k : Str) (g : BL) (o : CE) (t : CA) : CE := fun r m => match o r m with
  | .ok x m1 => if insOk C k x m1 then match t r m1 with
      | .ok vs m2 => g (x :: vs) m2
      | _ => .bad
    else .bad
  | _ => .bad
/-- try: return e; except DoorError as error (slot i): return .. -/
def sTryR (exs : List Str) (i : Nat) (e : CE) (h : Str → CE) : CS := fun r m => match e r m with
  | .ok v m1 => .ok (.rt v) m1
  | .ex c m1 => if exs.contains c && decide (i < r.length) then match h c (r.set i none) m1 with
      | .ok v m2 => .ok (.rt v) m2
      | _ => .bad
    else .bad
  | .bad => .bad
end Co

namespace Co
open PySem PySem.Spec PyProof.Rows L2
/-- the end of a run that may raise -/
def XR (Z : Zx) (al : Al) (H : Hp) (x : Res MV) (Q : VK) (E : XK) : Prop := match x with
  | .ok v m' => KV1 Z al H v m' Q
  | .ex c m' => ∀ al' H' C, Ext al H al' H' → Rel Z al' m' H' → Z.mg c = some (.ref C) → E (.ref C) none H'
  | .bad => False
def RXE (Z : Zx) (c : CE) (W : WX) : TE := fun σ H Q => ∃ al m r, Rel Z al m H ∧ RSl Z al H r σ ∧ XR Z al H (c r m) Q fun cls d H' => W cls d σ H'
def RSX (Z : Zx) (c : CS) (E : XK) : TS := fun D σ H => ∃ al m r, Rel Z al m H ∧ RSl Z al H r σ ∧ match c r m with
  | .ok f m' => KS Z al H σ f m' D
  | .ex c m' => ∀ al' H' C, Ext al H al' H' → Rel Z al' m' H' → Z.mg c = some (.ref C) → E (.ref C) none H'
  | .bad => False
def spX (Z : Zx) (g : BL) (n : Nat) : Sp := fun vs H Q E => vs.length = n ∧ ∃ al m as, Rel Z al m H ∧ RL Z al H as vs ∧ XR Z al H (g as m) Q E
structure ExcOk (K : PySem.W.Frag) (mg : Str → Option Value) (dn : Str) (asks : List Str) (c : Str) : Prop where
  ex : ∃ C D, mg c = some (.ref C) ∧ mg dn = some (.ref D) ∧ PySem.W.excIn K C He.veBase "ValueError.__new__" = true ∧ PySem.W.keepIn K (.ref C) = true ∧ PySem.W.subIn K (.ref C) (.type "BaseException") = some true ∧
    PySem.W.typeIn K (.ref C) = some (.type "type") ∧ ExcC K C ∧ PySem.W.exmOne K (.ref C) (.ref D) = some true ∧ ∀ x ∈ asks, ∃ B, mg x = some (.ref B) ∧ PySem.W.kitOne K (.ref C) (.ref B) = some (decide (c = x))
section
variable {X : Cx}
theorem PS.nox {st : Stmt} {t : TS} (h : PS X.nox st t) : PS X st t := ⟨fun pins s σ H D I hw =>
  wpAny_mono (h.run pins s σ H D (I.wish _) hw) (fun _ _ q => q.unwish) fun _ _ z => False.elim z⟩
theorem PA.nox {es : List Expr} {t : TA} (h : PA X.nox es t) : PA X es t := ⟨fun pos pins s σ H Q I hw =>
  wpAny_mono (h.run pos pins s σ H Q (I.wish _) hw) (fun _ _ ⟨v, H', I', r, q⟩ => ⟨v, H', I'.unwish, r, q⟩) fun _ _ z => False.elim z⟩
end
section
variable {X : Cx} {e c a b : Expr} {es : List Expr} {ce cc ca cb co : CE} {cs : CA} {pos p p2 apos : Pos} {W : WX} {E : XK}
/-! ### raise -/
theorem pmk_own0 {C : Addr} {bmB : List Value} {B newId initId : String} {x : Str} (F : ExcBaseFacts B newId initId bmB) (q : PySem.W.excIn X.K C bmB newId = true) (gC : X.mg x = some (.ref C))
    (kC : PySem.W.keepIn X.K (.ref C) = true) (r : Raises X (.ref C)) (hg : Gl X x) (hdb : (x == ("__debug__" : Str)) = false := by decide) :
    PMk X (.Call (.Name x p) [] [] pos) (fun _ H Q => Q (.ref C) none H) := by
  intro pins s σ H Q I h
  refine wpAny_Call_Name_kw (ld_glob I hg gC ?_ hdb)
  refine PySem.W.callWith_K0 I.kIn kC ?_
  show wpAny _ _ (call (.ref C) []) _ _ _
  obtain ⟨bm, N, nm, qn, bs, hdct, sn, sub, ab, col, dd, k0, k1, k2, k3, k5, mN, hC, hN, hni, T⟩ := exc_obj I.kIn q
  refine wpAny_call_exc_subT F T hC hN hni (fun h' e hm => ?_) (Nat.zero_le _)
  exact mk_of I hm r h (I.hok.gone hm.new)
theorem csx_raise {x dn : Str} {asks : List Str} (T : ExcOk X.K X.mg dn asks x) (hc : X.calm = true) (tk : Takes X (fun cls d _ H => E cls d H)) (hg : Gl X x) (hdb : (x == ("__debug__" : Str)) = false := by decide) :
    PS X (.Raise (some (.Call (.Name x p) [] [] p2)) none pos) (RSX (zx X) (sRz x) E) := by
  obtain ⟨C, D, gC, gD, q1, q2, q3, q4, _⟩ := T.ex
  refine PS.imp (ps_raise hc tk (pmk_own0 PySem.F.excBase_ValueError q1 gC q2 (raises_own q3 q4) hg hdb)) fun D σ H h => ?_
  obtain ⟨al, m, r, R, S, k⟩ := h
  exact k al H C Ext.refl R gC
/-! ### statements -/
theorem csx_lift {st : Stmt} {c : CS} (h : PS X.nox st (RS (zx X) c)) : PS X st (RSX (zx X) (sNox c) E) := by
  refine PS.imp (PS.nox h) fun D σ H h => ?_
  obtain ⟨al, m, r, R, S, k⟩ := h
  unfold sNox at k
  split at k
  · rename_i f m1 q
    split at q
    · rename_i f' m1' q'
      cases q
      exact ⟨al, m, r, f, m1, R, S, q', k⟩
    · cases q
  · rename_i q
    split at q <;> cases q
  · exact k.elim
theorem csx_nil : PSs X [] (RSX (zx X) sNx E) := by
  refine PSs.imp pss_nil fun D σ H h => ?_
  obtain ⟨al, m, r, R, S, k⟩ := h
  exact k al H Ext.refl R σ rfl S
theorem csx_one {st : Stmt} {c : CS} (h : PS X st (RSX (zx X) c E)) : PSs X [st] (RSX (zx X) c E) := pss_one h
theorem csx_cons {st : Stmt} {rest : List Stmt} {ca cb : CS} (h1 : PS X st (RSX (zx X) ca E)) (h2 : PSs X rest (RSX (zx X) cb E)) : PSs X (st :: rest) (RSX (zx X) (sSeq ca cb) E) := by
  refine PSs.imp (pss_cons h1 h2) fun D σ H h => ?_
  obtain ⟨al, m, r, R, S, k⟩ := h
  refine ⟨al, m, r, R, S, ?_⟩
  unfold sSeq at k
  cases hx : ca r m with
  | ok f m1 =>
    rw [hx] at k
    simp only [Res.bind] at k
    intro al1 H1 E1 R1
    cases f with
    | nx r1 =>
      intro σ1 hl S1
      refine ⟨al1, m1, r1, R1, S1, ?_⟩
      simp only at k
      cases hy : cb r1 m1 with
      | ok f m2 => rw [hy] at k; exact k.mono E1 hl
      | ex c m2 => rw [hy] at k; exact fun al2 H2 C E2 R2 hC => k al2 H2 C (E1.trans E2) R2 hC
      | bad => rw [hy] at k; exact k
    | bk r1 => exact k al1 H1 E1 R1
    | ct r1 => exact k al1 H1 E1 R1
    | rt v => exact k al1 H1 E1 R1
  | ex c m1 => rw [hx] at k; exact k
  | bad => rw [hx] at k; exact k
theorem csx_if {body orelse : List Stmt} {sa sb : CS} (hc : PT X.nox c (RT (zx X) cc)) (ha : PSs X body (RSX (zx X) sa E)) (hb : PSs X orelse (RSX (zx X) sb E)) : PS X (.If c body orelse pos) (RSX (zx X) (sIfX cc sa sb) E) := by
  refine PS.imp (ps_if (PT.nox hc) ha hb) fun D σ H h => ?_
  obtain ⟨al, m, r, R, S, k⟩ := h
  unfold sIfX at k
  have go : ∀ (q : Bool) (m1 : MH) (s : CS), cc r m = .ok (.bl q) m1 → (match s r m1 with
      | .ok f m' => KS (zx X) al H σ f m' D
      | .ex c m' => ∀ al' H' C, Ext al H al' H' → Rel (zx X) al' m' H' → (zx X).mg c = some (.ref C) → E (.ref C) none H'
      | .bad => False) → (∀ al1 H1, Ext al H al1 H1 → Rel (zx X) al1 m1 H1 → RSX (zx X) s E D σ H1) := fun q m1 s e1 kk al1 H1 E1 R1 => by
    refine ⟨al1, m1, r, R1, S.mono E1, ?_⟩
    cases hy : s r m1 with
    | ok f m2 => rw [hy] at kk; exact kk.mono E1 rfl
    | ex c m2 => rw [hy] at kk; exact fun al2 H2 C E2 R2 hC => kk al2 H2 C (E1.trans E2) R2 hC
    | bad => rw [hy] at kk; exact kk
  cases hx : cc r m with
  | ok v m1 =>
    rw [hx] at k
    cases v with
    | bl q =>
      refine ⟨al, m, r, q, m1, R, S, hx, fun al1 H1 E1 R1 => ?_⟩
      cases q with
      | true => rw [if_pos rfl]; exact go true m1 sa hx k al1 H1 E1 R1
      | false => rw [if_neg (by decide)]; exact go false m1 sb hx k al1 H1 E1 R1
    | _ => exact k.elim
  | ex c m1 => rw [hx] at k; exact k.elim
  | bad => rw [hx] at k; exact k.elim
theorem csx_expr (h : PE X e (RXE (zx X) ce fun cls d _ H => E cls d H)) (hs : swapsWith e none pos.line X.env = pure false := by rfl) : PS X (.Expr e pos) (RSX (zx X) (sExpr ce) E) := by
  refine PS.imp (ps_expr h hs) fun D σ H h => ?_
  obtain ⟨al, m, r, R, S, k⟩ := h
  refine ⟨al, m, r, R, S, ?_⟩
  unfold sExpr at k
  cases hx : ce r m with
  | ok v m1 => rw [hx] at k; exact fun al1 H1 x E1 R1 _ => k al1 H1 E1 R1 σ rfl (S.mono E1)
  | ex c m1 => rw [hx] at k; exact k
  | bad => rw [hx] at k; exact k
theorem csx_ret (h : PE X e (RXE (zx X) ce fun cls d _ H => E cls d H)) : PS X (.Return (some e) pos) (RSX (zx X) (sRet ce) E) := by
  refine PS.imp (ps_ret h) fun D σ H h => ?_
  obtain ⟨al, m, r, R, S, k⟩ := h
  refine ⟨al, m, r, R, S, ?_⟩
  unfold sRet at k
  cases hx : ce r m with
  | ok v m1 => rw [hx] at k; exact fun al1 H1 x E1 R1 rx => k al1 H1 E1 R1 x rx
  | ex c m1 => rw [hx] at k; exact k
  | bad => rw [hx] at k; exact k
/-! ### expressions -/
theorem cex_lift (h : PE X.nox e (RE (zx X) ce)) : PE X e (RXE (zx X) (cNx ce) W) := by
  refine PE.imp (PE.nox h) fun σ H Q h => ?_
  obtain ⟨al, m, r, R, S, k⟩ := h
  unfold cNx at k
  cases hx : ce r m with
  | ok v m1 => rw [hx] at k; exact ⟨al, m, r, v, m1, R, S, hx, k⟩
  | ex c m1 => rw [hx] at k; exact k.elim
  | bad => rw [hx] at k; exact k.elim
theorem XR.mono {Z : Zx} {al al1 : Al} {H H1 : Hp} {x : Res MV} {Q : VK} {E : XK} (k : XR Z al H x Q E) (E1 : Ext al H al1 H1) : XR Z al1 H1 x Q E := by
  cases x with
  | ok v m => exact fun al2 H2 y E2 R2 ry => k al2 H2 y (E1.trans E2) R2 ry
  | ex c m => exact fun al2 H2 C E2 R2 hC => k al2 H2 C (E1.trans E2) R2 hC
  | bad => exact k
theorem cex_ite (hc : PT X.nox c (RT (zx X) cc)) (ha : PE X a (RXE (zx X) ca W)) (hb : PE X b (RXE (zx X) cb W)) : PE X (.IfExp c a b pos) (RXE (zx X) (cIteX cc ca cb) W) := by
  refine PE.imp (pe_ifExp (PT.nox hc) ha hb) fun σ H Q h => ?_
  obtain ⟨al, m, r, R, S, k⟩ := h
  unfold cIteX at k
  cases hx : cc r m with
  | ok v m1 =>
    rw [hx] at k
    cases v with
    | bl q =>
      refine ⟨al, m, r, q, m1, R, S, hx, fun al1 H1 E1 R1 => ?_⟩
      cases q with
      | true => exact if1 ⟨al1, m1, r, R1, S.mono E1, k.mono E1⟩
      | false => exact if0 ⟨al1, m1, r, R1, S.mono E1, k.mono E1⟩
    | _ => exact k.elim
  | ex c m1 => rw [hx] at k; exact k.elim
  | bad => rw [hx] at k; exact k.elim
structure FX (P : Program) (w : World) (K : PySem.W.Frag) (mg : Str → Option Value) (base : Heap) (j : Nat) (x : Str) (n : Nat) (g : BL) : Prop where
  ex : ∃ (f : Addr) (fd : FuncData) (ps : List Str), FnOk P w K mg base (L2.CX P w) j f fd ps (spX ⟨P, w, K, mg⟩ g n) ∧ mg x = some (.ref f) ∧ PySem.W.keepIn K (.ref f) = true ∧ Binds K fd ps [] ∧ ps.length = n
theorem cex_call {x : Str} {j n : Nat} {g : BL} (F : FX X.prog X.w X.K X.mg X.base j x (n + 1) g) (hr : Room j X.A) (tk : Takes X W) (hg : Gl X x) (ha : PA X.nox (e :: es) (RA (zx X) cs)) (hc : ∀ r m vs m', cs r m = .ok vs m' → vs.length = n + 1)
    (hdb : (x == ("__debug__" : Str)) = false := by decide) (he : starEach (e :: es) X.env = (false, eval e X.env) :: starEach es X.env := by rfl) (hpl : (backTo pos (starEach es X.env)).any (·.1) = false := by rfl) :
    PE X (.Call (.Name x p) (e :: es) [] pos) (RXE (zx X) (cCallX g cs) W) := by
  obtain ⟨f, fd, ps, h1, h2, h3, h4, h5⟩ := F.ex
  refine PE.imp (pe_callS h1 hr hg h2 h3 h4 (fun σ => passAt tk σ) (PA.nox ha) hdb he hpl) fun σ H Q h => ?_
  obtain ⟨al, m, r, R, S, k⟩ := h
  unfold cCallX at k
  cases hx : cs r m with
  | ok vs m1 =>
    rw [hx] at k
    refine ⟨al, m, r, vs, m1, R, S, hx, fun al1 H1 ys E1 R1 rs => ⟨by rw [← Paired.len rs]; exact hc _ _ _ _ hx, al1, m1, vs, R1, rs, k.mono E1⟩⟩
  | ex c m1 => rw [hx] at k; exact k.elim
  | bad => rw [hx] at k; exact k.elim
/-! ### methods that may raise -/
structure MX (P : Program) (w : World) (K : PySem.W.Frag) (mg : Str → Option Value) (base : Heap) (j : Nat) (C k : Str) (n : Nat) (g : BL) : Prop where
  ex : ∃ (c f : Addr) (fd : FuncData) (ps : List Str), mg C = some (.ref c) ∧ Cls K c ∧ Meth K c k f ∧ FnOk P w K mg base (L2.CX P w) j f fd ps (spX ⟨P, w, K, mg⟩ g n) ∧ Binds K fd ps [] ∧ ps.length = n
theorem cex_meO0 {C k : Str} {pl : Sem Bool} {j : Nat} {g : BL} {o : Expr} (F : MX X.prog X.w X.K X.mg X.base j C k 1 g) (hr : Room j X.A) (tk : Takes X W) (ho : PE X.nox o (RE (zx X) co))
    (ht : eval (.Call (.Attribute o k apos) [] [] pos) X.env = (do
      let ov ← eval o X.env
      standAt apos.atName
      let (f, first) ← holding [ov] (getMethod ov k pl)
      callWith pos f first (backTo pos (starEach [] X.env)) (backToKw pos (keywordEach [] X.env))) := by rfl) :
    PE X (.Call (.Attribute o k apos) [] [] pos) (RXE (zx X) (cMeOX C k g co aNil) W) := by
  obtain ⟨c, f, fd, ps, h1, h2, h3, h4, h5, h6⟩ := F.ex
  refine ⟨fun pins s σ H Q I hq => ?_⟩
  obtain ⟨al, m, r, R, S, kk⟩ := hq
  unfold cMeOX at kk
  cases hx : co r m with
  | ex c m1 => rw [hx] at kk; exact kk.elim
  | bad => rw [hx] at kk; exact kk.elim
  | ok x m1 =>
    rw [hx] at kk
    simp only at kk
    split at kk
    · rename_i hi
      refine PySem.W.methodCall_KW (pl := pl) (thn ((PE.nox ho).run pins s σ H (fun y H1 => ∃ a dx fs al1, y = .ref a ∧ H1 a = some (.ins c dx fs) ∧ fs.lookup k = none ∧ Ext al H al1 H1 ∧ Rel (zx X) al1 m1 H1 ∧ RV (zx X) al1 H1 x (.ref a)) I ⟨al, m, r, x, m1, R, S, hx, fun al1 H1 y E1 R1 ry => ?_⟩) fun u s1 ⟨y, H1, I1, rx, a, dx, fs, al1, ex, ea, l, E1, R1, ry⟩ => ?_) ht
      · obtain ⟨a, dx, gs, rfl, hh, hl⟩ := insOk_inv R1 hi ry h1
        exact ⟨a, dx, gs, al1, rfl, hh, hl, E1, R1, ry⟩
      · subst ex
        obtain rfl : u = Value.ref a := rx
        refine getmeth_ok I1 ea h2 h3 l ?_
        exact PySem.W.callWith_K0 (first := [.ref a]) I1.kIn h3.kp (run_fnS (us := [.ref a]) (vs := [.ref a]) (E := WE W) h4 hr h5 (passAt tk σ) I1 (.cons rfl .nil) ⟨rfl, al1, m1, [x], R1, .cons ry .nil, kk.mono E1⟩)
    · exact kk.elim
theorem cex_meO {C k : Str} {pl : Sem Bool} {j n : Nat} {g : BL} {o : Expr} (F : MX X.prog X.w X.K X.mg X.base j C k (n + 1) g) (hr : Room j X.A) (tk : Takes X W) (ho : PE X.nox o (RE (zx X) co)) (ha : PA X.nox (e :: es) (RA (zx X) cs)) (hc : ∀ r m vs m', cs r m = .ok vs m' → vs.length = n)
    (hst : starEach (e :: es) X.env = (false, eval e X.env) :: starEach es X.env := by rfl) (hpl : (backTo pos (starEach es X.env)).any (·.1) = false := by rfl)
    (ht : eval (.Call (.Attribute o k apos) (e :: es) [] pos) X.env = (do
      let ov ← eval o X.env
      standAt apos.atName
      let (f, first) ← holding [ov] (getMethod ov k pl)
      callWith pos f first (backTo pos (starEach (e :: es) X.env)) (backToKw pos (keywordEach [] X.env))) := by rfl) :
    PE X (.Call (.Attribute o k apos) (e :: es) [] pos) (RXE (zx X) (cMeOX C k g co cs) W) := by
  obtain ⟨c, f, fd, ps, h1, h2, h3, h4, h5, h6⟩ := F.ex
  refine ⟨fun pins s σ H Q I hq => ?_⟩
  obtain ⟨al, m, r, R, S, kk⟩ := hq
  unfold cMeOX at kk
  cases hx : co r m with
  | ex c m1 => rw [hx] at kk; exact kk.elim
  | bad => rw [hx] at kk; exact kk.elim
  | ok x m1 =>
    rw [hx] at kk
    simp only at kk
    split at kk
    · rename_i hi
      cases hy : cs r m1 with
      | ex c m1 => rw [hy] at kk; exact kk.elim
      | bad => rw [hy] at kk; exact kk.elim
      | ok vs m2 =>
        rw [hy] at kk
        simp only at kk
        refine PySem.W.methodCall_KW (pl := pl) (thn ((PE.nox ho).run pins s σ H (fun y H1 => ∃ a dx fs al1, y = .ref a ∧ H1 a = some (.ins c dx fs) ∧ fs.lookup k = none ∧ Ext al H al1 H1 ∧ Rel (zx X) al1 m1 H1 ∧ RV (zx X) al1 H1 x (.ref a)) I ⟨al, m, r, x, m1, R, S, hx, fun al1 H1 y E1 R1 ry => ?_⟩) fun u s1 ⟨y, H1, I1, rx, a, dx, fs, al1, ex, ea, l, E1, R1, ry⟩ => ?_) ht
        · obtain ⟨a, dx, gs, rfl, hh, hl⟩ := insOk_inv R1 hi ry h1
          exact ⟨a, dx, gs, al1, rfl, hh, hl, E1, R1, ry⟩
        · subst ex
          obtain rfl : u = Value.ref a := rx
          refine getmeth_ok I1 ea h2 h3 l ?_
          refine PySem.W.callWith_K (first := [.ref a]) (h₀ := X.base) I.ok.mod.kin h3.kp (thn ((PA.nox ha).run pos pins s1 σ H1 (fun ys H2 => ∃ al2, Ext al1 H1 al2 H2 ∧ Rel (zx X) al2 m2 H2 ∧ RL (zx X) al2 H2 vs ys) I1 ⟨al1, m1, r, vs, m2, R1, S.mono E1, hy, fun al2 H2 ys E2 R2 rs => ⟨al2, E2, R2, rs⟩⟩) fun us s2 ⟨ys, H2, I2, rv, al2, E2, R2, rs⟩ => ⟨I2.kIn, ?_⟩) hst hpl
          exact run_fnS (us := .ref a :: us) (vs := .ref a :: ys) (E := WE W) h4 hr h5 (passAt tk σ) I2 (.cons rfl rv) ⟨by simp [← Paired.len rs, hc _ _ _ _ hy], al2, m2, x :: vs, R2, .cons (ry.mono E2) rs, (kk.mono E1).mono E2⟩
    · exact kk.elim
end
/-! ### a def that may raise, by its body -/
section
variable {P : Program} {w : World} {K : PySem.W.Frag} {mg : Str → Option Value} {base : Heap}
theorem fnx_ok {x qual : Str} {st : Stmt} {f : Addr} {fd : FuncData} {N ps : List Str} {k n : Nat} {body : CS} (F : FnP K x qual st f fd) (S : FnScope N ps (defScope st)) (hn : N.length = n)
    (hb : ∀ (cdv : Value) (A : Around) (outer : List Env) (s : Shared) (H : Hp) (E : XK), Room k (A.deeper (envOfC qual (defScope st) s.heap.objs.size f cdv)) →
      PSs (cxOf (L2.CX P w) P w K mg base N qual (defScope st) f cdv A outer s H E) (defBody st) (RSX ⟨P, w, K, mg⟩ body E)) :
    FnOk P w K mg base (L2.CX P w) (k + 1) f fd ps (spX ⟨P, w, K, mg⟩ (runB n body) ps.length) := by
  refine F.ok S (fun vs H Q E h => h.1) (fun cdv A outer s H vs Q E hr h => ?_)
  refine ⟨_, hb cdv A outer s H E hr, ?_⟩
  obtain ⟨hl, al, m, as, R, rs, kk⟩ := h
  refine ⟨al, m, slots n as, R, by rw [← hn]; exact start_rsl rs, ?_⟩
  unfold runB at kk
  cases hx : body (slots n as) m with
  | ok fl m1 =>
    rw [hx] at kk
    intro al1 H1 E1 R1
    cases fl with
    | rt x => exact fun y ry => kk al1 H1 y E1 R1 ry
    | nx r => exact fun σ' _ _ => kk al1 H1 _ E1 R1 .non
    | bk r => exact kk.elim
    | ct r => exact kk.elim
  | ex c m1 => rw [hx] at kk; exact kk
  | bad => rw [hx] at kk; exact kk.elim
end
/-! ### try -/
section
variable {X : Cx} {e : Expr} {ce : CE} {pos pos' np : Pos}
theorem RSl.hole {Z : Zx} {al : Al} {H : Hp} {r : Sl} {σ : L2.St} (S : RSl Z al H r σ) (i : Nat) (x : Option V) : RSl Z al H (r.set i none) (σ.set i x) := by
  refine ⟨by rw [List.length_set, List.length_set]; exact S.1, fun j w q => ?_⟩
  by_cases hj : i = j
  · subst hj
    by_cases hl : i < r.length
    · rw [List.getElem?_set_self hl] at q; cases q
    · rw [List.getElem?_eq_none (by rw [List.length_set]; omega)] at q; cases q
  · rw [List.getElem?_set_ne hj] at q ⊢
    exact S.2 j w q
theorem cs_tryR {x n : Str} {i : Nat} {exs asks : List Str} {D : Addr} {eh : Expr} {ch : Str → CE} {rp rp2 : Pos} (T : ∀ c ∈ exs, ExcOk X.K X.mg x asks c) (gD : X.mg x = some (.ref D)) (hs : X.stack = X.env :: X.outer) (hf : X.env.frame = some X.env.locals) (hN : X.N.Nodup) (hi : X.N[i]? = some n) (hln : X.env.kindOf n = some .local) (hg : Gl X x)
    (hb : ∀ (W : WX) (pn : List (Addr × Obj)) (xe : Value → Shared → Prop), Takes (X.tr pn xe) W → PE (X.tr pn xe) e (RXE (zx X) ce W))
    (hsu : ∀ (a : Addr) (oe : Obj) (C : Addr) (c : Str) (pn : List (Addr × Obj)), c ∈ exs → ExcOk X.K X.mg x asks c → X.mg c = some (.ref C) → Zc (.ref C) none oe → (∃ vs, oe.data = .fields vs) → PE (X.nox.suite a ((a, oe) :: pn)) eh (fun σ H Q => σ[i]? = some (some (.ref a)) ∧ RE (zx X) (ch c) σ H Q))
    (hdb : (x == ("__debug__" : Str)) = false := by decide) :
    PS X.nox (.Try [.Return (some e) rp] [.ExceptHandler (some (.Name x np)) (some n) [.Return (some eh) rp2] pos'] [] [] pos) (RS (zx X) (sTryR exs i ce ch)) := by
  have key := ps_try_as (X := X.nox) (x := x) (n := n) (c := .ref D) (i := i) (body := [.Return (some e) rp]) (suite := []) (b₀ := .Return (some eh) rp2) (np := np) (pos := pos) (pos' := pos') (tb := fun W D σ H => RXE (zx X) ce W σ H D.rt)
    (ts := fun a cls d D σ H => ∃ c C, c ∈ exs ∧ X.mg c = some (.ref C) ∧ cls = .ref C ∧ d = none ∧ σ[i]? = some (some (.ref a)) ∧ RE (zx X) (ch c) σ H D.rt) (Wout := fun _ _ _ _ => False) hs hf hN hi hln ⟨hg, hdb, .inl gD⟩ takes0
    (fun W pn xe tk _ => pss_one (ps_ret (hb W pn xe tk)))
    (fun a oe cls d pn hz hd => ⟨fun pins s σ H D I q => by
      obtain ⟨c, C, h1, h2, rfl, rfl, h5, h6⟩ := q
      exact (pss_one (ps_ret (hsu a oe C c pn h1 (T c h1) h2 hz hd))).run pins s σ H D I ⟨h5, h6⟩⟩)
  refine PS.imp key fun D σ H q => ?_
  obtain ⟨al, m, r, f, m', R, S, ee, kk⟩ := q
  refine ⟨al, m, r, R, S, ?_⟩
  unfold sTryR at ee
  cases hx : ce r m with
  | ok v m1 =>
    rw [hx] at ee
    cases ee
    exact fun al1 H1 y E1 R1 ry => kk al1 H1 E1 R1 y ry
  | bad => rw [hx] at ee; cases ee
  | ex c m1 =>
    rw [hx] at ee
    simp only at ee
    split at ee
    · rename_i hc
      rw [Bool.and_eq_true] at hc
      have hcm : c ∈ exs := by simpa using hc.1
      have hil : i < r.length := of_decide_eq_true hc.2
      obtain ⟨C', D', g1, g2, _, _, _, _, _, g3, _⟩ := (T c hcm).ex
      intro al1 H1 C E1 R1 hC
      rw [gD] at g2
      cases g2
      have hC' : X.mg c = some (.ref C) := hC
      rw [g1] at hC'
      cases hC'
      split at ee
      · rename_i v m2 hy
        cases ee
        refine ⟨true, g3, fun _ a ha => ⟨c, C', hcm, g1, rfl, rfl, List.getElem?_set_self (by rw [← S.1]; exact hil), al1, m1, r.set i none, v, _, R1, (S.mono E1).hole i _, hy, fun al2 H2 y E2 R2 ry => kk al2 H2 (E1.trans E2) R2 y ry⟩, fun z => by cases z⟩
      · cases ee
    · cases ee
/-- return a if isinstance(error, y) else b, in the suite -/
theorem pe_isE {x y n c : Str} {i : Nat} {asks : List Str} {C a : Addr} {oe : Obj} {pn : List (Addr × Obj)} {ea eb : Expr} {ca cb : CE} {p1 p2 p3 p4 p5 : Pos} (T : ExcOk X.K X.mg x asks c) (hC : X.mg c = some (.ref C)) (hz : Zc (.ref C) none oe) (hd : ∃ vs, oe.data = .fields vs) (hy : y ∈ asks)
    (hN : X.N[i]? = some n) (hv : Vis X.env.scope n) (hgi : Gl X "isinstance") (hmi : X.mg "isinstance" = none) (hgy : Gl X y) (ha : PE (X.nox.suite a ((a, oe) :: pn)) ea (RE (zx X) ca)) (hb : PE (X.nox.suite a ((a, oe) :: pn)) eb (RE (zx X) cb))
    (hdn : (n == ("__debug__" : Str)) = false := by decide) (hcn : (n == ("__classdict__" : Str)) = false := by decide) (hdy : (y == ("__debug__" : Str)) = false := by decide) :
    PE (X.nox.suite a ((a, oe) :: pn)) (.IfExp (.Call (.Name "isinstance" p1) [.Name n p2, .Name y p3] [] p4) ea eb p5) (fun σ H Q => σ[i]? = some (some (.ref a)) ∧ RE (zx X) (cIte (cK (.bl (decide (c = y)))) ca cb) σ H Q) := by
  obtain ⟨C', D', g1, g2, _, _, _, _, g6, _, g7⟩ := T.ex
  rw [hC] at g1
  cases g1
  obtain ⟨B, hB1, hB2⟩ := g7 y hy
  refine PE.imp (pe_ifExp (pt_val (pe_callB (X := X.nox.suite a ((a, oe) :: pn)) (call_isE g6 hz hd) hgi hmi (by decide +kernel) (pa_cons (pe_var (i := i) hN hv hdn hcn) (pa_cons (pe_glob (v := .ref B) hgy hB1 rfl hdy) pa_nil)))) ha hb) fun σ H Q h => ?_
  obtain ⟨hs, al, m, r, v, m', R, S, ee, kk⟩ := h
  refine ⟨.ref a, hs, .ref B, .ref B, decide (c = y), rfl, fun u hu => hu, hB2, decide (c = y), rfl, ?_⟩
  unfold cIte at ee
  simp only [cK, Res.bind] at ee
  cases hq : decide (c = y) with
  | true => rw [hq] at ee; exact if1 ⟨al, m, r, v, m', R, S, ee, kk⟩
  | false => rw [hq] at ee; exact if0 ⟨al, m, r, v, m', R, S, ee, kk⟩
end
/-! ### the head's facts of an exception's class -/
def excB (dn : Str) (asks : List Str) (c : Str) (K : PySem.W.Frag) : Bool :=
  (He.Fa.exc c).ok K && (decide (PySem.W.exmOne K (.ref (He.ga K c)) (.ref (He.ga K dn)) = some true) && ((He.Fa.glo c).ok K && ((He.Fa.glo dn).ok K &&
  (He.eqO (PySem.W.findIn K (.ref (He.ga K c)) "__getattribute__") (some (some (.builtin "BaseException.__getattribute__"))) && (He.eqO (PySem.W.findIn K (.ref (He.ga K c)) "__getattr__") (some none) && (PySem.W.hasDictIn K (He.ga K c) && (He.eqO (PySem.W.findIn K (.ref (He.ga K c)) "__class__") (some (some (.builtin "object.__class__"))) &&
  (He.eqO (PySem.W.specialIn K (.builtin "object.__class__") "__get__") (some (some (.builtin "getset_descriptor.__get__"))) && (decide (PySem.W.takesIn K (.builtin "object.__class__") = some true) && (decide (PySem.W.mroIn K (He.ga K c) (.type "object") = some true) &&
  asks.all fun x => (He.Fa.glo x).ok K && decide (PySem.W.kitOne K (.ref (He.ga K c)) (.ref (He.ga K x)) = some (decide (c = x)))))))))))))
theorem excB_ok {K : PySem.W.Frag} {h : Heap} {mg : Str → Option Value} {dn c : Str} {asks : List Str} (X : K.In h) (G : h.Ns mainGlobals mg) (e : excB dn asks c K = true) : ExcOk K mg dn asks c := by
  simp only [excB, Bool.and_eq_true, List.all_eq_true] at e
  obtain ⟨e1, e2, e3, e4, e5, e6, e7, e8, e9, e10, e11, e12⟩ := e
  simp only [He.Fa.ok, Bool.and_eq_true] at e1
  obtain ⟨f1, f2, f3, f4⟩ := e1
  refine ⟨_, _, He.glo_ok X G e3, He.glo_ok X G e4, f1, f2, of_decide_eq_true f3, of_decide_eq_true f4, ⟨He.eqO_ok e5, He.eqO_ok e6, of_decide_eq_true f3, e7, He.eqO_ok e8, He.eqO_ok e9, of_decide_eq_true e10, of_decide_eq_true e11⟩, of_decide_eq_true e2, fun x hx => ?_⟩
  have hx1 := e12 x hx
  exact ⟨_, He.glo_ok X G hx1.1, of_decide_eq_true hx1.2⟩
end Co

/-! own classes: isinstance, ==, != -/
namespace Co
open PySem
def oIsO (C : Str) : MV → MH → Res MV := fun x m => match tyN x m with
  | some _ => .ok (.bl false) m
  | none => match x with
    | .ref n => match m[n]? with
      | some (.ins c _) => if c = C then .ok (.bl true) m else .bad
      | _ => .bad
    | _ => .bad
def tyC (C : Str) (x : MV) (m : MH) : Bool := match tyN x m with
  | some _ => true
  | none => match x with
    | .ref n => match m[n]? with
      | some (.ins c _) => decide (c = C)
      | _ => false
    | _ => false
/-- a == b by a's own __eq__ -/
def oEqO (C : Str) (g : BL) : B2 := fun a b m => if insOk C "__eq__" a m && tyC C b m then (g [a, b] m).bind fun v m1 => match v with
    | .bl k => .ok (.bl k) m1
    | _ => .bad
  else .bad
def oNeO (C : Str) (g : BL) : B2 := fun a b m => if insOk C "__eq__" a m && tyC C b m then (g [a, b] m).bind fun v m1 => match v with
    | .bl k => .ok (.bl (!k)) m1
    | _ => .bad
  else .bad
/-- is True, is False, of an int, a truth value or None -/
def oIsB : B2 := fun a b m => match b with
  | .bl y => match a with
    | .bl x => .ok (.bl (x == y)) m
    | .int _ => .ok (.bl false) m
    | .non => .ok (.bl false) m
    | _ => .bad
  | _ => .bad
end Co

namespace PySem.W
open PySem PySem.Spec PyProof.Rows
section
variable {prog : Program} {w : World} {A : Around} {E : Value → Shared → Prop} {s : Shared} {K : Frag} {x C L f : Addr} {h₀ : Heap} {m : Str → Option Value} {ox : Obj} {od : Option Obj} {b tb : Value}
theorem one_bind (self : Value) : bindSpecial (.builtin "object.__ne__") self = pure (.builtin "object.__ne__", [self]) :=
  (Slot.of (T := "object") (name := "__ne__") (owner := "object") (n := "__ne__") (by rw [typeLookup_type, builtinLookup_eq_fast]; kernel_rfl) (by decide +kernel) (by decide +kernel) (by decide +kernel)
    (.inl (by decide +kernel)) (by rw [isSubtype_type]; kernel_rfl)).bind self
theorem check_slot_K {M : Model} {id owner n : String} {rest : List Value} {Q : Unit → Shared → Prop} (X : K.In s.heap) (I : InstAt s.heap x ox C od) (hk : builtinKind id = some .slot) (hs : splitId id = some (owner, n))
    (ha : argsOk id ⟨.ref x :: rest, []⟩) (hob : subIn K (.ref C) (.type owner) = some true) (hq : Q () s) : wpAny M A (checkBuiltinCall id ⟨.ref x :: rest, []⟩) Q E s := by
  have LI : Looks M s.heap (isInstance (.ref x) (.type owner)) true := I.type.andThen (looks_subIn X hob)
  simp only [checkBuiltinCall, hk, hs]
  refine wpAny_bind (LI.here ?_)
  simp only [Bool.not_true, Bool.false_eq_true, if_false]
  cases hsig : Manifest.signature? id with
  | none => exact wpAny_pure hq
  | some sig =>
    simp only [argsOk, hsig] at ha
    have h2 : Bind.checkArgs id sig ⟨.ref x :: rest, []⟩ = pure () := ha
    show wpAny M A (Bind.checkArgs id sig ⟨.ref x :: rest, []⟩) Q E _
    rw [h2]; exact wpAny_pure hq
theorem ne_K {Q : Value → Shared → Prop} (hu : A.units + 1 < cLine) (F : Fr h₀ L s.heap m) (X₀ : K.In h₀) (I : InstAt s.heap x ox C od) (hb : Looks (model prog w) s.heap (typeOf b) tb) (hn : notFirst K C tb = true)
    (hne : findIn K (.ref C) "__ne__" = some (some (.builtin "object.__ne__"))) (heq : findIn K (.ref C) "__eq__" = some (some (.ref f))) (hf : isFn K (.ref f) = true) (hob : subIn K (.ref C) (.type "object") = some true)
    (h : wpAny (model prog w) A.in1 (call (.ref f) [.ref x, b]) (fun v s' => ∃ k, v = .bool k ∧ Q (.bool (!k)) s') E s) : wpAny (model prog w) A (richCompare .NotEq (.ref x) b) Q E s := by
  have X := X₀.keeps F.keep
  have one : wpAny (model prog w) A (tryCompare (.ref x) (cmpInfo .NotEq).2.1 b) (fun r s' => ∃ v, r = some v ∧ Q v s') E s := by
    rw [cmpInfo_NotEq]
    dsimp only
    unfold tryCompare
    have spec : wpAny (model prog w) A (callSpecialIfBound? (.ref x) "__ne__" [b]) (fun r s' => ∃ k, r = some (.bool (!k)) ∧ Q (.bool (!k)) s') E s := by
      simp only [callSpecialIfBound?, bindSpecialIfBound?]
      refine wpAny_holding (wpAny_bind (wpAny_bind (wpAny_bind (I.type.here ((looks_findIn X hne).here ?_)))))
      simp only [one_bind]
      refine wpAny_bind (wpAny_askSetting (wpAny_ite ?_))
      have fin : wpAny (model prog w) A (call (.builtin "object.__ne__") ([.ref x] ++ [b]) >>= fun v => pure (some v)) (fun r s' => ∃ k, r = some (.bool (!k)) ∧ Q (.bool (!k)) s') E s := by
        refine wpAny_bind (wpAny_call (codeAny_call_builtin (by decide +kernel) PySem.F.cmpEntry_ne ?_))
        refine check_slot_K X I PySem.F.cmpKind_ne PySem.F.cmpSplit_ne (PySem.F.cmpArgs_ne _ _) hob ?_
        unfold Builtin.«object.__ne__»
        refine wpAny_bind (m := slotArgs "__ne__" 1 _) (wpAny_pure ?_)
        refine wpAny_bind (wpAny_cRoomFor (show A.in1.units < cLine from hu) ?_)
        refine wpAny_bind (ifBound_K X I heq hf (wpAny_mono h (fun v s' hv => ?_) fun _ _ e => e))
        obtain ⟨k, rfl, hq⟩ := hv
        exact wpAny_bind (wpAny_truthy_bool (wpAny_pure (wpAny_pure ⟨k, rfl, hq⟩)))
      split
      · exact wpAny_bind (wpAny_pure (wpAny_pure fin))
      · exact wpAny_tryCatch (wpAny_bind (wpAny_pure (wpAny_pure fin)))
    refine wpAny_bind (wpAny_mono spec (fun v s' hv => ?_) fun _ _ e => e)
    obtain ⟨k, rfl, hv⟩ := hv
    exact wpAny_pure ⟨_, rfl, hv⟩
  unfold richCompare
  simp only [oneThing_ref]
  refine wpAny_holding (wpAny_bind (wpAny_cRoomFor (Nat.lt_of_succ_lt hu) ?_))
  refine wpAny_bind (I.type.here (wpAny_bind (hb.here ?_)))
  split
  · rename_i q
    have e : subIn K tb (.ref C) = some false := by
      rcases Bool.or_eq_true_iff.mp hn with e | e
      · rw [beq_iff_eq.mp e] at q; simp at q
      · exact beq_iff_eq.mp e
    refine wpAny_bind ((looks_subIn X e).here ?_)
    simp only [Bool.false_eq_true, if_false]
    refine wpAny_bind (wpAny_mono one (fun r s' z => ?_) fun _ _ e => e)
    obtain ⟨v, rfl, hq⟩ := z
    exact wpAny_pure hq
  · refine wpAny_bind (wpAny_pure ?_)
    simp only [Bool.false_eq_true, if_false]
    refine wpAny_bind (wpAny_mono one (fun r s' z => ?_) fun _ _ e => e)
    obtain ⟨v, rfl, hq⟩ := z
    exact wpAny_pure hq
end
end PySem.W
namespace Co
open PySem PySem.Spec PyProof.Rows L2
def oIsoT : List String := ["NoneType", "bool", "int", "str", "tuple", "list"]
/-- what isinstance, == and != ask of a class of the text -/
structure OwnI (K : PySem.W.Frag) (mg : Str → Option Value) (C : Str) : Prop where
  ex : ∃ c, mg C = some (.ref c) ∧ C8.InsC K c ∧ PySem.W.findIn K (.ref c) "__ne__" = some (some (.builtin "object.__ne__")) ∧ PySem.W.subIn K (.ref c) (.type "object") = some true ∧ PySem.W.notFirst K c (.ref c) = true ∧
    ∀ T ∈ oIsoT, PySem.W.kitOne K (.type T) (.ref c) = some false ∧ PySem.W.notFirst K c (.type T) = true
section
variable {X : Cx} {C : Str} {e a b : Expr} {ce ca cb : CE} {pos : Pos}
theorem tyC_is {al : Al} {m : MH} {H : Hp} {x : MV} {y : V} (R : Rel (zx X) al m H) (ry : RV (zx X) al H x y) {c : Addr} (hc : X.mg C = some (.ref c)) (I : C8.InsC X.K c) (h : tyC C x m = true) : ∃ t, TyX X.K H y t ∧ ((∃ T ∈ oIsoT, t = .type T) ∨ t = .ref c) := by
  unfold tyC at h
  split at h
  · rename_i T hT
    obtain ⟨h1, h2⟩ := tyN_ty R ry hT
    exact ⟨_, h1, .inl ⟨T, h2, rfl⟩⟩
  · split at h
    · split at h
      · rename_i n _ c' fs hm
        obtain rfl := of_decide_eq_true h
        obtain ⟨p, Ca, dx, gs, rfl, ha, hh, hmg, pr⟩ := R.ins ry hm
        have hq : X.mg c' = some (.ref Ca) := hmg
        rw [hc] at hq
        cases hq
        exact ⟨_, .base (TyOf.ins hh I.cl I.ha I.hn I.htk I.hm), .inr rfl⟩
      · cases h
    · cases h
theorem ce_isO {px pT : Pos} (O : OwnI X.K X.mg C) (h : PE X e (RE (zx X) ce)) (hg : Gl X "isinstance") (hm : X.mg "isinstance" = none) (hgT : Gl X C) (hdb : (C == ("__debug__" : Str)) = false := by decide)
    (hv0 : bootBuiltins "isinstance" = some (.builtin "isinstance") := by decide +kernel)
    (hs : starEach [e, .Name C pT] X.env = (false, eval e X.env) :: starEach [.Name C pT] X.env := by rfl) (hpl : (backTo pos (starEach [.Name C pT] X.env)).any (·.1) = false := by rfl) (hs2 : starEach [.Name C pT] X.env = (false, eval (.Name C pT) X.env) :: starEach [] X.env := by rfl) :
    PE X (.Call (.Name "isinstance" px) [e, .Name C pT] [] pos) (RE (zx X) (cUn (oIsO C) ce)) := by
  obtain ⟨c, hc, hI, _, _, _, hT⟩ := O.ex
  refine PE.imp (pe_callB (call_isi (X := X)) hg hm hv0 (pa_cons h (pa_cons (pe_glob (v := .ref c) hgT hc rfl hdb) pa_nil hs2) hs) (by decide) (by decide) hs hpl) fun σ H Q h => ?_
  obtain ⟨al, m, r, v, m', R, S, e0, k⟩ := h
  obtain ⟨y, m1, e1, ee⟩ := Res.bind_eq_ok.mp e0
  refine ⟨al, m, r, y, m1, R, S, e1, fun al1 H1 z E1 R1 rz => ?_⟩
  unfold oIsO at ee
  split at ee
  · rename_i T ht
    cases ee
    obtain ⟨h1, h2⟩ := tyN_ty R1 rz ht
    exact ⟨z, .ref c, .type T, .ref c, false, rfl, .own c, h1, (hT T h2).1, k al1 H1 _ E1 R1 (.bl _)⟩
  · split at ee
    · split at ee
      · rename_i n _ c' fs hm
        split at ee
        · rename_i hcc
          subst hcc
          cases ee
          obtain ⟨p, Ca, dx, gs, rfl, ha, hh, hmg, pr⟩ := R1.ins rz hm
          have hq : X.mg c' = some (.ref Ca) := hmg
          rw [hc] at hq
          cases hq
          exact ⟨_, .ref c, .ref c, .ref c, true, rfl, .own c, .base (TyOf.ins hh hI.cl hI.ha hI.hn hI.htk hI.hm), hI.me, k al1 H1 _ E1 R1 (.bl _)⟩
        · cases ee
      · cases ee
    · cases ee
/-! ### == and != by the own __eq__ -/
theorem run_eq {j : Nat} {g : BL} {al : Al} {m : MH} {pins : List (Addr × Obj)} {σ : L2.St} {H : Hp} {s : Shared} {x y : MV} {a : Addr} {yv : V} {b : Value} {k : Bool} {m1 : MH} {A : Around} {f : Addr} {fd : FuncData} {ps : List Str}
    (F : FnOk X.prog X.w X.K X.mg X.base CX0 j f fd ps (spOf ⟨X.prog, X.w, X.K, X.mg⟩ g 2)) (hb : Binds X.K fd ps []) (hl : ps.length = 2) (hr : Room j A) (hA : A.frames = X.A.frames) (I : Inv X pins σ H s) (R : Rel (zx X) al m H) (rx : RV (zx X) al H x (.ref a)) (ry : RV (zx X) al H y yv) (rb : RelV yv b) (e : g [x, y] m = .ok (.bl k) m1) :
    wpAny (model X.prog X.w) A (call (.ref f) [.ref a, b]) (fun v s' => v = .bool k ∧ ∃ al' H', Inv X pins σ H' s' ∧ Ext al H al' H' ∧ Rel (zx X) al' m1 H') X.xe s := by
  have e0 : Env0 X.prog X.w X.K X.mg X.base A X.stack s H := by
    have e := I.env0
    exact ⟨by rw [hA]; exact e.frames, e.mod, e.bs, e.bsz, e.funs, e.frf, e.hok, e.bare⟩
  have hrun := F.run A X.stack s H ⟨[.ref a, b], []⟩ [.ref a, b] [.ref a, yv] (fun z H' => z = .bl k ∧ ∃ al', Ext al H al' H' ∧ Rel (zx X) al' m1 H') E0 hr e0 (hb s [.ref a, b] I.kIn (by simp [hl])) (.cons rfl (.cons rb .nil)) ⟨rfl, al, m, [x, y], .bl k, m1, R, .cons rx (.cons ry .nil), e, fun al1 H1 z E1 R1 rz => ⟨rv_bl rz, al1, E1, R1⟩⟩
  refine wpAny_call (codeAny_mono hrun fun r s' hq => ?_)
  cases r with
  | error e => exact hq.elim
  | ok fl =>
    cases fl with
    | ret u =>
      obtain ⟨v', H', I', rv', rfl, al', E1, R1⟩ := I.after hq
      cases rv'
      exact ⟨rfl, al', H', I', E1, R1⟩
    | next => exact hq.elim
    | brk => exact hq.elim
    | cont => exact hq.elim
theorem co_eqO {j : Nat} {g : BL} (F : Mx X.prog X.w X.K X.mg X.base j C "__eq__" 2 g) (O : OwnI X.K X.mg C) (hr : Room (j + 1) X.A) : OpR X (compareOp .Eq) (RB (zx X) (oEqO C g)) := by
  intro pins s σ H x y v u Q I rx ry hq
  obtain ⟨al, m, p, q, w, m', R, rp, rq, ee, kk⟩ := hq
  obtain ⟨c, f, fd, ps, h1, h2, h3, h4, h5, h6⟩ := F.ex
  obtain ⟨c', hc, hI, hne, hob, hnf, hT⟩ := O.ex
  rw [h1] at hc
  cases hc
  unfold oEqO at ee
  split at ee
  · rename_i hi
    rw [Bool.and_eq_true] at hi
    obtain ⟨z, m1, e1, ee⟩ := Res.bind_eq_ok.mp ee
    split at ee
    · rename_i k
      cases ee
      obtain ⟨a, dx, gs, rfl, hh, hl⟩ := insOk_inv R hi.1 rp h1
      obtain rfl : v = Value.ref a := rx
      obtain ⟨t, ty, ht⟩ := tyC_is R rq h1 hI hi.2
      obtain ⟨P, Z, pp, _⟩ := kit_of I ry ty
      obtain ⟨mA, J, _⟩ := ins_get I.hok hh
      obtain ⟨od, J, _⟩ := J.look
      obtain ⟨mm, hF⟩ := I.fr
      have nf : PySem.W.notFirst X.K c t = true := by
        rcases ht with ⟨T, hT', rfl⟩ | rfl
        · exact (hT T hT').2
        · exact hnf
      show wpAny (model X.prog X.w) X.A (richCompare .Eq (.ref a) u) (EP X pins σ Q) X.xe s
      refine PySem.W.cmp_K (op := .Eq) (tb := t) hr.units0 hF I.ok.mod.kin J (Z.ty _ _ I.kIn pp) nf h3.at_ h3.fn ?_
      refine wpAny_mono (run_eq h4 h5 h6 (hr.mono (by omega)) rfl I R rp rq ry e1) (fun r s' hq => ?_) fun _ _ x => x
      obtain ⟨rfl, al', H', I', E1, R1⟩ := hq
      exact ⟨.bl k, H', I', rfl, kk al' H' _ E1 R1 (.bl k)⟩
    · cases ee
  · cases ee
theorem co_neO {j : Nat} {g : BL} (F : Mx X.prog X.w X.K X.mg X.base j C "__eq__" 2 g) (O : OwnI X.K X.mg C) (hr : Room (j + 1) X.A) : OpR X (compareOp .NotEq) (RB (zx X) (oNeO C g)) := by
  intro pins s σ H x y v u Q I rx ry hq
  obtain ⟨al, m, p, q, w, m', R, rp, rq, ee, kk⟩ := hq
  obtain ⟨c, f, fd, ps, h1, h2, h3, h4, h5, h6⟩ := F.ex
  obtain ⟨c', hc, hI, hne, hob, hnf, hT⟩ := O.ex
  rw [h1] at hc
  cases hc
  unfold oNeO at ee
  split at ee
  · rename_i hi
    rw [Bool.and_eq_true] at hi
    obtain ⟨z, m1, e1, ee⟩ := Res.bind_eq_ok.mp ee
    split at ee
    · rename_i k
      cases ee
      obtain ⟨a, dx, gs, rfl, hh, hl⟩ := insOk_inv R hi.1 rp h1
      obtain rfl : v = Value.ref a := rx
      obtain ⟨t, ty, ht⟩ := tyC_is R rq h1 hI hi.2
      obtain ⟨P, Z, pp, _⟩ := kit_of I ry ty
      obtain ⟨mA, J, _⟩ := ins_get I.hok hh
      obtain ⟨od, J, _⟩ := J.look
      obtain ⟨mm, hF⟩ := I.fr
      have nf : PySem.W.notFirst X.K c t = true := by
        rcases ht with ⟨T, hT', rfl⟩ | rfl
        · exact (hT T hT').2
        · exact hnf
      show wpAny (model X.prog X.w) X.A (richCompare .NotEq (.ref a) u) (EP X pins σ Q) X.xe s
      refine PySem.W.ne_K (tb := t) (by have := hr.un; omega) hF I.ok.mod.kin J (Z.ty _ _ I.kIn pp) nf hne h3.at_ h3.fn hob ?_
      refine wpAny_mono (run_eq h4 h5 h6 hr.in1 rfl I R rp rq ry e1) (fun r s' hq => ?_) fun _ _ x => x
      obtain ⟨rfl, al', H', I', E1, R1⟩ := hq
      exact ⟨k, rfl, .bl (!k), H', I', rfl, kk al' H' _ E1 R1 (.bl _)⟩
    · cases ee
  · cases ee
end
theorem co_isB {X : Cx} : OpR X (compareOp .Is) (RB (zx X) oIsB) := by
  intro pins s σ H x y v u Q I rx ry h
  obtain ⟨al, m, a, b, w, m', R, ra, rb, e, k⟩ := h
  unfold oIsB at e
  split at e
  · split at e
    · cases e
      refine op_is_bl pins s σ H x y v u Q I rx ry ⟨_, _, rv_bl ra, rv_bl rb, ?_⟩
      rw [← Bool.beq_eq_decide_eq]
      exact k al H _ Ext.refl R (.bl _)
    · cases e
      rw [rv_int ra] at rx
      rw [rv_bl rb] at ry
      obtain ⟨t, rfl⟩ := (show ∃ t, v = Value.int _ t from rx)
      cases (show u = Value.bool _ from ry)
      exact wpAny_is_other rfl (fun z => nomatch z) ⟨.bl false, H, I, rfl, k al H _ Ext.refl R (.bl _)⟩
    · cases e
      rw [rv_non ra] at rx
      rw [rv_bl rb] at ry
      cases (show v = Value.none from rx)
      cases (show u = Value.bool _ from ry)
      exact wpAny_is_other rfl (fun z => nomatch z) ⟨.bl false, H, I, rfl, k al H _ Ext.refl R (.bl _)⟩
    · cases e
  · cases e
/-! ### the head's facts -/
def ownB (C : Str) (K : PySem.W.Frag) : Bool :=
  (He.Fa.glo C).ok K && ((He.Fa.cls C).ok K && (He.eqO (PySem.W.findIn K (.ref (He.ga K C)) "__class__") (some (some (.builtin "object.__class__"))) && (He.eqO (PySem.W.specialIn K (.builtin "object.__class__") "__get__") (some (some (.builtin "getset_descriptor.__get__"))) &&
  (decide (PySem.W.takesIn K (.builtin "object.__class__") = some true) && (decide (PySem.W.mroIn K (He.ga K C) (.type "object") = some true) && (decide (PySem.W.kitOne K (.ref (He.ga K C)) (.ref (He.ga K C)) = some true) &&
  (He.eqO (PySem.W.findIn K (.ref (He.ga K C)) "__ne__") (some (some (.builtin "object.__ne__"))) && (decide (PySem.W.subIn K (.ref (He.ga K C)) (.type "object") = some true) && (PySem.W.notFirst K (He.ga K C) (.ref (He.ga K C)) &&
  oIsoT.all fun T => decide (PySem.W.kitOne K (.type T) (.ref (He.ga K C)) = some false) && PySem.W.notFirst K (He.ga K C) (.type T))))))))))
theorem ownB_ok {K : PySem.W.Frag} {h : Heap} {mg : Str → Option Value} {C : Str} (X : K.In h) (G : h.Ns mainGlobals mg) (e : ownB C K = true) : OwnI K mg C := by
  simp only [ownB, Bool.and_eq_true, List.all_eq_true] at e
  obtain ⟨e1, e2, e3, e4, e5, e6, e7, e8, e9, e10, e11⟩ := e
  exact ⟨_, He.glo_ok X G e1, ⟨He.cls_ok e2, He.eqO_ok e3, He.eqO_ok e4, of_decide_eq_true e5, of_decide_eq_true e6, of_decide_eq_true e7⟩, He.eqO_ok e8, of_decide_eq_true e9, e10, fun T hT => ⟨of_decide_eq_true (e11 T hT).1, (e11 T hT).2⟩⟩
end Co

/-! texts -/
namespace Co
open PySem
def asStrs : List MV → Option (List Str)
  | [] => some []
  | .str i :: r => (asStrs r).map (i :: ·)
  | _ :: _ => none
def mJoin : BM := fun a as m => match a, as with
  | .str sep, [.ref n] => match (lstAt n m).bind asStrs with
    | some ys => if decide ((ys.map (·.length)).sum + ys.length * sep.length ≤ 100000) then .ok (.str (Txt.join sep ys)) m else .bad
    | none => .bad
  | _, _ => .bad
def mSplit : BM := fun a as m => match a, as with
  | .str x, [.str y] => if (y.length == 0) = false ∧ x.length ≤ 100000 then newL ((Txt.split x y).map .str) m else .bad
  | _, _ => .bad
def bStr : BL := fun as m => match as with
  | [.str x] => .ok (.str x) m
  | [.int i] => if decide (i.natAbs.log2 < 1920) then .ok (.str (Str.ofString (toString i))) m else .bad
  | _ => .bad
def bInt : BL := fun as m => match as with
  | [.str x] => match PySem.intText? x with
    | some n => if decide (x.length ≤ 640) then .ok (.int n) m else .bad
    | none => .bad
  | _ => .bad
def oAddS : B2 := fun a b m => match a, b with
  | .str i, .str j => if szOk (i.length + j.length) then .ok (.str (i ++ j)) m else .bad
  | _, _ => .bad
def slS (a : MV) (lo hi : Option Int) (m : MH) : Res MV := match a with
  | .str z => if szOk z.length then .ok (.str (L2.cutS z lo hi)) m else .bad
  | _ => .bad
def cSliceS (a : CE) (lo hi : Option CE) : CE := fun r m => (a r m).bind fun x m1 => (partOf lo r m1).bind fun l m2 => (partOf hi r m2).bind fun h m3 => slS x l h m3
/-- the signs of a text -/
def signs (x : Str) : List MV := x.cps.toList.map fun c => .str ⟨#[c]⟩
def iStr (e : CE) : CI := fun r m => (e r m).bind fun v m1 => match v with
  | .str x => .ok (.its (signs x)) m1
  | _ => .bad
end Co

namespace Co
open PySem PySem.Spec PyProof.Rows L2
section
variable {X : Cx}
theorem asStrs_rl {Z : Zx} {al : Al} {H : Hp} : ∀ {ys : List MV} {xs : List V} {ns : List Str}, RL Z al H ys xs → asStrs ys = some ns → xs = ns.map V.str
  | _, _, _, .nil, e => by cases e; rfl
  | .str i :: r, _, ns, .cons h t, e => by
    simp only [asStrs, Option.map_eq_some_iff] at e
    obtain ⟨l, e1, rfl⟩ := e
    rw [List.map_cons, ← asStrs_rl t e1, rv_str h]
  | .non :: r, _, _, _, e => by cases e
  | .bl _ :: r, _, _, _, e => by cases e
  | .int _ :: r, _, _, _, e => by cases e
  | .ref _ :: r, _, _, _, e => by cases e
  | .nil :: r, _, _, _, e => by cases e
  | .cons _ _ :: r, _, _, _, e => by cases e
  | .frz _ :: r, _, _, _, e => by cases e
theorem strs_rl {Z : Zx} {al : Al} {H : Hp} : ∀ ys : List Str, RL Z al H (ys.map .str) (ys.map V.str)
  | [] => .nil
  | y :: ys => .cons (.str y) (strs_rl ys)
theorem mc_join : MtR X "str.join" (RM (zx X) mJoin) := by
  intro pins s σ H x xs v us Q I rx rxs h
  obtain ⟨al, m, a, as, w, m', R, ra, rs, e, k⟩ := h
  unfold mJoin at e
  split at e
  · rename_i sep n
    split at e
    · rename_i ys e1
      split at e
      · rename_i hz
        cases e
        obtain ⟨zs, e2, e3⟩ := Option.bind_eq_some_iff.mp e1
        obtain ⟨y, rfl, ry⟩ := rl1 rs
        obtain ⟨p, rfl, hp⟩ := rv_ref ry
        obtain ⟨vs, h1, h2⟩ := R.lst hp e2
        obtain rfl := asStrs_rl h2 e3
        have hz' := of_decide_eq_true hz
        exact mt_join pins s σ H _ _ v us Q I rx rxs ⟨sep, p, ys, rv_str ra, rfl, .inl (.of h1), by omega, k al H _ Ext.refl R (.str _)⟩
      · cases e
    · cases e
  · cases e
theorem mc_split : MtR X "str.split" (RM (zx X) mSplit) := by
  intro pins s σ H x xs v us Q I rx rxs h
  obtain ⟨al, m, a, as, w, m', R, ra, rs, e, k⟩ := h
  unfold mSplit at e
  split at e
  · rename_i z y
    split at e
    · rename_i hz
      obtain ⟨y', rfl, ry⟩ := rl1 rs
      obtain rfl := rv_str ry
      refine mt_split pins s σ H _ _ v us Q I rx rxs ⟨z, y, rv_str ra, rfl, hz.1, ?_, (newL_ok R (strs_rl _) e k).2⟩
      have := hz.2
      rw [sizeLine_eq]
      omega
    · cases e
  · cases e
theorem cb_str : CallR X (.type "str") (RC (zx X) bStr) := by
  intro pins s σ H xs us Q I r h
  obtain ⟨al, m, as, v, m', R, ra, e, k⟩ := h
  unfold bStr at e
  split at e
  · cases e
    obtain ⟨x, rfl, h1⟩ := rl1 ra
    obtain rfl := rv_str h1
    exact SkE.call_str_str pins s σ H _ us Q I r ⟨_, rfl, k al H _ Ext.refl R (.str _)⟩
  · split at e
    · rename_i hz
      cases e
      obtain ⟨x, rfl, h1⟩ := rl1 ra
      obtain rfl := rv_int h1
      exact call_str_int pins s σ H _ us Q I r ⟨_, rfl, of_decide_eq_true hz, k al H _ Ext.refl R (.str _)⟩
    · cases e
  · cases e
theorem cb_int : CallR X (.type "int") (RC (zx X) bInt) := by
  intro pins s σ H xs us Q I r h
  obtain ⟨al, m, as, v, m', R, ra, e, k⟩ := h
  unfold bInt at e
  split at e
  · split at e
    · rename_i n hn
      split at e
      · rename_i hz
        cases e
        obtain ⟨x, rfl, h1⟩ := rl1 ra
        obtain rfl := rv_str h1
        exact call_int_str pins s σ H _ us Q I r ⟨_, n, rfl, hn, of_decide_eq_true hz, k al H _ Ext.refl R (.int _)⟩
      · cases e
    · cases e
  · cases e
theorem co_addS : OpR X (binaryOp .Add) (RB (zx X) oAddS) := by
  intro pins s σ H x y v u Q I rx ry h
  obtain ⟨al, m, a, b, w, m', R, ra, rb, e, k⟩ := h
  unfold oAddS at e
  split at e
  · split at e
    · rename_i hz
      cases e
      exact op_add_str pins s σ H x y v u Q I rx ry ⟨_, _, rv_str ra, rv_str rb, szOk_line hz, k al H _ Ext.refl R (.str _)⟩
    · cases e
  · cases e
theorem co_slS : SlR X (RSl3 (zx X) slS) := by
  intro pins s σ H x v vl vu lo hi sl Q I rx hs pl pu h
  obtain ⟨al, m, a, w, m', R, ra, e, k⟩ := h
  unfold slS at e
  split at e
  · split at e
    · rename_i hz
      cases e
      exact sl_str pins s σ H x v vl vu lo hi sl Q I rx hs pl pu ⟨_, rv_str ra, szOk_line hz, k al H _ Ext.refl R (.str _)⟩
    · cases e
  · cases e
theorem ce_sliceS {e : Expr} {lo hi : Option Expr} {c : CE} {cl ch : Option CE} {p2 pos : Pos} (he : PE X e (RE (zx X) c)) (hl : PO' X lo cl) (hu : PO' X hi ch) : PE X (.Subscript e (.Slice lo hi none p2) pos) (RE (zx X) (cSliceS c cl ch)) := by
  refine PE.imp (pe_slice co_slS he hl.po hu.po) fun σ H Q h => ?_
  obtain ⟨al, m, r, v, m', R, S, e, k⟩ := h
  obtain ⟨x, m1, e1, e⟩ := Res.bind_eq_ok.mp e
  obtain ⟨l, m2, e2, e⟩ := Res.bind_eq_ok.mp e
  obtain ⟨u, m3, e3, e⟩ := Res.bind_eq_ok.mp e
  exact ⟨al, m, r, x, m1, R, S, e1, fun al1 H1 y E1 R1 ry => ⟨al1, m1, r, l, m2, R1, S.mono E1, e2, fun al2 H2 E2 R2 => ⟨al2, m2, r, u, m3, R2, S.mono (E1.trans E2), e3, fun al3 H3 E3 R3 => ⟨al3, m3, x, v, m', R3, ry.mono (E2.trans E3), e, fun al4 H4 z E4 R4 rz => k al4 H4 z (E1.trans (E2.trans (E3.trans E4))) R4 rz⟩⟩⟩⟩
theorem src_str {Z : Zx} {al : Al} {H : Hp} (x : Str) : SrcOk Z false al H (.its (signs x)) (Its x) := by
  intro al1 m H1 i E1 R1
  simp only [Src.at, signs, List.getElem?_map]
  by_cases hi : i < x.cps.size
  · have e : x.cps.toList[i]? = some x.cps[i] := by simp [hi]
    rw [e]
    refine ⟨hi, fun y H' hy => ?_⟩
    obtain ⟨rfl, c, hc, rfl⟩ := hy
    have : x.cps[i] = c := by
      rw [Array.getElem?_eq_getElem hi] at hc
      exact Option.some.inj hc
    rw [this]
    exact ⟨Ext.refl, R1, .str _⟩
  · have e : x.cps.toList[i]? = none := by simp; omega
    rw [e]
    show x.cps.size ≤ i
    omega
theorem ci_str {tg e : Expr} {ce : CE} (h : PE X e (RE (zx X) ce)) : PI X tg e (RI (zx X) false (Co.iStr ce)) := by
  refine PI.imp (pi_str h) fun σ H Q hq => ?_
  obtain ⟨al, m, r, s, m', R, S, ee, k⟩ := hq
  obtain ⟨v, m1, e1, ee⟩ := Res.bind_eq_ok.mp ee
  refine ⟨al, m, r, v, m1, R, S, e1, fun al1 H1 x E1 R1 rx => ?_⟩
  split at ee
  · cases ee
    exact ⟨_, rv_str rx, k al1 H1 _ E1 R1 (src_str _)⟩
  · cases ee
end
end Co

/-! functions picked from a list; makers that may raise; a def called with the error that is handled -/
namespace Co
open PySem
def cPick (gs : List BL) (i : CE) (t : CA) : CE := fun r m => (i r m).bind fun x m1 => match x with
  | .int k => match L2.atI gs k with
    | some g => (t r m1).bind g
    | none => .bad
  | _ => .bad
def cPickX (gs : List BL) (i : CE) (t : CA) : CE := fun r m => match i r m with
  | .ok (.int k) m1 => match L2.atI gs k with
    | some g => match t r m1 with
      | .ok vs m2 => g vs m2
      | _ => .bad
    | none => .bad
  | _ => .bad
def cMakeX (C : Str) (g : BL) (t : CA) : CE := fun r m => match t r m with
  | .ok vs m1 => match g (.ref m1.length :: vs) (m1 ++ [.ins C []]) with
    | .ok .non m2 => .ok (.ref m1.length) m2
    | .ex c m2 => .ex c m2
    | _ => .bad
  | _ => .bad
/-- f(error), by the error's class -/
def cOf (g : BL) : CE := fun _ m => g [] m
def runE (n : Nat) (body : CS) : BL := fun _ m => (body (List.replicate n none) m).bind fun f m1 => match f with
  | .rt v => .ok v m1
  | _ => .bad
def mIdxB : BM := fun a as m => match as with
  | [.bl k] => match (lstOf a m).bind asBools with
    | some ns => if ns.contains k then .ok (.int (ns.idxOf k : Nat)) m else .bad
    | none => .bad
  | _ => .bad
end Co

namespace Co
open PySem PySem.Spec PyProof.Rows L2
section
variable {X : Cx} {W : WX} {E : XK}
/-! ### f, one of a written list of functions, called -/
structure PFs (X : Cx) (CX : CXT) (sp : BL → Sp) (j n : Nat) (es : List Expr) (gs : List BL) : Prop where
  ex : ∃ (as : List Addr) (t : TA), PA X es t ∧ (∀ σ H Q, Q (as.map V.ref) H → t σ H Q) ∧ Paired (fun (a : Addr) (g : BL) => ∃ (fd : FuncData) (ps : List Str), FnOk X.prog X.w X.K X.mg X.base CX j a fd ps (sp g) ∧ PySem.W.keepIn X.K (.ref a) = true ∧ Binds X.K fd ps [] ∧ ps.length = n) as gs
theorem cf_nil {CX : CXT} {sp : BL → Sp} {j n : Nat} : PFs X CX sp j n [] [] := ⟨[], _, pa_nil, fun _ _ _ h => h, .nil⟩
theorem cf_cons {CX : CXT} {sp : BL → Sp} {j k n : Nat} {x : Str} {p : Pos} {es : List Expr} {g : BL} {gs : List BL} (F : ∃ (f : Addr) (fd : FuncData) (ps : List Str), FnOk X.prog X.w X.K X.mg X.base CX k f fd ps (sp g) ∧ X.mg x = some (.ref f) ∧ PySem.W.keepIn X.K (.ref f) = true ∧ Binds X.K fd ps [] ∧ ps.length = n) (hk : k ≤ j) (hg : Gl X x) (h : PFs X CX sp j n es gs)
    (hdb : (x == ("__debug__" : Str)) = false := by decide) (hs : starEach (.Name x p :: es) X.env = (false, eval (.Name x p) X.env) :: starEach es X.env := by rfl) : PFs X CX sp j n (.Name x p :: es) (g :: gs) := by
  obtain ⟨f, fd, ps, h1, h2, h3, h4, h5⟩ := F
  obtain ⟨as, t, q1, q2, q3⟩ := h.ex
  exact ⟨f :: as, _, pa_cons (pe_glob (v := .ref f) hg h2 rfl hdb) q1 hs, fun σ H Q hq => q2 σ H _ hq, .cons ⟨fd, ps, h1.mono hk, h3, h4, h5⟩ q3⟩
theorem atI_paired {α β : Type} {F : α → β → Prop} {xs : List α} {ys : List β} (h : Paired F xs ys) {k : Int} {y : β} (e : atI ys k = some y) : ∃ x, atI xs k = some x ∧ F x y := by
  unfold atI at e ⊢
  rw [Paired.len h]
  cases hq : ixN ys.length k with
  | none => rw [hq] at e; cases e
  | some j =>
    rw [hq] at e
    obtain ⟨x, h1, h2⟩ := Paired.get2? h e
    exact ⟨x, h1, h2⟩
theorem atI_map {α β : Type} {f : α → β} {xs : List α} {k : Int} {x : α} (e : atI xs k = some x) : atI (xs.map f) k = some (f x) := by
  unfold atI at e ⊢
  rw [List.length_map]
  cases hq : ixN xs.length k with
  | none => rw [hq] at e; cases e
  | some j =>
    rw [hq] at e
    have e : xs[j]? = some x := e
    show (xs.map f)[j]? = some (f x)
    rw [List.getElem?_map, e]; rfl
theorem pick_fn {CX : CXT} {sp : BL → Sp} {j n : Nat} {fes : List Expr} {gs : List BL} {idx : Expr} {ci : CE} {lp sp' : Pos} (hf : PFs X CX sp j n fes gs) (hi : PE X idx (RE (zx X) ci)) (hs : PlainIx idx) (hn : gs.length ≤ 1000) :
    PE X (.Subscript (.List fes lp) idx sp') (fun σ H Q => ∃ al m r k m1 g, Rel (zx X) al m H ∧ RSl (zx X) al H r σ ∧ ci r m = .ok (.int k) m1 ∧ atI gs k = some g ∧ ∀ a fd ps al1 H1, FnOk X.prog X.w X.K X.mg X.base CX j a fd ps (sp g) → PySem.W.keepIn X.K (.ref a) = true → Binds X.K fd ps [] → ps.length = n → Ext al H al1 H1 → Rel (zx X) al1 m1 H1 → Q (.ref a) H1) := by
  obtain ⟨as, t, q1, q2, q3⟩ := hf.ex
  refine PE.imp (pe_ix ix_list (pe_lst q1) hi hs) fun σ H Q h => ?_
  obtain ⟨al, m, r, k, m1, g, R, S, e, hg, kk⟩ := h
  refine q2 σ H _ ⟨?_, fun p hp => ?_⟩
  · rw [List.length_map, Paired.len q3]; exact million (by omega)
  · have E1 := Co.Ext.new R (o := .lst (as.map V.ref)) hp
    refine ⟨al, m, r, .int k, m1, Rel.new R hp, S.mono E1, e, fun al2 H2 y E2 R2 ry => ?_⟩
    obtain ⟨a, ha, fd, ps, f1, f2, f3, f4⟩ := atI_paired q3 hg
    have st : H2 p = some (.lst (as.map V.ref)) := (E2.frm p _ upd_same (R.fresh hp)).1
    exact ⟨p, as.map V.ref, k, .ref a, rfl, rv_int ry, .of st, atI_map ha, kk a fd ps al2 H2 f1 f2 f3 f4 (E1.trans E2) R2⟩
theorem cex_pick {j n : Nat} {fes es : List Expr} {e : Expr} {gs : List BL} {idx : Expr} {ci : CE} {cs : CA} {lp sp' pos : Pos} (hf : PFs X.nox (L2.CX X.prog X.w) (fun g => spX (zx X) g (n + 1)) j (n + 1) fes gs) (hr : Room j X.A) (tk : Takes X W) (hi : PE X.nox idx (RE (zx X) ci)) (hs : PlainIx idx) (ha : PA X.nox (e :: es) (RA (zx X) cs)) (hc : ∀ r m vs m', cs r m = .ok vs m' → vs.length = n + 1) (hn : gs.length ≤ 1000 := by decide)
    (he : starEach (e :: es) X.env = (false, eval e X.env) :: starEach es X.env := by rfl) (hpl : (backTo pos (starEach es X.env)).any (·.1) = false := by rfl) (ht : eval (.Call (.Subscript (.List fes lp) idx sp') (e :: es) [] pos) X.env = (do callWith pos (← eval (.Subscript (.List fes lp) idx sp') X.env) [] (backTo pos (starEach (e :: es) X.env)) (backToKw pos (keywordEach [] X.env))) := by rfl) :
    PE X (.Call (.Subscript (.List fes lp) idx sp') (e :: es) [] pos) (RXE (zx X) (cPickX gs ci cs) W) := by
  refine ⟨fun pins s σ H Q I hq => ?_⟩
  obtain ⟨al, m, r, R, S, kk⟩ := hq
  unfold cPickX at kk
  cases hx : ci r m with
  | ex c m1 => rw [hx] at kk; exact kk.elim
  | bad => rw [hx] at kk; exact kk.elim
  | ok x m1 =>
    rw [hx] at kk
    cases x with
    | int k =>
      simp only at kk
      cases hg : atI gs k with
      | none => rw [hg] at kk; exact kk.elim
      | some g =>
        rw [hg] at kk
        simp only at kk
        cases hy : cs r m1 with
        | ex c m1 => rw [hy] at kk; exact kk.elim
        | bad => rw [hy] at kk; exact kk.elim
        | ok vs m2 =>
          rw [hy] at kk
          simp only at kk
          rw [ht]
          refine wpAny_bind (thn ((PE.nox (pick_fn (lp := lp) (sp' := sp') hf hi hs hn)).run pins s σ H (fun v H1 => ∃ a fd ps al1, v = .ref a ∧ FnOk X.prog X.w X.K X.mg X.base (L2.CX X.prog X.w) j a fd ps (spX (zx X) g (n + 1)) ∧ PySem.W.keepIn X.K (.ref a) = true ∧ Binds X.K fd ps [] ∧ ps.length = n + 1 ∧ Ext al H al1 H1 ∧ Rel (zx X) al1 m1 H1) I ⟨al, m, r, k, m1, g, R, S, hx, hg, fun a fd ps al1 H1 f1 f2 f3 f4 E1 R1 => ⟨a, fd, ps, al1, rfl, f1, f2, f3, f4, E1, R1⟩⟩) fun u s1 ⟨v, H1, I1, rv, a, fd, ps, al1, ev, f1, f2, f3, f4, E1, R1⟩ => ?_)
          subst ev
          obtain rfl : u = Value.ref a := rv
          refine PySem.W.callWith_K (h₀ := X.base) I1.ok.mod.kin f2 (thn ((PA.nox ha).run pos pins s1 σ H1 (fun ys H2 => ∃ al2, Ext al1 H1 al2 H2 ∧ Rel (zx X) al2 m2 H2 ∧ RL (zx X) al2 H2 vs ys) I1 ⟨al1, m1, r, vs, m2, R1, S.mono E1, hy, fun al2 H2 ys E2 R2 rs => ⟨al2, E2, R2, rs⟩⟩) fun us s2 ⟨ys, H2, I2, ry, al2, E2, R2, rs⟩ => ⟨I2.kIn, ?_⟩) he hpl
          exact run_fnS (E := WE W) f1 hr f3 (passAt tk σ) I2 ry ⟨by rw [← Paired.len rs]; exact hc _ _ _ _ hy, al2, m2, vs, R2, rs, (kk.mono E1).mono E2⟩
    | _ => exact kk.elim
theorem ce_pick {j n : Nat} {fes es : List Expr} {e : Expr} {gs : List BL} {idx : Expr} {ci : CE} {cs : CA} {lp sp' pos : Pos} (hf : PFs X CX0 (fun g => spOf (zx X) g (n + 1)) j (n + 1) fes gs) (hr : Room j X.A) (hi : PE X idx (RE (zx X) ci)) (hs : PlainIx idx) (ha : PA X (e :: es) (RA (zx X) cs)) (hc : ∀ r m vs m', cs r m = .ok vs m' → vs.length = n + 1) (hn : gs.length ≤ 1000 := by decide)
    (he : starEach (e :: es) X.env = (false, eval e X.env) :: starEach es X.env := by rfl) (hpl : (backTo pos (starEach es X.env)).any (·.1) = false := by rfl) (ht : eval (.Call (.Subscript (.List fes lp) idx sp') (e :: es) [] pos) X.env = (do callWith pos (← eval (.Subscript (.List fes lp) idx sp') X.env) [] (backTo pos (starEach (e :: es) X.env)) (backToKw pos (keywordEach [] X.env))) := by rfl) :
    PE X (.Call (.Subscript (.List fes lp) idx sp') (e :: es) [] pos) (RE (zx X) (cPick gs ci cs)) := by
  refine ⟨fun pins s σ H Q I hq => ?_⟩
  obtain ⟨al, m, r, v, m', R, S, ee, kk⟩ := hq
  obtain ⟨x, m1, hx, ee⟩ := Res.bind_eq_ok.mp ee
  split at ee
  · rename_i k
    split at ee
    · rename_i g hg
      obtain ⟨vs, m2, hy, ee⟩ := Res.bind_eq_ok.mp ee
      rw [ht]
      refine wpAny_bind (thn ((pick_fn (lp := lp) (sp' := sp') hf hi hs hn).run pins s σ H (fun v H1 => ∃ a fd ps al1, v = .ref a ∧ FnOk X.prog X.w X.K X.mg X.base CX0 j a fd ps (spOf (zx X) g (n + 1)) ∧ PySem.W.keepIn X.K (.ref a) = true ∧ Binds X.K fd ps [] ∧ ps.length = n + 1 ∧ Ext al H al1 H1 ∧ Rel (zx X) al1 m1 H1) I ⟨al, m, r, k, m1, g, R, S, hx, hg, fun a fd ps al1 H1 f1 f2 f3 f4 E1 R1 => ⟨a, fd, ps, al1, rfl, f1, f2, f3, f4, E1, R1⟩⟩) fun u s1 ⟨v, H1, I1, rv, a, fd, ps, al1, ev, f1, f2, f3, f4, E1, R1⟩ => ?_)
      subst ev
      obtain rfl : u = Value.ref a := rv
      refine PySem.W.callWith_K (h₀ := X.base) I1.ok.mod.kin f2 (thn (ha.run pos pins s1 σ H1 (fun ys H2 => ∃ al2, Ext al1 H1 al2 H2 ∧ Rel (zx X) al2 m2 H2 ∧ RL (zx X) al2 H2 vs ys) I1 ⟨al1, m1, r, vs, m2, R1, S.mono E1, hy, fun al2 H2 ys E2 R2 rs => ⟨al2, E2, R2, rs⟩⟩) fun us s2 ⟨ys, H2, I2, ry, al2, E2, R2, rs⟩ => ⟨I2.kIn, ?_⟩) he hpl
      refine run_fn (ds := []) (dvs := []) (E := E0) f1 hr f3 .nil pass0 I2 ry ?_
      rw [List.append_nil]
      exact ⟨by rw [← Paired.len rs]; exact hc _ _ _ _ hy, al2, m2, vs, v, m', R2, rs, ee, fun al3 H3 z E3 R3 rz => kk al3 H3 z ((E1.trans E2).trans E3) R3 rz⟩
    · cases ee
  · cases ee
/-! ### C(..) that may raise -/
structure IX (P : Program) (w : World) (K : PySem.W.Frag) (mg : Str → Option Value) (base : Heap) (j : Nat) (C : Str) (n : Nat) (g : BL) : Prop where
  ex : ∃ (c f : Addr) (fd : FuncData) (ps : List Str), mg C = some (.ref c) ∧ Mk K c f ∧ FnOk P w K mg base (L2.CX P w) j f fd ps (spX ⟨P, w, K, mg⟩ g n) ∧ Binds K fd ps [] ∧ ps.length = n
theorem cex_make {C : Str} {j n : Nat} {g : BL} {e : Expr} {es : List Expr} {cs : CA} {p pos : Pos} (F : IX X.prog X.w X.K X.mg X.base j C (n + 1) g) (hr : Room (j + 1) X.A) (tk : Takes X (fun cls d _ H => E cls d H)) (hg : Gl X C) (ha : PA X.nox (e :: es) (RA (zx X) cs)) (hc : ∀ r m vs m', cs r m = .ok vs m' → vs.length = n)
    (hdb : (C == ("__debug__" : Str)) = false := by decide) (he : starEach (e :: es) X.env = (false, eval e X.env) :: starEach es X.env := by rfl) (hpl : (backTo pos (starEach es X.env)).any (·.1) = false := by rfl) :
    PE X (.Call (.Name C p) (e :: es) [] pos) (RXE (zx X) (cMakeX C g cs) fun cls d _ H => E cls d H) := by
  obtain ⟨c, f, fd, ps, h1, h2, h4, h5, h6⟩ := F.ex
  refine PE.imp (pe_make h2 h4 hr hg h1 h5 .nil (passes_call tk fun _ _ _ _ h => h) (PA.nox ha) hdb he hpl) fun σ H Q h => ?_
  obtain ⟨al, m, r, R, S, kk⟩ := h
  unfold cMakeX at kk
  cases hx : cs r m with
  | ex c m1 => rw [hx] at kk; exact kk.elim
  | bad => rw [hx] at kk; exact kk.elim
  | ok xs m1 =>
    rw [hx] at kk
    simp only at kk
    refine ⟨al, m, r, xs, m1, R, S, hx, fun al1 H1 ys E1 R1 rs => ?_⟩
    intro x dx hx' hdx hne
    show spX _ g (n + 1) (.ref x :: (ys ++ [])) _ _ _
    rw [List.append_nil]
    have E2 : Co.Ext al1 H1 al1 (upd H1 dx (.own x)) := Co.Ext.new R1 hdx
    have R2 : Rel (zx X) al1 m1 (upd H1 dx (.own x)) := Rel.new R1 hdx
    have hx2 : upd H1 dx (.own x) x = none := by rw [upd_ne hne.symm]; exact hx'
    have E3 := Co.Ext.add R2 (o := .ins c dx []) hx2
    have R3 : Rel (zx X) (alAdd al1 m1.length x) (m1 ++ [.ins C []]) (upd (upd H1 dx (.own x)) x (.ins c dx [])) := Rel.add R2 hx2 (.ins upd_same h1 .nil)
    have rx : RV (zx X) (alAdd al1 m1.length x) (upd (upd H1 dx (.own x)) x (.ins c dx [])) (.ref m1.length) (.ref x) := .ref (by unfold alAdd; rw [if_pos rfl])
    refine ⟨by simp [← Paired.len rs, hc _ _ _ _ hx], _, _, .ref m1.length :: xs, R3, .cons rx (RL.mono (E2.trans E3) rs), ?_⟩
    cases hy : g (.ref m1.length :: xs) (m1 ++ [.ins C []]) with
    | bad => rw [hy] at kk; exact kk.elim
    | ex cn m2 => rw [hy] at kk; exact fun al4 H4 C4 E4 R4 hC => kk al4 H4 C4 (((E1.trans E2).trans E3).trans E4) R4 hC
    | ok u m2 =>
      rw [hy] at kk
      intro al4 H4 z E4 R4 rz
      cases u with
      | non => exact ⟨rv_non rz, kk al4 H4 _ (((E1.trans E2).trans E3).trans E4) R4 (rx.mono E4)⟩
      | _ => exact kk.elim
/-! ### bs.index(b) -/
theorem idx_hit {ns : List Bool} {kb : Bool} (h : ns.contains kb = true) : ∃ hj : ns.idxOf kb < ns.length, ns[ns.idxOf kb] = kb := by
  have hm : kb ∈ ns := by simpa using h
  exact ⟨List.idxOf_lt_length_iff.mpr hm, List.getElem_idxOf _⟩
theorem mc_idxB : MtR X "list.index" (RM (zx X) mIdxB) := by
  intro pins s σ H x xs v us Q I rx rxs h
  obtain ⟨al, m, a, as, w, m', R, ra, rs, e, k⟩ := h
  unfold mIdxB at e
  split at e
  · rename_i kb
    split at e
    · rename_i ns e1
      split at e
      · rename_i hc
        cases e
        obtain ⟨ys, e2, e3⟩ := Option.bind_eq_some_iff.mp e1
        obtain ⟨p, vs, rfl, h1, h2⟩ := lst_of R ra e2
        obtain ⟨y, rfl, ry⟩ := rl1 rs
        rw [asBools_rl h2 e3] at h1
        rw [rv_bl ry] at rxs
        cases rx
        obtain ⟨u, rfl, ru⟩ := rxs.one
        have ru : u = Value.bool kb := ru
        subst ru
        obtain ⟨its, rv, ⟨⟨cls, dd, data, sl⟩, n, ho, hcc, hdn, hd⟩, hlen⟩ := I.list h1
        simp only at hcc hd
        subst hcc hd
        have hi := vals_bools rv
        subst hi
        obtain ⟨hj, hjv⟩ := idx_hit hc
        have hsz : (ns.map Value.bool).toArray.size = ns.length := by simp
        refine call_meets PySem.F.slot_list_index ⟨_, ho, rfl⟩ PySem.F.entry_list_index (PySem.F.args_list_index_2 _ _)
          (SeqAt.list_indexAt p (ns.map Value.bool).toArray n dd sl (.bool kb) (eqb kb) (ns.idxOf kb) (by rw [hsz]; exact hj) ?_ ?_ ?_) ⟨ho, fun y hy => ?_, ?_⟩
        · rw [List.length_map, sizeLine_eq] at hlen
          have := hj
          omega
        · simp [eqb, hjv]
        · intro q hq hlt
          have hq' : q < ns.length := by rw [hsz] at hq; exact hq
          have hne : ns[q] ≠ kb := fun z => by
            have hb := List.not_of_lt_findIdx (show q < ns.findIdx (· == kb) from hlt)
            rw [z] at hb
            simp at hb
          simp [eqb, hne]
        · have hy : y ∈ ns.map Value.bool := by simpa using hy
          obtain ⟨b, _, rfl⟩ := List.mem_map.mp hy
          exact PySem.SeqAt.EqAt.bool_bool b kb
        · exact ⟨.int _, H, I.tok _, ⟨s.toks, rfl⟩, k al H _ Ext.refl R (.int _)⟩
      · cases e
    · cases e
  · cases e
end
end Co

namespace Co
open PySem PySem.Spec PyProof.Rows L2
/-! ### within a def that is called with the error: slot i holds it, the core knows its class -/
def REE (Z : Zx) (i : Nat) (a : Addr) (c : CE) : TE := fun σ H Q => σ[i]? = some (some (.ref a)) ∧ RE Z c σ H Q
def RTE (Z : Zx) (i : Nat) (a : Addr) (c : CE) : TT := fun σ H Q => σ[i]? = some (some (.ref a)) ∧ RT Z c σ H Q
def RAE (Z : Zx) (i : Nat) (a : Addr) (c : CA) : TA := fun σ H Q => σ[i]? = some (some (.ref a)) ∧ RA Z c σ H Q
def RSE (Z : Zx) (i : Nat) (a : Addr) (c : CS) : TS := fun D σ H => σ[i]? = some (some (.ref a)) ∧ RS Z c { D with nx := fun σ' H' => σ'[i]? = some (some (.ref a)) → D.nx σ' H' } σ H
structure ExcV (K : PySem.W.Frag) (mg : Str → Option Value) (c : Str) : Prop where
  ex : ∃ C, mg c = some (.ref C) ∧ PySem.W.kitOne K (.ref C) (.type "ValueError") = some true
section
variable {X : Cx} {i : Nat} {a : Addr} {e b t : Expr} {es : List Expr} {ce cc cb : CE} {cs : CA} {pos : Pos}
theorem ee_lift (h : PE X e (RE (zx X) ce)) : PE X e (REE (zx X) i a ce) := PE.imp h fun _ _ _ q => q.2
theorem et_lift (h : PT X e (RT (zx X) ce)) : PT X e (RTE (zx X) i a ce) := PT.imp h fun _ _ _ q => q.2
theorem ea_nil : PA X [] (RAE (zx X) i a aNil) := PA.imp ca_nil fun _ _ _ q => q.2
theorem ea_cons (ha : PE X e (REE (zx X) i a ce)) (hr : PA X es (RAE (zx X) i a cs)) (hs : starEach (e :: es) X.env = (false, eval e X.env) :: starEach es X.env := by rfl) : PA X (e :: es) (RAE (zx X) i a (aCons ce cs)) := by
  refine PA.imp (pa_cons ha hr hs) fun σ H Q h => ?_
  obtain ⟨hσ, al, m, r, v, m', R, S, e, k⟩ := h
  obtain ⟨x, m1, e1, e⟩ := Res.bind_eq_ok.mp e
  obtain ⟨xs, m2, e2, e⟩ := Res.bind_eq_ok.mp e
  cases e
  exact ⟨hσ, al, m, r, x, m1, R, S, e1, fun al1 H1 y E1 R1 ry => ⟨hσ, al1, m1, r, xs, _, R1, S.mono E1, e2, fun al2 H2 ys E2 R2 rs => k al2 H2 _ (E1.trans E2) R2 (.cons (ry.mono E2) rs)⟩⟩
theorem ee_lst (h : PA X es (RAE (zx X) i a cs)) : PE X (.List es pos) (REE (zx X) i a (cLst cs)) := by
  refine PE.imp (pe_lst h) fun σ H Q h => ?_
  obtain ⟨hσ, al, m, r, v, m', R, S, e, k⟩ := h
  obtain ⟨xs, m1, e1, e⟩ := Res.bind_eq_ok.mp e
  refine ⟨hσ, al, m, r, xs, m1, R, S, e1, fun al1 H1 ys E1 R1 rs => ?_⟩
  obtain ⟨z, q⟩ := newL_ok R1 rs e (Q := Q) fun al2 H2 y E2 R2 ry => k al2 H2 y (E1.trans E2) R2 ry
  exact ⟨million z, q⟩
theorem ee_bm {T id : String} {o : Expr} {co : CE} {name : Str} {apos cpos : Pos} {f : BM} (pa : PlainAttrs T) (slot : Slot T name id) (hty : typeOf (.builtin id) = pure (.type "method_descriptor")) (hm : MtR X id (RM (zx X) f)) (ho : PE X o (RE (zx X) co)) (ha : PA X (e :: es) (RAE (zx X) i a cs))
    (hbase : attributeBase o name X.env (eval o X.env) = eval o X.env := by rfl)
    (hfew : ((backTo cpos (starEach (e :: es) X.env)).all (fun x => !x.1) && (backToKw cpos (keywordEach [] X.env)).all (fun x => x.1.isSome)
      && decide ((e :: es).length + ([] : List Keyword).length + (if ([] : List Keyword).isEmpty then 0 else 1) < 30)) = true := by rfl)
    (hline : (apos.endLine == cpos.line) = true := by rfl) (hs : starEach (e :: es) X.env = (false, eval e X.env) :: starEach es X.env := by rfl) (hplain : (backTo cpos (starEach es X.env)).any (·.1) = false := by rfl) :
    PE X (.Call (.Attribute o name apos) (e :: es) [] cpos) (REE (zx X) i a (cMeth T f co cs)) := by
  refine ⟨fun pins s σ H Q I h => ?_⟩
  obtain ⟨hσ, al, m, r, v, m', R, S, ee, k⟩ := h
  obtain ⟨x, m1, e1, ee⟩ := Res.bind_eq_ok.mp ee
  split at ee
  · rename_i hk
    obtain ⟨xs, m2, e2, ee⟩ := Res.bind_eq_ok.mp ee
    refine wpAny_Call_method_late hbase hfew hline rfl (thn (ho.run pins s σ H (fun y H1 => ∃ al1, Ext al H al1 H1 ∧ Rel (zx X) al1 m1 H1 ∧ RV (zx X) al1 H1 x y) I ⟨al, m, r, x, m1, R, S, e1, fun al1 H1 y E1 R1 ry => ⟨al1, E1, R1, ry⟩⟩) fun u s1 ⟨y, H1, I1, ru, al1, E1, R1, ry⟩ => ?_)
    obtain ⟨h1, h2⟩ := kind_is I1 R1 ry ru hk
    refine ⟨T, id, pa, slot, hty, h1, h2, ?_⟩
    have hA := ha.run cpos pins s1 σ H1 (fun ys H2 => RM (zx X) f y ys H2 Q) I1 ⟨hσ, al1, m1, r, xs, m2, R1, S.mono E1, e2, fun al2 H2 ys E2 R2 rs => ⟨al2, m2, x, xs, v, m', R2, ry.mono E2, rs, ee, fun al3 H3 z E3 R3 rz => k al3 H3 z (E1.trans (E2.trans E3)) R3 rz⟩⟩
    rw [hs] at hA ⊢
    refine Calls.callWith_builtin (by show (false || (backTo cpos (starEach es X.env)).any (·.1)) = false; rw [hplain] <;> rfl) (Calls.evalArgs_plain ?_)
    exact thn hA fun us s2 ⟨vs, H2, I2, r2, q2⟩ => hm pins s2 σ H2 y vs u us Q I2 ru r2 q2
  · cases ee
theorem et_val {e : Expr} {c : CE} (h : PE X e (REE (zx X) i a c)) (he : ∀ whole, isTrue e X.env whole = (do let v ← whole; standAt e.pos; holding [v] (truthy v)) := by intro _; rfl) : PT X e (RTE (zx X) i a c) :=
  PT.imp (pt_val h he) fun _ _ _ h => ⟨h.1, rt_re h.2⟩
theorem et_not (ha : PT X e (RTE (zx X) i a ce)) : PT X (.UnaryOp .Not e pos) (RTE (zx X) i a (cNot ce)) := by
  refine PT.imp (pt_not ha) fun σ H Q h => ?_
  obtain ⟨hσ, al, m, r, v, m', R, S, e, k⟩ := h
  obtain ⟨x, m1, e1, e⟩ := Res.bind_eq_ok.mp e
  split at e
  · rename_i c
    cases e
    exact ⟨hσ, al, m, r, c, _, R, S, e1, fun al1 H1 E1 R1 => k al1 H1 E1 R1⟩
  · cases e
theorem ew_or1 (ha : PT X e (RTE (zx X) i a ce)) : PW X (.BoolOp .Or [e] pos) (RTE (zx X) i a ce) := pw_or1 ha
theorem ew_or {rest : List Expr} (ha : PT X e (RTE (zx X) i a ce)) (hb : PW X (.BoolOp .Or (b :: rest) pos) (RTE (zx X) i a cb)) : PW X (.BoolOp .Or (e :: b :: rest) pos) (RTE (zx X) i a (cOr ce cb)) := by
  refine PW.imp (pw_or ha hb) fun σ H Q h => ?_
  obtain ⟨hσ, al, m, r, v, m', R, S, e, k⟩ := h
  obtain ⟨x, m1, e1, e⟩ := Res.bind_eq_ok.mp e
  split at e
  · refine ⟨hσ, al, m, r, false, m1, R, S, e1, fun al1 H1 E1 R1 => ?_⟩
    refine if0 ?_
    exact ⟨hσ, al1, m1, r, v, m', R1, S.mono E1, e, fun al2 H2 E2 R2 => k al2 H2 (E1.trans E2) R2⟩
  · refine ⟨hσ, al, m, r, true, m1, R, S, e1, fun al1 H1 E1 R1 => ?_⟩
    refine if1 ?_
    cases e
    exact k al1 H1 E1 R1
  · cases e
/-! ### isinstance(error, y) -/
theorem call_isP {oe : Obj} {C : Addr} (hp : (a, oe) ∈ X.pn) (F : ExcC X.K C) (hz : Zc (.ref C) none oe) (hf : ∃ vs, oe.data = .fields vs) : CallR X (.builtin "isinstance") (rIsE X.K C a) := by
  intro pins s σ H xs us Q I r h
  obtain ⟨c, cv, b, rfl, hcv, e, q⟩ := h
  cases r with
  | cons rx rr =>
    cases rr with
    | cons rt rr =>
      cases rr
      cases rx
      have ec := hcv _ rt
      subst ec
      obtain ⟨hget, _⟩ := I.pin (a, oe) (List.mem_append.mpr (.inl hp))
      obtain ⟨vs, hv⟩ := hf
      have J : PySem.W.InstAt s.heap a oe C none := by
        obtain ⟨oc, od, oda, osl⟩ := oe
        obtain ⟨h1, h2⟩ := hz
        dsimp only at h1 h2 hv
        subst h1 h2 hv
        exact ⟨hget, rfl, rfl, trivial⟩
      exact PySem.W.kia_one (PySem.W.handS_kitx_exc F.hg F.hk F.hs F.hd F.ha F.hn F.ht F.hm) I.kIn J e (fun z => nomatch z) fun tk => ⟨.bl b, H, I.kept (t' := tk) fun _ _ z => z, rfl, q⟩
theorem ee_is {x y n c : Str} {asks : List Str} {C : Addr} {oe : Obj} {p1 p2 p3 p4 : Pos} (hp : (a, oe) ∈ X.pn) (T : ExcOk X.K X.mg x asks c) (hC : X.mg c = some (.ref C)) (hz : Zc (.ref C) none oe) (hd : ∃ vs, oe.data = .fields vs) (hy : y ∈ asks)
    (hN : X.N[i]? = some n) (hv : Vis X.env.scope n) (hgi : Gl X "isinstance") (hmi : X.mg "isinstance" = none) (hgy : Gl X y)
    (hdn : (n == ("__debug__" : Str)) = false := by decide) (hcn : (n == ("__classdict__" : Str)) = false := by decide) (hdy : (y == ("__debug__" : Str)) = false := by decide)
    (hs : starEach [.Name n p2, .Name y p3] X.env = (false, eval (.Name n p2) X.env) :: starEach [.Name y p3] X.env := by rfl) (hpl : (backTo p4 (starEach [.Name y p3] X.env)).any (·.1) = false := by rfl) (hs2 : starEach [.Name y p3] X.env = (false, eval (.Name y p3) X.env) :: starEach [] X.env := by rfl) :
    PE X (.Call (.Name "isinstance" p1) [.Name n p2, .Name y p3] [] p4) (REE (zx X) i a (cK (.bl (decide (c = y))))) := by
  obtain ⟨C', D', g1, g2, _, _, _, _, g6, _, g7⟩ := T.ex
  rw [hC] at g1
  cases g1
  obtain ⟨B, hB1, hB2⟩ := g7 y hy
  refine PE.imp (pe_callB (call_isP hp g6 hz hd) hgi hmi (by decide +kernel) (pa_cons (pe_var (i := i) hN hv hdn hcn) (pa_cons (pe_glob (v := .ref B) hgy hB1 rfl hdy) pa_nil hs2) hs) (by decide) (by decide) hs hpl) fun σ H Q h => ?_
  obtain ⟨hσ, al, m, r, v, m', R, S, ee, kk⟩ := h
  cases ee
  exact ⟨.ref a, hσ, .ref B, .ref B, decide (c = y), rfl, fun u hu => hu, hB2, kk al H _ Ext.refl R (.bl _)⟩
theorem ee_isV {x n c : Str} {asks : List Str} {C : Addr} {oe : Obj} {p1 p2 p3 p4 : Pos} (hp : (a, oe) ∈ X.pn) (T : ExcOk X.K X.mg x asks c) (Ve : ExcV X.K X.mg c) (hC : X.mg c = some (.ref C)) (hz : Zc (.ref C) none oe) (hd : ∃ vs, oe.data = .fields vs)
    (hN : X.N[i]? = some n) (hv : Vis X.env.scope n) (hgi : Gl X "isinstance") (hmi : X.mg "isinstance" = none) (hgy : Gl X "ValueError") (hmy : X.mg "ValueError" = none)
    (hdn : (n == ("__debug__" : Str)) = false := by decide) (hcn : (n == ("__classdict__" : Str)) = false := by decide)
    (hs : starEach [.Name n p2, .Name "ValueError" p3] X.env = (false, eval (.Name n p2) X.env) :: starEach [.Name "ValueError" p3] X.env := by rfl) (hpl : (backTo p4 (starEach [.Name "ValueError" p3] X.env)).any (·.1) = false := by rfl) (hs2 : starEach [.Name "ValueError" p3] X.env = (false, eval (.Name "ValueError" p3) X.env) :: starEach [] X.env := by rfl) :
    PE X (.Call (.Name "isinstance" p1) [.Name n p2, .Name "ValueError" p3] [] p4) (REE (zx X) i a (cK (.bl true))) := by
  obtain ⟨C', D', g1, g2, _, _, _, _, g6, _, g7⟩ := T.ex
  rw [hC] at g1
  cases g1
  obtain ⟨C2, k1, k2⟩ := Ve.ex
  rw [hC] at k1
  cases k1
  refine PE.imp (pe_callB (call_isP hp g6 hz hd) hgi hmi (by decide +kernel) (pa_cons (pe_var (i := i) hN hv hdn hcn) (pa_cons (pe_bltn (v := .ty "ValueError") hgy hmy (by decide +kernel) rfl (by decide) (by decide)) pa_nil hs2) hs) (by decide) (by decide) hs hpl) fun σ H Q h => ?_
  obtain ⟨hσ, al, m, r, v, m', R, S, ee, kk⟩ := h
  cases ee
  exact ⟨.ref a, hσ, .ty "ValueError", .type "ValueError", true, rfl, fun u hu => hu, k2, kk al H _ Ext.refl R (.bl _)⟩
/-! ### statements -/
theorem se_set {j : Nat} {y : Str} {pos' : Pos} (hij : j ≠ i) (hN : X.N.Nodup) (hi : X.N[j]? = some y) (hx : Loc X.env.scope y) (he : PE X e (REE (zx X) i a ce)) (hs : swapsWith e (some (.Name y pos')) pos.line X.env = pure false := by rfl) (hf : X.fn y = true ∨ X.env.scope.names.lookup y = some .local := by first | exact .inl rfl | exact .inr rfl | assumption) :
    PS X (.Assign [.Name y pos'] e pos) (RSE (zx X) i a (sAsg ce (gNm j))) := by
  refine PS.imp (ps_set hN hi hx he hs hf) fun D σ H h => ?_
  obtain ⟨hσ, al, m, r, f, m', R, S, ee, k⟩ := h
  obtain ⟨v, m1, e1, ee⟩ := Res.bind_eq_ok.mp ee
  obtain ⟨r1, m2, e2, ee⟩ := Res.bind_eq_ok.mp ee
  cases e2
  cases ee
  exact ⟨hσ, al, m, r, v, _, R, S, e1, fun al1 H1 x E1 R1 rx => k al1 H1 E1 R1 _ List.length_set ((S.mono E1).set rx j) (by rw [List.getElem?_set_ne hij]; exact hσ)⟩
theorem se_expr (h : PE X e (REE (zx X) i a ce)) (hs : swapsWith e none pos.line X.env = pure false := by rfl) : PS X (.Expr e pos) (RSE (zx X) i a (sExpr ce)) := by
  refine PS.imp (ps_expr h hs) fun D σ H h => ?_
  obtain ⟨hσ, al, m, r, f, m', R, S, ee, k⟩ := h
  obtain ⟨v, m1, e1, ee⟩ := Res.bind_eq_ok.mp ee
  cases ee
  exact ⟨hσ, al, m, r, v, _, R, S, e1, fun al1 H1 x E1 R1 rx => k al1 H1 E1 R1 σ rfl (S.mono E1) hσ⟩
theorem se_ret (h : PE X e (REE (zx X) i a ce)) : PS X (.Return (some e) pos) (RSE (zx X) i a (sRet ce)) := by
  refine PS.imp (ps_ret h) fun D σ H h => ?_
  obtain ⟨hσ, al, m, r, f, m', R, S, ee, k⟩ := h
  obtain ⟨v, m1, e1, ee⟩ := Res.bind_eq_ok.mp ee
  cases ee
  exact ⟨hσ, al, m, r, v, _, R, S, e1, fun al1 H1 x E1 R1 rx => k al1 H1 E1 R1 x rx⟩
theorem se_nil : PSs X [] (RSE (zx X) i a sNx) := by
  refine PSs.imp pss_nil fun D σ H h => ?_
  obtain ⟨hσ, al, m, r, f, m', R, S, ee, k⟩ := h
  cases ee
  exact k al H Ext.refl R σ rfl S hσ
theorem se_one {st : Stmt} {c : CS} (h : PS X st (RSE (zx X) i a c)) : PSs X [st] (RSE (zx X) i a c) := pss_one h
theorem se_cons {st : Stmt} {rest : List Stmt} {ca cb : CS} (h1 : PS X st (RSE (zx X) i a ca)) (h2 : PSs X rest (RSE (zx X) i a cb)) : PSs X (st :: rest) (RSE (zx X) i a (sSeq ca cb)) := by
  refine PSs.imp (pss_cons h1 h2) fun D σ H h => ?_
  obtain ⟨hσ, al, m, r, f, m', R, S, e, k⟩ := h
  obtain ⟨g, m1, e1, e⟩ := Res.bind_eq_ok.mp e
  refine ⟨hσ, al, m, r, g, m1, R, S, e1, ?_⟩
  intro al1 H1 E1 R1
  cases g with
  | nx r1 => exact fun σ1 hl S1 h1 => ⟨h1, al1, m1, r1, f, m', R1, S1, e, k.mono E1 hl⟩
  | bk r1 => cases e; exact k al1 H1 E1 R1
  | ct r1 => cases e; exact k al1 H1 E1 R1
  | rt v => cases e; exact k al1 H1 E1 R1
theorem se_if {body orelse : List Stmt} {sa sb : CS} (hc : PT X t (RTE (zx X) i a cc)) (ha : PSs X body (RSE (zx X) i a sa)) (hb : PSs X orelse (RSE (zx X) i a sb)) : PS X (.If t body orelse pos) (RSE (zx X) i a (sIf cc sa sb)) := by
  refine PS.imp (ps_if hc ha hb) fun D σ H h => ?_
  obtain ⟨hσ, al, m, r, f, m', R, S, e, k⟩ := h
  obtain ⟨x, m1, e1, e⟩ := Res.bind_eq_ok.mp e
  split at e
  · refine ⟨hσ, al, m, r, true, m1, R, S, e1, fun al1 H1 E1 R1 => ?_⟩
    exact if1 ⟨hσ, al1, m1, r, f, m', R1, S.mono E1, e, k.mono E1 rfl⟩
  · refine ⟨hσ, al, m, r, false, m1, R, S, e1, fun al1 H1 E1 R1 => ?_⟩
    exact if0 ⟨hσ, al1, m1, r, f, m', R1, S.mono E1, e, k.mono E1 rfl⟩
  · cases e
end
/-! ### the def, its call in the suite -/
structure FW (P : Program) (w : World) (K : PySem.W.Frag) (mg : Str → Option Value) (base : Heap) (j : Nat) (x dn : Str) (asks : List Str) (g : Str → BL) : Prop where
  ex : ∃ (f : Addr) (fd : FuncData) (ps : List Str), mg x = some (.ref f) ∧ PySem.W.keepIn K (.ref f) = true ∧ Binds K fd ps [] ∧ ps.length = 1 ∧
    ∀ (c : Str) (C a : Addr) (oe : Obj), ExcOk K mg dn asks c → ExcV K mg c → mg c = some (.ref C) → Zc (.ref C) none oe → (∃ vs, oe.data = .fields vs) →
      ∀ (A : Around) (outer : List Env) (s : Shared) (H : Hp) (args : Args) (us : List Value) (Q : VK) (al : Al) (m : MH) (v : MV) (m' : MH), L2H.RoomH j A → L2H.PinOk outer H s (a, oe) → Env0 P w K mg base A outer s H → BindsTo s fd args (ps.zip us) → Vals [.ref a] us →
        Rel ⟨P, w, K, mg⟩ al m H → g c [] m = .ok v m' → KV1 ⟨P, w, K, mg⟩ al H v m' Q → codeAny (model P w) A (.call (.ref f) args) (CR CX0 outer P w H s Q E0) s
theorem fnw_ok {P : Program} {w : World} {K : PySem.W.Frag} {mg : Str → Option Value} {base : Heap} {x qual dn n0 : Str} {asks : List Str} {st : Stmt} {f : Addr} {fd : FuncData} {N : List Str} {k n : Nat} {body : Str → CS} (F : FnP K x qual st f fd) (S : FnScope N [n0] (defScope st)) (hn : N.length = n) (hm : mg x = some (.ref f)) (hk : PySem.W.keepIn K (.ref f) = true) (hbi : Binds K fd [n0] [])
    (hb : ∀ (c : Str) (C a : Addr) (oe : Obj), ExcOk K mg dn asks c → ExcV K mg c → mg c = some (.ref C) → Zc (.ref C) none oe → (∃ vs, oe.data = .fields vs) → ∀ (cdv : Value) (A : Around) (outer : List Env) (s : Shared) (H : Hp), L2H.RoomH k (A.deeper (envOfC qual (defScope st) s.heap.objs.size f cdv)) →
      PSs (L2H.cxH CX0 P w K mg base N qual (defScope st) f cdv A outer s H E0 (a, oe)).nox (defBody st) (RSE ⟨P, w, K, mg⟩ 0 a (body c))) :
    FW P w K mg base (k + 1) x dn asks fun c => runE n (body c) := by
  obtain ⟨oc, od, dV, kV, doc, pm, an, cdv, ct, osl, rfl, lk, hcd, _, _⟩ := F.ex
  refine ⟨f, _, [n0], hm, hk, hbi, rfl, fun c C a oe T Ve hC hz hd A outer s H args us Q al m v m' hr hpin e0 hbt r R hg kk => ?_⟩
  have KX : K.In s.heap := e0.mod.kin.keeps fun b o e => (e0.bs b o e).1
  have lim : s.heap.NoLimit := e0.mod.nolimit.keeps fun b o e => (e0.bs b o e).1
  have hkind : ∀ y ∈ [n0].zip us, (defScope st).names.lookup y.1 = some .local ∨ ((defScope st).names.lookup y.1 = some .cell ∧ ((cellsFrom (s.heap.objs.size + 1) (defScope st).names []).lookup y.1).isSome = true) := fun ⟨n, v⟩ hy => by
    rcases S.par n (List.of_mem_zip hy).1 with q | q
    · exact .inl q
    · exact .inr ⟨q, PySem.W.cellsFrom_some _ _ _ (.inl q)⟩
  refine codeAny_call_function hr.depth (KX _ _ lk) rfl S.co S.gen rfl (PySem.W.codeRec_of KX hcd) (hbt _ _ _ _ ?_)
  refine wpAny_newFunctionEnv_cells S.kind hkind fun env he s1 x => ?_
  subst he
  refine ⟨lim.keeps x.toInCall.keep, codeAny_func ?_⟩
  have ht := PSs.nox (hb c C a oe T Ve hC hz hd cdv A outer s H (hr.deeper _))
  have I : Inv (L2H.cxH CX0 P w K mg base N qual (defScope st) f cdv A outer s H E0 (a, oe)) [] (L2.start N [.ref a]) H s1 := L2H.inv_startH S hpin e0 rfl r x
  obtain ⟨fl, m1, e1, e2⟩ := Res.bind_eq_ok.mp hg
  have hlen : 1 ≤ N.length := by
    have := congrArg List.length S.pre
    rw [List.length_take] at this
    simp at this
    omega
  have hσ : (L2.start N [V.ref a])[0]? = some (some (.ref a)) := rfl
  have S0 : RSl ⟨P, w, K, mg⟩ al H (List.replicate n none) (L2.start N [.ref a]) := by
    refine ⟨by unfold L2.start; simp; omega, fun i v e => ?_⟩
    rw [List.getElem?_replicate] at e
    split at e <;> cases e
  have D : RSE ⟨P, w, K, mg⟩ 0 a (body c) { nx := fun _ H' => Q .non H', rt := Q } (L2.start N [.ref a]) H := by
    refine ⟨hσ, al, m, List.replicate n none, fl, m1, R, S0, e1, ?_⟩
    intro al1 H1 E1 R1
    cases fl with
    | rt y => cases e2; exact fun z rz => kk al1 H1 z E1 R1 rz
    | nx r => cases e2
    | bk r => cases e2
    | ct r => cases e2
  refine wpAny_mono (ht.run [] s1 (L2.start N [.ref a]) H _ I D) (fun fl s' hs => ?_) fun e s' hs => hs
  have fin : ∀ {σ' : L2.St} {H' : Hp} {v : V} {u : Value}, Inv (L2H.cxH CX0 P w K mg base N qual (defScope st) f cdv A outer s H E0 (a, oe)) [] σ' H' s' → RelV v u → Q v H' → L2.CE outer P w H s Q u s' :=
    fun {σ' H' v u} J rv q => ⟨v, H', J.os, J.bare, J.base, J.hok, rv, q⟩
  cases fl with
  | ret u =>
    obtain ⟨v, σ', H', J, rv, q⟩ := hs
    exact fin J rv q
  | next =>
    obtain ⟨σ', H', J, q⟩ := hs
    exact fin (v := V.non) (u := Value.none) J rfl q
  | brk =>
    obtain ⟨_, _, _, q⟩ := hs
    exact False.elim q
  | cont =>
    obtain ⟨_, _, _, q⟩ := hs
    exact False.elim q
theorem pe_which {X : Cx} {x n c dn : Str} {i j : Nat} {asks : List Str} {C a : Addr} {oe : Obj} {pn : List (Addr × Obj)} {g : Str → BL} {p1 p2 pos : Pos} (F : FW X.prog X.w X.K X.mg X.base j x dn asks g) (hr : Room j X.A) (T : ExcOk X.K X.mg dn asks c) (Ve : ExcV X.K X.mg c) (hC : X.mg c = some (.ref C)) (hz : Zc (.ref C) none oe) (hd : ∃ vs, oe.data = .fields vs)
    (hN : X.N[i]? = some n) (hv : Vis X.env.scope n) (hg : Gl X x) (hdn : (n == ("__debug__" : Str)) = false := by decide) (hcn : (n == ("__classdict__" : Str)) = false := by decide) (hdb : (x == ("__debug__" : Str)) = false := by decide)
    (he : starEach [.Name n p2] X.env = (false, eval (.Name n p2) X.env) :: starEach [] X.env := by rfl) (hpl : (backTo pos (starEach [] X.env)).any (·.1) = false := by rfl) :
    PE (X.nox.suite a ((a, oe) :: pn)) (.Call (.Name x p1) [.Name n p2] [] pos) (fun σ H Q => σ[i]? = some (some (.ref a)) ∧ RE (zx X) (cOf (g c)) σ H Q) := by
  obtain ⟨f, fd, ps, h1, h2, h3, h4, h5⟩ := F.ex
  refine ⟨fun pins s σ H Q I h => ?_⟩
  obtain ⟨hσ, al, m, r, v, m', R, S, ee, kk⟩ := h
  refine wpAny_Call_Name_kw (ld_glob I hg h1 ?_ hdb)
  have ha : PA (X.nox.suite a ((a, oe) :: pn)) [.Name n p2] (tCons (tVar i) tNil) := pa_cons (pe_var (i := i) hN hv hdn hcn) pa_nil he
  refine PySem.W.callWith_K (h₀ := X.base) I.ok.mod.kin h2 (thn (ha.run pos pins s σ H (fun vs H1 => vs = [V.ref a] ∧ H = H1) I ⟨.ref a, hσ, rfl, rfl⟩) fun us s1 hh => ?_) he hpl
  obtain ⟨vs, H1, I1, r1, ev, eH⟩ := hh
  subst ev
  rw [← eH] at I1
  refine ⟨I1.kIn, ?_⟩
  have b := h3 s1 us I1.kIn (by rw [List.append_nil, ← r1.length]; simp [h4])
  rw [List.append_nil] at b
  have P1 := I1.pin (a, oe) (List.mem_append_left _ List.mem_cons_self)
  have hpin : L2H.PinOk X.stack H s1 (a, oe) := ⟨P1.1, P1.2.1, fun hm => (List.mem_cons.mp (I1.stkSub a hm)).elim P1.2.2.1 P1.2.2.2.1, P1.2.2.2.2⟩
  refine wpAny_call (codeAny_mono (h5 c C a oe T Ve hC hz hd (X.nox.suite a ((a, oe) :: pn)).A X.stack s1 H ⟨us, []⟩ us Q al m v m' ⟨hr.dp, hr.un⟩ hpin I1.env0 b r1 R ee kk) fun r s' hq => ?_)
  cases r with
  | error e => exact hq.elim
  | ok fl =>
    cases fl with
    | ret u => exact I1.after hq
    | next => exact False.elim hq
    | brk => exact False.elim hq
    | cont => exact False.elim hq
def excVB (c : Str) (K : PySem.W.Frag) : Bool := (He.Fa.glo c).ok K && decide (PySem.W.kitOne K (.ref (He.ga K c)) (.type "ValueError") = some true)
theorem excVB_ok {K : PySem.W.Frag} {h : Heap} {mg : Str → Option Value} {c : Str} (X : K.In h) (G : h.Ns mainGlobals mg) (e : excVB c K = true) : ExcV K mg c := by
  simp only [excVB, Bool.and_eq_true] at e
  exact ⟨_, He.glo_ok X G e.1, of_decide_eq_true e.2⟩
end Co

namespace Co
open PySem
/-- text * number -/
def oMulS : B2 := fun a b m => match a, b with
  | .str x, .int k => if decide (x.length ≤ 1000) && (decide (0 ≤ k) && decide (k ≤ 1000)) then .ok (.str (Txt.mul x k)) m else .bad
  | _, _ => .bad
end Co

namespace Co
open PySem PySem.Spec PyProof PyProof.Rows L2
section
variable {X : Cx}
theorem co_mulS : OpR X (binaryOp .Mult) (RB (zx X) oMulS) := by
  intro pins s σ H x y v u Q I rx ry h
  obtain ⟨al, m, a, b, w, m', R, ra, rb, e, k⟩ := h
  unfold oMulS at e
  split at e
  · rename_i z n
    split at e
    · rename_i hk
      simp only [Bool.and_eq_true, decide_eq_true_eq] at hk
      cases e
      obtain rfl := rv_str ra
      obtain rfl := rv_int rb
      obtain ⟨t, rfl⟩ := rx
      obtain ⟨t', rfl⟩ := ry
      exact SB.mul (mulOk_of (x := z) (n := n) 1000 1000 (by omega) (by omega) (by omega) (by decide) (by decide)) fun t' tk => ⟨.str (Txt.mul z n), H, I.tok _, ⟨_, rfl⟩, k al H _ Ext.refl R (.str _)⟩
    · cases e
  · cases e
end
end Co

namespace Lw
open PySem Co
def b_law_draw : CS :=
  (sSeq (sIf (cBin oGt (cBin oIx (cVar 1) (cK (.int 1))) (cK (.int 0))) (sSeq (sAsg (cBin oMod (cBin oIx (cVar 1) (cK (.int 1))) (cVar 2)) (gNm 5)) (sSeq (sAsg (cBin oDiv (cBin oIx (cVar 1) (cK (.int 1))) (cVar 2)) (Co.gSub (cVar 1) (cK (.int 1)) oSet)) (sRet (cVar 5)))) sNx) (sSeq (sAsg (cBin oIx (cVar 1) (cK (.int 0))) (gNm 3)) (sSeq (sAugS oGet oAddI oSet (cVar 1) (cK (.int 0)) (cK (.int 1))) (sSeq (sIf (cBin oEq (cVar 0) (cLst aNil)) (sRet (cBin oMod (cVar 3) (cVar 2))) sNx) (sSeq (sIf (cAnd (cBin oLt (cVar 3) (cCall bLen (aCons (cVar 0) aNil))) (cBin oGe (cBin oIx (cVar 0) (cVar 3)) (cBin oPow (cK (.int 10)) (cK (.int 18))))) (sSeq (sAsg (cBin oMod (cBin oDiv (cBin oIx (cVar 0) (cVar 3)) (cVar 2)) (cBin oMul (cBin oPow (cK (.int 10)) (cK (.int 60))) (cBin oPow (cK (.int 10)) (cK (.int 60))))) (Co.gSub (cVar 1) (cK (.int 1)) oSet)) (sRet (cBin oMod (cBin oIx (cVar 0) (cVar 3)) (cVar 2)))) sNx) (sSeq (sAsg (cBin oMod (cBin oAdd (cBin oAdd (cBin oMul (cBin oIx (cVar 0) (cBin oMod (cVar 3) (cCall bLen (aCons (cVar 0) aNil)))) (cK (.int 1103515245))) (cBin oMul (cK (.int 7919)) (cVar 3))) (cK (.int 12345))) (cK (.int 2147483647))) (gNm 4)) (sRet (cBin oMod (cBin oMod (cBin oMod (cBin oPow (cVar 4) (cK (.int 5))) (cK (.int 2147483647))) (cK (.int 999983))) (cVar 2)))))))))
def f_law_draw : BL := runB 6 b_law_draw
def lb_law_comings_1 : CS :=
  (sSeq (sAsg (cCall f_law_draw (aCons (cVar 0) (aCons (cVar 1) (aCons (cK (.int 3)) aNil)))) (gNm 6)) (sExpr (cMeth "list" mAppend (cVar 5) (aCons (cIte (cOr (cBin oLt (cVar 4) (cK (.int 1))) (cBin oGt (cVar 6) (cK (.int 0)))) (cVar 6) (cCall f_law_draw (aCons (cVar 0) (aCons (cVar 1) (aCons (cK (.int 3)) aNil))))) aNil))))
def b_law_comings : CS :=
  (sSeq (sPar2 4 5 (aCons (cCall f_law_draw (aCons (cVar 0) (aCons (cVar 1) (aCons (cK (.int 3)) aNil)))) (aCons (cLst aNil) aNil))) (sSeq (sFor (iRange (aCons (cCall f_law_draw (aCons (cVar 0) (aCons (cVar 1) (aCons (cBin oAdd (cVar 2) (cK (.int 1))) aNil)))) aNil)) (gNm 3) lb_law_comings_1) (sRet (cVar 5))))
def f_law_comings : BL := runB 7 b_law_comings
def b_law_begin : CS :=
  (sRet (cTup (aCons (cLst aNil) (aCons (cLst aNil) (aCons (cK (.int 0)) (aCons (cK (.int 0)) aNil))))))
def f_law_begin : BL := runB 0 b_law_begin
def cp_law_named_1 : CE :=
  cComp (iSeq (cVar 1)) [10] (gNm 10) cTrue (cBin oIx (cVar 10) (cK (.int 0)))
def cp_law_named_2 : CE :=
  cComp (iSeq (cVar 5)) [10] (gNm 10) (cBin oEq (cBin oIx (cVar 10) (cK (.int 0))) (cK (.int 2))) (cVar 10)
def b_law_named : CS :=
  (sSeq (sAsg (cVar 2) (gUnp 3 (Co.gCons (gNm 5) (Co.gCons (gNm 6) (Co.gCons (gNm 7) Co.gNil))))) (sSeq (sAsg cp_law_named_1 (gNm 3)) (sSeq (sIf (cBin oEq (cVar 3) (cLst aNil)) (sRet (cK .non)) sNx) (sSeq (sPar2 8 9 (aCons (cBin oIx (cVar 3) (cK (.int 0))) (aCons (cBin oIx (cVar 0) (cK (.int 0))) aNil))) (sSeq (sIf (cAnd (cBin oIn (cK (.int 1)) (cVar 3)) (cAnd (cBin oIn (cK (.int 2)) (cVar 3)) (cBin oNe (cVar 9) (cK (.str "line"))))) (sSeq (sAsg (cIte (cOr (cBin oEq (cVar 9) (cK (.str "one"))) (cAnd (cBin oEq (cVar 9) (cK (.str "turns"))) (cBin oEq (cVar 6) (cK (.int 1))))) (cK (.int 2)) (cK (.int 1))) (gNm 8)) (sSeq (sIf (cAnd (cBin oEq (cVar 9) (cK (.str "bound"))) (cBin oGe (cVar 7) (cBin oIx (cVar 0) (cK (.int 1))))) (sAsg (cK (.int 2)) (gNm 8)) sNx) (sIf (cAnd (cBin oEq (cVar 9) (cK (.str "patience"))) (cBin oGe (cBin oIx (cBin oIx (cVar 1) (cMeth "list" mIdxL (cVar 3) (aCons (cK (.int 2)) aNil))) (cK (.int 1))) (cBin oIx (cVar 0) (cK (.int 1))))) (sAsg (cK (.int 2)) (gNm 8)) sNx))) sNx) (sSeq (sAsg cp_law_named_2 (gNm 4)) (sSeq (sIf (cOr (cAnd (cBin oEq (cVar 8) (cK (.int 2))) (cBin oNe (cVar 5) (cLst aNil))) (cBin oNe (cVar 4) (cLst aNil))) (sRet (cK .non)) sNx) (sRet (cMeth "list" mIdxL (cVar 3) (aCons (cVar 8) aNil))))))))))
def f_law_named : BL := runB 11 b_law_named
def cp_law_tick_1 : CE :=
  cComp (iSeq (cBin oIx (cVar 2) (cK (.int 1)))) [13] (gNm 13) cTrue (cCall bList (aCons (cVar 13) aNil))
def cp_law_tick_2 : CE :=
  cComp (iSeq (cBin oIx (cVar 2) (cK (.int 0)))) [13] (gNm 13) cTrue (cCall bList (aCons (cVar 13) aNil))
def cp_law_tick_3 : CE :=
  cComp (iSeq (cVar 7)) [13] (gNm 13) cTrue (cSlice (cVar 13) none (some (cK (.int 1))))
def cp_law_tick_4 : CE :=
  cComp (iSeq (cVar 7)) [13] (gNm 13) cTrue (cSlice (cVar 13) none (some (cK (.int 1))))
def lc_law_tick_1 : CE :=
  (cBin oIsNot (cVar 4) (cK .non))
def lb_law_tick_1 : CS :=
  (sSeq (sAsg (cBin oIx (cBin oIx (cVar 7) (cVar 4)) (cK (.int 0))) (gNm 12)) (sSeq (sAsg (cBin oAdd (cSlice (cVar 7) none (some (cVar 4))) (cSlice (cVar 7) (some (cBin oAdd (cVar 4) (cK (.int 1)))) none)) (gNm 7)) (sSeq (sAsg (cIte (cAnd (cBin oEq (cVar 12) (cK (.int 1))) (cBin oIn (cLst (aCons (cK (.int 2)) aNil)) cp_law_tick_4)) (cBin oAdd (cVar 9) (cK (.int 1))) (cK (.int 0))) (gNm 9)) (sSeq (sExpr (cMeth "list" mAppend (cVar 6) (aCons (cLst (aCons (cVar 12) (aCons (cBin oIx (cVar 0) (cVar 12)) aNil))) aNil))) (sSeq (sAsg (cVar 12) (gNm 8)) (sSeq (sExpr (cMeth "list" mAppend (cVar 11) (aCons (cVar 12) aNil))) (sAsg (cCall f_law_named (aCons (cVar 1) (aCons (cVar 7) (aCons (cTup (aCons (cVar 6) (aCons (cVar 8) (aCons (cVar 9) aNil)))) aNil)))) (gNm 4))))))))
def cp_law_tick_5 : CE :=
  cComp (iSeq (cVar 6)) [13] (gNm 13) (cBin oEq (cBin oIx (cVar 13) (cK (.int 0))) (cK (.int 2))) (cVar 13)
def cp_law_tick_6 : CE :=
  cComp (iSeq (cVar 6)) [13] (gNm 13) (cBin oEq (cBin oIx (cVar 13) (cK (.int 0))) (cK (.int 1))) (cVar 13)
def cp_law_tick_7 : CE :=
  cComp (iSeq (cVar 6)) [12, 14] (gUnp 2 (Co.gCons (gNm 12) (Co.gCons (gNm 14) Co.gNil))) (cBin oGt (cVar 14) (cK (.int 1))) (cLst (aCons (cVar 12) (aCons (cBin oSub (cVar 14) (cK (.int 1))) aNil)))
def cp_law_tick_8 : CE :=
  cComp (iSeq (cVar 7)) [12, 15] (gUnp 2 (Co.gCons (gNm 12) (Co.gCons (gNm 15) Co.gNil))) cTrue (cLst (aCons (cVar 12) (aCons (cBin oAdd (cVar 15) (cK (.int 1))) aNil)))
def b_law_tick : CS :=
  (sSeq (sPar2 7 6 (aCons cp_law_tick_2 (aCons cp_law_tick_1 aNil))) (sSeq (sAsg (cTup (aCons (cBin oIx (cVar 2) (cK (.int 2))) (aCons (cBin oIx (cVar 2) (cK (.int 3))) (aCons (cK (.bl false)) (aCons (cLst aNil) aNil))))) (gUnp 4 (Co.gCons (gNm 8) (Co.gCons (gNm 9) (Co.gCons (gNm 10) (Co.gCons (gNm 11) Co.gNil)))))) (sSeq (sIf (cBin oGt (cVar 3) (cK (.int 0))) (sSeq (sAsg (cBin oEq (cCall bLen (aCons (cVar 7) aNil)) (cBin oIx (cVar 0) (cK (.int 0)))) (gNm 10)) (sIf (cNot (cVar 10)) (sSeq (sAsg (cIte (cAnd (cBin oEq (cVar 3) (cK (.int 2))) (cBin oNotIn (cLst (aCons (cK (.int 2)) aNil)) cp_law_tick_3)) (cK (.int 0)) (cVar 9)) (gNm 9)) (sExpr (cMeth "list" mAppend (cVar 7) (aCons (cLst (aCons (cVar 3) (aCons (cK (.int 0)) aNil))) aNil)))) sNx)) sNx) (sSeq (sAsg (cCall f_law_named (aCons (cVar 1) (aCons (cVar 7) (aCons (cTup (aCons (cVar 6) (aCons (cVar 8) (aCons (cVar 9) aNil)))) aNil)))) (gNm 4)) (sSeq (sWhile lc_law_tick_1 lb_law_tick_1) (sSeq (sAsg (cTup (aCons (cCall bLen (aCons cp_law_tick_6 aNil)) (aCons (cCall bLen (aCons cp_law_tick_5 aNil)) aNil))) (gNm 5)) (sSeq (sAsg cp_law_tick_7 (gNm 6)) (sSeq (sAsg cp_law_tick_8 (gNm 7)) (sRet (cTup (aCons (cTup (aCons (cVar 7) (aCons (cVar 6) (aCons (cVar 8) (aCons (cVar 9) aNil))))) (aCons (cTup (aCons (cMeth "list" mCntL (cVar 11) (aCons (cK (.int 1)) aNil)) (aCons (cMeth "list" mCntL (cVar 11) (aCons (cK (.int 2)) aNil)) (aCons (cVar 10) aNil)))) (aCons (cVar 5) aNil)))))))))))))
def f_law_tick : BL := runB 16 b_law_tick
def lb_law_play_1 : CS :=
  (sSeq (sAsg (cCall f_law_tick (aCons (cVar 0) (aCons (cVar 1) (aCons (cVar 4) (aCons (cVar 3) aNil))))) (gUnp 3 (Co.gCons (gNm 4) (Co.gCons (gNm 6) (Co.gCons (gNm 7) Co.gNil))))) (sExpr (cMeth "list" mAppend (cVar 5) (aCons (cTup (aCons (cVar 4) (aCons (cVar 6) (aCons (cVar 7) aNil)))) aNil))))
def b_law_play : CS :=
  (sSeq (sPar2 4 5 (aCons (cCall f_law_begin aNil) (aCons (cLst aNil) aNil))) (sSeq (sFor (iSeq (cVar 2)) (gNm 3) lb_law_play_1) (sRet (cVar 5))))
def f_law_play : BL := runB 8 b_law_play
def b_law_setting : CS :=
  (sRet (cTup (aCons (cBin oAdd (cK (.int 2)) (cCall f_law_draw (aCons (cVar 0) (aCons (cVar 1) (aCons (cK (.int 2)) aNil))))) (aCons (cBin oAdd (cK (.int 2)) (cCall f_law_draw (aCons (cVar 0) (aCons (cVar 1) (aCons (cK (.int 2)) aNil))))) (aCons (cBin oAdd (cK (.int 1)) (cCall f_law_draw (aCons (cVar 0) (aCons (cVar 1) (aCons (cK (.int 3)) aNil))))) aNil)))))
def f_law_setting : BL := runB 2 b_law_setting
def b_law_pick : CS :=
  (sRet (cBin oIx (cVar 2) (cCall f_law_draw (aCons (cVar 0) (aCons (cVar 1) (aCons (cCall bLen (aCons (cVar 2) aNil)) aNil))))))
def f_law_pick : BL := runB 3 b_law_pick
def b_law_rule : CS :=
  (sSeq (sAsg (cCall f_law_pick (aCons (cVar 0) (aCons (cVar 1) (aCons (cLst (aCons (cK (.str "line")) (aCons (cK (.str "many")) (aCons (cK (.str "one")) (aCons (cK (.str "turns")) (aCons (cK (.str "bound")) (aCons (cK (.str "patience")) aNil))))))) aNil)))) (gNm 2)) (sRet (cIte (cBin oIn (cVar 2) (cTup (aCons (cK (.str "bound")) (aCons (cK (.str "patience")) aNil)))) (cTup (aCons (cVar 2) (aCons (cBin oAdd (cK (.int 1)) (cCall f_law_draw (aCons (cVar 0) (aCons (cVar 1) (aCons (cK (.int 3)) aNil))))) aNil))) (cTup (aCons (cVar 2) aNil)))))
def f_law_rule : BL := runB 3 b_law_rule
def b_is_int : CS :=
  (sRet (cAnd (cUn (oIsi "int") (cVar 0)) (cAnd (cNot (cUn (oIsi "bool") (cVar 0))) (cChain oLe oLe (cVar 1) (cVar 0) (cVar 2)))))
def f_is_int : BL := runB 3 b_is_int
def b_is_setting : CS :=
  (sSeq (sIf (cOr (cNot (cUn (oIsi "tuple") (cVar 0))) (cBin oNe (cCall bLen (aCons (cVar 0) aNil)) (cK (.int 3)))) (sRet (cK (.bl false))) sNx) (sRet (cAnd (cCall f_is_int (aCons (cBin oIx (cVar 0) (cK (.int 0))) (aCons (cK (.int 2)) (aCons (cK (.int 3)) aNil)))) (cAnd (cCall f_is_int (aCons (cBin oIx (cVar 0) (cK (.int 1))) (aCons (cK (.int 2)) (aCons (cK (.int 3)) aNil)))) (cCall f_is_int (aCons (cBin oIx (cVar 0) (cK (.int 2))) (aCons (cK (.int 1)) (aCons (cK (.int 3)) aNil))))))))
def f_is_setting : BL := runB 1 b_is_setting
def b_need_setting : CS :=
  (sIf (cNot (cCall f_is_setting (aCons (cVar 0) aNil))) (sRz "InvalidSetting") sNx)
def f_need_setting : BL := runB 1 b_need_setting
def b_is_rule : CS :=
  (sSeq (sIf (cOr (cNot (cUn (oIsi "tuple") (cVar 0))) (cOr (cBin oEq (cVar 0) (cTup aNil)) (cNot (cUn (oIsi "str") (cBin oIx (cVar 0) (cK (.int 0))))))) (sRet (cK (.bl false))) sNx) (sSeq (sIf (cBin oIn (cBin oIx (cVar 0) (cK (.int 0))) (cK (.cons (.str "line") (.cons (.str "many") (.cons (.str "one") (.cons (.str "turns") .nil)))))) (sRet (cBin oEq (cCall bLen (aCons (cVar 0) aNil)) (cK (.int 1)))) sNx) (sRet (cAnd (cBin oIn (cBin oIx (cVar 0) (cK (.int 0))) (cTup (aCons (cK (.str "bound")) (aCons (cK (.str "patience")) aNil)))) (cAnd (cBin oEq (cCall bLen (aCons (cVar 0) aNil)) (cK (.int 2))) (cCall f_is_int (aCons (cBin oIx (cVar 0) (cK (.int 1))) (aCons (cK (.int 1)) (aCons (cK (.int 3)) aNil)))))))))
def f_is_rule : BL := runB 1 b_is_rule
def b_need_rule : CS :=
  (sIf (cNot (cCall f_is_rule (aCons (cVar 0) aNil))) (sRz "InvalidRule") sNx)
def f_need_rule : BL := runB 1 b_need_rule
def b_need_both : CS :=
  (sSeq (sExpr (cCall f_need_setting (aCons (cVar 0) aNil))) (sExpr (cCall f_need_rule (aCons (cVar 1) aNil))))
def f_need_both : BL := runB 2 b_need_both
def cp_are_comings_1 : CE :=
  cComp (iSeq (cVar 0)) [1] (gNm 1) cTrue (cCall f_is_int (aCons (cVar 1) (aCons (cK (.int 0)) (aCons (cK (.int 2)) aNil))))
def b_are_comings : CS :=
  (sSeq (sIf (cOr (cNot (cUn (oIsi "list") (cVar 0))) (cBin oGt (cCall bLen (aCons (cVar 0) aNil)) (cK (.int 40)))) (sRet (cK (.bl false))) sNx) (sRet (cCall bAll (aCons cp_are_comings_1 aNil))))
def f_are_comings : BL := runB 2 b_are_comings
def b_need_comings : CS :=
  (sIf (cNot (cCall f_are_comings (aCons (cVar 0) aNil))) (sRz "InvalidComings") sNx)
def f_need_comings : BL := runB 1 b_need_comings
def b_need_run : CS :=
  (sSeq (sExpr (cCall f_need_both (aCons (cVar 0) (aCons (cVar 1) aNil)))) (sExpr (cCall f_need_comings (aCons (cVar 2) aNil))))
def f_need_run : BL := runB 3 b_need_run
def b_begun : CS :=
  (sRet (cTup (aCons (cTup aNil) (aCons (cTup aNil) (aCons (cK (.int 0)) (aCons (cK (.int 0)) (aCons (cK (.int 0)) (aCons (cTup aNil) aNil))))))))
def f_begun : BL := runB 0 b_begun
def b_preferred : CS :=
  (sSeq (sAsg (cBin oIx (cVar 0) (cK (.int 0))) (gNm 5)) (sSeq (sIf (cOr (cBin oEq (cVar 5) (cK (.str "line"))) (cOr (cBin oNotIn (cK (.int 1)) (cVar 1)) (cBin oNotIn (cK (.int 2)) (cVar 1)))) (sRet (cBin oIx (cVar 1) (cK (.int 0)))) sNx) (sSeq (sIf (cBin oEq (cVar 5) (cK (.str "turns"))) (sRet (cIte (cBin oEq (cVar 2) (cK (.int 1))) (cK (.int 2)) (cK (.int 1)))) sNx) (sSeq (sIf (cBin oEq (cVar 5) (cK (.str "one"))) (sRet (cK (.int 2))) sNx) (sSeq (sIf (cBin oEq (cVar 5) (cK (.str "bound"))) (sRet (cIte (cBin oGe (cVar 3) (cBin oIx (cVar 0) (cK (.int 1)))) (cK (.int 2)) (cK (.int 1)))) sNx) (sSeq (sIf (cBin oEq (cVar 5) (cK (.str "patience"))) (sRet (cIte (cBin oGe (cBin oIx (cVar 4) (cK (.int 0))) (cBin oIx (cVar 0) (cK (.int 1)))) (cK (.int 2)) (cK (.int 1)))) sNx) (sRet (cK (.int 1)))))))))
def f_preferred : BL := runB 6 b_preferred
def b_fits : CS :=
  (sRet (cOr (cBin oEq (cVar 1) (cTup aNil)) (cAnd (cBin oEq (cVar 0) (cK (.int 1))) (cBin oEq (cVar 2) (cK (.int 1))))))
def f_fits : BL := runB 3 b_fits
def lc_entered_1 : CE :=
  (cBin oNe (cVar 4) (cTup aNil))
def lb_entered_1 : CS :=
  (sSeq (sAsg (cCall f_preferred (aCons (cVar 1) (aCons (cVar 4) (aCons (cVar 7) (aCons (cVar 8) (aCons (cVar 9) aNil)))))) (gNm 10)) (sSeq (sIf (cNot (cCall f_fits (aCons (cVar 10) (aCons (cVar 5) (aCons (cVar 6) aNil))))) sBrk sNx) (sSeq (sAsg (cMeth "tuple" mIdxT (cVar 4) (aCons (cVar 10) aNil)) (gNm 11)) (sSeq (sAsg (cIte (cAnd (cBin oEq (cVar 10) (cK (.int 1))) (cBin oIn (cK (.int 2)) (cVar 4))) (cCall bMin (aCons (cK (.int 3)) (aCons (cBin oAdd (cVar 8) (cK (.int 1))) aNil))) (cK (.int 0))) (gNm 8)) (sSeq (sAsg (cIte (cBin oEq (cVar 10) (cK (.int 2))) (cSlice (cVar 9) (some (cK (.int 1))) none) (cVar 9)) (gNm 9)) (sSeq (sAsg (cBin oAdd (cSlice (cVar 4) none (some (cVar 11))) (cSlice (cVar 4) (some (cBin oAdd (cVar 11) (cK (.int 1)))) none)) (gNm 4)) (sSeq (sPar3 5 6 7 (aCons (cBin oAdd (cVar 5) (cTup (aCons (cBin oIx (cVar 0) (cVar 10)) aNil))) (aCons (cVar 10) (aCons (cVar 10) aNil)))) (sExpr (cMeth "list" mAppend (cVar 3) (aCons (cVar 10) aNil))))))))))
def b_entered : CS :=
  (sSeq (sAsg (cVar 2) (gUnp 6 (Co.gCons (gNm 4) (Co.gCons (gNm 5) (Co.gCons (gNm 6) (Co.gCons (gNm 7) (Co.gCons (gNm 8) (Co.gCons (gNm 9) Co.gNil)))))))) (sSeq (sAsg (cLst aNil) (gNm 3)) (sSeq (sWhile lc_entered_1 lb_entered_1) (sRet (cTup (aCons (cTup (aCons (cVar 4) (aCons (cVar 5) (aCons (cVar 6) (aCons (cVar 7) (aCons (cVar 8) (aCons (cVar 9) aNil))))))) (aCons (cVar 3) aNil)))))))
def f_entered : BL := runB 12 b_entered
def cp_tick_1 : CE :=
  cComp (iSeq (cVar 7)) [14] (gNm 14) (cBin oGt (cVar 14) (cK (.int 1))) (cBin oSub (cVar 14) (cK (.int 1)))
def cp_tick_2 : CE :=
  cComp (iSeq (cVar 8)) [15] (gNm 15) cTrue (cCall bMin (aCons (cK (.int 3)) (aCons (cBin oAdd (cVar 15) (cK (.int 1))) aNil)))
def b_tick : CS :=
  (sSeq (sAsg (cVar 2) (gUnp 6 (Co.gCons (gNm 9) (Co.gCons (gNm 7) (Co.gCons (gNm 10) (Co.gCons (gNm 11) (Co.gCons (gNm 12) (Co.gCons (gNm 8) Co.gNil)))))))) (sSeq (sAsg (cAnd (cBin oGt (cVar 3) (cK (.int 0))) (cBin oEq (cCall bLen (aCons (cVar 9) aNil)) (cBin oIx (cVar 0) (cK (.int 0))))) (gNm 4)) (sSeq (sIf (cAnd (cBin oGt (cVar 3) (cK (.int 0))) (cNot (cVar 4))) (sSeq (sAsg (cIte (cAnd (cBin oEq (cVar 3) (cK (.int 2))) (cBin oNotIn (cK (.int 2)) (cVar 9))) (cK (.int 0)) (cVar 12)) (gNm 12)) (sPar2 9 8 (aCons (cBin oAdd (cVar 9) (cTup (aCons (cVar 3) aNil))) (aCons (cBin oAdd (cVar 8) (cBin oMul (cTup (aCons (cK (.int 0)) aNil)) (cBin oSub (cVar 3) (cK (.int 1))))) aNil)))) sNx) (sSeq (sAsg (cCall f_entered (aCons (cVar 0) (aCons (cVar 1) (aCons (cTup (aCons (cVar 9) (aCons (cVar 7) (aCons (cVar 10) (aCons (cVar 11) (aCons (cVar 12) (aCons (cVar 8) aNil))))))) aNil)))) (gUnp 2 (Co.gCons (gNm 2) (Co.gCons (gNm 13) Co.gNil)))) (sSeq (sAsg (cVar 2) (gUnp 6 (Co.gCons (gNm 9) (Co.gCons (gNm 7) (Co.gCons (gNm 10) (Co.gCons (gNm 11) (Co.gCons (gNm 12) (Co.gCons (gNm 8) Co.gNil)))))))) (sSeq (sAsg (cTup (aCons (cMeth "list" mCntL (cVar 13) (aCons (cK (.int 1)) aNil)) (aCons (cMeth "list" mCntL (cVar 13) (aCons (cK (.int 2)) aNil)) (aCons (cVar 4) aNil)))) (gNm 5)) (sSeq (sAsg (cIte (cBin oEq (cVar 10) (cK (.int 1))) (cTup (aCons (cCall bLen (aCons (cVar 7) aNil)) (aCons (cK (.int 0)) aNil))) (cTup (aCons (cK (.int 0)) (aCons (cCall bLen (aCons (cVar 7) aNil)) aNil)))) (gNm 6)) (sSeq (sAsg (cCall bTuple (aCons cp_tick_1 aNil)) (gNm 7)) (sSeq (sAsg (cCall bTuple (aCons cp_tick_2 aNil)) (gNm 8)) (sRet (cTup (aCons (cTup (aCons (cVar 9) (aCons (cVar 7) (aCons (cIte (cBin oNe (cVar 7) (cTup aNil)) (cVar 10) (cK (.int 0))) (aCons (cVar 11) (aCons (cVar 12) (aCons (cVar 8) aNil))))))) (aCons (cVar 5) (aCons (cVar 6) aNil))))))))))))))
def f_tick : BL := runB 16 b_tick
def lb_run_1 : CS :=
  (sSeq (sAsg (cCall f_tick (aCons (cVar 0) (aCons (cVar 1) (aCons (cVar 4) (aCons (cVar 3) aNil))))) (gUnp 3 (Co.gCons (gNm 4) (Co.gCons (gNm 6) (Co.gCons (gNm 7) Co.gNil))))) (sExpr (cMeth "list" mAppend (cVar 5) (aCons (cTup (aCons (cVar 4) (aCons (cVar 6) (aCons (cVar 7) aNil)))) aNil))))
def b_run : CS :=
  (sSeq (sPar2 4 5 (aCons (cCall f_begun aNil) (aCons (cLst aNil) aNil))) (sSeq (sFor (iSeq (cVar 2)) (gNm 3) lb_run_1) (sRet (cVar 5))))
def f_run : BL := runB 8 b_run
def cp_notes_of_1 : CE :=
  cComp (iSeq (cCall f_run (aCons (cVar 0) (aCons (cVar 1) (aCons (cVar 2) aNil))))) [3, 4, 5] (gUnp 3 (Co.gCons (gNm 3) (Co.gCons (gNm 4) (Co.gCons (gNm 5) Co.gNil)))) cTrue (cVar 4)
def b_notes_of : CS :=
  (sRet cp_notes_of_1)
def f_notes_of : BL := runB 6 b_notes_of
def b_notes_along : CS :=
  (sSeq (sExpr (cCall f_need_run (aCons (cVar 0) (aCons (cVar 1) (aCons (cVar 2) aNil))))) (sRet (cCall f_notes_of (aCons (cVar 0) (aCons (cVar 1) (aCons (cVar 2) aNil))))))
def f_notes_along : BL := runB 3 b_notes_along
def cp_insides_along_1 : CE :=
  cComp (iSeq (cCall f_run (aCons (cVar 0) (aCons (cVar 1) (aCons (cVar 2) aNil))))) [3, 4, 5] (gUnp 3 (Co.gCons (gNm 3) (Co.gCons (gNm 4) (Co.gCons (gNm 5) Co.gNil)))) cTrue (cVar 5)
def b_insides_along : CS :=
  (sSeq (sExpr (cCall f_need_run (aCons (cVar 0) (aCons (cVar 1) (aCons (cVar 2) aNil))))) (sRet cp_insides_along_1))
def f_insides_along : BL := runB 6 b_insides_along
def cp_lines_along_1 : CE :=
  cComp (iSeq (cCall f_run (aCons (cVar 0) (aCons (cVar 1) (aCons (cVar 2) aNil))))) [3, 4, 5] (gUnp 3 (Co.gCons (gNm 3) (Co.gCons (gNm 4) (Co.gCons (gNm 5) Co.gNil)))) cTrue (cBin oIx (cVar 3) (cK (.int 0)))
def b_lines_along : CS :=
  (sSeq (sExpr (cCall f_need_run (aCons (cVar 0) (aCons (cVar 1) (aCons (cVar 2) aNil))))) (sRet cp_lines_along_1))
def f_lines_along : BL := runB 6 b_lines_along
end Lw
namespace Lw
open PySem Co
/-! ### the small heap grows -/
def Ke (S : List Nat) (m m' : MH) : Prop := m.length ≤ m'.length ∧ ∀ i, i < m.length → i ∉ S → m'[i]? = m[i]?
theorem Ke.refl {S : List Nat} {m : MH} : Ke S m m := ⟨Nat.le_refl _, fun _ _ _ => rfl⟩
theorem Ke.trans {S : List Nat} {m m1 m2 : MH} (a : Ke S m m1) (b : Ke S m1 m2) : Ke S m m2 :=
  ⟨Nat.le_trans a.1 b.1, fun i hi hs => (b.2 i (Nat.lt_of_lt_of_le hi a.1) hs).trans (a.2 i hi hs)⟩
theorem Ke.mono {S T : List Nat} {m m1 : MH} (a : Ke S m m1) (h : ∀ i ∈ S, i ∈ T) : Ke T m m1 := ⟨a.1, fun i hi hs => a.2 i hi fun z => hs (h i z)⟩
theorem Ke.nil {S : List Nat} {m m1 : MH} (a : Ke [] m m1) : Ke S m m1 := a.mono (by simp)
theorem Ke.app {S : List Nat} (m g : MH) : Ke S m (m ++ g) := ⟨by simp, fun i hi _ => List.getElem?_append_left hi⟩
theorem Ke.get {S : List Nat} {m m1 : MH} (a : Ke S m m1) {i : Nat} {o : MO} (h : m[i]? = some o) (hs : i ∉ S := by simp) : m1[i]? = some o := by
  obtain ⟨hl, _⟩ := List.getElem?_eq_some_iff.mp h
  rw [a.2 i hl hs]; exact h
theorem Ke.set {S : List Nat} {m : MH} {i : Nat} {o : MO} (h : i ∈ S) : Ke S m (m.set i o) := ⟨by simp, fun j hj hs => by rw [List.getElem?_set_ne]; rintro rfl; exact hs h⟩
/-! ### encodings -/
def encI (l : List Int) : MV := MV.ofL (l.map .int)
theorem toL_encI (l : List Int) : (encI l).toL = some (l.map .int) := MV.toL_ofL _
theorem encI_nil : encI [] = .nil := rfl
theorem encI_cons (a : Int) (l : List Int) : encI (a :: l) = .cons (.int a) (encI l) := rfl
/-! ### operations on encodings -/
theorem deep_chain_I (m : MH) (k : Nat) : ∀ l : List Int, chainM (deep m k) (encI l) = some (encI l)
  | [] => rfl
  | a :: l => by
    rw [encI_cons, chainM, deep_chain_I m k l]
    cases k <;> rfl
theorem deep_I (m : MH) (k : Nat) (l : List Int) : deep m (k + 1) (encI l) = some (encI l) := by
  cases l with
  | nil => rfl
  | cons a l => rw [encI_cons, deep, ← encI_cons, deep_chain_I]
theorem eqv_I : ∀ a b : List Int, eqv (encI a) (encI b) = decide (a = b)
  | [], [] => rfl
  | [], _ :: _ => rfl
  | _ :: _, [] => rfl
  | x :: a, y :: b => by
    rw [encI_cons, encI_cons, eqv, eqv_I a b, eqv]
    by_cases h : x = y <;> by_cases h2 : a = b <;> simp [h, h2]
theorem oEq_I (m : MH) (a b : List Int) : oEq (encI a) (encI b) m = .ok (.bl (decide (a = b))) m := by
  have e : eqM m (encI a) (encI b) = some (decide (a = b)) := by
    unfold eqM
    split
    · cases a <;> simp_all [encI_nil, encI_cons]
    · rw [show (40 : Nat) = 39 + 1 from rfl, deep_I, deep_I, Option.bind_some, Option.map_some, eqv_I]
  unfold oEq
  rw [e]
theorem oNe_I (m : MH) (a b : List Int) : oNe (encI a) (encI b) m = .ok (.bl (!decide (a = b))) m := by
  have e : eqM m (encI a) (encI b) = some (decide (a = b)) := by
    unfold eqM
    split
    · cases a <;> simp_all [encI_nil, encI_cons]
    · rw [show (40 : Nat) = 39 + 1 from rfl, deep_I, deep_I, Option.bind_some, Option.map_some, eqv_I]
  unfold oNe
  rw [e]
theorem oEq_i (m : MH) (a b : Int) : oEq (.int a) (.int b) m = .ok (.bl (decide (a = b))) m := by
  show Res.ok (MV.bl (a == b)) m = _
  rw [Bool.beq_eq_decide_eq]
theorem oNe_i (m : MH) (a b : Int) : oNe (.int a) (.int b) m = .ok (.bl (!decide (a = b))) m := by
  show Res.ok (MV.bl (!(a == b))) m = _
  rw [Bool.beq_eq_decide_eq]
def fitsT (kind : Int) (inside : List Int) (inner : Int) : Bool := decide (inside = []) || (decide (kind = 1) && decide (inner = 1))
theorem fits_ok (kind : Int) (inside : List Int) (inner : Int) (m : MH) : f_fits [.int kind, encI inside, .int inner] m = .ok (.bl (fitsT kind inside inner)) m := by
  have e := oEq_I m inside []
  rw [encI_nil] at e
  simp only [f_fits, runB, b_fits, slots, sRet, cOr, cBin, cVar, cTup, aNil, cAnd, cK, List.map, List.length, Res.bind, MV.ofL, List.cons_append, List.nil_append, List.getElem?_cons_succ, List.getElem?_cons_zero, e, oEq_i, fitsT]
  by_cases h : inside = []
  · simp [h]
  · by_cases h2 : kind = 1 <;> by_cases h3 : inner = 1 <;> simp [h, h2, h3]
end Lw

namespace Lw
open PySem Co
inductive Ru where
  | line | many | one | turns | bound (n : Int) | patience (n : Int)
  deriving DecidableEq
def Ru.word : Ru → Str
  | .line => "line" | .many => "many" | .one => "one" | .turns => "turns" | .bound _ => "bound" | .patience _ => "patience"
def encR : Ru → MV
  | .line => .cons (.str "line") .nil
  | .many => .cons (.str "many") .nil
  | .one => .cons (.str "one") .nil
  | .turns => .cons (.str "turns") .nil
  | .bound n => .cons (.str "bound") (.cons (.int n) .nil)
  | .patience n => .cons (.str "patience") (.cons (.int n) .nil)
theorem ixR0 (r : Ru) (m : MH) : oIx (encR r) (.int 0) m = .ok (.str r.word) m := by cases r <;> rfl
theorem ixB (n : Int) (m : MH) : oIx (encR (.bound n)) (.int 1) m = .ok (.int n) m := rfl
theorem ixPt (n : Int) (m : MH) : oIx (encR (.patience n)) (.int 1) m = .ok (.int n) m := rfl
def Ru.is (r : Ru) (w : Str) : Bool := decide (r.word = w)
theorem word_ok (r : Ru) : r.word.cps.all (· < 0x110000) = true := by
  cases r with
  | bound n => show (Str.ofString "bound").cps.all _ = true; decide +kernel
  | patience n => show (Str.ofString "patience").cps.all _ = true; decide +kernel
  | line => decide +kernel
  | many => decide +kernel
  | one => decide +kernel
  | turns => decide +kernel
theorem oEq_s (a b : Str) (m : MH) (ha : a.cps.all (· < 0x110000) = true) (hb : b.cps.all (· < 0x110000) = true) : oEq (.str a) (.str b) m = .ok (.bl (decide (a = b))) m := by
  have e : eqM m (.str a) (.str b) = some (decide (a = b)) := by
    simp only [eqM, deep, ha, hb, if_true, Option.bind_some, Option.map_some, eqv]
    rw [Bool.beq_eq_decide_eq]
  unfold oEq
  rw [e]
theorem w_line (r : Ru) (m : MH) : oEq (.str r.word) (.str "line") m = .ok (.bl (decide (r = .line))) m := by
  rw [oEq_s _ _ _ (word_ok r) (by decide +kernel)]
  cases r <;> rfl
theorem w_turns (r : Ru) (m : MH) : oEq (.str r.word) (.str "turns") m = .ok (.bl (decide (r = .turns))) m := by
  rw [oEq_s _ _ _ (word_ok r) (by decide +kernel)]
  cases r <;> rfl
theorem w_one (r : Ru) (m : MH) : oEq (.str r.word) (.str "one") m = .ok (.bl (decide (r = .one))) m := by
  rw [oEq_s _ _ _ (word_ok r) (by decide +kernel)]
  cases r <;> rfl
def Ru.isB : Ru → Bool
  | .bound _ => true
  | _ => false
def Ru.isP : Ru → Bool
  | .patience _ => true
  | _ => false
def Ru.num : Ru → Int
  | .bound n => n
  | .patience n => n
  | _ => 0
theorem w_bound (r : Ru) (m : MH) : oEq (.str r.word) (.str "bound") m = .ok (.bl r.isB) m := by
  rw [oEq_s _ _ _ (word_ok r) (by decide +kernel)]
  cases r <;> rfl
theorem w_patience (r : Ru) (m : MH) : oEq (.str r.word) (.str "patience") m = .ok (.bl r.isP) m := by
  rw [oEq_s _ _ _ (word_ok r) (by decide +kernel)]
  cases r <;> rfl
theorem anyEq_I (k : Int) : ∀ l : List Int, anyEq (.int k) (l.map .int) = decide (k ∈ l)
  | [] => rfl
  | a :: l => by
    rw [List.map_cons, anyEq, anyEq_I k l, eqv]
    by_cases h : k = a
    · subst h; simp
    · have h2 : ¬ a = k := fun e => h e.symm
      by_cases h3 : k ∈ l <;> simp [h, h2, h3]
theorem inM_I (m : MH) (k : Int) (l : List Int) : inM m (.int k) (encI l) = some (decide (k ∈ l)) := by
  have key : ((deep m 40 (.int k)).bind fun x => (chainM (deep m 39) (encI l)).bind fun t => t.toL.map fun ys => anyEq x ys) = some (decide (k ∈ l)) := by
    rw [deep_chain_I]
    simp only [deep, Option.bind_some, toL_encI, Option.map_some, anyEq_I]
  cases l with
  | nil => exact key
  | cons a l => exact key
theorem oIn_I (m : MH) (k : Int) (l : List Int) : oIn (.int k) (encI l) m = .ok (.bl (decide (k ∈ l))) m := by
  unfold oIn; rw [inM_I]
theorem oNotIn_I (m : MH) (k : Int) (l : List Int) : oNotIn (.int k) (encI l) m = .ok (.bl (!decide (k ∈ l))) m := by
  unfold oNotIn; rw [inM_I]
theorem oIx_I0 (m : MH) (a : Int) (l : List Int) : oIx (encI (a :: l)) (.int 0) m = .ok (.int a) m := by
  have h : seqAt (encI (a :: l)) m = some ((a :: l).map .int) := by
    rw [encI_cons]; show (MV.cons (.int a) (encI l)).toL = _; rw [← encI_cons, toL_encI]
  simp only [oIx, h]
  simp [L2.atI, L2.ixN]
theorem oGe_i (m : MH) (a b : Int) : oGe (.int a) (.int b) m = .ok (.bl (decide (b ≤ a))) m := rfl
theorem oGt_i (m : MH) (a b : Int) : oGt (.int a) (.int b) m = .ok (.bl (decide (b < a))) m := rfl
theorem oLt_i (m : MH) (a b : Int) : oLt (.int a) (.int b) m = .ok (.bl (decide (a < b))) m := rfl
theorem oLe_i (m : MH) (a b : Int) : oLe (.int a) (.int b) m = .ok (.bl (decide (a ≤ b))) m := rfl
theorem oAdd_i (m : MH) (a b : Int) : oAdd (.int a) (.int b) m = .ok (.int (a + b)) m := rfl
theorem oSub_i (m : MH) (a b : Int) : oSub (.int a) (.int b) m = .ok (.int (a - b)) m := rfl
def pref (r : Ru) (line : List Int) (last count : Int) (waits : List Int) : Int :=
  if r = .line ∨ 1 ∉ line ∨ 2 ∉ line then line.headD 0
  else if r = .turns then (if last = 1 then 2 else 1)
  else if r = .one then 2
  else if r.isB then (if r.num ≤ count then 2 else 1)
  else if r.isP then (if r.num ≤ waits.headD 0 then 2 else 1)
  else 1
theorem preferred_ok (r : Ru) (a : Int) (l : List Int) (last count : Int) (waits : List Int) (m : MH) (hw : r.isP = true → 2 ∈ a :: l → waits ≠ []) :
    f_preferred [encR r, encI (a :: l), .int last, .int count, encI waits] m = .ok (.int (pref r (a :: l) last count waits)) m := by
  simp only [f_preferred, b_preferred, runB, slots, sSeq, sRet, sIf, sExpr, sAsg, gNm, Co.gCons, Co.gNil, gUnp, Co.gSub, sPar2, sPar3, cVar, cK, cBin, cUn, cNot, cAnd, cOr, cIte, cChain, aNil, aCons, cTup, cLst, cCall, cMeth, cSlice, partOf, sNx, sBrk, sCnt, sBad, sRz, cTrue, Res.bind, MV.ofL, List.map_cons, List.map_nil, List.length_cons, List.length_nil, List.cons_append, List.nil_append, List.getElem?_cons_succ, List.getElem?_cons_zero, List.set_cons_succ, List.set_cons_zero, List.replicate, Nat.reduceSub, Nat.reduceAdd, ixR0, ixB, ixPt, w_line, w_turns, w_one, w_bound, w_patience, oNotIn_I, oIn_I, oIx_I0, oEq_i, oNe_i, oGe_i, oGt_i, oLt_i, oLe_i, oAdd_i, oSub_i, decide_true, decide_false, Bool.not_true, Bool.not_false]
  by_cases h0 : r = .line
  · simp [runB, slots, sSeq, sRet, sIf, sExpr, sAsg, gNm, Co.gCons, Co.gNil, gUnp, Co.gSub, sPar2, sPar3, cVar, cK, cBin, cUn, cNot, cAnd, cOr, cIte, cChain, aNil, aCons, cTup, cLst, cCall, cMeth, cSlice, partOf, sNx, sBrk, sCnt, sBad, sRz, cTrue, Res.bind, MV.ofL, List.map_cons, List.map_nil, List.length_cons, List.length_nil, List.cons_append, List.nil_append, List.getElem?_cons_succ, List.getElem?_cons_zero, List.set_cons_succ, List.set_cons_zero, List.replicate, Nat.reduceSub, Nat.reduceAdd, ixR0, ixB, ixPt, w_line, w_turns, w_one, w_bound, w_patience, oNotIn_I, oIn_I, oIx_I0, oEq_i, oNe_i, oGe_i, oGt_i, oLt_i, oLe_i, oAdd_i, oSub_i, decide_true, decide_false, Bool.not_true, Bool.not_false, h0, pref]
  · by_cases h1 : (1 : Int) ∈ a :: l
    · by_cases h2 : (2 : Int) ∈ a :: l
      · simp only [h0, h1, h2, decide_true, decide_false, Bool.not_true]
        by_cases h3 : r = .turns
        · by_cases h4 : last = 1
          · simp [runB, slots, sSeq, sRet, sIf, sExpr, sAsg, gNm, Co.gCons, Co.gNil, gUnp, Co.gSub, sPar2, sPar3, cVar, cK, cBin, cUn, cNot, cAnd, cOr, cIte, cChain, aNil, aCons, cTup, cLst, cCall, cMeth, cSlice, partOf, sNx, sBrk, sCnt, sBad, sRz, cTrue, Res.bind, MV.ofL, List.map_cons, List.map_nil, List.length_cons, List.length_nil, List.cons_append, List.nil_append, List.getElem?_cons_succ, List.getElem?_cons_zero, List.set_cons_succ, List.set_cons_zero, List.replicate, Nat.reduceSub, Nat.reduceAdd, ixR0, ixB, ixPt, w_line, w_turns, w_one, w_bound, w_patience, oNotIn_I, oIn_I, oIx_I0, oEq_i, oNe_i, oGe_i, oGt_i, oLt_i, oLe_i, oAdd_i, oSub_i, decide_true, decide_false, Bool.not_true, Bool.not_false, h3, pref, h1, h2, h4]
          · simp [runB, slots, sSeq, sRet, sIf, sExpr, sAsg, gNm, Co.gCons, Co.gNil, gUnp, Co.gSub, sPar2, sPar3, cVar, cK, cBin, cUn, cNot, cAnd, cOr, cIte, cChain, aNil, aCons, cTup, cLst, cCall, cMeth, cSlice, partOf, sNx, sBrk, sCnt, sBad, sRz, cTrue, Res.bind, MV.ofL, List.map_cons, List.map_nil, List.length_cons, List.length_nil, List.cons_append, List.nil_append, List.getElem?_cons_succ, List.getElem?_cons_zero, List.set_cons_succ, List.set_cons_zero, List.replicate, Nat.reduceSub, Nat.reduceAdd, ixR0, ixB, ixPt, w_line, w_turns, w_one, w_bound, w_patience, oNotIn_I, oIn_I, oIx_I0, oEq_i, oNe_i, oGe_i, oGt_i, oLt_i, oLe_i, oAdd_i, oSub_i, decide_true, decide_false, Bool.not_true, Bool.not_false, h3, pref, h1, h2, h4]
        · by_cases h4 : r = .one
          · simp [runB, slots, sSeq, sRet, sIf, sExpr, sAsg, gNm, Co.gCons, Co.gNil, gUnp, Co.gSub, sPar2, sPar3, cVar, cK, cBin, cUn, cNot, cAnd, cOr, cIte, cChain, aNil, aCons, cTup, cLst, cCall, cMeth, cSlice, partOf, sNx, sBrk, sCnt, sBad, sRz, cTrue, Res.bind, MV.ofL, List.map_cons, List.map_nil, List.length_cons, List.length_nil, List.cons_append, List.nil_append, List.getElem?_cons_succ, List.getElem?_cons_zero, List.set_cons_succ, List.set_cons_zero, List.replicate, Nat.reduceSub, Nat.reduceAdd, ixR0, ixB, ixPt, w_line, w_turns, w_one, w_bound, w_patience, oNotIn_I, oIn_I, oIx_I0, oEq_i, oNe_i, oGe_i, oGt_i, oLt_i, oLe_i, oAdd_i, oSub_i, decide_true, decide_false, Bool.not_true, Bool.not_false, h4, pref, h1, h2]
          · cases r with
            | bound n =>
              by_cases h5 : n ≤ count
              · simp [runB, slots, sSeq, sRet, sIf, sExpr, sAsg, gNm, Co.gCons, Co.gNil, gUnp, Co.gSub, sPar2, sPar3, cVar, cK, cBin, cUn, cNot, cAnd, cOr, cIte, cChain, aNil, aCons, cTup, cLst, cCall, cMeth, cSlice, partOf, sNx, sBrk, sCnt, sBad, sRz, cTrue, Res.bind, MV.ofL, List.map_cons, List.map_nil, List.length_cons, List.length_nil, List.cons_append, List.nil_append, List.getElem?_cons_succ, List.getElem?_cons_zero, List.set_cons_succ, List.set_cons_zero, List.replicate, Nat.reduceSub, Nat.reduceAdd, ixR0, ixB, ixPt, w_line, w_turns, w_one, w_bound, w_patience, oNotIn_I, oIn_I, oIx_I0, oEq_i, oNe_i, oGe_i, oGt_i, oLt_i, oLe_i, oAdd_i, oSub_i, decide_true, decide_false, Bool.not_true, Bool.not_false, Ru.isB, ixB, oGe_i, h5, pref, h1, h2, Ru.num]
              · simp [runB, slots, sSeq, sRet, sIf, sExpr, sAsg, gNm, Co.gCons, Co.gNil, gUnp, Co.gSub, sPar2, sPar3, cVar, cK, cBin, cUn, cNot, cAnd, cOr, cIte, cChain, aNil, aCons, cTup, cLst, cCall, cMeth, cSlice, partOf, sNx, sBrk, sCnt, sBad, sRz, cTrue, Res.bind, MV.ofL, List.map_cons, List.map_nil, List.length_cons, List.length_nil, List.cons_append, List.nil_append, List.getElem?_cons_succ, List.getElem?_cons_zero, List.set_cons_succ, List.set_cons_zero, List.replicate, Nat.reduceSub, Nat.reduceAdd, ixR0, ixB, ixPt, w_line, w_turns, w_one, w_bound, w_patience, oNotIn_I, oIn_I, oIx_I0, oEq_i, oNe_i, oGe_i, oGt_i, oLt_i, oLe_i, oAdd_i, oSub_i, decide_true, decide_false, Bool.not_true, Bool.not_false, Ru.isB, ixB, oGe_i, h5, pref, h1, h2, Ru.num]
            | patience n =>
              cases waits with
              | nil => exact absurd rfl (hw rfl h2)
              | cons w ws =>
                by_cases h5 : n ≤ w
                · simp [runB, slots, sSeq, sRet, sIf, sExpr, sAsg, gNm, Co.gCons, Co.gNil, gUnp, Co.gSub, sPar2, sPar3, cVar, cK, cBin, cUn, cNot, cAnd, cOr, cIte, cChain, aNil, aCons, cTup, cLst, cCall, cMeth, cSlice, partOf, sNx, sBrk, sCnt, sBad, sRz, cTrue, Res.bind, MV.ofL, List.map_cons, List.map_nil, List.length_cons, List.length_nil, List.cons_append, List.nil_append, List.getElem?_cons_succ, List.getElem?_cons_zero, List.set_cons_succ, List.set_cons_zero, List.replicate, Nat.reduceSub, Nat.reduceAdd, ixR0, ixB, ixPt, w_line, w_turns, w_one, w_bound, w_patience, oNotIn_I, oIn_I, oIx_I0, oEq_i, oNe_i, oGe_i, oGt_i, oLt_i, oLe_i, oAdd_i, oSub_i, decide_true, decide_false, Bool.not_true, Bool.not_false, Ru.isB, Ru.isP, ixPt, oIx_I0, oGe_i, h5, pref, h1, h2, Ru.num]
                · simp [runB, slots, sSeq, sRet, sIf, sExpr, sAsg, gNm, Co.gCons, Co.gNil, gUnp, Co.gSub, sPar2, sPar3, cVar, cK, cBin, cUn, cNot, cAnd, cOr, cIte, cChain, aNil, aCons, cTup, cLst, cCall, cMeth, cSlice, partOf, sNx, sBrk, sCnt, sBad, sRz, cTrue, Res.bind, MV.ofL, List.map_cons, List.map_nil, List.length_cons, List.length_nil, List.cons_append, List.nil_append, List.getElem?_cons_succ, List.getElem?_cons_zero, List.set_cons_succ, List.set_cons_zero, List.replicate, Nat.reduceSub, Nat.reduceAdd, ixR0, ixB, ixPt, w_line, w_turns, w_one, w_bound, w_patience, oNotIn_I, oIn_I, oIx_I0, oEq_i, oNe_i, oGe_i, oGt_i, oLt_i, oLe_i, oAdd_i, oSub_i, decide_true, decide_false, Bool.not_true, Bool.not_false, Ru.isB, Ru.isP, ixPt, oIx_I0, oGe_i, h5, pref, h1, h2, Ru.num]
            | many => simp [runB, slots, sSeq, sRet, sIf, sExpr, sAsg, gNm, Co.gCons, Co.gNil, gUnp, Co.gSub, sPar2, sPar3, cVar, cK, cBin, cUn, cNot, cAnd, cOr, cIte, cChain, aNil, aCons, cTup, cLst, cCall, cMeth, cSlice, partOf, sNx, sBrk, sCnt, sBad, sRz, cTrue, Res.bind, MV.ofL, List.map_cons, List.map_nil, List.length_cons, List.length_nil, List.cons_append, List.nil_append, List.getElem?_cons_succ, List.getElem?_cons_zero, List.set_cons_succ, List.set_cons_zero, List.replicate, Nat.reduceSub, Nat.reduceAdd, ixR0, ixB, ixPt, w_line, w_turns, w_one, w_bound, w_patience, oNotIn_I, oIn_I, oIx_I0, oEq_i, oNe_i, oGe_i, oGt_i, oLt_i, oLe_i, oAdd_i, oSub_i, decide_true, decide_false, Bool.not_true, Bool.not_false, Ru.isB, Ru.isP, pref, h1, h2]
            | line => exact absurd rfl h0
            | one => exact absurd rfl h4
            | turns => exact absurd rfl h3
      · simp [runB, slots, sSeq, sRet, sIf, sExpr, sAsg, gNm, Co.gCons, Co.gNil, gUnp, Co.gSub, sPar2, sPar3, cVar, cK, cBin, cUn, cNot, cAnd, cOr, cIte, cChain, aNil, aCons, cTup, cLst, cCall, cMeth, cSlice, partOf, sNx, sBrk, sCnt, sBad, sRz, cTrue, Res.bind, MV.ofL, List.map_cons, List.map_nil, List.length_cons, List.length_nil, List.cons_append, List.nil_append, List.getElem?_cons_succ, List.getElem?_cons_zero, List.set_cons_succ, List.set_cons_zero, List.replicate, Nat.reduceSub, Nat.reduceAdd, ixR0, ixB, ixPt, w_line, w_turns, w_one, w_bound, w_patience, oNotIn_I, oIn_I, oIx_I0, oEq_i, oNe_i, oGe_i, oGt_i, oLt_i, oLe_i, oAdd_i, oSub_i, decide_true, decide_false, Bool.not_true, Bool.not_false, h0, h1, h2, pref]
    · simp [runB, slots, sSeq, sRet, sIf, sExpr, sAsg, gNm, Co.gCons, Co.gNil, gUnp, Co.gSub, sPar2, sPar3, cVar, cK, cBin, cUn, cNot, cAnd, cOr, cIte, cChain, aNil, aCons, cTup, cLst, cCall, cMeth, cSlice, partOf, sNx, sBrk, sCnt, sBad, sRz, cTrue, Res.bind, MV.ofL, List.map_cons, List.map_nil, List.length_cons, List.length_nil, List.cons_append, List.nil_append, List.getElem?_cons_succ, List.getElem?_cons_zero, List.set_cons_succ, List.set_cons_zero, List.replicate, Nat.reduceSub, Nat.reduceAdd, ixR0, ixB, ixPt, w_line, w_turns, w_one, w_bound, w_patience, oNotIn_I, oIn_I, oIx_I0, oEq_i, oNe_i, oGe_i, oGt_i, oLt_i, oLe_i, oAdd_i, oSub_i, decide_true, decide_false, Bool.not_true, Bool.not_false, h0, h1, pref]
end Lw

namespace Lw
open PySem Co
/-! ### further operations -/
theorem asInts_map : ∀ l : List Int, asInts (l.map .int) = some l
  | [] => rfl
  | a :: l => by rw [List.map_cons, asInts, asInts_map l]; rfl
theorem mIdxT_I (m : MH) (l : List Int) (k : Int) (h : k ∈ l) : mIdxT (encI l) [.int k] m = .ok (.int (l.idxOf k : Nat)) m := by
  simp only [mIdxT, toL_encI, Option.bind_some, asInts_map]
  rw [if_pos (by simpa using h)]
theorem kindM_I (m : MH) (l : List Int) : kindM (encI l) m = some "tuple" := by cases l <;> rfl
theorem bMin_i (m : MH) (a b : Int) : bMin [.int a, .int b] m = .ok (.int (min a b)) m := by
  show Res.ok (MV.int (if b < a then b else a)) m = _
  congr 2
  omega
theorem sIx_nat (n : Nat) (i : Int) (h : 0 ≤ i) (d : Nat) : HT.sIx n d (some i) = min i.toNat n := by
  obtain ⟨k, rfl⟩ := Int.eq_ofNat_of_zero_le h
  exact HT.sIx_nat n d k
theorem cut_from (l : List Int) (i : Int) (h : 0 ≤ i) : cutM (l.map .int) (some i) none = (l.drop i.toNat).map .int := by
  unfold cutM
  rw [sIx_nat _ _ h, HT.sIx_none, List.map_drop, List.length_map]
  by_cases hl : i.toNat ≤ l.length
  · rw [Nat.min_eq_left hl]
    exact List.take_of_length_le (by simp)
  · rw [Nat.min_eq_right (by omega), List.drop_eq_nil_of_le (by simp), List.drop_eq_nil_of_le (by simp; omega)]
    simp
theorem cut_to (l : List Int) (i : Int) (h : 0 ≤ i) : cutM (l.map .int) none (some i) = (l.take i.toNat).map .int := by
  unfold cutM
  rw [sIx_nat _ _ h, HT.sIx_none, List.map_take, List.length_map, List.drop_zero, Nat.sub_zero]
  by_cases hl : i.toNat ≤ l.length
  · rw [Nat.min_eq_left hl]
  · rw [Nat.min_eq_right (by omega), List.take_of_length_le (by simp), List.take_of_length_le (by simp; omega)]
theorem slM_I (m : MH) (l : List Int) (lo hi : Option Int) : slM (encI l) lo hi m = .ok (MV.ofL (cutM (l.map .int) lo hi)) m := by
  have h : slM (encI l) lo hi m = (match (encI l).toL with
    | some xs => .ok (MV.ofL (cutM xs lo hi)) m
    | none => .bad) := by cases l <;> rfl
  rw [h, toL_encI]
theorem sl_from (m : MH) (l : List Int) (i : Int) (h : 0 ≤ i) : slM (encI l) (some i) none m = .ok (encI (l.drop i.toNat)) m := by
  rw [slM_I, cut_from l i h]; rfl
theorem sl_to (m : MH) (l : List Int) (i : Int) (h : 0 ≤ i) : slM (encI l) none (some i) m = .ok (encI (l.take i.toNat)) m := by
  rw [slM_I, cut_to l i h]; rfl
theorem oAdd_I (m : MH) (a b : List Int) (h : a.length + b.length ≤ 1000000) : oAdd (encI a) (encI b) m = .ok (encI (a ++ b)) m := by
  have e : oAdd (encI a) (encI b) m = (match (encI a).toL, (encI b).toL with
    | some xs, some ys => if szOk (xs.length + ys.length) then .ok (MV.ofL (xs ++ ys)) m else .bad
    | _, _ => .bad) := by cases a <;> cases b <;> rfl
  rw [e, toL_encI, toL_encI]
  simp only [List.length_map]
  rw [if_pos (by simpa [szOk] using h), ← List.map_append]
  rfl
theorem mAppend_ok (m : MH) (n : Nat) (xs : List MV) (v : MV) (h : m[n]? = some (.lst xs)) (hz : xs.length ≤ 1000000) : mAppend (.ref n) [v] m = .ok .non (m.set n (.lst (xs ++ [v]))) := by
  simp only [mAppend, lstAt, h]
  rw [if_pos (by simpa [szOk] using hz)]
theorem kindM_lst (m : MH) (n : Nat) (xs : List MV) (h : m[n]? = some (.lst xs)) : kindM (.ref n) m = some "list" := by simp only [kindM, h]
/-! ### places -/
abbrev Se := Int × Int × Int
def encS (s : Se) : MV := .cons (.int s.1) (.cons (.int s.2.1) (.cons (.int s.2.2) .nil))
theorem ixS0 (s : Se) (m : MH) : oIx (encS s) (.int 0) m = .ok (.int s.1) m := rfl
theorem ixS1 (s : Se) (m : MH) : oIx (encS s) (.int 1) m = .ok (.int s.2.1) m := rfl
theorem ixS2 (s : Se) (m : MH) : oIx (encS s) (.int 2) m = .ok (.int s.2.2) m := rfl
structure Pl where
  line : List Int
  inside : List Int
  inner : Int
  last : Int
  count : Int
  waits : List Int
  deriving DecidableEq
def encP (p : Pl) : MV := .cons (encI p.line) (.cons (encI p.inside) (.cons (.int p.inner) (.cons (.int p.last) (.cons (.int p.count) (.cons (encI p.waits) .nil)))))
def stay (s : Se) (k : Int) : Int := if k = 1 then s.2.1 else s.2.2
def enter1 (s : Se) (k : Int) (p : Pl) : Pl :=
  { line := p.line.erase k, inside := p.inside ++ [stay s k], inner := k, last := k, count := if k = 1 ∧ 2 ∈ p.line then min 3 (p.count + 1) else 0, waits := if k = 2 then p.waits.drop 1 else p.waits }
def enterN (s : Se) (r : Ru) : Nat → Pl → List Int → Pl × List Int
  | 0, p, fo => (p, fo)
  | n + 1, p, fo => if p.line = [] then (p, fo) else
    if fitsT (pref r p.line p.last p.count p.waits) p.inside p.inner then enterN s r n (enter1 s (pref r p.line p.last p.count p.waits) p) (fo ++ [pref r p.line p.last p.count p.waits]) else (p, fo)
structure Kd (p : Pl) : Prop where
  kinds : ∀ k ∈ p.line, k = 1 ∨ k = 2
  wl : p.waits.length = p.line.count 2
theorem pref_mem {r : Ru} {l : List Int} {last count : Int} {waits : List Int} (h : l ≠ []) (hk : ∀ k ∈ l, k = 1 ∨ k = 2) : pref r l last count waits ∈ l := by
  unfold pref
  split
  · cases l with
    | nil => exact absurd rfl h
    | cons a l => simp
  · rename_i hc
    simp only [not_or, Decidable.not_not] at hc
    obtain ⟨_, h1, h2⟩ := hc
    repeat' split
    all_goals first | exact h1 | exact h2
theorem Kd.enter {s : Se} {p : Pl} {k : Int} (h : Kd p) (hk : k ∈ p.line) : Kd (enter1 s k p) := by
  refine ⟨fun j hj => h.kinds j (List.mem_of_mem_erase hj), ?_⟩
  simp only [enter1]
  have hc : (p.line.erase k).count 2 = p.line.count 2 - (if k = 2 then 1 else 0) := by
    rw [List.count_erase]
    by_cases e : k = 2 <;> simp [e]
  rw [hc]
  split
  · rename_i e
    subst e
    rw [List.length_drop, h.wl]
  · exact h.wl
theorem take_drop_erase (l : List Int) (k : Int) : l.take (l.idxOf k) ++ l.drop (l.idxOf k + 1) = l.erase k := by
  rw [← List.eraseIdx_eq_take_drop_succ, List.erase_eq_eraseIdx_of_idxOf rfl]
/-- one turn of the door -/
theorem enter_turn (s : Se) (r : Ru) (p : Pl) (fo : List Int) (f : Nat) (pl x10 x11 : Option MV) (m : MH) (hd : Kd p) (hn : p.line ≠ []) (hl : p.line.length ≤ 1000) (hi : p.inside.length ≤ 500000) (hf : m[f]? = some (.lst (fo.map .int))) (hfo : fo.length ≤ 1000) :
    lb_entered_1 [some (encS s), some (encR r), pl, some (.ref f), some (encI p.line), some (encI p.inside), some (.int p.inner), some (.int p.last), some (.int p.count), some (encI p.waits), x10, x11] m =
      (if fitsT (pref r p.line p.last p.count p.waits) p.inside p.inner = true then
        .ok (.nx [some (encS s), some (encR r), pl, some (.ref f), some (encI (enter1 s (pref r p.line p.last p.count p.waits) p).line), some (encI (enter1 s (pref r p.line p.last p.count p.waits) p).inside), some (.int (enter1 s (pref r p.line p.last p.count p.waits) p).inner), some (.int (enter1 s (pref r p.line p.last p.count p.waits) p).last), some (.int (enter1 s (pref r p.line p.last p.count p.waits) p).count), some (encI (enter1 s (pref r p.line p.last p.count p.waits) p).waits), some (.int (pref r p.line p.last p.count p.waits)), some (.int (p.line.idxOf (pref r p.line p.last p.count p.waits) : Nat))])
          (m.set f (.lst ((fo ++ [pref r p.line p.last p.count p.waits]).map .int)))
      else .ok (.bk [some (encS s), some (encR r), pl, some (.ref f), some (encI p.line), some (encI p.inside), some (.int p.inner), some (.int p.last), some (.int p.count), some (encI p.waits), some (.int (pref r p.line p.last p.count p.waits)), x11]) m) := by
  have hpf : f_preferred [encR r, encI p.line, .int p.last, .int p.count, encI p.waits] m = .ok (.int (pref r p.line p.last p.count p.waits)) m := by
    cases hp : p.line with
    | nil => exact absurd hp hn
    | cons a l =>
      refine preferred_ok r a l _ _ _ m fun _ h2 => ?_
      rw [← hp] at h2
      intro hw
      have := hd.wl
      rw [hw] at this
      have h3 := List.count_pos_iff.mpr h2
      simp at this
      omega
  generalize hk : pref r p.line p.last p.count p.waits = k at hpf ⊢
  have hmem : k ∈ p.line := by rw [← hk]; exact pref_mem hn hd.kinds
  have hkk := hd.kinds k hmem
  have hidx : p.line.idxOf k < p.line.length := List.idxOf_lt_length_iff.mpr hmem
  cases hfit : fitsT k p.inside p.inner with
  | false => simp [lb_entered_1, runB, slots, sSeq, sRet, sIf, sExpr, sAsg, gNm, Co.gCons, Co.gNil, gUnp, Co.gSub, sPar2, sPar3, cVar, cK, cBin, cUn, cNot, cAnd, cOr, cIte, cChain, aNil, aCons, cTup, cLst, cCall, cMeth, cSlice, partOf, sNx, sBrk, sCnt, sBad, sRz, cTrue, Res.bind, MV.ofL, List.map_cons, List.map_nil, List.length_cons, List.length_nil, List.cons_append, List.nil_append, List.getElem?_cons_succ, List.getElem?_cons_zero, List.set_cons_succ, List.set_cons_zero, List.replicate, Nat.reduceSub, Nat.reduceAdd, hpf, fits_ok, hfit]
  | true =>
    have e1 := sl_to m p.line (p.line.idxOf k : Nat) (by omega)
    have e2 := sl_from m p.line ((p.line.idxOf k : Nat) + 1) (by omega)
    have e3 := sl_from m p.waits 1 (by omega)
    have e4 : oAdd (encI (p.line.take (p.line.idxOf k))) (encI (p.line.drop (p.line.idxOf k + 1))) m = .ok (encI (p.line.erase k)) m := by
      rw [oAdd_I _ _ _ (by simp only [List.length_take, List.length_drop]; omega), take_drop_erase]
    have e5 : ∀ x : Int, oAdd (encI p.inside) (.cons (.int x) .nil) m = .ok (encI (p.inside ++ [x])) m := fun x => oAdd_I m p.inside [x] (by simp; omega)
    have e6 := mAppend_ok m f _ (.int k) hf (by simp; omega)
    have e7 := kindM_lst m f _ hf
    have t1 : ((p.line.idxOf k : Nat) : Int).toNat = p.line.idxOf k := by omega
    have t2 : (((p.line.idxOf k : Nat) : Int) + 1).toNat = p.line.idxOf k + 1 := by omega
    rw [t1] at e1
    rw [t2] at e2
    rcases hkk with h1 | h1
    · subst h1
      by_cases h2 : (2 : Int) ∈ p.line
      · simp [lb_entered_1, runB, slots, sSeq, sRet, sIf, sExpr, sAsg, gNm, Co.gCons, Co.gNil, gUnp, Co.gSub, sPar2, sPar3, cVar, cK, cBin, cUn, cNot, cAnd, cOr, cIte, cChain, aNil, aCons, cTup, cLst, cCall, cMeth, cSlice, partOf, sNx, sBrk, sCnt, sBad, sRz, cTrue, Res.bind, MV.ofL, List.map_cons, List.map_nil, List.length_cons, List.length_nil, List.cons_append, List.nil_append, List.getElem?_cons_succ, List.getElem?_cons_zero, List.set_cons_succ, List.set_cons_zero, List.replicate, Nat.reduceSub, Nat.reduceAdd, ixR0, ixB, ixPt, w_line, w_turns, w_one, w_bound, w_patience, oNotIn_I, oIn_I, oIx_I0, oEq_i, oNe_i, oGe_i, oGt_i, oLt_i, oLe_i, oAdd_i, oSub_i, decide_true, decide_false, Bool.not_true, Bool.not_false, hpf, fits_ok, hfit, kindM_I, mIdxT_I, hmem, h2, bMin_i, e1, e2, e4, e5, e6, e7, ixS1, enter1, stay]
      · simp [lb_entered_1, runB, slots, sSeq, sRet, sIf, sExpr, sAsg, gNm, Co.gCons, Co.gNil, gUnp, Co.gSub, sPar2, sPar3, cVar, cK, cBin, cUn, cNot, cAnd, cOr, cIte, cChain, aNil, aCons, cTup, cLst, cCall, cMeth, cSlice, partOf, sNx, sBrk, sCnt, sBad, sRz, cTrue, Res.bind, MV.ofL, List.map_cons, List.map_nil, List.length_cons, List.length_nil, List.cons_append, List.nil_append, List.getElem?_cons_succ, List.getElem?_cons_zero, List.set_cons_succ, List.set_cons_zero, List.replicate, Nat.reduceSub, Nat.reduceAdd, ixR0, ixB, ixPt, w_line, w_turns, w_one, w_bound, w_patience, oNotIn_I, oIn_I, oIx_I0, oEq_i, oNe_i, oGe_i, oGt_i, oLt_i, oLe_i, oAdd_i, oSub_i, decide_true, decide_false, Bool.not_true, Bool.not_false, hpf, fits_ok, hfit, kindM_I, mIdxT_I, hmem, h2, bMin_i, e1, e2, e4, e5, e6, e7, ixS1, enter1, stay]
    · subst h1
      simp [lb_entered_1, runB, slots, sSeq, sRet, sIf, sExpr, sAsg, gNm, Co.gCons, Co.gNil, gUnp, Co.gSub, sPar2, sPar3, cVar, cK, cBin, cUn, cNot, cAnd, cOr, cIte, cChain, aNil, aCons, cTup, cLst, cCall, cMeth, cSlice, partOf, sNx, sBrk, sCnt, sBad, sRz, cTrue, Res.bind, MV.ofL, List.map_cons, List.map_nil, List.length_cons, List.length_nil, List.cons_append, List.nil_append, List.getElem?_cons_succ, List.getElem?_cons_zero, List.set_cons_succ, List.set_cons_zero, List.replicate, Nat.reduceSub, Nat.reduceAdd, ixR0, ixB, ixPt, w_line, w_turns, w_one, w_bound, w_patience, oNotIn_I, oIn_I, oIx_I0, oEq_i, oNe_i, oGe_i, oGt_i, oLt_i, oLe_i, oAdd_i, oSub_i, decide_true, decide_false, Bool.not_true, Bool.not_false, hpf, fits_ok, hfit, kindM_I, mIdxT_I, hmem, bMin_i, e1, e2, e3, e4, e5, e6, e7, ixS2, enter1, stay]
end Lw

namespace Lw
open PySem Co
theorem set_same {m : MH} {f : Nat} {o : MO} (h : m[f]? = some o) : m.set f o = m := by
  refine List.ext_getElem? fun i => ?_
  by_cases e : f = i
  · subst e
    obtain ⟨hl, _⟩ := List.getElem?_eq_some_iff.mp h
    rw [List.getElem?_set_self hl, h]
  · rw [List.getElem?_set_ne e]
theorem lcE (m : MH) (s : Se) (r : Ru) (p : Pl) (f : Nat) (pl x10 x11 : Option MV) :
    lc_entered_1 [some (encS s), some (encR r), pl, some (.ref f), some (encI p.line), some (encI p.inside), some (.int p.inner), some (.int p.last), some (.int p.count), some (encI p.waits), x10, x11] m = .ok (.bl (!decide (p.line = []))) m := by
  have e := oNe_I m p.line []
  rw [encI_nil] at e
  simp [lc_entered_1, runB, slots, sSeq, sRet, sIf, sExpr, sAsg, gNm, Co.gCons, Co.gNil, gUnp, Co.gSub, sPar2, sPar3, cVar, cK, cBin, cUn, cNot, cAnd, cOr, cIte, cChain, aNil, aCons, cTup, cLst, cCall, cMeth, cSlice, partOf, sNx, sBrk, sCnt, sBad, sRz, cTrue, Res.bind, MV.ofL, List.map_cons, List.map_nil, List.length_cons, List.length_nil, List.cons_append, List.nil_append, List.getElem?_cons_succ, List.getElem?_cons_zero, List.set_cons_succ, List.set_cons_zero, List.replicate, Nat.reduceSub, Nat.reduceAdd, e]
theorem enter_len {s : Se} {k : Int} {p : Pl} (h : k ∈ p.line) : (enter1 s k p).line.length + 1 = p.line.length := by
  simp only [enter1]
  have := List.length_erase_of_mem h
  have h2 : 0 < p.line.length := List.length_pos_of_mem h
  omega
theorem enter_loop (s : Se) (r : Ru) (f : Nat) (pl : Option MV) : ∀ (n : Nat) (p : Pl) (fo : List Int) (m : MH) (x10 x11 : Option MV) (fuel : Nat), p.line.length ≤ n → n < fuel → Kd p → n ≤ 1000 → p.inside.length + n ≤ 500000 → m[f]? = some (.lst (fo.map .int)) → fo.length + n ≤ 1000 →
    ∃ y10 y11, whileN lc_entered_1 lb_entered_1 fuel [some (encS s), some (encR r), pl, some (.ref f), some (encI p.line), some (encI p.inside), some (.int p.inner), some (.int p.last), some (.int p.count), some (encI p.waits), x10, x11] m =
      .ok (.nx [some (encS s), some (encR r), pl, some (.ref f), some (encI (enterN s r n p fo).1.line), some (encI (enterN s r n p fo).1.inside), some (.int (enterN s r n p fo).1.inner), some (.int (enterN s r n p fo).1.last), some (.int (enterN s r n p fo).1.count), some (encI (enterN s r n p fo).1.waits), y10, y11]) (m.set f (.lst ((enterN s r n p fo).2.map .int))) := by
  intro n
  induction n with
  | zero =>
    intro p fo m x10 x11 fuel h1 h2 hd _ _ hf _
    have hl : p.line = [] := List.eq_nil_of_length_eq_zero (by omega)
    cases fuel with
    | zero => omega
    | succ fuel =>
      refine ⟨x10, x11, ?_⟩
      rw [whileN, lcE]
      simp [hl, Res.bind, enterN, set_same hf]
  | succ n ih =>
    intro p fo m x10 x11 fuel h1 h2 hd h3 h4 hf h5
    cases fuel with
    | zero => omega
    | succ fuel =>
      by_cases hl : p.line = []
      · refine ⟨x10, x11, ?_⟩
        rw [whileN, lcE]
        simp [hl, Res.bind, enterN, set_same hf]
      · rw [whileN, lcE]
        simp only [hl, decide_false, Bool.not_false, Res.bind, enterN, if_false]
        rw [enter_turn s r p fo f pl x10 x11 m hd hl (by omega) (by omega) hf (by omega)]
        generalize hk : pref r p.line p.last p.count p.waits = k
        have hmem : k ∈ p.line := by rw [← hk]; exact pref_mem hl hd.kinds
        cases hfit : fitsT k p.inside p.inner with
        | false =>
          refine ⟨some (.int k), x11, ?_⟩
          simp [set_same hf]
        | true =>
          have hlen := enter_len (s := s) hmem
          have hin : (enter1 s k p).inside.length = p.inside.length + 1 := by simp [enter1]
          obtain ⟨hfl, _⟩ := List.getElem?_eq_some_iff.mp hf
          obtain ⟨y10, y11, e⟩ := ih (enter1 s k p) (fo ++ [k]) (m.set f (.lst ((fo ++ [k]).map .int))) (some (.int k)) (some (.int (p.line.idxOf k : Nat))) fuel (by omega) (by omega) (hd.enter hmem) (by omega) (by omega) (List.getElem?_set_self hfl) (by simp; omega)
          refine ⟨y10, y11, ?_⟩
          simp only [if_true]
          rw [e, List.set_set]
theorem entered_ok (s : Se) (r : Ru) (p : Pl) (m : MH) (hd : Kd p) (h1 : p.line.length ≤ 500) (h2 : p.inside.length ≤ 400000) :
    f_entered [encS s, encR r, encP p] m = .ok (.cons (encP (enterN s r p.line.length p []).1) (.cons (.ref m.length) .nil)) (m ++ [.lst ((enterN s r p.line.length p []).2.map .int)]) := by
  obtain ⟨y10, y11, e⟩ := enter_loop s r m.length (some (encP p)) p.line.length p [] (m ++ [.lst []]) none none big (Nat.le_refl _) (by show _ < 1000000; omega) hd (by omega) (by omega) (by simp) (by simp; omega)
  have e2 : (m ++ [MO.lst []]).set m.length (.lst ((enterN s r p.line.length p []).2.map .int)) = m ++ [.lst ((enterN s r p.line.length p []).2.map .int)] := by
    rw [List.set_append_right _ _ (Nat.le_refl _)]
    simp
  rw [e2] at e
  have hb : b_entered (slots 12 [encS s, encR r, encP p]) m = .ok (.rt (.cons (encP (enterN s r p.line.length p []).1) (.cons (.ref m.length) .nil))) (m ++ [.lst ((enterN s r p.line.length p []).2.map .int)]) := by
    simp only [b_entered, runB, slots, sSeq, sRet, sIf, sExpr, sAsg, gNm, Co.gCons, Co.gNil, gUnp, Co.gSub, sPar2, sPar3, cVar, cK, cBin, cUn, cNot, cAnd, cOr, cIte, cChain, aNil, aCons, cTup, cLst, cCall, cMeth, cSlice, partOf, sNx, sBrk, sCnt, sBad, sRz, cTrue, Res.bind, MV.ofL, List.map_cons, List.map_nil, List.length_cons, List.length_nil, List.cons_append, List.nil_append, List.getElem?_cons_succ, List.getElem?_cons_zero, List.set_cons_succ, List.set_cons_zero, List.replicate, Nat.reduceSub, Nat.reduceAdd, encP, newL, szOk, Co.alloc, sWhile]
    simp only [show decide (0 ≤ 1000000) = true from rfl, if_true]
    simp only [encP] at e
    rw [e]
    simp only [runB, slots, sSeq, sRet, sIf, sExpr, sAsg, gNm, Co.gCons, Co.gNil, gUnp, Co.gSub, sPar2, sPar3, cVar, cK, cBin, cUn, cNot, cAnd, cOr, cIte, cChain, aNil, aCons, cTup, cLst, cCall, cMeth, cSlice, partOf, sNx, sBrk, sCnt, sBad, sRz, cTrue, Res.bind, MV.ofL, List.map_cons, List.map_nil, List.length_cons, List.length_nil, List.cons_append, List.nil_append, List.getElem?_cons_succ, List.getElem?_cons_zero, List.set_cons_succ, List.set_cons_zero, List.replicate, Nat.reduceSub, Nat.reduceAdd]
  show (b_entered (slots 12 [encS s, encR r, encP p]) m).bind _ = _
  rw [hb]
  rfl
end Lw

namespace Lw
open PySem Co
/-! ### comprehensions -/
theorem comp_pure {s : Src} {g : CG} {c e : CE} {r : Sl} {m : MH} {xs : List MV} {G : MV → Sl} {C : MV → Bool} {V : MV → MV} (hs : ∀ j, s.at j m = some xs[j]?)
    (hg : ∀ x ∈ xs, g x r m = .ok (G x) m) (hc : ∀ x ∈ xs, c (G x) m = .ok (.bl (C x)) m) (he : ∀ x ∈ xs, C x = true → e (G x) m = .ok (V x) m) :
    ∀ (ys : List MV) (i fuel : Nat) (acc : List MV), xs.drop i = ys → ys.length < fuel → compN s g c e r fuel i acc m = .ok (acc ++ (ys.filter C).map V) m
  | [], i, fuel, acc, hd, hf => by
    cases fuel with
    | zero => simp at hf
    | succ fuel =>
      rw [compN, hs]
      have : xs[i]? = none := List.getElem?_eq_none (by have := congrArg List.length hd; simp at this; omega)
      rw [this]
      simp
  | y :: ys, i, fuel, acc, hd, hf => by
    cases fuel with
    | zero => simp at hf
    | succ fuel =>
      have hi : xs[i]? = some y := by
        have h := congrArg (fun l => l[0]?) hd
        simp only [List.getElem?_drop, Nat.add_zero, List.getElem?_cons_zero] at h
        exact h
      have hmem : y ∈ xs := List.mem_of_getElem? hi
      have hd2 : xs.drop (i + 1) = ys := by
        rw [← List.drop_drop, hd]
        rfl
      rw [compN, hs, hi]
      simp only [hg y hmem, Res.bind, hc y hmem]
      cases hC : C y with
      | true =>
        simp only [he y hmem hC]
        rw [comp_pure hs hg hc he ys (i + 1) fuel _ hd2 (by simp at hf; omega)]
        simp [hC, List.append_assoc]
      | false =>
        rw [comp_pure hs hg hc he ys (i + 1) fuel _ hd2 (by simp at hf; omega)]
        simp [hC]
/-- the items come one by one; what is made meanwhile stays -/
theorem comp_grow {s : Src} {g : CG} {c e : CE} {r : Sl} {m : MH} {xs : List MV} {G : MV → Sl} {C : MV → Bool} {V : MV → MV} (hs : ∀ j g', s.at j (m ++ g') = some xs[j]?)
    (hg : ∀ x ∈ xs, ∀ g', g x r (m ++ g') = .ok (G x) (m ++ g')) (hc : ∀ x ∈ xs, ∀ g', c (G x) (m ++ g') = .ok (.bl (C x)) (m ++ g')) (he : ∀ x ∈ xs, ∀ g', C x = true → ∃ g2, e (G x) (m ++ g') = .ok (V x) (m ++ g' ++ g2)) :
    ∀ (ys : List MV) (i fuel : Nat) (acc : List MV) (g' : MH), xs.drop i = ys → ys.length < fuel → ∃ g2, compN s g c e r fuel i acc (m ++ g') = .ok (acc ++ (ys.filter C).map V) (m ++ g' ++ g2)
  | [], i, fuel, acc, g', hd, hf => by
    cases fuel with
    | zero => simp at hf
    | succ fuel =>
      refine ⟨[], ?_⟩
      rw [compN, hs]
      have : xs[i]? = none := List.getElem?_eq_none (by have := congrArg List.length hd; simp at this; omega)
      rw [this]
      simp
  | y :: ys, i, fuel, acc, g', hd, hf => by
    cases fuel with
    | zero => simp at hf
    | succ fuel =>
      have hi : xs[i]? = some y := by
        have h := congrArg (fun l => l[0]?) hd
        simp only [List.getElem?_drop, Nat.add_zero, List.getElem?_cons_zero] at h
        exact h
      have hmem : y ∈ xs := List.mem_of_getElem? hi
      have hd2 : xs.drop (i + 1) = ys := by
        rw [← List.drop_drop, hd]
        rfl
      rw [compN, hs, hi]
      simp only [hg y hmem, Res.bind, hc y hmem]
      cases hC : C y with
      | true =>
        obtain ⟨g2, e2⟩ := he y hmem g' hC
        simp only [e2]
        rw [List.append_assoc]
        obtain ⟨g3, e3⟩ := comp_grow hs hg hc he ys (i + 1) fuel (acc ++ [V y]) (g' ++ g2) hd2 (by simp at hf; omega)
        exact ⟨g2 ++ g3, by rw [e3]; simp [hC, List.append_assoc]⟩
      | false =>
        obtain ⟨g3, e3⟩ := comp_grow hs hg hc he ys (i + 1) fuel acc g' hd2 (by simp at hf; omega)
        exact ⟨g3, by simp only []; rw [e3]; simp [hC]⟩
theorem newL_ok' (xs : List MV) (m : MH) (h : xs.length ≤ 1000000) : newL xs m = .ok (.ref m.length) (m ++ [.lst xs]) := by
  unfold newL
  rw [if_pos (by simpa [szOk] using h)]
  rfl
theorem lstAt_last (m : MH) (xs : List MV) : lstAt m.length (m ++ [.lst xs]) = some xs := by simp [lstAt]
theorem bTuple_last (m : MH) (xs : List MV) : bTuple [.ref m.length] (m ++ [.lst xs]) = .ok (MV.ofL xs) (m ++ [.lst xs]) := by simp [bTuple, lstAt_last]
theorem iSeq_I (l : List Int) (e : CE) (r : Sl) (m : MH) (h : e r m = .ok (encI l) m) : iSeq e r m = .ok (.its (l.map .int)) m := by
  unfold iSeq
  rw [h]
  simp only [Res.bind]
  cases l with
  | nil => rfl
  | cons a l =>
    show (match (encI (a :: l)).toL with
      | some xs => Res.ok (Src.its xs) m
      | none => .bad) = _
    rw [toL_encI]
theorem its_at (xs : List MV) (m : MH) : ∀ j, (Src.its xs).at j m = some xs[j]? := fun _ => rfl
theorem filterMapI {C : Int → Bool} {V : Int → Int} {C' : MV → Bool} {V' : MV → MV} (hc : ∀ x, C' (.int x) = C x) (hv : ∀ x, V' (.int x) = .int (V x)) : ∀ l : List Int, ((l.map MV.int).filter C').map V' = ((l.filter C).map V).map .int
  | [] => rfl
  | a :: l => by
    simp only [List.map_cons, List.filter_cons, hc]
    cases C a with
    | true => simp [hv, filterMapI hc hv l]
    | false => simp [filterMapI hc hv l]
/-! ### a tick -/
def outInside (l : List Int) : List Int := (l.filter fun x => decide (1 < x)).map fun x => x - 1
def outWaits (l : List Int) : List Int := l.map fun x => min 3 (x + 1)
def unI : MV → Int
  | .int i => i
  | _ => 0
theorem cp_tick_1_ok (r : Sl) (m : MH) (l : List Int) (h7 : r[7]? = some (some (encI l))) (h14 : 14 < r.length) (hl : l.length ≤ 900000) : cp_tick_1 r m = .ok (.ref m.length) (m ++ [.lst ((outInside l).map .int)]) := by
  have hs : iSeq (cVar 7) r m = .ok (.its (l.map .int)) m := iSeq_I l _ r m (by simp [cVar, h7])
  have hg : ∀ x : MV, (((wipeM r [14]).set 14 (some x))[14]?) = some (some x) := fun x => by
    rw [List.getElem?_set_self]
    simp [wipeM]; exact h14
  have e := comp_pure (s := .its (l.map .int)) (g := gNm 14) (c := cBin oGt (cVar 14) (cK (.int 1))) (e := cBin oSub (cVar 14) (cK (.int 1))) (r := wipeM r [14]) (m := m) (xs := l.map .int) (G := fun x => (wipeM r [14]).set 14 (some x)) (C := fun x => decide (1 < unI x)) (V := fun x => .int (unI x - 1)) (its_at _ _)
    (fun x hx => rfl) (fun x hx => by obtain ⟨i, _, rfl⟩ := List.mem_map.mp hx; simp only [cBin, cVar, hg, cK, Res.bind]; rfl) (fun x hx _ => by obtain ⟨i, _, rfl⟩ := List.mem_map.mp hx; simp [cBin, cVar, hg, cK, Res.bind, oSub_i, unI])
    (l.map .int) 0 big [] rfl (by show (l.map MV.int).length < 1000000; rw [List.length_map]; omega)
  rw [filterMapI (C := fun x => decide (1 < x)) (V := fun x => x - 1) (fun _ => rfl) (fun _ => rfl)] at e
  unfold cp_tick_1 cComp
  rw [hs]
  simp only [Res.bind, e, List.nil_append]
  refine newL_ok' _ m ?_
  have := List.length_filter_le (fun x => decide (1 < x)) l
  simp
  omega
theorem cp_tick_2_ok (r : Sl) (m : MH) (l : List Int) (h8 : r[8]? = some (some (encI l))) (h15 : 15 < r.length) (hl : l.length ≤ 900000) : cp_tick_2 r m = .ok (.ref m.length) (m ++ [.lst ((outWaits l).map .int)]) := by
  have hs : iSeq (cVar 8) r m = .ok (.its (l.map .int)) m := iSeq_I l _ r m (by simp [cVar, h8])
  have hg : ∀ x : MV, (((wipeM r [15]).set 15 (some x))[15]?) = some (some x) := fun x => by
    rw [List.getElem?_set_self]
    simp [wipeM]; exact h15
  have e := comp_pure (s := .its (l.map .int)) (g := gNm 15) (c := cTrue) (e := (cCall bMin (aCons (cK (.int 3)) (aCons (cBin oAdd (cVar 15) (cK (.int 1))) aNil)))) (r := wipeM r [15]) (m := m) (xs := l.map .int) (G := fun x => (wipeM r [15]).set 15 (some x)) (C := fun x => true) (V := fun x => .int (min 3 (unI x + 1))) (its_at _ _)
    (fun x hx => rfl) (fun x hx => rfl) (fun x hx _ => by obtain ⟨i, _, rfl⟩ := List.mem_map.mp hx; simp [cBin, cVar, hg, cK, cCall, aCons, aNil, Res.bind, oAdd_i, bMin_i, unI])
    (l.map .int) 0 big [] rfl (by show (l.map MV.int).length < 1000000; rw [List.length_map]; omega)
  rw [filterMapI (C := fun x => true) (V := fun x => min 3 (x + 1)) (fun _ => rfl) (fun _ => rfl), show l.filter (fun _ => true) = l from List.filter_eq_self.mpr (fun _ _ => rfl)] at e
  unfold cp_tick_2 cComp
  rw [hs]
  simp only [Res.bind, e, List.nil_append]
  exact newL_ok' _ m (by simp; omega)
abbrev Nt := Int × Int × Bool
def encN (n : Nt) : MV := .cons (.int n.1) (.cons (.int n.2.1) (.cons (.bl n.2.2) .nil))
def encT (t : Int × Int) : MV := .cons (.int t.1) (.cons (.int t.2) .nil)
def isLost (s : Se) (p : Pl) (c : Int) : Bool := decide (0 < c) && decide ((p.line.length : Int) = s.1)
def joinL (s : Se) (p : Pl) (c : Int) : Pl := if 0 < c ∧ isLost s p c = false then { p with count := if c = 2 ∧ 2 ∉ p.line then 0 else p.count, line := p.line ++ [c], waits := p.waits ++ List.replicate (c - 1).toNat 0 } else p
def outP (p : Pl) : Pl := { p with inside := outInside p.inside, waits := outWaits p.waits, inner := if outInside p.inside = [] then 0 else p.inner }
def enterP (s : Se) (r : Ru) (p : Pl) : Pl × List Int := enterN s r p.line.length p []
def tickP (s : Se) (r : Ru) (p : Pl) (c : Int) : Pl := outP (enterP s r (joinL s p c)).1
def tickN (s : Se) (r : Ru) (p : Pl) (c : Int) : Nt := (((enterP s r (joinL s p c)).2.count 1 : Nat), ((enterP s r (joinL s p c)).2.count 2 : Nat), isLost s p c)
def tickT (s : Se) (r : Ru) (p : Pl) (c : Int) : Int × Int := if (enterP s r (joinL s p c)).1.inner = 1 then ((enterP s r (joinL s p c)).1.inside.length, 0) else (0, (enterP s r (joinL s p c)).1.inside.length)
theorem Kd.join {s : Se} {p : Pl} {c : Int} (h : Kd p) (hc : c = 0 ∨ c = 1 ∨ c = 2) : Kd (joinL s p c) := by
  unfold joinL
  split
  · rename_i h0
    refine ⟨fun k hk => ?_, ?_⟩
    · rcases List.mem_append.mp hk with hk | hk
      · exact h.kinds k hk
      · have : k = c := by simpa using hk
        subst this
        omega
    · simp only [List.length_append, List.length_replicate, List.count_append, h.wl]
      rcases hc with rfl | rfl | rfl <;> simp at h0 ⊢
  · exact h
theorem enterN_inside (s : Se) (r : Ru) : ∀ (n : Nat) (p : Pl) (fo : List Int), (enterN s r n p fo).1.inside.length ≤ p.inside.length + n ∧ (enterN s r n p fo).1.line.length ≤ p.line.length ∧ (enterN s r n p fo).1.waits.length ≤ p.waits.length
  | 0, p, fo => by simp [enterN]
  | n + 1, p, fo => by
    unfold enterN
    split
    · simp
    · split
      · have := enterN_inside s r n (enter1 s (pref r p.line p.last p.count p.waits) p) (fo ++ [pref r p.line p.last p.count p.waits])
        have h1 : (enter1 s (pref r p.line p.last p.count p.waits) p).inside.length = p.inside.length + 1 := by simp [enter1]
        have h2 : (enter1 s (pref r p.line p.last p.count p.waits) p).line.length ≤ p.line.length := by
          simp only [enter1]; rw [List.length_erase]; split <;> omega
        have h3 : (enter1 s (pref r p.line p.last p.count p.waits) p).waits.length ≤ p.waits.length := by
          simp only [enter1]; split
          · rw [List.length_drop]; omega
          · exact Nat.le_refl _
        omega
      · simp
theorem Kd.enterN {s : Se} {r : Ru} : ∀ (n : Nat) (p : Pl) (fo : List Int), Kd p → Kd (enterN s r n p fo).1
  | 0, p, fo, h => h
  | n + 1, p, fo, h => by
    unfold Lw.enterN
    split
    · exact h
    · rename_i hl
      split
      · exact Kd.enterN n _ _ (h.enter (pref_mem hl h.kinds))
      · exact h
theorem Kd.out {p : Pl} (h : Kd p) : Kd (outP p) := ⟨h.kinds, by simp [outP, outWaits, h.wl]⟩
theorem Kd.tick {s : Se} {r : Ru} {p : Pl} {c : Int} (h : Kd p) (hc : c = 0 ∨ c = 1 ∨ c = 2) : Kd (tickP s r p c) := (Kd.enterN _ _ _ (h.join hc)).out
theorem mCntL_ok (m : MH) (n : Nat) (l : List Int) (k : Int) (h : m[n]? = some (.lst (l.map .int))) : mCntL (.ref n) [.int k] m = .ok (.int (l.count k : Nat)) m := by
  simp only [mCntL, lstOf, lstAt, h, Option.bind_some, asInts_map]
theorem bLen_I (m : MH) (l : List Int) : bLen [encI l] m = .ok (.int l.length) m := by
  cases l with
  | nil => rfl
  | cons a l =>
    have h2 : seqAt (encI (a :: l)) m = some ((a :: l).map .int) := toL_encI _
    have h : bLen [encI (a :: l)] m = (match seqAt (encI (a :: l)) m with
      | some xs => .ok (.int xs.length) m
      | none => match encI (a :: l) with
        | .ref n => match dctAt n m with
          | some kvs => .ok (.int kvs.length) m
          | none => .bad
        | _ => .bad) := rfl
    rw [h, h2]
    simp
theorem oMul_01 (m : MH) (c : Int) (hc : c = 1 ∨ c = 2) : oMul (.cons (.int 0) .nil) (.int (c - 1)) m = .ok (encI (List.replicate (c - 1).toNat 0)) m := by
  rcases hc with rfl | rfl <;> rfl
theorem tick_ok (s : Se) (r : Ru) (p : Pl) (c : Int) (m : MH) (hd : Kd p) (hc : c = 0 ∨ c = 1 ∨ c = 2) (h1 : p.line.length ≤ 100) (h2 : p.inside.length ≤ 100000) :
    ∃ g, f_tick [encS s, encR r, encP p, .int c] m = .ok (.cons (encP (tickP s r p c)) (.cons (encN (tickN s r p c)) (.cons (encT (tickT s r p c)) .nil))) (m ++ g) := by
  have hj := hd.join (s := s) hc
  have hw : p.waits.length ≤ 100 := by rw [hd.wl]; exact Nat.le_trans List.count_le_length h1
  have jl : (joinL s p c).line.length ≤ 101 := by unfold joinL; split <;> first | (simp; omega) | omega
  have ji : (joinL s p c).inside.length ≤ 100000 := by unfold joinL; split <;> first | (simp; omega) | omega
  have jw : (joinL s p c).waits.length ≤ 200 := by
    unfold joinL; split
    · simp only [List.length_append, List.length_replicate]; omega
    · omega
  have ent := entered_ok s r (joinL s p c) m hj (by omega) (by omega)
  have bd := enterN_inside s r (joinL s p c).line.length (joinL s p c) []
  generalize hE : enterN s r (joinL s p c).line.length (joinL s p c) [] = E at ent bd
  have hE' : enterP s r (joinL s p c) = E := hE
  refine ⟨[.lst (E.2.map .int)] ++ [.lst ((outInside E.1.inside).map .int)] ++ [.lst ((outWaits E.1.waits).map .int)], ?_⟩
  -- the heaps, one behind the other
  obtain ⟨m1, hm1⟩ : ∃ m1, m1 = m ++ [MO.lst (E.2.map .int)] := ⟨_, rfl⟩
  obtain ⟨m2, hm2⟩ : ∃ m2, m2 = m1 ++ [MO.lst ((outInside E.1.inside).map .int)] := ⟨_, rfl⟩
  obtain ⟨m3, hm3⟩ : ∃ m3, m3 = m2 ++ [MO.lst ((outWaits E.1.waits).map .int)] := ⟨_, rfl⟩
  have hend : m ++ ([MO.lst (E.2.map .int)] ++ [.lst ((outInside E.1.inside).map .int)] ++ [.lst ((outWaits E.1.waits).map .int)]) = m3 := by
    rw [hm3, hm2, hm1]; simp
  rw [hend]
  have g1 : m1[m.length]? = some (.lst (E.2.map .int)) := by rw [hm1]; simp
  rw [← hm1] at ent
  have q1 : ∀ r : Sl, r[7]? = some (some (encI E.1.inside)) → 14 < r.length → cp_tick_1 r m1 = .ok (.ref m1.length) m2 := fun r a b => by
    rw [hm2]; exact cp_tick_1_ok r m1 _ a b (by omega)
  have q2 : ∀ r : Sl, r[8]? = some (some (encI E.1.waits)) → 15 < r.length → cp_tick_2 r m2 = .ok (.ref m2.length) m3 := fun r a b => by
    rw [hm3]; exact cp_tick_2_ok r m2 _ a b (by omega)
  have t1 : bTuple [.ref m1.length] m2 = .ok (encI (outInside E.1.inside)) m2 := by rw [hm2]; exact bTuple_last m1 _
  have t2 : bTuple [.ref m2.length] m3 = .ok (encI (outWaits E.1.waits)) m3 := by rw [hm3]; exact bTuple_last m2 _
  have k1 := kindM_lst m1 m.length _ g1
  have k2 := fun k => mCntL_ok m1 m.length E.2 k g1
  have n1 := oNe_I m3 (outInside E.1.inside) []
  rw [encI_nil] at n1
  have n0 : oNe (encI []) .nil m3 = .ok (.bl false) m3 := rfl
  simp only [tickP, tickN, tickT, hE', outP]
  have aL : oAdd (encI p.line) (.cons (.int c) .nil) m = .ok (encI (p.line ++ [c])) m := oAdd_I m p.line [c] (by simp; omega)
  have aW : ∀ l : List Int, l.length ≤ 10 → oAdd (encI p.waits) (encI l) m = .ok (encI (p.waits ++ l)) m := fun l hl => oAdd_I m p.waits l (by omega)
  by_cases hj0 : 0 < c ∧ isLost s p c = false
  · have hJ : joinL s p c = { p with count := if c = 2 ∧ 2 ∉ p.line then 0 else p.count, line := p.line ++ [c], waits := p.waits ++ List.replicate (c - 1).toNat 0 } := by unfold joinL; rw [if_pos hj0]
    rw [hJ] at ent
    simp only [encP] at ent
    have hnl : ¬ ((p.line.length : Int) = s.1) := by
      have := hj0.2
      unfold isLost at this
      simp [hj0.1] at this
      exact this
    have hc12 : c = 1 ∨ c = 2 := by omega
    have mu1 : oMul (.cons (.int 0) .nil) (.int 0) m = .ok (encI []) m := rfl
    have mu2 : oMul (.cons (.int 0) .nil) (.int 1) m = .ok (encI [0]) m := rfl
    have aW1 : oAdd (encI p.waits) (encI []) m = .ok (encI p.waits) m := by
      have := aW [] (by simp)
      rw [List.append_nil] at this
      exact this
    have aW2 : oAdd (encI p.waits) (encI [0]) m = .ok (encI (p.waits ++ [0])) m := aW [0] (by simp)
    rcases hc12 with rfl | rfl
    · simp at ent
      by_cases hin : E.1.inner = 1 <;> by_cases hou : outInside E.1.inside = []
      all_goals simp [f_tick, b_tick, runB, slots, sSeq, sRet, sIf, sExpr, sAsg, gNm, Co.gCons, Co.gNil, gUnp, Co.gSub, sPar2, sPar3, cVar, cK, cBin, cUn, cNot, cAnd, cOr, cIte, cChain, aNil, aCons, cTup, cLst, cCall, cMeth, cSlice, partOf, sNx, sBrk, sCnt, sBad, sRz, cTrue, Res.bind, MV.ofL, List.map_cons, List.map_nil, List.length_cons, List.length_nil, List.cons_append, List.nil_append, List.getElem?_cons_succ, List.getElem?_cons_zero, List.set_cons_succ, List.set_cons_zero, List.replicate, Nat.reduceSub, Nat.reduceAdd, ixR0, ixB, ixPt, w_line, w_turns, w_one, w_bound, w_patience, oNotIn_I, oIn_I, oIx_I0, oEq_i, oNe_i, oGe_i, oGt_i, oLt_i, oLe_i, oAdd_i, oSub_i, decide_true, decide_false, Bool.not_true, Bool.not_false, encP, bLen_I, ixS0, hnl, aL, mu1, aW1, ent, k1, k2, q1, q2, t1, t2, n1, n0, hin, hou, hj0.2, encN, encT]
    · by_cases h2 : (2 : Int) ∈ p.line
      · simp [h2] at ent
        by_cases hin : E.1.inner = 1 <;> by_cases hou : outInside E.1.inside = []
        all_goals simp [f_tick, b_tick, runB, slots, sSeq, sRet, sIf, sExpr, sAsg, gNm, Co.gCons, Co.gNil, gUnp, Co.gSub, sPar2, sPar3, cVar, cK, cBin, cUn, cNot, cAnd, cOr, cIte, cChain, aNil, aCons, cTup, cLst, cCall, cMeth, cSlice, partOf, sNx, sBrk, sCnt, sBad, sRz, cTrue, Res.bind, MV.ofL, List.map_cons, List.map_nil, List.length_cons, List.length_nil, List.cons_append, List.nil_append, List.getElem?_cons_succ, List.getElem?_cons_zero, List.set_cons_succ, List.set_cons_zero, List.replicate, Nat.reduceSub, Nat.reduceAdd, ixR0, ixB, ixPt, w_line, w_turns, w_one, w_bound, w_patience, oNotIn_I, oIn_I, oIx_I0, oEq_i, oNe_i, oGe_i, oGt_i, oLt_i, oLe_i, oAdd_i, oSub_i, decide_true, decide_false, Bool.not_true, Bool.not_false, encP, bLen_I, ixS0, hnl, aL, mu2, aW2, ent, h2, k1, k2, q1, q2, t1, t2, n1, n0, hin, hou, hj0.2, encN, encT]
      · simp [h2] at ent
        by_cases hin : E.1.inner = 1 <;> by_cases hou : outInside E.1.inside = []
        all_goals simp [f_tick, b_tick, runB, slots, sSeq, sRet, sIf, sExpr, sAsg, gNm, Co.gCons, Co.gNil, gUnp, Co.gSub, sPar2, sPar3, cVar, cK, cBin, cUn, cNot, cAnd, cOr, cIte, cChain, aNil, aCons, cTup, cLst, cCall, cMeth, cSlice, partOf, sNx, sBrk, sCnt, sBad, sRz, cTrue, Res.bind, MV.ofL, List.map_cons, List.map_nil, List.length_cons, List.length_nil, List.cons_append, List.nil_append, List.getElem?_cons_succ, List.getElem?_cons_zero, List.set_cons_succ, List.set_cons_zero, List.replicate, Nat.reduceSub, Nat.reduceAdd, ixR0, ixB, ixPt, w_line, w_turns, w_one, w_bound, w_patience, oNotIn_I, oIn_I, oIx_I0, oEq_i, oNe_i, oGe_i, oGt_i, oLt_i, oLe_i, oAdd_i, oSub_i, decide_true, decide_false, Bool.not_true, Bool.not_false, encP, bLen_I, ixS0, hnl, aL, mu2, aW2, ent, h2, k1, k2, q1, q2, t1, t2, n1, n0, hin, hou, hj0.2, encN, encT]
  · have hJ : joinL s p c = p := by unfold joinL; rw [if_neg hj0]
    rw [hJ] at ent
    simp only [encP] at ent
    by_cases hin : E.1.inner = 1 <;> by_cases hou : outInside E.1.inside = []
    all_goals
      by_cases h0 : 0 < c
      · have hlo : isLost s p c = true := by
          cases h : isLost s p c
          · exact absurd ⟨h0, h⟩ hj0
          · rfl
        have hl : (p.line.length : Int) = s.1 := by
          unfold isLost at hlo
          simp [h0] at hlo
          exact hlo
        simp [f_tick, b_tick, runB, slots, sSeq, sRet, sIf, sExpr, sAsg, gNm, Co.gCons, Co.gNil, gUnp, Co.gSub, sPar2, sPar3, cVar, cK, cBin, cUn, cNot, cAnd, cOr, cIte, cChain, aNil, aCons, cTup, cLst, cCall, cMeth, cSlice, partOf, sNx, sBrk, sCnt, sBad, sRz, cTrue, Res.bind, MV.ofL, List.map_cons, List.map_nil, List.length_cons, List.length_nil, List.cons_append, List.nil_append, List.getElem?_cons_succ, List.getElem?_cons_zero, List.set_cons_succ, List.set_cons_zero, List.replicate, Nat.reduceSub, Nat.reduceAdd, ixR0, ixB, ixPt, w_line, w_turns, w_one, w_bound, w_patience, oNotIn_I, oIn_I, oIx_I0, oEq_i, oNe_i, oGe_i, oGt_i, oLt_i, oLe_i, oAdd_i, oSub_i, decide_true, decide_false, Bool.not_true, Bool.not_false, encP, bLen_I, ixS0, hl, h0, ent, k1, k2, q1, q2, t1, t2, n1, n0, hin, hou, hlo, encN, encT]
      · have hlo : isLost s p c = false := by unfold isLost; simp [h0]
        simp [f_tick, b_tick, runB, slots, sSeq, sRet, sIf, sExpr, sAsg, gNm, Co.gCons, Co.gNil, gUnp, Co.gSub, sPar2, sPar3, cVar, cK, cBin, cUn, cNot, cAnd, cOr, cIte, cChain, aNil, aCons, cTup, cLst, cCall, cMeth, cSlice, partOf, sNx, sBrk, sCnt, sBad, sRz, cTrue, Res.bind, MV.ofL, List.map_cons, List.map_nil, List.length_cons, List.length_nil, List.cons_append, List.nil_append, List.getElem?_cons_succ, List.getElem?_cons_zero, List.set_cons_succ, List.set_cons_zero, List.replicate, Nat.reduceSub, Nat.reduceAdd, ixR0, ixB, ixPt, w_line, w_turns, w_one, w_bound, w_patience, oNotIn_I, oIn_I, oIx_I0, oEq_i, oNe_i, oGe_i, oGt_i, oLt_i, oLe_i, oAdd_i, oSub_i, decide_true, decide_false, Bool.not_true, Bool.not_false, encP, bLen_I, ixS0, h0, ent, k1, k2, q1, q2, t1, t2, n1, n0, hin, hou, hlo, encN, encT]
end Lw

namespace Lw
open PySem Co
/-! ### a run -/
abbrev Q := Pl × Nt × (Int × Int)
def encQ (q : Q) : MV := .cons (encP q.1) (.cons (encN q.2.1) (.cons (encT q.2.2) .nil))
def tickQ (s : Se) (r : Ru) (p : Pl) (c : Int) : Q := (tickP s r p c, tickN s r p c, tickT s r p c)
def runL (s : Se) (r : Ru) : Pl → List Int → List Q
  | _, [] => []
  | p, c :: cs => tickQ s r p c :: runL s r (tickP s r p c) cs
def p0 : Pl := ⟨[], [], 0, 0, 0, []⟩
theorem runL_len (s : Se) (r : Ru) : ∀ (p : Pl) (cs : List Int), (runL s r p cs).length = cs.length
  | _, [] => rfl
  | p, c :: cs => by simp [runL, runL_len s r _ cs]
theorem Kd.p0 : Kd p0 := ⟨by simp [Lw.p0], rfl⟩
theorem begun_ok (m : MH) : f_begun [] m = .ok (encP p0) m := rfl
def Is012 (cs : List Int) : Prop := ∀ c ∈ cs, c = 0 ∨ c = 1 ∨ c = 2
theorem joinL_len (s : Se) (p : Pl) (c : Int) : (joinL s p c).line.length ≤ p.line.length + 1 ∧ (joinL s p c).inside.length = p.inside.length := by
  unfold joinL; split <;> simp
theorem tickP_len (s : Se) (r : Ru) (p : Pl) (c : Int) : (tickP s r p c).line.length ≤ p.line.length + 1 ∧ (tickP s r p c).inside.length ≤ p.inside.length + p.line.length + 1 := by
  have h := joinL_len s p c
  have h2 := enterN_inside s r (joinL s p c).line.length (joinL s p c) []
  simp only [tickP, outP, enterP, outInside, List.length_map]
  have h3 := List.length_filter_le (fun x => decide (1 < x)) (enterN s r (joinL s p c).line.length (joinL s p c) []).1.inside
  omega
theorem lstAt_some {m : MH} {n : Nat} {xs : List MV} (h : m[n]? = some (.lst xs)) : lstAt n m = some xs := by simp [lstAt, h]
theorem run_loop (s : Se) (r : Ru) (c n : Nat) (cs : List Int) (hcs : Is012 cs) (hne : c ≠ n) : ∀ (ys : List Int) (i fuel : Nat) (p : Pl) (m : MH) (done : List Q) (v3 v6 v7 : Option MV),
    cs.drop i = ys → ys.length < fuel → Kd p → p.line.length + ys.length ≤ 100 → p.inside.length + 100 * ys.length ≤ 100000 → done.length + ys.length ≤ 1000 →
    m[c]? = some (.lst (cs.map .int)) → m[n]? = some (.lst (done.map encQ)) →
    ∃ p' w3 w6 w7 m', forN (.lst c) (gNm 3) lb_run_1 fuel i [some (encS s), some (encR r), some (.ref c), v3, some (encP p), some (.ref n), v6, v7] m =
      .ok (.nx [some (encS s), some (encR r), some (.ref c), w3, some (encP p'), some (.ref n), w6, w7]) m' ∧ Ke [n] m m' ∧ m'[n]? = some (.lst ((done ++ runL s r p ys).map encQ))
  | [], i, fuel, p, m, done, v3, v6, v7, hd, hf, hk, h1, h2, h3, hc, hn => by
    cases fuel with
    | zero => simp at hf
    | succ fuel =>
      refine ⟨p, v3, v6, v7, m, ?_, Ke.refl, by simpa [runL] using hn⟩
      have hi : cs[i]? = none := List.getElem?_eq_none (by have := congrArg List.length hd; simp at this; omega)
      rw [forN]
      simp only [Src.at, lstAt_some hc, Option.map_some, List.getElem?_map, hi, Option.map_none]
  | y :: ys, i, fuel, p, m, done, v3, v6, v7, hd, hf, hk, h1, h2, h3, hc, hn => by
    cases fuel with
    | zero => simp at hf
    | succ fuel =>
      have hi : cs[i]? = some y := by
        have h := congrArg (fun l => l[0]?) hd
        simp only [List.getElem?_drop, Nat.add_zero, List.getElem?_cons_zero] at h
        exact h
      have hd2 : cs.drop (i + 1) = ys := by
        rw [← List.drop_drop, hd]
        rfl
      simp only [List.length_cons] at hf h1 h2 h3
      have hy := hcs y (List.mem_of_getElem? hi)
      obtain ⟨g, e⟩ := tick_ok s r p y m hk hy (by omega) (by omega)
      have tl := tickP_len s r p y
      have hn1 : (m ++ g)[n]? = some (.lst (done.map encQ)) := (Ke.app (S := []) m g).get hn
      have hc1 : (m ++ g)[c]? = some (.lst (cs.map .int)) := (Ke.app (S := []) m g).get hc
      have ea := mAppend_ok (m ++ g) n _ (encQ (tickQ s r p y)) hn1 (by simp; omega)
      have ek := kindM_lst (m ++ g) n _ hn1
      obtain ⟨hnl, _⟩ := List.getElem?_eq_some_iff.mp hn1
      obtain ⟨p', w3, w6, w7, m', e2, k2, n2⟩ := run_loop s r c n cs hcs hne ys (i + 1) fuel (tickP s r p y) ((m ++ g).set n (.lst ((done ++ [tickQ s r p y]).map encQ))) (done ++ [tickQ s r p y]) (some (.int y)) (some (encN (tickN s r p y))) (some (encT (tickT s r p y))) hd2 (by omega) (hk.tick hy) (by omega) (by omega) (by simp; omega) (by rw [List.getElem?_set_ne (Ne.symm hne)]; exact hc1) (List.getElem?_set_self hnl)
      refine ⟨p', w3, w6, w7, m', ?_, ((Ke.app m g).trans (Ke.set (by simp))).trans k2, by rw [n2]; simp [runL, tickQ]⟩
      rw [forN]
      simp only [Src.at, lstAt_some hc, Option.map_some, List.getElem?_map, hi]
      have eb : lb_run_1 [some (encS s), some (encR r), some (.ref c), some (.int y), some (encP p), some (.ref n), v6, v7] m = .ok (.nx [some (encS s), some (encR r), some (.ref c), some (.int y), some (encP (tickP s r p y)), some (.ref n), some (encN (tickN s r p y)), some (encT (tickT s r p y))]) ((m ++ g).set n (.lst ((done ++ [tickQ s r p y]).map encQ))) := by
        have ea' : mAppend (.ref n) [.cons (encP (tickP s r p y)) (.cons (encN (tickN s r p y)) (.cons (encT (tickT s r p y)) .nil))] (m ++ g) = .ok .non ((m ++ g).set n (.lst ((done ++ [tickQ s r p y]).map encQ))) := by
          rw [List.map_append]; exact ea
        simp only [lb_run_1, runB, slots, sSeq, sRet, sIf, sExpr, sAsg, gNm, Co.gCons, Co.gNil, gUnp, Co.gSub, sPar2, sPar3, cVar, cK, cBin, cUn, cNot, cAnd, cOr, cIte, cChain, aNil, aCons, cTup, cLst, cCall, cMeth, cSlice, partOf, sNx, sBrk, sCnt, sBad, sRz, cTrue, Res.bind, MV.ofL, List.map_cons, List.map_nil, List.length_cons, List.length_nil, List.cons_append, List.nil_append, List.getElem?_cons_succ, List.getElem?_cons_zero, List.set_cons_succ, List.set_cons_zero, List.replicate, Nat.reduceSub, Nat.reduceAdd, e, ek, ea', if_true]
      simp only [gNm, List.set_cons_succ, List.set_cons_zero, Res.bind, eb]
      exact e2
/-- a call that makes a list -/
def Gives (x : Res MV) (m : MH) (xs : List MV) : Prop := ∃ n m', x = .ok (.ref n) m' ∧ Ke [] m m' ∧ m.length ≤ n ∧ m'[n]? = some (.lst xs)
structure CsOk (cs : List Int) : Prop where
  len : cs.length ≤ 40
  is : Is012 cs
theorem run_ok (s : Se) (r : Ru) (c : Nat) (cs : List Int) (m : MH) (hcs : CsOk cs) (hc : m[c]? = some (.lst (cs.map .int))) :
    Gives (f_run [encS s, encR r, .ref c] m) m ((runL s r p0 cs).map encQ) := by
  obtain ⟨hcl, _⟩ := List.getElem?_eq_some_iff.mp hc
  have hl := hcs.len
  obtain ⟨p', w3, w6, w7, m', e, k, hn⟩ := run_loop s r c m.length cs hcs.is (by omega) cs 0 big p0 (m ++ [.lst []]) [] none none none rfl (by show _ < 1000000; omega) Kd.p0 (by simp [p0]; omega) (by simp [p0]; omega) (by simp; omega) ((Ke.app (S := []) m _).get hc) (by simp)
  refine ⟨m.length, m', ?_, ?_, Nat.le_refl _, by simpa using hn⟩
  · have hb : b_run (slots 8 [encS s, encR r, .ref c]) m = .ok (.rt (.ref m.length)) m' := by
      have hL : lstAt c (m ++ [MO.lst []]) = some (cs.map .int) := lstAt_some ((Ke.app (S := []) m _).get hc)
      simp only [b_run, runB, slots, sSeq, sRet, sIf, sExpr, sAsg, gNm, Co.gCons, Co.gNil, gUnp, Co.gSub, sPar2, sPar3, cVar, cK, cBin, cUn, cNot, cAnd, cOr, cIte, cChain, aNil, aCons, cTup, cLst, cCall, cMeth, cSlice, partOf, sNx, sBrk, sCnt, sBad, sRz, cTrue, Res.bind, MV.ofL, List.map_cons, List.map_nil, List.length_cons, List.length_nil, List.cons_append, List.nil_append, List.getElem?_cons_succ, List.getElem?_cons_zero, List.set_cons_succ, List.set_cons_zero, List.replicate, Nat.reduceSub, Nat.reduceAdd, begun_ok, newL, szOk, Co.alloc, sFor, iSeq]
      simp only [show decide (0 ≤ 1000000) = true from rfl, if_true, runB, slots, sSeq, sRet, sIf, sExpr, sAsg, gNm, Co.gCons, Co.gNil, gUnp, Co.gSub, sPar2, sPar3, cVar, cK, cBin, cUn, cNot, cAnd, cOr, cIte, cChain, aNil, aCons, cTup, cLst, cCall, cMeth, cSlice, partOf, sNx, sBrk, sCnt, sBad, sRz, cTrue, Res.bind, MV.ofL, List.map_cons, List.map_nil, List.length_cons, List.length_nil, List.cons_append, List.nil_append, List.getElem?_cons_succ, List.getElem?_cons_zero, List.set_cons_succ, List.set_cons_zero, List.replicate, Nat.reduceSub, Nat.reduceAdd, hL, e]
    show (b_run (slots 8 [encS s, encR r, .ref c]) m).bind _ = _
    rw [hb]
    rfl
  · refine ⟨Nat.le_trans (by simp) k.1, fun i hi _ => ?_⟩
    rw [k.2 i (by simp; omega) (by simp; omega), List.getElem?_append_left hi]
end Lw

namespace Lw
open PySem Co
/-! ### what the program accepts -/
theorem is_int_ok (v a b : Int) (m : MH) : f_is_int [.int v, .int a, .int b] m = .ok (.bl (decide (a ≤ v) && decide (v ≤ b))) m := by
  have h1 : oIsi "int" (.int v) m = .ok (.bl true) m := by simp [oIsi, tyN, isSub]
  have h2 : oIsi "bool" (.int v) m = .ok (.bl false) m := by simp [oIsi, tyN, isSub]
  by_cases h : a ≤ v
  · simp [f_is_int, b_is_int, runB, slots, sSeq, sRet, sIf, sExpr, sAsg, gNm, Co.gCons, Co.gNil, gUnp, Co.gSub, sPar2, sPar3, cVar, cK, cBin, cUn, cNot, cAnd, cOr, cIte, cChain, aNil, aCons, cTup, cLst, cCall, cMeth, cSlice, partOf, sNx, sBrk, sCnt, sBad, sRz, cTrue, Res.bind, MV.ofL, List.map_cons, List.map_nil, List.length_cons, List.length_nil, List.cons_append, List.nil_append, List.getElem?_cons_succ, List.getElem?_cons_zero, List.set_cons_succ, List.set_cons_zero, List.replicate, Nat.reduceSub, Nat.reduceAdd, h1, h2, oLe_i, h]
  · simp [f_is_int, b_is_int, runB, slots, sSeq, sRet, sIf, sExpr, sAsg, gNm, Co.gCons, Co.gNil, gUnp, Co.gSub, sPar2, sPar3, cVar, cK, cBin, cUn, cNot, cAnd, cOr, cIte, cChain, aNil, aCons, cTup, cLst, cCall, cMeth, cSlice, partOf, sNx, sBrk, sCnt, sBad, sRz, cTrue, Res.bind, MV.ofL, List.map_cons, List.map_nil, List.length_cons, List.length_nil, List.cons_append, List.nil_append, List.getElem?_cons_succ, List.getElem?_cons_zero, List.set_cons_succ, List.set_cons_zero, List.replicate, Nat.reduceSub, Nat.reduceAdd, h1, h2, oLe_i, h]
structure SeOk (s : Se) : Prop where
  a : 2 ≤ s.1 ∧ s.1 ≤ 3
  b : 2 ≤ s.2.1 ∧ s.2.1 ≤ 3
  c : 1 ≤ s.2.2 ∧ s.2.2 ≤ 3
theorem bLen_S (s : Se) (m : MH) : bLen [encS s] m = .ok (.int 3) m := rfl
theorem need_setting_ok (s : Se) (m : MH) (h : SeOk s) : f_need_setting [encS s] m = .ok .non m := by
  have h1 : oIsi "tuple" (encS s) m = .ok (.bl true) m := by simp [oIsi, tyN, isSub, encS]
  have e : f_is_setting [encS s] m = .ok (.bl true) m := by
    simp [f_is_setting, b_is_setting, runB, slots, sSeq, sRet, sIf, sExpr, sAsg, gNm, Co.gCons, Co.gNil, gUnp, Co.gSub, sPar2, sPar3, cVar, cK, cBin, cUn, cNot, cAnd, cOr, cIte, cChain, aNil, aCons, cTup, cLst, cCall, cMeth, cSlice, partOf, sNx, sBrk, sCnt, sBad, sRz, cTrue, Res.bind, MV.ofL, List.map_cons, List.map_nil, List.length_cons, List.length_nil, List.cons_append, List.nil_append, List.getElem?_cons_succ, List.getElem?_cons_zero, List.set_cons_succ, List.set_cons_zero, List.replicate, Nat.reduceSub, Nat.reduceAdd, h1, bLen_S, oNe_i, ixS0, ixS1, ixS2, is_int_ok, h.a, h.b, h.c]
  simp [f_need_setting, b_need_setting, runB, slots, sSeq, sRet, sIf, sExpr, sAsg, gNm, Co.gCons, Co.gNil, gUnp, Co.gSub, sPar2, sPar3, cVar, cK, cBin, cUn, cNot, cAnd, cOr, cIte, cChain, aNil, aCons, cTup, cLst, cCall, cMeth, cSlice, partOf, sNx, sBrk, sCnt, sBad, sRz, cTrue, Res.bind, MV.ofL, List.map_cons, List.map_nil, List.length_cons, List.length_nil, List.cons_append, List.nil_append, List.getElem?_cons_succ, List.getElem?_cons_zero, List.set_cons_succ, List.set_cons_zero, List.replicate, Nat.reduceSub, Nat.reduceAdd, e]
def RuOk : Ru → Prop
  | .bound n => 1 ≤ n ∧ n ≤ 3
  | .patience n => 1 ≤ n ∧ n ≤ 3
  | _ => True
theorem deep_s (m : MH) (k : Nat) (x : Str) (h : x.cps.all (· < 0x110000) = true) : deep m k (.str x) = some (.str x) := by cases k <;> simp [deep, h]
theorem deep_chain_s (m : MH) (k : Nat) : ∀ ws : List Str, (∀ w ∈ ws, w.cps.all (· < 0x110000) = true) → chainM (deep m k) (MV.ofL (ws.map .str)) = some (MV.ofL (ws.map .str))
  | [], _ => rfl
  | a :: l, h => by
    rw [List.map_cons, MV.ofL, chainM, deep_chain_s m k l fun w hw => h w (List.mem_cons_of_mem _ hw), deep_s m k a (h a List.mem_cons_self)]
    rfl
theorem anyEq_s (x : Str) : ∀ ws : List Str, anyEq (.str x) (ws.map .str) = decide (x ∈ ws)
  | [] => rfl
  | a :: l => by
    rw [List.map_cons, anyEq, anyEq_s x l, eqv]
    by_cases h : x = a
    · subst h; simp
    · have h2 : ¬ a = x := fun e => h e.symm
      by_cases h3 : x ∈ l <;> simp [h, h2, h3]
theorem oIn_s (m : MH) (x : Str) (ws : List Str) (hx : x.cps.all (· < 0x110000) = true) (h : ∀ w ∈ ws, w.cps.all (· < 0x110000) = true) : oIn (.str x) (MV.ofL (ws.map .str)) m = .ok (.bl (decide (x ∈ ws))) m := by
  have key : ((deep m 40 (.str x)).bind fun x => (chainM (deep m 39) (MV.ofL (ws.map .str))).bind fun t => t.toL.map fun ys => anyEq x ys) = some (decide (x ∈ ws)) := by
    rw [deep_chain_s m 39 ws h, deep_s m 40 x hx]
    simp only [Option.bind_some, MV.toL_ofL, Option.map_some, anyEq_s]
  unfold oIn
  have : inM m (.str x) (MV.ofL (ws.map .str)) = some (decide (x ∈ ws)) := by
    cases ws <;> exact key
  rw [this]
def Ru.isN : Ru → Bool
  | .bound _ => true
  | .patience _ => true
  | _ => false
theorem in_plain_w (w : Str) (b : Bool) (hw : w.cps.all (· < 0x110000) = true) (hb : decide (w ∈ [("line" : Str), "many", "one", "turns"]) = b) (m : MH) : oIn (.str w) (.cons (.str "line") (.cons (.str "many") (.cons (.str "one") (.cons (.str "turns") .nil)))) m = .ok (.bl b) m := by
  have h := oIn_s m w [("line" : Str), "many", "one", "turns"] hw (by decide +kernel)
  rw [hb] at h
  exact h
theorem in_plain (r : Ru) (m : MH) : oIn (.str r.word) (.cons (.str "line") (.cons (.str "many") (.cons (.str "one") (.cons (.str "turns") .nil)))) m = .ok (.bl (!r.isN)) m := by
  cases r with
  | line => exact in_plain_w "line" true (by decide +kernel) (by decide +kernel) m
  | many => exact in_plain_w "many" true (by decide +kernel) (by decide +kernel) m
  | one => exact in_plain_w "one" true (by decide +kernel) (by decide +kernel) m
  | turns => exact in_plain_w "turns" true (by decide +kernel) (by decide +kernel) m
  | bound n => exact in_plain_w "bound" false (by decide +kernel) (by decide +kernel) m
  | patience n => exact in_plain_w "patience" false (by decide +kernel) (by decide +kernel) m
theorem in_num_w (w : Str) (b : Bool) (hw : w.cps.all (· < 0x110000) = true) (hb : decide (w ∈ [("bound" : Str), "patience"]) = b) (m : MH) : oIn (.str w) (.cons (.str "bound") (.cons (.str "patience") .nil)) m = .ok (.bl b) m := by
  have h := oIn_s m w [("bound" : Str), "patience"] hw (by decide +kernel)
  rw [hb] at h
  exact h
theorem in_num (r : Ru) (m : MH) : oIn (.str r.word) (.cons (.str "bound") (.cons (.str "patience") .nil)) m = .ok (.bl r.isN) m := by
  cases r with
  | line => exact in_num_w "line" false (by decide +kernel) (by decide +kernel) m
  | many => exact in_num_w "many" false (by decide +kernel) (by decide +kernel) m
  | one => exact in_num_w "one" false (by decide +kernel) (by decide +kernel) m
  | turns => exact in_num_w "turns" false (by decide +kernel) (by decide +kernel) m
  | bound n => exact in_num_w "bound" true (by decide +kernel) (by decide +kernel) m
  | patience n => exact in_num_w "patience" true (by decide +kernel) (by decide +kernel) m
theorem deepR (m : MH) (r : Ru) : deep m 40 (encR r) = some (encR r) := by
  have hw := deep_s m 39 r.word (word_ok r)
  cases r with
  | line => show chainM (deep m 39) (.cons (.str "line") .nil) = _; rw [chainM, show deep m 39 (.str "line") = _ from hw]; rfl
  | many => show chainM (deep m 39) (.cons (.str "many") .nil) = _; rw [chainM, show deep m 39 (.str "many") = _ from hw]; rfl
  | one => show chainM (deep m 39) (.cons (.str "one") .nil) = _; rw [chainM, show deep m 39 (.str "one") = _ from hw]; rfl
  | turns => show chainM (deep m 39) (.cons (.str "turns") .nil) = _; rw [chainM, show deep m 39 (.str "turns") = _ from hw]; rfl
  | bound n => show chainM (deep m 39) (.cons (.str "bound") (.cons (.int n) .nil)) = _; rw [chainM, show deep m 39 (.str "bound") = _ from hw]; rfl
  | patience n => show chainM (deep m 39) (.cons (.str "patience") (.cons (.int n) .nil)) = _; rw [chainM, show deep m 39 (.str "patience") = _ from hw]; rfl
theorem need_rule_ok (r : Ru) (m : MH) (h : RuOk r) : f_need_rule [encR r] m = .ok .non m := by
  have h1 : oIsi "tuple" (encR r) m = .ok (.bl true) m := by cases r <;> simp [oIsi, tyN, isSub, encR]
  have h2 : oIsi "str" (.str r.word) m = .ok (.bl true) m := by simp [oIsi, tyN, isSub]
  have hd : deep m 40 (.nil : MV) = some .nil := rfl
  have h3 : oEq (encR r) .nil m = .ok (.bl false) m := by
    have hx : eqM m (encR r) .nil = some false := by
      have d := deepR m r
      cases r <;> exact (show ((deep m 40 (encR _)).bind fun x => (deep m 40 (.nil : MV)).map fun y => eqv x y) = some false by rw [d]; rfl)
    unfold oEq
    rw [hx]
  have e : f_is_rule [encR r] m = .ok (.bl true) m := by
    cases r with
    | bound n => simp [f_is_rule, b_is_rule, runB, slots, sSeq, sRet, sIf, sExpr, sAsg, gNm, Co.gCons, Co.gNil, gUnp, Co.gSub, sPar2, sPar3, cVar, cK, cBin, cUn, cNot, cAnd, cOr, cIte, cChain, aNil, aCons, cTup, cLst, cCall, cMeth, cSlice, partOf, sNx, sBrk, sCnt, sBad, sRz, cTrue, Res.bind, MV.ofL, List.map_cons, List.map_nil, List.length_cons, List.length_nil, List.cons_append, List.nil_append, List.getElem?_cons_succ, List.getElem?_cons_zero, List.set_cons_succ, List.set_cons_zero, List.replicate, Nat.reduceSub, Nat.reduceAdd, h1, h2, h3, ixR0, in_plain, in_num, Ru.isN, ixB, show bLen [encR (.bound n)] m = .ok (.int 2) m from rfl, oEq_i, is_int_ok, h.1, h.2]
    | patience n => simp [f_is_rule, b_is_rule, runB, slots, sSeq, sRet, sIf, sExpr, sAsg, gNm, Co.gCons, Co.gNil, gUnp, Co.gSub, sPar2, sPar3, cVar, cK, cBin, cUn, cNot, cAnd, cOr, cIte, cChain, aNil, aCons, cTup, cLst, cCall, cMeth, cSlice, partOf, sNx, sBrk, sCnt, sBad, sRz, cTrue, Res.bind, MV.ofL, List.map_cons, List.map_nil, List.length_cons, List.length_nil, List.cons_append, List.nil_append, List.getElem?_cons_succ, List.getElem?_cons_zero, List.set_cons_succ, List.set_cons_zero, List.replicate, Nat.reduceSub, Nat.reduceAdd, h1, h2, h3, ixR0, in_plain, in_num, Ru.isN, ixPt, show bLen [encR (.patience n)] m = .ok (.int 2) m from rfl, oEq_i, is_int_ok, h.1, h.2]
    | line => simp [f_is_rule, b_is_rule, runB, slots, sSeq, sRet, sIf, sExpr, sAsg, gNm, Co.gCons, Co.gNil, gUnp, Co.gSub, sPar2, sPar3, cVar, cK, cBin, cUn, cNot, cAnd, cOr, cIte, cChain, aNil, aCons, cTup, cLst, cCall, cMeth, cSlice, partOf, sNx, sBrk, sCnt, sBad, sRz, cTrue, Res.bind, MV.ofL, List.map_cons, List.map_nil, List.length_cons, List.length_nil, List.cons_append, List.nil_append, List.getElem?_cons_succ, List.getElem?_cons_zero, List.set_cons_succ, List.set_cons_zero, List.replicate, Nat.reduceSub, Nat.reduceAdd, h1, h2, h3, ixR0, in_plain, in_num, Ru.isN, show bLen [encR .line] m = .ok (.int 1) m from rfl, oEq_i]
    | many => simp [f_is_rule, b_is_rule, runB, slots, sSeq, sRet, sIf, sExpr, sAsg, gNm, Co.gCons, Co.gNil, gUnp, Co.gSub, sPar2, sPar3, cVar, cK, cBin, cUn, cNot, cAnd, cOr, cIte, cChain, aNil, aCons, cTup, cLst, cCall, cMeth, cSlice, partOf, sNx, sBrk, sCnt, sBad, sRz, cTrue, Res.bind, MV.ofL, List.map_cons, List.map_nil, List.length_cons, List.length_nil, List.cons_append, List.nil_append, List.getElem?_cons_succ, List.getElem?_cons_zero, List.set_cons_succ, List.set_cons_zero, List.replicate, Nat.reduceSub, Nat.reduceAdd, h1, h2, h3, ixR0, in_plain, in_num, Ru.isN, show bLen [encR .many] m = .ok (.int 1) m from rfl, oEq_i]
    | one => simp [f_is_rule, b_is_rule, runB, slots, sSeq, sRet, sIf, sExpr, sAsg, gNm, Co.gCons, Co.gNil, gUnp, Co.gSub, sPar2, sPar3, cVar, cK, cBin, cUn, cNot, cAnd, cOr, cIte, cChain, aNil, aCons, cTup, cLst, cCall, cMeth, cSlice, partOf, sNx, sBrk, sCnt, sBad, sRz, cTrue, Res.bind, MV.ofL, List.map_cons, List.map_nil, List.length_cons, List.length_nil, List.cons_append, List.nil_append, List.getElem?_cons_succ, List.getElem?_cons_zero, List.set_cons_succ, List.set_cons_zero, List.replicate, Nat.reduceSub, Nat.reduceAdd, h1, h2, h3, ixR0, in_plain, in_num, Ru.isN, show bLen [encR .one] m = .ok (.int 1) m from rfl, oEq_i]
    | turns => simp [f_is_rule, b_is_rule, runB, slots, sSeq, sRet, sIf, sExpr, sAsg, gNm, Co.gCons, Co.gNil, gUnp, Co.gSub, sPar2, sPar3, cVar, cK, cBin, cUn, cNot, cAnd, cOr, cIte, cChain, aNil, aCons, cTup, cLst, cCall, cMeth, cSlice, partOf, sNx, sBrk, sCnt, sBad, sRz, cTrue, Res.bind, MV.ofL, List.map_cons, List.map_nil, List.length_cons, List.length_nil, List.cons_append, List.nil_append, List.getElem?_cons_succ, List.getElem?_cons_zero, List.set_cons_succ, List.set_cons_zero, List.replicate, Nat.reduceSub, Nat.reduceAdd, h1, h2, h3, ixR0, in_plain, in_num, Ru.isN, show bLen [encR .turns] m = .ok (.int 1) m from rfl, oEq_i]
  simp [f_need_rule, b_need_rule, runB, slots, sSeq, sRet, sIf, sExpr, sAsg, gNm, Co.gCons, Co.gNil, gUnp, Co.gSub, sPar2, sPar3, cVar, cK, cBin, cUn, cNot, cAnd, cOr, cIte, cChain, aNil, aCons, cTup, cLst, cCall, cMeth, cSlice, partOf, sNx, sBrk, sCnt, sBad, sRz, cTrue, Res.bind, MV.ofL, List.map_cons, List.map_nil, List.length_cons, List.length_nil, List.cons_append, List.nil_append, List.getElem?_cons_succ, List.getElem?_cons_zero, List.set_cons_succ, List.set_cons_zero, List.replicate, Nat.reduceSub, Nat.reduceAdd, e]
theorem asBools_map : ∀ l : List Bool, asBools (l.map .bl) = some l
  | [] => rfl
  | a :: l => by rw [List.map_cons, asBools, asBools_map l]; rfl
theorem lst_at {m : MH} {n : Nat} {xs : List MV} (h : m[n]? = some (.lst xs)) : ∀ j, (Src.lst n).at j m = some xs[j]? := fun j => by simp [Src.at, lstAt_some h]
theorem iSeq_ref (e : CE) (r : Sl) (m m1 : MH) (n : Nat) (xs : List MV) (h : e r m = .ok (.ref n) m1) (hn : m1[n]? = some (.lst xs)) : iSeq e r m = .ok (.lst n) m1 := by
  simp [iSeq, h, Res.bind, lstAt_some hn]
theorem bLen_ref (m : MH) (n : Nat) (xs : List MV) (hn : m[n]? = some (.lst xs)) : bLen [.ref n] m = .ok (.int xs.length) m := by simp [bLen, seqAt, lstAt_some hn]
theorem need_comings_ok (cs : List Int) (c : Nat) (m : MH) (h : CsOk cs) (hc : m[c]? = some (.lst (cs.map .int))) : ∃ g, f_need_comings [.ref c] m = .ok .non (m ++ g) := by
  have h1 : oIsi "list" (.ref c) m = .ok (.bl true) m := by simp [oIsi, tyN, isSub, hc]
  have h2 := bLen_ref m c _ hc
  have hl := h.len
  have h3 : ¬ (40 < (cs.length : Int)) := by omega
  have e1 : cp_are_comings_1 [some (.ref c), none] m = .ok (.ref m.length) (m ++ [.lst (cs.map fun _ => .bl true)]) := by
    have e := comp_pure (s := .lst c) (g := gNm 1) (c := cTrue) (e := (cCall f_is_int (aCons (cVar 1) (aCons (cK (.int 0)) (aCons (cK (.int 2)) aNil))))) (r := wipeM [some (.ref c), none] [1]) (m := m) (xs := cs.map .int) (G := fun x => [some (.ref c), some x]) (C := fun _ => true) (V := fun _ => .bl true) (lst_at hc)
      (fun x hx => rfl) (fun x hx => rfl) (fun x hx _ => by
        obtain ⟨i, hi, rfl⟩ := List.mem_map.mp hx
        have := h.is i hi
        simp only [runB, slots, sSeq, sRet, sIf, sExpr, sAsg, gNm, Co.gCons, Co.gNil, gUnp, Co.gSub, sPar2, sPar3, cVar, cK, cBin, cUn, cNot, cAnd, cOr, cIte, cChain, aNil, aCons, cTup, cLst, cCall, cMeth, cSlice, partOf, sNx, sBrk, sCnt, sBad, sRz, cTrue, Res.bind, MV.ofL, List.map_cons, List.map_nil, List.length_cons, List.length_nil, List.cons_append, List.nil_append, List.getElem?_cons_succ, List.getElem?_cons_zero, List.set_cons_succ, List.set_cons_zero, List.replicate, Nat.reduceSub, Nat.reduceAdd, is_int_ok]
        have a1 : (0 : Int) ≤ i := by omega
        have a2 : i ≤ 2 := by omega
        simp [a1, a2])
      (cs.map .int) 0 big [] rfl (by show (cs.map MV.int).length < 1000000; rw [List.length_map]; omega)
    unfold cp_are_comings_1 cComp
    rw [iSeq_ref (cVar 0) _ m m c _ rfl hc]
    simp only [Res.bind, e, List.nil_append]
    rw [newL_ok' _ _ (by have := List.length_filter_le (fun _ : MV => true) (cs.map .int); simp at this ⊢; omega)]
    rw [show (cs.map MV.int).filter (fun _ => true) = cs.map MV.int from List.filter_eq_self.mpr (fun _ _ => rfl)]
    simp [Function.comp_def]
  have e2 : bAll [.ref m.length] (m ++ [.lst (cs.map fun _ => .bl true)]) = .ok (.bl true) (m ++ [.lst (cs.map fun _ => .bl true)]) := by
    have h4 : (cs.map fun _ => MV.bl true) = (cs.map fun _ => true).map .bl := by simp
    simp only [bAll, lstAt_last]
    rw [h4, asBools_map]
    simp
  refine ⟨[.lst (cs.map fun _ => .bl true)], ?_⟩
  have e : f_are_comings [.ref c] m = .ok (.bl true) (m ++ [.lst (cs.map fun _ => .bl true)]) := by
    simp [f_are_comings, b_are_comings, runB, slots, sSeq, sRet, sIf, sExpr, sAsg, gNm, Co.gCons, Co.gNil, gUnp, Co.gSub, sPar2, sPar3, cVar, cK, cBin, cUn, cNot, cAnd, cOr, cIte, cChain, aNil, aCons, cTup, cLst, cCall, cMeth, cSlice, partOf, sNx, sBrk, sCnt, sBad, sRz, cTrue, Res.bind, MV.ofL, List.map_cons, List.map_nil, List.length_cons, List.length_nil, List.cons_append, List.nil_append, List.getElem?_cons_succ, List.getElem?_cons_zero, List.set_cons_succ, List.set_cons_zero, List.replicate, Nat.reduceSub, Nat.reduceAdd, h1, h2, oGt_i, h3, e1, e2]
  simp [f_need_comings, b_need_comings, runB, slots, sSeq, sRet, sIf, sExpr, sAsg, gNm, Co.gCons, Co.gNil, gUnp, Co.gSub, sPar2, sPar3, cVar, cK, cBin, cUn, cNot, cAnd, cOr, cIte, cChain, aNil, aCons, cTup, cLst, cCall, cMeth, cSlice, partOf, sNx, sBrk, sCnt, sBad, sRz, cTrue, Res.bind, MV.ofL, List.map_cons, List.map_nil, List.length_cons, List.length_nil, List.cons_append, List.nil_append, List.getElem?_cons_succ, List.getElem?_cons_zero, List.set_cons_succ, List.set_cons_zero, List.replicate, Nat.reduceSub, Nat.reduceAdd, e]
theorem need_run_ok (s : Se) (r : Ru) (cs : List Int) (c : Nat) (m : MH) (hs : SeOk s) (hr : RuOk r) (h : CsOk cs) (hc : m[c]? = some (.lst (cs.map .int))) : ∃ g, f_need_run [encS s, encR r, .ref c] m = .ok .non (m ++ g) := by
  obtain ⟨g, e⟩ := need_comings_ok cs c m h hc
  refine ⟨g, ?_⟩
  have e2 : f_need_both [encS s, encR r] m = .ok .non m := by simp [f_need_both, b_need_both, runB, slots, sSeq, sRet, sIf, sExpr, sAsg, gNm, Co.gCons, Co.gNil, gUnp, Co.gSub, sPar2, sPar3, cVar, cK, cBin, cUn, cNot, cAnd, cOr, cIte, cChain, aNil, aCons, cTup, cLst, cCall, cMeth, cSlice, partOf, sNx, sBrk, sCnt, sBad, sRz, cTrue, Res.bind, MV.ofL, List.map_cons, List.map_nil, List.length_cons, List.length_nil, List.cons_append, List.nil_append, List.getElem?_cons_succ, List.getElem?_cons_zero, List.set_cons_succ, List.set_cons_zero, List.replicate, Nat.reduceSub, Nat.reduceAdd, need_setting_ok s m hs, need_rule_ok r m hr]
  simp [f_need_run, b_need_run, runB, slots, sSeq, sRet, sIf, sExpr, sAsg, gNm, Co.gCons, Co.gNil, gUnp, Co.gSub, sPar2, sPar3, cVar, cK, cBin, cUn, cNot, cAnd, cOr, cIte, cChain, aNil, aCons, cTup, cLst, cCall, cMeth, cSlice, partOf, sNx, sBrk, sCnt, sBad, sRz, cTrue, Res.bind, MV.ofL, List.map_cons, List.map_nil, List.length_cons, List.length_nil, List.cons_append, List.nil_append, List.getElem?_cons_succ, List.getElem?_cons_zero, List.set_cons_succ, List.set_cons_zero, List.replicate, Nat.reduceSub, Nat.reduceAdd, e2, e]
end Lw

namespace Lw
open PySem Co
theorem filter_true {α : Type} (l : List α) : l.filter (fun _ => true) = l := List.filter_eq_self.mpr (fun _ _ => rfl)
/-- a comprehension over a list on the heap, no condition, pure values -/
theorem comp_ref {it e : CE} {vs : List Nat} {g : CG} {r : Sl} {m m1 : MH} {n : Nat} {α : Type} {ys : List α} {en : α → MV} (hi : it r m = .ok (.ref n) m1) (hn : m1[n]? = some (.lst (ys.map en))) (hl : ys.length ≤ 100000)
    (V : α → MV) (G : MV → Sl) (hg : ∀ y ∈ ys, g (en y) (wipeM r vs) m1 = .ok (G (en y)) m1) (he : ∀ y ∈ ys, e (G (en y)) m1 = .ok (V y) m1) :
    cComp (iSeq it) vs g cTrue e r m = .ok (.ref m1.length) (m1 ++ [.lst (ys.map V)]) := by
  by_cases hy : ys = []
  · subst hy
    unfold cComp
    rw [iSeq_ref it r m m1 n _ hi hn]
    simp only [Res.bind]
    have : compN (.lst n) g cTrue e (wipeM r vs) big 0 [] m1 = .ok [] m1 := by
      show compN (.lst n) g cTrue e (wipeM r vs) (999999 + 1) 0 [] m1 = .ok [] m1
      rw [compN, lst_at hn]
      simp
    rw [this]
    exact newL_ok' _ _ (by simp)
  · obtain ⟨y0, hy0⟩ : ∃ y, y ∈ ys := List.exists_mem_of_ne_nil _ hy
    -- values by position
    have key : ∀ (zs : List α) (i fuel : Nat) (acc : List MV), ys.drop i = zs → zs.length < fuel → compN (.lst n) g cTrue e (wipeM r vs) fuel i acc m1 = .ok (acc ++ zs.map V) m1 := by
      intro zs
      induction zs with
      | nil =>
        intro i fuel acc hd hf
        cases fuel with
        | zero => simp at hf
        | succ fuel =>
          have : ys[i]? = none := List.getElem?_eq_none (by have := congrArg List.length hd; simp at this; omega)
          rw [compN, lst_at hn]
          simp [this]
      | cons z zs ih =>
        intro i fuel acc hd hf
        cases fuel with
        | zero => simp at hf
        | succ fuel =>
          have h1 : ys[i]? = some z := by
            have h := congrArg (fun l => l[0]?) hd
            simp only [List.getElem?_drop, Nat.add_zero, List.getElem?_cons_zero] at h
            exact h
          have hm : z ∈ ys := List.mem_of_getElem? h1
          have hd2 : ys.drop (i + 1) = zs := by rw [← List.drop_drop, hd]; rfl
          rw [compN, lst_at hn]
          simp only [List.getElem?_map, h1, Option.map_some, hg z hm, Res.bind, cTrue, he z hm]
          rw [ih (i + 1) fuel _ hd2 (by simp at hf; omega)]
          simp
    unfold cComp
    rw [iSeq_ref it r m m1 n _ hi hn]
    simp only [Res.bind, key ys 0 big [] rfl (by show _ < 1000000; omega), List.nil_append]
    exact newL_ok' _ _ (by simp; omega)
/-! ### the calls along comings -/
def notesL (s : Se) (r : Ru) (cs : List Int) : List Nt := (runL s r p0 cs).map fun q => q.2.1
def linesL (s : Se) (r : Ru) (cs : List Int) : List (List Int) := (runL s r p0 cs).map fun q => q.1.line
def insidesL (s : Se) (r : Ru) (cs : List Int) : List (Int × Int) := (runL s r p0 cs).map fun q => q.2.2
theorem notesL_len (s : Se) (r : Ru) (cs : List Int) : (notesL s r cs).length = cs.length := by simp [notesL, runL_len]
theorem linesL_len (s : Se) (r : Ru) (cs : List Int) : (linesL s r cs).length = cs.length := by simp [linesL, runL_len]
theorem insidesL_len (s : Se) (r : Ru) (cs : List Int) : (insidesL s r cs).length = cs.length := by simp [insidesL, runL_len]
theorem Gives.run {c : Nat} {e : CE} {s : Se} {r : Ru} {cs : List Int} {m : MH} {V : Q → MV} (hcs : CsOk cs) (hc : m[c]? = some (.lst (cs.map .int)))
    (he : ∀ q : Q, ∀ m, e [some (encS s), some (encR r), some (.ref c), some (encP q.1), some (encN q.2.1), some (encT q.2.2)] m = .ok (V q) m) :
    Gives (cComp (iSeq (cCall f_run (aCons (cVar 0) (aCons (cVar 1) (aCons (cVar 2) aNil))))) [3, 4, 5] (gUnp 3 (Co.gCons (gNm 3) (Co.gCons (gNm 4) (Co.gCons (gNm 5) Co.gNil)))) cTrue e [some (encS s), some (encR r), some (.ref c), none, none, none] m) m ((runL s r p0 cs).map V) := by
  obtain ⟨n, m1, e1, k1, l1, n1⟩ := run_ok s r c cs m hcs hc
  have h := comp_ref (it := cCall f_run (aCons (cVar 0) (aCons (cVar 1) (aCons (cVar 2) aNil)))) (e := e) (vs := [3, 4, 5]) (g := gUnp 3 (Co.gCons (gNm 3) (Co.gCons (gNm 4) (Co.gCons (gNm 5) Co.gNil)))) (r := [some (encS s), some (encR r), some (.ref c), none, none, none]) (m := m) (m1 := m1) (n := n) (ys := runL s r p0 cs) (en := encQ)
    (by simp only [runB, slots, sSeq, sRet, sIf, sExpr, sAsg, gNm, Co.gCons, Co.gNil, gUnp, Co.gSub, sPar2, sPar3, cVar, cK, cBin, cUn, cNot, cAnd, cOr, cIte, cChain, aNil, aCons, cTup, cLst, cCall, cMeth, cSlice, partOf, sNx, sBrk, sCnt, sBad, sRz, cTrue, Res.bind, MV.ofL, List.map_cons, List.map_nil, List.length_cons, List.length_nil, List.cons_append, List.nil_append, List.getElem?_cons_succ, List.getElem?_cons_zero, List.set_cons_succ, List.set_cons_zero, List.replicate, Nat.reduceSub, Nat.reduceAdd, e1]) n1 (by rw [runL_len]; have := hcs.len; omega) V (fun q => match q with
      | .cons a (.cons b (.cons c' .nil)) => [some (encS s), some (encR r), some (.ref c), some a, some b, some c']
      | _ => []) (fun q _ => rfl) (fun q _ => he q m1)
  refine ⟨m1.length, _, h, k1.trans (Ke.app _ _), k1.1, by simp⟩
theorem Gives.after {m g : MH} {x : Res MV} {xs : List MV} (h : Gives x (m ++ g) xs) : Gives x m xs := by
  obtain ⟨n, m1, e1, k1, l1, n1⟩ := h
  exact ⟨n, m1, e1, (Ke.app m g).trans k1, by simp at l1; omega, n1⟩
theorem runB_ret {n : Nat} {b : CS} {as : List MV} {m : MH} {x : Res MV} {xs : List MV} (h : Gives x m xs) (hb : b (slots n as) m = x.bind fun v m1 => .ok (.rt v) m1) : Gives (runB n b as m) m xs := by
  obtain ⟨k, m1, e1, k1, l1, n1⟩ := h
  refine ⟨k, m1, ?_, k1, l1, n1⟩
  simp only [runB, hb, e1, Res.bind]
section
variable (s : Se) (r : Ru) (cs : List Int) (c : Nat) (m : MH) (hs : SeOk s) (hr : RuOk r) (h : CsOk cs) (hc : m[c]? = some (.lst (cs.map .int)))
include hs hr h hc
theorem notes_along_ok : Gives (f_notes_along [encS s, encR r, .ref c] m) m ((notesL s r cs).map encN) := by
  obtain ⟨g, e⟩ := need_run_ok s r cs c m hs hr h hc
  have hc1 : (m ++ g)[c]? = some (.lst (cs.map .int)) := (Ke.app (S := []) m g).get hc
  have h1 := Gives.run (s := s) (r := r) (V := fun q => encN q.2.1) (e := cVar 4) h hc1 (fun q m => rfl)
  have h2 : Gives (f_notes_of [encS s, encR r, .ref c] (m ++ g)) (m ++ g) ((runL s r p0 cs).map fun q => encN q.2.1) := runB_ret h1 rfl
  have h3 : Gives (f_notes_of [encS s, encR r, .ref c] (m ++ g)) m ((notesL s r cs).map encN) := by
    have := h2.after
    simpa [notesL, Function.comp_def] using this
  refine runB_ret h3 ?_
  simp only [b_notes_along, runB, slots, sSeq, sRet, sIf, sExpr, sAsg, gNm, Co.gCons, Co.gNil, gUnp, Co.gSub, sPar2, sPar3, cVar, cK, cBin, cUn, cNot, cAnd, cOr, cIte, cChain, aNil, aCons, cTup, cLst, cCall, cMeth, cSlice, partOf, sNx, sBrk, sCnt, sBad, sRz, cTrue, Res.bind, MV.ofL, List.map_cons, List.map_nil, List.length_cons, List.length_nil, List.cons_append, List.nil_append, List.getElem?_cons_succ, List.getElem?_cons_zero, List.set_cons_succ, List.set_cons_zero, List.replicate, Nat.reduceSub, Nat.reduceAdd, e]
theorem lines_along_ok : Gives (f_lines_along [encS s, encR r, .ref c] m) m ((linesL s r cs).map encI) := by
  obtain ⟨g, e⟩ := need_run_ok s r cs c m hs hr h hc
  have hc1 : (m ++ g)[c]? = some (.lst (cs.map .int)) := (Ke.app (S := []) m g).get hc
  have h1 := Gives.run (s := s) (r := r) (V := fun q => encI q.1.line) (e := cBin oIx (cVar 3) (cK (.int 0))) h hc1 (fun q m => rfl)
  have h3 : Gives (cp_lines_along_1 [some (encS s), some (encR r), some (.ref c), none, none, none] (m ++ g)) m ((linesL s r cs).map encI) := by
    have := h1.after
    simpa [linesL, Function.comp_def, cp_lines_along_1] using this
  refine runB_ret h3 ?_
  simp only [b_lines_along, runB, slots, sSeq, sRet, sIf, sExpr, sAsg, gNm, Co.gCons, Co.gNil, gUnp, Co.gSub, sPar2, sPar3, cVar, cK, cBin, cUn, cNot, cAnd, cOr, cIte, cChain, aNil, aCons, cTup, cLst, cCall, cMeth, cSlice, partOf, sNx, sBrk, sCnt, sBad, sRz, cTrue, Res.bind, MV.ofL, List.map_cons, List.map_nil, List.length_cons, List.length_nil, List.cons_append, List.nil_append, List.getElem?_cons_succ, List.getElem?_cons_zero, List.set_cons_succ, List.set_cons_zero, List.replicate, Nat.reduceSub, Nat.reduceAdd, e]
theorem insides_along_ok : Gives (f_insides_along [encS s, encR r, .ref c] m) m ((insidesL s r cs).map encT) := by
  obtain ⟨g, e⟩ := need_run_ok s r cs c m hs hr h hc
  have hc1 : (m ++ g)[c]? = some (.lst (cs.map .int)) := (Ke.app (S := []) m g).get hc
  have h1 := Gives.run (s := s) (r := r) (V := fun q => encT q.2.2) (e := cVar 5) h hc1 (fun q m => rfl)
  have h3 : Gives (cp_insides_along_1 [some (encS s), some (encR r), some (.ref c), none, none, none] (m ++ g)) m ((insidesL s r cs).map encT) := by
    have := h1.after
    simpa [insidesL, Function.comp_def, cp_insides_along_1] using this
  refine runB_ret h3 ?_
  simp only [b_insides_along, runB, slots, sSeq, sRet, sIf, sExpr, sAsg, gNm, Co.gCons, Co.gNil, gUnp, Co.gSub, sPar2, sPar3, cVar, cK, cBin, cUn, cNot, cAnd, cOr, cIte, cChain, aNil, aCons, cTup, cLst, cCall, cMeth, cSlice, partOf, sNx, sBrk, sCnt, sBad, sRz, cTrue, Res.bind, MV.ofL, List.map_cons, List.map_nil, List.length_cons, List.length_nil, List.cons_append, List.nil_append, List.getElem?_cons_succ, List.getElem?_cons_zero, List.set_cons_succ, List.set_cons_zero, List.replicate, Nat.reduceSub, Nat.reduceAdd, e]
end
end Lw

namespace Lw
open PySem Co
/-! ### draws -/
def Tn (t : Nat) (m : MH) : Prop := ∃ a b : Int, 0 ≤ a ∧ m[t]? = some (.lst [.int a, .int b])
theorem Tn.keep {t : Nat} {m m' : MH} (h : Tn t m) (k : Ke [] m m') : Tn t m' := by
  obtain ⟨a, b, h1, h2⟩ := h
  exact ⟨a, b, h1, k.get h2⟩
theorem ixL (m : MH) (n : Nat) (xs : List MV) (h : m[n]? = some (.lst xs)) (i : Int) (v : MV) (hi : L2.atI xs i = some v) : oIx (.ref n) (.int i) m = .ok v m := by
  simp [oIx, seqAt, lstAt_some h, hi]
theorem setL (m : MH) (n : Nat) (xs : List MV) (h : m[n]? = some (.lst xs)) (i : Int) (j : Nat) (v : MV) (hi : L2.ixN xs.length i = some j) : oSet (.ref n) (.int i) v m = .ok () (m.set n (.lst (xs.set j v))) := by
  simp [oSet, h, hi]
theorem scr_toL (ns : List Int) : (MV.ofL (ns.map MV.int)).toL = some (ns.map .int) := MV.toL_ofL _
theorem scr_len (ns : List Int) (m : MH) : bLen [script ns] m = .ok (.int ns.length) m := by simp [bLen, script, seqAt, scr_toL]
theorem atI_nat {α : Type} (xs : List α) (i : Int) (h0 : 0 ≤ i) (h1 : i < xs.length) : ∃ v, L2.atI xs i = some v ∧ xs[i.toNat]? = some v := by
  have h2 : i.toNat < xs.length := by omega
  refine ⟨xs[i.toNat], ?_, by simp [h2]⟩
  have h3 : L2.ixN xs.length i = some i.toNat := by
    unfold L2.ixN
    simp only [h0, h1]
    simp
  simp [L2.atI, h3, h2]
theorem scr_ix (ns : List Int) (m : MH) (i : Int) (h0 : 0 ≤ i) (h1 : i < ns.length) : ∃ v : Int, oIx (script ns) (.int i) m = .ok (.int v) m := by
  obtain ⟨v, e1, e2⟩ := atI_nat (ns.map MV.int) i h0 (by simpa using h1)
  rw [List.getElem?_map] at e2
  cases hx : ns[i.toNat]? with
  | none => rw [hx] at e2; simp at e2
  | some x =>
    rw [hx] at e2
    refine ⟨x, ?_⟩
    simp only [Option.map_some, Option.some.injEq] at e2
    rw [← e2] at e1
    simp [oIx, script, seqAt, scr_toL, e1]
theorem scr_eq (ns : List Int) (m : MH) : oEq (script ns) (.ref m.length) (m ++ [.lst []]) = .ok (.bl (decide (ns = []))) (m ++ [.lst []]) := by
  have hd : deep (m ++ [.lst []]) 40 (script ns) = some (script ns) := by
    show (chainM (deep (m ++ [.lst []]) 39) (encI ns)).map MV.frz = _
    rw [deep_chain_I]
    rfl
  have hr : deep (m ++ [.lst []]) 40 (.ref m.length) = some (.frz .nil) := by
    show (lstAt m.length (m ++ [MO.lst []])).bind (fun xs => (mapM? (deep (m ++ [.lst []]) 39) xs).map MV.frz) = _
    rw [lstAt_last]
    rfl
  have he : eqM (m ++ [.lst []]) (script ns) (.ref m.length) = some (decide (ns = [])) := by
    show ((deep (m ++ [.lst []]) 40 (script ns)).bind fun x => (deep (m ++ [.lst []]) 40 (.ref m.length)).map fun y => eqv x y) = _
    rw [hd, hr]
    simp only [Option.bind_some, Option.map_some, script, eqv]
    have := eqv_I ns []
    rw [encI_nil] at this
    rw [← this]
    rfl
  unfold oEq
  rw [he]
theorem oMod_i (m : MH) (a b : Int) (h : 0 < b) : oMod (.int a) (.int b) m = .ok (.int (a % b)) m := by simp [oMod, h]
theorem oDiv_i (m : MH) (a b : Int) (h : 0 < b) (h2 : b < 1073741824) : oDiv (.int a) (.int b) m = .ok (.int (a / b)) m := by simp [oDiv, h, h2]
theorem mulB (m : MH) (a b : Int) (h : mulOk a b = true) : oMul (.int a) (.int b) m = .ok (.int (a * b)) m := by
  unfold oMul
  simp only [h, if_true]
theorem mulL (m : MH) (a b : Int) (h : a.natAbs < 2 ^ 64) : oMul (.int a) (.int b) m = .ok (.int (a * b)) m := mulB m a b (by unfold mulOk; rw [decide_eq_true h]; rfl)
theorem mulR (m : MH) (a b : Int) (h : b.natAbs < 2 ^ 64) : oMul (.int a) (.int b) m = .ok (.int (a * b)) m := mulB m a b (by unfold mulOk; rw [decide_eq_true h, Bool.or_true, Bool.true_or])
theorem ok60 : mulOk (10 ^ 60) (10 ^ 60) = true := by decide +kernel
theorem powI (m : MH) (a : Int) (b : Nat) (h : a.natAbs < 2 ^ 64) (hb : b ≤ 1000000) : oPow (.int a) (.int b) m = .ok (.int (a ^ b)) m := by
  show (if decide (0 ≤ (b : Int)) && decide ((b : Int) ≤ 1000000) && decide (a.natAbs < 2 ^ 64) then Res.ok (MV.int (a ^ (b : Int).toNat)) m else .bad) = _
  rw [if_pos (by simp only [decide_eq_true h, Bool.and_true]; simp; omega)]
  simp
theorem draw_ok (ns : List Int) (t : Nat) (many : Int) (m : MH) (ht : Tn t m) (h1 : 1 ≤ many) (h2 : many < 1073741824) :
    ∃ d m', f_law_draw [script ns, .ref t, .int many] m = .ok (.int d) m' ∧ 0 ≤ d ∧ d < many ∧ Ke [t] m m' ∧ Tn t m' := by
  obtain ⟨a, b, ha, hm⟩ := ht
  have hp : 0 < many := by omega
  obtain ⟨htl, _⟩ := List.getElem?_eq_some_iff.mp hm
  have i1 := ixL m t _ hm 1 (.int b) rfl
  have i0 := ixL m t _ hm 0 (.int a) rfl
  by_cases hb : 0 < b
  · have hs := setL m t _ hm 1 1 (.int (b / many)) rfl
    simp only [List.set_cons_succ, List.set_cons_zero] at hs
    refine ⟨b % many, m.set t (.lst [.int a, .int (b / many)]), ?_, Int.emod_nonneg _ (by omega), Int.emod_lt_of_pos _ hp, Ke.set (by simp), a, b / many, ha, List.getElem?_set_self htl⟩
    simp [f_law_draw, b_law_draw, runB, slots, sSeq, sRet, sIf, sExpr, sAsg, gNm, Co.gCons, Co.gNil, gUnp, Co.gSub, sPar2, sPar3, cVar, cK, cBin, cUn, cNot, cAnd, cOr, cIte, cChain, aNil, aCons, cTup, cLst, cCall, cMeth, cSlice, partOf, sNx, sBrk, sCnt, sBad, sRz, cTrue, Res.bind, MV.ofL, List.map_cons, List.map_nil, List.length_cons, List.length_nil, List.cons_append, List.nil_append, List.getElem?_cons_succ, List.getElem?_cons_zero, List.set_cons_succ, List.set_cons_zero, List.replicate, Nat.reduceSub, Nat.reduceAdd, i1, oGt_i, hb, oMod_i _ _ _ hp, oDiv_i _ _ _ hp h2, hs]
  · obtain ⟨m1, hm1⟩ : ∃ m1, m1 = m.set t (.lst [.int (a + 1), .int b]) := ⟨_, rfl⟩
    have g0 : oGet (.ref t) (.int 0) m = .ok (.int a) m := by simp [oGet, lstAt_some hm]
    have s0 : oSet (.ref t) (.int 0) (.int (a + 1)) m = .ok () m1 := by
      have := setL m t _ hm 0 0 (.int (a + 1)) rfl
      rw [hm1]; exact this
    have ai : oAddI (.int a) (.int 1) m = .ok (.int (a + 1)) m := rfl
    have hm1t : m1[t]? = some (.lst [.int (a + 1), .int b]) := by rw [hm1]; exact List.getElem?_set_self htl
    have k1 : Ke [t] m m1 := by rw [hm1]; exact Ke.set (by simp)
    obtain ⟨m2, hm2⟩ : ∃ m2, m2 = m1 ++ [MO.lst []] := ⟨_, rfl⟩
    have n2 : newL [] m1 = .ok (.ref m1.length) m2 := by rw [hm2]; exact newL_ok' _ _ (by simp)
    have q2 : oEq (script ns) (.ref m1.length) m2 = .ok (.bl (decide (ns = []))) m2 := by rw [hm2]; exact scr_eq ns m1
    have k2 : Ke [t] m m2 := by rw [hm2]; exact k1.trans (Ke.app _ _)
    have hm2t : m2[t]? = some (.lst [.int (a + 1), .int b]) := by rw [hm2]; exact (Ke.app (S := []) m1 _).get hm1t
    have ht2 : Tn t m2 := ⟨a + 1, b, by omega, hm2t⟩
    by_cases hn : ns = []
    · refine ⟨a % many, m2, ?_, Int.emod_nonneg _ (by omega), Int.emod_lt_of_pos _ hp, k2, ht2⟩
      rw [decide_eq_true hn] at q2
      simp only [f_law_draw, b_law_draw, runB, slots, sSeq, sRet, sIf, sExpr, sAsg, gNm, Co.gCons, Co.gNil, gUnp, Co.gSub, sPar2, sPar3, cVar, cK, cBin, cUn, cNot, cAnd, cOr, cIte, cChain, aNil, aCons, cTup, cLst, cCall, cMeth, cSlice, partOf, sNx, sBrk, sCnt, sBad, sRz, cTrue, Res.bind, MV.ofL, List.map_cons, List.map_nil, List.length_cons, List.length_nil, List.cons_append, List.nil_append, List.getElem?_cons_succ, List.getElem?_cons_zero, List.set_cons_succ, List.set_cons_zero, List.replicate, Nat.reduceSub, Nat.reduceAdd, i1, i0, oGt_i, hb, g0, ai, s0, sAugS, n2, q2, decide_true, decide_false, oMod_i _ _ _ hp]
    · have hl : 0 < ns.length := List.length_pos_iff.mpr hn
      have hli : (0 : Int) < ns.length := by omega
      obtain ⟨x, ex⟩ := scr_ix ns m2 (a % ns.length) (Int.emod_nonneg _ (by omega)) (Int.emod_lt_of_pos _ hli)
      have p18 : oPow (.int 10) (.int 18) m2 = .ok (.int (10 ^ 18)) m2 := powI m2 10 18 (by decide) (by decide)
      have p60 : oPow (.int 10) (.int 60) m2 = .ok (.int (10 ^ 60)) m2 := powI m2 10 60 (by decide) (by decide)
      have m60 := mulB m2 (10 ^ 60) (10 ^ 60) ok60
      have last : ∀ y : Int, ∃ d, (oMod (.int (y % 2147483647 % 999983)) (.int many) m2 = .ok (.int d) m2) ∧ 0 ≤ d ∧ d < many := fun y => ⟨_, oMod_i _ _ _ hp, Int.emod_nonneg _ (by omega), Int.emod_lt_of_pos _ hp⟩
      have mx := mulR m2 x 1103515245 (by decide)
      have ma := mulL m2 7919 a (by decide)
      obtain ⟨z, hz⟩ : ∃ z, z = (x * 1103515245 + 7919 * a + 12345) % 2147483647 := ⟨_, rfl⟩
      have hz1 : 0 ≤ z := by rw [hz]; exact Int.emod_nonneg _ (by decide)
      have hz2 : z < 2147483647 := by rw [hz]; exact Int.emod_lt_of_pos _ (by decide)
      have zz := oMod_i m2 (x * 1103515245 + 7919 * a + 12345) 2147483647 (by decide)
      rw [← hz] at zz
      have pz : oPow (.int z) (.int 5) m2 = .ok (.int (z ^ 5)) m2 := powI m2 z 5 (by omega) (by decide)
      obtain ⟨d, hd, d0, d1⟩ := last (z ^ 5)
      have md1 := oMod_i m2 (z ^ 5) 2147483647 (by decide)
      have md2 := oMod_i m2 (z ^ 5 % 2147483647) 999983 (by decide)
      have ml := oMod_i m2 a ns.length hli
      by_cases hal : a < ns.length
      · obtain ⟨y, ey⟩ := scr_ix ns m2 a ha hal
        by_cases hy : (10 : Int) ^ 18 ≤ y
        · have p120 : (0 : Int) < 10 ^ 60 * 10 ^ 60 := by decide +kernel
          obtain ⟨w, hw⟩ : ∃ w, oMod (.int (y / many)) (.int (10 ^ 60 * 10 ^ 60)) m2 = .ok (.int w) m2 := ⟨_, oMod_i _ _ _ p120⟩
          obtain ⟨m3, hm3⟩ : ∃ m3, m3 = m2.set t (.lst [.int (a + 1), .int w]) := ⟨_, rfl⟩
          obtain ⟨htl2, _⟩ := List.getElem?_eq_some_iff.mp hm2t
          have s3 : oSet (.ref t) (.int 1) (.int w) m2 = .ok () m3 := by
            have := setL m2 t _ hm2t 1 1 (.int w) rfl
            rw [hm3]; exact this
          obtain ⟨y3, ey3⟩ := scr_ix ns m3 a ha hal
          refine ⟨y3 % many, m3, ?_, Int.emod_nonneg _ (by omega), Int.emod_lt_of_pos _ hp, k2.trans (by rw [hm3]; exact Ke.set (by simp)), a + 1, w, by omega, by rw [hm3]; exact List.getElem?_set_self htl2⟩
          simp only [f_law_draw, b_law_draw, runB, slots, sSeq, sRet, sIf, sExpr, sAsg, gNm, Co.gCons, Co.gNil, gUnp, Co.gSub, sPar2, sPar3, cVar, cK, cBin, cUn, cNot, cAnd, cOr, cIte, cChain, aNil, aCons, cTup, cLst, cCall, cMeth, cSlice, partOf, sNx, sBrk, sCnt, sBad, sRz, cTrue, Res.bind, MV.ofL, List.map_cons, List.map_nil, List.length_cons, List.length_nil, List.cons_append, List.nil_append, List.getElem?_cons_succ, List.getElem?_cons_zero, List.set_cons_succ, List.set_cons_zero, List.replicate, Nat.reduceSub, Nat.reduceAdd, i1, i0, oGt_i, hb, g0, ai, s0, sAugS, n2, q2, hn, scr_len, oLt_i, hal, ey, p18, oGe_i, hy, decide_true, decide_false, oDiv_i _ _ _ hp h2, p60, m60, hw, s3, ey3, oMod_i _ _ _ hp]
        · refine ⟨d, m2, ?_, d0, d1, k2, ht2⟩
          simp only [f_law_draw, b_law_draw, runB, slots, sSeq, sRet, sIf, sExpr, sAsg, gNm, Co.gCons, Co.gNil, gUnp, Co.gSub, sPar2, sPar3, cVar, cK, cBin, cUn, cNot, cAnd, cOr, cIte, cChain, aNil, aCons, cTup, cLst, cCall, cMeth, cSlice, partOf, sNx, sBrk, sCnt, sBad, sRz, cTrue, Res.bind, MV.ofL, List.map_cons, List.map_nil, List.length_cons, List.length_nil, List.cons_append, List.nil_append, List.getElem?_cons_succ, List.getElem?_cons_zero, List.set_cons_succ, List.set_cons_zero, List.replicate, Nat.reduceSub, Nat.reduceAdd, i1, i0, oGt_i, hb, g0, ai, s0, sAugS, n2, q2, hn, scr_len, oLt_i, hal, ey, p18, oGe_i, hy, decide_true, decide_false, ml, ex, mx, ma, oAdd_i, zz, pz, md1, md2, hd]
      · refine ⟨d, m2, ?_, d0, d1, k2, ht2⟩
        simp only [f_law_draw, b_law_draw, runB, slots, sSeq, sRet, sIf, sExpr, sAsg, gNm, Co.gCons, Co.gNil, gUnp, Co.gSub, sPar2, sPar3, cVar, cK, cBin, cUn, cNot, cAnd, cOr, cIte, cChain, aNil, aCons, cTup, cLst, cCall, cMeth, cSlice, partOf, sNx, sBrk, sCnt, sBad, sRz, cTrue, Res.bind, MV.ofL, List.map_cons, List.map_nil, List.length_cons, List.length_nil, List.cons_append, List.nil_append, List.getElem?_cons_succ, List.getElem?_cons_zero, List.set_cons_succ, List.set_cons_zero, List.replicate, Nat.reduceSub, Nat.reduceAdd, i1, i0, oGt_i, hb, g0, ai, s0, sAugS, n2, q2, hn, scr_len, oLt_i, hal, decide_true, decide_false, ml, ex, mx, ma, oAdd_i, zz, pz, md1, md2, hd]
end Lw

namespace Lw
open PySem Co
theorem setting_ok (ns : List Int) (t : Nat) (m : MH) (ht : Tn t m) : ∃ s m', f_law_setting [script ns, .ref t] m = .ok (encS s) m' ∧ SeOk s ∧ Ke [t] m m' ∧ Tn t m' := by
  obtain ⟨d1, m1, e1, a1, b1, k1, t1⟩ := draw_ok ns t 2 m ht (by decide) (by decide)
  obtain ⟨d2, m2, e2, a2, b2, k2, t2⟩ := draw_ok ns t 2 m1 t1 (by decide) (by decide)
  obtain ⟨d3, m3, e3, a3, b3, k3, t3⟩ := draw_ok ns t 3 m2 t2 (by decide) (by decide)
  refine ⟨(2 + d1, 2 + d2, 1 + d3), m3, ?_, ⟨by simp; omega, by simp; omega, by simp; omega⟩, (k1.trans k2).trans k3, t3⟩
  simp only [f_law_setting, b_law_setting, runB, slots, sSeq, sRet, sIf, sExpr, sAsg, gNm, Co.gCons, Co.gNil, gUnp, Co.gSub, sPar2, sPar3, cVar, cK, cBin, cUn, cNot, cAnd, cOr, cIte, cChain, aNil, aCons, cTup, cLst, cCall, cMeth, cSlice, partOf, sNx, sBrk, sCnt, sBad, sRz, cTrue, Res.bind, MV.ofL, List.map_cons, List.map_nil, List.length_cons, List.length_nil, List.cons_append, List.nil_append, List.getElem?_cons_succ, List.getElem?_cons_zero, List.set_cons_succ, List.set_cons_zero, List.replicate, Nat.reduceSub, Nat.reduceAdd, e1, e2, e3, oAdd_i, encS]
theorem rule_ok (ns : List Int) (t : Nat) (m : MH) (ht : Tn t m) : ∃ r m', f_law_rule [script ns, .ref t] m = .ok (encR r) m' ∧ RuOk r ∧ Ke [t] m m' ∧ Tn t m' := by
  obtain ⟨W, hW⟩ : ∃ W : List MV, W = [.str "line", .str "many", .str "one", .str "turns", .str "bound", .str "patience"] := ⟨_, rfl⟩
  obtain ⟨m1, hm1⟩ : ∃ m1, m1 = m ++ [MO.lst W] := ⟨_, rfl⟩
  have hlen : W.length = 6 := by rw [hW]; rfl
  have n1 : newL W m = .ok (.ref m.length) m1 := by rw [hm1]; exact newL_ok' _ _ (by omega)
  have g1 : m1[m.length]? = some (.lst W) := by rw [hm1]; simp
  have kk : Ke [t] m m1 := by rw [hm1]; exact Ke.app _ _
  have t1 : Tn t m1 := ht.keep (by rw [hm1]; exact Ke.app _ _)
  obtain ⟨d, m2, e2, a2, b2, k2, t2⟩ := draw_ok ns t 6 m1 t1 (by decide) (by decide)
  obtain ⟨d3, m3, e3, a3, b3, k3, t3⟩ := draw_ok ns t 3 m2 t2 (by decide) (by decide)
  have htl : t < m.length := by
    obtain ⟨a, b, _, h⟩ := ht
    exact (List.getElem?_eq_some_iff.mp h).1
  have g2 : m2[m.length]? = some (.lst W) := k2.get g1 (by simp; omega)
  have bl : bLen [.ref m.length] m1 = .ok (.int 6) m1 := by rw [bLen_ref m1 _ _ g1, hlen]; rfl
  have pick : ∀ w : Str, L2.atI W d = some (.str w) → f_law_pick [script ns, .ref t, .ref m.length] m1 = .ok (.str w) m2 := fun w hw => by
    have ix := ixL m2 m.length W g2 d _ hw
    simp only [f_law_pick, b_law_pick, runB, slots, sSeq, sRet, sIf, sExpr, sAsg, gNm, Co.gCons, Co.gNil, gUnp, Co.gSub, sPar2, sPar3, cVar, cK, cBin, cUn, cNot, cAnd, cOr, cIte, cChain, aNil, aCons, cTup, cLst, cCall, cMeth, cSlice, partOf, sNx, sBrk, sCnt, sBad, sRz, cTrue, Res.bind, MV.ofL, List.map_cons, List.map_nil, List.length_cons, List.length_nil, List.cons_append, List.nil_append, List.getElem?_cons_succ, List.getElem?_cons_zero, List.set_cons_succ, List.set_cons_zero, List.replicate, Nat.reduceSub, Nat.reduceAdd, bl, e2, ix]
  rw [hW] at n1
  have fin : ∀ r : Ru, f_law_pick [script ns, .ref t, .ref m.length] m1 = .ok (.str r.word) m2 → ∃ r' m', f_law_rule [script ns, .ref t] m = .ok (encR r') m' ∧ RuOk r' ∧ Ke [t] m m' ∧ Tn t m' := by
    intro r hp
    have hin := in_num r m2
    cases r <;> simp only [Ru.word, Ru.isN] at hin hp
    case line =>
      refine ⟨.line, m2, ?_, trivial, kk.trans k2, t2⟩
      simp only [f_law_rule, b_law_rule, runB, slots, sSeq, sRet, sIf, sExpr, sAsg, gNm, Co.gCons, Co.gNil, gUnp, Co.gSub, sPar2, sPar3, cVar, cK, cBin, cUn, cNot, cAnd, cOr, cIte, cChain, aNil, aCons, cTup, cLst, cCall, cMeth, cSlice, partOf, sNx, sBrk, sCnt, sBad, sRz, cTrue, Res.bind, MV.ofL, List.map_cons, List.map_nil, List.length_cons, List.length_nil, List.cons_append, List.nil_append, List.getElem?_cons_succ, List.getElem?_cons_zero, List.set_cons_succ, List.set_cons_zero, List.replicate, Nat.reduceSub, Nat.reduceAdd, n1, hp, hin, encR]
    case many =>
      refine ⟨.many, m2, ?_, trivial, kk.trans k2, t2⟩
      simp only [f_law_rule, b_law_rule, runB, slots, sSeq, sRet, sIf, sExpr, sAsg, gNm, Co.gCons, Co.gNil, gUnp, Co.gSub, sPar2, sPar3, cVar, cK, cBin, cUn, cNot, cAnd, cOr, cIte, cChain, aNil, aCons, cTup, cLst, cCall, cMeth, cSlice, partOf, sNx, sBrk, sCnt, sBad, sRz, cTrue, Res.bind, MV.ofL, List.map_cons, List.map_nil, List.length_cons, List.length_nil, List.cons_append, List.nil_append, List.getElem?_cons_succ, List.getElem?_cons_zero, List.set_cons_succ, List.set_cons_zero, List.replicate, Nat.reduceSub, Nat.reduceAdd, n1, hp, hin, encR]
    case one =>
      refine ⟨.one, m2, ?_, trivial, kk.trans k2, t2⟩
      simp only [f_law_rule, b_law_rule, runB, slots, sSeq, sRet, sIf, sExpr, sAsg, gNm, Co.gCons, Co.gNil, gUnp, Co.gSub, sPar2, sPar3, cVar, cK, cBin, cUn, cNot, cAnd, cOr, cIte, cChain, aNil, aCons, cTup, cLst, cCall, cMeth, cSlice, partOf, sNx, sBrk, sCnt, sBad, sRz, cTrue, Res.bind, MV.ofL, List.map_cons, List.map_nil, List.length_cons, List.length_nil, List.cons_append, List.nil_append, List.getElem?_cons_succ, List.getElem?_cons_zero, List.set_cons_succ, List.set_cons_zero, List.replicate, Nat.reduceSub, Nat.reduceAdd, n1, hp, hin, encR]
    case turns =>
      refine ⟨.turns, m2, ?_, trivial, kk.trans k2, t2⟩
      simp only [f_law_rule, b_law_rule, runB, slots, sSeq, sRet, sIf, sExpr, sAsg, gNm, Co.gCons, Co.gNil, gUnp, Co.gSub, sPar2, sPar3, cVar, cK, cBin, cUn, cNot, cAnd, cOr, cIte, cChain, aNil, aCons, cTup, cLst, cCall, cMeth, cSlice, partOf, sNx, sBrk, sCnt, sBad, sRz, cTrue, Res.bind, MV.ofL, List.map_cons, List.map_nil, List.length_cons, List.length_nil, List.cons_append, List.nil_append, List.getElem?_cons_succ, List.getElem?_cons_zero, List.set_cons_succ, List.set_cons_zero, List.replicate, Nat.reduceSub, Nat.reduceAdd, n1, hp, hin, encR]
    case bound n =>
      refine ⟨.bound (1 + d3), m3, ?_, ⟨by omega, by omega⟩, (kk.trans k2).trans k3, t3⟩
      simp only [f_law_rule, b_law_rule, runB, slots, sSeq, sRet, sIf, sExpr, sAsg, gNm, Co.gCons, Co.gNil, gUnp, Co.gSub, sPar2, sPar3, cVar, cK, cBin, cUn, cNot, cAnd, cOr, cIte, cChain, aNil, aCons, cTup, cLst, cCall, cMeth, cSlice, partOf, sNx, sBrk, sCnt, sBad, sRz, cTrue, Res.bind, MV.ofL, List.map_cons, List.map_nil, List.length_cons, List.length_nil, List.cons_append, List.nil_append, List.getElem?_cons_succ, List.getElem?_cons_zero, List.set_cons_succ, List.set_cons_zero, List.replicate, Nat.reduceSub, Nat.reduceAdd, n1, hp, hin, e3, oAdd_i, encR]
    case patience n =>
      refine ⟨.patience (1 + d3), m3, ?_, ⟨by omega, by omega⟩, (kk.trans k2).trans k3, t3⟩
      simp only [f_law_rule, b_law_rule, runB, slots, sSeq, sRet, sIf, sExpr, sAsg, gNm, Co.gCons, Co.gNil, gUnp, Co.gSub, sPar2, sPar3, cVar, cK, cBin, cUn, cNot, cAnd, cOr, cIte, cChain, aNil, aCons, cTup, cLst, cCall, cMeth, cSlice, partOf, sNx, sBrk, sCnt, sBad, sRz, cTrue, Res.bind, MV.ofL, List.map_cons, List.map_nil, List.length_cons, List.length_nil, List.cons_append, List.nil_append, List.getElem?_cons_succ, List.getElem?_cons_zero, List.set_cons_succ, List.set_cons_zero, List.replicate, Nat.reduceSub, Nat.reduceAdd, n1, hp, hin, e3, oAdd_i, encR]
  have hd : d = 0 ∨ d = 1 ∨ d = 2 ∨ d = 3 ∨ d = 4 ∨ d = 5 := by omega
  rcases hd with h | h | h | h | h | h
  · exact fin .line (pick _ (by rw [hW, h]; rfl))
  · exact fin .many (pick _ (by rw [hW, h]; rfl))
  · exact fin .one (pick _ (by rw [hW, h]; rfl))
  · exact fin .turns (pick _ (by rw [hW, h]; rfl))
  · exact fin (.bound 1) (pick _ (by rw [hW, h]; rfl))
  · exact fin (.patience 1) (pick _ (by rw [hW, h]; rfl))
theorem Tn.ke {t : Nat} {m m' : MH} (h : Tn t m) {S : List Nat} (k : Ke S m m') (hs : t ∉ S) : Tn t m' := by
  obtain ⟨a, b, h1, h2⟩ := h
  exact ⟨a, b, h1, k.get h2 hs⟩
theorem comings_loop (ns : List Int) (t c : Nat) (hne : t ≠ c) (x2 : Option MV) (busy : Int) (k : Nat) : ∀ (j i fuel : Nat) (cs : List Int) (m : MH) (v3 v6 : Option MV), i + j = k → j < fuel → Tn t m → m[c]? = some (.lst (cs.map .int)) → Is012 cs → cs.length + j ≤ 1000 →
    ∃ cs' w3 w6 m', forN (.its (rangeL 0 k)) (gNm 3) lb_law_comings_1 fuel i [some (script ns), some (.ref t), x2, v3, some (.int busy), some (.ref c), v6] m = .ok (.nx [some (script ns), some (.ref t), x2, w3, some (.int busy), some (.ref c), w6]) m' ∧ Ke [t, c] m m' ∧ Tn t m' ∧ m'[c]? = some (.lst (cs'.map .int)) ∧ Is012 cs' ∧ cs'.length = cs.length + j
  | 0, i, fuel, cs, m, v3, v6, hi, hf, ht, hc, h0, hl => by
    cases fuel with
    | zero => simp at hf
    | succ fuel =>
      refine ⟨cs, v3, v6, m, ?_, Ke.refl, ht, hc, h0, rfl⟩
      have : (rangeL 0 k)[i]? = none := List.getElem?_eq_none (by simp [rangeL]; omega)
      rw [forN]
      simp only [Src.at, this]
  | j + 1, i, fuel, cs, m, v3, v6, hi, hf, ht, hc, h0, hl => by
    cases fuel with
    | zero => simp at hf
    | succ fuel =>
      have hx : (rangeL 0 k)[i]? = some (.int i) := by
        unfold rangeL
        rw [List.getElem?_map, List.getElem?_range (by omega)]
        simp
      obtain ⟨d1, m1, e1, a1, b1, k1, t1⟩ := draw_ok ns t 3 m ht (by decide) (by decide)
      obtain ⟨d2, m2, e2, a2, b2, k2, t2⟩ := draw_ok ns t 3 m1 t1 (by decide) (by decide)
      have hc1 : m1[c]? = some (.lst (cs.map .int)) := k1.get hc (by simp; exact fun e => hne e.symm)
      have hc2 : m2[c]? = some (.lst (cs.map .int)) := k2.get hc1 (by simp; exact fun e => hne e.symm)
      have go : ∀ (d : Int) (mm : MH), Ke [t] m mm → Tn t mm → mm[c]? = some (.lst (cs.map .int)) → (d = 0 ∨ d = 1 ∨ d = 2) →
          lb_law_comings_1 [some (script ns), some (.ref t), x2, some (.int i), some (.int busy), some (.ref c), v6] m = (mAppend (.ref c) [.int d] mm).bind (fun _ m1 => .ok (.nx [some (script ns), some (.ref t), x2, some (.int i), some (.int busy), some (.ref c), some (.int d1)]) m1) →
          ∃ cs' w3 w6 m', forN (.its (rangeL 0 k)) (gNm 3) lb_law_comings_1 (fuel + 1) i [some (script ns), some (.ref t), x2, v3, some (.int busy), some (.ref c), v6] m = .ok (.nx [some (script ns), some (.ref t), x2, w3, some (.int busy), some (.ref c), w6]) m' ∧ Ke [t, c] m m' ∧ Tn t m' ∧ m'[c]? = some (.lst (cs'.map .int)) ∧ Is012 cs' ∧ cs'.length = cs.length + (j + 1) := by
        intro d mm kk tt hh hd hb
        rw [mAppend_ok mm c _ (.int d) hh (by simp; omega)] at hb
        obtain ⟨hcl, _⟩ := List.getElem?_eq_some_iff.mp hh
        have hs : cs.map MV.int ++ [.int d] = (cs ++ [d]).map .int := by simp
        rw [hs] at hb
        obtain ⟨cs', w3, w6, m', e, ke, te, ce, ie, le⟩ := comings_loop ns t c hne x2 busy k j (i + 1) fuel (cs ++ [d]) (mm.set c (.lst ((cs ++ [d]).map .int))) (some (.int i)) (some (.int d1)) (by omega) (by omega) (tt.ke (S := [c]) (Ke.set (by simp)) (by simpa using hne)) (List.getElem?_set_self hcl) (fun z hz => by
            rcases List.mem_append.mp hz with h | h
            · exact h0 z h
            · have : z = d := by simpa using h
              subst this; exact hd) (by simp; omega)
        refine ⟨cs', w3, w6, m', ?_, ((kk.mono (by simp)).trans (Ke.set (by simp))).trans ke, te, ce, ie, by rw [le]; simp; omega⟩
        rw [forN]
        simp only [Src.at, hx, gNm, List.set_cons_succ, List.set_cons_zero, Res.bind, hb]
        exact e
      have kd1 := kindM_lst m c _ hc
      have kd2 := kindM_lst m1 c _ hc1
      by_cases hbz : busy < 1
      · refine go d1 m1 k1 t1 hc1 (by omega) ?_
        simp only [lb_law_comings_1, runB, slots, sSeq, sRet, sIf, sExpr, sAsg, gNm, Co.gCons, Co.gNil, gUnp, Co.gSub, sPar2, sPar3, cVar, cK, cBin, cUn, cNot, cAnd, cOr, cIte, cChain, aNil, aCons, cTup, cLst, cCall, cMeth, cSlice, partOf, sNx, sBrk, sCnt, sBad, sRz, cTrue, Res.bind, MV.ofL, List.map_cons, List.map_nil, List.length_cons, List.length_nil, List.cons_append, List.nil_append, List.getElem?_cons_succ, List.getElem?_cons_zero, List.set_cons_succ, List.set_cons_zero, List.replicate, Nat.reduceSub, Nat.reduceAdd, e1, kd2, if_true, oLt_i, hbz, decide_true]
      · by_cases hd1 : 0 < d1
        · refine go d1 m1 k1 t1 hc1 (by omega) ?_
          simp only [lb_law_comings_1, runB, slots, sSeq, sRet, sIf, sExpr, sAsg, gNm, Co.gCons, Co.gNil, gUnp, Co.gSub, sPar2, sPar3, cVar, cK, cBin, cUn, cNot, cAnd, cOr, cIte, cChain, aNil, aCons, cTup, cLst, cCall, cMeth, cSlice, partOf, sNx, sBrk, sCnt, sBad, sRz, cTrue, Res.bind, MV.ofL, List.map_cons, List.map_nil, List.length_cons, List.length_nil, List.cons_append, List.nil_append, List.getElem?_cons_succ, List.getElem?_cons_zero, List.set_cons_succ, List.set_cons_zero, List.replicate, Nat.reduceSub, Nat.reduceAdd, e1, kd2, if_true, oLt_i, oGt_i, hbz, hd1, decide_true, decide_false]
        · refine go d2 m2 (k1.trans k2) t2 hc2 (by omega) ?_
          simp only [lb_law_comings_1, runB, slots, sSeq, sRet, sIf, sExpr, sAsg, gNm, Co.gCons, Co.gNil, gUnp, Co.gSub, sPar2, sPar3, cVar, cK, cBin, cUn, cNot, cAnd, cOr, cIte, cChain, aNil, aCons, cTup, cLst, cCall, cMeth, cSlice, partOf, sNx, sBrk, sCnt, sBad, sRz, cTrue, Res.bind, MV.ofL, List.map_cons, List.map_nil, List.length_cons, List.length_nil, List.cons_append, List.nil_append, List.getElem?_cons_succ, List.getElem?_cons_zero, List.set_cons_succ, List.set_cons_zero, List.replicate, Nat.reduceSub, Nat.reduceAdd, e1, e2, kd2, if_true, oLt_i, oGt_i, hbz, hd1, decide_true, decide_false]
theorem comings_ok (ns : List Int) (t : Nat) (most : Int) (m : MH) (ht : Tn t m) (h1 : 0 ≤ most) (h2 : most ≤ 500) :
    ∃ cs c m', f_law_comings [script ns, .ref t, .int most] m = .ok (.ref c) m' ∧ (cs.length : Int) ≤ most ∧ Is012 cs ∧ Ke [t] m m' ∧ Tn t m' ∧ m.length ≤ c ∧ m'[c]? = some (.lst (cs.map .int)) := by
  have htl : t < m.length := by
    obtain ⟨a, b, _, h⟩ := ht
    exact (List.getElem?_eq_some_iff.mp h).1
  obtain ⟨d1, m1, e1, a1, b1, k1, t1⟩ := draw_ok ns t 3 m ht (by decide) (by decide)
  obtain ⟨m2, hm2⟩ : ∃ m2, m2 = m1 ++ [MO.lst []] := ⟨_, rfl⟩
  have n2 : newL [] m1 = .ok (.ref m1.length) m2 := by rw [hm2]; exact newL_ok' _ _ (by simp)
  have k2 : Ke [] m1 m2 := by rw [hm2]; exact Ke.app _ _
  have g2 : m2[m1.length]? = some (.lst (([] : List Int).map .int)) := by rw [hm2]; simp
  have kl := k1.1
  obtain ⟨d3, m3, e3, a3, b3, k3, t3⟩ := draw_ok ns t (most + 1) m2 (t1.keep k2) (by omega) (by omega)
  have g3 := k3.get g2 (by simp; omega)
  obtain ⟨cs', w3, w6, m', e, ke, te, ce, ie, le⟩ := comings_loop ns t m1.length (by omega) (some (.int most)) d1 d3.toNat d3.toNat 0 big [] m3 none none (by omega) (by show _ < 1000000; omega) t3 g3 (fun z hz => by simp at hz) (by simp; omega)
  refine ⟨cs', m1.length, m', ?_, by simp at le; omega, ie, ?_, te, kl, ce⟩
  · have hr : iRange (aCons (cCall f_law_draw (aCons (cVar 0) (aCons (cVar 1) (aCons (cBin oAdd (cVar 2) (cK (.int 1))) aNil)))) aNil) [some (script ns), some (.ref t), some (.int most), none, some (.int d1), some (.ref m1.length), none] m2 = .ok (.its (rangeL 0 d3.toNat)) m3 := by
      simp only [iRange, runB, slots, sSeq, sRet, sIf, sExpr, sAsg, gNm, Co.gCons, Co.gNil, gUnp, Co.gSub, sPar2, sPar3, cVar, cK, cBin, cUn, cNot, cAnd, cOr, cIte, cChain, aNil, aCons, cTup, cLst, cCall, cMeth, cSlice, partOf, sNx, sBrk, sCnt, sBad, sRz, cTrue, Res.bind, MV.ofL, List.map_cons, List.map_nil, List.length_cons, List.length_nil, List.cons_append, List.nil_append, List.getElem?_cons_succ, List.getElem?_cons_zero, List.set_cons_succ, List.set_cons_zero, List.replicate, Nat.reduceSub, Nat.reduceAdd, oAdd_i, e3]
      rw [if_pos (by simp only [decide_eq_true_eq]; omega)]
    simp only [f_law_comings, b_law_comings, runB, slots, sSeq, sRet, sIf, sExpr, sAsg, gNm, Co.gCons, Co.gNil, gUnp, Co.gSub, sPar2, sPar3, cVar, cK, cBin, cUn, cNot, cAnd, cOr, cIte, cChain, aNil, aCons, cTup, cLst, cCall, cMeth, cSlice, partOf, sNx, sBrk, sCnt, sBad, sRz, cTrue, Res.bind, MV.ofL, List.map_cons, List.map_nil, List.length_cons, List.length_nil, List.cons_append, List.nil_append, List.getElem?_cons_succ, List.getElem?_cons_zero, List.set_cons_succ, List.set_cons_zero, List.replicate, Nat.reduceSub, Nat.reduceAdd, e1, n2, sFor, hr, e]
  · refine ⟨Nat.le_trans (Nat.le_trans (Nat.le_trans kl k2.1) k3.1) ke.1, fun i hi hs => ?_⟩
    have hit : i ≠ t := by simpa using hs
    rw [ke.2 i (by have := k2.1; have := k3.1; omega) (by simp; omega), k3.2 i (by have := k2.1; omega) hs, k2.2 i (by omega) (by simp), k1.2 i hi hs]
end Lw

namespace Lw
open PySem Co
/-! ### loops by an invariant -/
theorem for_inv {s : Src} {g : CG} {b : CS} (I : Nat → Sl → MH → Prop) (xs : List MV) (hat : ∀ i r m, I i r m → s.at i m = some xs[i]?)
    (step : ∀ i v r m, xs[i]? = some v → I i r m → ∃ r1 m1 r2 m2, g v r m = .ok r1 m1 ∧ b r1 m1 = .ok (.nx r2) m2 ∧ I (i + 1) r2 m2) :
    ∀ j i fuel r m, i + j = xs.length → j < fuel → I i r m → ∃ r' m', forN s g b fuel i r m = .ok (.nx r') m' ∧ I xs.length r' m'
  | 0, i, fuel, r, m, hi, hf, h => by
    cases fuel with
    | zero => simp at hf
    | succ fuel =>
      have : xs[i]? = none := List.getElem?_eq_none (by omega)
      refine ⟨r, m, ?_, by rw [← hi]; exact h⟩
      rw [forN, hat i r m h, this]
  | j + 1, i, fuel, r, m, hi, hf, h => by
    cases fuel with
    | zero => simp at hf
    | succ fuel =>
      have hx : xs[i]? = some xs[i] := List.getElem?_eq_getElem (by omega)
      obtain ⟨r1, m1, r2, m2, e1, e2, h2⟩ := step i _ r m hx h
      obtain ⟨r', m', e, h'⟩ := for_inv I xs hat step j (i + 1) fuel r2 m2 (by omega) (by omega) h2
      refine ⟨r', m', ?_, h'⟩
      rw [forN, hat i r m h, hx]
      simp only [e1, Res.bind, e2]
      exact e
/-! ### lists of encoded things -/
structure Enc {α : Type} [DecidableEq α] (en : α → MV) : Prop where
  deep : ∀ m k x, deep m (k + 3) (en x) = some (en x)
  eq : ∀ x y, eqv (en x) (en y) = decide (x = y)
theorem Enc.I : Enc encI := ⟨fun m k x => deep_I m (k + 2) x, eqv_I⟩
theorem Enc.int : Enc MV.int := ⟨fun m k x => rfl, fun x y => by rw [eqv, Bool.beq_eq_decide_eq]⟩
theorem Enc.N : Enc encN := ⟨fun m k x => rfl, fun x y => by
  obtain ⟨a, b, c⟩ := x
  obtain ⟨a', b', c'⟩ := y
  simp only [encN, eqv, Bool.beq_eq_decide_eq]
  by_cases h1 : a = a' <;> by_cases h2 : b = b' <;> by_cases h3 : c = c' <;> simp [h1, h2, h3]⟩
theorem Enc.T : Enc encT := ⟨fun m k x => rfl, fun x y => by
  obtain ⟨a, b⟩ := x
  obtain ⟨a', b'⟩ := y
  simp only [encT, eqv, Bool.beq_eq_decide_eq]
  by_cases h1 : a = a' <;> by_cases h2 : b = b' <;> simp [h1, h2]⟩
section
variable {α : Type} [DecidableEq α] {en : α → MV} (E : Enc en)
include E
theorem Enc.map (m : MH) (k : Nat) : ∀ xs : List α, mapM? (Co.deep m (k + 3)) (xs.map en) = some (MV.ofL (xs.map en))
  | [] => rfl
  | x :: xs => by rw [List.map_cons, mapM?, E.deep, Enc.map m k xs]; rfl
theorem Enc.eqL : ∀ xs ys : List α, eqv (MV.ofL (xs.map en)) (MV.ofL (ys.map en)) = decide (xs = ys)
  | [], [] => rfl
  | [], _ :: _ => rfl
  | _ :: _, [] => rfl
  | x :: xs, y :: ys => by
    rw [List.map_cons, List.map_cons, MV.ofL, MV.ofL, eqv, Enc.eqL xs ys, E.eq]
    by_cases h : x = y <;> by_cases h2 : xs = ys <;> simp [h, h2]
theorem Enc.eqM (m : MH) (a b : Nat) (xs ys : List α) (ha : m[a]? = some (.lst (xs.map en))) (hb : m[b]? = some (.lst (ys.map en))) : Co.eqM m (.ref a) (.ref b) = some (decide (xs = ys)) := by
  have d : ∀ n (zs : List α), m[n]? = some (.lst (zs.map en)) → Co.deep m 40 (.ref n) = some (.frz (MV.ofL (zs.map en))) := fun n zs h => by
    show (lstAt n m).bind (fun xs => (mapM? (Co.deep m 39) xs).map MV.frz) = _
    rw [lstAt_some h, Option.bind_some, E.map m 36]
    rfl
  show ((Co.deep m 40 (.ref a)).bind fun x => (Co.deep m 40 (.ref b)).map fun y => eqv x y) = _
  rw [d a xs ha, d b ys hb]
  simp only [Option.bind_some, Option.map_some, eqv, E.eqL]
theorem Enc.oEq (m : MH) (a b : Nat) (xs ys : List α) (ha : m[a]? = some (.lst (xs.map en))) (hb : m[b]? = some (.lst (ys.map en))) : Co.oEq (.ref a) (.ref b) m = .ok (.bl (decide (xs = ys))) m := by
  unfold Co.oEq
  rw [E.eqM m a b xs ys ha hb]
theorem Enc.oNe (m : MH) (a b : Nat) (xs ys : List α) (ha : m[a]? = some (.lst (xs.map en))) (hb : m[b]? = some (.lst (ys.map en))) : Co.oNe (.ref a) (.ref b) m = .ok (.bl (!decide (xs = ys))) m := by
  unfold Co.oNe
  rw [E.eqM m a b xs ys ha hb]
end
theorem cut_toV (xs : List MV) (i : Int) (h : 0 ≤ i) : cutM xs none (some i) = xs.take i.toNat := by
  unfold cutM
  rw [sIx_nat _ _ h, HT.sIx_none, List.drop_zero, Nat.sub_zero]
  by_cases hl : i.toNat ≤ xs.length
  · rw [Nat.min_eq_left hl]
  · rw [Nat.min_eq_right (by omega), List.take_of_length_le (by simp), List.take_of_length_le (by omega)]
theorem sl_ref_to {α : Type} {en : α → MV} (m : MH) (n : Nat) (xs : List α) (i : Int) (h : 0 ≤ i) (hn : m[n]? = some (.lst (xs.map en))) (hl : xs.length ≤ 100000) : slM (.ref n) none (some i) m = .ok (.ref m.length) (m ++ [.lst ((xs.take i.toNat).map en)]) := by
  simp only [slM, lstAt_some hn, cut_toV _ _ h]
  rw [newL_ok' _ _ (by rw [List.length_take]; simp; omega), List.map_take]
/-! ### beginnings -/
theorem runL_take (s : Se) (r : Ru) : ∀ (p : Pl) (cs : List Int) (n : Nat), runL s r p (cs.take n) = (runL s r p cs).take n
  | p, [], n => by simp [runL]
  | p, c :: cs, 0 => by simp [runL]
  | p, c :: cs, n + 1 => by simp [runL, runL_take s r _ cs n]
theorem CsOk.take {cs : List Int} (h : CsOk cs) (n : Nat) : CsOk (cs.take n) := ⟨Nat.le_trans (List.length_take_le' _ _) h.len, fun c hc => h.is c (List.mem_of_mem_take hc)⟩
theorem notesL_take (s : Se) (r : Ru) (cs : List Int) (n : Nat) : notesL s r (cs.take n) = (notesL s r cs).take n := by simp [notesL, runL_take]
theorem linesL_take (s : Se) (r : Ru) (cs : List Int) (n : Nat) : linesL s r (cs.take n) = (linesL s r cs).take n := by simp [linesL, runL_take]
theorem insidesL_take (s : Se) (r : Ru) (cs : List Int) (n : Nat) : insidesL s r (cs.take n) = (insidesL s r cs).take n := by simp [insidesL, runL_take]
/-! ### a law's beginning -/
theorem town0 (m : MH) : newL [.int 0, .int 0] m = .ok (.ref m.length) (m ++ [.lst [.int 0, .int 0]]) := newL_ok' _ _ (by simp)
theorem Tn.town0 : Tn 0 [MO.lst [.int 0, .int 0]] := ⟨0, 0, by decide, rfl⟩
theorem rng (j : Int) (r : Sl) (m : MH) (h : 0 ≤ j) (h2 : j < 100000) : iRange (aCons (cK (.int j)) aNil) r m = .ok (.its (rangeL 0 j.toNat)) m := by
  simp only [iRange, runB, slots, sSeq, sRet, sIf, sExpr, sAsg, gNm, Co.gCons, Co.gNil, gUnp, Co.gSub, sPar2, sPar3, cVar, cK, cBin, cUn, cNot, cAnd, cOr, cIte, cChain, aNil, aCons, cTup, cLst, cCall, cMeth, cSlice, partOf, sNx, sBrk, sCnt, sBad, sRz, cTrue, Res.bind, MV.ofL, List.map_cons, List.map_nil, List.length_cons, List.length_nil, List.cons_append, List.nil_append, List.getElem?_cons_succ, List.getElem?_cons_zero, List.set_cons_succ, List.set_cons_zero, List.replicate, Nat.reduceSub, Nat.reduceAdd]
  rw [if_pos (by simp only [decide_eq_true_eq]; omega)]
end Lw

namespace Lw
open PySem Co
theorem ix_map {α : Type} {en : α → MV} (m : MH) (n : Nat) (xs : List α) (i : Int) (x : α) (hn : m[n]? = some (.lst (xs.map en))) (h0 : 0 ≤ i) (hx : xs[i.toNat]? = some x) : oIx (.ref n) (.int i) m = .ok (en x) m := by
  obtain ⟨hl, _⟩ := List.getElem?_eq_some_iff.mp hx
  obtain ⟨v, e1, e2⟩ := atI_nat (xs.map en) i h0 (by rw [List.length_map]; omega)
  rw [List.getElem?_map, hx] at e2
  refine ixL m n _ hn i _ ?_
  rw [e1, ← e2]
  rfl
theorem oNe_N (m : MH) (x y : Nt) : oNe (encN x) (encN y) m = .ok (.bl (!decide (x = y))) m := by
  have e : eqM m (encN x) (encN y) = some (decide (x = y)) := by
    show ((deep m 40 (encN x)).bind fun a => (deep m 40 (encN y)).map fun b => eqv a b) = _
    rw [Enc.N.deep m 37, Enc.N.deep m 37]
    simp only [Option.bind_some, Option.map_some, Enc.N.eq]
  unfold oNe
  rw [e]
theorem oNe_T (m : MH) (x y : Int × Int) : oNe (encT x) (encT y) m = .ok (.bl (!decide (x = y))) m := by
  have e : eqM m (encT x) (encT y) = some (decide (x = y)) := by
    show ((deep m 40 (encT x)).bind fun a => (deep m 40 (encT y)).map fun b => eqv a b) = _
    rw [Enc.T.deep m 37, Enc.T.deep m 37]
    simp only [Option.bind_some, Option.map_some, Enc.T.eq]
  unfold oNe
  rw [e]
theorem oNe_b (m : MH) (a b : Bool) : oNe (.bl a) (.bl b) m = .ok (.bl (!(a == b))) m := rfl
theorem oEq_b (m : MH) (a b : Bool) : oEq (.bl a) (.bl b) m = .ok (.bl (a == b)) m := rfl
theorem ixN0 (x : Nt) (m : MH) : oIx (encN x) (.int 0) m = .ok (.int x.1) m := rfl
theorem ixN1 (x : Nt) (m : MH) : oIx (encN x) (.int 1) m = .ok (.int x.2.1) m := rfl
theorem ixN2 (x : Nt) (m : MH) : oIx (encN x) (.int 2) m = .ok (.bl x.2.2) m := rfl
theorem ixT0 (x : Int × Int) (m : MH) : oIx (encT x) (.int 0) m = .ok (.int x.1) m := rfl
theorem ixT1 (x : Int × Int) (m : MH) : oIx (encT x) (.int 1) m = .ok (.int x.2) m := rfl
/-- a comprehension over any source whose items are known, pure values -/
theorem comp_src {it : CI} {c e : CE} {vs : List Nat} {g : CG} {r : Sl} {m m1 : MH} {s : Src} {α : Type} {ys : List α} {en : α → MV} (hi : it r m = .ok s m1) (hs : ∀ j, s.at j m1 = some (ys.map en)[j]?) (hl : ys.length ≤ 100000)
    (C : α → Bool) (V : α → MV) (G : MV → Sl) (hg : ∀ y ∈ ys, g (en y) (wipeM r vs) m1 = .ok (G (en y)) m1) (hc : ∀ y ∈ ys, c (G (en y)) m1 = .ok (.bl (C y)) m1) (he : ∀ y ∈ ys, C y = true → e (G (en y)) m1 = .ok (V y) m1) :
    cComp it vs g c e r m = .ok (.ref m1.length) (m1 ++ [.lst ((ys.filter C).map V)]) := by
  have key : ∀ (zs : List α) (i fuel : Nat) (acc : List MV), ys.drop i = zs → zs.length < fuel → compN s g c e (wipeM r vs) fuel i acc m1 = .ok (acc ++ (zs.filter C).map V) m1 := by
    intro zs
    induction zs with
    | nil =>
      intro i fuel acc hd hf
      cases fuel with
      | zero => simp at hf
      | succ fuel =>
        have : ys[i]? = none := List.getElem?_eq_none (by have := congrArg List.length hd; simp at this; omega)
        rw [compN, hs]
        simp [this]
    | cons z zs ih =>
      intro i fuel acc hd hf
      cases fuel with
      | zero => simp at hf
      | succ fuel =>
        have h1 : ys[i]? = some z := by
          have h := congrArg (fun l => l[0]?) hd
          simp only [List.getElem?_drop, Nat.add_zero, List.getElem?_cons_zero] at h
          exact h
        have hm : z ∈ ys := List.mem_of_getElem? h1
        have hd2 : ys.drop (i + 1) = zs := by rw [← List.drop_drop, hd]; rfl
        rw [compN, hs]
        simp only [List.getElem?_map, h1, Option.map_some, hg z hm, Res.bind, hc z hm]
        cases hC : C z with
        | true =>
          simp only [he z hm hC]
          rw [ih (i + 1) fuel _ hd2 (by simp at hf; omega)]
          simp [hC]
        | false =>
          simp only []
          rw [ih (i + 1) fuel _ hd2 (by simp at hf; omega)]
          simp [hC]
  unfold cComp
  rw [hi]
  simp only [Res.bind, key ys 0 big [] rfl (by show _ < 1000000; omega), List.nil_append]
  refine newL_ok' _ _ ?_
  have := List.length_filter_le C ys
  simp
  omega
theorem zip_at {α β : Type} {ea : α → MV} {eb : β → MV} (m : MH) (a b : Nat) (xs : List α) (ys : List β) (ha : m[a]? = some (.lst (xs.map ea))) (hb : m[b]? = some (.lst (ys.map eb))) :
    ∀ j, (Src.zip a b).at j m = some ((xs.zip ys).map fun p => MV.cons (ea p.1) (.cons (eb p.2) .nil))[j]? := fun j => by
  simp only [Src.at, lstAt_some ha, lstAt_some hb, Option.bind_some, Option.map_some, List.getElem?_map, List.getElem?_zip_eq_some]
  cases h1 : xs[j]? with
  | none =>
    have : (xs.zip ys)[j]? = none := by
      rw [List.getElem?_eq_none_iff] at h1 ⊢
      rw [List.length_zip]; omega
    simp [this]
  | some x =>
    cases h2 : ys[j]? with
    | none =>
      have : (xs.zip ys)[j]? = none := by
        rw [List.getElem?_eq_none_iff] at h2 ⊢
        rw [List.length_zip]; omega
      simp [this]
    | some y =>
      have : (xs.zip ys)[j]? = some (x, y) := List.getElem?_zip_eq_some.mpr ⟨h1, h2⟩
      simp [this]
theorem enm_at {α : Type} {ea : α → MV} (m : MH) (a : Nat) (xs : List α) (ha : m[a]? = some (.lst (xs.map ea))) :
    ∀ j, (Src.enm a).at j m = some (xs.zipIdx.map fun p => MV.cons (.int (p.2 : Nat)) (.cons (ea p.1) .nil))[j]? := fun j => by
  simp only [Src.at, lstAt_some ha, Option.map_some, List.getElem?_map, List.getElem?_zipIdx]
  cases xs[j]? <;> simp
theorem iEnm_ok (t : CE) (r : Sl) (m m1 : MH) (a : Nat) (xs : List MV) (h : t r m = .ok (.ref a) m1) (ha : m1[a]? = some (.lst xs)) : iEnm (aCons t aNil) r m = .ok (.enm a) m1 := by
  simp [iEnm, aCons, aNil, h, Res.bind, lstAt_some ha]
end Lw

namespace Lw
open PySem Co
/-! ### who is let in -/
theorem enterN_sub (s : Se) (r : Ru) : ∀ (n : Nat) (p : Pl) (fo : List Int) (k : Int), k ∈ (enterN s r n p fo).1.line → k ∈ p.line
  | 0, p, fo, k, h => h
  | n + 1, p, fo, k, h => by
    unfold enterN at h
    split at h
    · exact h
    · split at h
      · exact List.mem_of_mem_erase (enterN_sub s r n _ _ k h)
      · exact h
theorem enterN_app (s : Se) (r : Ru) : ∀ (n : Nat) (p : Pl) (fo : List Int), (enterN s r n p fo).2 = fo ++ (enterN s r n p []).2 ∧ (enterN s r n p fo).1 = (enterN s r n p []).1
  | 0, p, fo => by simp [enterN]
  | n + 1, p, fo => by
    simp only [enterN]
    split
    · simp
    · split
      · have h1 := enterN_app s r n (enter1 s (pref r p.line p.last p.count p.waits) p) (fo ++ [pref r p.line p.last p.count p.waits])
        have h2 := enterN_app s r n (enter1 s (pref r p.line p.last p.count p.waits) p) ([] ++ [pref r p.line p.last p.count p.waits])
        rw [h1.1, h1.2, h2.1, h2.2]
        simp
      · simp
theorem runL_get (s : Se) (r : Ru) (cs : List Int) (i : Nat) (q : Q) (h : (runL s r p0 cs)[i]? = some q) : (notesL s r cs)[i]? = some q.2.1 ∧ (linesL s r cs)[i]? = some q.1.line ∧ (insidesL s r cs)[i]? = some q.2.2 := by
  simp [notesL, linesL, insidesL, h]
/-- what holds of each tick of a run, by an invariant of places -/
theorem run_all {s : Se} {r : Ru} (J : Pl → Prop) (R : Q → Prop) (step : ∀ p c, J p → (c = 0 ∨ c = 1 ∨ c = 2) → J (tickP s r p c) ∧ R (tickQ s r p c)) : ∀ (cs : List Int) (p : Pl), J p → Is012 cs → ∀ q ∈ runL s r p cs, R q
  | [], p, hp, hc, q, hq => by simp [runL] at hq
  | c :: cs, p, hp, hc, q, hq => by
    have h := step p c hp (hc c List.mem_cons_self)
    rcases List.mem_cons.mp hq with h1 | h1
    · rw [h1]; exact h.2
    · exact run_all J R step cs _ h.1 (fun z hz => hc z (List.mem_cons_of_mem _ hz)) q h1
/-- the place ahead of tick i -/
structure At (s : Se) (r : Ru) (cs : List Int) (i : Nat) (p : Pl) : Prop where
  eq : runL s r p (cs.drop i) = (runL s r p0 cs).drop i
  kd : Kd p
  len : p.line.length ≤ i
theorem At.zero (s : Se) (r : Ru) (cs : List Int) : At s r cs 0 p0 := ⟨rfl, Kd.p0, by simp [p0]⟩
theorem At.step {s : Se} {r : Ru} {cs : List Int} {i : Nat} {p : Pl} (h : At s r cs i p) {c : Int} (hc : cs[i]? = some c) (h0 : Is012 cs) : (runL s r p0 cs)[i]? = some (tickQ s r p c) ∧ At s r cs (i + 1) (tickP s r p c) := by
  have hd : cs.drop i = c :: cs.drop (i + 1) := by
    obtain ⟨hl, hx⟩ := List.getElem?_eq_some_iff.mp hc
    rw [List.drop_eq_getElem_cons hl, hx]
  have he := h.eq
  rw [hd, runL] at he
  refine ⟨?_, ?_, h.kd.tick (h0 c (List.mem_of_getElem? hc)), Nat.le_trans (tickP_len s r p c).1 (by have := h.len; omega)⟩
  · have := congrArg (fun l => l[0]?) he
    simpa using this.symm
  · have := congrArg (List.drop 1) he
    rw [List.drop_drop] at this
    simpa using this
theorem cut_fromV (xs : List MV) (i : Int) (h : 0 ≤ i) : cutM xs (some i) none = xs.drop i.toNat := by
  unfold cutM
  rw [sIx_nat _ _ h, HT.sIx_none]
  by_cases hl : i.toNat ≤ xs.length
  · rw [Nat.min_eq_left hl]
    exact List.take_of_length_le (by simp)
  · rw [Nat.min_eq_right (by omega), List.drop_eq_nil_of_le (by simp), List.drop_eq_nil_of_le (by omega)]
    simp
theorem sl_ref_from {α : Type} {en : α → MV} (m : MH) (n : Nat) (xs : List α) (i : Int) (h : 0 ≤ i) (hn : m[n]? = some (.lst (xs.map en))) (hl : xs.length ≤ 100000) : slM (.ref n) (some i) none m = .ok (.ref m.length) (m ++ [.lst ((xs.drop i.toNat).map en)]) := by
  simp only [slM, lstAt_some hn, cut_fromV _ _ h]
  rw [newL_ok' _ _ (by rw [List.length_drop]; simp; omega), List.map_drop]
theorem count12 : ∀ l : List Int, (∀ k ∈ l, k = 1 ∨ k = 2) → l.count 1 + l.count 2 = l.length
  | [], _ => rfl
  | a :: l, h => by
    have := count12 l fun k hk => h k (List.mem_cons_of_mem _ hk)
    rcases h a List.mem_cons_self with rfl | rfl <;> simp <;> omega
/-- the kinds let in are kinds -/
theorem enterN_kinds (s : Se) (r : Ru) : ∀ (n : Nat) (p : Pl), Kd p → ∀ k ∈ (enterN s r n p []).2, k = 1 ∨ k = 2
  | 0, p, hd, k, h => by simp [enterN] at h
  | n + 1, p, hd, k, h => by
    simp only [enterN] at h
    split at h
    · simp at h
    · rename_i hl
      split at h
      · have ha := enterN_app s r n (enter1 s (pref r p.line p.last p.count p.waits) p) ([] ++ [pref r p.line p.last p.count p.waits])
        rw [ha.1] at h
        have hmem := pref_mem (r := r) (last := p.last) (count := p.count) (waits := p.waits) hl hd.kinds
        rcases List.mem_append.mp h with h1 | h1
        · have : k = pref r p.line p.last p.count p.waits := by simpa using h1
          rw [this]; exact hd.kinds _ hmem
        · exact enterN_kinds s r n _ (hd.enter hmem) k h1
      · simp at h
theorem joinL_line (s : Se) (p : Pl) (c : Int) : (joinL s p c).line = if 0 < c ∧ isLost s p c = false then p.line ++ [c] else p.line := by
  unfold joinL; split <;> rfl
end Lw

namespace Lw
open PySem Co
/-! ### more on lists -/
theorem cut_bothV (xs : List MV) (i j : Int) (h : 0 ≤ i) (h2 : 0 ≤ j) : cutM xs (some i) (some j) = (xs.drop (min i.toNat xs.length)).take (min j.toNat xs.length - min i.toNat xs.length) := by
  unfold cutM
  rw [sIx_nat _ _ h, sIx_nat _ _ h2]
def cutT {α : Type} (xs : List α) (i j : Nat) : List α := (xs.drop (min i xs.length)).take (min j xs.length - min i xs.length)
theorem sl_ref_both {α : Type} {en : α → MV} (m : MH) (n : Nat) (xs : List α) (i j : Int) (h : 0 ≤ i) (h2 : 0 ≤ j) (hn : m[n]? = some (.lst (xs.map en))) (hl : xs.length ≤ 100000) : slM (.ref n) (some i) (some j) m = .ok (.ref m.length) (m ++ [.lst ((cutT xs i.toNat j.toNat).map en)]) := by
  simp only [slM, lstAt_some hn, cut_bothV _ _ _ h h2]
  rw [newL_ok' _ _ (by rw [List.length_take, List.length_drop]; simp; omega)]
  simp [cutT, List.map_take, List.map_drop]
theorem cutT_len {α : Type} (xs : List α) (i j : Nat) : (cutT xs i j).length ≤ xs.length := by
  simp only [cutT, List.length_take, List.length_drop]; omega
theorem bSum_ok (m : MH) (n : Nat) (l : List Int) (h : m[n]? = some (.lst (l.map .int))) : bSum [.ref n] m = .ok (.int l.sum) m := by
  simp only [bSum, lstAt_some h, Option.bind_some, asInts_map]
theorem oAdd_ref {α : Type} {en : α → MV} (m : MH) (a b : Nat) (xs ys : List α) (ha : m[a]? = some (.lst (xs.map en))) (hb : m[b]? = some (.lst (ys.map en))) (hl : xs.length + ys.length ≤ 1000000) : oAdd (.ref a) (.ref b) m = .ok (.ref m.length) (m ++ [.lst ((xs ++ ys).map en)]) := by
  simp only [oAdd, lstAt_some ha, lstAt_some hb]
  rw [newL_ok' _ _ (by simp; omega), List.map_append]
theorem oMul_ref {α : Type} {en : α → MV} (m : MH) (a : Nat) (x : α) (k : Int) (ha : m[a]? = some (.lst ([x].map en))) (h0 : 0 ≤ k) (h1 : k ≤ 1000) : oMul (.ref a) (.int k) m = .ok (.ref m.length) (m ++ [.lst ((List.replicate k.toNat x).map en)]) := by
  simp only [oMul, lstAt_some ha, List.map_cons, List.map_nil, h0, h1, decide_true, Bool.and_self, if_true]
  rw [newL_ok' _ _ (by simp; omega), List.map_replicate]
/-- a new list, the heap after it named -/
theorem newL_ex {α : Type} {en : α → MV} (xs : List α) (m : MH) (h : xs.length ≤ 1000000) : ∃ m', newL (xs.map en) m = .ok (.ref m.length) m' ∧ Ke [] m m' ∧ m'[m.length]? = some (.lst (xs.map en)) ∧ m'.length = m.length + 1 :=
  ⟨_, newL_ok' _ _ (by simpa using h), Ke.app _ _, by simp, by simp⟩
theorem app_ex {m m' : MH} {xs : List MV} (h : m' = m ++ [MO.lst xs]) : Ke [] m m' ∧ m'[m.length]? = some (.lst xs) ∧ m'.length = m.length + 1 := by
  subst h
  exact ⟨Ke.app _ _, by simp, by simp⟩
end Lw

namespace Lw
open PySem Co
/-! ### the law's own play: lists of [kind, number] on the heap -/
abbrev Pr := Int × Int
abbrev Zs := List (Nat × Pr)
/-- each place holds its pair -/
def Pw (m : MH) (zs : Zs) : Prop := ∀ z ∈ zs, m[z.1]? = some (.lst [.int z.2.1, .int z.2.2])
theorem Pw.ke {S : List Nat} {m m' : MH} {zs : Zs} (h : Pw m zs) (k : Ke S m m') (hs : ∀ z ∈ zs, z.1 ∉ S) : Pw m' zs := fun z hz => k.get (h z hz) (hs z hz)
theorem Pw.keep {m m' : MH} {zs : Zs} (h : Pw m zs) (k : Ke [] m m') : Pw m' zs := fun z hz => k.get (h z hz)
theorem Pw.lt {m : MH} {zs : Zs} (h : Pw m zs) : ∀ z ∈ zs, z.1 < m.length := fun z hz => (List.getElem?_eq_some_iff.mp (h z hz)).1
def refs (zs : Zs) : List MV := zs.map fun z => .ref z.1
def prs (zs : Zs) : List Pr := zs.map fun z => z.2
/-- a list of pairs at a place -/
structure LL (zs : Zs) (n : Nat) (m : MH) : Prop where
  at_ : m[n]? = some (.lst (refs zs))
  pw : Pw m zs
theorem LL.keep {zs : Zs} {n : Nat} {m m' : MH} (h : LL zs n m) (k : Ke [] m m') : LL zs n m' := ⟨k.get h.at_, h.pw.keep k⟩
theorem LL.ke {S : List Nat} {zs : Zs} {n : Nat} {m m' : MH} (h : LL zs n m) (k : Ke S m m') (hn : n ∉ S) (hs : ∀ z ∈ zs, z.1 ∉ S) : LL zs n m' := ⟨k.get h.at_ hn, h.pw.ke k hs⟩
theorem deep_pr {m : MH} {r : Nat} {x : Pr} (k : Nat) (h : m[r]? = some (.lst [.int x.1, .int x.2])) : deep m (k + 2) (.ref r) = some (.frz (encT x)) := by
  show (lstAt r m).bind (fun xs => (mapM? (deep m (k + 1)) xs).map MV.frz) = _
  rw [lstAt_some h]
  rfl
theorem Pw.deep {m : MH} (k : Nat) : ∀ {zs : Zs}, Pw m zs → mapM? (Co.deep m (k + 2)) (refs zs) = some (MV.ofL (zs.map fun z => .frz (encT z.2)))
  | [], _ => rfl
  | z :: zs, h => by
    have ih := Pw.deep k (zs := zs) fun y hy => h y (List.mem_cons_of_mem _ hy)
    rw [refs, List.map_cons, mapM?, deep_pr k (h z List.mem_cons_self)]
    rw [refs] at ih
    rw [ih]
    rfl
/-- a list of pairs is empty or not -/
theorem LL.ne_nil {zs : Zs} {n b : Nat} {m : MH} (h : LL zs n m) (hb : m[b]? = some (.lst [])) : oNe (.ref n) (.ref b) m = .ok (.bl (!decide (zs = []))) m := by
  have d1 : deep m 40 (.ref n) = some (.frz (MV.ofL (zs.map fun z => .frz (encT z.2)))) := by
    show (lstAt n m).bind (fun xs => (mapM? (deep m 39) xs).map MV.frz) = _
    rw [lstAt_some h.at_, Option.bind_some, h.pw.deep 37]
    rfl
  have d2 : deep m 40 (.ref b) = some (.frz .nil) := by
    show (lstAt b m).bind (fun xs => (mapM? (deep m 39) xs).map MV.frz) = _
    rw [lstAt_some hb]
    rfl
  have e : eqM m (.ref n) (.ref b) = some (decide (zs = [])) := by
    show ((deep m 40 (.ref n)).bind fun x => (deep m 40 (.ref b)).map fun y => eqv x y) = _
    rw [d1, d2]
    cases zs <;> rfl
  unfold oNe
  rw [e]
def kindsOf (zs : Zs) : List Int := zs.map fun z => z.2.1
theorem ix_pr0 {m : MH} {r : Nat} {x : Pr} (h : m[r]? = some (.lst [.int x.1, .int x.2])) : oIx (.ref r) (.int 0) m = .ok (.int x.1) m := ixL m r _ h 0 _ rfl
theorem ix_pr1 {m : MH} {r : Nat} {x : Pr} (h : m[r]? = some (.lst [.int x.1, .int x.2])) : oIx (.ref r) (.int 1) m = .ok (.int x.2) m := ixL m r _ h 1 _ rfl
theorem ix_zs {m : MH} {n : Nat} {zs : Zs} (h : LL zs n m) (i : Int) (z : Nat × Pr) (h0 : 0 ≤ i) (hz : zs[i.toNat]? = some z) : oIx (.ref n) (.int i) m = .ok (.ref z.1) m := ix_map (en := fun z : Nat × Pr => MV.ref z.1) m n zs i z h.at_ h0 hz
theorem w_ne_line (r : Ru) (m : MH) : oNe (.str r.word) (.str "line") m = .ok (.bl (!decide (r = .line))) m := by
  have h := w_line r m
  unfold oEq at h
  unfold oNe
  cases he : eqM m (.str r.word) (.str "line") with
  | none => rw [he] at h; simp at h
  | some b =>
    rw [he] at h
    simp only [Res.ok.injEq, MV.bl.injEq, and_true] at h
    simp only [h]
theorem mIdxL_ok (m : MH) (n : Nat) (l : List Int) (k : Int) (h : m[n]? = some (.lst (l.map .int))) (hk : k ∈ l) : mIdxL (.ref n) [.int k] m = .ok (.int (l.idxOf k : Nat)) m := by
  simp only [mIdxL, lstOf, lstAt_some h, Option.bind_some, asInts_map]
  rw [if_pos (by simpa using hk)]
theorem Enc.any {α : Type} [DecidableEq α] {en : α → MV} (E : Enc en) (x : α) : ∀ xs : List α, anyEq (en x) (xs.map en) = decide (x ∈ xs)
  | [] => rfl
  | a :: l => by
    rw [List.map_cons, anyEq, Enc.any E x l, E.eq]
    by_cases h : x = a
    · subst h; simp
    · have h2 : ¬ a = x := fun e => h e.symm
      by_cases h3 : x ∈ l <;> simp [h, h2, h3]
theorem Enc.oIn {α : Type} [DecidableEq α] {en : α → MV} (E : Enc en) (m : MH) (n : Nat) (x : α) (xs : List α) (h : m[n]? = some (.lst (xs.map en))) : Co.oIn (en x) (.ref n) m = .ok (.bl (decide (x ∈ xs))) m := by
  have e : inM m (en x) (.ref n) = some (decide (x ∈ xs)) := by
    simp only [inM, h]
    rw [E.deep m 37, Option.bind_some, E.map m 36, Option.bind_some, MV.toL_ofL, Option.map_some, E.any]
  unfold Co.oIn
  rw [e]
/-! ### whom a rule names -/
def lkind (r : Ru) (zs : Zs) (last passed : Int) : Int :=
  if 1 ∈ kindsOf zs ∧ 2 ∈ kindsOf zs ∧ r ≠ .line then
    if (r.isP = true ∧ r.num ≤ ((zs[(kindsOf zs).idxOf 2]?).map fun z => z.2.2).getD 0) ∨ (r.isB = true ∧ r.num ≤ passed) ∨ r = .one ∨ (r = .turns ∧ last = 1) then 2 else 1
  else (kindsOf zs).headD 0
def lnamed (r : Ru) (line room : Zs) (last passed : Int) : Option Nat :=
  if line = [] then none
  else if (lkind r line last passed = 2 ∧ room ≠ []) ∨ (∃ z ∈ room, z.2.1 = 2) then none
  else some ((kindsOf line).idxOf (lkind r line last passed))
theorem lkind_mem {r : Ru} {zs : Zs} {last passed : Int} (h : zs ≠ []) : lkind r zs last passed ∈ kindsOf zs := by
  unfold lkind
  split
  · rename_i hc
    split
    · exact hc.2.1
    · exact hc.1
  · cases zs with
    | nil => exact absurd rfl h
    | cons a l => simp [kindsOf]
end Lw

namespace Lw
open PySem Co
def optV : Option Nat → MV
  | none => .non
  | some i => .int (i : Nat)
theorem kinds_comp {zs : Zs} {n : Nat} {m : MH} (h : LL zs n m) (hl : zs.length ≤ 1000) (r0 x2 x5 x6 x7 : Option MV) :
    cp_law_named_1 [r0, some (.ref n), x2, none, none, x5, x6, x7, none, none, none] m = .ok (.ref m.length) (m ++ [.lst ((kindsOf zs).map .int)]) := by
  have := comp_src (it := iSeq (cVar 1)) (c := cTrue) (e := cBin oIx (cVar 10) (cK (.int 0))) (vs := [10]) (g := gNm 10)
    (r := [r0, some (.ref n), x2, none, none, x5, x6, x7, none, none, none]) (m := m) (m1 := m) (s := .lst n) (ys := zs) (en := fun z => MV.ref z.1)
    (iSeq_ref _ _ _ _ _ _ rfl h.at_) (lst_at h.at_) (by omega) (fun _ => true) (fun z => .int z.2.1)
    (fun v => [r0, some (.ref n), x2, none, none, x5, x6, x7, none, none, some v]) (fun p _ => rfl) (fun p _ => rfl) (fun z hz _ => by
      have := ix_pr0 (h.pw z hz)
      simp only [runB, slots, sSeq, sRet, sIf, sExpr, sAsg, gNm, Co.gCons, Co.gNil, gUnp, Co.gSub, sPar2, sPar3, cVar, cK, cBin, cUn, cNot, cAnd, cOr, cIte, cChain, aNil, aCons, cTup, cLst, cCall, cMeth, cSlice, partOf, sNx, sBrk, sCnt, sBad, sRz, cTrue, Res.bind, MV.ofL, List.map_cons, List.map_nil, List.length_cons, List.length_nil, List.cons_append, List.nil_append, List.getElem?_cons_succ, List.getElem?_cons_zero, List.set_cons_succ, List.set_cons_zero, List.replicate, Nat.reduceSub, Nat.reduceAdd, this])
  rw [filter_true] at this
  unfold cp_law_named_1
  rw [this]
  simp [kindsOf, Function.comp_def]
theorem alone_comp {zs : Zs} {n : Nat} {m : MH} (h : LL zs n m) (hl : zs.length ≤ 1000) (r0 x1 x2 x3 x6 x7 x8 x9 : Option MV) :
    cp_law_named_2 [r0, x1, x2, x3, none, some (.ref n), x6, x7, x8, x9, none] m = .ok (.ref m.length) (m ++ [.lst (refs (zs.filter fun z => decide (z.2.1 = 2)))]) := by
  have := comp_src (it := iSeq (cVar 5)) (c := cBin oEq (cBin oIx (cVar 10) (cK (.int 0))) (cK (.int 2))) (e := cVar 10) (vs := [10]) (g := gNm 10)
    (r := [r0, x1, x2, x3, none, some (.ref n), x6, x7, x8, x9, none]) (m := m) (m1 := m) (s := .lst n) (ys := zs) (en := fun z => MV.ref z.1)
    (iSeq_ref _ _ _ _ _ _ rfl h.at_) (lst_at h.at_) (by omega) (fun z => decide (z.2.1 = 2)) (fun z => .ref z.1)
    (fun v => [r0, x1, x2, x3, none, some (.ref n), x6, x7, x8, x9, some v]) (fun p _ => rfl) (fun z hz => by
      have := ix_pr0 (h.pw z hz)
      simp only [runB, slots, sSeq, sRet, sIf, sExpr, sAsg, gNm, Co.gCons, Co.gNil, gUnp, Co.gSub, sPar2, sPar3, cVar, cK, cBin, cUn, cNot, cAnd, cOr, cIte, cChain, aNil, aCons, cTup, cLst, cCall, cMeth, cSlice, partOf, sNx, sBrk, sCnt, sBad, sRz, cTrue, Res.bind, MV.ofL, List.map_cons, List.map_nil, List.length_cons, List.length_nil, List.cons_append, List.nil_append, List.getElem?_cons_succ, List.getElem?_cons_zero, List.set_cons_succ, List.set_cons_zero, List.replicate, Nat.reduceSub, Nat.reduceAdd, this, oEq_i]) (fun z hz _ => rfl)
  unfold cp_law_named_2
  rw [this]
  rfl
theorem named_ok (r : Ru) (line room : Zs) (last passed : Int) (ln rm : Nat) (m : MH) (h1 : LL line ln m) (h2 : LL room rm m) (l1 : line.length ≤ 1000) (l2 : room.length ≤ 1000) :
    ∃ m', f_law_named [encR r, .ref ln, .cons (.ref rm) (.cons (.int last) (.cons (.int passed) .nil))] m = .ok (optV (lnamed r line room last passed)) m' ∧ Ke [] m m' := by
  obtain ⟨st, hst⟩ : ∃ st : MV, st = .cons (.ref rm) (.cons (.int last) (.cons (.int passed) .nil)) := ⟨_, rfl⟩
  have q1 := kinds_comp h1 l1 (some (encR r)) (some st) (some (.ref rm)) (some (.int last)) (some (.int passed))
  obtain ⟨m1, hm1⟩ : ∃ m1, m1 = m ++ [MO.lst ((kindsOf line).map .int)] := ⟨_, rfl⟩
  rw [← hm1] at q1
  obtain ⟨k1, g1, z1⟩ := app_ex hm1
  obtain ⟨m2, n2, k2, g2, z2⟩ := newL_ex (en := MV.int) [] m1 (by simp)
  simp only [List.map_nil] at n2 g2
  have g12 := k2.get g1
  have eq2 := Enc.int.oEq m2 m.length m1.length (kindsOf line) [] g12 g2
  have hk2 := h1.keep (k1.trans k2)
  have hr2 := h2.keep (k1.trans k2)
  rw [hst] at q1
  by_cases hl : line = []
  · have : kindsOf line = [] := by rw [hl]; rfl
    rw [decide_eq_true this] at eq2
    refine ⟨m2, ?_, k1.trans k2⟩
    simp only [f_law_named, b_law_named, runB, slots, sSeq, sRet, sIf, sExpr, sAsg, gNm, Co.gCons, Co.gNil, gUnp, Co.gSub, sPar2, sPar3, cVar, cK, cBin, cUn, cNot, cAnd, cOr, cIte, cChain, aNil, aCons, cTup, cLst, cCall, cMeth, cSlice, partOf, sNx, sBrk, sCnt, sBad, sRz, cTrue, Res.bind, MV.ofL, List.map_cons, List.map_nil, List.length_cons, List.length_nil, List.cons_append, List.nil_append, List.getElem?_cons_succ, List.getElem?_cons_zero, List.set_cons_succ, List.set_cons_zero, List.replicate, Nat.reduceSub, Nat.reduceAdd, q1, n2, eq2, lnamed, hl, if_true, optV]
  · have hkn : kindsOf line ≠ [] := by simpa [kindsOf] using hl
    rw [decide_eq_false hkn] at eq2
    obtain ⟨k0, ks, hks⟩ : ∃ k0 ks, kindsOf line = k0 :: ks := by
      cases h : kindsOf line with
      | nil => exact absurd h hkn
      | cons a b => exact ⟨a, b, rfl⟩
    have ix0 := ix_map m2 m.length (kindsOf line) 0 k0 g12 (by decide) (by rw [hks]; rfl)
    have i1 := Enc.int.oIn m2 m.length 1 (kindsOf line) g12
    have i2 := Enc.int.oIn m2 m.length 2 (kindsOf line) g12
    have wl := w_ne_line r m2
    have w1 := w_one r m2
    have w2 := w_turns r m2
    have w3 := w_bound r m2
    have w4 := w_patience r m2
    have kd2 := kindM_lst m2 m.length _ g12
    -- the kind
    obtain ⟨K, hK⟩ : ∃ K, K = lkind r line last passed := ⟨_, rfl⟩
    have hKm : K ∈ kindsOf line := by rw [hK]; exact lkind_mem hl
    have step : (sIf (cAnd (cBin Co.oIn (cK (.int 1)) (cVar 3)) (cAnd (cBin Co.oIn (cK (.int 2)) (cVar 3)) (cBin oNe (cVar 9) (cK (.str "line"))))) (sSeq (sAsg (cIte (cOr (cBin oEq (cVar 9) (cK (.str "one"))) (cAnd (cBin oEq (cVar 9) (cK (.str "turns"))) (cBin oEq (cVar 6) (cK (.int 1))))) (cK (.int 2)) (cK (.int 1))) (gNm 8)) (sSeq (sIf (cAnd (cBin oEq (cVar 9) (cK (.str "bound"))) (cBin oGe (cVar 7) (cBin oIx (cVar 0) (cK (.int 1))))) (sAsg (cK (.int 2)) (gNm 8)) sNx) (sIf (cAnd (cBin oEq (cVar 9) (cK (.str "patience"))) (cBin oGe (cBin oIx (cBin oIx (cVar 1) (cMeth "list" mIdxL (cVar 3) (aCons (cK (.int 2)) aNil))) (cK (.int 1))) (cBin oIx (cVar 0) (cK (.int 1))))) (sAsg (cK (.int 2)) (gNm 8)) sNx))) sNx) [some (encR r), some (.ref ln), some (.cons (.ref rm) (.cons (.int last) (.cons (.int passed) .nil))), some (.ref m.length), none, some (.ref rm), some (.int last), some (.int passed), some (.int k0), some (.str r.word), none] m2 = .ok (.nx [some (encR r), some (.ref ln), some (.cons (.ref rm) (.cons (.int last) (.cons (.int passed) .nil))), some (.ref m.length), none, some (.ref rm), some (.int last), some (.int passed), some (.int K), some (.str r.word), none]) m2 := by
      by_cases a1 : 1 ∈ kindsOf line
      · by_cases a2 : 2 ∈ kindsOf line
        · have ixl := mIdxL_ok m2 m.length (kindsOf line) 2 g12 a2
          have hil : (kindsOf line).idxOf 2 < line.length := by
            have := List.idxOf_lt_length_iff.mpr a2
            simpa [kindsOf] using this
          have hz : line[(kindsOf line).idxOf 2]? = some line[(kindsOf line).idxOf 2] := List.getElem?_eq_getElem hil
          generalize hzz : line[(kindsOf line).idxOf 2] = z at hz
          have ixz := ix_zs hk2 ((kindsOf line).idxOf 2 : Nat) z (by omega) (by simpa using hz)
          have ixw := ix_pr1 (hk2.pw z (List.mem_of_getElem? hz))
          cases r with
          | line => simp [lkind, hks] at hK; simp [runB, slots, sSeq, sRet, sIf, sExpr, sAsg, gNm, Co.gCons, Co.gNil, gUnp, Co.gSub, sPar2, sPar3, cVar, cK, cBin, cUn, cNot, cAnd, cOr, cIte, cChain, aNil, aCons, cTup, cLst, cCall, cMeth, cSlice, partOf, sNx, sBrk, sCnt, sBad, sRz, cTrue, Res.bind, MV.ofL, List.map_cons, List.map_nil, List.length_cons, List.length_nil, List.cons_append, List.nil_append, List.getElem?_cons_succ, List.getElem?_cons_zero, List.set_cons_succ, List.set_cons_zero, List.replicate, Nat.reduceSub, Nat.reduceAdd, i1, a1, i2, a2, wl, hK]
          | many => simp [lkind, a1, a2, Ru.isP, Ru.isB] at hK; simp [runB, slots, sSeq, sRet, sIf, sExpr, sAsg, gNm, Co.gCons, Co.gNil, gUnp, Co.gSub, sPar2, sPar3, cVar, cK, cBin, cUn, cNot, cAnd, cOr, cIte, cChain, aNil, aCons, cTup, cLst, cCall, cMeth, cSlice, partOf, sNx, sBrk, sCnt, sBad, sRz, cTrue, Res.bind, MV.ofL, List.map_cons, List.map_nil, List.length_cons, List.length_nil, List.cons_append, List.nil_append, List.getElem?_cons_succ, List.getElem?_cons_zero, List.set_cons_succ, List.set_cons_zero, List.replicate, Nat.reduceSub, Nat.reduceAdd, i1, a1, i2, a2, wl, w1, w2, w3, w4, Ru.isB, Ru.isP, hK]
          | one => simp [lkind, a1, a2, Ru.isP, Ru.isB] at hK; simp [runB, slots, sSeq, sRet, sIf, sExpr, sAsg, gNm, Co.gCons, Co.gNil, gUnp, Co.gSub, sPar2, sPar3, cVar, cK, cBin, cUn, cNot, cAnd, cOr, cIte, cChain, aNil, aCons, cTup, cLst, cCall, cMeth, cSlice, partOf, sNx, sBrk, sCnt, sBad, sRz, cTrue, Res.bind, MV.ofL, List.map_cons, List.map_nil, List.length_cons, List.length_nil, List.cons_append, List.nil_append, List.getElem?_cons_succ, List.getElem?_cons_zero, List.set_cons_succ, List.set_cons_zero, List.replicate, Nat.reduceSub, Nat.reduceAdd, i1, a1, i2, a2, wl, w1, w2, w3, w4, Ru.isB, Ru.isP, hK]
          | turns =>
            by_cases hla : last = 1
            · simp [lkind, a1, a2, Ru.isP, Ru.isB, hla] at hK
              simp [runB, slots, sSeq, sRet, sIf, sExpr, sAsg, gNm, Co.gCons, Co.gNil, gUnp, Co.gSub, sPar2, sPar3, cVar, cK, cBin, cUn, cNot, cAnd, cOr, cIte, cChain, aNil, aCons, cTup, cLst, cCall, cMeth, cSlice, partOf, sNx, sBrk, sCnt, sBad, sRz, cTrue, Res.bind, MV.ofL, List.map_cons, List.map_nil, List.length_cons, List.length_nil, List.cons_append, List.nil_append, List.getElem?_cons_succ, List.getElem?_cons_zero, List.set_cons_succ, List.set_cons_zero, List.replicate, Nat.reduceSub, Nat.reduceAdd, i1, a1, i2, a2, wl, w1, w2, w3, w4, Ru.isB, Ru.isP, hK, oEq_i, hla]
            · simp [lkind, a1, a2, Ru.isP, Ru.isB, hla] at hK
              simp [runB, slots, sSeq, sRet, sIf, sExpr, sAsg, gNm, Co.gCons, Co.gNil, gUnp, Co.gSub, sPar2, sPar3, cVar, cK, cBin, cUn, cNot, cAnd, cOr, cIte, cChain, aNil, aCons, cTup, cLst, cCall, cMeth, cSlice, partOf, sNx, sBrk, sCnt, sBad, sRz, cTrue, Res.bind, MV.ofL, List.map_cons, List.map_nil, List.length_cons, List.length_nil, List.cons_append, List.nil_append, List.getElem?_cons_succ, List.getElem?_cons_zero, List.set_cons_succ, List.set_cons_zero, List.replicate, Nat.reduceSub, Nat.reduceAdd, i1, a1, i2, a2, wl, w1, w2, w3, w4, Ru.isB, Ru.isP, hK, oEq_i, hla]
          | bound b =>
            by_cases hb : b ≤ passed
            · simp [lkind, a1, a2, Ru.isP, Ru.isB, Ru.num, hb] at hK
              simp [runB, slots, sSeq, sRet, sIf, sExpr, sAsg, gNm, Co.gCons, Co.gNil, gUnp, Co.gSub, sPar2, sPar3, cVar, cK, cBin, cUn, cNot, cAnd, cOr, cIte, cChain, aNil, aCons, cTup, cLst, cCall, cMeth, cSlice, partOf, sNx, sBrk, sCnt, sBad, sRz, cTrue, Res.bind, MV.ofL, List.map_cons, List.map_nil, List.length_cons, List.length_nil, List.cons_append, List.nil_append, List.getElem?_cons_succ, List.getElem?_cons_zero, List.set_cons_succ, List.set_cons_zero, List.replicate, Nat.reduceSub, Nat.reduceAdd, i1, a1, i2, a2, wl, w1, w2, w3, w4, Ru.isB, Ru.isP, hK, oGe_i, ixB, hb]
            · simp [lkind, a1, a2, Ru.isP, Ru.isB, Ru.num, hb] at hK
              simp [runB, slots, sSeq, sRet, sIf, sExpr, sAsg, gNm, Co.gCons, Co.gNil, gUnp, Co.gSub, sPar2, sPar3, cVar, cK, cBin, cUn, cNot, cAnd, cOr, cIte, cChain, aNil, aCons, cTup, cLst, cCall, cMeth, cSlice, partOf, sNx, sBrk, sCnt, sBad, sRz, cTrue, Res.bind, MV.ofL, List.map_cons, List.map_nil, List.length_cons, List.length_nil, List.cons_append, List.nil_append, List.getElem?_cons_succ, List.getElem?_cons_zero, List.set_cons_succ, List.set_cons_zero, List.replicate, Nat.reduceSub, Nat.reduceAdd, i1, a1, i2, a2, wl, w1, w2, w3, w4, Ru.isB, Ru.isP, hK, oGe_i, ixB, hb]
          | patience b =>
            by_cases hb : b ≤ z.2.2
            · simp [lkind, a1, a2, Ru.isP, Ru.isB, Ru.num, hz, hb] at hK
              simp [runB, slots, sSeq, sRet, sIf, sExpr, sAsg, gNm, Co.gCons, Co.gNil, gUnp, Co.gSub, sPar2, sPar3, cVar, cK, cBin, cUn, cNot, cAnd, cOr, cIte, cChain, aNil, aCons, cTup, cLst, cCall, cMeth, cSlice, partOf, sNx, sBrk, sCnt, sBad, sRz, cTrue, Res.bind, MV.ofL, List.map_cons, List.map_nil, List.length_cons, List.length_nil, List.cons_append, List.nil_append, List.getElem?_cons_succ, List.getElem?_cons_zero, List.set_cons_succ, List.set_cons_zero, List.replicate, Nat.reduceSub, Nat.reduceAdd, i1, a1, i2, a2, wl, w1, w2, w3, w4, Ru.isB, Ru.isP, hK, kd2, ixl, ixz, ixw, oGe_i, ixPt, hb]
            · simp [lkind, a1, a2, Ru.isP, Ru.isB, Ru.num, hz, hb] at hK
              simp [runB, slots, sSeq, sRet, sIf, sExpr, sAsg, gNm, Co.gCons, Co.gNil, gUnp, Co.gSub, sPar2, sPar3, cVar, cK, cBin, cUn, cNot, cAnd, cOr, cIte, cChain, aNil, aCons, cTup, cLst, cCall, cMeth, cSlice, partOf, sNx, sBrk, sCnt, sBad, sRz, cTrue, Res.bind, MV.ofL, List.map_cons, List.map_nil, List.length_cons, List.length_nil, List.cons_append, List.nil_append, List.getElem?_cons_succ, List.getElem?_cons_zero, List.set_cons_succ, List.set_cons_zero, List.replicate, Nat.reduceSub, Nat.reduceAdd, i1, a1, i2, a2, wl, w1, w2, w3, w4, Ru.isB, Ru.isP, hK, kd2, ixl, ixz, ixw, oGe_i, ixPt, hb]
        · have hK0 : K = k0 := by
            rw [hK]; unfold lkind; rw [if_neg (fun z => a2 z.2.1), hks]; rfl
          rw [decide_eq_false a2] at i2
          rw [decide_eq_true a1] at i1
          simp only [runB, slots, sSeq, sRet, sIf, sExpr, sAsg, gNm, Co.gCons, Co.gNil, gUnp, Co.gSub, sPar2, sPar3, cVar, cK, cBin, cUn, cNot, cAnd, cOr, cIte, cChain, aNil, aCons, cTup, cLst, cCall, cMeth, cSlice, partOf, sNx, sBrk, sCnt, sBad, sRz, cTrue, Res.bind, MV.ofL, List.map_cons, List.map_nil, List.length_cons, List.length_nil, List.cons_append, List.nil_append, List.getElem?_cons_succ, List.getElem?_cons_zero, List.set_cons_succ, List.set_cons_zero, List.replicate, Nat.reduceSub, Nat.reduceAdd, i1, i2, hK0]
      · have hK0 : K = k0 := by
          rw [hK]; unfold lkind; rw [if_neg (fun z => a1 z.1), hks]; rfl
        rw [decide_eq_false a1] at i1
        simp only [runB, slots, sSeq, sRet, sIf, sExpr, sAsg, gNm, Co.gCons, Co.gNil, gUnp, Co.gSub, sPar2, sPar3, cVar, cK, cBin, cUn, cNot, cAnd, cOr, cIte, cChain, aNil, aCons, cTup, cLst, cCall, cMeth, cSlice, partOf, sNx, sBrk, sCnt, sBad, sRz, cTrue, Res.bind, MV.ofL, List.map_cons, List.map_nil, List.length_cons, List.length_nil, List.cons_append, List.nil_append, List.getElem?_cons_succ, List.getElem?_cons_zero, List.set_cons_succ, List.set_cons_zero, List.replicate, Nat.reduceSub, Nat.reduceAdd, i1, hK0]
    have q3 := alone_comp hr2 l2 (some (encR r)) (some (.ref ln)) (some (.cons (.ref rm) (.cons (.int last) (.cons (.int passed) .nil)))) (some (.ref m.length)) (some (.int last)) (some (.int passed)) (some (.int K)) (some (.str r.word))
    obtain ⟨m3, hm3⟩ : ∃ m3, m3 = m2 ++ [MO.lst (refs (room.filter fun z => decide (z.2.1 = 2)))] := ⟨_, rfl⟩
    rw [← hm3] at q3
    obtain ⟨k3, g3, z3⟩ := app_ex hm3
    have hal : LL (room.filter fun z => decide (z.2.1 = 2)) m2.length m3 := ⟨g3, fun z hz => k3.get (hr2.pw z (List.mem_filter.mp hz).1)⟩
    have hr3 := hr2.keep k3
    obtain ⟨m4, n4, k4, g4, z4⟩ := newL_ex (en := MV.int) [] m3 (by simp)
    simp only [List.map_nil] at n4 g4
    obtain ⟨m5, n5, k5, g5, z5⟩ := newL_ex (en := MV.int) [] m4 (by simp)
    simp only [List.map_nil] at n5 g5
    have ne4 := (hr3.keep k4).ne_nil g4
    have ne4a := (hal.keep k4).ne_nil g4
    have ne5a := (hal.keep (k4.trans k5)).ne_nil g5
    have g14 := k4.get (k3.get g12)
    have g15 := k5.get g14
    have id4 := mIdxL_ok m4 m.length (kindsOf line) K g14 hKm
    have id5 := mIdxL_ok m5 m.length (kindsOf line) K g15 hKm
    have kd4 := kindM_lst m4 m.length _ g14
    have kd5 := kindM_lst m5 m.length _ g15
    have hex : (∃ z ∈ room, z.2.1 = 2) ↔ (room.filter fun z => decide (z.2.1 = 2)) ≠ [] := by
      constructor
      · rintro ⟨z, hz, h2⟩ he
        have : z ∈ room.filter fun z => decide (z.2.1 = 2) := List.mem_filter.mpr ⟨hz, by simpa using h2⟩
        rw [he] at this
        simp at this
      · intro hne
        obtain ⟨z, hz⟩ := List.exists_mem_of_ne_nil _ hne
        obtain ⟨h1, h2⟩ := List.mem_filter.mp hz
        exact ⟨z, h1, by simpa using h2⟩
    have pre : ∀ (R : Res MV), (runB 11 b_law_named [encR r, .ref ln, .cons (.ref rm) (.cons (.int last) (.cons (.int passed) .nil))] m = R) ↔ (((sSeq (sIf (cOr (cAnd (cBin oEq (cVar 8) (cK (.int 2))) (cBin oNe (cVar 5) (cLst aNil))) (cBin oNe (cVar 4) (cLst aNil))) (sRet (cK .non)) sNx) (sRet (cMeth "list" mIdxL (cVar 3) (aCons (cVar 8) aNil)))) [some (encR r), some (.ref ln), some (.cons (.ref rm) (.cons (.int last) (.cons (.int passed) .nil))), some (.ref m.length), some (.ref m2.length), some (.ref rm), some (.int last), some (.int passed), some (.int K), some (.str r.word), none] m3).bind (fun f m1 => match f with
        | .rt v => .ok v m1
        | .nx _ => .ok .non m1
        | _ => .bad) = R) := by
      intro R
      unfold runB b_law_named
      simp only [slots, List.map_cons, List.map_nil, List.length_cons, List.length_nil, Nat.reduceSub, Nat.reduceAdd, List.replicate, List.cons_append, List.nil_append]
      rw [sSeq, show (sAsg (cVar 2) (gUnp 3 (Co.gCons (gNm 5) (Co.gCons (gNm 6) (Co.gCons (gNm 7) Co.gNil))))) [some (encR r), some (.ref ln), some (.cons (.ref rm) (.cons (.int last) (.cons (.int passed) .nil))), none, none, none, none, none, none, none, none] m = .ok (.nx [some (encR r), some (.ref ln), some (.cons (.ref rm) (.cons (.int last) (.cons (.int passed) .nil))), none, none, some (.ref rm), some (.int last), some (.int passed), none, none, none]) m from rfl]
      simp only [Res.bind]
      rw [sSeq, show (sAsg cp_law_named_1 (gNm 3)) [some (encR r), some (.ref ln), some (.cons (.ref rm) (.cons (.int last) (.cons (.int passed) .nil))), none, none, some (.ref rm), some (.int last), some (.int passed), none, none, none] m = .ok (.nx [some (encR r), some (.ref ln), some (.cons (.ref rm) (.cons (.int last) (.cons (.int passed) .nil))), some (.ref m.length), none, some (.ref rm), some (.int last), some (.int passed), none, none, none]) m1 by simp only [runB, slots, sSeq, sRet, sIf, sExpr, sAsg, gNm, Co.gCons, Co.gNil, gUnp, Co.gSub, sPar2, sPar3, cVar, cK, cBin, cUn, cNot, cAnd, cOr, cIte, cChain, aNil, aCons, cTup, cLst, cCall, cMeth, cSlice, partOf, sNx, sBrk, sCnt, sBad, sRz, cTrue, Res.bind, MV.ofL, List.map_cons, List.map_nil, List.length_cons, List.length_nil, List.cons_append, List.nil_append, List.getElem?_cons_succ, List.getElem?_cons_zero, List.set_cons_succ, List.set_cons_zero, List.replicate, Nat.reduceSub, Nat.reduceAdd, q1]]
      simp only [Res.bind]
      rw [sSeq, show (sIf (cBin oEq (cVar 3) (cLst aNil)) (sRet (cK .non)) sNx) [some (encR r), some (.ref ln), some (.cons (.ref rm) (.cons (.int last) (.cons (.int passed) .nil))), some (.ref m.length), none, some (.ref rm), some (.int last), some (.int passed), none, none, none] m1 = .ok (.nx [some (encR r), some (.ref ln), some (.cons (.ref rm) (.cons (.int last) (.cons (.int passed) .nil))), some (.ref m.length), none, some (.ref rm), some (.int last), some (.int passed), none, none, none]) m2 by simp only [runB, slots, sSeq, sRet, sIf, sExpr, sAsg, gNm, Co.gCons, Co.gNil, gUnp, Co.gSub, sPar2, sPar3, cVar, cK, cBin, cUn, cNot, cAnd, cOr, cIte, cChain, aNil, aCons, cTup, cLst, cCall, cMeth, cSlice, partOf, sNx, sBrk, sCnt, sBad, sRz, cTrue, Res.bind, MV.ofL, List.map_cons, List.map_nil, List.length_cons, List.length_nil, List.cons_append, List.nil_append, List.getElem?_cons_succ, List.getElem?_cons_zero, List.set_cons_succ, List.set_cons_zero, List.replicate, Nat.reduceSub, Nat.reduceAdd, n2, eq2]]
      simp only [Res.bind]
      rw [sSeq, show (sPar2 8 9 (aCons (cBin oIx (cVar 3) (cK (.int 0))) (aCons (cBin oIx (cVar 0) (cK (.int 0))) aNil))) [some (encR r), some (.ref ln), some (.cons (.ref rm) (.cons (.int last) (.cons (.int passed) .nil))), some (.ref m.length), none, some (.ref rm), some (.int last), some (.int passed), none, none, none] m2 = .ok (.nx [some (encR r), some (.ref ln), some (.cons (.ref rm) (.cons (.int last) (.cons (.int passed) .nil))), some (.ref m.length), none, some (.ref rm), some (.int last), some (.int passed), some (.int k0), some (.str r.word), none]) m2 by simp only [runB, slots, sSeq, sRet, sIf, sExpr, sAsg, gNm, Co.gCons, Co.gNil, gUnp, Co.gSub, sPar2, sPar3, cVar, cK, cBin, cUn, cNot, cAnd, cOr, cIte, cChain, aNil, aCons, cTup, cLst, cCall, cMeth, cSlice, partOf, sNx, sBrk, sCnt, sBad, sRz, cTrue, Res.bind, MV.ofL, List.map_cons, List.map_nil, List.length_cons, List.length_nil, List.cons_append, List.nil_append, List.getElem?_cons_succ, List.getElem?_cons_zero, List.set_cons_succ, List.set_cons_zero, List.replicate, Nat.reduceSub, Nat.reduceAdd, ix0, ixR0]]
      simp only [Res.bind]
      rw [sSeq, step]
      simp only [Res.bind]
      rw [sSeq, show (sAsg cp_law_named_2 (gNm 4)) [some (encR r), some (.ref ln), some (.cons (.ref rm) (.cons (.int last) (.cons (.int passed) .nil))), some (.ref m.length), none, some (.ref rm), some (.int last), some (.int passed), some (.int K), some (.str r.word), none] m2 = .ok (.nx [some (encR r), some (.ref ln), some (.cons (.ref rm) (.cons (.int last) (.cons (.int passed) .nil))), some (.ref m.length), some (.ref m2.length), some (.ref rm), some (.int last), some (.int passed), some (.int K), some (.str r.word), none]) m3 by simp only [runB, slots, sSeq, sRet, sIf, sExpr, sAsg, gNm, Co.gCons, Co.gNil, gUnp, Co.gSub, sPar2, sPar3, cVar, cK, cBin, cUn, cNot, cAnd, cOr, cIte, cChain, aNil, aCons, cTup, cLst, cCall, cMeth, cSlice, partOf, sNx, sBrk, sCnt, sBad, sRz, cTrue, Res.bind, MV.ofL, List.map_cons, List.map_nil, List.length_cons, List.length_nil, List.cons_append, List.nil_append, List.getElem?_cons_succ, List.getElem?_cons_zero, List.set_cons_succ, List.set_cons_zero, List.replicate, Nat.reduceSub, Nat.reduceAdd, q3]]
      exact Iff.rfl
    have kk3 : Ke [] m m3 := (k1.trans k2).trans k3
    have kk4 := kk3.trans k4
    have kk5 := kk4.trans k5
    unfold f_law_named
    by_cases hk : K = 2
    · by_cases hro : room = []
      · have hf : (room.filter fun z => decide (z.2.1 = 2)) = [] := by rw [hro]; rfl
        rw [decide_eq_true hro] at ne4
        rw [decide_eq_true hf] at ne5a
        refine ⟨m5, (pre _).mpr ?_, kk5⟩
        have hv : lnamed r line room last passed = some ((kindsOf line).idxOf K) := by
          unfold lnamed
          rw [if_neg hl, ← hK, if_neg]
          rintro (h | h)
          · exact h.2 hro
          · exact hex.mp h hf
        rw [hv]
        simp only [runB, slots, sSeq, sRet, sIf, sExpr, sAsg, gNm, Co.gCons, Co.gNil, gUnp, Co.gSub, sPar2, sPar3, cVar, cK, cBin, cUn, cNot, cAnd, cOr, cIte, cChain, aNil, aCons, cTup, cLst, cCall, cMeth, cSlice, partOf, sNx, sBrk, sCnt, sBad, sRz, cTrue, Res.bind, MV.ofL, List.map_cons, List.map_nil, List.length_cons, List.length_nil, List.cons_append, List.nil_append, List.getElem?_cons_succ, List.getElem?_cons_zero, List.set_cons_succ, List.set_cons_zero, List.replicate, Nat.reduceSub, Nat.reduceAdd, oEq_i, decide_eq_true hk, n4, ne4, Bool.not_true, n5, ne5a, kd5, if_true, id5, optV]
      · rw [decide_eq_false hro] at ne4
        refine ⟨m4, (pre _).mpr ?_, kk4⟩
        have hv : lnamed r line room last passed = none := by
          unfold lnamed
          rw [if_neg hl, ← hK, if_pos (Or.inl ⟨hk, hro⟩)]
        rw [hv]
        simp only [runB, slots, sSeq, sRet, sIf, sExpr, sAsg, gNm, Co.gCons, Co.gNil, gUnp, Co.gSub, sPar2, sPar3, cVar, cK, cBin, cUn, cNot, cAnd, cOr, cIte, cChain, aNil, aCons, cTup, cLst, cCall, cMeth, cSlice, partOf, sNx, sBrk, sCnt, sBad, sRz, cTrue, Res.bind, MV.ofL, List.map_cons, List.map_nil, List.length_cons, List.length_nil, List.cons_append, List.nil_append, List.getElem?_cons_succ, List.getElem?_cons_zero, List.set_cons_succ, List.set_cons_zero, List.replicate, Nat.reduceSub, Nat.reduceAdd, oEq_i, decide_eq_true hk, n4, ne4, Bool.not_false, optV]
    · by_cases hf : (room.filter fun z => decide (z.2.1 = 2)) = []
      · rw [decide_eq_true hf] at ne4a
        refine ⟨m4, (pre _).mpr ?_, kk4⟩
        have hv : lnamed r line room last passed = some ((kindsOf line).idxOf K) := by
          unfold lnamed
          rw [if_neg hl, ← hK, if_neg]
          rintro (h | h)
          · exact hk h.1
          · exact hex.mp h hf
        rw [hv]
        simp only [runB, slots, sSeq, sRet, sIf, sExpr, sAsg, gNm, Co.gCons, Co.gNil, gUnp, Co.gSub, sPar2, sPar3, cVar, cK, cBin, cUn, cNot, cAnd, cOr, cIte, cChain, aNil, aCons, cTup, cLst, cCall, cMeth, cSlice, partOf, sNx, sBrk, sCnt, sBad, sRz, cTrue, Res.bind, MV.ofL, List.map_cons, List.map_nil, List.length_cons, List.length_nil, List.cons_append, List.nil_append, List.getElem?_cons_succ, List.getElem?_cons_zero, List.set_cons_succ, List.set_cons_zero, List.replicate, Nat.reduceSub, Nat.reduceAdd, oEq_i, decide_eq_false hk, n4, ne4a, Bool.not_true, kd4, if_true, id4, optV]
      · rw [decide_eq_false hf] at ne4a
        refine ⟨m4, (pre _).mpr ?_, kk4⟩
        have hv : lnamed r line room last passed = none := by
          unfold lnamed
          rw [if_neg hl, ← hK, if_pos (Or.inr (hex.mpr hf))]
        rw [hv]
        simp only [runB, slots, sSeq, sRet, sIf, sExpr, sAsg, gNm, Co.gCons, Co.gNil, gUnp, Co.gSub, sPar2, sPar3, cVar, cK, cBin, cUn, cNot, cAnd, cOr, cIte, cChain, aNil, aCons, cTup, cLst, cCall, cMeth, cSlice, partOf, sNx, sBrk, sCnt, sBad, sRz, cTrue, Res.bind, MV.ofL, List.map_cons, List.map_nil, List.length_cons, List.length_nil, List.cons_append, List.nil_append, List.getElem?_cons_succ, List.getElem?_cons_zero, List.set_cons_succ, List.set_cons_zero, List.replicate, Nat.reduceSub, Nat.reduceAdd, oEq_i, decide_eq_false hk, n4, ne4a, Bool.not_false, optV]
end Lw

namespace Lw
open PySem Co
/-! ### the law's own tick, typed -/
def lkindP (r : Ru) (l : List Pr) (last passed : Int) : Int :=
  if 1 ∈ l.map (·.1) ∧ 2 ∈ l.map (·.1) ∧ r ≠ .line then
    if (r.isP = true ∧ r.num ≤ ((l[(l.map (·.1)).idxOf 2]?).map fun z => z.2).getD 0) ∨ (r.isB = true ∧ r.num ≤ passed) ∨ r = .one ∨ (r = .turns ∧ last = 1) then 2 else 1
  else (l.map (·.1)).headD 0
def lnamedP (r : Ru) (line room : List Pr) (last passed : Int) : Option Nat :=
  if line = [] then none
  else if (lkindP r line last passed = 2 ∧ room ≠ []) ∨ (∃ z ∈ room, z.1 = 2) then none
  else some ((line.map (·.1)).idxOf (lkindP r line last passed))
theorem kinds_prs (zs : Zs) : kindsOf zs = (prs zs).map (·.1) := by simp [kindsOf, prs, Function.comp_def]
theorem lkind_prs (r : Ru) (zs : Zs) (last passed : Int) : lkind r zs last passed = lkindP r (prs zs) last passed := by
  unfold lkind lkindP
  rw [kinds_prs]
  have : ((zs[((prs zs).map (·.1)).idxOf 2]?).map fun z => z.2.2) = (((prs zs)[((prs zs).map (·.1)).idxOf 2]?).map fun z => z.2) := by
    rw [prs, List.getElem?_map, Option.map_map]
    rfl
  rw [this]
theorem prs_nil (zs : Zs) : prs zs = [] ↔ zs = [] := by simp [prs]
theorem lnamed_prs (r : Ru) (line room : Zs) (last passed : Int) : lnamed r line room last passed = lnamedP r (prs line) (prs room) last passed := by
  have e1 : (line = []) = (prs line = []) := propext (prs_nil line).symm
  have e2 : (room ≠ []) = (prs room ≠ []) := propext (not_congr (prs_nil room).symm)
  have e3 : (∃ z ∈ room, z.2.1 = 2) = (∃ z ∈ prs room, z.1 = 2) := propext (by
    constructor
    · rintro ⟨z, hz, h⟩
      exact ⟨z.2, List.mem_map.mpr ⟨z, hz, rfl⟩, h⟩
    · rintro ⟨x, hx, h⟩
      obtain ⟨z, hz, rfl⟩ := List.mem_map.mp hx
      exact ⟨z, hz, h⟩)
  unfold lnamed lnamedP
  simp only [lkind_prs, kinds_prs, e1, e2, e3]
structure Lq where
  line : List Pr
  room : List Pr
  last : Int
  passed : Int
def lstep (s : Se) (i : Nat) (q : Lq) : Lq :=
  { line := q.line.take i ++ q.line.drop (i + 1), room := q.room ++ [((q.line[i]?.map (·.1)).getD 0, stay s ((q.line[i]?.map (·.1)).getD 0))], last := (q.line[i]?.map (·.1)).getD 0, passed := if (q.line[i]?.map (·.1)).getD 0 = 1 ∧ 2 ∈ (q.line.take i ++ q.line.drop (i + 1)).map (·.1) then q.passed + 1 else 0 }
def lenter (s : Se) (r : Ru) : Nat → Lq → List Int → Lq × List Int
  | 0, q, fo => (q, fo)
  | n + 1, q, fo => match lnamedP r q.line q.room q.last q.passed with
    | none => (q, fo)
    | some i => lenter s r n (lstep s i q) (fo ++ [(q.line[i]?.map (·.1)).getD 0])
theorem lnamedP_lt {r : Ru} {line room : List Pr} {last passed : Int} {i : Nat} (h : lnamedP r line room last passed = some i) : i < line.length := by
  unfold lnamedP at h
  split at h
  · simp at h
  · rename_i hl
    split at h
    · simp at h
    · simp only [Option.some.injEq] at h
      have hm : lkindP r line last passed ∈ line.map (·.1) := by
        unfold lkindP
        split
        · rename_i hc
          split
          · exact hc.2.1
          · exact hc.1
        · cases line with
          | nil => exact absurd rfl hl
          | cons a b => simp
      have := List.idxOf_lt_length_iff.mpr hm
      rw [List.length_map] at this
      omega
/-! ### copies -/
def PwG {β : Type} (en : β → List MV) (m : MH) (ws : List (Nat × β)) : Prop := ∀ z ∈ ws, m[z.1]? = some (.lst (en z.2))
def enPr (x : Pr) : List MV := [.int x.1, .int x.2]
theorem PwG.pr {m : MH} {zs : Zs} : PwG enPr m zs ↔ Pw m zs := Iff.rfl
theorem PwG.keep {β : Type} {en : β → List MV} {m m' : MH} {ws : List (Nat × β)} (h : PwG en m ws) (k : Ke [] m m') : PwG en m' ws := fun z hz => k.get (h z hz)
def refsG {β : Type} (ws : List (Nat × β)) : List MV := ws.map fun z => .ref z.1
/-- a comprehension whose values are made anew -/
theorem comp_copy {β : Type} {en : β → List MV} {g : CG} {e : CE} {r : Sl} {n : Nat} {zs : Zs} {G : Nat × Pr → Sl} (F : Pr → β) (C : Pr → Bool) {c : CE}
    (hg : ∀ z ∈ zs, ∀ m, Pw m zs → g (.ref z.1) r m = .ok (G z) m)
    (hc : ∀ z ∈ zs, ∀ m, Pw m zs → c (G z) m = .ok (.bl (C z.2)) m)
    (he : ∀ z ∈ zs, ∀ m, Pw m zs → C z.2 = true → ∃ k m', e (G z) m = .ok (.ref k) m' ∧ Ke [] m m' ∧ m.length ≤ k ∧ m'[k]? = some (.lst (en (F z.2)))) :
    ∀ (ys : Zs) (i fuel : Nat) (acc : List (Nat × β)) (m : MH), zs.drop i = ys → ys.length < fuel → LL zs n m → PwG en m acc → ∃ ws m', compN (.lst n) g c e r fuel i (refsG acc) m = .ok (refsG (acc ++ ws)) m' ∧ Ke [] m m' ∧ PwG en m' (acc ++ ws) ∧ ws.map (·.2) = ((prs ys).filter C).map F ∧ ∀ w ∈ ws, m.length ≤ w.1
  | [], i, fuel, acc, m, hd, hf, hL, ha => by
    cases fuel with
    | zero => simp at hf
    | succ fuel =>
      refine ⟨[], m, ?_, Ke.refl, by simpa using ha, rfl, fun w hw => by simp at hw⟩
      have : zs[i]? = none := List.getElem?_eq_none (by have := congrArg List.length hd; simp at this; omega)
      rw [compN, lst_at hL.at_]
      simp [refs, this]
  | y :: ys, i, fuel, acc, m, hd, hf, hL, ha => by
    cases fuel with
    | zero => simp at hf
    | succ fuel =>
      have hi : zs[i]? = some y := by
        have h := congrArg (fun l => l[0]?) hd
        simp only [List.getElem?_drop, Nat.add_zero, List.getElem?_cons_zero] at h
        exact h
      have hmem : y ∈ zs := List.mem_of_getElem? hi
      have hd2 : zs.drop (i + 1) = ys := by rw [← List.drop_drop, hd]; rfl
      rw [compN, lst_at hL.at_]
      simp only [refs, List.getElem?_map, hi, Option.map_some, hg y hmem m hL.pw, Res.bind, hc y hmem m hL.pw]
      cases hC : C y.2 with
      | true =>
        obtain ⟨k, m1, e1, k1, l1, g1⟩ := he y hmem m hL.pw hC
        have ha1 : PwG en m1 (acc ++ [(k, F y.2)]) := fun z hz => by
          rcases List.mem_append.mp hz with h | h
          · exact (ha.keep k1) z h
          · have : z = (k, F y.2) := by simpa using h
            rw [this]; exact g1
        obtain ⟨ws, m2, e2, k2, p2, r2, f2⟩ := comp_copy (n := n) F C hg hc he ys (i + 1) fuel (acc ++ [(k, F y.2)]) m1 hd2 (by simp at hf; omega) (hL.keep k1) ha1
        refine ⟨(k, F y.2) :: ws, m2, ?_, k1.trans k2, by simpa using p2, ?_, fun w hw => ?_⟩
        · simp only [e1]
          have h3 : refsG (acc ++ [(k, F y.2)]) = refsG acc ++ [MV.ref k] := by simp [refsG]
          rw [← h3, e2]
          simp only [refsG, List.append_assoc, List.cons_append, List.nil_append]
        · simp only [prs, List.map_cons, List.filter_cons, hC, if_true] at r2 ⊢
          rw [r2]
        · rcases List.mem_cons.mp hw with h | h
          · rw [h]; exact l1
          · exact Nat.le_trans k1.1 (f2 w h)
      | false =>
        obtain ⟨ws, m2, e2, k2, p2, r2, f2⟩ := comp_copy (n := n) F C hg hc he ys (i + 1) fuel acc m hd2 (by simp at hf; omega) hL ha
        refine ⟨ws, m2, ?_, k2, p2, ?_, f2⟩
        · simp only []
          rw [e2]
        · simp only [prs, List.map_cons, List.filter_cons, hC] at r2 ⊢
          simp only [Bool.false_eq_true, if_false]
          exact r2
/-- the whole comprehension -/
theorem comp_copyC {β : Type} {en : β → List MV} {it e c : CE} {vs : List Nat} {g : CG} {r : Sl} {n : Nat} {zs : Zs} {m m1 : MH} {G : Nat × Pr → Sl} (F : Pr → β) (C : Pr → Bool) (hit : it r m = .ok (.ref n) m1) (hL : LL zs n m1) (hl : zs.length ≤ 1000)
    (hg : ∀ z ∈ zs, ∀ m, Pw m zs → g (.ref z.1) (wipeM r vs) m = .ok (G z) m)
    (hc : ∀ z ∈ zs, ∀ m, Pw m zs → c (G z) m = .ok (.bl (C z.2)) m)
    (he : ∀ z ∈ zs, ∀ m, Pw m zs → C z.2 = true → ∃ k m', e (G z) m = .ok (.ref k) m' ∧ Ke [] m m' ∧ m.length ≤ k ∧ m'[k]? = some (.lst (en (F z.2)))) :
    ∃ (ws : List (Nat × β)) (k : Nat) (m' : MH), cComp (iSeq it) vs g c e r m = .ok (.ref k) m' ∧ Ke [] m1 m' ∧ m1.length ≤ k ∧ m'[k]? = some (.lst (refsG ws)) ∧ PwG en m' ws ∧ ws.map (·.2) = ((prs zs).filter C).map F ∧ (∀ w ∈ ws, m1.length ≤ w.1) ∧ (∀ w ∈ ws, w.1 < k) := by
  obtain ⟨ws, m2, e2, k2, p2, r2, f2⟩ := comp_copy (n := n) (en := en) F C hg hc he zs 0 big [] m1 rfl (by show _ < 1000000; omega) hL (fun z hz => by simp at hz)
  have hwl : ws.length ≤ 1000 := by
    have h1 := congrArg List.length r2
    have h2 := List.length_filter_le C (prs zs)
    have h3 : (prs zs).length = zs.length := by simp [prs]
    simp only [List.length_map] at h1
    omega
  refine ⟨ws, m2.length, m2 ++ [.lst (refsG ws)], ?_, k2.trans (Ke.app _ _), k2.1, by simp, (show PwG en m2 ws by simpa using p2).keep (Ke.app _ _), r2, f2, fun w hw => ?_⟩
  · unfold cComp
    rw [iSeq_ref it r m m1 n _ hit hL.at_]
    simp only [Res.bind]
    have e2' : compN (.lst n) g c e (wipeM r vs) big 0 [] m1 = .ok (refsG ws) m2 := by simpa [refsG] using e2
    rw [e2']
    exact newL_ok' _ _ (by simp [refsG]; omega)
  · exact (List.getElem?_eq_some_iff.mp ((show PwG en m2 ws by simpa using p2) w hw)).1
end Lw

namespace Lw
open PySem Co
/-- [2] in the heads -/
theorem oIn_heads {m : MH} {a k : Nat} {ws : List (Nat × Int)} (ha : m[a]? = some (.lst [.int 2])) (hk : m[k]? = some (.lst (refsG ws))) (hw : PwG (fun x : Int => [MV.int x]) m ws) : oIn (.ref a) (.ref k) m = .ok (.bl (decide (2 ∈ ws.map (·.2)))) m := by
  have d1 : deep m 40 (.ref a) = some (.frz (.cons (.int 2) .nil)) := by
    show (lstAt a m).bind (fun xs => (mapM? (deep m 39) xs).map MV.frz) = _
    rw [lstAt_some ha]
    rfl
  have d2 : ∀ l : List (Nat × Int), PwG (fun x : Int => [MV.int x]) m l → mapM? (deep m 39) (refsG l) = some (MV.ofL (l.map fun z => .frz (.cons (.int z.2) .nil))) := by
    intro l
    induction l with
    | nil => intro _; rfl
    | cons z l ih =>
      intro h
      have h1 : deep m 39 (.ref z.1) = some (.frz (.cons (.int z.2) .nil)) := by
        show (lstAt z.1 m).bind (fun xs => (mapM? (deep m 38) xs).map MV.frz) = _
        rw [lstAt_some (h z List.mem_cons_self)]
        rfl
      have h2 := ih fun y hy => h y (List.mem_cons_of_mem _ hy)
      rw [refsG] at h2
      rw [refsG, List.map_cons, mapM?, h1, h2]
      rfl
  have d3 : ∀ l : List (Nat × Int), anyEq (.frz (.cons (.int 2) .nil)) (l.map fun z => .frz (.cons (.int z.2) .nil)) = decide (2 ∈ l.map (·.2)) := by
    intro l
    induction l with
    | nil => rfl
    | cons z l ih =>
      rw [List.map_cons, anyEq, ih]
      simp only [eqv, Bool.and_true, List.map_cons]
      by_cases h : z.2 = 2
      · simp [h]
      · have hb : (z.2 == (2 : Int)) = false := by simpa using h
        have h4 : (2 ∈ z.2 :: l.map (·.2)) ↔ 2 ∈ l.map (·.2) := by
          rw [List.mem_cons]
          exact ⟨fun x => x.resolve_left fun e => h e.symm, Or.inr⟩
        rw [hb, Bool.false_or]
        exact decide_eq_decide.mpr h4.symm
  have e : inM m (.ref a) (.ref k) = some (decide (2 ∈ ws.map (·.2))) := by
    simp only [inM, hk]
    rw [d1, Option.bind_some, d2 ws hw, Option.bind_some, MV.toL_ofL, Option.map_some, d3]
  unfold oIn
  rw [e]
theorem heads_comp {zs : Zs} {n : Nat} {m : MH} (h : LL zs n m) (hl : zs.length ≤ 1000) (x0 x1 x2 x3 x4 x5 x6 x8 x9 x10 x11 x12 : Option MV) :
    ∃ (ws : List (Nat × Int)) (k : Nat) (m' : MH), cComp (iSeq (cVar 7)) [13] (gNm 13) cTrue (cSlice (cVar 13) none (some (cK (.int 1)))) [x0, x1, x2, x3, x4, x5, x6, some (.ref n), x8, x9, x10, x11, x12, none, none, none] m = .ok (.ref k) m' ∧ Ke [] m m' ∧ m'[k]? = some (.lst (refsG ws)) ∧ PwG (fun x : Int => [MV.int x]) m' ws ∧ ws.map (·.2) = (prs zs).map (·.1) := by
  obtain ⟨ws, k, m', e, ke, l, g, p, w, _⟩ := comp_copyC (en := fun x : Int => [MV.int x]) (it := cVar 7) (e := cSlice (cVar 13) none (some (cK (.int 1)))) (c := cTrue) (vs := [13]) (g := gNm 13) (r := [x0, x1, x2, x3, x4, x5, x6, some (.ref n), x8, x9, x10, x11, x12, none, none, none]) (m := m) (m1 := m) (n := n) (zs := zs)
    (G := fun z => [x0, x1, x2, x3, x4, x5, x6, some (.ref n), x8, x9, x10, x11, x12, some (.ref z.1), none, none]) (fun x => x.1) (fun _ => true) rfl h hl (fun z _ m _ => rfl) (fun z _ m _ => rfl) (fun z hz m hp _ => by
      have hs := sl_ref_to (en := MV.int) m z.1 [z.2.1, z.2.2] 1 (by decide) (hp z hz) (by simp)
      refine ⟨m.length, m ++ [.lst [.int z.2.1]], ?_, Ke.app _ _, Nat.le_refl _, by simp⟩
      simp only [runB, slots, sSeq, sRet, sIf, sExpr, sAsg, gNm, Co.gCons, Co.gNil, gUnp, Co.gSub, sPar2, sPar3, cVar, cK, cBin, cUn, cNot, cAnd, cOr, cIte, cChain, aNil, aCons, cTup, cLst, cCall, cMeth, cSlice, partOf, sNx, sBrk, sCnt, sBad, sRz, cTrue, Res.bind, MV.ofL, List.map_cons, List.map_nil, List.length_cons, List.length_nil, List.cons_append, List.nil_append, List.getElem?_cons_succ, List.getElem?_cons_zero, List.set_cons_succ, List.set_cons_zero, List.replicate, Nat.reduceSub, Nat.reduceAdd]
      exact hs)
  exact ⟨ws, k, m', e, ke, g, p, by rw [w, filter_true]⟩
structure LT (q : Lq) (fo : List Int) (lz rz : Zs) (ln rm lt : Nat) (m : MH) : Prop where
  hl : LL lz ln m
  hr : LL rz rm m
  ql : prs lz = q.line
  qr : prs rz = q.room
  ht : m[lt]? = some (.lst (fo.map .int))
  nlr : ln ≠ rm
  nlt : ln ≠ lt
  nrt : rm ≠ lt
  dl : ∀ z ∈ lz, z.1 ≠ rm ∧ z.1 ≠ lt
  dr : ∀ z ∈ rz, z.1 ≠ rm ∧ z.1 ≠ lt
theorem LT.keep {q : Lq} {fo : List Int} {lz rz : Zs} {ln rm lt : Nat} {m m' : MH} (h : LT q fo lz rz ln rm lt m) (k : Ke [] m m') : LT q fo lz rz ln rm lt m' :=
  ⟨h.hl.keep k, h.hr.keep k, h.ql, h.qr, k.get h.ht, h.nlr, h.nlt, h.nrt, h.dl, h.dr⟩
theorem ltick_turn (s : Se) (r : Ru) {q : Lq} {fo : List Int} {lz rz : Zs} {ln rm lt : Nat} {m : MH} (h : LT q fo lz rz ln rm lt m) (i : Nat) (hi : i < q.line.length) (hk : ∀ x ∈ q.line, x.1 = 1 ∨ x.1 = 2) (b1 : lz.length ≤ 500) (b2 : rz.length ≤ 500) (b3 : fo.length ≤ 500) (x2 x3 x5 x10 x12 : Option MV) :
    ∃ lz' rz' ln' x12' m', lb_law_tick_1 [some (encS s), some (encR r), x2, x3, some (.int (i : Nat)), x5, some (.ref rm), some (.ref ln), some (.int q.last), some (.int q.passed), x10, some (.ref lt), x12, none, none, none] m =
      .ok (.nx [some (encS s), some (encR r), x2, x3, some (optV (lnamedP r (lstep s i q).line (lstep s i q).room (lstep s i q).last (lstep s i q).passed)), x5, some (.ref rm), some (.ref ln'), some (.int (lstep s i q).last), some (.int (lstep s i q).passed), x10, some (.ref lt), x12', none, none, none]) m' ∧
      LT (lstep s i q) (fo ++ [(q.line[i]?.map (·.1)).getD 0]) lz' rz' ln' rm lt m' ∧ Ke [rm, lt] m m' ∧ lz'.length + 1 = lz.length ∧ rz'.length = rz.length + 1 := by
  have hll : lz.length = q.line.length := by rw [← h.ql]; simp [prs]
  have hz : lz[i]? = some lz[i] := List.getElem?_eq_getElem (by omega)
  generalize lz[i] = z at hz
  have hq : q.line[i]? = some z.2 := by rw [← h.ql, prs, List.getElem?_map, hz]; rfl
  have hkk : z.2.1 = 1 ∨ z.2.1 = 2 := hk z.2 (List.mem_of_getElem? hq)
  have hkd : (q.line[i]?.map (·.1)).getD 0 = z.2.1 := by rw [hq]; rfl
  simp only [lstep, hkd]
  have ix := ix_zs h.hl (i : Nat) z (by omega) (by simpa using hz)
  have ix0 := ix_pr0 (h.hl.pw z (List.mem_of_getElem? hz))
  -- the line without it
  have s1 := sl_ref_to (en := fun z : Nat × Pr => MV.ref z.1) m ln lz (i : Nat) (by omega) h.hl.at_ (by omega)
  rw [Int.toNat_natCast] at s1
  obtain ⟨m1, hm1⟩ : ∃ m1, m1 = m ++ [MO.lst ((lz.take i).map fun z : Nat × Pr => MV.ref z.1)] := ⟨_, rfl⟩
  rw [← hm1] at s1
  obtain ⟨k1, g1, z1⟩ := app_ex hm1
  have s2 := sl_ref_from (en := fun z : Nat × Pr => MV.ref z.1) m1 ln lz ((i : Int) + 1) (by omega) (k1.get h.hl.at_) (by omega)
  rw [show ((i : Int) + 1).toNat = i + 1 by omega] at s2
  obtain ⟨m2, hm2⟩ : ∃ m2, m2 = m1 ++ [MO.lst ((lz.drop (i + 1)).map fun z : Nat × Pr => MV.ref z.1)] := ⟨_, rfl⟩
  rw [← hm2] at s2
  obtain ⟨k2, g2, z2⟩ := app_ex hm2
  have s3 := oAdd_ref (en := fun z : Nat × Pr => MV.ref z.1) m2 m.length m1.length _ _ (k2.get g1) g2 (by rw [List.length_take, List.length_drop]; omega)
  obtain ⟨lz', hlz'⟩ : ∃ lz', lz' = lz.take i ++ lz.drop (i + 1) := ⟨_, rfl⟩
  rw [← hlz'] at s3
  obtain ⟨m3, hm3⟩ : ∃ m3, m3 = m2 ++ [MO.lst (lz'.map fun z : Nat × Pr => MV.ref z.1)] := ⟨_, rfl⟩
  rw [← hm3] at s3
  obtain ⟨k3, g3, z3⟩ := app_ex hm3
  have kk3 : Ke [] m m3 := (k1.trans k2).trans k3
  have h3 := h.keep kk3
  have hsub : ∀ y ∈ lz', y ∈ lz := fun y hy => by
    rw [hlz'] at hy
    rcases List.mem_append.mp hy with e | e
    · exact List.mem_of_mem_take e
    · exact List.mem_of_mem_drop e
  have hL3 : LL lz' m2.length m3 := ⟨g3, fun y hy => h3.hl.pw y (hsub y hy)⟩
  have hlz : lz'.length + 1 = lz.length := by rw [hlz', List.length_append, List.length_take, List.length_drop]; omega
  have hprs : prs lz' = q.line.take i ++ q.line.drop (i + 1) := by rw [hlz', prs, List.map_append, List.map_take, List.map_drop, ← h.ql]; rfl
  -- those passed
  obtain ⟨P, hP⟩ : ∃ P, P = if z.2.1 = 1 ∧ 2 ∈ (q.line.take i ++ q.line.drop (i + 1)).map (·.1) then q.passed + 1 else 0 := ⟨_, rfl⟩
  obtain ⟨m5, e5, k5⟩ : ∃ m5, (cIte (cAnd (cBin oEq (cVar 12) (cK (.int 1))) (cBin oIn (cLst (aCons (cK (.int 2)) aNil)) cp_law_tick_4)) (cBin oAdd (cVar 9) (cK (.int 1))) (cK (.int 0))) [some (encS s), some (encR r), x2, x3, some (.int (i : Nat)), x5, some (.ref rm), some (.ref m2.length), some (.int q.last), some (.int q.passed), x10, some (.ref lt), some (.int z.2.1), none, none, none] m3 = .ok (.int P) m5 ∧ Ke [] m3 m5 := by
    by_cases e : z.2.1 = 1
    · obtain ⟨m4, n4, k4, g4, z4⟩ := newL_ex (en := MV.int) [2] m3 (by simp)
      simp only [List.map_cons, List.map_nil] at n4 g4
      obtain ⟨ws, k, m5, ec, kc, gc, pc, wc⟩ := heads_comp (hL3.keep k4) (by omega) (some (encS s)) (some (encR r)) x2 x3 (some (.int (i : Nat))) x5 (some (.ref rm)) (some (.int q.last)) (some (.int q.passed)) x10 (some (.ref lt)) (some (.int z.2.1))
      have hin := oIn_heads (kc.get g4) gc pc
      rw [wc, hprs] at hin
      refine ⟨m5, ?_, k4.trans kc⟩
      have ec' : cp_law_tick_4 [some (encS s), some (encR r), x2, x3, some (.int (i : Nat)), x5, some (.ref rm), some (.ref m2.length), some (.int q.last), some (.int q.passed), x10, some (.ref lt), some (.int z.2.1), none, none, none] m4 = .ok (.ref k) m5 := ec
      by_cases h2 : 2 ∈ (q.line.take i ++ q.line.drop (i + 1)).map (·.1)
      · rw [if_pos ⟨e, h2⟩] at hP
        rw [decide_eq_true h2] at hin
        have eqk : oEq (.int z.2.1) (.int 1) m3 = .ok (.bl true) m3 := by rw [oEq_i, decide_eq_true e]
        simp only [cIte, cAnd, cBin, cVar, cK, cLst, aCons, aNil, List.getElem?_cons_succ, List.getElem?_cons_zero, Res.bind, eqk, n4, ec', hin, oAdd_i, hP]
      · rw [if_neg (fun z => h2 z.2)] at hP
        rw [decide_eq_false h2] at hin
        have eqk : oEq (.int z.2.1) (.int 1) m3 = .ok (.bl true) m3 := by rw [oEq_i, decide_eq_true e]
        simp only [cIte, cAnd, cBin, cVar, cK, cLst, aCons, aNil, List.getElem?_cons_succ, List.getElem?_cons_zero, Res.bind, eqk, n4, ec', hin, hP]
    · refine ⟨m3, ?_, Ke.refl⟩
      rw [if_neg (fun z => e z.1)] at hP
      have eqk : oEq (.int z.2.1) (.int 1) m3 = .ok (.bl false) m3 := by rw [oEq_i, decide_eq_false e]
      simp only [cIte, cAnd, cBin, cVar, cK, List.getElem?_cons_succ, List.getElem?_cons_zero, Res.bind, eqk, hP]
  rw [← hP]
  -- the room
  have h5 := h3.keep k5
  have ixs : oIx (encS s) (.int z.2.1) m5 = .ok (.int (stay s z.2.1)) m5 := by rcases hkk with e | e <;> rw [e] <;> rfl
  have kd5 := kindM_lst m5 rm _ h5.hr.at_
  obtain ⟨m6, n6, k6, g6, z6⟩ := newL_ex (en := MV.int) [z.2.1, stay s z.2.1] m5 (by simp)
  simp only [List.map_cons, List.map_nil] at n6 g6
  have h6 := h5.keep k6
  have a6 := mAppend_ok m6 rm _ (.ref m5.length) h6.hr.at_ (by simp [refs]; omega)
  obtain ⟨rz', hrz'⟩ : ∃ rz', rz' = rz ++ [(m5.length, (z.2.1, stay s z.2.1))] := ⟨_, rfl⟩
  obtain ⟨m7, hm7⟩ : ∃ m7, m7 = m6.set rm (.lst (refs rz')) := ⟨_, rfl⟩
  have a6' : mAppend (.ref rm) [.ref m5.length] m6 = .ok .non m7 := by
    rw [a6, hm7, hrz']; simp [refs]
  have k7 : Ke [rm] m6 m7 := by rw [hm7]; exact Ke.set (by simp)
  obtain ⟨hrl, _⟩ := List.getElem?_eq_some_iff.mp h6.hr.at_
  have g7 : m7[rm]? = some (.lst (refs rz')) := by rw [hm7]; exact List.getElem?_set_self hrl
  have t7 : m7[lt]? = some (.lst (fo.map .int)) := k7.get h6.ht (by simpa using h.nrt.symm)
  have kd7 := kindM_lst m7 lt _ t7
  have a7 := mAppend_ok m7 lt _ (.int z.2.1) t7 (by simp; omega)
  obtain ⟨m8, hm8⟩ : ∃ m8, m8 = m7.set lt (.lst ((fo ++ [z.2.1]).map .int)) := ⟨_, rfl⟩
  have a7' : mAppend (.ref lt) [.int z.2.1] m7 = .ok .non m8 := by rw [a7, hm8]; simp
  have k8 : Ke [lt] m7 m8 := by rw [hm8]; exact Ke.set (by simp)
  obtain ⟨htl, _⟩ := List.getElem?_eq_some_iff.mp t7
  have t8 : m8[lt]? = some (.lst ((fo ++ [z.2.1]).map .int)) := by rw [hm8]; exact List.getElem?_set_self htl
  have r8 : m8[rm]? = some (.lst (refs rz')) := k8.get g7 (by simpa using h.nrt)
  have lrm : m2.length ≠ rm := by
    obtain ⟨x, _⟩ := List.getElem?_eq_some_iff.mp h.hr.at_
    omega
  have llt : m2.length ≠ lt := by
    obtain ⟨x, _⟩ := List.getElem?_eq_some_iff.mp h.ht
    omega
  have mrm : m5.length ≠ rm := by
    obtain ⟨x, _⟩ := List.getElem?_eq_some_iff.mp h5.hr.at_
    omega
  have mlt : m5.length ≠ lt := by
    obtain ⟨x, _⟩ := List.getElem?_eq_some_iff.mp h5.ht
    omega
  have up : ∀ {k : Nat} {o : MO}, m6[k]? = some o → k ≠ rm → k ≠ lt → m8[k]? = some o := fun {k o} hx n1 n2 => k8.get (k7.get hx (by simpa using n1)) (by simpa using n2)
  have l8 : LL lz' m2.length m8 := ⟨up (k6.get (k5.get g3)) lrm llt, fun y hy => up (h6.hl.pw y (hsub y hy)) (h.dl y (hsub y hy)).1 (h.dl y (hsub y hy)).2⟩
  have rr8 : LL rz' rm m8 := ⟨r8, fun y hy => by
    rw [hrz'] at hy
    rcases List.mem_append.mp hy with e | e
    · exact up (h6.hr.pw y e) (h.dr y e).1 (h.dr y e).2
    · have : y = (m5.length, (z.2.1, stay s z.2.1)) := by simpa using e
      rw [this]
      exact up g6 mrm mlt⟩
  have hrl' : rz'.length = rz.length + 1 := by rw [hrz']; simp
  have hprr : prs rz' = q.room ++ [(z.2.1, stay s z.2.1)] := by rw [hrz', prs, List.map_append, ← h.qr]; rfl
  obtain ⟨m9, e9, k9⟩ := named_ok r lz' rz' z.2.1 P m2.length rm m8 l8 rr8 (by omega) (by omega)
  rw [lnamed_prs, hprs, hprr] at e9
  refine ⟨lz', rz', m2.length, some (.int z.2.1), m9, ?_, ⟨l8.keep k9, rr8.keep k9, hprs, hprr, k9.get t8, lrm, llt, h.nrt, fun y hy => h.dl y (hsub y hy), fun y hy => ?_⟩, ?_, hlz, hrl'⟩
  · unfold lb_law_tick_1
    rw [sSeq, show (sAsg (cBin oIx (cBin oIx (cVar 7) (cVar 4)) (cK (.int 0))) (gNm 12)) [some (encS s), some (encR r), x2, x3, some (.int (i : Nat)), x5, some (.ref rm), some (.ref ln), some (.int q.last), some (.int q.passed), x10, some (.ref lt), x12, none, none, none] m = .ok (.nx [some (encS s), some (encR r), x2, x3, some (.int (i : Nat)), x5, some (.ref rm), some (.ref ln), some (.int q.last), some (.int q.passed), x10, some (.ref lt), some (.int z.2.1), none, none, none]) m by simp only [runB, slots, sSeq, sRet, sIf, sExpr, sAsg, gNm, Co.gCons, Co.gNil, gUnp, Co.gSub, sPar2, sPar3, cVar, cK, cBin, cUn, cNot, cAnd, cOr, cIte, cChain, aNil, aCons, cTup, cLst, cCall, cMeth, cSlice, partOf, sNx, sBrk, sCnt, sBad, sRz, cTrue, Res.bind, MV.ofL, List.map_cons, List.map_nil, List.length_cons, List.length_nil, List.cons_append, List.nil_append, List.getElem?_cons_succ, List.getElem?_cons_zero, List.set_cons_succ, List.set_cons_zero, List.replicate, Nat.reduceSub, Nat.reduceAdd, ix, ix0]]
    simp only [Res.bind]
    rw [sSeq, show (sAsg (cBin oAdd (cSlice (cVar 7) none (some (cVar 4))) (cSlice (cVar 7) (some (cBin oAdd (cVar 4) (cK (.int 1)))) none)) (gNm 7)) [some (encS s), some (encR r), x2, x3, some (.int (i : Nat)), x5, some (.ref rm), some (.ref ln), some (.int q.last), some (.int q.passed), x10, some (.ref lt), some (.int z.2.1), none, none, none] m = .ok (.nx [some (encS s), some (encR r), x2, x3, some (.int (i : Nat)), x5, some (.ref rm), some (.ref m2.length), some (.int q.last), some (.int q.passed), x10, some (.ref lt), some (.int z.2.1), none, none, none]) m3 by simp only [runB, slots, sSeq, sRet, sIf, sExpr, sAsg, gNm, Co.gCons, Co.gNil, gUnp, Co.gSub, sPar2, sPar3, cVar, cK, cBin, cUn, cNot, cAnd, cOr, cIte, cChain, aNil, aCons, cTup, cLst, cCall, cMeth, cSlice, partOf, sNx, sBrk, sCnt, sBad, sRz, cTrue, Res.bind, MV.ofL, List.map_cons, List.map_nil, List.length_cons, List.length_nil, List.cons_append, List.nil_append, List.getElem?_cons_succ, List.getElem?_cons_zero, List.set_cons_succ, List.set_cons_zero, List.replicate, Nat.reduceSub, Nat.reduceAdd, oAdd_i, s1, s2, s3]]
    simp only [Res.bind]
    rw [sSeq, sAsg, e5]
    simp only [runB, slots, sSeq, sRet, sIf, sExpr, sAsg, gNm, Co.gCons, Co.gNil, gUnp, Co.gSub, sPar2, sPar3, cVar, cK, cBin, cUn, cNot, cAnd, cOr, cIte, cChain, aNil, aCons, cTup, cLst, cCall, cMeth, cSlice, partOf, sNx, sBrk, sCnt, sBad, sRz, cTrue, Res.bind, MV.ofL, List.map_cons, List.map_nil, List.length_cons, List.length_nil, List.cons_append, List.nil_append, List.getElem?_cons_succ, List.getElem?_cons_zero, List.set_cons_succ, List.set_cons_zero, List.replicate, Nat.reduceSub, Nat.reduceAdd, kd5, if_true, ixs, n6, a6', kd7, a7', e9]
  · rw [hrz'] at hy
    rcases List.mem_append.mp hy with e | e
    · exact h.dr y e
    · have : y = (m5.length, (z.2.1, stay s z.2.1)) := by simpa using e
      rw [this]
      exact ⟨mrm, mlt⟩
  · exact ((((kk3.trans k5).trans k6).nil.trans (k7.mono (by simp))).trans (k8.mono (by simp))).trans k9.nil
end Lw

namespace Lw
open PySem Co
theorem lstep_kinds {s : Se} {i : Nat} {q : Lq} (hk : ∀ x ∈ q.line, x.1 = 1 ∨ x.1 = 2) : ∀ x ∈ (lstep s i q).line, x.1 = 1 ∨ x.1 = 2 := by
  intro x hx
  simp only [lstep] at hx
  rcases List.mem_append.mp hx with h | h
  · exact hk x (List.mem_of_mem_take h)
  · exact hk x (List.mem_of_mem_drop h)
theorem ltick_loop (s : Se) (r : Ru) (x2 x3 x5 x10 : Option MV) (rm lt : Nat) : ∀ (n fuel : Nat) {q : Lq} {fo : List Int} {lz rz : Zs} {ln : Nat} {m : MH} (x12 : Option MV), LT q fo lz rz ln rm lt m → q.line.length ≤ n → n < fuel → (∀ x ∈ q.line, x.1 = 1 ∨ x.1 = 2) → lz.length + rz.length ≤ 500 → lz.length + fo.length ≤ 500 →
    ∃ lz' rz' ln' x4' x12' m', whileN lc_law_tick_1 lb_law_tick_1 fuel [some (encS s), some (encR r), x2, x3, some (optV (lnamedP r q.line q.room q.last q.passed)), x5, some (.ref rm), some (.ref ln), some (.int q.last), some (.int q.passed), x10, some (.ref lt), x12, none, none, none] m =
      .ok (.nx [some (encS s), some (encR r), x2, x3, x4', x5, some (.ref rm), some (.ref ln'), some (.int (lenter s r n q fo).1.last), some (.int (lenter s r n q fo).1.passed), x10, some (.ref lt), x12', none, none, none]) m' ∧
      LT (lenter s r n q fo).1 (lenter s r n q fo).2 lz' rz' ln' rm lt m' ∧ Ke [rm, lt] m m' ∧ lz'.length + rz'.length = lz.length + rz.length
  | n, 0, q, fo, lz, rz, ln, m, x12, h, hn, hf, hk, b1, b2 => by omega
  | n, fuel + 1, q, fo, lz, rz, ln, m, x12, h, hn, hf, hk, b1, b2 => by
    have hll : lz.length = q.line.length := by rw [← h.ql]; simp [prs]
    cases hnm : lnamedP r q.line q.room q.last q.passed with
    | none =>
      have he : lenter s r n q fo = (q, fo) := by
        cases n with
        | zero => rfl
        | succ n => simp only [lenter, hnm]
      rw [he]
      refine ⟨lz, rz, ln, some .non, x12, m, ?_, h, Ke.refl.nil, rfl⟩
      rw [whileN]
      simp only [lc_law_tick_1, runB, slots, sSeq, sRet, sIf, sExpr, sAsg, gNm, Co.gCons, Co.gNil, gUnp, Co.gSub, sPar2, sPar3, cVar, cK, cBin, cUn, cNot, cAnd, cOr, cIte, cChain, aNil, aCons, cTup, cLst, cCall, cMeth, cSlice, partOf, sNx, sBrk, sCnt, sBad, sRz, cTrue, Res.bind, MV.ofL, List.map_cons, List.map_nil, List.length_cons, List.length_nil, List.cons_append, List.nil_append, List.getElem?_cons_succ, List.getElem?_cons_zero, List.set_cons_succ, List.set_cons_zero, List.replicate, Nat.reduceSub, Nat.reduceAdd, optV, oIsNot, decide_true, Bool.not_true]
    | some i =>
      have hi := lnamedP_lt hnm
      cases n with
      | zero => omega
      | succ n =>
        obtain ⟨lz1, rz1, ln1, x121, m1, e1, h1, k1, a1, a2⟩ := ltick_turn s r h i hi hk (by omega) (by omega) (by omega) x2 x3 x5 x10 x12
        have hl1 : lz1.length = (lstep s i q).line.length := by rw [← h1.ql]; simp [prs]
        obtain ⟨lz2, rz2, ln2, x4', x12', m2, e2, h2, k2, a3⟩ := ltick_loop s r x2 x3 x5 x10 rm lt n fuel x121 h1 (by omega) (by omega) (lstep_kinds hk) (by omega) (by simp; omega)
        have he : lenter s r (n + 1) q fo = lenter s r n (lstep s i q) (fo ++ [(q.line[i]?.map (·.1)).getD 0]) := by simp only [lenter, hnm]
        rw [he]
        refine ⟨lz2, rz2, ln2, x4', x12', m2, ?_, h2, k1.trans k2, by omega⟩
        rw [whileN]
        have hc : lc_law_tick_1 [some (encS s), some (encR r), x2, x3, some (optV (some i)), x5, some (.ref rm), some (.ref ln), some (.int q.last), some (.int q.passed), x10, some (.ref lt), x12, none, none, none] m = .ok (.bl true) m := by
          simp only [lc_law_tick_1, runB, slots, sSeq, sRet, sIf, sExpr, sAsg, gNm, Co.gCons, Co.gNil, gUnp, Co.gSub, sPar2, sPar3, cVar, cK, cBin, cUn, cNot, cAnd, cOr, cIte, cChain, aNil, aCons, cTup, cLst, cCall, cMeth, cSlice, partOf, sNx, sBrk, sCnt, sBad, sRz, cTrue, Res.bind, MV.ofL, List.map_cons, List.map_nil, List.length_cons, List.length_nil, List.cons_append, List.nil_append, List.getElem?_cons_succ, List.getElem?_cons_zero, List.set_cons_succ, List.set_cons_zero, List.replicate, Nat.reduceSub, Nat.reduceAdd, optV, oIsNot]
          rfl
        rw [hc]
        simp only [Res.bind]
        have e1' : lb_law_tick_1 [some (encS s), some (encR r), x2, x3, some (optV (some i)), x5, some (.ref rm), some (.ref ln), some (.int q.last), some (.int q.passed), x10, some (.ref lt), x12, none, none, none] m = _ := e1
        rw [e1']
        simp only [Res.bind]
        exact e2
end Lw

namespace Lw
open PySem Co
theorem Ke.drop {S : List Nat} {m m1 m2 : MH} (a : Ke [] m m1) (b : Ke S m1 m2) (h : ∀ i ∈ S, m.length ≤ i) : Ke [] m m2 :=
  ⟨Nat.le_trans a.1 b.1, fun i hi _ => (b.2 i (Nat.lt_of_lt_of_le hi a.1) fun z => by have := h i z; omega).trans (a.2 i hi (by simp))⟩
def lLost (s : Se) (q : Lq) (c : Int) : Bool := decide (0 < c) && decide ((q.line.length : Int) = s.1)
def ljoin (s : Se) (q : Lq) (c : Int) : Lq := if 0 < c ∧ lLost s q c = false then { q with line := q.line ++ [(c, 0)], passed := if c = 2 ∧ 2 ∉ q.line.map (·.1) then 0 else q.passed } else q
def lenterP (s : Se) (r : Ru) (q : Lq) : Lq × List Int := lenter s r q.line.length q []
def lout (q : Lq) : Lq := { q with line := q.line.map fun x => (x.1, x.2 + 1), room := (q.room.filter fun x => decide (1 < x.2)).map fun x => (x.1, x.2 - 1) }
def ltickP (s : Se) (r : Ru) (q : Lq) (c : Int) : Lq := lout (lenterP s r (ljoin s q c)).1
def ltickN (s : Se) (r : Ru) (q : Lq) (c : Int) : Nt := (((lenterP s r (ljoin s q c)).2.count 1 : Nat), ((lenterP s r (ljoin s q c)).2.count 2 : Nat), lLost s q c)
def ltickT (s : Se) (r : Ru) (q : Lq) (c : Int) : Int × Int :=
  (((lenterP s r (ljoin s q c)).1.room.filter fun x => decide (x.1 = 1)).length, ((lenterP s r (ljoin s q c)).1.room.filter fun x => decide (x.1 = 2)).length)
def encL (a b : Nat) (q : Lq) : MV := .cons (.ref a) (.cons (.ref b) (.cons (.int q.last) (.cons (.int q.passed) .nil)))
/-- a state of the law's play on the heap, away from some places -/
structure LS (S : List Nat) (q : Lq) (a b : Nat) (m : MH) : Prop where
  l : ∃ lz, LL lz a m ∧ prs lz = q.line ∧ a ∉ S ∧ ∀ z ∈ lz, z.1 ∉ S
  r : ∃ rz, LL rz b m ∧ prs rz = q.room ∧ b ∉ S ∧ ∀ z ∈ rz, z.1 ∉ S
theorem LS.ke {S : List Nat} {q : Lq} {a b : Nat} {m m' : MH} (h : LS S q a b m) (k : Ke S m m') : LS S q a b m' :=
  ⟨let ⟨z, x, y, u, v⟩ := h.l; ⟨z, x.ke k u v, y, u, v⟩, let ⟨z, x, y, u, v⟩ := h.r; ⟨z, x.ke k u v, y, u, v⟩⟩
theorem LS.keep {S : List Nat} {q : Lq} {a b : Nat} {m m' : MH} (h : LS S q a b m) (k : Ke [] m m') : LS S q a b m' := h.ke k.nil
theorem LS.mono {S T : List Nat} {q : Lq} {a b : Nat} {m : MH} (h : LS S q a b m) (k : ∀ i ∈ T, i ∈ S) : LS T q a b m :=
  ⟨let ⟨z, x, y, u, v⟩ := h.l; ⟨z, x, y, fun e => u (k _ e), fun w hw e => v w hw (k _ e)⟩, let ⟨z, x, y, u, v⟩ := h.r; ⟨z, x, y, fun e => u (k _ e), fun w hw e => v w hw (k _ e)⟩⟩
/-- [list(one) for one in state[i]] -/
theorem copy_ok {zs : Zs} {n : Nat} {m : MH} (h : LL zs n m) (hl : zs.length ≤ 1000) (it : CE) (x0 x1 x2 x3 x4 x5 x6 x7 x8 x9 x10 x11 x12 : Option MV)
    (hit : it [x0, x1, x2, x3, x4, x5, x6, x7, x8, x9, x10, x11, x12, none, none, none] m = .ok (.ref n) m) :
    ∃ (ws : Zs) (k : Nat) (m' : MH), cComp (iSeq it) [13] (gNm 13) cTrue (cCall bList (aCons (cVar 13) aNil)) [x0, x1, x2, x3, x4, x5, x6, x7, x8, x9, x10, x11, x12, none, none, none] m = .ok (.ref k) m' ∧ Ke [] m m' ∧ m.length ≤ k ∧ LL ws k m' ∧ prs ws = prs zs ∧ (∀ w ∈ ws, m.length ≤ w.1) ∧ (∀ w ∈ ws, w.1 < k) := by
  obtain ⟨ws, k, m', e, ke, l, g, p, w, f1, f2⟩ := comp_copyC (en := enPr) (it := it) (e := cCall bList (aCons (cVar 13) aNil)) (c := cTrue) (vs := [13]) (g := gNm 13) (r := [x0, x1, x2, x3, x4, x5, x6, x7, x8, x9, x10, x11, x12, none, none, none]) (m := m) (m1 := m) (n := n) (zs := zs)
    (G := fun z => [x0, x1, x2, x3, x4, x5, x6, x7, x8, x9, x10, x11, x12, some (.ref z.1), none, none]) (fun x => x) (fun _ => true) hit h hl (fun z _ m _ => rfl) (fun z _ m _ => rfl) (fun z hz m hp _ => by
      refine ⟨m.length, m ++ [.lst (enPr z.2)], ?_, Ke.app _ _, Nat.le_refl _, by simp⟩
      have h1 : seqAt (.ref z.1) m = some (enPr z.2) := lstAt_some (hp z hz)
      simp only [runB, slots, sSeq, sRet, sIf, sExpr, sAsg, gNm, Co.gCons, Co.gNil, gUnp, Co.gSub, sPar2, sPar3, cVar, cK, cBin, cUn, cNot, cAnd, cOr, cIte, cChain, aNil, aCons, cTup, cLst, cCall, cMeth, cSlice, partOf, sNx, sBrk, sCnt, sBad, sRz, cTrue, Res.bind, MV.ofL, List.map_cons, List.map_nil, List.length_cons, List.length_nil, List.cons_append, List.nil_append, List.getElem?_cons_succ, List.getElem?_cons_zero, List.set_cons_succ, List.set_cons_zero, List.replicate, Nat.reduceSub, Nat.reduceAdd, bList, h1]
      exact newL_ok' _ _ (by simp [enPr]))
  refine ⟨ws, k, m', e, ke, l, ⟨g, PwG.pr.mp p⟩, ?_, f1, f2⟩
  rw [prs, w, filter_true]
  simp
/-- those in the room, by kind -/
theorem there_ok {zs : Zs} {n : Nat} {m : MH} (h : LL zs n m) (hl : zs.length ≤ 1000) (k : Int) (x0 x1 x2 x3 x4 x5 x7 x8 x9 x10 x11 x12 : Option MV) :
    cComp (iSeq (cVar 6)) [13] (gNm 13) (cBin oEq (cBin oIx (cVar 13) (cK (.int 0))) (cK (.int k))) (cVar 13) [x0, x1, x2, x3, x4, x5, some (.ref n), x7, x8, x9, x10, x11, x12, none, none, none] m = .ok (.ref m.length) (m ++ [.lst (refs (zs.filter fun z => decide (z.2.1 = k)))]) := by
  have := comp_src (it := iSeq (cVar 6)) (c := cBin oEq (cBin oIx (cVar 13) (cK (.int 0))) (cK (.int k))) (e := cVar 13) (vs := [13]) (g := gNm 13)
    (r := [x0, x1, x2, x3, x4, x5, some (.ref n), x7, x8, x9, x10, x11, x12, none, none, none]) (m := m) (m1 := m) (s := .lst n) (ys := zs) (en := fun z => MV.ref z.1)
    (iSeq_ref _ _ _ _ _ _ rfl h.at_) (lst_at h.at_) (by omega) (fun z => decide (z.2.1 = k)) (fun z => .ref z.1)
    (fun v => [x0, x1, x2, x3, x4, x5, some (.ref n), x7, x8, x9, x10, x11, x12, some v, none, none]) (fun p _ => rfl) (fun z hz => by
      have := ix_pr0 (h.pw z hz)
      simp only [runB, slots, sSeq, sRet, sIf, sExpr, sAsg, gNm, Co.gCons, Co.gNil, gUnp, Co.gSub, sPar2, sPar3, cVar, cK, cBin, cUn, cNot, cAnd, cOr, cIte, cChain, aNil, aCons, cTup, cLst, cCall, cMeth, cSlice, partOf, sNx, sBrk, sCnt, sBad, sRz, cTrue, Res.bind, MV.ofL, List.map_cons, List.map_nil, List.length_cons, List.length_nil, List.cons_append, List.nil_append, List.getElem?_cons_succ, List.getElem?_cons_zero, List.set_cons_succ, List.set_cons_zero, List.replicate, Nat.reduceSub, Nat.reduceAdd, this, oEq_i]) (fun z hz _ => rfl)
  rw [this]
  rfl
theorem len_filter (zs : Zs) (k : Int) : (zs.filter fun z => decide (z.2.1 = k)).length = ((prs zs).filter fun x => decide (x.1 = k)).length := by
  rw [prs, List.filter_map, List.length_map]
  rfl
theorem room_ok {zs : Zs} {n : Nat} {m : MH} (h : LL zs n m) (hl : zs.length ≤ 1000) (x0 x1 x2 x3 x4 x5 x7 x8 x9 x10 x11 x12 : Option MV) :
    ∃ (ws : Zs) (k : Nat) (m' : MH), cp_law_tick_7 [x0, x1, x2, x3, x4, x5, some (.ref n), x7, x8, x9, x10, x11, x12, none, none, none] m = .ok (.ref k) m' ∧ Ke [] m m' ∧ m.length ≤ k ∧ LL ws k m' ∧ prs ws = ((prs zs).filter fun x => decide (1 < x.2)).map (fun x => (x.1, x.2 - 1)) ∧ (∀ w ∈ ws, m.length ≤ w.1) := by
  obtain ⟨ws, k, m', e, ke, l, g, p, w, f1, f2⟩ := comp_copyC (en := enPr) (it := cVar 6) (e := cLst (aCons (cVar 12) (aCons (cBin oSub (cVar 14) (cK (.int 1))) aNil))) (c := cBin oGt (cVar 14) (cK (.int 1))) (vs := [12, 14]) (g := gUnp 2 (Co.gCons (gNm 12) (Co.gCons (gNm 14) Co.gNil))) (r := [x0, x1, x2, x3, x4, x5, some (.ref n), x7, x8, x9, x10, x11, x12, none, none, none]) (m := m) (m1 := m) (n := n) (zs := zs)
    (G := fun z => [x0, x1, x2, x3, x4, x5, some (.ref n), x7, x8, x9, x10, x11, some (.int z.2.1), none, some (.int z.2.2), none]) (fun x => (x.1, x.2 - 1)) (fun x => decide (1 < x.2)) rfl h hl (fun z hz m hp => by
      have h1 := lstAt_some (hp z hz)
      simp only [wipeM, gUnp, h1, runB, slots, sSeq, sRet, sIf, sExpr, sAsg, gNm, Co.gCons, Co.gNil, gUnp, Co.gSub, sPar2, sPar3, cVar, cK, cBin, cUn, cNot, cAnd, cOr, cIte, cChain, aNil, aCons, cTup, cLst, cCall, cMeth, cSlice, partOf, sNx, sBrk, sCnt, sBad, sRz, cTrue, Res.bind, MV.ofL, List.map_cons, List.map_nil, List.length_cons, List.length_nil, List.cons_append, List.nil_append, List.getElem?_cons_succ, List.getElem?_cons_zero, List.set_cons_succ, List.set_cons_zero, List.replicate, Nat.reduceSub, Nat.reduceAdd, if_true]) (fun z _ m _ => by simp only [runB, slots, sSeq, sRet, sIf, sExpr, sAsg, gNm, Co.gCons, Co.gNil, gUnp, Co.gSub, sPar2, sPar3, cVar, cK, cBin, cUn, cNot, cAnd, cOr, cIte, cChain, aNil, aCons, cTup, cLst, cCall, cMeth, cSlice, partOf, sNx, sBrk, sCnt, sBad, sRz, cTrue, Res.bind, MV.ofL, List.map_cons, List.map_nil, List.length_cons, List.length_nil, List.cons_append, List.nil_append, List.getElem?_cons_succ, List.getElem?_cons_zero, List.set_cons_succ, List.set_cons_zero, List.replicate, Nat.reduceSub, Nat.reduceAdd, oGt_i]) (fun z hz m hp _ => by
      obtain ⟨m2, n2, k2, g2, z2⟩ := newL_ex (en := MV.int) [z.2.1, z.2.2 - 1] m (by simp)
      simp only [List.map_cons, List.map_nil] at n2 g2
      refine ⟨m.length, m2, ?_, k2, Nat.le_refl _, g2⟩
      simp only [runB, slots, sSeq, sRet, sIf, sExpr, sAsg, gNm, Co.gCons, Co.gNil, gUnp, Co.gSub, sPar2, sPar3, cVar, cK, cBin, cUn, cNot, cAnd, cOr, cIte, cChain, aNil, aCons, cTup, cLst, cCall, cMeth, cSlice, partOf, sNx, sBrk, sCnt, sBad, sRz, cTrue, Res.bind, MV.ofL, List.map_cons, List.map_nil, List.length_cons, List.length_nil, List.cons_append, List.nil_append, List.getElem?_cons_succ, List.getElem?_cons_zero, List.set_cons_succ, List.set_cons_zero, List.replicate, Nat.reduceSub, Nat.reduceAdd, oSub_i, n2])
  exact ⟨ws, k, m', e, ke, l, ⟨g, PwG.pr.mp p⟩, by rw [prs, w], f1⟩
theorem line_ok {zs : Zs} {n : Nat} {m : MH} (h : LL zs n m) (hl : zs.length ≤ 1000) (x0 x1 x2 x3 x4 x5 x6 x8 x9 x10 x11 x12 : Option MV) :
    ∃ (ws : Zs) (k : Nat) (m' : MH), cp_law_tick_8 [x0, x1, x2, x3, x4, x5, x6, some (.ref n), x8, x9, x10, x11, x12, none, none, none] m = .ok (.ref k) m' ∧ Ke [] m m' ∧ m.length ≤ k ∧ LL ws k m' ∧ prs ws = (prs zs).map (fun x => (x.1, x.2 + 1)) ∧ (∀ w ∈ ws, m.length ≤ w.1) := by
  obtain ⟨ws, k, m', e, ke, l, g, p, w, f1, f2⟩ := comp_copyC (en := enPr) (it := cVar 7) (e := cLst (aCons (cVar 12) (aCons (cBin oAdd (cVar 15) (cK (.int 1))) aNil))) (c := cTrue) (vs := [12, 15]) (g := gUnp 2 (Co.gCons (gNm 12) (Co.gCons (gNm 15) Co.gNil))) (r := [x0, x1, x2, x3, x4, x5, x6, some (.ref n), x8, x9, x10, x11, x12, none, none, none]) (m := m) (m1 := m) (n := n) (zs := zs)
    (G := fun z => [x0, x1, x2, x3, x4, x5, x6, some (.ref n), x8, x9, x10, x11, some (.int z.2.1), none, none, some (.int z.2.2)]) (fun x => (x.1, x.2 + 1)) (fun _ => true) rfl h hl (fun z hz m hp => by
      have h1 := lstAt_some (hp z hz)
      simp only [wipeM, gUnp, h1, runB, slots, sSeq, sRet, sIf, sExpr, sAsg, gNm, Co.gCons, Co.gNil, gUnp, Co.gSub, sPar2, sPar3, cVar, cK, cBin, cUn, cNot, cAnd, cOr, cIte, cChain, aNil, aCons, cTup, cLst, cCall, cMeth, cSlice, partOf, sNx, sBrk, sCnt, sBad, sRz, cTrue, Res.bind, MV.ofL, List.map_cons, List.map_nil, List.length_cons, List.length_nil, List.cons_append, List.nil_append, List.getElem?_cons_succ, List.getElem?_cons_zero, List.set_cons_succ, List.set_cons_zero, List.replicate, Nat.reduceSub, Nat.reduceAdd, if_true]) (fun z _ m _ => rfl) (fun z hz m hp _ => by
      obtain ⟨m2, n2, k2, g2, z2⟩ := newL_ex (en := MV.int) [z.2.1, z.2.2 + 1] m (by simp)
      simp only [List.map_cons, List.map_nil] at n2 g2
      refine ⟨m.length, m2, ?_, k2, Nat.le_refl _, g2⟩
      simp only [runB, slots, sSeq, sRet, sIf, sExpr, sAsg, gNm, Co.gCons, Co.gNil, gUnp, Co.gSub, sPar2, sPar3, cVar, cK, cBin, cUn, cNot, cAnd, cOr, cIte, cChain, aNil, aCons, cTup, cLst, cCall, cMeth, cSlice, partOf, sNx, sBrk, sCnt, sBad, sRz, cTrue, Res.bind, MV.ofL, List.map_cons, List.map_nil, List.length_cons, List.length_nil, List.cons_append, List.nil_append, List.getElem?_cons_succ, List.getElem?_cons_zero, List.set_cons_succ, List.set_cons_zero, List.replicate, Nat.reduceSub, Nat.reduceAdd, oAdd_i, n2])
  exact ⟨ws, k, m', e, ke, l, ⟨g, PwG.pr.mp p⟩, by rw [prs, w, filter_true], f1⟩
theorem oNotIn_of {a b : MV} {m : MH} {x : Bool} (h : oIn a b m = .ok (.bl x) m) : oNotIn a b m = .ok (.bl (!x)) m := by
  unfold oIn at h
  unfold oNotIn
  cases he : inM m a b with
  | none => rw [he] at h; simp at h
  | some b =>
    rw [he] at h
    simp only [Res.ok.injEq, MV.bl.injEq, and_true] at h
    simp only [h]
end Lw

namespace Lw
open PySem Co
def sJoin : CS := sIf (cBin oGt (cVar 3) (cK (.int 0))) (sSeq (sAsg (cBin oEq (cCall bLen (aCons (cVar 7) aNil)) (cBin oIx (cVar 0) (cK (.int 0)))) (gNm 10)) (sIf (cNot (cVar 10)) (sSeq (sAsg (cIte (cAnd (cBin oEq (cVar 3) (cK (.int 2))) (cBin oNotIn (cLst (aCons (cK (.int 2)) aNil)) cp_law_tick_3)) (cK (.int 0)) (cVar 9)) (gNm 9)) (sExpr (cMeth "list" mAppend (cVar 7) (aCons (cLst (aCons (cVar 3) (aCons (cK (.int 0)) aNil))) aNil)))) sNx)) sNx
theorem ljoin_ok (s : Se) (c : Int) {q : Lq} {lz rz : Zs} {ln rm lt : Nat} {m : MH} (h : LT q [] lz rz ln rm lt m) (hd : ∀ z ∈ lz, z.1 ≠ ln) (hr : ∀ z ∈ rz, z.1 ≠ ln) (b1 : lz.length ≤ 400) (x1 x2 : Option MV) :
    ∃ lz' m', sJoin [some (encS s), x1, x2, some (.int c), none, none, some (.ref rm), some (.ref ln), some (.int q.last), some (.int q.passed), some (.bl false), some (.ref lt), none, none, none, none] m =
      .ok (.nx [some (encS s), x1, x2, some (.int c), none, none, some (.ref rm), some (.ref ln), some (.int (ljoin s q c).last), some (.int (ljoin s q c).passed), some (.bl (lLost s q c)), some (.ref lt), none, none, none, none]) m' ∧
      LT (ljoin s q c) [] lz' rz ln rm lt m' ∧ Ke [ln] m m' ∧ lz'.length ≤ lz.length + 1 := by
  have hll : lz.length = q.line.length := by rw [← h.ql]; simp [prs]
  by_cases hc : 0 < c
  · have gt : oGt (.int c) (.int 0) m = .ok (.bl true) m := by rw [oGt_i, decide_eq_true hc]
    have ln1 := bLen_ref m ln (refs lz) h.hl.at_
    have hrl : ((refs lz).length : Int) = q.line.length := by simp [refs, hll]
    rw [hrl] at ln1
    have ix := ixS0 s m
    by_cases hlo : (q.line.length : Int) = s.1
    · have e : oEq (.int (q.line.length : Int)) (.int s.1) m = .ok (.bl true) m := by rw [oEq_i, decide_eq_true hlo]
      have hL : lLost s q c = true := by simp [lLost, hc, hlo]
      have hJ : ljoin s q c = q := by simp [ljoin, hL]
      rw [hJ, hL]
      refine ⟨lz, m, ?_, h, Ke.refl, by omega⟩
      simp only [sJoin, runB, slots, sSeq, sRet, sIf, sExpr, sAsg, gNm, Co.gCons, Co.gNil, gUnp, Co.gSub, sPar2, sPar3, cVar, cK, cBin, cUn, cNot, cAnd, cOr, cIte, cChain, aNil, aCons, cTup, cLst, cCall, cMeth, cSlice, partOf, sNx, sBrk, sCnt, sBad, sRz, cTrue, Res.bind, MV.ofL, List.map_cons, List.map_nil, List.length_cons, List.length_nil, List.cons_append, List.nil_append, List.getElem?_cons_succ, List.getElem?_cons_zero, List.set_cons_succ, List.set_cons_zero, List.replicate, Nat.reduceSub, Nat.reduceAdd, gt, ln1, ix, e, Bool.not_true]
    · have e : oEq (.int (q.line.length : Int)) (.int s.1) m = .ok (.bl false) m := by rw [oEq_i, decide_eq_false hlo]
      have hL : lLost s q c = false := by simp [lLost, hlo]
      obtain ⟨P, hP⟩ : ∃ P, P = if c = 2 ∧ 2 ∉ q.line.map (·.1) then 0 else q.passed := ⟨_, rfl⟩
      have hJ : ljoin s q c = { q with line := q.line ++ [(c, 0)], passed := P } := by
        rw [ljoin, if_pos ⟨hc, hL⟩, hP]
      rw [hJ, hL]
      simp only []
      obtain ⟨m5, e5, k5⟩ : ∃ m5, (cIte (cAnd (cBin oEq (cVar 3) (cK (.int 2))) (cBin oNotIn (cLst (aCons (cK (.int 2)) aNil)) cp_law_tick_3)) (cK (.int 0)) (cVar 9)) [some (encS s), x1, x2, some (.int c), none, none, some (.ref rm), some (.ref ln), some (.int q.last), some (.int q.passed), some (.bl false), some (.ref lt), none, none, none, none] m = .ok (.int P) m5 ∧ Ke [] m m5 := by
        by_cases e2 : c = 2
        · obtain ⟨m4, n4, k4, g4, z4⟩ := newL_ex (en := MV.int) [2] m (by simp)
          simp only [List.map_cons, List.map_nil] at n4 g4
          obtain ⟨ws, k, m5, ec, kc, gc, pc, wc⟩ := heads_comp (h.hl.keep k4) (by omega) (some (encS s)) x1 x2 (some (.int c)) none none (some (.ref rm)) (some (.int q.last)) (some (.int q.passed)) (some (.bl false)) (some (.ref lt)) none
          have hin := oNotIn_of (oIn_heads (kc.get g4) gc pc)
          rw [wc, h.ql] at hin
          refine ⟨m5, ?_, k4.trans kc⟩
          have ec' : cp_law_tick_3 [some (encS s), x1, x2, some (.int c), none, none, some (.ref rm), some (.ref ln), some (.int q.last), some (.int q.passed), some (.bl false), some (.ref lt), none, none, none, none] m4 = .ok (.ref k) m5 := ec
          have eqk : oEq (.int c) (.int 2) m = .ok (.bl true) m := by rw [oEq_i, decide_eq_true e2]
          by_cases h2 : 2 ∈ q.line.map (·.1)
          · rw [if_neg (fun z => z.2 h2)] at hP
            rw [decide_eq_true h2] at hin
            simp only [cIte, cAnd, cBin, cVar, cK, cLst, aCons, aNil, List.getElem?_cons_succ, List.getElem?_cons_zero, Res.bind, eqk, n4, ec', hin, hP, Bool.not_true]
          · rw [if_pos ⟨e2, h2⟩] at hP
            rw [decide_eq_false h2] at hin
            simp only [cIte, cAnd, cBin, cVar, cK, cLst, aCons, aNil, List.getElem?_cons_succ, List.getElem?_cons_zero, Res.bind, eqk, n4, ec', hin, hP, Bool.not_false]
        · refine ⟨m, ?_, Ke.refl⟩
          rw [if_neg (fun z => e2 z.1)] at hP
          have eqk : oEq (.int c) (.int 2) m = .ok (.bl false) m := by rw [oEq_i, decide_eq_false e2]
          simp only [cIte, cAnd, cBin, cVar, cK, List.getElem?_cons_succ, List.getElem?_cons_zero, Res.bind, eqk, hP]
      have h5 := h.keep k5
      obtain ⟨m6, n6, k6, g6, z6⟩ := newL_ex (en := MV.int) [c, 0] m5 (by simp)
      simp only [List.map_cons, List.map_nil] at n6 g6
      have h6 := h5.keep k6
      have kd5 := kindM_lst m5 ln _ h5.hl.at_
      have a6 := mAppend_ok m6 ln _ (.ref m5.length) h6.hl.at_ (by simp [refs]; omega)
      obtain ⟨lz', hlz'⟩ : ∃ lz', lz' = lz ++ [(m5.length, (c, (0 : Int)))] := ⟨_, rfl⟩
      obtain ⟨m7, hm7⟩ : ∃ m7, m7 = m6.set ln (.lst (refs lz')) := ⟨_, rfl⟩
      have a6' : mAppend (.ref ln) [.ref m5.length] m6 = .ok .non m7 := by
        rw [a6, hm7, hlz']; simp [refs]
      have k7 : Ke [ln] m6 m7 := by rw [hm7]; exact Ke.set (by simp)
      obtain ⟨hlt, _⟩ := List.getElem?_eq_some_iff.mp h6.hl.at_
      have g7 : m7[ln]? = some (.lst (refs lz')) := by rw [hm7]; exact List.getElem?_set_self hlt
      have nln : m5.length ≠ ln := by
        obtain ⟨x, _⟩ := List.getElem?_eq_some_iff.mp h5.hl.at_
        omega
      have nrm : m5.length ≠ rm := by
        obtain ⟨x, _⟩ := List.getElem?_eq_some_iff.mp h5.hr.at_
        omega
      have nlt : m5.length ≠ lt := by
        obtain ⟨x, _⟩ := List.getElem?_eq_some_iff.mp h5.ht
        omega
      have up : ∀ {k : Nat} {o : MO}, m6[k]? = some o → k ≠ ln → m7[k]? = some o := fun {k o} hx n1 => k7.get hx (by simpa using n1)
      refine ⟨lz', m7, ?_, ⟨⟨g7, fun y hy => ?_⟩, ⟨up h6.hr.at_ h.nlr.symm, fun y hy => up (h6.hr.pw y hy) (hr y hy)⟩, ?_, h.qr, up h6.ht h.nlt.symm, h.nlr, h.nlt, h.nrt, fun y hy => ?_, h.dr⟩, ?_, by rw [hlz']; simp⟩
      · unfold sJoin
        rw [sIf, show (cBin oGt (cVar 3) (cK (.int 0))) [some (encS s), x1, x2, some (.int c), none, none, some (.ref rm), some (.ref ln), some (.int q.last), some (.int q.passed), some (.bl false), some (.ref lt), none, none, none, none] m = .ok (.bl true) m by simp only [runB, slots, sSeq, sRet, sIf, sExpr, sAsg, gNm, Co.gCons, Co.gNil, gUnp, Co.gSub, sPar2, sPar3, cVar, cK, cBin, cUn, cNot, cAnd, cOr, cIte, cChain, aNil, aCons, cTup, cLst, cCall, cMeth, cSlice, partOf, sNx, sBrk, sCnt, sBad, sRz, cTrue, Res.bind, MV.ofL, List.map_cons, List.map_nil, List.length_cons, List.length_nil, List.cons_append, List.nil_append, List.getElem?_cons_succ, List.getElem?_cons_zero, List.set_cons_succ, List.set_cons_zero, List.replicate, Nat.reduceSub, Nat.reduceAdd, gt]]
        simp only [Res.bind]
        rw [sSeq, show (sAsg (cBin oEq (cCall bLen (aCons (cVar 7) aNil)) (cBin oIx (cVar 0) (cK (.int 0)))) (gNm 10)) [some (encS s), x1, x2, some (.int c), none, none, some (.ref rm), some (.ref ln), some (.int q.last), some (.int q.passed), some (.bl false), some (.ref lt), none, none, none, none] m = .ok (.nx [some (encS s), x1, x2, some (.int c), none, none, some (.ref rm), some (.ref ln), some (.int q.last), some (.int q.passed), some (.bl false), some (.ref lt), none, none, none, none]) m by simp only [runB, slots, sSeq, sRet, sIf, sExpr, sAsg, gNm, Co.gCons, Co.gNil, gUnp, Co.gSub, sPar2, sPar3, cVar, cK, cBin, cUn, cNot, cAnd, cOr, cIte, cChain, aNil, aCons, cTup, cLst, cCall, cMeth, cSlice, partOf, sNx, sBrk, sCnt, sBad, sRz, cTrue, Res.bind, MV.ofL, List.map_cons, List.map_nil, List.length_cons, List.length_nil, List.cons_append, List.nil_append, List.getElem?_cons_succ, List.getElem?_cons_zero, List.set_cons_succ, List.set_cons_zero, List.replicate, Nat.reduceSub, Nat.reduceAdd, ln1, ix, e]]
        simp only [Res.bind]
        rw [sIf, show (cNot (cVar 10)) [some (encS s), x1, x2, some (.int c), none, none, some (.ref rm), some (.ref ln), some (.int q.last), some (.int q.passed), some (.bl false), some (.ref lt), none, none, none, none] m = .ok (.bl true) m by simp only [runB, slots, sSeq, sRet, sIf, sExpr, sAsg, gNm, Co.gCons, Co.gNil, gUnp, Co.gSub, sPar2, sPar3, cVar, cK, cBin, cUn, cNot, cAnd, cOr, cIte, cChain, aNil, aCons, cTup, cLst, cCall, cMeth, cSlice, partOf, sNx, sBrk, sCnt, sBad, sRz, cTrue, Res.bind, MV.ofL, List.map_cons, List.map_nil, List.length_cons, List.length_nil, List.cons_append, List.nil_append, List.getElem?_cons_succ, List.getElem?_cons_zero, List.set_cons_succ, List.set_cons_zero, List.replicate, Nat.reduceSub, Nat.reduceAdd, Bool.not_false]]
        simp only [Res.bind]
        rw [sSeq, sAsg, e5]
        simp only [runB, slots, sSeq, sRet, sIf, sExpr, sAsg, gNm, Co.gCons, Co.gNil, gUnp, Co.gSub, sPar2, sPar3, cVar, cK, cBin, cUn, cNot, cAnd, cOr, cIte, cChain, aNil, aCons, cTup, cLst, cCall, cMeth, cSlice, partOf, sNx, sBrk, sCnt, sBad, sRz, cTrue, Res.bind, MV.ofL, List.map_cons, List.map_nil, List.length_cons, List.length_nil, List.cons_append, List.nil_append, List.getElem?_cons_succ, List.getElem?_cons_zero, List.set_cons_succ, List.set_cons_zero, List.replicate, Nat.reduceSub, Nat.reduceAdd, kd5, if_true, n6, a6']
      · rw [hlz'] at hy
        rcases List.mem_append.mp hy with e | e
        · exact up (h6.hl.pw y e) (hd y e)
        · have : y = (m5.length, (c, (0 : Int))) := by simpa using e
          rw [this]
          exact up g6 nln
      · rw [hlz', prs, List.map_append, ← h.ql]; rfl
      · rw [hlz'] at hy
        rcases List.mem_append.mp hy with e | e
        · exact h.dl y e
        · have : y = (m5.length, (c, (0 : Int))) := by simpa using e
          rw [this]
          exact ⟨nrm, nlt⟩
      · exact (k5.trans k6).nil.trans k7
  · have gt : oGt (.int c) (.int 0) m = .ok (.bl false) m := by rw [oGt_i, decide_eq_false hc]
    have hL : lLost s q c = false := by simp [lLost, hc]
    have hJ : ljoin s q c = q := by simp [ljoin, hc]
    rw [hJ, hL]
    refine ⟨lz, m, ?_, h, Ke.refl, by omega⟩
    simp only [sJoin, runB, slots, sSeq, sRet, sIf, sExpr, sAsg, gNm, Co.gCons, Co.gNil, gUnp, Co.gSub, sPar2, sPar3, cVar, cK, cBin, cUn, cNot, cAnd, cOr, cIte, cChain, aNil, aCons, cTup, cLst, cCall, cMeth, cSlice, partOf, sNx, sBrk, sCnt, sBad, sRz, cTrue, Res.bind, MV.ofL, List.map_cons, List.map_nil, List.length_cons, List.length_nil, List.cons_append, List.nil_append, List.getElem?_cons_succ, List.getElem?_cons_zero, List.set_cons_succ, List.set_cons_zero, List.replicate, Nat.reduceSub, Nat.reduceAdd, gt]
end Lw

namespace Lw
open PySem Co
theorem prs_len (zs : Zs) : (prs zs).length = zs.length := by simp [prs]
theorem ljoin_kinds {s : Se} {q : Lq} {c : Int} (hk : ∀ x ∈ q.line, x.1 = 1 ∨ x.1 = 2) (hc : c = 0 ∨ c = 1 ∨ c = 2) : ∀ x ∈ (ljoin s q c).line, x.1 = 1 ∨ x.1 = 2 := by
  intro x hx
  unfold ljoin at hx
  split at hx
  · rename_i h0
    rcases List.mem_append.mp hx with h | h
    · exact hk x h
    · have : x = (c, 0) := by simpa using h
      rw [this]
      simp only
      omega
  · exact hk x hx
theorem law_tick_ok (s : Se) (r : Ru) {q : Lq} {a b : Nat} {m : MH} (h : LS [] q a b m) (c : Int) (hk : ∀ x ∈ q.line, x.1 = 1 ∨ x.1 = 2) (hc : c = 0 ∨ c = 1 ∨ c = 2) (bd : q.line.length + q.room.length ≤ 300) :
    ∃ a' b' m', f_law_tick [encS s, encR r, encL a b q, .int c] m = .ok (.cons (encL a' b' (ltickP s r q c)) (.cons (encN (ltickN s r q c)) (.cons (encT (ltickT s r q c)) .nil))) m' ∧ Ke [] m m' ∧ ∀ S, (∀ i ∈ S, i < m.length) → LS S (ltickP s r q c) a' b' m' := by
  obtain ⟨lz0, hl0, hq0, _, _⟩ := h.l
  obtain ⟨rz0, hr0, hp0, _, _⟩ := h.r
  have n1 : lz0.length = q.line.length := by rw [← hq0, prs_len]
  have n2 : rz0.length = q.room.length := by rw [← hp0, prs_len]
  obtain ⟨st, hst⟩ : ∃ st, st = encL a b q := ⟨_, rfl⟩
  have ix0 : ∀ m, oIx st (.int 0) m = .ok (.ref a) m := fun m => by rw [hst]; rfl
  have ix1 : ∀ m, oIx st (.int 1) m = .ok (.ref b) m := fun m => by rw [hst]; rfl
  have ix2 : ∀ m, oIx st (.int 2) m = .ok (.int q.last) m := fun m => by rw [hst]; rfl
  have ix3 : ∀ m, oIx st (.int 3) m = .ok (.int q.passed) m := fun m => by rw [hst]; rfl
  rw [← hst]
  -- the copies
  obtain ⟨lz, ln, m1, e1, k1, g1, L1, p1, f1, u1⟩ := copy_ok hl0 (by omega) (cBin oIx (cVar 2) (cK (.int 0))) (some (encS s)) (some (encR r)) (some st) (some (.int c)) none none none none none none none none none (by simp only [runB, slots, sSeq, sRet, sIf, sExpr, sAsg, gNm, Co.gCons, Co.gNil, gUnp, Co.gSub, sPar2, sPar3, cVar, cK, cBin, cUn, cNot, cAnd, cOr, cIte, cChain, aNil, aCons, cTup, cLst, cCall, cMeth, cSlice, partOf, sNx, sBrk, sCnt, sBad, sRz, cTrue, Res.bind, MV.ofL, List.map_cons, List.map_nil, List.length_cons, List.length_nil, List.cons_append, List.nil_append, List.getElem?_cons_succ, List.getElem?_cons_zero, List.set_cons_succ, List.set_cons_zero, List.replicate, Nat.reduceSub, Nat.reduceAdd, ix0])
  obtain ⟨rz, rm, m2, e2, k2, g2, L2, p2, f2, u2⟩ := copy_ok (hr0.keep k1) (by omega) (cBin oIx (cVar 2) (cK (.int 1))) (some (encS s)) (some (encR r)) (some st) (some (.int c)) none none none none none none none none none (by simp only [runB, slots, sSeq, sRet, sIf, sExpr, sAsg, gNm, Co.gCons, Co.gNil, gUnp, Co.gSub, sPar2, sPar3, cVar, cK, cBin, cUn, cNot, cAnd, cOr, cIte, cChain, aNil, aCons, cTup, cLst, cCall, cMeth, cSlice, partOf, sNx, sBrk, sCnt, sBad, sRz, cTrue, Res.bind, MV.ofL, List.map_cons, List.map_nil, List.length_cons, List.length_nil, List.cons_append, List.nil_append, List.getElem?_cons_succ, List.getElem?_cons_zero, List.set_cons_succ, List.set_cons_zero, List.replicate, Nat.reduceSub, Nat.reduceAdd, ix1])
  obtain ⟨m3, e3, k3, g3, z3⟩ := newL_ex (en := MV.int) [] m2 (by simp)
  simp only [List.map_nil] at e3 g3
  have n3 : lz.length = q.line.length := by rw [← prs_len, p1, hq0]
  have n4 : rz.length = q.room.length := by rw [← prs_len, p2, hp0]
  have l1 : ln < m1.length := (List.getElem?_eq_some_iff.mp L1.at_).1
  have l2 : rm < m2.length := (List.getElem?_eq_some_iff.mp L2.at_).1
  have hT : LT q [] lz rz ln rm m2.length m3 := ⟨(L1.keep k2).keep k3, L2.keep k3, p1.trans hq0, p2.trans hp0, by simpa using g3, by omega, by have := k2.1; omega, by omega,
    fun z hz => by have := u1 z hz; have := k2.1; constructor <;> omega, fun z hz => by have := u2 z hz; constructor <;> omega⟩
  -- who comes
  obtain ⟨lz4, m4, e4, T4, k4, b4⟩ := ljoin_ok s c hT (fun z hz => by have := u1 z hz; omega) (fun z hz => by have := f2 z hz; omega) (by omega) (some (encR r)) (some st)
  have n5 : lz4.length = (ljoin s q c).line.length := by rw [← T4.ql, prs_len]
  have hroom : (ljoin s q c).room = q.room := by unfold ljoin; split <;> rfl
  -- who is named
  obtain ⟨m5, e5, k5⟩ := named_ok r lz4 rz (ljoin s q c).last (ljoin s q c).passed ln rm m4 T4.hl T4.hr (by omega) (by omega)
  rw [lnamed_prs, T4.ql, T4.qr] at e5
  have T5 := T4.keep k5
  obtain ⟨lz6, rz6, ln6, x4, x12, m6, e6, T6, k6, b6⟩ := ltick_loop s r (some st) (some (.int c)) none (some (.bl (lLost s q c))) rm m2.length (ljoin s q c).line.length big none T5 (Nat.le_refl _) (by show _ < 1000000; omega) (ljoin_kinds hk hc) (by omega) (by simp; omega)
  have hE : lenter s r (ljoin s q c).line.length (ljoin s q c) [] = lenterP s r (ljoin s q c) := rfl
  rw [hE] at e6 T6
  obtain ⟨E, hEE⟩ : ∃ E, E = lenterP s r (ljoin s q c) := ⟨_, rfl⟩
  have hP : ltickP s r q c = lout E.1 := by rw [hEE]; rfl
  have hN : ltickN s r q c = (((E.2.count 1 : Nat) : Int), ((E.2.count 2 : Nat) : Int), lLost s q c) := by rw [hEE]; rfl
  have hTT : ltickT s r q c = (((E.1.room.filter fun x => decide (x.1 = 1)).length : Int), ((E.1.room.filter fun x => decide (x.1 = 2)).length : Int)) := by rw [hEE]; rfl
  rw [← hEE] at e6 T6
  rw [hP, hN, hTT]
  have n6 : lz6.length ≤ 400 := by omega
  have n7 : rz6.length ≤ 400 := by omega
  -- those in the room
  have e7 := there_ok T6.hr (by omega) 1 (some (encS s)) (some (encR r)) (some st) (some (.int c)) x4 none (some (.ref ln6)) (some (.int E.1.last)) (some (.int E.1.passed)) (some (.bl (lLost s q c))) (some (.ref m2.length)) x12
  obtain ⟨m7, hm7⟩ : ∃ m7, m7 = m6 ++ [MO.lst (refs (rz6.filter fun z => decide (z.2.1 = 1)))] := ⟨_, rfl⟩
  rw [← hm7] at e7
  obtain ⟨k7, g7, z7⟩ := app_ex hm7
  have T7 := T6.keep k7
  have e8 := there_ok T7.hr (by omega) 2 (some (encS s)) (some (encR r)) (some st) (some (.int c)) x4 none (some (.ref ln6)) (some (.int E.1.last)) (some (.int E.1.passed)) (some (.bl (lLost s q c))) (some (.ref m2.length)) x12
  obtain ⟨m8, hm8⟩ : ∃ m8, m8 = m7 ++ [MO.lst (refs (rz6.filter fun z => decide (z.2.1 = 2)))] := ⟨_, rfl⟩
  rw [← hm8] at e8
  obtain ⟨k8, g8, z8⟩ := app_ex hm8
  have T8 := T7.keep k8
  have b7 := bLen_ref m7 m6.length _ g7
  have b8 := bLen_ref m8 m7.length _ g8
  rw [refs, List.length_map, len_filter, T6.qr] at b7 b8
  -- the room and the line
  obtain ⟨rz9, rm9, m9, e9, k9, g9, L9, p9, f9⟩ := room_ok T8.hr (by omega) (some (encS s)) (some (encR r)) (some st) (some (.int c)) x4 (some (encT (((E.1.room.filter fun x => decide (x.1 = 1)).length : Int), ((E.1.room.filter fun x => decide (x.1 = 2)).length : Int)))) (some (.ref ln6)) (some (.int E.1.last)) (some (.int E.1.passed)) (some (.bl (lLost s q c))) (some (.ref m2.length)) x12
  have T9 := T8.keep k9
  obtain ⟨lz10, ln10, m10, e10, k10, g10, L10, p10, f10⟩ := line_ok T9.hl (by omega) (some (encS s)) (some (encR r)) (some st) (some (.int c)) x4 (some (encT (((E.1.room.filter fun x => decide (x.1 = 1)).length : Int), ((E.1.room.filter fun x => decide (x.1 = 2)).length : Int)))) (some (.ref rm9)) (some (.int E.1.last)) (some (.int E.1.passed)) (some (.bl (lLost s q c))) (some (.ref m2.length)) x12
  have T10 := T9.keep k10
  have c1 := mCntL_ok m10 m2.length E.2 1 T10.ht
  have c2 := mCntL_ok m10 m2.length E.2 2 T10.ht
  have kd := kindM_lst m10 m2.length _ T10.ht
  have kk : Ke [] m m3 := (k1.trans k2).trans k3
  have k43 : Ke [ln, rm, m2.length] m3 m4 := k4.mono (by simp)
  have k63 : Ke [ln, rm, m2.length] m5 m6 := k6.mono (by intro i hi; simp at hi ⊢; omega)
  have kt8 : Ke [ln, rm, m2.length] m3 m8 := ((((k43.trans k5.nil).trans k63).trans k7.nil).trans k8.nil)
  have hm8 : m.length ≤ m8.length := Nat.le_trans kk.1 kt8.1
  have hm9 := k9.1
  refine ⟨ln10, rm9, m10, ?_, ?_, fun S hS => ⟨⟨lz10, L10, ?_, fun e => ?_, fun w hw e => ?_⟩, ⟨rz9, L9.keep k10, ?_, fun e => ?_, fun w hw e => ?_⟩⟩⟩
  · show runB 16 b_law_tick _ m = _
    unfold runB b_law_tick
    simp only [slots, List.map_cons, List.map_nil, List.length_cons, List.length_nil, List.cons_append, List.nil_append, List.replicate, Nat.reduceSub, Nat.reduceAdd]
    rw [sSeq, show (sPar2 7 6 (aCons cp_law_tick_2 (aCons cp_law_tick_1 aNil))) [some (encS s), some (encR r), some st, some (.int c), none, none, none, none, none, none, none, none, none, none, none, none] m = .ok (.nx [some (encS s), some (encR r), some st, some (.int c), none, none, some (.ref rm), some (.ref ln), none, none, none, none, none, none, none, none]) m2 by
      have e1' : cp_law_tick_2 [some (encS s), some (encR r), some st, some (.int c), none, none, none, none, none, none, none, none, none, none, none, none] m = _ := e1
      have e2' : cp_law_tick_1 [some (encS s), some (encR r), some st, some (.int c), none, none, none, none, none, none, none, none, none, none, none, none] m1 = _ := e2
      simp only [sPar2, aCons, aNil, e1', e2', Res.bind, List.set_cons_succ, List.set_cons_zero]]
    simp only [Res.bind]
    rw [sSeq, show (sAsg (cTup (aCons (cBin oIx (cVar 2) (cK (.int 2))) (aCons (cBin oIx (cVar 2) (cK (.int 3))) (aCons (cK (.bl false)) (aCons (cLst aNil) aNil))))) (gUnp 4 (Co.gCons (gNm 8) (Co.gCons (gNm 9) (Co.gCons (gNm 10) (Co.gCons (gNm 11) Co.gNil)))))) [some (encS s), some (encR r), some st, some (.int c), none, none, some (.ref rm), some (.ref ln), none, none, none, none, none, none, none, none] m2 = .ok (.nx [some (encS s), some (encR r), some st, some (.int c), none, none, some (.ref rm), some (.ref ln), some (.int q.last), some (.int q.passed), some (.bl false), some (.ref m2.length), none, none, none, none]) m3 by
      simp only [runB, slots, sSeq, sRet, sIf, sExpr, sAsg, gNm, Co.gCons, Co.gNil, gUnp, Co.gSub, sPar2, sPar3, cVar, cK, cBin, cUn, cNot, cAnd, cOr, cIte, cChain, aNil, aCons, cTup, cLst, cCall, cMeth, cSlice, partOf, sNx, sBrk, sCnt, sBad, sRz, cTrue, Res.bind, MV.ofL, List.map_cons, List.map_nil, List.length_cons, List.length_nil, List.cons_append, List.nil_append, List.getElem?_cons_succ, List.getElem?_cons_zero, List.set_cons_succ, List.set_cons_zero, List.replicate, Nat.reduceSub, Nat.reduceAdd, ix2, ix3, e3]]
    simp only [Res.bind]
    have e4' := e4
    unfold sJoin at e4'
    rw [sSeq, e4']
    simp only [Res.bind]
    rw [sSeq, show (sAsg (cCall f_law_named (aCons (cVar 1) (aCons (cVar 7) (aCons (cTup (aCons (cVar 6) (aCons (cVar 8) (aCons (cVar 9) aNil)))) aNil)))) (gNm 4)) [some (encS s), some (encR r), some st, some (.int c), none, none, some (.ref rm), some (.ref ln), some (.int (ljoin s q c).last), some (.int (ljoin s q c).passed), some (.bl (lLost s q c)), some (.ref m2.length), none, none, none, none] m4 = .ok (.nx [some (encS s), some (encR r), some st, some (.int c), some (optV (lnamedP r (ljoin s q c).line (ljoin s q c).room (ljoin s q c).last (ljoin s q c).passed)), none, some (.ref rm), some (.ref ln), some (.int (ljoin s q c).last), some (.int (ljoin s q c).passed), some (.bl (lLost s q c)), some (.ref m2.length), none, none, none, none]) m5 by
      simp only [runB, slots, sSeq, sRet, sIf, sExpr, sAsg, gNm, Co.gCons, Co.gNil, gUnp, Co.gSub, sPar2, sPar3, cVar, cK, cBin, cUn, cNot, cAnd, cOr, cIte, cChain, aNil, aCons, cTup, cLst, cCall, cMeth, cSlice, partOf, sNx, sBrk, sCnt, sBad, sRz, cTrue, Res.bind, MV.ofL, List.map_cons, List.map_nil, List.length_cons, List.length_nil, List.cons_append, List.nil_append, List.getElem?_cons_succ, List.getElem?_cons_zero, List.set_cons_succ, List.set_cons_zero, List.replicate, Nat.reduceSub, Nat.reduceAdd, e5]]
    simp only [Res.bind]
    rw [sSeq, sWhile, e6]
    simp only [Res.bind]
    rw [sSeq, show (sAsg (cTup (aCons (cCall bLen (aCons cp_law_tick_6 aNil)) (aCons (cCall bLen (aCons cp_law_tick_5 aNil)) aNil))) (gNm 5)) [some (encS s), some (encR r), some st, some (.int c), x4, none, some (.ref rm), some (.ref ln6), some (.int E.1.last), some (.int E.1.passed), some (.bl (lLost s q c)), some (.ref m2.length), x12, none, none, none] m6 = .ok (.nx [some (encS s), some (encR r), some st, some (.int c), x4, some (encT (((E.1.room.filter fun x => decide (x.1 = 1)).length : Int), ((E.1.room.filter fun x => decide (x.1 = 2)).length : Int))), some (.ref rm), some (.ref ln6), some (.int E.1.last), some (.int E.1.passed), some (.bl (lLost s q c)), some (.ref m2.length), x12, none, none, none]) m8 by
      have e7' : cp_law_tick_6 [some (encS s), some (encR r), some st, some (.int c), x4, none, some (.ref rm), some (.ref ln6), some (.int E.1.last), some (.int E.1.passed), some (.bl (lLost s q c)), some (.ref m2.length), x12, none, none, none] m6 = _ := e7
      have e8' : cp_law_tick_5 [some (encS s), some (encR r), some st, some (.int c), x4, none, some (.ref rm), some (.ref ln6), some (.int E.1.last), some (.int E.1.passed), some (.bl (lLost s q c)), some (.ref m2.length), x12, none, none, none] m7 = _ := e8
      simp only [sAsg, cTup, aCons, aNil, cCall, e7', e8', Res.bind, b7, b8, gNm, List.set_cons_succ, List.set_cons_zero, MV.ofL, encT]]
    simp only [Res.bind]
    rw [sSeq, sAsg, e9]
    simp only [Res.bind, gNm, List.set_cons_succ, List.set_cons_zero]
    rw [sSeq, sAsg, e10]
    simp only [runB, slots, sSeq, sRet, sIf, sExpr, sAsg, gNm, Co.gCons, Co.gNil, gUnp, Co.gSub, sPar2, sPar3, cVar, cK, cBin, cUn, cNot, cAnd, cOr, cIte, cChain, aNil, aCons, cTup, cLst, cCall, cMeth, cSlice, partOf, sNx, sBrk, sCnt, sBad, sRz, cTrue, Res.bind, MV.ofL, List.map_cons, List.map_nil, List.length_cons, List.length_nil, List.cons_append, List.nil_append, List.getElem?_cons_succ, List.getElem?_cons_zero, List.set_cons_succ, List.set_cons_zero, List.replicate, Nat.reduceSub, Nat.reduceAdd, kd, if_true, c1, c2, encL, lout, encN, encT]
  · have k3t : Ke [ln, rm, m2.length] m3 m10 := (kt8.trans k9.nil).trans k10.nil
    exact kk.drop k3t (by
      intro i hi
      have := k1.1
      have := k2.1
      simp only [List.mem_cons, List.not_mem_nil, or_false] at hi
      omega)
  · rw [p10, T9.ql]; rfl
  · have := hS _ e; omega
  · have := hS _ e; have := f10 w hw; omega
  · rw [p9, T8.qr]; rfl
  · have := hS _ e; omega
  · have := hS _ e; have := f9 w hw; omega
end Lw

namespace Lw
open PySem Co
theorem lstep_len {s : Se} {i : Nat} {q : Lq} (hi : i < q.line.length) : (lstep s i q).line.length + (lstep s i q).room.length = q.line.length + q.room.length := by
  simp only [lstep, List.length_append, List.length_take, List.length_drop, List.length_cons, List.length_nil]
  omega
theorem lenter_len (s : Se) (r : Ru) : ∀ (n : Nat) (q : Lq) (fo : List Int), (lenter s r n q fo).1.line.length + (lenter s r n q fo).1.room.length = q.line.length + q.room.length
  | 0, q, fo => rfl
  | n + 1, q, fo => by
    rw [lenter]
    split
    · rfl
    · rename_i i hi
      rw [lenter_len s r n, lstep_len (lnamedP_lt hi)]
theorem lenter_kinds (s : Se) (r : Ru) : ∀ (n : Nat) (q : Lq) (fo : List Int), (∀ x ∈ q.line, x.1 = 1 ∨ x.1 = 2) → ∀ x ∈ (lenter s r n q fo).1.line, x.1 = 1 ∨ x.1 = 2
  | 0, q, fo, h => h
  | n + 1, q, fo, h => by
    rw [lenter]
    split
    · exact h
    · exact lenter_kinds s r n _ _ (lstep_kinds h)
theorem ltickP_kinds {s : Se} {r : Ru} {q : Lq} {c : Int} (hk : ∀ x ∈ q.line, x.1 = 1 ∨ x.1 = 2) (hc : c = 0 ∨ c = 1 ∨ c = 2) : ∀ x ∈ (ltickP s r q c).line, x.1 = 1 ∨ x.1 = 2 := by
  intro x hx
  simp only [ltickP, lout] at hx
  obtain ⟨y, hy, rfl⟩ := List.mem_map.mp hx
  exact lenter_kinds s r _ _ _ (ljoin_kinds hk hc) y hy
theorem ltickP_len {s : Se} {r : Ru} {q : Lq} {c : Int} : (ltickP s r q c).line.length + (ltickP s r q c).room.length ≤ q.line.length + q.room.length + 1 := by
  have h1 := lenter_len s r (ljoin s q c).line.length (ljoin s q c) []
  have h2 : (ljoin s q c).line.length + (ljoin s q c).room.length ≤ q.line.length + q.room.length + 1 := by
    unfold ljoin
    split
    · simp; omega
    · omega
  simp only [ltickP, lout, lenterP, List.length_map]
  have h3 := List.length_filter_le (fun x : Pr => decide (1 < x.2)) (lenter s r (ljoin s q c).line.length (ljoin s q c) []).1.room
  omega
def lq0 : Lq := { line := [], room := [], last := 0, passed := 0 }
abbrev Lt := Lq × Nt × (Int × Int)
def lrun (s : Se) (r : Ru) : Lq → List Int → List Lt
  | _, [] => []
  | q, c :: cs => (ltickP s r q c, ltickN s r q c, ltickT s r q c) :: lrun s r (ltickP s r q c) cs
def lend (s : Se) (r : Ru) : Lq → List Int → Lq
  | q, [] => q
  | q, c :: cs => lend s r (ltickP s r q c) cs
theorem lrun_snoc (s : Se) (r : Ru) (c : Int) : ∀ (cs : List Int) (q : Lq), lrun s r q (cs ++ [c]) = lrun s r q cs ++ [(ltickP s r (lend s r q cs) c, ltickN s r (lend s r q cs) c, ltickT s r (lend s r q cs) c)]
  | [], q => rfl
  | d :: cs, q => by simp [lrun, lend, lrun_snoc s r c cs]
theorem lend_snoc (s : Se) (r : Ru) (c : Int) : ∀ (cs : List Int) (q : Lq), lend s r q (cs ++ [c]) = ltickP s r (lend s r q cs) c
  | [], q => rfl
  | d :: cs, q => by simp [lend, lend_snoc s r c cs]
theorem lrun_len (s : Se) (r : Ru) : ∀ (cs : List Int) (q : Lq), (lrun s r q cs).length = cs.length
  | [], q => rfl
  | d :: cs, q => by simp [lrun, lrun_len s r cs]
abbrev It := (Nat × Nat) × Lt
def encIt (x : It) : MV := .cons (encL x.1.1 x.1.2 x.2.1) (.cons (encN x.2.2.1) (.cons (encT x.2.2.2) .nil))
structure IP (s : Se) (r : Ru) (cs : List Int) (cn k : Nat) (m0 : MH) (i : Nat) (q : Lq) (a b : Nat) (its : List It) (m : MH) : Prop where
  fc : m[cn]? = some (.lst (cs.map .int))
  fk : m[k]? = some (.lst (its.map encIt))
  run : its.map (·.2) = lrun s r lq0 (cs.take i)
  end_ : q = lend s r lq0 (cs.take i)
  st : LS [k] q a b m
  sts : ∀ x ∈ its, LS [k] x.2.1 x.1.1 x.1.2 m
  ke : Ke [k] m0 m
  kinds : ∀ x ∈ q.line, x.1 = 1 ∨ x.1 = 2
  len : q.line.length + q.room.length ≤ i
theorem law_play_ok (s : Se) (r : Ru) (cs : List Int) (cn : Nat) (m : MH) (hcs : CsOk cs) (hc : m[cn]? = some (.lst (cs.map .int))) :
    ∃ (k : Nat) (m' : MH) (its : List It), f_law_play [encS s, encR r, .ref cn] m = .ok (.ref k) m' ∧ Ke [] m m' ∧ m.length ≤ k ∧ m'[k]? = some (.lst (its.map encIt)) ∧ its.map (·.2) = lrun s r lq0 cs ∧ ∀ x ∈ its, LS [k] x.2.1 x.1.1 x.1.2 m' := by
  have hl := hcs.len
  obtain ⟨m1, e1, k1, g1, z1⟩ := newL_ex (en := MV.int) [] m (by simp)
  obtain ⟨m2, e2, k2, g2, z2⟩ := newL_ex (en := MV.int) [] m1 (by simp)
  obtain ⟨m3, e3, k3, g3, z3⟩ := newL_ex (en := MV.int) [] m2 (by simp)
  simp only [List.map_nil] at e1 g1 e2 g2 e3 g3
  have kk := (k1.trans k2).trans k3
  have hcl : cn < m.length := (List.getElem?_eq_some_iff.mp hc).1
  have hI0 : IP s r cs cn m2.length m3 0 lq0 m.length m1.length [] m3 := ⟨kk.get hc, by simpa using g3, rfl, rfl,
    ⟨⟨[], ⟨(k2.trans k3).get g1, fun z hz => by simp at hz⟩, rfl, by simp; omega, fun z hz => by simp at hz⟩, ⟨[], ⟨k3.get g2, fun z hz => by simp at hz⟩, rfl, by simp; omega, fun z hz => by simp at hz⟩⟩,
    fun x hx => by simp at hx, Ke.refl, fun x hx => by simp [lq0] at hx, by simp [lq0]⟩
  have key := for_inv (s := .lst cn) (g := gNm 3) (b := lb_law_play_1) (fun i R M => ∃ q a b its v3 v6 v7, R = [some (encS s), some (encR r), some (.ref cn), v3, some (encL a b q), some (.ref m2.length), v6, v7] ∧ IP s r cs cn m2.length m3 i q a b its M) (cs.map MV.int)
    (fun i R M h => by
      obtain ⟨q, a, b, its, v3, v6, v7, _, hI⟩ := h
      exact lst_at hI.fc i)
    (fun i v R M hv h => by
      obtain ⟨q, a, b, its, v3, v6, v7, rfl, hI⟩ := h
      rw [List.getElem?_map] at hv
      obtain ⟨c, hci, rfl⟩ := Option.map_eq_some_iff.mp hv
      have hil : i < cs.length := (List.getElem?_eq_some_iff.mp hci).1
      have htk : cs.take (i + 1) = cs.take i ++ [c] := by rw [List.take_add_one, hci]; rfl
      have hc0 := hcs.is c (List.mem_of_getElem? hci)
      obtain ⟨a', b', M1, e, k, st⟩ := law_tick_ok s r (hI.st.mono (by simp)) c hI.kinds hc0 (by have := hI.len; omega)
      have hkl : m2.length < M.length := (List.getElem?_eq_some_iff.mp hI.fk).1
      have fk1 := k.get hI.fk
      have hil2 : its.length = i := by
        have := congrArg List.length hI.run
        rw [List.length_map, lrun_len, List.length_take] at this
        omega
      have kd := kindM_lst M1 m2.length _ fk1
      obtain ⟨it, hit⟩ : ∃ it : It, it = ((a', b'), (ltickP s r q c, ltickN s r q c, ltickT s r q c)) := ⟨_, rfl⟩
      have ap := mAppend_ok M1 m2.length _ (encIt it) fk1 (by simp; omega)
      obtain ⟨M2, hM2⟩ : ∃ M2, M2 = M1.set m2.length (.lst ((its ++ [it]).map encIt)) := ⟨_, rfl⟩
      have ap' : mAppend (.ref m2.length) [encIt it] M1 = .ok .non M2 := by rw [ap, hM2]; simp
      have kM2 : Ke [m2.length] M1 M2 := by rw [hM2]; exact Ke.set (by simp)
      have st2 := (st [m2.length] (by simpa using hkl)).ke kM2
      have hrun : its.map (·.2) ++ [it.2] = lrun s r lq0 (cs.take (i + 1)) := by rw [htk, lrun_snoc, ← hI.end_, hI.run, hit]
      refine ⟨[some (encS s), some (encR r), some (.ref cn), some (.int c), some (encL a b q), some (.ref m2.length), v6, v7], M, [some (encS s), some (encR r), some (.ref cn), some (.int c), some (encL a' b' (ltickP s r q c)), some (.ref m2.length), some (encN (ltickN s r q c)), some (encT (ltickT s r q c))], M2, rfl, ?_, ltickP s r q c, a', b', its ++ [it], some (.int c), some (encN (ltickN s r q c)), some (encT (ltickT s r q c)), rfl, ?_⟩
      · unfold lb_law_play_1
        rw [hit] at ap'
        simp only [encIt] at ap'
        simp only [runB, slots, sSeq, sRet, sIf, sExpr, sAsg, gNm, Co.gCons, Co.gNil, gUnp, Co.gSub, sPar2, sPar3, cVar, cK, cBin, cUn, cNot, cAnd, cOr, cIte, cChain, aNil, aCons, cTup, cLst, cCall, cMeth, cSlice, partOf, sNx, sBrk, sCnt, sBad, sRz, cTrue, Res.bind, MV.ofL, List.map_cons, List.map_nil, List.length_cons, List.length_nil, List.cons_append, List.nil_append, List.getElem?_cons_succ, List.getElem?_cons_zero, List.set_cons_succ, List.set_cons_zero, List.replicate, Nat.reduceSub, Nat.reduceAdd, e, kd, if_true, ap']
      · refine ⟨?_, ?_, by rw [List.map_append]; exact hrun, by rw [htk, lend_snoc, ← hI.end_], st2, fun x hx => ?_, (hI.ke.trans k.nil).trans kM2, ltickP_kinds hI.kinds hc0, ?_⟩
        · have hne : cn ≠ m2.length := by have := k1.1; have := k2.1; omega
          exact kM2.get (k.get hI.fc) (by simpa using hne)
        · rw [hM2]; exact List.getElem?_set_self (by have := k.1; omega)
        · rcases List.mem_append.mp hx with h | h
          · exact ((hI.sts x h).keep k).ke kM2
          · have hx2 : x = it := by simpa using h
            rw [hx2, hit]
            exact st2
        · have := ltickP_len (s := s) (r := r) (q := q) (c := c)
          have := hI.len
          omega)
    cs.length 0 big [some (encS s), some (encR r), some (.ref cn), none, some (encL m.length m1.length lq0), some (.ref m2.length), none, none] m3 (by simp) (by show _ < 1000000; omega) ⟨lq0, m.length, m1.length, [], none, none, none, rfl, hI0⟩
  obtain ⟨R, M, eF, q, a, b, its, v3, v6, v7, hR, hI⟩ := key
  refine ⟨m2.length, M, its, ?_, kk.drop hI.ke (by have := k1.1; have := k2.1; simp; omega), by have := k1.1; have := k2.1; omega, hI.fk, by have := hI.run; rwa [List.length_map, List.take_length] at this, hI.sts⟩
  show runB 8 b_law_play _ m = _
  have hS : (iSeq (cVar 2)) [some (encS s), some (encR r), some (.ref cn), none, some (encL m.length m1.length lq0), some (.ref m2.length), none, none] m3 = .ok (.lst cn) m3 := iSeq_ref _ _ _ _ _ _ rfl hI0.fc
  simp only [encL, lq0] at hS eF
  simp only [b_law_play, runB, slots, sSeq, sRet, sIf, sExpr, sAsg, gNm, Co.gCons, Co.gNil, gUnp, Co.gSub, sPar2, sPar3, cVar, cK, cBin, cUn, cNot, cAnd, cOr, cIte, cChain, aNil, aCons, cTup, cLst, cCall, cMeth, cSlice, partOf, sNx, sBrk, sCnt, sBad, sRz, cTrue, Res.bind, MV.ofL, List.map_cons, List.map_nil, List.length_cons, List.length_nil, List.cons_append, List.nil_append, List.getElem?_cons_succ, List.getElem?_cons_zero, List.set_cons_succ, List.set_cons_zero, List.replicate, Nat.reduceSub, Nat.reduceAdd, f_law_begin, b_law_begin, e1, e2, e3, sFor, hS, eF, hR]
end Lw

namespace Lw
open PySem Co
/-! ### the law's play and the program's -/
def wts (l : List Pr) : List Int := (l.filter fun x => decide (x.1 = 2)).map fun x => min 3 x.2
structure Rl (q : Lq) (p : Pl) : Prop where
  line : p.line = q.line.map (·.1)
  ins : p.inside = q.room.map (·.2)
  last : p.last = q.last
  count : p.count = min 3 q.passed
  waits : p.waits = wts q.line
  room : ∀ x ∈ q.room, x.1 = p.inner
  inn : q.room ≠ [] → p.inner = 1 ∨ p.inner = 2
  kinds : ∀ x ∈ q.line, x.1 = 1 ∨ x.1 = 2
theorem wts_head : ∀ l : List Pr, 2 ∈ l.map (·.1) → (wts l).headD 0 = min 3 ((l[(l.map (·.1)).idxOf 2]?.map fun z => z.2).getD 0)
  | [], h => by simp at h
  | a :: l, h => by
    by_cases e : a.1 = 2
    · simp [wts, e, List.idxOf_cons]
    · have h2 : 2 ∈ l.map (·.1) := by
        rcases List.mem_cons.mp h with x | x
        · exact absurd x.symm e
        · exact x
      have ih := wts_head l h2
      have hb : (a.1 == 2) = false := by simpa using e
      have hw : wts (a :: l) = wts l := by simp [wts, e]
      rw [hw, List.map_cons, List.idxOf_cons, hb]
      simpa using ih
theorem lkind_pref {r : Ru} {q : Lq} {p : Pl} (h : Rl q p) (hr : RuOk r) : lkindP r q.line q.last q.passed = pref r p.line p.last p.count p.waits := by
  unfold lkindP pref
  rw [h.line, h.last, h.count, h.waits]
  by_cases h0 : r = .line ∨ 1 ∉ q.line.map (·.1) ∨ 2 ∉ q.line.map (·.1)
  · rw [if_pos h0, if_neg (by
      rintro ⟨a, b, c⟩
      rcases h0 with x | x | x
      · exact c x
      · exact x a
      · exact x b)]
  · rw [if_neg h0]
    have h1 : 1 ∈ q.line.map (·.1) := Classical.byContradiction fun x => h0 (.inr (.inl x))
    have h2 : 2 ∈ q.line.map (·.1) := Classical.byContradiction fun x => h0 (.inr (.inr x))
    have h3 : r ≠ .line := fun x => h0 (.inl x)
    rw [if_pos ⟨h1, h2, h3⟩]
    have hw := wts_head q.line h2
    cases r with
    | line => exact absurd rfl h3
    | many => simp [Ru.isP, Ru.isB]
    | one => simp [Ru.isP, Ru.isB]
    | turns => simp [Ru.isP, Ru.isB]
    | bound n =>
      have hn : n ≤ 3 := hr.2
      have : (n ≤ min 3 q.passed) ↔ n ≤ q.passed := by omega
      simp [Ru.isP, Ru.isB, Ru.num, this]
    | patience n =>
      have hn : n ≤ 3 := hr.2
      rw [hw]
      generalize (q.line[(q.line.map (·.1)).idxOf 2]?.map fun z => z.2).getD 0 = w
      have : (n ≤ min 3 w) ↔ n ≤ w := by omega
      simp [Ru.isP, Ru.isB, Ru.num, this]
theorem erase_take (l : List Pr) (k : Int) : (l.map (·.1)).erase k = (l.take ((l.map (·.1)).idxOf k) ++ l.drop ((l.map (·.1)).idxOf k + 1)).map (·.1) := by
  induction l with
  | nil => simp
  | cons a l ih =>
    by_cases e : a.1 = k
    · simp [e]
    · have hb : (a.1 == k) = false := by simpa using e
      rw [List.map_cons, List.idxOf_cons, hb, List.erase_cons, hb]
      simp only [cond_false, Bool.false_eq_true, if_false, List.take_succ_cons, List.drop_succ_cons, List.cons_append, List.map_cons]
      rw [ih]
theorem wts_rm (l : List Pr) (k : Int) (hk : k = 1 ∨ k = 2) : wts (l.take ((l.map (·.1)).idxOf k) ++ l.drop ((l.map (·.1)).idxOf k + 1)) = if k = 2 then (wts l).drop 1 else wts l := by
  induction l with
  | nil => simp [wts]
  | cons a l ih =>
    by_cases e : a.1 = k
    · rw [List.map_cons, List.idxOf_cons, show (a.1 == k) = true by simpa using e]
      simp only [cond_true, List.take_zero, List.nil_append, Nat.zero_add, List.drop_succ_cons, List.drop_zero]
      rcases hk with rfl | rfl
      · simp [wts, e]
      · simp [wts, e]
    · have hb : (a.1 == k) = false := by simpa using e
      rw [List.map_cons, List.idxOf_cons, hb]
      simp only [cond_false, List.take_succ_cons, List.drop_succ_cons, List.cons_append]
      have hc : ∀ t : List Pr, wts (a :: t) = if a.1 = 2 then min 3 a.2 :: wts t else wts t := fun t => by
        by_cases x : a.1 = 2 <;> simp [wts, x]
      rw [hc, hc, ih]
      rcases hk with rfl | rfl
      · simp
      · rw [if_neg e, if_neg e]
theorem lnamed_fits {r : Ru} {q : Lq} {p : Pl} (h : Rl q p) (hr : RuOk r) : lnamedP r q.line q.room q.last q.passed =
    if p.line = [] then none else if fitsT (pref r p.line p.last p.count p.waits) p.inside p.inner then some ((q.line.map (·.1)).idxOf (pref r p.line p.last p.count p.waits)) else none := by
  unfold lnamedP
  rw [lkind_pref h hr]
  have hl : (q.line = []) ↔ p.line = [] := by rw [h.line]; simp
  by_cases e : p.line = []
  · rw [if_pos (hl.mpr e), if_pos e]
  · rw [if_neg fun x => e (hl.mp x), if_neg e]
    generalize hK : pref r p.line p.last p.count p.waits = K
    have hKm : K = 1 ∨ K = 2 := by
      have := pref_mem (r := r) (last := p.last) (count := p.count) (waits := p.waits) e (by rw [h.line]; intro k hk; obtain ⟨x, hx, rfl⟩ := List.mem_map.mp hk; exact h.kinds x hx)
      rw [hK, h.line] at this
      obtain ⟨x, hx, rfl⟩ := List.mem_map.mp this
      exact h.kinds x hx
    by_cases er : q.room = []
    · have hi : p.inside = [] := by rw [h.ins, er]; rfl
      rw [if_neg (by simp [er]), if_pos (by simp [fitsT, hi])]
    · have hi : p.inside ≠ [] := by rw [h.ins]; simpa using er
      obtain ⟨z, hz⟩ : ∃ z, z ∈ q.room := List.exists_mem_of_ne_nil _ er
      rcases h.inn er with i1 | i2
      · have hno : ¬ ∃ z ∈ q.room, z.1 = 2 := by
          rintro ⟨y, hy, h2⟩
          have := h.room y hy
          omega
        rcases hKm with k1 | k2
        · rw [if_neg (by rintro (x | x); exact absurd x.1 (by omega); exact hno x), if_pos (by simp [fitsT, k1, i1])]
        · rw [if_pos (.inl ⟨k2, er⟩), if_neg (by simp [fitsT, hi, k2])]
      · have hyes : ∃ z ∈ q.room, z.1 = 2 := ⟨z, hz, (h.room z hz).trans i2⟩
        rw [if_pos (.inr hyes), if_neg (by simp [fitsT, hi, i2])]
theorem link_step {s : Se} {r : Ru} {q : Lq} {p : Pl} (h : Rl q p) (k : Int) (hk : k = 1 ∨ k = 2) (hm : k ∈ p.line) (hf : fitsT k p.inside p.inner = true) : Rl (lstep s ((q.line.map (·.1)).idxOf k) q) (enter1 s k p) ∧ (q.line[(q.line.map (·.1)).idxOf k]?.map (·.1)).getD 0 = k := by
  have hlt : (q.line.map (·.1)).idxOf k < (q.line.map (·.1)).length := List.idxOf_lt_length_iff.mpr (by rw [← h.line]; exact hm)
  have hget : (q.line[(q.line.map (·.1)).idxOf k]?.map (·.1)).getD 0 = k := by
    rw [← List.getElem?_map, List.getElem?_eq_getElem hlt, Option.getD_some]
    exact List.getElem_idxOf hlt
  refine ⟨?_, hget⟩
  unfold lstep enter1
  rw [hget]
  refine ⟨?_, ?_, rfl, ?_, ?_, fun x hx => ?_, fun _ => hk, fun x hx => ?_⟩
  · simp only [h.line, erase_take]
  · simp only [h.ins, List.map_append, List.map_cons, List.map_nil]
  · simp only []
    rw [← erase_take, ← h.line]
    rcases hk with rfl | rfl
    · have : (2 ∈ p.line.erase 1) ↔ 2 ∈ p.line := List.mem_erase_of_ne (by decide)
      simp only [this, true_and]
      by_cases x : 2 ∈ p.line
      · rw [if_pos x, if_pos x, h.count]; omega
      · rw [if_neg x, if_neg x]; rfl
    · simp; rfl
  · simp only [wts_rm q.line k hk, h.waits]
  · simp only at hx ⊢
    rcases List.mem_append.mp hx with e | e
    · have h1 := h.room x e
      have hi : p.inside ≠ [] := by rw [h.ins]; intro z; simp at z; rw [z] at e; simp at e
      simp [fitsT, hi] at hf
      rw [h1, hf.2, hf.1]
    · have : x = (k, stay s k) := by simpa using e
      rw [this]
  · simp only at hx
    rcases List.mem_append.mp hx with e | e
    · exact h.kinds x (List.mem_of_mem_take e)
    · exact h.kinds x (List.mem_of_mem_drop e)
theorem link_enter (s : Se) (r : Ru) (hr : RuOk r) : ∀ (n : Nat) {q : Lq} {p : Pl} (fo : List Int), Rl q p → (lenter s r n q fo).2 = (enterN s r n p fo).2 ∧ Rl (lenter s r n q fo).1 (enterN s r n p fo).1
  | 0, q, p, fo, h => ⟨rfl, h⟩
  | n + 1, q, p, fo, h => by
    rw [lenter, enterN, lnamed_fits h hr]
    by_cases e : p.line = []
    · rw [if_pos e, if_pos e]; exact ⟨rfl, h⟩
    · rw [if_neg e, if_neg e]
      generalize hK : pref r p.line p.last p.count p.waits = K
      have hkm : ∀ k ∈ p.line, k = 1 ∨ k = 2 := by rw [h.line]; intro k hk; obtain ⟨x, hx, rfl⟩ := List.mem_map.mp hk; exact h.kinds x hx
      have hm : K ∈ p.line := by rw [← hK]; exact pref_mem e hkm
      cases hf : fitsT K p.inside p.inner with
      | true =>
        obtain ⟨h1, h2⟩ := link_step (s := s) (r := r) h K (hkm K hm) hm hf
        simp only [if_true, h2]
        exact link_enter s r hr n _ h1
      | false => simpa only [Bool.false_eq_true, if_false, true_and] using h
theorem link_join {s : Se} {q : Lq} {p : Pl} {c : Int} (h : Rl q p) (hc : c = 0 ∨ c = 1 ∨ c = 2) : Rl (ljoin s q c) (joinL s p c) ∧ lLost s q c = isLost s p c := by
  have hL : lLost s q c = isLost s p c := by simp [lLost, isLost, h.line]
  refine ⟨?_, hL⟩
  unfold ljoin joinL
  rw [hL]
  by_cases hj : 0 < c ∧ isLost s p c = false
  · rw [if_pos hj, if_pos hj]
    refine ⟨?_, h.ins, h.last, ?_, ?_, h.room, h.inn, fun x hx => ?_⟩
    · simp [h.line]
    · simp only [h.line]
      by_cases x : c = 2 ∧ 2 ∉ q.line.map (·.1)
      · rw [if_pos x, if_pos x]; rfl
      · rw [if_neg x, if_neg x]; exact h.count
    · simp only [h.waits]
      rcases hc with rfl | rfl | rfl
      · exact absurd hj.1 (by decide)
      · simp [wts]
      · simp [wts]; rfl
    · simp only at hx
      rcases List.mem_append.mp hx with e | e
      · exact h.kinds x e
      · have : x = (c, 0) := by simpa using e
        rw [this]
        have := hj.1
        simp only
        omega
  · rw [if_neg hj, if_neg hj]; exact h
theorem link_out {q : Lq} {p : Pl} (h : Rl q p) : Rl (lout q) (outP p) := by
  have hin : (outP p).inside = ((q.room.filter fun x => decide (1 < x.2)).map fun x => (x.1, x.2 - 1)).map (·.2) := by
    simp only [outP, outInside, h.ins, List.filter_map, List.map_map]
    rfl
  refine ⟨?_, hin, h.last, h.count, ?_, fun x hx => ?_, fun hx => ?_, fun x hx => ?_⟩
  · simp [lout, outP, h.line, Function.comp_def]
  · simp only [lout, outP, outWaits, h.waits, wts, List.map_map, List.filter_map]
    apply List.map_congr_left
    intro x _
    simp only [Function.comp]
    omega
  · simp only [lout] at hx
    obtain ⟨y, hy, rfl⟩ := List.mem_map.mp hx
    have hy2 := (List.mem_filter.mp hy).1
    have : outInside p.inside ≠ [] := by
      have h2 : (outP p).inside = outInside p.inside := rfl
      rw [← h2, hin]
      intro z
      simp only [List.map_map, List.map_eq_nil_iff] at z
      rw [z] at hy
      simp at hy
    simp only [outP, if_neg this]
    exact h.room y hy2
  · have : outInside p.inside ≠ [] := by
      have h2 : (outP p).inside = outInside p.inside := rfl
      rw [← h2, hin]
      intro z
      simp only [List.map_eq_nil_iff] at z
      exact hx (by simp only [lout]; simp [z])
    simp only [outP, if_neg this]
    apply h.inn
    intro z
    exact hx (by simp [lout, z])
  · simp only [lout] at hx
    obtain ⟨y, hy, rfl⟩ := List.mem_map.mp hx
    exact h.kinds y hy
theorem link_tick {s : Se} {r : Ru} {q : Lq} {p : Pl} {c : Int} (h : Rl q p) (hr : RuOk r) (hc : c = 0 ∨ c = 1 ∨ c = 2) :
    Rl (ltickP s r q c) (tickP s r p c) ∧ ltickN s r q c = tickN s r p c ∧ ltickT s r q c = tickT s r p c := by
  obtain ⟨hj, hL⟩ := link_join (s := s) h hc
  have hlen : (ljoin s q c).line.length = (joinL s p c).line.length := by rw [hj.line]; simp
  obtain ⟨h2, h3⟩ := link_enter s r hr (joinL s p c).line.length [] hj
  have e1 : lenterP s r (ljoin s q c) = lenter s r (joinL s p c).line.length (ljoin s q c) [] := by rw [lenterP, hlen]
  have e2 : enterP s r (joinL s p c) = enterN s r (joinL s p c).line.length (joinL s p c) [] := rfl
  refine ⟨?_, ?_, ?_⟩
  · unfold ltickP tickP
    rw [e1, e2]
    exact link_out h3
  · unfold ltickN tickN
    rw [e1, e2, h2, hL]
  · unfold ltickT tickT
    rw [e1, e2]
    generalize lenter s r (joinL s p c).line.length (ljoin s q c) [] = A at h3
    generalize enterN s r (joinL s p c).line.length (joinL s p c) [] = B at h3
    have hlen2 : B.1.inside.length = A.1.room.length := by rw [h3.ins]; simp
    by_cases er : A.1.room = []
    · rw [hlen2, er]; simp
    · rcases h3.inn er with i | i
      · have f1 : (A.1.room.filter fun x => decide (x.1 = 1)) = A.1.room := List.filter_eq_self.mpr fun x hx => by have := h3.room x hx; simp; omega
        have f2 : (A.1.room.filter fun x => decide (x.1 = 2)) = [] := List.filter_eq_nil_iff.mpr fun x hx => by have := h3.room x hx; simp; omega
        rw [if_pos i, f1, f2, hlen2]; rfl
      · have f1 : (A.1.room.filter fun x => decide (x.1 = 1)) = [] := List.filter_eq_nil_iff.mpr fun x hx => by have := h3.room x hx; simp; omega
        have f2 : (A.1.room.filter fun x => decide (x.1 = 2)) = A.1.room := List.filter_eq_self.mpr fun x hx => by have := h3.room x hx; simp; omega
        rw [if_neg (by omega), f1, f2, hlen2]; rfl
theorem Rl.zero : Rl lq0 p0 := ⟨rfl, rfl, rfl, rfl, rfl, fun x hx => by simp [lq0] at hx, fun h => absurd rfl h, fun x hx => by simp [lq0] at hx⟩
theorem link_run (s : Se) (r : Ru) (hr : RuOk r) : ∀ (cs : List Int), Is012 cs → ∀ {q : Lq} {p : Pl}, Rl q p → (lrun s r q cs).map (fun x => (x.1.line.map (·.1), x.2)) = (runL s r p cs).map fun x => (x.1.line, x.2)
  | [], _, q, p, h => rfl
  | c :: cs, hc, q, p, h => by
    obtain ⟨a, b, d⟩ := link_tick (s := s) h hr (hc c List.mem_cons_self)
    have ih := link_run s r hr cs (fun x hx => hc x (List.mem_cons_of_mem _ hx)) a
    simp only [lrun, runL, List.map_cons, ih, tickQ, b, d, a.line]
theorem link_notes (s : Se) (r : Ru) (hr : RuOk r) (cs : List Int) (hc : Is012 cs) : (lrun s r lq0 cs).map (fun x => x.2.1) = notesL s r cs := by
  have := congrArg (List.map fun y : List Int × Nt × (Int × Int) => y.2.1) (link_run s r hr cs hc Rl.zero)
  simpa [notesL, Function.comp_def] using this
theorem link_insides (s : Se) (r : Ru) (hr : RuOk r) (cs : List Int) (hc : Is012 cs) : (lrun s r lq0 cs).map (fun x => x.2.2) = insidesL s r cs := by
  have := congrArg (List.map fun y : List Int × Nt × (Int × Int) => y.2.2) (link_run s r hr cs hc Rl.zero)
  simpa [insidesL, Function.comp_def] using this
theorem link_lines (s : Se) (r : Ru) (hr : RuOk r) (cs : List Int) (hc : Is012 cs) : (lrun s r lq0 cs).map (fun x => x.1.line.map (·.1)) = linesL s r cs := by
  have := congrArg (List.map fun y : List Int × Nt × (Int × Int) => y.1) (link_run s r hr cs hc Rl.zero)
  simpa [linesL, Function.comp_def] using this
end Lw

namespace Lw
open PySem Co
/-- a comprehension whose parts may make new things -/
theorem comp_growP {it : CI} {c e : CE} {vs : List Nat} {g : CG} {r : Sl} {m m1 : MH} {s : Src} {α : Type} {ys : List α} {en : α → MV} (hi : it r m = .ok s m1) (P : MH → Prop) (hp : P m1) (st : ∀ M M', P M → Ke [] M M' → P M') (hs : ∀ M, P M → ∀ j, s.at j M = some (ys.map en)[j]?) (hl : ys.length ≤ 100000)
    (C : α → Bool) (V : α → MV) (G : α → Sl) (hg : ∀ y ∈ ys, ∀ M, P M → g (en y) (wipeM r vs) M = .ok (G y) M) (hc : ∀ y ∈ ys, ∀ M, P M → ∃ M', c (G y) M = .ok (.bl (C y)) M' ∧ Ke [] M M') (he : ∀ y ∈ ys, ∀ M, P M → C y = true → ∃ M', e (G y) M = .ok (V y) M' ∧ Ke [] M M') :
    ∃ k m', cComp it vs g c e r m = .ok (.ref k) m' ∧ Ke [] m1 m' ∧ m1.length ≤ k ∧ m'[k]? = some (.lst ((ys.filter C).map V)) := by
  have key : ∀ (zs : List α) (i fuel : Nat) (acc : List MV) (M : MH), ys.drop i = zs → zs.length < fuel → P M → ∃ M', compN s g c e (wipeM r vs) fuel i acc M = .ok (acc ++ (zs.filter C).map V) M' ∧ Ke [] M M' := by
    intro zs
    induction zs with
    | nil =>
      intro i fuel acc M hd hf hP
      cases fuel with
      | zero => simp at hf
      | succ fuel =>
        have : ys[i]? = none := List.getElem?_eq_none (by have := congrArg List.length hd; simp at this; omega)
        refine ⟨M, ?_, Ke.refl⟩
        rw [compN, hs M hP]
        simp [this]
    | cons y zs ih =>
      intro i fuel acc M hd hf hP
      cases fuel with
      | zero => simp at hf
      | succ fuel =>
        have hi : ys[i]? = some y := by
          have h := congrArg (fun l => l[0]?) hd
          simp only [List.getElem?_drop, Nat.add_zero, List.getElem?_cons_zero] at h
          exact h
        have hmem : y ∈ ys := List.mem_of_getElem? hi
        have hd2 : ys.drop (i + 1) = zs := by rw [← List.drop_drop, hd]; rfl
        obtain ⟨M1, e1, k1⟩ := hc y hmem M hP
        have hP1 := st _ _ hP k1
        rw [compN, hs M hP]
        simp only [List.getElem?_map, hi, Option.map_some, hg y hmem M hP, Res.bind, e1]
        cases hC : C y with
        | true =>
          obtain ⟨M2, e2, k2⟩ := he y hmem M1 hP1 hC
          obtain ⟨M3, e3, k3⟩ := ih (i + 1) fuel (acc ++ [V y]) M2 hd2 (by simp at hf; omega) (st _ _ hP1 k2)
          refine ⟨M3, ?_, (k1.trans k2).trans k3⟩
          simp only [e2, e3, List.filter_cons, hC, if_true, List.map_cons, List.append_assoc, List.cons_append, List.nil_append]
        | false =>
          obtain ⟨M3, e3, k3⟩ := ih (i + 1) fuel acc M1 hd2 (by simp at hf; omega) hP1
          refine ⟨M3, ?_, k1.trans k3⟩
          simp only [e3, List.filter_cons, hC, Bool.false_eq_true, if_false]
  obtain ⟨M', e', k'⟩ := key ys 0 big [] m1 rfl (by show _ < 1000000; omega) hp
  refine ⟨M'.length, M' ++ [.lst ((ys.filter C).map V)], ?_, k'.trans (Ke.app _ _), k'.1, by simp⟩
  unfold cComp
  rw [hi]
  simp only [Res.bind, e', List.nil_append]
  exact newL_ok' _ _ (by have := List.length_filter_le C ys; simp; omega)
theorem lrun_bound (s : Se) (r : Ru) : ∀ (cs : List Int) (q : Lq), ∀ x ∈ lrun s r q cs, x.1.line.length + x.1.room.length ≤ q.line.length + q.room.length + cs.length
  | [], q, x, hx => by simp [lrun] at hx
  | c :: cs, q, x, hx => by
    have h1 := ltickP_len (s := s) (r := r) (q := q) (c := c)
    rcases List.mem_cons.mp hx with rfl | h
    · simp only [List.length_cons]; omega
    · have := lrun_bound s r cs _ x h
      simp only [List.length_cons]
      omega
theorem bTuple_ok (m : MH) (n : Nat) (xs : List MV) (h : m[n]? = some (.lst xs)) : bTuple [.ref n] m = .ok (MV.ofL xs) m := by
  simp only [bTuple, lstAt_some h]
end Lw

namespace Lw
open PySem Co
def b_need_kind : CS :=
  (sSeq (sExpr (cCall f_need_both (aCons (cVar 0) (aCons (cVar 1) aNil)))) (sIf (cNot (cCall f_is_int (aCons (cVar 2) (aCons (cK (.int 1)) (aCons (cK (.int 2)) aNil))))) (sRz "InvalidKind") sNx))
def f_need_kind : BL := runB 3 b_need_kind
def b_folded : CS :=
  (sSeq (sAsg (cVar 1) (gUnp 6 (Co.gCons (gNm 5) (Co.gCons (gNm 6) (Co.gCons (gNm 7) (Co.gCons (gNm 2) (Co.gCons (gNm 3) (Co.gCons (gNm 4) Co.gNil)))))))) (sSeq (sAsg (cIte (cBin oEq (cBin oIx (cVar 0) (cK (.int 0))) (cK (.str "turns"))) (cVar 2) (cK (.int 0))) (gNm 2)) (sSeq (sAsg (cIte (cAnd (cBin oEq (cBin oIx (cVar 0) (cK (.int 0))) (cK (.str "bound"))) (cBin oIn (cK (.int 2)) (cVar 5))) (cVar 3) (cK (.int 0))) (gNm 3)) (sSeq (sAsg (cIte (cBin oEq (cBin oIx (cVar 0) (cK (.int 0))) (cK (.str "patience"))) (cVar 4) (cBin oMul (cTup (aCons (cK (.int 0)) aNil)) (cCall bLen (aCons (cVar 4) aNil)))) (gNm 4)) (sRet (cTup (aCons (cVar 5) (aCons (cCall bTuple (aCons (cCall bSorted (aCons (cVar 6) aNil)) aNil)) (aCons (cVar 7) (aCons (cVar 2) (aCons (cVar 3) (aCons (cVar 4) aNil))))))))))))
def f_folded : BL := runB 8 b_folded
def b_step : CS :=
  (sSeq (sAsg (cCall f_tick (aCons (cVar 0) (aCons (cVar 1) (aCons (cVar 2) (aCons (cVar 3) aNil))))) (gUnp 3 (Co.gCons (gNm 4) (Co.gCons (gNm 5) (Co.gCons (gNm 6) Co.gNil))))) (sRet (cTup (aCons (cCall f_folded (aCons (cVar 1) (aCons (cVar 4) aNil))) (aCons (cVar 5) aNil)))))
def f_step : BL := runB 7 b_step
def lb_graph_of_1 : CS :=
  (sSeq (sAsg (cCall f_step (aCons (cVar 0) (aCons (cVar 1) (aCons (cVar 4) (aCons (cVar 5) aNil))))) (gUnp 2 (Co.gCons (gNm 6) (Co.gCons (gNm 7) Co.gNil)))) (sSeq (sExpr (cMeth "list" mAppend (cBin oIx (cVar 2) (cVar 4)) (aCons (cTup (aCons (cVar 5) (aCons (cVar 6) (aCons (cVar 7) aNil)))) aNil))) (sExpr (cMeth "list" mAppend (cVar 3) (aCons (cVar 6) aNil)))))
def lc_graph_of_2 : CE :=
  (cBin oNe (cVar 3) (cLst aNil))
def lb_graph_of_2 : CS :=
  (sSeq (sAsg (cMeth "list" mPop (cVar 3) aNil) (gNm 4)) (sSeq (sIf (cBin oIn (cVar 4) (cVar 2)) sCnt sNx) (sSeq (sAsg (cLst aNil) (Co.gSub (cVar 2) (cVar 4) oSet)) (sFor (iSeq (cTup (aCons (cK (.int 0)) (aCons (cK (.int 1)) (aCons (cK (.int 2)) aNil))))) (gNm 5) lb_graph_of_1))))
def b_graph_of : CS :=
  (sSeq (sPar2 2 3 (aCons cDict0 (aCons (cLst (aCons (cCall f_begun aNil) aNil)) aNil))) (sSeq (sWhile lc_graph_of_2 lb_graph_of_2) (sRet (cVar 2))))
def f_graph_of : BL := runB 8 b_graph_of
def lb_followed_1 : CS :=
  (sIf (cBin oLe (cBin oIx (cVar 8) (cBin oSub (cVar 1) (cK (.int 1)))) (cVar 4)) (sExpr (cMeth "list" mAppend (cVar 5) (aCons (cTup (aCons (cVar 6) (aCons (cTup (aCons (cVar 7) (aCons (cBin oSub (cVar 4) (cBin oIx (cVar 8) (cBin oSub (cVar 1) (cK (.int 1))))) aNil))) aNil))) aNil))) sNx)
def lb_followed_2 : CS :=
  (sSeq (sAsg (cLst aNil) (gNm 5)) (sSeq (sFor (iSeq (cBin oIx (cVar 0) (cVar 3))) (gUnp 3 (Co.gCons (gNm 6) (Co.gCons (gNm 7) (Co.gCons (gNm 8) Co.gNil)))) lb_followed_1) (sAsg (cVar 5) (Co.gSub (cVar 2) (cTup (aCons (cVar 3) (aCons (cVar 4) aNil))) oSet))))
def lb_followed_3 : CS :=
  (sFor (iRange (aCons (cMeth "tuple" mCntT (cBin oIx (cVar 3) (cK (.int 0))) (aCons (cVar 1) aNil)) aNil)) (gNm 4) lb_followed_2)
def b_followed : CS :=
  (sSeq (sAsg cDict0 (gNm 2)) (sSeq (sLock (cVar 0) (sFor (iDct (cVar 0)) (gNm 3) lb_followed_3)) (sRet (cVar 2))))
def f_followed : BL := runB 9 b_followed
def cp_endless_1 : CE :=
  cDComp (iDct (cVar 0)) [4] (gNm 4) cTrue (cVar 4) (cCall bList (aCons (cBin oIx (cVar 0) (cVar 4)) aNil))
def cp_endless_2 : CE :=
  cComp (iSeq (cBin oIx (cVar 1) (cVar 4))) [6] (gNm 6) (cBin oIn (cBin oIx (cVar 6) (cK (.int 1))) (cVar 1)) (cVar 6)
def lb_endless_1 : CS :=
  (sSeq (sAsg cp_endless_2 (gNm 5)) (sIf (cBin oNe (cVar 5) (cLst aNil)) (sAsg (cVar 5) (Co.gSub (cVar 3) (cVar 4) oSet)) sNx))
def lc_endless_2 : CE :=
  (cVar 2)
def lb_endless_2 : CS :=
  (sSeq (sAsg cDict0 (gNm 3)) (sSeq (sLock (cVar 1) (sFor (iDct (cVar 1)) (gNm 4) lb_endless_1)) (sSeq (sAsg (cBin oNeD (cVar 3) (cVar 1)) (gNm 2)) (sAsg (cVar 3) (gNm 1)))))
def b_endless : CS :=
  (sSeq (sAsg (cLock (cVar 0) cp_endless_1) (gNm 1)) (sSeq (sAsg (cK (.bl true)) (gNm 2)) (sSeq (sWhile lc_endless_2 lb_endless_2) (sRet (cVar 1)))))
def f_endless : BL := runB 7 b_endless
def lb_joined_1 : CS :=
  (sIf (cAnd (cBin oEq (cVar 4) (cVar 1)) (cAnd (cNot (cBin oIx (cVar 6) (cK (.int 2)))) (cAnd (cBin oNe (cBin oIx (cVar 5) (cK (.int 0))) (cTup aNil)) (cBin oEq (cBin oIx (cBin oIx (cVar 5) (cK (.int 0))) (cUn oNeg (cK (.int 1)))) (cVar 1))))) (sAsg (cK (.bl true)) (Co.gSub (cVar 2) (cTup (aCons (cVar 5) (aCons (cBin oSub (cMeth "tuple" mCntT (cBin oIx (cVar 5) (cK (.int 0))) (aCons (cVar 1) aNil)) (cK (.int 1))) aNil))) oSet)) sNx)
def lb_joined_2 : CS :=
  (sFor (iSeq (cBin oIx (cVar 0) (cVar 3))) (gUnp 3 (Co.gCons (gNm 4) (Co.gCons (gNm 5) (Co.gCons (gNm 6) Co.gNil)))) lb_joined_1)
def cp_joined_1 : CE :=
  cComp (iDct (cVar 2)) [7] (gNm 7) cTrue (cVar 7)
def b_joined : CS :=
  (sSeq (sAsg cDict0 (gNm 2)) (sSeq (sLock (cVar 0) (sFor (iDct (cVar 0)) (gNm 3) lb_joined_2)) (sRet (cLock (cVar 2) cp_joined_1))))
def f_joined : BL := runB 8 b_joined
def lb_greatest_wait_1 : CS :=
  (sAsg (cK (.bl true)) (Co.gSub (cVar 7) (cVar 10) oSet))
def lb_greatest_wait_2 : CS :=
  (sFor (iSeq (cBin oIx (cVar 4) (cVar 8))) (gUnp 2 (Co.gCons (gNm 9) (Co.gCons (gNm 10) Co.gNil))) lb_greatest_wait_1)
def cp_greatest_wait_1 : CE :=
  cComp (iDct (cVar 7)) [8] (gNm 8) cTrue (cVar 8)
def lc_greatest_wait_3 : CE :=
  (cBin oNe (cVar 5) (cLst aNil))
def lb_greatest_wait_3 : CS :=
  (sSeq (sAsg cDict0 (gNm 7)) (sSeq (sFor (iSeq (cVar 5)) (gNm 8) lb_greatest_wait_2) (sSeq (sLock (cVar 7) (sAsg cp_greatest_wait_1 (gNm 5))) (sAug 6 oAddI (cK (.int 1))))))
def b_greatest_wait : CS :=
  (sSeq (sExpr (cCall f_need_kind (aCons (cVar 0) (aCons (cVar 1) (aCons (cVar 2) aNil))))) (sSeq (sAsg (cCall f_graph_of (aCons (cVar 0) (aCons (cVar 1) aNil))) (gNm 3)) (sSeq (sAsg (cCall f_followed (aCons (cVar 3) (aCons (cVar 2) aNil))) (gNm 4)) (sSeq (sIf (cBin oNeD (cCall f_endless (aCons (cVar 4) aNil)) cDict0) (sRet (cK .non)) sNx) (sSeq (sPar2 5 6 (aCons (cCall f_joined (aCons (cVar 3) (aCons (cVar 2) aNil))) (aCons (cK (.int 0)) aNil))) (sSeq (sWhile lc_greatest_wait_3 lb_greatest_wait_3) (sRet (cVar 6))))))))
def f_greatest_wait : BL := runB 11 b_greatest_wait
def cp_law_key_1 : CE :=
  cComp (iSeq (cVar 5)) [8] (gNm 8) cTrue (cBin oIx (cVar 8) (cK (.int 0)))
def cp_law_key_2 : CE :=
  cComp (iSeq (cVar 5)) [8] (gNm 8) (cBin oEq (cBin oIx (cVar 8) (cK (.int 0))) (cK (.int 2))) (cCall bMin (aCons (cK (.int 3)) (aCons (cBin oIx (cVar 8) (cK (.int 1))) aNil)))
def cp_law_key_3 : CE :=
  cComp (iSeq (cVar 6)) [8] (gNm 8) cTrue (cCall bTuple (aCons (cVar 8) aNil))
def b_law_key : CS :=
  (sSeq (sAsg (cVar 1) (gUnp 4 (Co.gCons (gNm 5) (Co.gCons (gNm 6) (Co.gCons (gNm 7) (Co.gCons (gNm 4) Co.gNil)))))) (sSeq (sAsg (cCall bTuple (aCons cp_law_key_1 aNil)) (gNm 2)) (sSeq (sAsg (cIte (cBin oEq (cBin oIx (cVar 0) (cK (.int 0))) (cK (.str "patience"))) (cCall bTuple (aCons cp_law_key_2 aNil)) (cTup aNil)) (gNm 3)) (sSeq (sAsg (cIte (cAnd (cBin oEq (cBin oIx (cVar 0) (cK (.int 0))) (cK (.str "bound"))) (cBin oIn (cK (.int 2)) (cVar 2))) (cCall bMin (aCons (cK (.int 3)) (aCons (cVar 4) aNil))) (cK (.int 0))) (gNm 4)) (sRet (cTup (aCons (cVar 2) (aCons (cCall bTuple (aCons (cCall bSorted (aCons cp_law_key_3 aNil)) aNil)) (aCons (cIte (cBin oEq (cBin oIx (cVar 0) (cK (.int 0))) (cK (.str "turns"))) (cVar 7) (cK (.int 0))) (aCons (cVar 4) (aCons (cVar 3) aNil)))))))))))
def f_law_key : BL := runB 9 b_law_key
def cp_law_waits_1 : CE :=
  cComp (iSeq (cBin oIx (cVar 13) (cK (.int 0)))) [17] (gNm 17) cTrue (cBin oIx (cVar 17) (cK (.int 0)))
def lb_law_waits_1 : CS :=
  (sSeq (sAsg (cCall f_law_tick (aCons (cVar 0) (aCons (cVar 1) (aCons (cVar 6) (aCons (cVar 8) aNil))))) (gUnp 3 (Co.gCons (gNm 13) (Co.gCons (gNm 14) (Co.gCons (gNm 15) Co.gNil))))) (sSeq (sExpr (cMeth "list" mAppend (cVar 4) (aCons (cVar 13) aNil))) (sSeq (sAsg cp_law_waits_1 (gNm 12)) (sIf (cAnd (cBin oEq (cVar 8) (cVar 2)) (cAnd (cNot (cBin oIx (cVar 14) (cK (.int 2)))) (cAnd (cBin oNe (cVar 12) (cLst aNil)) (cAnd (cBin oEq (cBin oIx (cVar 12) (cUn oNeg (cK (.int 1)))) (cVar 2)) (cBin oEq (cBin oIx (cBin oIx (cBin oIx (cVar 13) (cK (.int 0))) (cUn oNeg (cK (.int 1)))) (cK (.int 1))) (cK (.int 1))))))) (sAsg (cVar 13) (Co.gSub (cVar 3) (cTup (aCons (cCall f_law_key (aCons (cVar 1) (aCons (cVar 13) aNil))) (aCons (cMeth "list" mCntL (cVar 12) (aCons (cVar 2) aNil)) aNil))) oSet)) sNx))))
def lc_law_waits_2 : CE :=
  (cBin oNe (cVar 4) (cLst aNil))
def lb_law_waits_2 : CS :=
  (sSeq (sAsg (cMeth "list" mPop (cVar 4) aNil) (gNm 6)) (sSeq (sAsg (cCall f_law_key (aCons (cVar 1) (aCons (cVar 6) aNil))) (gNm 7)) (sSeq (sIf (cBin oIn (cVar 7) (cVar 5)) sCnt sNx) (sSeq (sAsg (cK (.bl true)) (Co.gSub (cVar 5) (cVar 7) oSet)) (sFor (iSeq (cTup (aCons (cK (.int 0)) (aCons (cK (.int 1)) (aCons (cK (.int 2)) aNil))))) (gNm 8) lb_law_waits_1)))))
def lb_law_waits_3 : CS :=
  (sSeq (sAsg (cCall f_law_tick (aCons (cVar 0) (aCons (cVar 1) (aCons (cBin oIx (cVar 3) (cVar 7)) (aCons (cVar 8) aNil))))) (gUnp 3 (Co.gCons (gNm 13) (Co.gCons (gNm 14) (Co.gCons (gNm 15) Co.gNil))))) (sSeq (sAsg (cBin oSub (cBin oIx (cVar 7) (cK (.int 1))) (cBin oIx (cVar 14) (cBin oSub (cVar 2) (cK (.int 1))))) (gNm 16)) (sIf (cBin oGt (cVar 16) (cK (.int 0))) (sAsg (cVar 13) (Co.gSub (cVar 11) (cTup (aCons (cCall f_law_key (aCons (cVar 1) (aCons (cVar 13) aNil))) (aCons (cVar 16) aNil))) oSet)) sNx)))
def lb_law_waits_4 : CS :=
  (sFor (iSeq (cTup (aCons (cK (.int 0)) (aCons (cK (.int 1)) (aCons (cK (.int 2)) aNil))))) (gNm 8) lb_law_waits_3)
def lc_law_waits_5 : CE :=
  (cBin oNeD (cVar 3) cDict0)
def lb_law_waits_5 : CS :=
  (sSeq (sAsg cDict0 (gNm 11)) (sSeq (sLock (cVar 3) (sFor (iDct (cVar 3)) (gNm 7) lb_law_waits_4)) (sSeq (sAsg (cVar 11) (gNm 3)) (sSeq (sAug 9 oAddI (cK (.int 1))) (sIf (cBin oGt (cVar 9) (cVar 10)) (sRet (cK .non)) sNx)))))
def b_law_waits : CS :=
  (sSeq (sPar3 3 4 5 (aCons cDict0 (aCons (cLst (aCons (cCall f_law_begin aNil) aNil)) (aCons cDict0 aNil)))) (sSeq (sWhile lc_law_waits_2 lb_law_waits_2) (sSeq (sPar2 9 10 (aCons (cK (.int 0)) (aCons (cBin oAdd (cBin oMul (cK (.int 3)) (cCall bLen (aCons (cVar 5) aNil))) (cK (.int 3))) aNil))) (sSeq (sWhile lc_law_waits_5 lb_law_waits_5) (sRet (cVar 9))))))
def f_law_waits : BL := runB 18 b_law_waits
def lc_lowest_1 : CE :=
  (cBin oGt (cVar 3) (cK (.int 0)))
def lb_lowest_1 : CS :=
  (sPar2 2 3 (aCons (cVar 3) (aCons (cBin oMod (cVar 2) (cVar 3)) aNil)))
def b_lowest : CS :=
  (sSeq (sPar2 2 3 (aCons (cCall bAbs (aCons (cVar 0) aNil)) (aCons (cVar 1) aNil))) (sSeq (sWhile lc_lowest_1 lb_lowest_1) (sRet (cTup (aCons (cBin oDiv (cVar 0) (cVar 2)) (aCons (cBin oDiv (cVar 1) (cVar 2)) aNil))))))
def f_lowest : BL := runB 4 b_lowest
def cp_sums_of_1 : CE :=
  cDComp (iDct (cVar 0)) [3] (gNm 3) cTrue (cVar 3) (cK (.int 0))
def lb_sums_of_1 : CS :=
  (sSeq (sAsg (cBin oAdd (cBin oIx (cVar 5) (cVar 3)) (cVar 8)) (gNm 9)) (sIf (cOr (cBin oNotIn (cVar 7) (cVar 4)) (cBin oGt (cVar 9) (cBin oIx (cVar 4) (cVar 7)))) (sAsg (cVar 9) (Co.gSub (cVar 4) (cVar 7) oSet)) sNx))
def lb_sums_of_2 : CS :=
  (sFor (iSeq (cBin oIx (cVar 0) (cVar 3))) (gUnp 3 (Co.gCons (gNm 6) (Co.gCons (gNm 7) (Co.gCons (gNm 8) Co.gNil)))) lb_sums_of_1)
def lb_sums_of_3 : CS :=
  (sSeq (sPar2 4 5 (aCons cDict0 (aCons (cBin oIx (cVar 1) (cUn oNeg (cK (.int 1)))) aNil))) (sSeq (sLock (cVar 5) (sFor (iDct (cVar 5)) (gNm 3) lb_sums_of_2)) (sExpr (cMeth "list" mAppend (cVar 1) (aCons (cVar 4) aNil)))))
def b_sums_of : CS :=
  (sSeq (sAsg (cLst (aCons (cLock (cVar 0) cp_sums_of_1) aNil)) (gNm 1)) (sSeq (sFor (iRange (aCons (cCall bLen (aCons (cVar 0) aNil)) aNil)) (gNm 2) lb_sums_of_3) (sRet (cVar 1))))
def f_sums_of : BL := runB 10 b_sums_of
def b_is_more : CS :=
  (sRet (cBin oGt (cBin oMul (cBin oIx (cVar 0) (cK (.int 0))) (cBin oIx (cVar 1) (cK (.int 1)))) (cBin oMul (cBin oIx (cVar 1) (cK (.int 0))) (cBin oIx (cVar 0) (cK (.int 1))))))
def f_is_more : BL := runB 2 b_is_more
def lb_mean_of_1 : CS :=
  (sIf (cBin oIn (cVar 1) (cBin oIx (cVar 2) (cVar 6))) (sSeq (sAsg (cTup (aCons (cBin oSub (cBin oIx (cBin oIx (cVar 2) (cVar 3)) (cVar 1)) (cBin oIx (cBin oIx (cVar 2) (cVar 6)) (cVar 1))) (aCons (cBin oSub (cVar 3) (cVar 6)) aNil))) (gNm 7)) (sIf (cOr (cBin oIs (cVar 5) (cK .non)) (cCall f_is_more (aCons (cVar 5) (aCons (cVar 7) aNil)))) (sAsg (cVar 7) (gNm 5)) sNx)) sNx)
def lb_mean_of_2 : CS :=
  (sSeq (sAsg (cK .non) (gNm 5)) (sSeq (sFor (iRange (aCons (cVar 3) aNil)) (gNm 6) lb_mean_of_1) (sIf (cOr (cBin oIs (cVar 4) (cK .non)) (cCall f_is_more (aCons (cVar 5) (aCons (cVar 4) aNil)))) (sAsg (cVar 5) (gNm 4)) sNx)))
def b_mean_of : CS :=
  (sSeq (sPar3 2 3 4 (aCons (cCall f_sums_of (aCons (cVar 0) aNil)) (aCons (cCall bLen (aCons (cVar 0) aNil)) (aCons (cK .non) aNil)))) (sSeq (sLock (cBin oIx (cVar 2) (cVar 3)) (sFor (iDct (cBin oIx (cVar 2) (cVar 3))) (gNm 1) lb_mean_of_2)) (sRet (cCall f_lowest (aCons (cBin oIx (cVar 4) (cK (.int 0))) (aCons (cBin oIx (cVar 4) (cK (.int 1))) aNil))))))
def f_mean_of : BL := runB 8 b_mean_of
def cp_worths_1 : CE :=
  cComp (iSeq (cBin oIx (cVar 2) (cVar 3))) [4, 5, 6] (gUnp 3 (Co.gCons (gNm 4) (Co.gCons (gNm 5) (Co.gCons (gNm 6) Co.gNil)))) cTrue (cTup (aCons (cVar 4) (aCons (cVar 5) (aCons (cIte (cBin oIx (cVar 6) (cK (.int 2))) (cK (.int 1)) (cK (.int 0))) aNil))))
def cp_worths_2 : CE :=
  cDComp (iDct (cVar 2)) [3] (gNm 3) cTrue (cVar 3) cp_worths_1
def b_worths : CS :=
  (sSeq (sAsg (cCall f_graph_of (aCons (cVar 0) (aCons (cVar 1) aNil))) (gNm 2)) (sRet (cLock (cVar 2) cp_worths_2)))
def f_worths : BL := runB 7 b_worths
def b_greatest_loss : CS :=
  (sSeq (sExpr (cCall f_need_both (aCons (cVar 0) (aCons (cVar 1) aNil)))) (sRet (cCall f_mean_of (aCons (cCall f_worths (aCons (cVar 0) (aCons (cVar 1) aNil))) aNil))))
def f_greatest_loss : BL := runB 2 b_greatest_loss
def cp_law_loop_1 : CE :=
  cComp (iSeq (cCall f_law_play (aCons (cVar 0) (aCons (cVar 1) (aCons (cBin oAdd (cVar 5) (cBin oMul (cVar 6) (cK (.int 9)))) aNil))))) [9] (gNm 9) cTrue (cBin oIx (cVar 9) (cK (.int 1)))
def lb_law_loop_1 : CS :=
  (sExpr (cMeth "list" mAppend (cVar 8) (aCons (cSlice (cVar 3) (some (cBin oMul (cVar 4) (cVar 7))) (some (cBin oAdd (cBin oMul (cVar 4) (cVar 7)) (cVar 7)))) aNil)))
def b_law_loop : CS :=
  (sSeq (sAsg (cVar 2) (gUnp 2 (Co.gCons (gNm 5) (Co.gCons (gNm 6) Co.gNil)))) (sSeq (sIf (cBin oEq (cVar 6) (cLst aNil)) (sRet (cK .non)) sNx) (sSeq (sAsg (cSlice cp_law_loop_1 (some (cCall bLen (aCons (cVar 5) aNil))) none) (gNm 3)) (sSeq (sPar2 7 8 (aCons (cCall bLen (aCons (cVar 6) aNil)) (aCons (cLst aNil) aNil))) (sSeq (sFor (iRange (aCons (cK (.int 9)) aNil)) (gNm 4) lb_law_loop_1) (sRet (cIte (cBin oEq (cVar 8) (cBin oMul (cLst (aCons (cBin oIx (cVar 8) (cK (.int 0))) aNil)) (cK (.int 9)))) (cBin oIx (cVar 8) (cK (.int 0))) (cK .non))))))))
def f_law_loop : BL := runB 10 b_law_loop
def lb_law_rises_1 : CS :=
  (sAsg (cTup (aCons (cK (.int 0)) (aCons (cK (.int 0)) aNil))) (gUnp 2 (Co.gCons (Co.gSub (cVar 2) (cVar 4) oSet) (Co.gCons (Co.gSub (cVar 2) (cVar 5) oSet) Co.gNil))))
def lb_law_rises_2 : CS :=
  (sSeq (sAsg (cBin oSub (cBin oAdd (cBin oIx (cVar 2) (cVar 4)) (cBin oMul (cVar 6) (cBin oIx (cVar 1) (cK (.int 1))))) (cBin oIx (cVar 1) (cK (.int 0)))) (gNm 8)) (sIf (cBin oGt (cVar 8) (cBin oIx (cVar 2) (cVar 5))) (sSeq (sAsg (cVar 8) (Co.gSub (cVar 2) (cVar 5) oSet)) (sAsg (cK (.bl true)) (gNm 7))) sNx))
def lb_law_rises_3 : CS :=
  (sSeq (sAsg (cK (.bl false)) (gNm 7)) (sSeq (sFor (iSeq (cVar 0)) (gUnp 3 (Co.gCons (gNm 4) (Co.gCons (gNm 5) (Co.gCons (gNm 6) Co.gNil)))) lb_law_rises_2) (sIf (cNot (cVar 7)) (sRet (cK (.bl true))) sNx)))
def b_law_rises : CS :=
  (sSeq (sAsg cDict0 (gNm 2)) (sSeq (sFor (iSeq (cVar 0)) (gUnp 3 (Co.gCons (gNm 4) (Co.gCons (gNm 5) (Co.gCons (gNm 6) Co.gNil)))) lb_law_rises_1) (sSeq (sFor (iRange (aCons (cBin oAdd (cCall bLen (aCons (cVar 2) aNil)) (cK (.int 1))) aNil)) (gNm 3) lb_law_rises_3) (sRet (cK (.bl false))))))
def f_law_rises : BL := runB 9 b_law_rises
def cp_heights_of_1 : CE :=
  cDComp (iDct (cVar 0)) [4] (gNm 4) cTrue (cVar 4) (cK (.int 0))
def lb_heights_of_1 : CS :=
  (sSeq (sAsg (cBin oSub (cBin oAdd (cBin oIx (cVar 2) (cVar 4)) (cBin oMul (cVar 7) (cBin oIx (cVar 1) (cK (.int 1))))) (cBin oIx (cVar 1) (cK (.int 0)))) (gNm 8)) (sIf (cBin oGt (cVar 8) (cBin oIx (cVar 2) (cVar 6))) (sSeq (sAsg (cVar 8) (Co.gSub (cVar 2) (cVar 6) oSet)) (sAsg (cK (.bl true)) (gNm 3))) sNx))
def lb_heights_of_2 : CS :=
  (sFor (iSeq (cBin oIx (cVar 0) (cVar 4))) (gUnp 3 (Co.gCons (gNm 5) (Co.gCons (gNm 6) (Co.gCons (gNm 7) Co.gNil)))) lb_heights_of_1)
def lc_heights_of_3 : CE :=
  (cVar 3)
def lb_heights_of_3 : CS :=
  (sSeq (sAsg (cK (.bl false)) (gNm 3)) (sLock (cVar 0) (sFor (iDct (cVar 0)) (gNm 4) lb_heights_of_2)))
def b_heights_of : CS :=
  (sSeq (sPar2 2 3 (aCons (cLock (cVar 0) cp_heights_of_1) (aCons (cK (.bl true)) aNil))) (sSeq (sWhile lc_heights_of_3 lb_heights_of_3) (sRet (cVar 2))))
def f_heights_of : BL := runB 9 b_heights_of
def lb_tight_of_1 : CS :=
  (sIf (cBin oEq (cBin oSub (cBin oAdd (cBin oIx (cVar 4) (cVar 2)) (cBin oMul (cVar 10) (cBin oIx (cVar 1) (cK (.int 1))))) (cBin oIx (cVar 1) (cK (.int 0)))) (cBin oIx (cVar 4) (cVar 9))) (sExpr (cMeth "list" mAppend (cVar 6) (aCons (cTup (aCons (cVar 8) (aCons (cVar 9) aNil))) aNil))) sNx)
def lb_tight_of_2 : CS :=
  (sSeq (sAsg (cLst aNil) (gNm 6)) (sSeq (sFor (iSeq (cBin oIx (cVar 0) (cVar 2))) (gUnp 3 (Co.gCons (gNm 8) (Co.gCons (gNm 9) (Co.gCons (gNm 10) Co.gNil)))) lb_tight_of_1) (sAsg (cVar 6) (Co.gSub (cVar 5) (cVar 2) oSet))))
def cp_tight_of_1 : CE :=
  cComp (iSeq (cBin oIx (cVar 5) (cVar 2))) [11] (gNm 11) (cBin oIn (cBin oIx (cVar 11) (cK (.int 1))) (cVar 5)) (cVar 11)
def lb_tight_of_3 : CS :=
  (sSeq (sAsg cp_tight_of_1 (gNm 6)) (sIf (cBin oNe (cVar 6) (cLst aNil)) (sAsg (cVar 6) (Co.gSub (cVar 7) (cVar 2) oSet)) sNx))
def lc_tight_of_4 : CE :=
  (cVar 3)
def lb_tight_of_4 : CS :=
  (sSeq (sAsg cDict0 (gNm 7)) (sSeq (sLock (cVar 5) (sFor (iDct (cVar 5)) (gNm 2) lb_tight_of_3)) (sSeq (sAsg (cBin oNeD (cVar 7) (cVar 5)) (gNm 3)) (sAsg (cVar 7) (gNm 5)))))
def b_tight_of : CS :=
  (sSeq (sAsg (cTup (aCons (cCall f_heights_of (aCons (cVar 0) (aCons (cVar 1) aNil))) (aCons cDict0 aNil))) (gUnp 2 (Co.gCons (gNm 4) (Co.gCons (gNm 5) Co.gNil)))) (sSeq (sLock (cVar 0) (sFor (iDct (cVar 0)) (gNm 2) lb_tight_of_2)) (sSeq (sAsg (cK (.bl true)) (gNm 3)) (sSeq (sWhile lc_tight_of_4 lb_tight_of_4) (sRet (cVar 5))))))
def f_tight_of : BL := runB 12 b_tight_of
def lb_way_into_1 : CS :=
  (sIf (cBin oNotIn (cVar 7) (cVar 3)) (sSeq (sAsg (cBin oAdd (cBin oIx (cVar 3) (cVar 5)) (cLst (aCons (cVar 6) aNil))) (Co.gSub (cVar 3) (cVar 7) oSet)) (sExpr (cMeth "list" mAppend (cVar 4) (aCons (cVar 7) aNil)))) sNx)
def lc_way_into_2 : CE :=
  (cBin oNotIn (cBin oIx (cVar 4) (cK (.int 0))) (cVar 2))
def lb_way_into_2 : CS :=
  (sSeq (sAsg (cMeth "list" mPop (cVar 4) (aCons (cK (.int 0)) aNil)) (gNm 5)) (sFor (iSeq (cBin oIx (cVar 0) (cVar 5))) (gUnp 3 (Co.gCons (gNm 6) (Co.gCons (gNm 7) (Co.gCons (gNm 8) Co.gNil)))) lb_way_into_1))
def b_way_into : CS :=
  (sSeq (sPar2 3 4 (aCons (cDict1 (cVar 1) (cLst aNil)) (aCons (cLst (aCons (cVar 1) aNil)) aNil))) (sSeq (sWhile lc_way_into_2 lb_way_into_2) (sRet (cTup (aCons (cBin oIx (cVar 3) (cBin oIx (cVar 4) (cK (.int 0)))) (aCons (cBin oIx (cVar 4) (cK (.int 0))) aNil))))))
def f_way_into : BL := runB 9 b_way_into
def lc_best_ring_1 : CE :=
  (cBin oNotIn (cVar 4) (cVar 6))
def lb_best_ring_1 : CS :=
  (sSeq (sAsg (cCall bLen (aCons (cVar 5) aNil)) (Co.gSub (cVar 6) (cVar 4) oSet)) (sSeq (sAsg (cBin oIx (cBin oIx (cVar 2) (cVar 4)) (cK (.int 0))) (gUnp 2 (Co.gCons (gNm 7) (Co.gCons (gNm 4) Co.gNil)))) (sExpr (cMeth "list" mAppend (cVar 5) (aCons (cVar 7) aNil)))))
def b_best_ring : CS :=
  (sSeq (sAsg (cCall f_tight_of (aCons (cVar 0) (aCons (cCall f_mean_of (aCons (cVar 0) aNil)) aNil))) (gNm 2)) (sSeq (sAsg (cCall f_way_into (aCons (cVar 0) (aCons (cVar 1) (aCons (cVar 2) aNil)))) (gUnp 2 (Co.gCons (gNm 3) (Co.gCons (gNm 4) Co.gNil)))) (sSeq (sPar2 5 6 (aCons (cCall bList (aCons (cVar 3) aNil)) (aCons cDict0 aNil))) (sSeq (sWhile lc_best_ring_1 lb_best_ring_1) (sRet (cTup (aCons (cSlice (cVar 5) none (some (cBin oIx (cVar 6) (cVar 4)))) (aCons (cSlice (cVar 5) (some (cBin oIx (cVar 6) (cVar 4))) none) aNil))))))))
def f_best_ring : BL := runB 8 b_best_ring
def b_losing_row : CS :=
  (sSeq (sExpr (cCall f_need_both (aCons (cVar 0) (aCons (cVar 1) aNil)))) (sRet (cCall f_best_ring (aCons (cCall f_worths (aCons (cVar 0) (aCons (cVar 1) aNil))) (aCons (cCall f_begun aNil) aNil)))))
def f_losing_row : BL := runB 2 b_losing_row
def lb_law_graph_1 : CS :=
  (sSeq (sAsg (cCall f_law_tick (aCons (cVar 0) (aCons (cVar 1) (aCons (cVar 5) (aCons (cVar 7) aNil))))) (gUnp 3 (Co.gCons (gNm 8) (Co.gCons (gNm 9) (Co.gCons (gNm 10) Co.gNil))))) (sSeq (sExpr (cMeth "list" mAppend (cVar 2) (aCons (cTup (aCons (cVar 6) (aCons (cCall f_law_key (aCons (cVar 1) (aCons (cVar 8) aNil))) (aCons (cIte (cBin oIx (cVar 9) (cK (.int 2))) (cK (.int 1)) (cK (.int 0))) aNil)))) aNil))) (sExpr (cMeth "list" mAppend (cVar 3) (aCons (cVar 8) aNil)))))
def lc_law_graph_2 : CE :=
  (cBin oNe (cVar 3) (cLst aNil))
def lb_law_graph_2 : CS :=
  (sSeq (sAsg (cMeth "list" mPop (cVar 3) aNil) (gNm 5)) (sSeq (sAsg (cCall f_law_key (aCons (cVar 1) (aCons (cVar 5) aNil))) (gNm 6)) (sSeq (sIf (cBin oIn (cVar 6) (cVar 4)) sCnt sNx) (sSeq (sAsg (cK (.bl true)) (Co.gSub (cVar 4) (cVar 6) oSet)) (sFor (iSeq (cTup (aCons (cK (.int 0)) (aCons (cK (.int 1)) (aCons (cK (.int 2)) aNil))))) (gNm 7) lb_law_graph_1)))))
def b_law_graph : CS :=
  (sSeq (sPar3 2 3 4 (aCons (cLst aNil) (aCons (cLst (aCons (cCall f_law_begin aNil) aNil)) (aCons cDict0 aNil)))) (sSeq (sWhile lc_law_graph_2 lb_law_graph_2) (sRet (cVar 2))))
def f_law_graph : BL := runB 11 b_law_graph
def lb_first_loss_1 : CS :=
  (sSeq (sIf (cBin oIx (cVar 10) (cK (.int 2))) (sRet (cBin oAdd (cVar 6) (cLst (aCons (cVar 8) aNil)))) sNx) (sIf (cBin oNotIn (cVar 9) (cVar 4)) (sSeq (sAsg (cK (.bl true)) (Co.gSub (cVar 4) (cVar 9) oSet)) (sExpr (cMeth "list" mAppend (cVar 5) (aCons (cTup (aCons (cBin oAdd (cVar 6) (cLst (aCons (cVar 8) aNil))) (aCons (cVar 9) aNil))) aNil)))) sNx))
def lb_first_loss_2 : CS :=
  (sFor (iSeq (cBin oIx (cVar 2) (cVar 7))) (gUnp 3 (Co.gCons (gNm 8) (Co.gCons (gNm 9) (Co.gCons (gNm 10) Co.gNil)))) lb_first_loss_1)
def lc_first_loss_3 : CE :=
  (cBin oNe (cVar 3) (cLst aNil))
def lb_first_loss_3 : CS :=
  (sSeq (sAsg (cLst aNil) (gNm 5)) (sSeq (sFor (iSeq (cVar 3)) (gUnp 2 (Co.gCons (gNm 6) (Co.gCons (gNm 7) Co.gNil))) lb_first_loss_2) (sAsg (cVar 5) (gNm 3))))
def b_first_loss : CS :=
  (sSeq (sExpr (cCall f_need_both (aCons (cVar 0) (aCons (cVar 1) aNil)))) (sSeq (sPar3 2 3 4 (aCons (cCall f_graph_of (aCons (cVar 0) (aCons (cVar 1) aNil))) (aCons (cLst (aCons (cTup (aCons (cLst aNil) (aCons (cCall f_begun aNil) aNil))) aNil)) (aCons (cDict1 (cCall f_begun aNil) (cK (.bl true))) aNil)))) (sSeq (sWhile lc_first_loss_3 lb_first_loss_3) (sRet (cK .non)))))
def f_first_loss : BL := runB 11 b_first_loss
def b_need_two : CS :=
  (sSeq (sExpr (cCall f_need_setting (aCons (cVar 0) aNil))) (sSeq (sExpr (cCall f_need_rule (aCons (cVar 1) aNil))) (sExpr (cCall f_need_rule (aCons (cVar 2) aNil)))))
def f_need_two : BL := runB 3 b_need_two
def b_need_range : CS :=
  (sIf (cNot (cCall f_is_int (aCons (cVar 0) (aCons (cK (.int 1)) (aCons (cK (.int 3)) aNil))))) (sRz "InvalidRange") sNx)
def f_need_range : BL := runB 1 b_need_range
def cp_comings_of_1 : CE :=
  cComp (iSeq (cTup (aCons (cK (.int 0)) (aCons (cK (.int 1)) (aCons (cK (.int 2)) aNil))))) [1] (gNm 1) (cOr (cBin oIn (cVar 1) (cTup (aCons (cK (.int 0)) (aCons (cVar 0) aNil)))) (cBin oEq (cVar 0) (cK (.int 3)))) (cVar 1)
def b_comings_of : CS :=
  (sRet cp_comings_of_1)
def f_comings_of : BL := runB 2 b_comings_of
def lb_parted_1 : CS :=
  (sSeq (sAsg (cCall f_step (aCons (cVar 0) (aCons (cVar 1) (aCons (cBin oIx (cVar 9) (cK (.int 0))) (aCons (cVar 10) aNil))))) (gUnp 2 (Co.gCons (gNm 11) (Co.gCons (gNm 12) Co.gNil)))) (sSeq (sAsg (cCall f_step (aCons (cVar 0) (aCons (cVar 2) (aCons (cBin oIx (cVar 9) (cK (.int 1))) (aCons (cVar 10) aNil))))) (gUnp 2 (Co.gCons (gNm 13) (Co.gCons (gNm 14) Co.gNil)))) (sSeq (sIf (cBin oNe (cVar 12) (cVar 14)) (sRet (cBin oAdd (cVar 8) (cLst (aCons (cVar 10) aNil)))) sNx) (sIf (cBin oNotIn (cTup (aCons (cVar 11) (aCons (cVar 13) aNil))) (cVar 6)) (sSeq (sAsg (cK (.bl true)) (Co.gSub (cVar 6) (cTup (aCons (cVar 11) (aCons (cVar 13) aNil))) oSet)) (sExpr (cMeth "list" mAppend (cVar 7) (aCons (cTup (aCons (cBin oAdd (cVar 8) (cLst (aCons (cVar 10) aNil))) (aCons (cTup (aCons (cVar 11) (aCons (cVar 13) aNil))) aNil))) aNil)))) sNx))))
def lb_parted_2 : CS :=
  (sFor (iSeq (cCall f_comings_of (aCons (cVar 3) aNil))) (gNm 10) lb_parted_1)
def lc_parted_3 : CE :=
  (cBin oNe (cVar 5) (cLst aNil))
def lb_parted_3 : CS :=
  (sSeq (sAsg (cLst aNil) (gNm 7)) (sSeq (sFor (iSeq (cVar 5)) (gUnp 2 (Co.gCons (gNm 8) (Co.gCons (gNm 9) Co.gNil))) lb_parted_2) (sAsg (cVar 7) (gNm 5))))
def b_parted : CS :=
  (sSeq (sPar2 5 6 (aCons (cLst (aCons (cTup (aCons (cLst aNil) (aCons (cVar 4) aNil))) aNil)) (aCons (cDict1 (cVar 4) (cK (.bl true))) aNil))) (sSeq (sWhile lc_parted_3 lb_parted_3) (sRet (cK .non))))
def f_parted : BL := runB 15 b_parted
def b_parting_comings : CS :=
  (sSeq (sExpr (cCall f_need_two (aCons (cVar 0) (aCons (cVar 1) (aCons (cVar 2) aNil))))) (sSeq (sExpr (cCall f_need_range (aCons (cVar 3) aNil))) (sRet (cCall f_parted (aCons (cVar 0) (aCons (cVar 1) (aCons (cVar 2) (aCons (cVar 3) (aCons (cTup (aCons (cCall f_begun aNil) (aCons (cCall f_begun aNil) aNil))) aNil)))))))))
def f_parting_comings : BL := runB 4 b_parting_comings
def lb_law_parted_1 : CS :=
  (sSeq (sAsg (cCall f_law_tick (aCons (cVar 0) (aCons (cVar 1) (aCons (cVar 12) (aCons (cVar 11) aNil))))) (gNm 14)) (sSeq (sAsg (cCall f_law_tick (aCons (cVar 0) (aCons (cVar 2) (aCons (cVar 13) (aCons (cVar 11) aNil))))) (gNm 15)) (sSeq (sIf (cBin oNe (cBin oIx (cVar 14) (cK (.int 1))) (cBin oIx (cVar 15) (cK (.int 1)))) (sRet (cBin oAdd (cVar 8) (cLst (aCons (cVar 11) aNil)))) sNx) (sExpr (cMeth "list" mAppend (cVar 7) (aCons (cTup (aCons (cBin oAdd (cVar 8) (cLst (aCons (cVar 11) aNil))) (aCons (cTup (aCons (cBin oIx (cVar 14) (cK (.int 0))) (aCons (cBin oIx (cVar 15) (cK (.int 0))) aNil))) aNil))) aNil))))))
def lb_law_parted_2 : CS :=
  (sSeq (sAsg (cVar 9) (gUnp 2 (Co.gCons (gNm 12) (Co.gCons (gNm 13) Co.gNil)))) (sSeq (sAsg (cTup (aCons (cCall f_law_key (aCons (cVar 1) (aCons (cVar 12) aNil))) (aCons (cCall f_law_key (aCons (cVar 2) (aCons (cVar 13) aNil))) aNil))) (gNm 10)) (sSeq (sIf (cBin oIn (cVar 10) (cVar 6)) sCnt sNx) (sSeq (sAsg (cK (.bl true)) (Co.gSub (cVar 6) (cVar 10) oSet)) (sFor (iSeq (cVar 3)) (gNm 11) lb_law_parted_1)))))
def lc_law_parted_3 : CE :=
  (cBin oNe (cVar 5) (cLst aNil))
def lb_law_parted_3 : CS :=
  (sSeq (sAsg (cLst aNil) (gNm 7)) (sSeq (sFor (iSeq (cVar 5)) (gUnp 2 (Co.gCons (gNm 8) (Co.gCons (gNm 9) Co.gNil))) lb_law_parted_2) (sAsg (cVar 7) (gNm 5))))
def b_law_parted : CS :=
  (sSeq (sPar2 5 6 (aCons (cLst (aCons (cTup (aCons (cLst aNil) (aCons (cVar 4) aNil))) aNil)) (aCons cDict0 aNil))) (sSeq (sWhile lc_law_parted_3 lb_law_parted_3) (sRet (cK .non))))
def f_law_parted : BL := runB 16 b_law_parted
def b_need_few : CS :=
  (sIf (cNot (cCall f_is_int (aCons (cVar 0) (aCons (cK (.int 0)) (aCons (cK (.int 6)) aNil))))) (sRz "InvalidCount") sNx)
def f_need_few : BL := runB 1 b_need_few
def cp_all_rows_1 : CE :=
  cComp (iSeq (cTup (aCons (cK (.int 0)) (aCons (cK (.int 1)) (aCons (cK (.int 2)) aNil))))) [5] (gNm 5) cTrue (cBin oAdd (cVar 4) (cLst (aCons (cVar 5) aNil)))
def lb_all_rows_1 : CS :=
  (sExpr (cMeth "list" mExtend (cVar 3) (aCons cp_all_rows_1 aNil)))
def lb_all_rows_2 : CS :=
  (sSeq (sAsg (cLst aNil) (gNm 3)) (sSeq (sFor (iSeq (cVar 1)) (gNm 4) lb_all_rows_1) (sAsg (cVar 3) (gNm 1))))
def b_all_rows : CS :=
  (sSeq (sAsg (cLst (aCons (cLst aNil) aNil)) (gNm 1)) (sSeq (sFor (iRange (aCons (cVar 0) aNil)) (gNm 2) lb_all_rows_2) (sRet (cVar 1))))
def f_all_rows : BL := runB 6 b_all_rows
def lb_naive_parting_1 : CS :=
  (sIf (cBin oNe (cCall f_notes_of (aCons (cVar 0) (aCons (cVar 1) (aCons (cVar 5) aNil)))) (cCall f_notes_of (aCons (cVar 0) (aCons (cVar 2) (aCons (cVar 5) aNil))))) (sRet (cVar 5)) sNx)
def lb_naive_parting_2 : CS :=
  (sFor (iSeq (cCall f_all_rows (aCons (cVar 4) aNil))) (gNm 5) lb_naive_parting_1)
def b_naive_parting : CS :=
  (sSeq (sExpr (cCall f_need_two (aCons (cVar 0) (aCons (cVar 1) (aCons (cVar 2) aNil))))) (sSeq (sExpr (cCall f_need_few (aCons (cVar 3) aNil))) (sSeq (sFor (iRange (aCons (cK (.int 1)) (aCons (cBin oAdd (cVar 3) (cK (.int 1))) aNil))) (gNm 4) lb_naive_parting_2) (sRet (cK .non)))))
def f_naive_parting : BL := runB 6 b_naive_parting
end Lw
namespace Lw
open PySem Co
/-! ### places as keys -/
def codeL (l : List Int) : Nat := l.foldl (fun a x => a * 8 + x.toNat + 1) 0
def codeP (p : Pl) : Nat := ((((codeL p.line * 1048576 + codeL p.inside) * 4096 + codeL p.waits) * 8 + p.inner.toNat) * 8 + p.last.toNat) * 8 + p.count.toNat
instance (priority := high) fastPl : DecidableEq Pl := fun a b => match h : Nat.beq (codeP a) (codeP b) with
  | true => instDecidableEqPl a b
  | false => .isFalse fun e => by rw [e, Nat.beq_refl] at h; cases h
theorem seqAt_I (l : List Int) (m : MH) : seqAt (encI l) m = some (l.map .int) := by
  have h : (encI l).toL = some (l.map .int) := MV.toL_ofL _
  cases l with
  | nil => exact h
  | cons a b => exact h
theorem Enc.P : Enc encP := ⟨fun m k x => by
    obtain ⟨a, b, c, d, e, f⟩ := x
    have h1 := fun k l => deep_I m (k + 1) l
    simp only [encP]
    show chainM (Co.deep m (k + 2)) _ = _
    simp only [chainM, deep_I m (k + 1), Option.bind_some, Option.map_some]
    rfl, fun x y => by
    obtain ⟨a, b, c, d, e, f⟩ := x
    obtain ⟨a', b', c', d', e', f'⟩ := y
    simp only [encP, eqv, eqv_I, Bool.beq_eq_decide_eq]
    by_cases h1 : a = a' <;> by_cases h2 : b = b' <;> by_cases h3 : c = c' <;> by_cases h4 : d = d' <;> by_cases h5 : e = e' <;> by_cases h6 : f = f' <;> simp [h1, h2, h3, h4, h5, h6]⟩
theorem keyOk_I (k : Nat) (l : List Int) : keyOk (k + 1) (encI l) = true := by
  induction l with
  | nil => rfl
  | cons a l ih =>
    have hT : isT (encI l) = true := by cases l <;> rfl
    have : keyOk (k + 1) (encI (a :: l)) = (keyOk k (.int a) && isT (encI l) && keyOk (k + 1) (encI l)) := rfl
    rw [this, ih, hT]
    cases k <;> rfl
theorem keyOk_P (k : Nat) (p : Pl) : keyOk (k + 2) (encP p) = true := by
  have h1 := keyOk_I k p.line
  have h2 := keyOk_I k p.inside
  have h3 := keyOk_I k p.waits
  simp only [encP, keyOk, h1, h2, h3, isT, Bool.and_true]
theorem isT_P (p : Pl) : isT (encP p) = true := rfl
/-! ### folded, step -/
def foldP (r : Ru) (p : Pl) : Pl := { p with inside := sortI p.inside, last := if r = .turns then p.last else 0, count := if r.isB = true ∧ 2 ∈ p.line then p.count else 0, waits := if r.isP = true then p.waits else List.replicate p.waits.length 0 }
theorem sortI_len (l : List Int) : (sortI l).length = l.length := by
  induction l with
  | nil => rfl
  | cons a l ih =>
    have key : ∀ (x : Int) (l : List Int), (insI x l).length = l.length + 1 := by
      intro x l
      induction l with
      | nil => rfl
      | cons b l ih =>
        unfold insI
        split
        · rfl
        · simp [ih]
    simp only [sortI, key, List.length_cons, ih]
theorem bSorted_I (l : List Int) (m : MH) (h : l.length ≤ 1000000) : bSorted [encI l] m = .ok (.ref m.length) (m ++ [.lst ((sortI l).map .int)]) := by
  simp only [bSorted, seqAt_I, asInts_map]
  exact newL_ok' _ _ (by rw [List.length_map, sortI_len]; exact h)
theorem rep0 (n : Nat) (m : MH) (h : n ≤ 1000) : oMul (.cons (.int 0) .nil) (.int (n : Nat)) m = .ok (encI (List.replicate n 0)) m := by
  simp only [oMul, MV.toL, Option.map_some]
  rw [if_pos (by simp; omega)]
  simp [encI]
theorem folded_ok (r : Ru) (p : Pl) (m : MH) (h1 : p.inside.length ≤ 1000) (h2 : p.waits.length ≤ 1000) : ∃ g, f_folded [encR r, encP p] m = .ok (encP (foldP r p)) (m ++ g) := by
  obtain ⟨line, inside, inner, last, count, waits⟩ := p
  simp only at h1 h2
  have w0 := ixR0 r
  have wt := w_turns r
  have wb := w_bound r
  have wp := w_patience r
  have i2 := oIn_I m 2 line
  have bl : bLen [encI waits] m = .ok (.int (waits.length : Nat)) m := bLen_I m waits
  have rp := rep0 waits.length m h2
  have so := bSorted_I inside m (by omega)
  obtain ⟨m1, hm1⟩ : ∃ m1, m1 = m ++ [MO.lst ((sortI inside).map .int)] := ⟨_, rfl⟩
  have bt := bTuple_ok m1 m.length ((sortI inside).map .int) (by rw [hm1]; simp)
  rw [← hm1] at so
  refine ⟨[MO.lst ((sortI inside).map .int)], ?_⟩
  rw [← hm1]
  obtain ⟨L, hL⟩ : ∃ L, L = if r = .turns then last else 0 := ⟨_, rfl⟩
  obtain ⟨C, hC⟩ : ∃ C, C = if r.isB = true ∧ 2 ∈ line then count else 0 := ⟨_, rfl⟩
  obtain ⟨W, hW⟩ : ∃ W, W = if r.isP = true then waits else List.replicate waits.length 0 := ⟨_, rfl⟩
  have hf : foldP r ⟨line, inside, inner, last, count, waits⟩ = ⟨line, sortI inside, inner, L, C, W⟩ := by rw [hL, hC, hW]; rfl
  rw [hf]
  show runB 8 b_folded _ m = _
  unfold runB b_folded
  simp only [slots, List.map_cons, List.map_nil, List.length_cons, List.length_nil, List.cons_append, List.nil_append, List.replicate, Nat.reduceSub, Nat.reduceAdd]
  rw [sSeq, show (sAsg (cVar 1) (gUnp 6 (Co.gCons (gNm 5) (Co.gCons (gNm 6) (Co.gCons (gNm 7) (Co.gCons (gNm 2) (Co.gCons (gNm 3) (Co.gCons (gNm 4) Co.gNil)))))))) [some (encR r), some (encP ⟨line, inside, inner, last, count, waits⟩), none, none, none, none, none, none] m = .ok (.nx [some (encR r), some (encP ⟨line, inside, inner, last, count, waits⟩), some (.int last), some (.int count), some (encI waits), some (encI line), some (encI inside), some (.int inner)]) m from rfl]
  simp only [Res.bind]
  rw [sSeq, show (sAsg (cIte (cBin oEq (cBin oIx (cVar 0) (cK (.int 0))) (cK (.str "turns"))) (cVar 2) (cK (.int 0))) (gNm 2)) [some (encR r), some (encP ⟨line, inside, inner, last, count, waits⟩), some (.int last), some (.int count), some (encI waits), some (encI line), some (encI inside), some (.int inner)] m = .ok (.nx [some (encR r), some (encP ⟨line, inside, inner, last, count, waits⟩), some (.int L), some (.int count), some (encI waits), some (encI line), some (encI inside), some (.int inner)]) m by
    by_cases e : r = .turns
    · have := wt m
      rw [if_pos e] at hL
      rw [decide_eq_true e] at this
      simp only [runB, slots, sSeq, sRet, sIf, sExpr, sAsg, gNm, Co.gCons, Co.gNil, gUnp, Co.gSub, sPar2, sPar3, cVar, cK, cBin, cUn, cNot, cAnd, cOr, cIte, cChain, aNil, aCons, cTup, cLst, cCall, cMeth, cSlice, partOf, sNx, sBrk, sCnt, sBad, sRz, cTrue, Res.bind, MV.ofL, List.map_cons, List.map_nil, List.length_cons, List.length_nil, List.cons_append, List.nil_append, List.getElem?_cons_succ, List.getElem?_cons_zero, List.set_cons_succ, List.set_cons_zero, List.replicate, Nat.reduceSub, Nat.reduceAdd, w0, this, hL]
    · have := wt m
      rw [if_neg e] at hL
      rw [decide_eq_false e] at this
      simp only [runB, slots, sSeq, sRet, sIf, sExpr, sAsg, gNm, Co.gCons, Co.gNil, gUnp, Co.gSub, sPar2, sPar3, cVar, cK, cBin, cUn, cNot, cAnd, cOr, cIte, cChain, aNil, aCons, cTup, cLst, cCall, cMeth, cSlice, partOf, sNx, sBrk, sCnt, sBad, sRz, cTrue, Res.bind, MV.ofL, List.map_cons, List.map_nil, List.length_cons, List.length_nil, List.cons_append, List.nil_append, List.getElem?_cons_succ, List.getElem?_cons_zero, List.set_cons_succ, List.set_cons_zero, List.replicate, Nat.reduceSub, Nat.reduceAdd, w0, this, hL]]
  simp only [Res.bind]
  rw [sSeq, show (sAsg (cIte (cAnd (cBin oEq (cBin oIx (cVar 0) (cK (.int 0))) (cK (.str "bound"))) (cBin oIn (cK (.int 2)) (cVar 5))) (cVar 3) (cK (.int 0))) (gNm 3)) [some (encR r), some (encP ⟨line, inside, inner, last, count, waits⟩), some (.int L), some (.int count), some (encI waits), some (encI line), some (encI inside), some (.int inner)] m = .ok (.nx [some (encR r), some (encP ⟨line, inside, inner, last, count, waits⟩), some (.int L), some (.int C), some (encI waits), some (encI line), some (encI inside), some (.int inner)]) m by
    have wb' := wb m
    cases hb : r.isB with
    | false =>
      rw [hb] at wb'
      rw [if_neg (by simp [hb])] at hC
      simp only [runB, slots, sSeq, sRet, sIf, sExpr, sAsg, gNm, Co.gCons, Co.gNil, gUnp, Co.gSub, sPar2, sPar3, cVar, cK, cBin, cUn, cNot, cAnd, cOr, cIte, cChain, aNil, aCons, cTup, cLst, cCall, cMeth, cSlice, partOf, sNx, sBrk, sCnt, sBad, sRz, cTrue, Res.bind, MV.ofL, List.map_cons, List.map_nil, List.length_cons, List.length_nil, List.cons_append, List.nil_append, List.getElem?_cons_succ, List.getElem?_cons_zero, List.set_cons_succ, List.set_cons_zero, List.replicate, Nat.reduceSub, Nat.reduceAdd, w0, wb', hC]
    | true =>
      rw [hb] at wb'
      by_cases e : 2 ∈ line
      · rw [if_pos ⟨hb, e⟩] at hC
        rw [decide_eq_true e] at i2
        simp only [runB, slots, sSeq, sRet, sIf, sExpr, sAsg, gNm, Co.gCons, Co.gNil, gUnp, Co.gSub, sPar2, sPar3, cVar, cK, cBin, cUn, cNot, cAnd, cOr, cIte, cChain, aNil, aCons, cTup, cLst, cCall, cMeth, cSlice, partOf, sNx, sBrk, sCnt, sBad, sRz, cTrue, Res.bind, MV.ofL, List.map_cons, List.map_nil, List.length_cons, List.length_nil, List.cons_append, List.nil_append, List.getElem?_cons_succ, List.getElem?_cons_zero, List.set_cons_succ, List.set_cons_zero, List.replicate, Nat.reduceSub, Nat.reduceAdd, w0, wb', i2, hC]
      · rw [if_neg (fun z => e z.2)] at hC
        rw [decide_eq_false e] at i2
        simp only [runB, slots, sSeq, sRet, sIf, sExpr, sAsg, gNm, Co.gCons, Co.gNil, gUnp, Co.gSub, sPar2, sPar3, cVar, cK, cBin, cUn, cNot, cAnd, cOr, cIte, cChain, aNil, aCons, cTup, cLst, cCall, cMeth, cSlice, partOf, sNx, sBrk, sCnt, sBad, sRz, cTrue, Res.bind, MV.ofL, List.map_cons, List.map_nil, List.length_cons, List.length_nil, List.cons_append, List.nil_append, List.getElem?_cons_succ, List.getElem?_cons_zero, List.set_cons_succ, List.set_cons_zero, List.replicate, Nat.reduceSub, Nat.reduceAdd, w0, wb', i2, hC]]
  simp only [Res.bind]
  rw [sSeq, show (sAsg (cIte (cBin oEq (cBin oIx (cVar 0) (cK (.int 0))) (cK (.str "patience"))) (cVar 4) (cBin oMul (cTup (aCons (cK (.int 0)) aNil)) (cCall bLen (aCons (cVar 4) aNil)))) (gNm 4)) [some (encR r), some (encP ⟨line, inside, inner, last, count, waits⟩), some (.int L), some (.int C), some (encI waits), some (encI line), some (encI inside), some (.int inner)] m = .ok (.nx [some (encR r), some (encP ⟨line, inside, inner, last, count, waits⟩), some (.int L), some (.int C), some (encI W), some (encI line), some (encI inside), some (.int inner)]) m by
    have wp' := wp m
    cases hb : r.isP with
    | false =>
      rw [hb] at wp'
      rw [if_neg (by simp [hb])] at hW
      simp only [runB, slots, sSeq, sRet, sIf, sExpr, sAsg, gNm, Co.gCons, Co.gNil, gUnp, Co.gSub, sPar2, sPar3, cVar, cK, cBin, cUn, cNot, cAnd, cOr, cIte, cChain, aNil, aCons, cTup, cLst, cCall, cMeth, cSlice, partOf, sNx, sBrk, sCnt, sBad, sRz, cTrue, Res.bind, MV.ofL, List.map_cons, List.map_nil, List.length_cons, List.length_nil, List.cons_append, List.nil_append, List.getElem?_cons_succ, List.getElem?_cons_zero, List.set_cons_succ, List.set_cons_zero, List.replicate, Nat.reduceSub, Nat.reduceAdd, w0, wp', bl, rp, hW]
    | true =>
      rw [hb] at wp'
      rw [if_pos hb] at hW
      simp only [runB, slots, sSeq, sRet, sIf, sExpr, sAsg, gNm, Co.gCons, Co.gNil, gUnp, Co.gSub, sPar2, sPar3, cVar, cK, cBin, cUn, cNot, cAnd, cOr, cIte, cChain, aNil, aCons, cTup, cLst, cCall, cMeth, cSlice, partOf, sNx, sBrk, sCnt, sBad, sRz, cTrue, Res.bind, MV.ofL, List.map_cons, List.map_nil, List.length_cons, List.length_nil, List.cons_append, List.nil_append, List.getElem?_cons_succ, List.getElem?_cons_zero, List.set_cons_succ, List.set_cons_zero, List.replicate, Nat.reduceSub, Nat.reduceAdd, w0, wp', hW]]
  simp only [runB, slots, sSeq, sRet, sIf, sExpr, sAsg, gNm, Co.gCons, Co.gNil, gUnp, Co.gSub, sPar2, sPar3, cVar, cK, cBin, cUn, cNot, cAnd, cOr, cIte, cChain, aNil, aCons, cTup, cLst, cCall, cMeth, cSlice, partOf, sNx, sBrk, sCnt, sBad, sRz, cTrue, Res.bind, MV.ofL, List.map_cons, List.map_nil, List.length_cons, List.length_nil, List.cons_append, List.nil_append, List.getElem?_cons_succ, List.getElem?_cons_zero, List.set_cons_succ, List.set_cons_zero, List.replicate, Nat.reduceSub, Nat.reduceAdd, so, bt]
  rfl
def stepP (s : Se) (r : Ru) (p : Pl) (c : Int) : Pl := foldP r (tickP s r p c)
structure PlOk (p : Pl) : Prop where
  kd : Kd p
  l : p.line.length ≤ 50
  i : p.inside.length ≤ 50
theorem step_ok (s : Se) (r : Ru) (p : Pl) (c : Int) (m : MH) (h : PlOk p) (hc : c = 0 ∨ c = 1 ∨ c = 2) (h2 : (tickP s r p c).inside.length ≤ 1000) (h3 : (tickP s r p c).waits.length ≤ 1000) :
    ∃ g, f_step [encS s, encR r, encP p, .int c] m = .ok (.cons (encP (stepP s r p c)) (.cons (encN (tickN s r p c)) .nil)) (m ++ g) := by
  obtain ⟨g1, e1⟩ := tick_ok s r p c m h.kd hc (by have := h.l; omega) (by have := h.i; omega)
  obtain ⟨g2, e2⟩ := folded_ok r (tickP s r p c) (m ++ g1) h2 h3
  refine ⟨g1 ++ g2, ?_⟩
  rw [← List.append_assoc]
  simp only [f_step, b_step, runB, slots, sSeq, sRet, sIf, sExpr, sAsg, gNm, Co.gCons, Co.gNil, gUnp, Co.gSub, sPar2, sPar3, cVar, cK, cBin, cUn, cNot, cAnd, cOr, cIte, cChain, aNil, aCons, cTup, cLst, cCall, cMeth, cSlice, partOf, sNx, sBrk, sCnt, sBad, sRz, cTrue, Res.bind, MV.ofL, List.map_cons, List.map_nil, List.length_cons, List.length_nil, List.cons_append, List.nil_append, List.getElem?_cons_succ, List.getElem?_cons_zero, List.set_cons_succ, List.set_cons_zero, List.replicate, Nat.reduceSub, Nat.reduceAdd, e1, e2]
  rfl
end Lw

namespace Lw
open PySem Co
/-! ### texts -/
abbrev d3 : List Str := ["1", "2", "3"]
def strsOf : Ru → List Str
  | .bound n => ["bound", Str.ofString (toString n)]
  | .patience n => ["patience", Str.ofString (toString n)]
  | r => [r.word]
def T30 (r : Ru) : Str := Txt.join " " (strsOf r)
def cpsOk (x : Str) : Bool := x.cps.all (· < 0x110000)
def nOf (x : Str) : Int := (PySem.intText? x).getD 0
/-- what is asked of a text that is read as a rule -/
def okT (x : Str) : Bool := !(Txt.split x " ").isEmpty && (Txt.split x " ").all cpsOk && decide (x.length ≤ 1000) && decide ((Txt.split x " ").length ≤ 1000)
def rules10 : List Ru := [.line, .many, .one, .turns, .bound 1, .bound 2, .bound 3, .patience 1, .patience 2, .patience 3]
theorem ru10 {r : Ru} (h : RuOk r) : r ∈ rules10 := by
  cases r with
  | bound n =>
    obtain ⟨h1, h2⟩ := h
    have : n = 1 ∨ n = 2 ∨ n = 3 := by omega
    rcases this with rfl | rfl | rfl <;> decide
  | patience n =>
    obtain ⟨h1, h2⟩ := h
    have : n = 1 ∨ n = 2 ∨ n = 3 := by omega
    rcases this with rfl | rfl | rfl <;> decide
  | _ => decide
theorem t_all : (rules10.all fun r => decide (Txt.split (T30 r) " " = strsOf r) && (decide ((T30 r).length ≤ 20) && (okT (T30 r) && decide (((strsOf r).map (·.length)).sum + (strsOf r).length * 1 ≤ 100000)))) = true := by decide +kernel
theorem int3 : (d3.all fun w => decide ((PySem.intText? w).isSome = true) && (decide (w.length ≤ 640) && cpsOk w)) = true := by decide +kernel
abbrev sg6 : List Str := ["", "1", " ", " 2", "e", "0"]
def mk30 (x : Str) (at_ : Int) (sg : Str) (d : Int) : Str := L2.cutS x none (some at_) ++ sg ++ L2.cutS x (some (at_ + d)) none
theorem spl_ok (P : Nat → Bool) (S : List Nat) : ∀ (l : List Nat) (k : Nat) (acc : List Nat), acc.all P = true → l.all P = true → (TL.spl S k acc l).all (fun w => w.all P) = true ∧ (TL.spl S k acc l).length ≤ l.length + 1 ∧ (TL.spl S k acc l) ≠ []
  | [], k, acc, ha, hl => by rw [TL.spl_nil]; simp; simpa using ha
  | c :: r, 0, acc, ha, hl => by
    rw [List.all_cons, Bool.and_eq_true] at hl
    show (if TL.pre S (c :: r) = true then acc :: TL.spl S (S.length - 1) [] r else TL.spl S 0 (acc ++ [c]) r).all _ = true ∧ (if TL.pre S (c :: r) = true then acc :: TL.spl S (S.length - 1) [] r else TL.spl S 0 (acc ++ [c]) r).length ≤ _ ∧ (if TL.pre S (c :: r) = true then acc :: TL.spl S (S.length - 1) [] r else TL.spl S 0 (acc ++ [c]) r) ≠ []
    split
    · obtain ⟨h1, h2, h3⟩ := spl_ok P S r (S.length - 1) [] rfl hl.2
      refine ⟨by rw [List.all_cons, ha, h1]; rfl, by simp only [List.length_cons]; omega, by simp⟩
    · obtain ⟨h1, h2, h3⟩ := spl_ok P S r 0 (acc ++ [c]) (by rw [List.all_append, ha]; simp [hl.1]) hl.2
      exact ⟨h1, by simp only [List.length_cons]; omega, h3⟩
  | c :: r, k + 1, acc, ha, hl => by
    rw [List.all_cons, Bool.and_eq_true] at hl
    show (TL.spl S k acc r).all _ = true ∧ (TL.spl S k acc r).length ≤ _ ∧ (TL.spl S k acc r) ≠ []
    obtain ⟨h1, h2, h3⟩ := spl_ok P S r k acc ha hl.2
    exact ⟨h1, by simp only [List.length_cons]; omega, h3⟩
theorem cpsOk_tl (x : Str) : cpsOk x = x.cps.toList.all (fun c => decide (c < 0x110000)) := by rw [cpsOk, Array.all_toList]
theorem okT_of {x : Str} (h : cpsOk x = true) (hl : x.length ≤ 900) : okT x = true := by
  obtain ⟨l, rfl⟩ : ∃ l, x = SX.S l := ⟨x.cps.toList, (SX.S_tl x).symm⟩
  have e0 : (" " : Str) = SX.S [32] := by decide +kernel
  rw [cpsOk_tl] at h
  rw [SX.S_len] at hl
  have h' : l.all (fun c => decide (c < 0x110000)) = true := by simpa using h
  obtain ⟨h1, h2, h3⟩ := spl_ok (fun c => decide (c < 0x110000)) [32] l 0 [] rfl h'
  have es := SX.split_S (a := l) (b := [32]) (by decide) (by decide)
  unfold okT
  rw [e0, es]
  simp only [Bool.and_eq_true, Bool.not_eq_true', decide_eq_true_eq, List.length_map, SX.S_len]
  refine ⟨⟨⟨by simpa using h3, ?_⟩, by omega⟩, by omega⟩
  rw [List.all_map]
  refine List.all_eq_true.mpr fun w hw => ?_
  show cpsOk (SX.S w) = true
  rw [cpsOk_tl]
  have := List.all_eq_true.mp h1 w hw
  simpa using this
theorem cutS_len (x : Str) (lo hi : Option Int) : (L2.cutS x lo hi).length ≤ x.length := by
  show (SX.S _).length ≤ _
  rw [SX.S_len, List.length_take, List.length_drop]
  show _ ≤ x.cps.size
  simp only [Array.length_toList]
  omega
theorem cut_cps (x : Str) (lo hi : Option Int) (h : cpsOk x = true) : cpsOk (L2.cutS x lo hi) = true := by
  rw [cpsOk_tl] at h ⊢
  refine List.all_eq_true.mpr fun c hc => List.all_eq_true.mp h c ?_
  exact List.mem_of_mem_drop (List.mem_of_mem_take (by simpa [L2.cutS] using hc))
theorem cat_cps (x y : Str) (h : cpsOk x = true) (h2 : cpsOk y = true) : cpsOk (x ++ y) = true ∧ (x ++ y).length = x.length + y.length := by
  obtain ⟨l, rfl⟩ : ∃ l, x = SX.S l := ⟨x.cps.toList, (SX.S_tl x).symm⟩
  obtain ⟨k, rfl⟩ : ∃ k, y = SX.S k := ⟨y.cps.toList, (SX.S_tl y).symm⟩
  rw [SX.S_cat, SX.S_len, SX.S_len, SX.S_len, List.length_append]
  rw [cpsOk_tl] at h h2 ⊢
  refine ⟨?_, rfl⟩
  simp only [List.all_append, Bool.and_eq_true] at h h2 ⊢
  exact ⟨by simpa using h, by simpa using h2⟩
theorem sg_ok : (sg6.all fun sg => cpsOk sg && decide (sg.length ≤ 2)) = true := by decide +kernel
theorem n_one (x : Str) (at_ d : Int) (sg : Str) (hx : cpsOk x = true) (hl : x.length ≤ 20) (hs : sg ∈ sg6) : okT (mk30 x at_ sg d) = true ∧ (L2.cutS x none (some at_)).length + sg.length ≤ 100000 ∧ (L2.cutS x none (some at_) ++ sg).length + (L2.cutS x (some (at_ + d)) none).length ≤ 100000 := by
  have h := List.all_eq_true.mp sg_ok sg hs
  simp only [Bool.and_eq_true, decide_eq_true_eq] at h
  have a1 := cut_cps x none (some at_) hx
  have a2 := cut_cps x (some (at_ + d)) none hx
  have b1 := cutS_len x none (some at_)
  have b2 := cutS_len x (some (at_ + d)) none
  have c1 := cat_cps _ _ a1 h.1
  have c2 := cat_cps _ _ c1.1 a2
  exact ⟨okT_of c2.1 (by rw [mk30, c2.2, c1.2]; omega), by omega, by rw [c1.2]; omega⟩
end Lw

namespace Lw
open PySem Co
def cp_parse_comings_x_1 : CE :=
  cComp (Co.iStr (cVar 0)) [1] (gNm 1) cTrue (cBin oIn (cVar 1) (cK (.str "012")))
def cp_parse_comings_x_2 : CE :=
  cComp (Co.iStr (cVar 0)) [1] (gNm 1) cTrue (cCall bInt (aCons (cVar 1) aNil))
def bx_parse_comings : CS :=
  (sSeq (sIfX (cOr (cNot (cUn (oIsi "str") (cVar 0))) (cOr (cBin oGt (cCall bLen (aCons (cVar 0) aNil)) (cK (.int 40))) (cNot (cCall bAll (aCons cp_parse_comings_x_1 aNil))))) (sRz "ParseError") sNx) (sNox (sRet cp_parse_comings_x_2)))
def fx_parse_comings : BL := runB 2 bx_parse_comings
def cp_parse_rule_x_1 : CE :=
  cComp (iSeq (cSlice (cVar 1) (some (cK (.int 1))) none)) [3] (gNm 3) cTrue (cBin oIn (cVar 3) (cTup (aCons (cK (.str "1")) (aCons (cK (.str "2")) (aCons (cK (.str "3")) aNil)))))
def cp_parse_rule_x_2 : CE :=
  cComp (iSeq (cSlice (cVar 1) (some (cK (.int 1))) none)) [3] (gNm 3) cTrue (cCall bInt (aCons (cVar 3) aNil))
def bx_parse_rule : CS :=
  (sSeq (sIfX (cNot (cUn (oIsi "str") (cVar 0))) (sRz "ParseError") sNx) (sSeq (sNox (sAsg (cMeth "str" mSplit (cVar 0) (aCons (cK (.str " ")) aNil)) (gNm 1))) (sSeq (sIfX (cNot (cCall bAll (aCons cp_parse_rule_x_1 aNil))) (sRz "ParseError") sNx) (sSeq (sNox (sAsg (cBin oAdd (cTup (aCons (cBin oIx (cVar 1) (cK (.int 0))) aNil)) (cCall bTuple (aCons cp_parse_rule_x_2 aNil))) (gNm 2))) (sSeq (sIfX (cNot (cCall f_is_rule (aCons (cVar 2) aNil))) (sRz "ParseError") sNx) (sNox (sRet (cVar 2))))))))
def fx_parse_rule : BL := runB 4 bx_parse_rule
def b_law_read : CS :=
  (sTryR (["ParseError"] : List Str) 2 (cIteX (cBin oEq (cVar 1) (cK (.int 0))) (cCallX fx_parse_comings (aCons (cVar 0) aNil)) (cCallX fx_parse_rule (aCons (cVar 0) aNil))) (fun ec => cIte (cK (.bl (decide (ec = "ParseError")))) (cK .non) (cK (.int 0))))
def f_law_read : BL := runB 3 b_law_read
def cp_format_rule_1 : CE :=
  cComp (iSeq (cVar 0)) [1] (gNm 1) cTrue (cCall bStr (aCons (cVar 1) aNil))
def b_format_rule : CS :=
  (sSeq (sExpr (cCall f_need_rule (aCons (cVar 0) aNil))) (sRet (cMeth "str" mJoin (cK (.str " ")) (aCons cp_format_rule_1 aNil))))
def f_format_rule : BL := runB 2 b_format_rule
def cp_parse_rule_1 : CE :=
  cComp (iSeq (cSlice (cVar 1) (some (cK (.int 1))) none)) [3] (gNm 3) cTrue (cBin oIn (cVar 3) (cTup (aCons (cK (.str "1")) (aCons (cK (.str "2")) (aCons (cK (.str "3")) aNil)))))
def cp_parse_rule_2 : CE :=
  cComp (iSeq (cSlice (cVar 1) (some (cK (.int 1))) none)) [3] (gNm 3) cTrue (cCall bInt (aCons (cVar 3) aNil))
def b_parse_rule : CS :=
  (sSeq (sIf (cNot (cUn (oIsi "str") (cVar 0))) (sRz "ParseError") sNx) (sSeq (sAsg (cMeth "str" mSplit (cVar 0) (aCons (cK (.str " ")) aNil)) (gNm 1)) (sSeq (sIf (cNot (cCall bAll (aCons cp_parse_rule_1 aNil))) (sRz "ParseError") sNx) (sSeq (sAsg (cBin oAdd (cTup (aCons (cBin oIx (cVar 1) (cK (.int 0))) aNil)) (cCall bTuple (aCons cp_parse_rule_2 aNil))) (gNm 2)) (sSeq (sIf (cNot (cCall f_is_rule (aCons (cVar 2) aNil))) (sRz "ParseError") sNx) (sRet (cVar 2)))))))
def f_parse_rule : BL := runB 4 b_parse_rule
def cp_format_comings_1 : CE :=
  cComp (iSeq (cVar 0)) [1] (gNm 1) cTrue (cCall bStr (aCons (cVar 1) aNil))
def b_format_comings : CS :=
  (sSeq (sExpr (cCall f_need_comings (aCons (cVar 0) aNil))) (sRet (cMeth "str" mJoin (cK (.str "")) (aCons cp_format_comings_1 aNil))))
def f_format_comings : BL := runB 2 b_format_comings
def cp_parse_comings_1 : CE :=
  cComp (Co.iStr (cVar 0)) [1] (gNm 1) cTrue (cBin oIn (cVar 1) (cK (.str "012")))
def cp_parse_comings_2 : CE :=
  cComp (Co.iStr (cVar 0)) [1] (gNm 1) cTrue (cCall bInt (aCons (cVar 1) aNil))
def b_parse_comings : CS :=
  (sSeq (sIf (cOr (cNot (cUn (oIsi "str") (cVar 0))) (cOr (cBin oGt (cCall bLen (aCons (cVar 0) aNil)) (cK (.int 40))) (cNot (cCall bAll (aCons cp_parse_comings_1 aNil))))) (sRz "ParseError") sNx) (sRet cp_parse_comings_2))
def f_parse_comings : BL := runB 2 b_parse_comings
def cp_law_1 : CE :=
  cComp (iSeq (cVar 6)) [14] (gNm 14) cTrue (cCall bStr (aCons (cVar 14) aNil))
def cp_law_2 : CE :=
  cComp (iSeq (cVar 5)) [13] (gNm 13) cTrue (cCall bStr (aCons (cVar 13) aNil))
def cp_law_3 : CE :=
  cComp (iSeq (cSlice (cVar 11) (some (cK (.int 1))) none)) [15] (gNm 15) cTrue (cBin oIn (cVar 15) (cTup (aCons (cK (.str "1")) (aCons (cK (.str "2")) (aCons (cK (.str "3")) aNil)))))
def cp_law_4 : CE :=
  cComp (iSeq (cSlice (cVar 11) (some (cK (.int 1))) none)) [15] (gNm 15) cTrue (cCall bInt (aCons (cVar 15) aNil))
def lb_law_1 : CS :=
  (sSeq (sPar2 9 10 (aCons (cCall f_law_draw (aCons (cVar 0) (aCons (cVar 1) (aCons (cBin oAdd (cCall bLen (aCons (cVar 7) aNil)) (cK (.int 1))) aNil)))) (aCons (cCall f_law_pick (aCons (cVar 0) (aCons (cVar 1) (aCons (cLst (aCons (cK (.str "")) (aCons (cK (.str "1")) (aCons (cK (.str " ")) (aCons (cK (.str " 2")) (aCons (cK (.str "e")) (aCons (cK (.str "0")) aNil))))))) aNil)))) aNil))) (sSeq (sAsg (cBin oAddS (cBin oAddS (cSliceS (cVar 7) none (some (cVar 9))) (cVar 10)) (cSliceS (cVar 7) (some (cBin oAdd (cVar 9) (cCall f_law_draw (aCons (cVar 0) (aCons (cVar 1) (aCons (cK (.int 2)) aNil)))))) none)) (gNm 3)) (sSeq (sPar2 11 12 (aCons (cMeth "str" mSplit (cVar 3) (aCons (cK (.str " ")) aNil)) (aCons (cK .non) aNil))) (sSeq (sIf (cCall bAll (aCons cp_law_3 aNil)) (sAsg (cBin oAdd (cTup (aCons (cBin oIx (cVar 11) (cK (.int 0))) aNil)) (cCall bTuple (aCons cp_law_4 aNil))) (gNm 12)) sNx) (sIf (cBin oNe (cCall f_law_read (aCons (cVar 3) (aCons (cK (.int 1)) aNil))) (cIte (cCall f_is_rule (aCons (cVar 12) aNil)) (cVar 12) (cK .non))) (sRet (cK (.bl false))) sNx)))))
def cp_law_5 : CE :=
  cComp (Co.iStr (cVar 3)) [16] (gNm 16) cTrue (cBin oIn (cVar 16) (cK (.str "012")))
def cp_law_6 : CE :=
  cComp (Co.iStr (cVar 3)) [16] (gNm 16) cTrue (cCall bInt (aCons (cVar 16) aNil))
def b_law : CS :=
  (sSeq (sAsg (cLst (aCons (cK (.int 0)) (aCons (cK (.int 0)) aNil))) (gNm 1)) (sSeq (sPar2 5 6 (aCons (cCall f_law_rule (aCons (cVar 0) (aCons (cVar 1) aNil))) (aCons (cCall f_law_comings (aCons (cVar 0) (aCons (cVar 1) (aCons (cK (.int 40)) aNil)))) aNil))) (sSeq (sPar2 7 8 (aCons (cMeth "str" mJoin (cK (.str " ")) (aCons cp_law_2 aNil)) (aCons (cMeth "str" mJoin (cK (.str "")) (aCons cp_law_1 aNil)) aNil))) (sSeq (sIf (cOr (cBin oNe (cCall f_format_rule (aCons (cVar 5) aNil)) (cVar 7)) (cBin oNe (cCall f_parse_rule (aCons (cVar 7) aNil)) (cVar 5))) (sRet (cK (.bl false))) sNx) (sSeq (sIf (cOr (cBin oNe (cCall f_format_comings (aCons (cVar 6) aNil)) (cVar 8)) (cBin oNe (cCall f_parse_comings (aCons (cVar 8) aNil)) (cVar 6))) (sRet (cK (.bl false))) sNx) (sSeq (sFor (iRange (aCons (cK (.int 6)) aNil)) (gNm 2) lb_law_1) (sSeq (sPar2 9 10 (aCons (cCall f_law_draw (aCons (cVar 0) (aCons (cVar 1) (aCons (cBin oAdd (cCall bLen (aCons (cVar 8) aNil)) (cK (.int 1))) aNil)))) (aCons (cCall f_law_pick (aCons (cVar 0) (aCons (cVar 1) (aCons (cLst (aCons (cK (.str "")) (aCons (cK (.str "0")) (aCons (cK (.str "3")) (aCons (cK (.str "-")) (aCons (cK (.str "a")) (aCons (cK (.str " ")) aNil))))))) aNil)))) aNil))) (sSeq (sAsg (cBin oAddS (cBin oAddS (cSliceS (cVar 8) none (some (cVar 9))) (cVar 10)) (cSliceS (cVar 8) (some (cBin oAdd (cVar 9) (cK (.int 1)))) none)) (gNm 3)) (sSeq (sAsg (cAnd (cBin oLt (cCall bLen (aCons (cVar 3) aNil)) (cK (.int 41))) (cCall bAll (aCons cp_law_5 aNil))) (gNm 4)) (sRet (cBin oEq (cCall f_law_read (aCons (cVar 3) (aCons (cK (.int 0)) aNil))) (cIte (cVar 4) cp_law_6 (cK .non)))))))))))))
def f_law : BL := runB 17 b_law

section
open SX
variable {m : MH}
theorem asStrs_map : ∀ l : List Str, asStrs (l.map .str) = some l
  | [] => rfl
  | a :: l => by rw [List.map_cons, asStrs, asStrs_map l]; rfl
theorem join_ok {n : Nat} {ys : List Str} (sep : Str) (h : m[n]? = some (.lst (ys.map .str))) (hl : (ys.map (·.length)).sum + ys.length * sep.length ≤ 100000) : mJoin (.str sep) [.ref n] m = .ok (.str (Txt.join sep ys)) m := by
  simp only [mJoin, lstAt_some h, Option.bind_some, asStrs_map]
  rw [if_pos (by simpa using hl)]
theorem ru_all {P : Ru → Prop} {r : Ru} (hr : RuOk r) (h : ∀ q ∈ rules10, P q) : P r := h r (ru10 hr)
theorem tF {r : Ru} (hr : RuOk r) : Txt.split (T30 r) " " = strsOf r ∧ (T30 r).length ≤ 20 ∧ okT (T30 r) = true ∧ ((strsOf r).map (·.length)).sum + (strsOf r).length * 1 ≤ 100000 := by
  have h := List.all_eq_true.mp t_all r (ru10 hr)
  simp only [Bool.and_eq_true, decide_eq_true_eq] at h
  exact h
/-- [str(one) for one in rule] -/
theorem cp_f1 (r : Ru) (hr : RuOk r) : cp_format_rule_1 [some (encR r), none] m = .ok (.ref m.length) (m ++ [.lst ((strsOf r).map .str)]) := by
  have h := ru10 hr
  simp only [rules10, List.mem_cons, List.not_mem_nil, or_false] at h
  rcases h with rfl | rfl | rfl | rfl | rfl | rfl | rfl | rfl | rfl | rfl <;> rfl
theorem rule_text (r : Ru) (hr : RuOk r) {n : Nat} (h : m[n]? = some (.lst ((strsOf r).map .str))) : mJoin (.str " ") [.ref n] m = .ok (.str (T30 r)) m := join_ok " " h (tF hr).2.2.2
/-! ### what is read as a rule -/
def encW (w : Str) (ns : List Int) : MV := .cons (.str w) (encI ns)
def pRule (x : Str) : Option (Str × List Int) := match Txt.split x " " with
  | [] => none
  | w :: ws => if ws.all fun v => decide (v ∈ d3) then some (w, ws.map nOf) else none
theorem okT_split {x : Str} (h : okT x = true) : ∃ w ws, Txt.split x " " = w :: ws ∧ cpsOk w = true ∧ (∀ v ∈ ws, cpsOk v = true) ∧ x.length ≤ 1000 ∧ ws.length ≤ 999 := by
  simp only [okT, Bool.and_eq_true, Bool.not_eq_true', decide_eq_true_eq] at h
  obtain ⟨⟨⟨h1, h2⟩, h3⟩, h4⟩ := h
  cases e : Txt.split x " " with
  | nil => rw [e] at h1; cases h1
  | cons w ws =>
    rw [e] at h2 h4
    rw [List.all_cons, Bool.and_eq_true] at h2
    exact ⟨w, ws, rfl, h2.1, fun v hv => List.all_eq_true.mp h2.2 v hv, h3, by simpa using h4⟩
theorem split_ok {x : Str} (h : okT x = true) : mSplit (.str x) [.str " "] m = .ok (.ref m.length) (m ++ [.lst ((Txt.split x " ").map .str)]) := by
  obtain ⟨w, ws, e, h1, h2, h3, h4⟩ := okT_split h
  simp only [mSplit]
  rw [if_pos ⟨by decide, by omega⟩]
  exact newL_ok' _ _ (by rw [e]; simp; omega)
theorem d3_cps : ∀ w ∈ d3, w.cps.all (· < 0x110000) = true := by decide +kernel
theorem in_d3 (w : Str) (h : cpsOk w = true) (m : MH) : oIn (.str w) (.cons (.str "1") (.cons (.str "2") (.cons (.str "3") .nil))) m = .ok (.bl (decide (w ∈ d3))) m := oIn_s m w d3 h d3_cps
theorem nOf_ok {w : Str} (h : w ∈ d3) (m : MH) : bInt [.str w] m = .ok (.int (nOf w)) m := by
  have h1 := List.all_eq_true.mp int3 w h
  simp only [Bool.and_eq_true, decide_eq_true_eq] at h1
  obtain ⟨h2, h3, h4⟩ := h1
  obtain ⟨n, hn⟩ := Option.isSome_iff_exists.mp h2
  simp only [bInt, hn, nOf, Option.getD_some]
  rw [if_pos (by simpa using h3)]
/-- the tail of a list of words -/
theorem sl_tail {xs : List Str} {n : Nat} (h : m[n]? = some (.lst (xs.map .str))) (hl : xs.length ≤ 1000) : slM (.ref n) (some 1) none m = .ok (.ref m.length) (m ++ [.lst ((xs.drop 1).map .str)]) := sl_ref_from (en := MV.str) m n xs 1 (by decide) h (by omega)
theorem all_map (bs : List Bool) {n : Nat} (h : m[n]? = some (.lst (bs.map .bl))) : bAll [.ref n] m = .ok (.bl (bs.all id)) m := by
  simp only [bAll, lstAt_some h, asBools_map]
theorem tup_map {xs : List Int} {n : Nat} (h : m[n]? = some (.lst (xs.map .int))) : bTuple [.ref n] m = .ok (encI xs) m := by
  simp only [bTuple, lstAt_some h]
  rfl
/-- the test of the words behind the first, and their numbers; E: the slots with the word -/
theorem words_test {x : Str} (h : okT x = true) {n : Nat} (hn : m[n]? = some (.lst ((Txt.split x " ").map .str))) {i j : Nat} {sl : Sl} (hsl : sl[i]? = some (some (.ref n))) (hj : j < sl.length) :
    ∃ n1 m1, cComp (iSeq (cSlice (cVar i) (some (cK (.int 1))) none)) [j] (gNm j) cTrue (cBin oIn (cVar j) (cTup (aCons (cK (.str "1")) (aCons (cK (.str "2")) (aCons (cK (.str "3")) aNil))))) sl m = .ok (.ref n1) m1 ∧ bAll [.ref n1] m1 = .ok (.bl (pRule x).isSome) m1 ∧ Ke [] m m1 := by
  obtain ⟨w, ws, e, h1, h2, h3, h4⟩ := okT_split h
  have hd : (Txt.split x " ").drop 1 = ws := by rw [e]; rfl
  obtain ⟨m1, hm1⟩ : ∃ m1, m1 = m ++ [MO.lst (ws.map .str)] := ⟨_, rfl⟩
  have sl1 := sl_tail hn (by rw [e]; simp; omega)
  rw [hd, ← hm1] at sl1
  have k1 : Ke [] m m1 := by rw [hm1]; exact Ke.app _ _
  have g1 : m1[m.length]? = some (.lst (ws.map .str)) := by rw [hm1]; simp
  have hw : (wipeM sl [j]).length = sl.length := by simp [wipeM]
  have hjv : ∀ y, ((wipeM sl [j]).set j (some y))[j]? = some (some y) := fun y => List.getElem?_set_self (by rw [hw]; exact hj)
  have e2 := comp_src (it := iSeq (cSlice (cVar i) (some (cK (.int 1))) none)) (c := cTrue) (e := cBin oIn (cVar j) (cTup (aCons (cK (.str "1")) (aCons (cK (.str "2")) (aCons (cK (.str "3")) aNil))))) (vs := [j]) (g := gNm j) (r := sl) (m := m) (m1 := m1) (s := .lst m.length) (ys := ws) (en := MV.str)
    (iSeq_ref _ _ _ _ _ _ (by simp only [cSlice, cVar, hsl, partOf, cK, Res.bind, sl1]) g1) (lst_at g1) (by omega) (fun _ => true) (fun v => .bl (decide (v ∈ d3))) (fun y => (wipeM sl [j]).set j (some y)) (fun y _ => rfl) (fun y _ => rfl) (fun y hy _ => by
      simp only [cBin, cVar, hjv, Res.bind, cTup, aCons, cK, aNil, MV.ofL, in_d3 y (h2 y hy)])
  rw [filter_true] at e2
  obtain ⟨m2, hm2⟩ : ∃ m2, m2 = m1 ++ [MO.lst (ws.map fun v => .bl (decide (v ∈ d3)))] := ⟨_, rfl⟩
  rw [← hm2] at e2
  refine ⟨m1.length, m2, e2, ?_, k1.trans (by rw [hm2]; exact Ke.app _ _)⟩
  rw [all_map (ws.map fun v => decide (v ∈ d3)) (by rw [hm2]; simp [Function.comp_def])]
  have : ((ws.map fun v => decide (v ∈ d3)).all id) = (pRule x).isSome := by
    rw [pRule, e]
    simp only
    rw [List.all_map]
    simp only [Function.comp_def, id]
    cases ws.all fun v => decide (v ∈ d3) <;> rfl
  rw [this]
theorem words_nums {x : Str} (h : okT x = true) {p : Str × List Int} (hp : pRule x = some p) {n : Nat} (hn : m[n]? = some (.lst ((Txt.split x " ").map .str))) {i j : Nat} {sl : Sl} (hsl : sl[i]? = some (some (.ref n))) (hj : j < sl.length) :
    ∃ n1 m1, cComp (iSeq (cSlice (cVar i) (some (cK (.int 1))) none)) [j] (gNm j) cTrue (cCall bInt (aCons (cVar j) aNil)) sl m = .ok (.ref n1) m1 ∧ bTuple [.ref n1] m1 = .ok (encI p.2) m1 ∧ Ke [] m m1 ∧ oIx (.ref n) (.int 0) m = .ok (.str p.1) m ∧ p.2.length ≤ 999 ∧ cpsOk p.1 = true := by
  obtain ⟨w, ws, e, h1, h2, h3, h4⟩ := okT_split h
  have hpe : p = (w, ws.map nOf) ∧ ∀ v ∈ ws, v ∈ d3 := by
    rw [pRule, e] at hp
    simp only at hp
    split at hp
    · rename_i hq
      refine ⟨(Option.some.inj hp).symm, fun v hv => ?_⟩
      simpa using List.all_eq_true.mp hq v hv
    · cases hp
  obtain ⟨rfl, hd3⟩ := hpe
  have hd : (Txt.split x " ").drop 1 = ws := by rw [e]; rfl
  obtain ⟨m1, hm1⟩ : ∃ m1, m1 = m ++ [MO.lst (ws.map .str)] := ⟨_, rfl⟩
  have sl1 := sl_tail hn (by rw [e]; simp; omega)
  rw [hd, ← hm1] at sl1
  have k1 : Ke [] m m1 := by rw [hm1]; exact Ke.app _ _
  have g1 : m1[m.length]? = some (.lst (ws.map .str)) := by rw [hm1]; simp
  have hw : (wipeM sl [j]).length = sl.length := by simp [wipeM]
  have hjv : ∀ y, ((wipeM sl [j]).set j (some y))[j]? = some (some y) := fun y => List.getElem?_set_self (by rw [hw]; exact hj)
  have e2 := comp_src (it := iSeq (cSlice (cVar i) (some (cK (.int 1))) none)) (c := cTrue) (e := cCall bInt (aCons (cVar j) aNil)) (vs := [j]) (g := gNm j) (r := sl) (m := m) (m1 := m1) (s := .lst m.length) (ys := ws) (en := MV.str)
    (iSeq_ref _ _ _ _ _ _ (by simp only [cSlice, cVar, hsl, partOf, cK, Res.bind, sl1]) g1) (lst_at g1) (by omega) (fun _ => true) (fun v => .int (nOf v)) (fun y => (wipeM sl [j]).set j (some y)) (fun y _ => rfl) (fun y _ => rfl) (fun y hy _ => by
      simp only [cCall, cVar, hjv, Res.bind, aCons, aNil, nOf_ok (hd3 y hy)])
  rw [filter_true] at e2
  obtain ⟨m2, hm2⟩ : ∃ m2, m2 = m1 ++ [MO.lst (ws.map fun v => MV.int (nOf v))] := ⟨_, rfl⟩
  rw [← hm2] at e2
  refine ⟨m1.length, m2, e2, tup_map (by rw [hm2]; simp [Function.comp_def]), k1.trans (by rw [hm2]; exact Ke.app _ _), ?_, by simp; omega, h1⟩
  exact ix_map (en := MV.str) m n _ 0 w hn (by decide) (by rw [e]; rfl)
/-- whether it is a rule -/
def isR (w : Str) (ns : List Int) : Bool := if w ∈ [("line" : Str), "many", "one", "turns"] then decide (ns = []) else decide (w ∈ [("bound" : Str), "patience"]) && (decide (ns.length = 1) && (decide (1 ≤ ns.headD 0) && decide (ns.headD 0 ≤ 3)))
theorem deep_W (w : Str) (ns : List Int) (hw : cpsOk w = true) (m : MH) (k : Nat) : deep m (k + 1) (encW w ns) = some (encW w ns) := by
  show chainM (deep m k) (.cons (.str w) (encI ns)) = _
  rw [chainM, deep_s m k w hw, deep_chain_I]
  rfl
theorem eqv_W (w v : Str) (ns ms : List Int) : eqv (encW w ns) (encW v ms) = (decide (w = v) && decide (ns = ms)) := by
  show (w == v && eqv (encI ns) (encI ms)) = _
  rw [eqv_I]
  by_cases h : w = v
  · subst h; simp
  · simp [h]
theorem is_rule_W (w : Str) (ns : List Int) (hw : cpsOk w = true) (hl : ns.length ≤ 999) (m : MH) : f_is_rule [encW w ns] m = .ok (.bl (isR w ns)) m := by
  have h1 : oIsi "tuple" (encW w ns) m = .ok (.bl true) m := by simp [oIsi, tyN, isSub, encW]
  have h2 : oIsi "str" (.str w) m = .ok (.bl true) m := by simp [oIsi, tyN, isSub]
  have h3 : oEq (encW w ns) .nil m = .ok (.bl false) m := by
    have hx : eqM m (encW w ns) .nil = some false := by
      have d := deep_W w ns hw m 39
      exact (show ((deep m 40 (encW w ns)).bind fun x => (deep m 40 (.nil : MV)).map fun y => eqv x y) = some false by rw [d]; rfl)
    unfold oEq
    rw [hx]
  have h4 : oIx (encW w ns) (.int 0) m = .ok (.str w) m := by
    have hq : seqAt (encW w ns) m = some (.str w :: ns.map .int) := by
      show (MV.toL (.cons (.str w) (encI ns))) = _
      rw [MV.toL, toL_encI]; rfl
    have ha : L2.atI (MV.str w :: ns.map MV.int) 0 = some (.str w) := by
      obtain ⟨v, e1, e2⟩ := atI_nat (MV.str w :: ns.map MV.int) 0 (by decide) (by simp)
      rw [e1, ← e2]; rfl
    simp only [oIx, hq, ha]
  have h5 := in_plain_w w (decide (w ∈ [("line" : Str), "many", "one", "turns"])) hw rfl m
  have h6 := in_num_w w (decide (w ∈ [("bound" : Str), "patience"])) hw rfl m
  have h7 : bLen [encW w ns] m = .ok (.int (ns.length + 1 : Nat)) m := by
    have hq : seqAt (encW w ns) m = some (.str w :: ns.map .int) := by
      show (MV.toL (.cons (.str w) (encI ns))) = _
      rw [MV.toL, toL_encI]; rfl
    show (match seqAt (encW w ns) m with
      | some xs => Res.ok (MV.int xs.length) m
      | none => _) = _
    rw [hq]
    simp
  by_cases q1 : w ∈ [("line" : Str), "many", "one", "turns"]
  · rw [decide_eq_true q1] at h5
    have e : isR w ns = decide (((ns.length + 1 : Nat) : Int) = 1) := by
      rw [isR, if_pos q1]
      cases ns <;> simp
      omega
    rw [e]
    simp only [f_is_rule, b_is_rule, runB, slots, sSeq, sRet, sIf, sExpr, sAsg, gNm, Co.gCons, Co.gNil, gUnp, Co.gSub, sPar2, sPar3, cVar, cK, cBin, cUn, cNot, cAnd, cOr, cIte, cChain, aNil, aCons, cTup, cLst, cCall, cMeth, cSlice, partOf, sNx, sBrk, sCnt, sBad, sRz, cTrue, Res.bind, MV.ofL, List.map_cons, List.map_nil, List.length_cons, List.length_nil, List.cons_append, List.nil_append, List.getElem?_cons_succ, List.getElem?_cons_zero, List.set_cons_succ, List.set_cons_zero, List.replicate, Nat.reduceSub, Nat.reduceAdd, h1, h3, h4, h2, h5, h7, oEq_i, Bool.not_true, cNot]
  · rw [decide_eq_false q1] at h5
    by_cases q2 : w ∈ [("bound" : Str), "patience"]
    · rw [decide_eq_true q2] at h6
      by_cases q3 : ns.length = 1
      · obtain ⟨n, rfl⟩ := List.length_eq_one_iff.mp q3
        have h8 : oIx (encW w [n]) (.int 1) m = .ok (.int n) m := rfl
        have e : isR w [n] = (decide (1 ≤ n) && decide (n ≤ 3)) := by
          rw [isR, if_neg q1, decide_eq_true q2]; simp
        have h9 : decide ((([n] : List Int).length + 1 : Nat) = (2 : Int)) = true := rfl
        rw [e]
        simp only [f_is_rule, b_is_rule, runB, slots, sSeq, sRet, sIf, sExpr, sAsg, gNm, Co.gCons, Co.gNil, gUnp, Co.gSub, sPar2, sPar3, cVar, cK, cBin, cUn, cNot, cAnd, cOr, cIte, cChain, aNil, aCons, cTup, cLst, cCall, cMeth, cSlice, partOf, sNx, sBrk, sCnt, sBad, sRz, cTrue, Res.bind, MV.ofL, List.map_cons, List.map_nil, List.length_cons, List.length_nil, List.cons_append, List.nil_append, List.getElem?_cons_succ, List.getElem?_cons_zero, List.set_cons_succ, List.set_cons_zero, List.replicate, Nat.reduceSub, Nat.reduceAdd, h1, h3, h4, h2, h5, h6, h7, h8, oEq_i, Bool.not_true, cNot, is_int_ok]
        simp
      · have e : isR w ns = false := by
          rw [isR, if_neg q1, decide_eq_false q3]; simp
        have h9 : decide (((ns.length + 1 : Nat) : Int) = 2) = false := decide_eq_false (by omega)
        rw [e]
        simp only [f_is_rule, b_is_rule, runB, slots, sSeq, sRet, sIf, sExpr, sAsg, gNm, Co.gCons, Co.gNil, gUnp, Co.gSub, sPar2, sPar3, cVar, cK, cBin, cUn, cNot, cAnd, cOr, cIte, cChain, aNil, aCons, cTup, cLst, cCall, cMeth, cSlice, partOf, sNx, sBrk, sCnt, sBad, sRz, cTrue, Res.bind, MV.ofL, List.map_cons, List.map_nil, List.length_cons, List.length_nil, List.cons_append, List.nil_append, List.getElem?_cons_succ, List.getElem?_cons_zero, List.set_cons_succ, List.set_cons_zero, List.replicate, Nat.reduceSub, Nat.reduceAdd, h1, h3, h4, h2, h5, h6, h7, oEq_i, h9, Bool.not_true, cNot]
    · rw [decide_eq_false q2] at h6
      have e : isR w ns = false := by
        rw [isR, if_neg q1, decide_eq_false q2]; rfl
      rw [e]
      simp only [f_is_rule, b_is_rule, runB, slots, sSeq, sRet, sIf, sExpr, sAsg, gNm, Co.gCons, Co.gNil, gUnp, Co.gSub, sPar2, sPar3, cVar, cK, cBin, cUn, cNot, cAnd, cOr, cIte, cChain, aNil, aCons, cTup, cLst, cCall, cMeth, cSlice, partOf, sNx, sBrk, sCnt, sBad, sRz, cTrue, Res.bind, MV.ofL, List.map_cons, List.map_nil, List.length_cons, List.length_nil, List.cons_append, List.nil_append, List.getElem?_cons_succ, List.getElem?_cons_zero, List.set_cons_succ, List.set_cons_zero, List.replicate, Nat.reduceSub, Nat.reduceAdd, h1, h3, h4, h2, h5, h6, Bool.not_true, cNot]
theorem is_rule_non (m : MH) : f_is_rule [.non] m = .ok (.bl false) m := rfl
/-- what is read -/
def rd30 (x : Str) : MV := match pRule x with
  | some p => if isR p.1 p.2 then encW p.1 p.2 else .non
  | none => .non
theorem cat_W (w : Str) (ns : List Int) (hl : ns.length ≤ 999) (m : MH) : oAdd (.cons (.str w) .nil) (encI ns) m = .ok (encW w ns) m := by
  have e : oAdd (.cons (.str w) .nil) (encI ns) m = (match (MV.cons (.str w) .nil).toL, (encI ns).toL with
    | some xs, some ys => if szOk (xs.length + ys.length) then .ok (MV.ofL (xs ++ ys)) m else .bad
    | _, _ => .bad) := by cases ns <;> rfl
  rw [e, toL_encI, show (MV.cons (.str w) .nil).toL = some [.str w] from rfl]
  simp only [List.length_map]
  rw [if_pos (by simp [szOk]; omega)]
  rfl
/-- parse_rule, as it may raise -/
theorem parse_x {x : Str} (h : okT x = true) : ∃ m', Ke [] m m' ∧ fx_parse_rule [.str x] m = if rd30 x = .non then .ex "ParseError" m' else .ok (rd30 x) m' := by
  have s1 := split_ok (m := m) h
  obtain ⟨m1, hm1⟩ : ∃ m1, m1 = m ++ [MO.lst ((Txt.split x " ").map .str)] := ⟨_, rfl⟩
  rw [← hm1] at s1
  have k1 : Ke [] m m1 := by rw [hm1]; exact Ke.app _ _
  have g1 : m1[m.length]? = some (.lst ((Txt.split x " ").map .str)) := by rw [hm1]; simp
  obtain ⟨n2, m2, e2, a2, k2⟩ := words_test h g1 (i := 1) (j := 3) (sl := [some (.str x), some (.ref m.length), none, none]) rfl (by simp)
  have hi : oIsi "str" (.str x) m = .ok (.bl true) m := by simp [oIsi, tyN, isSub]
  cases hp : pRule x with
  | none =>
    rw [hp] at a2
    have hr : rd30 x = .non := by rw [rd30, hp]
    refine ⟨m2, k1.trans k2, ?_⟩
    rw [if_pos hr]
    simp only [fx_parse_rule, bx_parse_rule, cp_parse_rule_x_1, runB, slots, sSeq, sRet, sIf, sExpr, sAsg, gNm, Co.gCons, Co.gNil, gUnp, Co.gSub, sPar2, sPar3, cVar, cK, cBin, cUn, cNot, cAnd, cOr, cIte, cChain, aNil, aCons, cTup, cLst, cCall, cMeth, cSlice, partOf, sNx, sBrk, sCnt, sBad, sRz, cTrue, Res.bind, MV.ofL, List.map_cons, List.map_nil, List.length_cons, List.length_nil, List.cons_append, List.nil_append, List.getElem?_cons_succ, List.getElem?_cons_zero, List.set_cons_succ, List.set_cons_zero, List.replicate, Nat.reduceSub, Nat.reduceAdd, sIfX, sNox, hi, kindM, if_true, s1, e2, a2, Option.isSome_none, Bool.not_true, Bool.not_false]
  | some p =>
    rw [hp] at a2
    obtain ⟨n3, m3, e3, a3, k3, x3, l3, c3⟩ := words_nums h hp (k2.get g1) (i := 1) (j := 3) (sl := [some (.str x), some (.ref m.length), none, none]) rfl (by simp)
    have ir := is_rule_W p.1 p.2 c3 l3 m3
    have ct := cat_W p.1 p.2 l3 m3
    refine ⟨m3, (k1.trans k2).trans k3, ?_⟩
    cases hq : isR p.1 p.2 with
    | false =>
      have hr : rd30 x = .non := by rw [rd30, hp]; simp [hq]
      rw [if_pos hr]
      rw [hq] at ir
      simp only [fx_parse_rule, bx_parse_rule, cp_parse_rule_x_1, cp_parse_rule_x_2, runB, slots, sSeq, sRet, sIf, sExpr, sAsg, gNm, Co.gCons, Co.gNil, gUnp, Co.gSub, sPar2, sPar3, cVar, cK, cBin, cUn, cNot, cAnd, cOr, cIte, cChain, aNil, aCons, cTup, cLst, cCall, cMeth, cSlice, partOf, sNx, sBrk, sCnt, sBad, sRz, cTrue, Res.bind, MV.ofL, List.map_cons, List.map_nil, List.length_cons, List.length_nil, List.cons_append, List.nil_append, List.getElem?_cons_succ, List.getElem?_cons_zero, List.set_cons_succ, List.set_cons_zero, List.replicate, Nat.reduceSub, Nat.reduceAdd, sIfX, sNox, hi, kindM, if_true, s1, e2, a2, Option.isSome_some, Bool.not_true, x3, e3, a3, ct, ir, Bool.not_false]
    | true =>
      have hr : rd30 x = encW p.1 p.2 := by rw [rd30, hp]; simp [hq]
      have hr2 : rd30 x ≠ .non := by rw [hr]; intro z; cases z
      rw [if_neg hr2, hr]
      rw [hq] at ir
      simp only [fx_parse_rule, bx_parse_rule, cp_parse_rule_x_1, cp_parse_rule_x_2, runB, slots, sSeq, sRet, sIf, sExpr, sAsg, gNm, Co.gCons, Co.gNil, gUnp, Co.gSub, sPar2, sPar3, cVar, cK, cBin, cUn, cNot, cAnd, cOr, cIte, cChain, aNil, aCons, cTup, cLst, cCall, cMeth, cSlice, partOf, sNx, sBrk, sCnt, sBad, sRz, cTrue, Res.bind, MV.ofL, List.map_cons, List.map_nil, List.length_cons, List.length_nil, List.cons_append, List.nil_append, List.getElem?_cons_succ, List.getElem?_cons_zero, List.set_cons_succ, List.set_cons_zero, List.replicate, Nat.reduceSub, Nat.reduceAdd, sIfX, sNox, hi, kindM, if_true, s1, e2, a2, Option.isSome_some, Bool.not_true, x3, e3, a3, ct, ir]
theorem read_rule {x : Str} (h : okT x = true) : ∃ m', f_law_read [.str x, .int 1] m = .ok (rd30 x) m' ∧ Ke [] m m' := by
  obtain ⟨m', k, e⟩ := parse_x (m := m) h
  refine ⟨m', ?_, k⟩
  have c1 : ([("ParseError" : Str)].contains ("ParseError" : Str) && decide (2 < 3)) = true := by decide +kernel
  have q : decide ((1 : Int) = 0) = false := rfl
  by_cases hr : rd30 x = .non
  · rw [if_pos hr] at e
    rw [hr]
    simp only [f_law_read, b_law_read, sTryR, cIteX, cCallX, runB, slots, sSeq, sRet, sIf, sExpr, sAsg, gNm, Co.gCons, Co.gNil, gUnp, Co.gSub, sPar2, sPar3, cVar, cK, cBin, cUn, cNot, cAnd, cOr, cIte, cChain, aNil, aCons, cTup, cLst, cCall, cMeth, cSlice, partOf, sNx, sBrk, sCnt, sBad, sRz, cTrue, Res.bind, MV.ofL, List.map_cons, List.map_nil, List.length_cons, List.length_nil, List.cons_append, List.nil_append, List.getElem?_cons_succ, List.getElem?_cons_zero, List.set_cons_succ, List.set_cons_zero, List.replicate, Nat.reduceSub, Nat.reduceAdd, oEq_i, q, e, c1, if_true, decide_true]
  · rw [if_neg hr] at e
    simp only [f_law_read, b_law_read, sTryR, cIteX, cCallX, runB, slots, sSeq, sRet, sIf, sExpr, sAsg, gNm, Co.gCons, Co.gNil, gUnp, Co.gSub, sPar2, sPar3, cVar, cK, cBin, cUn, cNot, cAnd, cOr, cIte, cChain, aNil, aCons, cTup, cLst, cCall, cMeth, cSlice, partOf, sNx, sBrk, sCnt, sBad, sRz, cTrue, Res.bind, MV.ofL, List.map_cons, List.map_nil, List.length_cons, List.length_nil, List.cons_append, List.nil_append, List.getElem?_cons_succ, List.getElem?_cons_zero, List.set_cons_succ, List.set_cons_zero, List.replicate, Nat.reduceSub, Nat.reduceAdd, oEq_i, q, e]
end
section
open SX
variable {m : MH}
def numsOf : Ru → List Int
  | .bound n => [n]
  | .patience n => [n]
  | _ => []
theorem p_all : (rules10.all fun r => decide (pRule (T30 r) = some (r.word, numsOf r)) && isR r.word (numsOf r)) = true := by decide +kernel
theorem encW_R (r : Ru) : encW r.word (numsOf r) = encR r := by cases r <;> rfl
/-- parse_rule of a rule's text -/
theorem parse_text (r : Ru) (hr : RuOk r) : ∃ m', f_parse_rule [.str (T30 r)] m = .ok (encR r) m' ∧ Ke [] m m' := by
  have h := (tF hr).2.2.1
  have hpa := List.all_eq_true.mp p_all r (ru10 hr)
  simp only [Bool.and_eq_true, decide_eq_true_eq] at hpa
  obtain ⟨hp, hq⟩ := hpa
  have s1 := split_ok (m := m) h
  obtain ⟨m1, hm1⟩ : ∃ m1, m1 = m ++ [MO.lst ((Txt.split (T30 r) " ").map .str)] := ⟨_, rfl⟩
  rw [← hm1] at s1
  have k1 : Ke [] m m1 := by rw [hm1]; exact Ke.app _ _
  have g1 : m1[m.length]? = some (.lst ((Txt.split (T30 r) " ").map .str)) := by rw [hm1]; simp
  obtain ⟨n2, m2, e2, a2, k2⟩ := words_test h g1 (i := 1) (j := 3) (sl := [some (.str (T30 r)), some (.ref m.length), none, none]) rfl (by simp)
  have hi : oIsi "str" (.str (T30 r)) m = .ok (.bl true) m := by simp [oIsi, tyN, isSub]
  rw [hp] at a2
  obtain ⟨n3, m3, e3, a3, k3, x3, l3, c3⟩ := words_nums h hp (k2.get g1) (i := 1) (j := 3) (sl := [some (.str (T30 r)), some (.ref m.length), none, none]) rfl (by simp)
  have ir := is_rule_W _ _ c3 l3 m3
  have ct := cat_W r.word (numsOf r) l3 m3
  simp only at ir x3 a3
  rw [hq] at ir
  refine ⟨m3, ?_, (k1.trans k2).trans k3⟩
  rw [← encW_R]
  generalize T30 r = x at *
  simp only [f_parse_rule, b_parse_rule, cp_parse_rule_1, cp_parse_rule_2, runB, slots, sSeq, sRet, sIf, sExpr, sAsg, gNm, Co.gCons, Co.gNil, gUnp, Co.gSub, sPar2, sPar3, cVar, cK, cBin, cUn, cNot, cAnd, cOr, cIte, cChain, aNil, aCons, cTup, cLst, cCall, cMeth, cSlice, partOf, sNx, sBrk, sCnt, sBad, sRz, cTrue, Res.bind, MV.ofL, List.map_cons, List.map_nil, List.length_cons, List.length_nil, List.cons_append, List.nil_append, List.getElem?_cons_succ, List.getElem?_cons_zero, List.set_cons_succ, List.set_cons_zero, List.replicate, Nat.reduceSub, Nat.reduceAdd, hi, kindM, if_true, s1, e2, a2, Option.isSome_some, Bool.not_true, x3, e3, a3, ct, ir]
/-! ### comings -/
def strC (i : Int) : Str := Str.ofString (toString i)
def line30 (cs : List Int) : Str := Txt.join "" (cs.map strC)
theorem strC_S {i : Int} (h : i = 0 ∨ i = 1 ∨ i = 2) : strC i = S [48 + i.toNat] := by
  rcases h with rfl | rfl | rfl <;> decide +kernel
theorem joinL_nil : ∀ ys : List (List Nat), TL.joinL [] ys = ys.flatten
  | [] => rfl
  | [p] => by simp [TL.joinL]
  | p :: q :: r => by rw [TL.joinL, joinL_nil (q :: r)]; simp
theorem line_S {cs : List Int} (h : Is012 cs) : line30 cs = S (cs.map fun i => 48 + i.toNat) := by
  have e : cs.map strC = (cs.map fun i => [48 + i.toNat]).map S := by
    rw [List.map_map]
    exact List.map_congr_left fun i hi => strC_S (h i hi)
  have e0 : ("" : Str) = S [] := by decide +kernel
  rw [line30, e, e0, join_S, joinL_nil]
  have fl : ∀ l : List Int, (l.map fun i => [48 + i.toNat]).flatten = l.map fun i => 48 + i.toNat := fun l => by
    induction l with
    | nil => rfl
    | cons a l ih => rw [List.map_cons, List.flatten_cons, ih, List.map_cons]; rfl
  rw [fl]
def pCom (x : Str) : Option (List Int) := if x.length ≤ 40 ∧ ∀ c ∈ x.cps.toList, c ∈ [48, 49, 50] then some (x.cps.toList.map fun c : Nat => (c : Int) - 48) else none
theorem pCom_line {cs : List Int} (h : CsOk cs) : pCom (line30 cs) = some cs := by
  have e := line_S h.is
  have hl : (line30 cs).length = cs.length := by rw [e, S_len]; simp
  have hc : (line30 cs).cps.toList = cs.map fun i => 48 + i.toNat := by rw [e]
  rw [pCom, if_pos]
  · rw [hc, List.map_map]
    congr 1
    have : ∀ i ∈ cs, ((fun c : Nat => (c : Int) - 48) ∘ fun i : Int => 48 + i.toNat) i = i := fun i hi => by
      have := h.is i hi
      simp only [Function.comp]
      omega
    rw [List.map_congr_left this, List.map_id']
  · refine ⟨by rw [hl]; exact h.len, fun c hcc => ?_⟩
    rw [hc] at hcc
    obtain ⟨i, hi, rfl⟩ := List.mem_map.mp hcc
    rcases h.is i hi with rfl | rfl | rfl <;> decide
theorem in_012 (c : Nat) (m : MH) : oIn (.str ⟨#[c]⟩) (.str "012") m = .ok (.bl (decide (c ∈ [48, 49, 50]))) m := by
  have h := in_one [48, 49, 50] c
  have e : ("012" : Str) = S [48, 49, 50] := by decide +kernel
  have hi : inM m (.str ⟨#[c]⟩) (.str "012") = some (decide (c ∈ [48, 49, 50])) := by
    rw [e]
    exact congrArg some h
  unfold oIn
  rw [hi]
theorem int_012 {c : Nat} (h : c ∈ [48, 49, 50]) (m : MH) : bInt [.str ⟨#[c]⟩] m = .ok (.int ((c : Int) - 48)) m := by
  simp only [List.mem_cons, List.not_mem_nil, or_false] at h
  have f0 : PySem.intText? (⟨#[48]⟩ : Str) = some 0 := by decide +kernel
  have f1 : PySem.intText? (⟨#[49]⟩ : Str) = some 1 := by decide +kernel
  have f2 : PySem.intText? (⟨#[50]⟩ : Str) = some 2 := by decide +kernel
  rcases h with rfl | rfl | rfl
  · simp only [bInt, f0]; rfl
  · simp only [bInt, f1]; rfl
  · simp only [bInt, f2]; rfl
theorem signs_at (x : Str) (m : MH) : ∀ j, (Src.its (signs x)).at j m = some ((x.cps.toList.map fun c => MV.str ⟨#[c]⟩)[j]?) := fun j => rfl
theorem len_x (x : Str) : x.length = x.cps.toList.length := by simp [Str.length]
/-- the tests of all signs; the numbers -/
theorem signs_test {x : Str} (hx : x.length ≤ 1000) {i j : Nat} {sl : Sl} (hsl : sl[i]? = some (some (.str x))) (hj : j < sl.length) :
    ∃ n1 m1, cComp (Co.iStr (cVar i)) [j] (gNm j) cTrue (cBin oIn (cVar j) (cK (.str "012"))) sl m = .ok (.ref n1) m1 ∧ bAll [.ref n1] m1 = .ok (.bl (x.cps.toList.all fun c => decide (c ∈ [48, 49, 50]))) m1 ∧ Ke [] m m1 := by
  have hw : (wipeM sl [j]).length = sl.length := by simp [wipeM]
  have hjv : ∀ y, ((wipeM sl [j]).set j (some y))[j]? = some (some y) := fun y => List.getElem?_set_self (by rw [hw]; exact hj)
  have e2 := comp_src (it := Co.iStr (cVar i)) (c := cTrue) (e := cBin oIn (cVar j) (cK (.str "012"))) (vs := [j]) (g := gNm j) (r := sl) (m := m) (m1 := m) (s := .its (signs x)) (ys := x.cps.toList) (en := fun c => MV.str ⟨#[c]⟩)
    (by simp only [Co.iStr, cVar, hsl, Res.bind]) (signs_at x m) (by rw [← len_x]; omega) (fun _ => true) (fun c => .bl (decide (c ∈ [48, 49, 50]))) (fun y => (wipeM sl [j]).set j (some y)) (fun y _ => rfl) (fun y _ => rfl) (fun y hy _ => by
      simp only [cBin, cVar, hjv, Res.bind, cK, in_012])
  rw [filter_true] at e2
  obtain ⟨m2, hm2⟩ : ∃ m2, m2 = m ++ [MO.lst (x.cps.toList.map fun c => MV.bl (decide (c ∈ [48, 49, 50])))] := ⟨_, rfl⟩
  rw [← hm2] at e2
  refine ⟨m.length, m2, e2, ?_, by rw [hm2]; exact Ke.app _ _⟩
  rw [all_map (x.cps.toList.map fun c => decide (c ∈ [48, 49, 50])) (by rw [hm2]; simp [Function.comp_def])]
  rw [List.all_map]
  rfl
theorem signs_nums {x : Str} (hx : x.length ≤ 1000) (ha : ∀ c ∈ x.cps.toList, c ∈ [48, 49, 50]) {i j : Nat} {sl : Sl} (hsl : sl[i]? = some (some (.str x))) (hj : j < sl.length) :
    ∃ m1, cComp (Co.iStr (cVar i)) [j] (gNm j) cTrue (cCall bInt (aCons (cVar j) aNil)) sl m = .ok (.ref m.length) m1 ∧ m1 = m ++ [.lst ((x.cps.toList.map fun c : Nat => (c : Int) - 48).map .int)] := by
  have hw : (wipeM sl [j]).length = sl.length := by simp [wipeM]
  have hjv : ∀ y, ((wipeM sl [j]).set j (some y))[j]? = some (some y) := fun y => List.getElem?_set_self (by rw [hw]; exact hj)
  have e2 := comp_src (it := Co.iStr (cVar i)) (c := cTrue) (e := cCall bInt (aCons (cVar j) aNil)) (vs := [j]) (g := gNm j) (r := sl) (m := m) (m1 := m) (s := .its (signs x)) (ys := x.cps.toList) (en := fun c => MV.str ⟨#[c]⟩)
    (by simp only [Co.iStr, cVar, hsl, Res.bind]) (signs_at x m) (by rw [← len_x]; omega) (fun _ => true) (fun c => .int ((c : Int) - 48)) (fun y => (wipeM sl [j]).set j (some y)) (fun y _ => rfl) (fun y _ => rfl) (fun y hy _ => by
      simp only [cCall, cVar, hjv, Res.bind, aCons, aNil, int_012 (ha y hy)])
  rw [filter_true] at e2
  exact ⟨_, e2, by simp [Function.comp_def]⟩
theorem len_ok {x : Str} (hx : x.length ≤ 1000) : bLen [.str x] m = .ok (.int (x.length : Nat)) m := by
  simp only [bLen]
  rw [if_pos (by simp [szOk]; omega)]
theorem all_iff {l : List Nat} : (l.all fun c => decide (c ∈ [48, 49, 50])) = true ↔ ∀ c ∈ l, c ∈ [48, 49, 50] := by
  rw [List.all_eq_true]
  exact ⟨fun h c hc => of_decide_eq_true (h c hc), fun h c hc => decide_eq_true (h c hc)⟩
/-- the law's reading of comings: a new list or None -/
theorem read_comings {x : Str} (hx : x.length ≤ 1000) : ∃ v m', f_law_read [.str x, .int 0] m = .ok v m' ∧ Ke [] m m' ∧ match pCom x with
    | some cs => ∃ n, v = .ref n ∧ m'[n]? = some (.lst (cs.map .int))
    | none => v = .non := by
  have hi : oIsi "str" (.str x) m = .ok (.bl true) m := by simp [oIsi, tyN, isSub]
  have hl := len_ok (m := m) hx
  have c1 : ([("ParseError" : Str)].contains ("ParseError" : Str) && decide (2 < 3)) = true := by decide +kernel
  have q : decide ((0 : Int) = 0) = true := rfl
  by_cases h40 : x.length ≤ 40
  · have h40f : decide ((40 : Int) < (x.length : Nat)) = false := decide_eq_false (by omega)
    obtain ⟨n1, m1, e1, a1, k1⟩ := signs_test (m := m) hx (i := 0) (j := 1) (sl := [some (.str x), none]) rfl (by simp)
    by_cases ha : ∀ c ∈ x.cps.toList, c ∈ [48, 49, 50]
    · rw [all_iff.mpr ha] at a1
      obtain ⟨m2, e2, hm2⟩ := signs_nums (m := m1) hx ha (i := 0) (j := 1) (sl := [some (.str x), none]) rfl (by simp)
      have hp : pCom x = some (x.cps.toList.map fun c : Nat => (c : Int) - 48) := by rw [pCom, if_pos ⟨h40, ha⟩]
      refine ⟨.ref m1.length, m2, ?_, k1.trans (by rw [hm2]; exact Ke.app _ _), ?_⟩
      · simp only [f_law_read, b_law_read, sTryR, cIteX, cCallX, runB, slots, sSeq, sRet, sIf, sExpr, sAsg, gNm, Co.gCons, Co.gNil, gUnp, Co.gSub, sPar2, sPar3, cVar, cK, cBin, cUn, cNot, cAnd, cOr, cIte, cChain, aNil, aCons, cTup, cLst, cCall, cMeth, cSlice, partOf, sNx, sBrk, sCnt, sBad, sRz, cTrue, Res.bind, MV.ofL, List.map_cons, List.map_nil, List.length_cons, List.length_nil, List.cons_append, List.nil_append, List.getElem?_cons_succ, List.getElem?_cons_zero, List.set_cons_succ, List.set_cons_zero, List.replicate, Nat.reduceSub, Nat.reduceAdd, oEq_i, q, fx_parse_comings, bx_parse_comings, cp_parse_comings_x_1, cp_parse_comings_x_2, sIfX, sNox, hi, hl, oGt_i, h40f, e1, a1, Bool.not_true, e2, decide_true]
      · rw [hp]; exact ⟨_, rfl, by rw [hm2]; simp⟩
    · have hf : (x.cps.toList.all fun c => decide (c ∈ [48, 49, 50])) = false := by
        rw [Bool.eq_false_iff]; exact fun z => ha (all_iff.mp z)
      rw [hf] at a1
      have hp : pCom x = none := by rw [pCom, if_neg (fun z => ha z.2)]
      refine ⟨.non, m1, ?_, k1, by rw [hp]⟩
      simp only [f_law_read, b_law_read, sTryR, cIteX, cCallX, runB, slots, sSeq, sRet, sIf, sExpr, sAsg, gNm, Co.gCons, Co.gNil, gUnp, Co.gSub, sPar2, sPar3, cVar, cK, cBin, cUn, cNot, cAnd, cOr, cIte, cChain, aNil, aCons, cTup, cLst, cCall, cMeth, cSlice, partOf, sNx, sBrk, sCnt, sBad, sRz, cTrue, Res.bind, MV.ofL, List.map_cons, List.map_nil, List.length_cons, List.length_nil, List.cons_append, List.nil_append, List.getElem?_cons_succ, List.getElem?_cons_zero, List.set_cons_succ, List.set_cons_zero, List.replicate, Nat.reduceSub, Nat.reduceAdd, oEq_i, q, fx_parse_comings, bx_parse_comings, cp_parse_comings_x_1, cp_parse_comings_x_2, sIfX, sNox, hi, hl, oGt_i, h40f, e1, a1, Bool.not_true, Bool.not_false, c1, if_true, decide_true]
  · have h40t : decide ((40 : Int) < (x.length : Nat)) = true := decide_eq_true (by omega)
    have hp : pCom x = none := by rw [pCom, if_neg (fun z => h40 z.1)]
    refine ⟨.non, m, ?_, Ke.refl, by rw [hp]⟩
    simp only [f_law_read, b_law_read, sTryR, cIteX, cCallX, runB, slots, sSeq, sRet, sIf, sExpr, sAsg, gNm, Co.gCons, Co.gNil, gUnp, Co.gSub, sPar2, sPar3, cVar, cK, cBin, cUn, cNot, cAnd, cOr, cIte, cChain, aNil, aCons, cTup, cLst, cCall, cMeth, cSlice, partOf, sNx, sBrk, sCnt, sBad, sRz, cTrue, Res.bind, MV.ofL, List.map_cons, List.map_nil, List.length_cons, List.length_nil, List.cons_append, List.nil_append, List.getElem?_cons_succ, List.getElem?_cons_zero, List.set_cons_succ, List.set_cons_zero, List.replicate, Nat.reduceSub, Nat.reduceAdd, oEq_i, q, fx_parse_comings, bx_parse_comings, cp_parse_comings_x_1, cp_parse_comings_x_2, sIfX, sNox, hi, hl, oGt_i, h40t, Bool.not_true, c1, if_true, decide_true]
theorem parse_line {cs : List Int} (h : CsOk cs) : ∃ n m', f_parse_comings [.str (line30 cs)] m = .ok (.ref n) m' ∧ Ke [] m m' ∧ m'[n]? = some (.lst (cs.map .int)) := by
  have hp := pCom_line h
  have hl2 : (line30 cs).length ≤ 1000 := by
    have : (line30 cs).length = cs.length := by rw [line_S h.is, S_len]; simp
    have := h.len
    omega
  generalize line30 cs = x at hp hl2
  rw [pCom] at hp
  split at hp
  · rename_i hq
    have he : (x.cps.toList.map fun c : Nat => (c : Int) - 48) = cs := Option.some.inj hp
    have hi : oIsi "str" (.str x) m = .ok (.bl true) m := by simp [oIsi, tyN, isSub]
    have hl := len_ok (m := m) hl2
    have h40f : decide ((40 : Int) < (x.length : Nat)) = false := decide_eq_false (by have := hq.1; omega)
    obtain ⟨n1, m1, e1, a1, k1⟩ := signs_test (m := m) hl2 (i := 0) (j := 1) (sl := [some (.str x), none]) rfl (by simp)
    rw [all_iff.mpr hq.2] at a1
    obtain ⟨m2, e2, hm2⟩ := signs_nums (m := m1) hl2 hq.2 (i := 0) (j := 1) (sl := [some (.str x), none]) rfl (by simp)
    refine ⟨m1.length, m2, ?_, k1.trans (by rw [hm2]; exact Ke.app _ _), by rw [hm2, he]; simp⟩
    simp only [f_parse_comings, b_parse_comings, cp_parse_comings_1, cp_parse_comings_2, runB, slots, sSeq, sRet, sIf, sExpr, sAsg, gNm, Co.gCons, Co.gNil, gUnp, Co.gSub, sPar2, sPar3, cVar, cK, cBin, cUn, cNot, cAnd, cOr, cIte, cChain, aNil, aCons, cTup, cLst, cCall, cMeth, cSlice, partOf, sNx, sBrk, sCnt, sBad, sRz, cTrue, Res.bind, MV.ofL, List.map_cons, List.map_nil, List.length_cons, List.length_nil, List.cons_append, List.nil_append, List.getElem?_cons_succ, List.getElem?_cons_zero, List.set_cons_succ, List.set_cons_zero, List.replicate, Nat.reduceSub, Nat.reduceAdd, hi, hl, oGt_i, h40f, e1, a1, Bool.not_true, e2]
  · cases hp
theorem bStr_c {i : Int} (h : i = 0 ∨ i = 1 ∨ i = 2) (m : MH) : bStr [.int i] m = .ok (.str (strC i)) m := by
  rcases h with rfl | rfl | rfl <;> rfl
theorem line_cp {cs : List Int} (h : CsOk cs) {c : Nat} (hc : m[c]? = some (.lst (cs.map .int))) {i j : Nat} {sl : Sl} (hsl : sl[i]? = some (some (.ref c))) (hj : j < sl.length) :
    ∃ n1 m1, cComp (iSeq (cVar i)) [j] (gNm j) cTrue (cCall bStr (aCons (cVar j) aNil)) sl m = .ok (.ref n1) m1 ∧ mJoin (.str "") [.ref n1] m1 = .ok (.str (line30 cs)) m1 ∧ Ke [] m m1 := by
  have hw : (wipeM sl [j]).length = sl.length := by simp [wipeM]
  have hjv : ∀ y, ((wipeM sl [j]).set j (some y))[j]? = some (some y) := fun y => List.getElem?_set_self (by rw [hw]; exact hj)
  have e2 := comp_src (it := iSeq (cVar i)) (c := cTrue) (e := cCall bStr (aCons (cVar j) aNil)) (vs := [j]) (g := gNm j) (r := sl) (m := m) (m1 := m) (s := .lst c) (ys := cs) (en := MV.int)
    (iSeq_ref (cVar i) sl m m c _ (by simp only [cVar, hsl]) hc) (lst_at hc) (by have := h.len; omega) (fun _ => true) (fun i => .str (strC i)) (fun y => (wipeM sl [j]).set j (some y)) (fun y _ => rfl) (fun y _ => rfl) (fun y hy _ => by
      simp only [cCall, cVar, hjv, Res.bind, aCons, aNil, bStr_c (h.is y hy)])
  rw [filter_true] at e2
  obtain ⟨m2, hm2⟩ : ∃ m2, m2 = m ++ [MO.lst (cs.map fun i => MV.str (strC i))] := ⟨_, rfl⟩
  rw [← hm2] at e2
  refine ⟨m.length, m2, e2, ?_, by rw [hm2]; exact Ke.app _ _⟩
  refine join_ok "" (ys := cs.map strC) (by rw [hm2]; simp [Function.comp_def]) ?_
  have hs : ∀ l : List Int, Is012 l → ((l.map strC).map (·.length)).sum = l.length := by
    intro l
    induction l with
    | nil => intro _; rfl
    | cons a l ih =>
      intro ha
      have h1 := strC_S (ha a List.mem_cons_self)
      have h2 : (strC a).length = 1 := by rw [h1, S_len]; rfl
      simp only [List.map_cons, List.sum_cons, List.length_cons, ih fun x hx => ha x (List.mem_cons_of_mem _ hx), h2]
      omega
  have e0 : ("" : Str).length = 0 := by decide +kernel
  have := h.len
  rw [hs cs h.is, e0, List.length_map]
  omega
end
theorem pick_ok30 (ns : List Int) (t n : Nat) (m : MH) (xs : List MV) (ht : Tn t m) (hn : m[n]? = some (.lst xs)) (hne : n ≠ t) (h1 : 1 ≤ xs.length) (h2 : xs.length < 1000000) : ∃ v m', v ∈ xs ∧ f_law_pick [script ns, .ref t, .ref n] m = .ok v m' ∧ Ke [t] m m' ∧ Tn t m' := by
  obtain ⟨d, m2, e2, a2, b2, k2, t2⟩ := draw_ok ns t (xs.length : Nat) m ht (by omega) (by omega)
  obtain ⟨v, hv, hv2⟩ := atI_nat xs d a2 b2
  have g2 : m2[n]? = some (.lst xs) := k2.get hn (by simpa using hne)
  have ix := ixL m2 n xs g2 d _ hv
  have bl : bLen [.ref n] m = .ok (.int (xs.length : Nat)) m := bLen_ref m n _ hn
  exact ⟨v, m2, List.mem_of_getElem? hv2, by simp only [f_law_pick, b_law_pick, runB, slots, sSeq, sRet, sIf, sExpr, sAsg, gNm, Co.gCons, Co.gNil, gUnp, Co.gSub, sPar2, sPar3, cVar, cK, cBin, cUn, cNot, cAnd, cOr, cIte, cChain, aNil, aCons, cTup, cLst, cCall, cMeth, cSlice, partOf, sNx, sBrk, sCnt, sBad, sRz, cTrue, Res.bind, MV.ofL, List.map_cons, List.map_nil, List.length_cons, List.length_nil, List.cons_append, List.nil_append, List.getElem?_cons_succ, List.getElem?_cons_zero, List.set_cons_succ, List.set_cons_zero, List.replicate, Nat.reduceSub, Nat.reduceAdd, bl, e2, ix], k2, t2⟩

theorem neW_self (w : Str) (ns : List Int) (hw : cpsOk w = true) (m : MH) : oNe (encW w ns) (encW w ns) m = .ok (.bl false) m := by
  have e : eqM m (encW w ns) (encW w ns) = some true := by
    show ((deep m 40 (encW w ns)).bind fun x => (deep m 40 (encW w ns)).map fun y => eqv x y) = _
    rw [deep_W w ns hw m 39]
    simp only [Option.bind_some, Option.map_some, eqv_W, decide_true, Bool.and_self]
  unfold oNe
  rw [e]
  rfl
theorem neR_self (r : Ru) (m : MH) : oNe (encR r) (encR r) m = .ok (.bl false) m := by
  rw [← encW_R]
  exact neW_self _ _ (word_ok r) m
theorem neS_self (x : Str) (h : cpsOk x = true) (m : MH) : oNe (.str x) (.str x) m = .ok (.bl false) m := by
  have e : eqM m (.str x) (.str x) = some true := by
    show ((deep m 40 (.str x)).bind fun a => (deep m 40 (.str x)).map fun y => eqv a y) = _
    rw [deep_s m 40 x h]
    simp [eqv]
  unfold oNe
  rw [e]
  rfl
def sl30 (ns : List Int) (x2 x3 x4 : Option MV) (r : Ru) (c : Nat) (x8 : Option MV) (x9 x10 x11 x12 x13 x14 x15 x16 : Option MV) : Sl := [some (script ns), some (.ref 0), x2, x3, x4, some (encR r), some (.ref c), some (.str (T30 r)), x8, x9, x10, x11, x12, x13, x14, x15, x16]
theorem slS_to {x : Str} {i : Int} (h : x.length ≤ 1000) (m : MH) : slS (.str x) none (some i) m = .ok (.str (L2.cutS x none (some i))) m := by
  simp only [slS]
  rw [if_pos (by simp [szOk]; omega)]
theorem slS_from {x : Str} {i : Int} (h : x.length ≤ 1000) (m : MH) : slS (.str x) (some i) none m = .ok (.str (L2.cutS x (some i) none)) m := by
  simp only [slS]
  rw [if_pos (by simp [szOk]; omega)]
theorem addS_ok {x y : Str} (h : x.length + y.length ≤ 100000) (m : MH) : oAddS (.str x) (.str y) m = .ok (.str (x ++ y)) m := by
  simp only [oAddS]
  rw [if_pos (by simp [szOk]; omega)]
theorem turn30 {ns : List Int} {r : Ru} (hr : RuOk r) {c : Nat} {cs : List Int} {m : MH} (t0 : Tn 0 m) (hc : m[c]? = some (.lst (cs.map .int))) (c0 : c ≠ 0) (x2 x3 x4 x8 x9 x10 x11 x12 x13 x14 x15 x16 : Option MV) :
    ∃ y3 y9 y10 y11 y12 m', lb_law_1 (sl30 ns x2 x3 x4 r c x8 x9 x10 x11 x12 x13 x14 x15 x16) m = .ok (.nx (sl30 ns x2 y3 x4 r c x8 y9 y10 y11 y12 x13 x14 x15 x16)) m' ∧ Tn 0 m' ∧ m'[c]? = some (.lst (cs.map .int)) := by
  have hT := (tF hr).2.1
  have bl := len_ok (m := m) (x := T30 r) (by omega)
  obtain ⟨at_, m1, e1, a1, b1, k1, t1⟩ := draw_ok ns 0 ((T30 r).length + 1 : Nat) m t0 (by omega) (by omega)
  obtain ⟨m2, hm2⟩ : ∃ m2, m2 = m1 ++ [MO.lst (sg6.map .str)] := ⟨_, rfl⟩
  have k2 : Ke [] m1 m2 := by rw [hm2]; exact Ke.app _ _
  have e2 : newL [.str "", .str "1", .str " ", .str " 2", .str "e", .str "0"] m1 = .ok (.ref m1.length) m2 := by rw [hm2]; exact newL_ok' _ _ (by simp)
  have l1 : 0 < m1.length := by
    obtain ⟨a, b, _, h⟩ := t1
    exact (List.getElem?_eq_some_iff.mp h).1
  obtain ⟨v, m3, hv, e3, k3, t3⟩ := pick_ok30 ns 0 m1.length m2 (sg6.map .str) (t1.keep k2) (by rw [hm2]; simp) (by omega) (by decide) (by decide)
  obtain ⟨sg, hsg, rfl⟩ := List.mem_map.mp hv
  obtain ⟨d, m4, e4, a4, b4, k4, t4⟩ := draw_ok ns 0 2 m3 t3 (by decide) (by decide)
  have hc4 := k4.get (k3.get (k2.get (k1.get hc (by simpa using c0))) (by simpa using c0)) (by simpa using c0)
  -- the new text
  have cpsT0 : cpsOk (T30 r) = true := by
    have : (rules10.all fun r => cpsOk (T30 r)) = true := by decide +kernel
    exact List.all_eq_true.mp this r (ru10 hr)
  have hn := n_one (T30 r) at_ d sg cpsT0 (tF hr).2.1 hsg
  obtain ⟨hx, hl1, hl2⟩ := hn
  obtain ⟨x, hxe⟩ : ∃ x, x = mk30 (T30 r) at_ sg d := ⟨_, rfl⟩
  rw [← hxe] at hx
  have s1 := slS_to (x := T30 r) (i := at_) (by omega) m3
  have s2 := addS_ok hl1 m3
  have s3 := slS_from (x := T30 r) (i := at_ + d) (by omega) m4
  have s4 : oAddS (.str (L2.cutS (T30 r) none (some at_) ++ sg)) (.str (L2.cutS (T30 r) (some (at_ + d)) none)) m4 = .ok (.str x) m4 := by rw [hxe]; exact addS_ok hl2 m4
  have s5 := split_ok (m := m4) hx
  obtain ⟨m5, hm5⟩ : ∃ m5, m5 = m4 ++ [MO.lst ((Txt.split x " ").map .str)] := ⟨_, rfl⟩
  rw [← hm5] at s5
  have k5 : Ke [] m4 m5 := by rw [hm5]; exact Ke.app _ _
  have g5 : m5[m4.length]? = some (.lst ((Txt.split x " ").map .str)) := by rw [hm5]; simp
  obtain ⟨n6, m6, e6, a6, k6⟩ := words_test hx g5 (i := 11) (j := 15) (sl := sl30 ns x2 (some (.str x)) x4 r c x8 (some (.int at_)) (some (.str sg)) (some (.ref m4.length)) (some .non) x13 x14 x15 x16) rfl (by simp [sl30])
  have t6 := (t4.keep k5).keep k6
  have hc6 := k6.get (k5.get hc4)
  have ad : oAdd (.int at_) (.int d) m4 = .ok (.int (at_ + d)) m4 := oAdd_i m4 at_ d
  have al : oAdd (.int ((T30 r).length : Nat)) (.int 1) m = .ok (.int ((T30 r).length + 1 : Nat)) m := by rw [oAdd_i]; rfl
  have sl1 : (sg6.map MV.str) = [.str "", .str "1", .str " ", .str " 2", .str "e", .str "0"] := rfl
  cases hp : pRule x with
  | none =>
    rw [hp] at a6
    obtain ⟨m7, e7, k7⟩ := read_rule (m := m6) hx
    have hr0 : rd30 x = .non := by rw [rd30, hp]
    rw [hr0] at e7
    have n7 : oNe .non .non m7 = .ok (.bl false) m7 := rfl
    refine ⟨some (.str x), some (.int at_), some (.str sg), some (.ref m4.length), some .non, m7, ?_, t6.keep k7, k7.get hc6⟩
    simp only [sl30] at e6 ⊢
    simp only [lb_law_1, cp_law_3, cSliceS, runB, slots, sSeq, sRet, sIf, sExpr, sAsg, gNm, Co.gCons, Co.gNil, gUnp, Co.gSub, sPar2, sPar3, cVar, cK, cBin, cUn, cNot, cAnd, cOr, cIte, cChain, aNil, aCons, cTup, cLst, cCall, cMeth, cSlice, partOf, sNx, sBrk, sCnt, sBad, sRz, cTrue, Res.bind, MV.ofL, List.map_cons, List.map_nil, List.length_cons, List.length_nil, List.cons_append, List.nil_append, List.getElem?_cons_succ, List.getElem?_cons_zero, List.set_cons_succ, List.set_cons_zero, List.replicate, Nat.reduceSub, Nat.reduceAdd, bl, al, e1, e2, e3, s1, s2, e4, ad, s3, s4, kindM, s5, e6, a6, Option.isSome_none, e7, is_rule_non, n7, if_true]
  | some p =>
    rw [hp] at a6
    obtain ⟨n8, m8, e8, a8, k8, x8', l8, c8⟩ := words_nums hx hp (k6.get g5) (i := 11) (j := 15) (sl := sl30 ns x2 (some (.str x)) x4 r c x8 (some (.int at_)) (some (.str sg)) (some (.ref m4.length)) (some .non) x13 x14 x15 x16) rfl (by simp [sl30])
    have ct := cat_W p.1 p.2 l8 m8
    obtain ⟨m9, e9, k9⟩ := read_rule (m := m8) hx
    have ir := is_rule_W p.1 p.2 c8 l8 m9
    refine ⟨some (.str x), some (.int at_), some (.str sg), some (.ref m4.length), some (encW p.1 p.2), m9, ?_, (t6.keep k8).keep k9, k9.get (k8.get hc6)⟩
    simp only [sl30] at e6 e8 ⊢
    cases hq : isR p.1 p.2 with
    | true =>
      have hr1 : rd30 x = encW p.1 p.2 := by rw [rd30, hp]; simp [hq]
      rw [hr1] at e9
      rw [hq] at ir
      have n9 := neW_self p.1 p.2 c8 m9
      simp only [lb_law_1, cp_law_3, cp_law_4, cSliceS, runB, slots, sSeq, sRet, sIf, sExpr, sAsg, gNm, Co.gCons, Co.gNil, gUnp, Co.gSub, sPar2, sPar3, cVar, cK, cBin, cUn, cNot, cAnd, cOr, cIte, cChain, aNil, aCons, cTup, cLst, cCall, cMeth, cSlice, partOf, sNx, sBrk, sCnt, sBad, sRz, cTrue, Res.bind, MV.ofL, List.map_cons, List.map_nil, List.length_cons, List.length_nil, List.cons_append, List.nil_append, List.getElem?_cons_succ, List.getElem?_cons_zero, List.set_cons_succ, List.set_cons_zero, List.replicate, Nat.reduceSub, Nat.reduceAdd, bl, al, e1, e2, e3, s1, s2, e4, ad, s3, s4, kindM, s5, e6, a6, Option.isSome_some, x8', e8, a8, ct, e9, ir, n9, if_true]
    | false =>
      have hr0 : rd30 x = .non := by rw [rd30, hp]; simp [hq]
      rw [hr0] at e9
      rw [hq] at ir
      have n9 : oNe .non .non m9 = .ok (.bl false) m9 := rfl
      simp only [lb_law_1, cp_law_3, cp_law_4, cSliceS, runB, slots, sSeq, sRet, sIf, sExpr, sAsg, gNm, Co.gCons, Co.gNil, gUnp, Co.gSub, sPar2, sPar3, cVar, cK, cBin, cUn, cNot, cAnd, cOr, cIte, cChain, aNil, aCons, cTup, cLst, cCall, cMeth, cSlice, partOf, sNx, sBrk, sCnt, sBad, sRz, cTrue, Res.bind, MV.ofL, List.map_cons, List.map_nil, List.length_cons, List.length_nil, List.cons_append, List.nil_append, List.getElem?_cons_succ, List.getElem?_cons_zero, List.set_cons_succ, List.set_cons_zero, List.replicate, Nat.reduceSub, Nat.reduceAdd, bl, al, e1, e2, e3, s1, s2, e4, ad, s3, s4, kindM, s5, e6, a6, Option.isSome_some, x8', e8, a8, ct, e9, ir, n9, if_true]
abbrev sg7 : List Str := ["", "0", "3", "-", "a", " "]
theorem sg7_len : ∀ s ∈ sg7, s.length ≤ 1 := by decide +kernel
theorem cut_len (x : Str) (lo hi : Option Int) : (L2.cutS x lo hi).length ≤ x.length := by
  have : (L2.cutS x lo hi).length = ((x.cps.toList.drop (HT.sIx x.length 0 lo)).take (HT.sIx x.length x.length hi - HT.sIx x.length 0 lo)).length := by
    simp [L2.cutS, Str.length]
  rw [this, List.length_take, List.length_drop, len_x]
  omega
theorem app_len (x y : Str) : (x ++ y).length = x.length + y.length := by
  show (x.cps ++ y.cps).size = _
  rw [Array.size_append]
  rfl
theorem law_holds : Good f_law := by
  intro ns _
  have tw := town0 []
  obtain ⟨r, m1, e1, hr, k1, t1⟩ := rule_ok ns 0 [MO.lst [.int 0, .int 0]] Tn.town0
  obtain ⟨cs, c, m2, e2, hl, h0, k2, t2, lc, g2⟩ := comings_ok ns 0 40 m1 t1 (by decide) (by decide)
  have hcs : CsOk cs := ⟨by omega, h0⟩
  have l1 : 0 < m1.length := by
    obtain ⟨a, b, _, h⟩ := t1
    exact (List.getElem?_eq_some_iff.mp h).1
  -- the texts
  have f3 : cp_law_2 [some (script ns), some (.ref 0), none, none, none, some (encR r), some (.ref c), none, none, none, none, none, none, none, none, none, none] m2 = .ok (.ref m2.length) (m2 ++ [.lst ((strsOf r).map .str)]) := by
    have h := ru10 hr
    simp only [rules10, List.mem_cons, List.not_mem_nil, or_false] at h
    rcases h with rfl | rfl | rfl | rfl | rfl | rfl | rfl | rfl | rfl | rfl <;> rfl
  obtain ⟨m3, hm3⟩ : ∃ m3, m3 = m2 ++ [MO.lst ((strsOf r).map .str)] := ⟨_, rfl⟩
  rw [← hm3] at f3
  have k3 : Ke [] m2 m3 := by rw [hm3]; exact Ke.app _ _
  have j3 := rule_text (m := m3) r hr (n := m2.length) (by rw [hm3]; simp)
  obtain ⟨n4, m4, f4, j4, k4⟩ := line_cp (m := m3) hcs (k3.get g2) (i := 6) (j := 14) (sl := [some (script ns), some (.ref 0), none, none, none, some (encR r), some (.ref c), none, none, none, none, none, none, none, none, none, none]) rfl (by simp)
  -- format_rule, parse_rule
  have f5 : f_need_rule [encR r] m4 = .ok .non m4 := need_rule_ok r m4 hr
  have f6 := cp_f1 (m := m4) r hr
  obtain ⟨m5, hm5⟩ : ∃ m5, m5 = m4 ++ [MO.lst ((strsOf r).map .str)] := ⟨_, rfl⟩
  rw [← hm5] at f6
  have k5 : Ke [] m4 m5 := by rw [hm5]; exact Ke.app _ _
  have j5 := rule_text (m := m5) r hr (n := m4.length) (by rw [hm5]; simp)
  have f7 : f_format_rule [encR r] m4 = .ok (.str (T30 r)) m5 := by
    simp only [f_format_rule, b_format_rule, runB, slots, sSeq, sRet, sIf, sExpr, sAsg, gNm, Co.gCons, Co.gNil, gUnp, Co.gSub, sPar2, sPar3, cVar, cK, cBin, cUn, cNot, cAnd, cOr, cIte, cChain, aNil, aCons, cTup, cLst, cCall, cMeth, cSlice, partOf, sNx, sBrk, sCnt, sBad, sRz, cTrue, Res.bind, MV.ofL, List.map_cons, List.map_nil, List.length_cons, List.length_nil, List.cons_append, List.nil_append, List.getElem?_cons_succ, List.getElem?_cons_zero, List.set_cons_succ, List.set_cons_zero, List.replicate, Nat.reduceSub, Nat.reduceAdd, f5, kindM, if_true, f6, j5]
  have cpsT : cpsOk (T30 r) = true := by
    have : (rules10.all fun r => cpsOk (T30 r)) = true := by decide +kernel
    exact List.all_eq_true.mp this r (ru10 hr)
  have n5 := neS_self (T30 r) cpsT m5
  obtain ⟨m6, f8, k6⟩ := parse_text (m := m5) r hr
  have n6 := neR_self r m6
  -- format_comings, parse_comings
  have g6 := k6.get (k5.get (k4.get (k3.get g2)))
  obtain ⟨gg, f9⟩ := need_comings_ok cs c m6 hcs g6
  obtain ⟨m7, hm7⟩ : ∃ m7, m7 = m6 ++ gg := ⟨_, rfl⟩
  rw [← hm7] at f9
  have k7 : Ke [] m6 m7 := by rw [hm7]; exact Ke.app _ _
  obtain ⟨n8, m8, f10, j8, k8⟩ := line_cp (m := m7) hcs (k7.get g6) (i := 0) (j := 1) (sl := [some (.ref c), none]) rfl (by simp)
  have f11 : f_format_comings [.ref c] m6 = .ok (.str (line30 cs)) m8 := by
    simp only [f_format_comings, b_format_comings, cp_format_comings_1, runB, slots, sSeq, sRet, sIf, sExpr, sAsg, gNm, Co.gCons, Co.gNil, gUnp, Co.gSub, sPar2, sPar3, cVar, cK, cBin, cUn, cNot, cAnd, cOr, cIte, cChain, aNil, aCons, cTup, cLst, cCall, cMeth, cSlice, partOf, sNx, sBrk, sCnt, sBad, sRz, cTrue, Res.bind, MV.ofL, List.map_cons, List.map_nil, List.length_cons, List.length_nil, List.cons_append, List.nil_append, List.getElem?_cons_succ, List.getElem?_cons_zero, List.set_cons_succ, List.set_cons_zero, List.replicate, Nat.reduceSub, Nat.reduceAdd, f9, kindM, if_true, f10, j8]
  have cpsL : cpsOk (line30 cs) = true := by
    rw [line_S h0]
    unfold cpsOk
    rw [← Array.all_toList]
    refine List.all_eq_true.mpr fun x hx => ?_
    obtain ⟨i, hi, rfl⟩ := List.mem_map.mp hx
    have := h0 i hi
    exact decide_eq_true (by omega)
  have n8' := neS_self (line30 cs) cpsL m8
  obtain ⟨n9, m9, f12, k9, g9⟩ := parse_line (m := m8) hcs
  have gc9 := k9.get (k8.get (k7.get g6))
  have n9' := Enc.int.oNe m9 n9 c cs cs g9 gc9
  rw [decide_eq_true rfl] at n9'
  have t9 := ((((((t2.keep k3).keep k4).keep k5).keep k6).keep k7).keep k8).keep k9
  -- the turns
  obtain ⟨r', m10, ef, x2, x3, x9, x10, x11, x12, rfl, t10, gc10⟩ := for_inv (s := .its (rangeL 0 6)) (g := gNm 2) (b := lb_law_1) (fun _ sl m => ∃ x2 x3 x9 x10 x11 x12, sl = sl30 ns x2 x3 none r c (some (.str (line30 cs))) x9 x10 x11 x12 none none none none ∧ Tn 0 m ∧ m[c]? = some (.lst (cs.map .int)))
    (rangeL 0 6) (fun _ _ _ _ => rfl) (fun t v sl m hv h => by
      obtain ⟨x2, x3, x9, x10, x11, x12, rfl, ht, hg⟩ := h
      obtain ⟨y3, y9, y10, y11, y12, m', e, ht', hg'⟩ := turn30 (ns := ns) hr ht hg (by omega) (some v) x3 none (some (.str (line30 cs))) x9 x10 x11 x12 none none none none
      exact ⟨_, m, _, m', rfl, e, some v, y3, y9, y10, y11, y12, rfl, ht', hg'⟩) 6 0 big (sl30 ns none none none r c (some (.str (line30 cs))) none none none none none none none none) m9 rfl (by decide) ⟨none, none, none, none, none, none, rfl, t9, gc9⟩
  have rg := rng 6 (sl30 ns none none none r c (some (.str (line30 cs))) none none none none none none none none) m9 (by decide) (by decide)
  -- the last text
  have hLl : (line30 cs).length = cs.length := by rw [line_S h0, SX.S_len]; simp
  have bl := len_ok (m := m10) (x := line30 cs) (by omega)
  obtain ⟨at_, m11, e11, a11, b11, k11, t11⟩ := draw_ok ns 0 ((line30 cs).length + 1 : Nat) m10 t10 (by omega) (by omega)
  obtain ⟨m12, hm12⟩ : ∃ m12, m12 = m11 ++ [MO.lst (sg7.map .str)] := ⟨_, rfl⟩
  have k12 : Ke [] m11 m12 := by rw [hm12]; exact Ke.app _ _
  have e12 : newL [.str "", .str "0", .str "3", .str "-", .str "a", .str " "] m11 = .ok (.ref m11.length) m12 := by rw [hm12]; exact newL_ok' _ _ (by simp)
  have l11 : 0 < m11.length := by
    obtain ⟨a, b, _, h⟩ := t11
    exact (List.getElem?_eq_some_iff.mp h).1
  obtain ⟨v, m13, hv, e13, k13, t13⟩ := pick_ok30 ns 0 m11.length m12 (sg7.map .str) (t11.keep k12) (by rw [hm12]; simp) (by omega) (by decide) (by decide)
  obtain ⟨sg, hsg, rfl⟩ := List.mem_map.mp hv
  have hsl := sg7_len sg hsg
  obtain ⟨x, hxe⟩ : ∃ x, x = L2.cutS (line30 cs) none (some at_) ++ sg ++ L2.cutS (line30 cs) (some (at_ + 1)) none := ⟨_, rfl⟩
  have c1 := cut_len (line30 cs) none (some at_)
  have c2 := cut_len (line30 cs) (some (at_ + 1)) none
  have hxl : x.length ≤ 1000 := by rw [hxe, app_len, app_len]; omega
  have s1 := slS_to (x := line30 cs) (i := at_) (by omega) m13
  have s2 : oAddS (.str (L2.cutS (line30 cs) none (some at_))) (.str sg) m13 = .ok (.str (L2.cutS (line30 cs) none (some at_) ++ sg)) m13 := addS_ok (by omega) m13
  have s3 := slS_from (x := line30 cs) (i := at_ + 1) (by omega) m13
  have s4 : oAddS (.str (L2.cutS (line30 cs) none (some at_) ++ sg)) (.str (L2.cutS (line30 cs) (some (at_ + 1)) none)) m13 = .ok (.str x) m13 := by rw [hxe]; exact addS_ok (by rw [app_len]; omega) m13
  have bx := len_ok (m := m13) hxl
  have ad : oAdd (.int at_) (.int 1) m13 = .ok (.int (at_ + 1)) m13 := oAdd_i m13 at_ 1
  have al : oAdd (.int ((line30 cs).length : Nat)) (.int 1) m10 = .ok (.int ((line30 cs).length + 1 : Nat)) m10 := by rw [oAdd_i]; rfl
  have kd : kindM (.str " ") m3 = some "str" := rfl
  simp only [sl30] at ef rg
  have e66 : (6 : Int).toNat = 6 := rfl
  rw [e66] at rg
  by_cases h40 : x.length ≤ 40
  · have lt : decide (((x.length : Nat) : Int) < 41) = true := decide_eq_true (by omega)
    obtain ⟨n14, m14, e14, a14, k14⟩ := signs_test (m := m13) hxl (i := 3) (j := 16) (sl := [some (script ns), some (.ref 0), x2, some (.str x), none, some (encR r), some (.ref c), some (.str (T30 r)), some (.str (line30 cs)), some (.int at_), some (.str sg), x11, x12, none, none, none, none]) rfl (by simp)
    obtain ⟨w, m15, e15, k15, hw⟩ := read_comings (m := m14) hxl
    by_cases ha : ∀ q ∈ x.cps.toList, q ∈ [48, 49, 50]
    · rw [all_iff.mpr ha] at a14
      have hp : pCom x = some (x.cps.toList.map fun c : Nat => (c : Int) - 48) := by rw [pCom, if_pos ⟨h40, ha⟩]
      rw [hp] at hw
      obtain ⟨nw, rfl, gw⟩ := hw
      obtain ⟨m16, e16, hm16⟩ := signs_nums (m := m15) hxl ha (i := 3) (j := 16) (sl := [some (script ns), some (.ref 0), x2, some (.str x), some (.bl true), some (encR r), some (.ref c), some (.str (T30 r)), some (.str (line30 cs)), some (.int at_), some (.str sg), x11, x12, none, none, none, none]) rfl (by simp)
      have k16 : Ke [] m15 m16 := by rw [hm16]; exact Ke.app _ _
      have eq := Enc.int.oEq m16 nw m15.length (x.cps.toList.map fun c : Nat => (c : Int) - 48) (x.cps.toList.map fun c : Nat => (c : Int) - 48) (k16.get gw) (by rw [hm16]; simp)
      rw [decide_eq_true rfl] at eq
      refine ⟨m16, ?_⟩
      simp only [f_law, b_law, cp_law_1, cp_law_5, cp_law_6, cSliceS, runB, slots, sSeq, sRet, sIf, sExpr, sAsg, gNm, Co.gCons, Co.gNil, gUnp, Co.gSub, sPar2, sPar3, cVar, cK, cBin, cUn, cNot, cAnd, cOr, cIte, cChain, aNil, aCons, cTup, cLst, cCall, cMeth, cSlice, partOf, sNx, sBrk, sCnt, sBad, sRz, cTrue, Res.bind, MV.ofL, List.map_cons, List.map_nil, List.length_cons, List.length_nil, List.cons_append, List.nil_append, List.getElem?_cons_succ, List.getElem?_cons_zero, List.set_cons_succ, List.set_cons_zero, List.replicate, Nat.reduceSub, Nat.reduceAdd, tw, e1, e2, f3, kindM, if_true, j3, f4, j4, f7, n5, f8, n6, f11, n8', f12, n9', Bool.not_true, sFor, rg, ef, bl, al, e11, e12, e13, s1, s2, ad, s3, s4, bx, oLt_i, lt, e14, a14, e15, e16, eq]
    · have hf : (x.cps.toList.all fun c => decide (c ∈ [48, 49, 50])) = false := by
        rw [Bool.eq_false_iff]; exact fun z => ha (all_iff.mp z)
      rw [hf] at a14
      have hp : pCom x = none := by rw [pCom, if_neg (fun z => ha z.2)]
      rw [hp] at hw
      obtain rfl : w = .non := hw
      have eq : oEq .non .non m15 = .ok (.bl true) m15 := rfl
      refine ⟨m15, ?_⟩
      simp only [f_law, b_law, cp_law_1, cp_law_5, cp_law_6, cSliceS, runB, slots, sSeq, sRet, sIf, sExpr, sAsg, gNm, Co.gCons, Co.gNil, gUnp, Co.gSub, sPar2, sPar3, cVar, cK, cBin, cUn, cNot, cAnd, cOr, cIte, cChain, aNil, aCons, cTup, cLst, cCall, cMeth, cSlice, partOf, sNx, sBrk, sCnt, sBad, sRz, cTrue, Res.bind, MV.ofL, List.map_cons, List.map_nil, List.length_cons, List.length_nil, List.cons_append, List.nil_append, List.getElem?_cons_succ, List.getElem?_cons_zero, List.set_cons_succ, List.set_cons_zero, List.replicate, Nat.reduceSub, Nat.reduceAdd, tw, e1, e2, f3, kindM, if_true, j3, f4, j4, f7, n5, f8, n6, f11, n8', f12, n9', Bool.not_true, sFor, rg, ef, bl, al, e11, e12, e13, s1, s2, ad, s3, s4, bx, oLt_i, lt, e14, a14, e15, eq]
  · have lt : decide (((x.length : Nat) : Int) < 41) = false := decide_eq_false (by omega)
    obtain ⟨w, m15, e15, k15, hw⟩ := read_comings (m := m13) hxl
    have hp : pCom x = none := by rw [pCom, if_neg (fun z => h40 z.1)]
    rw [hp] at hw
    obtain rfl : w = .non := hw
    have eq : oEq .non .non m15 = .ok (.bl true) m15 := rfl
    refine ⟨m15, ?_⟩
    simp only [f_law, b_law, cp_law_1, cp_law_5, cp_law_6, cSliceS, runB, slots, sSeq, sRet, sIf, sExpr, sAsg, gNm, Co.gCons, Co.gNil, gUnp, Co.gSub, sPar2, sPar3, cVar, cK, cBin, cUn, cNot, cAnd, cOr, cIte, cChain, aNil, aCons, cTup, cLst, cCall, cMeth, cSlice, partOf, sNx, sBrk, sCnt, sBad, sRz, cTrue, Res.bind, MV.ofL, List.map_cons, List.map_nil, List.length_cons, List.length_nil, List.cons_append, List.nil_append, List.getElem?_cons_succ, List.getElem?_cons_zero, List.set_cons_succ, List.set_cons_zero, List.replicate, Nat.reduceSub, Nat.reduceAdd, tw, e1, e2, f3, kindM, if_true, j3, f4, j4, f7, n5, f8, n6, f11, n8', f12, n9', Bool.not_true, sFor, rg, ef, bl, al, e11, e12, e13, s1, s2, ad, s3, s4, bx, oLt_i, lt, e15, eq]

end Lw
namespace Lw
open PySem PySem.Spec PyProof.Rows L2 Co
def top (i : Nat) : Stmt := PySem.Challenge.pw_lettogether_k30_whole_texts.main.body.getD i (.Pass ⟨0, 0, 0, 0⟩)
structure Md (K : PySem.W.Frag) (mg : Str → Option Value) : Prop where
  d_law_draw : ∃ f fd, FnP K "_law_draw" "_law_draw" (top 19) f fd ∧ mg "_law_draw" = some (.ref f)
  d_law_pick : ∃ f fd, FnP K "_law_pick" "_law_pick" (top 20) f fd ∧ mg "_law_pick" = some (.ref f)
  d_law_rule : ∃ f fd, FnP K "_law_rule" "_law_rule" (top 22) f fd ∧ mg "_law_rule" = some (.ref f)
  d_law_comings : ∃ f fd, FnP K "_law_comings" "_law_comings" (top 23) f fd ∧ mg "_law_comings" = some (.ref f)
  d_parse_comings : ∃ f fd, FnP K "parse_comings" "parse_comings" (top 15) f fd ∧ mg "parse_comings" = some (.ref f)
  d_is_int : ∃ f fd, FnP K "is_int" "is_int" (top 8) f fd ∧ mg "is_int" = some (.ref f)
  d_is_rule : ∃ f fd, FnP K "is_rule" "is_rule" (top 9) f fd ∧ mg "is_rule" = some (.ref f)
  d_parse_rule : ∃ f fd, FnP K "parse_rule" "parse_rule" (top 17) f fd ∧ mg "parse_rule" = some (.ref f)
  d_law_read : ∃ f fd, FnP K "_law_read" "_law_read" (top 24) f fd ∧ mg "_law_read" = some (.ref f)
  d_need_rule : ∃ f fd, FnP K "need_rule" "need_rule" (top 11) f fd ∧ mg "need_rule" = some (.ref f)
  d_format_rule : ∃ f fd, FnP K "format_rule" "format_rule" (top 16) f fd ∧ mg "format_rule" = some (.ref f)
  d_are_comings : ∃ f fd, FnP K "are_comings" "are_comings" (top 10) f fd ∧ mg "are_comings" = some (.ref f)
  d_need_comings : ∃ f fd, FnP K "need_comings" "need_comings" (top 12) f fd ∧ mg "need_comings" = some (.ref f)
  d_format_comings : ∃ f fd, FnP K "format_comings" "format_comings" (top 14) f fd ∧ mg "format_comings" = some (.ref f)
  d_law : ∃ f fd, FnP K "law" "law" (top 25) f fd ∧ mg "law" = some (.ref f)
  b_all : mg "all" = none
  b_bool : mg "bool" = none
  b_int : mg "int" = none
  b_isinstance : mg "isinstance" = none
  b_len : mg "len" = none
  b_list : mg "list" = none
  b_range : mg "range" = none
  b_str : mg "str" = none
  b_tuple : mg "tuple" = none
  c_LONGEST : ∃ t, mg "LONGEST" = some (.int 40 t)
  c_PLAIN : ∃ a, mg "PLAIN" = some (.ref a) ∧ ∀ H, TD K H a [.str "line", .str "many", .str "one", .str "turns"]
  x_exc : ∀ c ∈ (["ParseError"] : List Str), ExcOk K mg "DoorError" ["ParseError"] c
  g_exc : ∃ D, mg "DoorError" = some (.ref D)
section
variable {P : Program} {w : World} {K : PySem.W.Frag} {mg : Str → Option Value} {base : Heap}
theorem sc_law_draw : FnScope ["script", "town", "many", "at", "mixed", "one"] ["script", "town", "many"] (defScope (top 19)) := ⟨rfl, rfl, rfl, by decide +kernel, rfl, by decide +kernel, by decide +kernel⟩
theorem x_law_draw (M : Md K mg) : Fx P w K mg base 1 "_law_draw" 3 f_law_draw := by
  obtain ⟨f, fd, F, g⟩ := M.d_law_draw
  have nd := sc_law_draw.nd
  refine ⟨f, fd, ["script", "town", "many"], fn_ok (k := 0) (body := b_law_draw) F sc_law_draw rfl (fun cdv A outer s H E hr => ?_), g, F.kp, F.bindsN (fun _ _ _ _ _ _ us hl => match us, hl with | [_, _, _], _ => rfl), rfl⟩
  have hu : (A.deeper (envOfC "_law_draw" (defScope (top 19)) s.heap.objs.size f cdv)).units + 64 < cLine := hr.units
  exact (cs_cons (cs_if (ct_cmp co_gt (ce_ix hu (cv 1) ce_int (fun _ _ => rfl)) ce_int rfl) (cs_cons (cs_set (i := 5) nd rfl (.inl rfl) (ce_bin co_mod (ce_ix hu (cv 1) ce_int (fun _ _ => rfl)) (cv 2)))
    (cs_cons (cs_asg (ce_bin co_div (ce_ix hu (cv 1) ce_int (fun _ _ => rfl)) (cv 2)) (cg_sub (cv 1) ce_int (co_set hu)))
    (cs_one (cs_ret (cv 5))))) cs_nil)
    (cs_cons (cs_set (i := 3) nd rfl (.inl rfl) (ce_ix hu (cv 1) ce_int (fun _ _ => rfl)))
    (cs_cons (cs_augS (cv 1) ce_int co_get ce_int co_iadd (co_set hu))
    (cs_cons (cs_if (ct_cmp (co_eq hu) (cv 0) (ce_lst ca_nil) rfl) (cs_one (cs_ret (ce_bin co_mod (cv 3) (cv 2)))) cs_nil)
    (cs_cons (cs_if (PW.pt (cw_and (ct_cmp co_lt (cv 3) (ce_callB cb_len rfl M.b_len bb_len (ca_cons (cv 0) ca_nil)) rfl) (cw_and1 (ct_cmp co_ge (ce_ix hu (cv 0) (cv 3) (fun _ _ => rfl)) (ce_bin co_pow ce_int ce_int) rfl)))) (cs_cons (cs_asg (ce_bin co_mod (ce_bin co_div (ce_ix hu (cv 0) (cv 3) (fun _ _ => rfl)) (cv 2)) (ce_bin co_mul (ce_bin co_pow ce_int ce_int) (ce_bin co_pow ce_int ce_int))) (cg_sub (cv 1) ce_int (co_set hu)))
    (cs_one (cs_ret (ce_bin co_mod (ce_ix hu (cv 0) (cv 3) (fun _ _ => rfl)) (cv 2))))) cs_nil)
    (cs_cons (cs_set (i := 4) nd rfl (.inl rfl) (ce_bin co_mod (ce_bin co_add (ce_bin co_add (ce_bin co_mul (ce_ix hu (cv 0) (ce_bin co_mod (cv 3) (ce_callB cb_len rfl M.b_len bb_len (ca_cons (cv 0) ca_nil))) (fun _ _ => rfl)) ce_int) (ce_bin co_mul ce_int (cv 3))) ce_int) ce_int))
    (cs_one (cs_ret (ce_bin co_mod (ce_bin co_mod (ce_bin co_mod (ce_bin co_pow (cv 4) ce_int) ce_int) ce_int) (cv 2))))))))))
theorem sc_law_pick : FnScope ["script", "town", "some"] ["script", "town", "some"] (defScope (top 20)) := ⟨rfl, rfl, rfl, by decide +kernel, rfl, by decide +kernel, by decide +kernel⟩
theorem x_law_pick (M : Md K mg) : Fx P w K mg base 2 "_law_pick" 3 f_law_pick := by
  obtain ⟨f, fd, F, g⟩ := M.d_law_pick
  have x_law_draw_ := x_law_draw (P := P) (w := w) (base := base) M
  have nd := sc_law_pick.nd
  refine ⟨f, fd, ["script", "town", "some"], fn_ok (k := 1) (body := b_law_pick) F sc_law_pick rfl (fun cdv A outer s H E hr => ?_), g, F.kp, F.bindsN (fun _ _ _ _ _ _ us hl => match us, hl with | [_, _, _], _ => rfl), rfl⟩
  have hu : (A.deeper (envOfC "_law_pick" (defScope (top 20)) s.heap.objs.size f cdv)).units + 64 < cLine := hr.units
  exact (cs_one (cs_ret (ce_ix hu (cv 2) (ce_call x_law_draw_ (hr.mono (by decide)) rfl (ca_cons (cv 0) (ca_cons (cv 1) (ca_cons (ce_callB cb_len rfl M.b_len bb_len (ca_cons (cv 2) ca_nil)) ca_nil))) (len_cons (len_cons (len_cons len_nil)))) (fun _ _ => rfl))))
theorem sc_law_rule : FnScope ["script", "town", "word"] ["script", "town"] (defScope (top 22)) := ⟨rfl, rfl, rfl, by decide +kernel, rfl, by decide +kernel, by decide +kernel⟩
theorem x_law_rule (M : Md K mg) : Fx P w K mg base 3 "_law_rule" 2 f_law_rule := by
  obtain ⟨f, fd, F, g⟩ := M.d_law_rule
  have x_law_pick_ := x_law_pick (P := P) (w := w) (base := base) M
  have x_law_draw_ := x_law_draw (P := P) (w := w) (base := base) M
  have nd := sc_law_rule.nd
  refine ⟨f, fd, ["script", "town"], fn_ok (k := 2) (body := b_law_rule) F sc_law_rule rfl (fun cdv A outer s H E hr => ?_), g, F.kp, F.bindsN (fun _ _ _ _ _ _ us hl => match us, hl with | [_, _], _ => rfl), rfl⟩
  have hu : (A.deeper (envOfC "_law_rule" (defScope (top 22)) s.heap.objs.size f cdv)).units + 64 < cLine := hr.units
  exact (cs_cons (cs_set (i := 2) nd rfl (.inl rfl) (ce_call x_law_pick_ (hr.mono (by decide)) rfl (ca_cons (cv 0) (ca_cons (cv 1) (ca_cons (ce_lst (ca_cons ce_str (ca_cons ce_str (ca_cons ce_str (ca_cons ce_str (ca_cons ce_str (ca_cons ce_str ca_nil))))))) ca_nil))) (len_cons (len_cons (len_cons len_nil)))))
    (cs_one (cs_ret (ce_ite (ct_cmp (co_in hu) (cv 2) (ce_tup (ca_cons ce_str (ca_cons ce_str ca_nil)) (len_cons (len_cons len_nil))) rfl) (ce_tup (ca_cons (cv 2) (ca_cons (ce_bin co_add ce_int (ce_call x_law_draw_ (hr.mono (by decide)) rfl (ca_cons (cv 0) (ca_cons (cv 1) (ca_cons ce_int ca_nil))) (len_cons (len_cons (len_cons len_nil))))) ca_nil)) (len_cons (len_cons len_nil))) (ce_tup (ca_cons (cv 2) ca_nil) (len_cons len_nil))))))
theorem sc_law_comings : FnScope ["script", "town", "most", "turn", "busy", "row", "coming"] ["script", "town", "most"] (defScope (top 23)) := ⟨rfl, rfl, rfl, by decide +kernel, rfl, by decide +kernel, by decide +kernel⟩
theorem x_law_comings (M : Md K mg) : Fx P w K mg base 2 "_law_comings" 3 f_law_comings := by
  obtain ⟨f, fd, F, g⟩ := M.d_law_comings
  have x_law_draw_ := x_law_draw (P := P) (w := w) (base := base) M
  have nd := sc_law_comings.nd
  refine ⟨f, fd, ["script", "town", "most"], fn_ok (k := 1) (body := b_law_comings) F sc_law_comings rfl (fun cdv A outer s H E hr => ?_), g, F.kp, F.bindsN (fun _ _ _ _ _ _ us hl => match us, hl with | [_, _, _], _ => rfl), rfl⟩
  have hu : (A.deeper (envOfC "_law_comings" (defScope (top 23)) s.heap.objs.size f cdv)).units + 64 < cLine := hr.units
  exact (cs_cons (cs_par2 (i := 4) (j := 5) rfl nd rfl rfl (by decide) rfl rfl (ca_cons (ce_call x_law_draw_ (hr.mono (by decide)) rfl (ca_cons (cv 0) (ca_cons (cv 1) (ca_cons ce_int ca_nil))) (len_cons (len_cons (len_cons len_nil)))) (ca_cons (ce_lst ca_nil) ca_nil)) (by rfl))
    (cs_cons (cs_for PassesOwn.never rfl (ci_range1 rfl M.b_range (ca_cons (ce_call x_law_draw_ (hr.mono (by decide)) rfl (ca_cons (cv 0) (ca_cons (cv 1) (ca_cons (ce_bin co_add (cv 2) ce_int) ca_nil))) (len_cons (len_cons (len_cons len_nil)))) ca_nil) (len_cons len_nil)) (cg_name (i := 3) nd rfl (.inl rfl)) (cs_cons (cs_set (i := 6) nd rfl (.inl rfl) (ce_call x_law_draw_ (hr.mono (by decide)) rfl (ca_cons (cv 0) (ca_cons (cv 1) (ca_cons ce_int ca_nil))) (len_cons (len_cons (len_cons len_nil)))))
    (cs_one (cs_expr (ce_bm PySem.F.plainAttrs_list PySem.F.slot_list_append PySem.F.type_list_append mc_append (cv 5) (ca_cons (ce_ite (PW.pt (cw_or (ct_cmp co_lt (cv 4) ce_int rfl) (cw_or1 (ct_cmp co_gt (cv 6) ce_int rfl)))) (cv 6) (ce_call x_law_draw_ (hr.mono (by decide)) rfl (ca_cons (cv 0) (ca_cons (cv 1) (ca_cons ce_int ca_nil))) (len_cons (len_cons (len_cons len_nil))))) ca_nil))))))
    (cs_one (cs_ret (cv 5)))))
theorem sc_parse_comings : FnScope ["text", "char"] ["text"] (defScope (top 15)) := ⟨rfl, rfl, rfl, by decide +kernel, rfl, by decide +kernel, by decide +kernel⟩
theorem xx_parse_comings (M : Md K mg) : FX P w K mg base 1 "parse_comings" 1 fx_parse_comings := by
  obtain ⟨f, fd, F, g⟩ := M.d_parse_comings
  have cst_LONGEST := M.c_LONGEST
  have nd := sc_parse_comings.nd
  refine ⟨f, fd, ["text"], fnx_ok (k := 0) (body := bx_parse_comings) F sc_parse_comings rfl (fun cdv A outer s H E hr => ?_), g, F.kp, F.bindsN (fun _ _ _ _ _ _ us hl => match us, hl with | [_], _ => rfl), rfl⟩
  have hu : (A.deeper (envOfC "parse_comings" (defScope (top 15)) s.heap.objs.size f cdv)).units + 64 < cLine := hr.units
  have tk : Takes (cxOf (L2.CX P w) P w K mg base ["text", "char"] "parse_comings" (defScope (top 15)) f cdv A outer s H E) (fun cls d _ H => E cls d H) := takes_of rfl rfl rfl rfl
  exact (csx_cons (csx_if (PW.pt (cw_or (ct_not (ct_val (ce_isi (T := "str") (by decide) (cv 0) rfl M.b_isinstance rfl M.b_str bb_str))) (cw_or (ct_cmp co_gt (ce_callB cb_len rfl M.b_len bb_len (ca_cons (cv 0) ca_nil)) (ce_glob (y := .int 40) rfl cst_LONGEST.choose_spec ⟨_, rfl⟩ (fun _ _ => .int _)) rfl) (cw_or1 (ct_not (ct_val (ce_callB (cb_all rfl) rfl M.b_all bb_all (ca_cons (ce_comp (own := [("char", 1)]) rfl nd (by decide) (ci_str (cv 0)) (blkOk_by (N := ["text", "char"]) (sc := (defScope (top 15))) (own := [("char", 1)]) (by decide +kernel)) (fun _ _ _ _ _ => (cg_name (i := 1) nd rfl (.inl rfl))) (fun _ _ _ _ _ => cts_nil) (fun _ _ _ _ _ => (ce_cmp (co_in hu) (cv 1) ce_str rfl))) ca_nil)))))))) (csx_one (csx_raise (M.x_exc "ParseError" (by decide)) rfl tk rfl)) csx_nil)
    (csx_one (csx_lift (cs_ret (ce_comp (own := [("char", 1)]) rfl nd (by decide) (ci_str (cv 0)) (blkOk_by (N := ["text", "char"]) (sc := (defScope (top 15))) (own := [("char", 1)]) (by decide +kernel)) (fun _ _ _ _ _ => (cg_name (i := 1) nd rfl (.inl rfl))) (fun _ _ _ _ _ => cts_nil) (fun _ _ _ _ _ => (ce_callTy cb_int rfl M.b_int bb_int (ca_cons (cv 1) ca_nil))))))))
theorem sc_is_int : FnScope ["value", "least", "most"] ["value", "least", "most"] (defScope (top 8)) := ⟨rfl, rfl, rfl, by decide +kernel, rfl, by decide +kernel, by decide +kernel⟩
theorem x_is_int (M : Md K mg) : Fx P w K mg base 1 "is_int" 3 f_is_int := by
  obtain ⟨f, fd, F, g⟩ := M.d_is_int
  have nd := sc_is_int.nd
  refine ⟨f, fd, ["value", "least", "most"], fn_ok (k := 0) (body := b_is_int) F sc_is_int rfl (fun cdv A outer s H E hr => ?_), g, F.kp, F.bindsN (fun _ _ _ _ _ _ us hl => match us, hl with | [_, _, _], _ => rfl), rfl⟩
  have hu : (A.deeper (envOfC "is_int" (defScope (top 8)) s.heap.objs.size f cdv)).units + 64 < cLine := hr.units
  exact (cs_one (cs_ret (ce_and (ce_isi (T := "int") (by decide) (cv 0) rfl M.b_isinstance rfl M.b_int bb_int) (ce_and (ce_not (ce_isi (T := "bool") (by decide) (cv 0) rfl M.b_isinstance rfl M.b_bool bb_bool)) (ce_one (ce_chain co_le co_le (cv 1) (cv 0) (cv 2)))))))
theorem sc_is_rule : FnScope ["candidate"] ["candidate"] (defScope (top 9)) := ⟨rfl, rfl, rfl, by decide +kernel, rfl, by decide +kernel, by decide +kernel⟩
theorem x_is_rule (M : Md K mg) : Fx P w K mg base 2 "is_rule" 1 f_is_rule := by
  obtain ⟨f, fd, F, g⟩ := M.d_is_rule
  have cst_PLAIN := M.c_PLAIN
  have x_is_int_ := x_is_int (P := P) (w := w) (base := base) M
  have nd := sc_is_rule.nd
  refine ⟨f, fd, ["candidate"], fn_ok (k := 1) (body := b_is_rule) F sc_is_rule rfl (fun cdv A outer s H E hr => ?_), g, F.kp, F.bindsN (fun _ _ _ _ _ _ us hl => match us, hl with | [_], _ => rfl), rfl⟩
  have hu : (A.deeper (envOfC "is_rule" (defScope (top 9)) s.heap.objs.size f cdv)).units + 64 < cLine := hr.units
  exact (cs_cons (cs_if (PW.pt (cw_or (ct_not (ct_val (ce_isi (T := "tuple") (by decide) (cv 0) rfl M.b_isinstance rfl M.b_tuple bb_tuple))) (cw_or (ct_cmp (co_eq hu) (cv 0) (ce_tup ca_nil len_nil) rfl) (cw_or1 (ct_not (ct_val (ce_isi (T := "str") (by decide) (ce_ix hu (cv 0) ce_int (fun _ _ => rfl)) rfl M.b_isinstance rfl M.b_str bb_str))))))) (cs_one (cs_ret ce_bl)) cs_nil)
    (cs_cons (cs_if (ct_cmp (co_in hu) (ce_ix hu (cv 0) ce_int (fun _ _ => rfl)) (ce_glob (y := .ref _) rfl cst_PLAIN.choose_spec.1 rfl (fun _ H => .tup (cst_PLAIN.choose_spec.2 H) (.cons (.str _) (.cons (.str _) (.cons (.str _) (.cons (.str _) .nil)))))) rfl) (cs_one (cs_ret (ce_cmp (co_eq hu) (ce_callB cb_len rfl M.b_len bb_len (ca_cons (cv 0) ca_nil)) ce_int rfl))) cs_nil)
    (cs_one (cs_ret (ce_and (ce_cmp (co_in hu) (ce_ix hu (cv 0) ce_int (fun _ _ => rfl)) (ce_tup (ca_cons ce_str (ca_cons ce_str ca_nil)) (len_cons (len_cons len_nil))) rfl) (ce_and (ce_cmp (co_eq hu) (ce_callB cb_len rfl M.b_len bb_len (ca_cons (cv 0) ca_nil)) ce_int rfl) (ce_one (ce_call x_is_int_ (hr.mono (by decide)) rfl (ca_cons (ce_ix hu (cv 0) ce_int (fun _ _ => rfl)) (ca_cons ce_int (ca_cons ce_int ca_nil))) (len_cons (len_cons (len_cons len_nil)))))))))))
theorem sc_parse_rule : FnScope ["text", "words", "rule", "word"] ["text"] (defScope (top 17)) := ⟨rfl, rfl, rfl, by decide +kernel, rfl, by decide +kernel, by decide +kernel⟩
theorem xx_parse_rule (M : Md K mg) : FX P w K mg base 3 "parse_rule" 1 fx_parse_rule := by
  obtain ⟨f, fd, F, g⟩ := M.d_parse_rule
  have x_is_rule_ := x_is_rule (P := P) (w := w) (base := base) M
  have nd := sc_parse_rule.nd
  refine ⟨f, fd, ["text"], fnx_ok (k := 2) (body := bx_parse_rule) F sc_parse_rule rfl (fun cdv A outer s H E hr => ?_), g, F.kp, F.bindsN (fun _ _ _ _ _ _ us hl => match us, hl with | [_], _ => rfl), rfl⟩
  have hu : (A.deeper (envOfC "parse_rule" (defScope (top 17)) s.heap.objs.size f cdv)).units + 64 < cLine := hr.units
  have tk : Takes (cxOf (L2.CX P w) P w K mg base ["text", "words", "rule", "word"] "parse_rule" (defScope (top 17)) f cdv A outer s H E) (fun cls d _ H => E cls d H) := takes_of rfl rfl rfl rfl
  exact (csx_cons (csx_if (ct_not (ct_val (ce_isi (T := "str") (by decide) (cv 0) rfl M.b_isinstance rfl M.b_str bb_str))) (csx_one (csx_raise (M.x_exc "ParseError" (by decide)) rfl tk rfl)) csx_nil)
    (csx_cons (csx_lift (cs_set (i := 1) nd rfl (.inl rfl) (ce_bm PySem.F.plainAttrs_str PySem.F.slot_str_split PySem.F.type_str_split mc_split (cv 0) (ca_cons ce_str ca_nil))))
    (csx_cons (csx_if (ct_not (ct_val (ce_callB (cb_all rfl) rfl M.b_all bb_all (ca_cons (ce_comp (own := [("word", 3)]) rfl nd (by decide) (ci_seq (ce_slice (cv 1) (co_some ce_int) co_none)) (blkOk_by (N := ["text", "words", "rule", "word"]) (sc := (defScope (top 17))) (own := [("word", 3)]) (by decide +kernel)) (fun _ _ _ _ _ => (cg_name (i := 3) nd rfl (.inl rfl))) (fun _ _ _ _ _ => cts_nil) (fun _ _ _ _ _ => (ce_cmp (co_in hu) (cv 3) (ce_tup (ca_cons ce_str (ca_cons ce_str (ca_cons ce_str ca_nil))) (len_cons (len_cons (len_cons len_nil)))) rfl))) ca_nil)))) (csx_one (csx_raise (M.x_exc "ParseError" (by decide)) rfl tk rfl)) csx_nil)
    (csx_cons (csx_lift (cs_set (i := 2) nd rfl (.inl rfl) (ce_bin co_add (ce_tup (ca_cons (ce_ix hu (cv 1) ce_int (fun _ _ => rfl)) ca_nil) (len_cons len_nil)) (ce_callTy cb_tuple rfl M.b_tuple bb_tuple (ca_cons (ce_comp (own := [("word", 3)]) rfl nd (by decide) (ci_seq (ce_slice (cv 1) (co_some ce_int) co_none)) (blkOk_by (N := ["text", "words", "rule", "word"]) (sc := (defScope (top 17))) (own := [("word", 3)]) (by decide +kernel)) (fun _ _ _ _ _ => (cg_name (i := 3) nd rfl (.inl rfl))) (fun _ _ _ _ _ => cts_nil) (fun _ _ _ _ _ => (ce_callTy cb_int rfl M.b_int bb_int (ca_cons (cv 3) ca_nil)))) ca_nil)))))
    (csx_cons (csx_if (ct_not (ct_val (ce_call x_is_rule_ (hr.mono (by decide)) rfl (ca_cons (cv 2) ca_nil) (len_cons len_nil)))) (csx_one (csx_raise (M.x_exc "ParseError" (by decide)) rfl tk rfl)) csx_nil)
    (csx_one (csx_lift (cs_ret (cv 2)))))))))
theorem sc_law_read : FnScope ["text", "what", "error"] ["text", "what"] (defScope (top 24)) := ⟨rfl, rfl, rfl, by decide +kernel, rfl, by decide +kernel, by decide +kernel⟩
theorem x_law_read (M : Md K mg) : Fx P w K mg base 4 "_law_read" 2 f_law_read := by
  obtain ⟨f, fd, F, g⟩ := M.d_law_read
  have xx_parse_comings_ := xx_parse_comings (P := P) (w := w) (base := base) M
  have xx_parse_rule_ := xx_parse_rule (P := P) (w := w) (base := base) M
  have nd := sc_law_read.nd
  refine ⟨f, fd, ["text", "what"], fn_ok (k := 3) (body := b_law_read) F sc_law_read rfl (fun cdv A outer s H E hr => ?_), g, F.kp, F.bindsN (fun _ _ _ _ _ _ us hl => match us, hl with | [_, _], _ => rfl), rfl⟩
  have hu : (A.deeper (envOfC "_law_read" (defScope (top 24)) s.heap.objs.size f cdv)).units + 64 < cLine := hr.units
  exact (cs_one (cs_tryR (i := 2) M.x_exc M.g_exc.choose_spec rfl rfl nd rfl rfl rfl (fun W pn xe tk => (cex_ite (ct_cmp (co_eq hu) (cv 1) ce_int rfl) (cex_call xx_parse_comings_ (hr.mono (by decide)) tk rfl (ca_cons (cv 0) ca_nil) (len_cons len_nil)) (cex_call xx_parse_rule_ (hr.mono (by decide)) tk rfl (ca_cons (cv 0) ca_nil) (len_cons len_nil)))) (fun a oe C ec pn hm T hC hz hd => pe_isE T hC hz hd (by decide) rfl (.inl rfl) rfl M.b_isinstance rfl ce_non ce_int)))
theorem sc_need_rule : FnScope ["value"] ["value"] (defScope (top 11)) := ⟨rfl, rfl, rfl, by decide +kernel, rfl, by decide +kernel, by decide +kernel⟩
theorem x_need_rule (M : Md K mg) : Fx P w K mg base 3 "need_rule" 1 f_need_rule := by
  obtain ⟨f, fd, F, g⟩ := M.d_need_rule
  have x_is_rule_ := x_is_rule (P := P) (w := w) (base := base) M
  have nd := sc_need_rule.nd
  refine ⟨f, fd, ["value"], fn_ok (k := 2) (body := b_need_rule) F sc_need_rule rfl (fun cdv A outer s H E hr => ?_), g, F.kp, F.bindsN (fun _ _ _ _ _ _ us hl => match us, hl with | [_], _ => rfl), rfl⟩
  have hu : (A.deeper (envOfC "need_rule" (defScope (top 11)) s.heap.objs.size f cdv)).units + 64 < cLine := hr.units
  exact (cs_one (cs_if (ct_not (ct_val (ce_call x_is_rule_ (hr.mono (by decide)) rfl (ca_cons (cv 0) ca_nil) (len_cons len_nil)))) (cs_one cs_rz) cs_nil))
theorem sc_format_rule : FnScope ["rule", "one"] ["rule"] (defScope (top 16)) := ⟨rfl, rfl, rfl, by decide +kernel, rfl, by decide +kernel, by decide +kernel⟩
theorem x_format_rule (M : Md K mg) : Fx P w K mg base 4 "format_rule" 1 f_format_rule := by
  obtain ⟨f, fd, F, g⟩ := M.d_format_rule
  have x_need_rule_ := x_need_rule (P := P) (w := w) (base := base) M
  have nd := sc_format_rule.nd
  refine ⟨f, fd, ["rule"], fn_ok (k := 3) (body := b_format_rule) F sc_format_rule rfl (fun cdv A outer s H E hr => ?_), g, F.kp, F.bindsN (fun _ _ _ _ _ _ us hl => match us, hl with | [_], _ => rfl), rfl⟩
  have hu : (A.deeper (envOfC "format_rule" (defScope (top 16)) s.heap.objs.size f cdv)).units + 64 < cLine := hr.units
  exact (cs_cons (cs_expr (ce_call x_need_rule_ (hr.mono (by decide)) rfl (ca_cons (cv 0) ca_nil) (len_cons len_nil)))
    (cs_one (cs_ret (ce_bm PySem.F.plainAttrs_str PySem.F.slot_str_join PySem.F.type_str_join mc_join ce_str (ca_cons (ce_comp (own := [("one", 1)]) rfl nd (by decide) (ci_seq (cv 0)) (blkOk_by (N := ["rule", "one"]) (sc := (defScope (top 16))) (own := [("one", 1)]) (by decide +kernel)) (fun _ _ _ _ _ => (cg_name (i := 1) nd rfl (.inl rfl))) (fun _ _ _ _ _ => cts_nil) (fun _ _ _ _ _ => (ce_callTy cb_str rfl M.b_str bb_str (ca_cons (cv 1) ca_nil)))) ca_nil)))))
theorem x_parse_rule (M : Md K mg) : Fx P w K mg base 3 "parse_rule" 1 f_parse_rule := by
  obtain ⟨f, fd, F, g⟩ := M.d_parse_rule
  have x_is_rule_ := x_is_rule (P := P) (w := w) (base := base) M
  have nd := sc_parse_rule.nd
  refine ⟨f, fd, ["text"], fn_ok (k := 2) (body := b_parse_rule) F sc_parse_rule rfl (fun cdv A outer s H E hr => ?_), g, F.kp, F.bindsN (fun _ _ _ _ _ _ us hl => match us, hl with | [_], _ => rfl), rfl⟩
  have hu : (A.deeper (envOfC "parse_rule" (defScope (top 17)) s.heap.objs.size f cdv)).units + 64 < cLine := hr.units
  exact (cs_cons (cs_if (ct_not (ct_val (ce_isi (T := "str") (by decide) (cv 0) rfl M.b_isinstance rfl M.b_str bb_str))) (cs_one cs_rz) cs_nil)
    (cs_cons (cs_set (i := 1) nd rfl (.inl rfl) (ce_bm PySem.F.plainAttrs_str PySem.F.slot_str_split PySem.F.type_str_split mc_split (cv 0) (ca_cons ce_str ca_nil)))
    (cs_cons (cs_if (ct_not (ct_val (ce_callB (cb_all rfl) rfl M.b_all bb_all (ca_cons (ce_comp (own := [("word", 3)]) rfl nd (by decide) (ci_seq (ce_slice (cv 1) (co_some ce_int) co_none)) (blkOk_by (N := ["text", "words", "rule", "word"]) (sc := (defScope (top 17))) (own := [("word", 3)]) (by decide +kernel)) (fun _ _ _ _ _ => (cg_name (i := 3) nd rfl (.inl rfl))) (fun _ _ _ _ _ => cts_nil) (fun _ _ _ _ _ => (ce_cmp (co_in hu) (cv 3) (ce_tup (ca_cons ce_str (ca_cons ce_str (ca_cons ce_str ca_nil))) (len_cons (len_cons (len_cons len_nil)))) rfl))) ca_nil)))) (cs_one cs_rz) cs_nil)
    (cs_cons (cs_set (i := 2) nd rfl (.inl rfl) (ce_bin co_add (ce_tup (ca_cons (ce_ix hu (cv 1) ce_int (fun _ _ => rfl)) ca_nil) (len_cons len_nil)) (ce_callTy cb_tuple rfl M.b_tuple bb_tuple (ca_cons (ce_comp (own := [("word", 3)]) rfl nd (by decide) (ci_seq (ce_slice (cv 1) (co_some ce_int) co_none)) (blkOk_by (N := ["text", "words", "rule", "word"]) (sc := (defScope (top 17))) (own := [("word", 3)]) (by decide +kernel)) (fun _ _ _ _ _ => (cg_name (i := 3) nd rfl (.inl rfl))) (fun _ _ _ _ _ => cts_nil) (fun _ _ _ _ _ => (ce_callTy cb_int rfl M.b_int bb_int (ca_cons (cv 3) ca_nil)))) ca_nil))))
    (cs_cons (cs_if (ct_not (ct_val (ce_call x_is_rule_ (hr.mono (by decide)) rfl (ca_cons (cv 2) ca_nil) (len_cons len_nil)))) (cs_one cs_rz) cs_nil)
    (cs_one (cs_ret (cv 2))))))))
theorem sc_are_comings : FnScope ["candidate", "one"] ["candidate"] (defScope (top 10)) := ⟨rfl, rfl, rfl, by decide +kernel, rfl, by decide +kernel, by decide +kernel⟩
theorem x_are_comings (M : Md K mg) : Fx P w K mg base 2 "are_comings" 1 f_are_comings := by
  obtain ⟨f, fd, F, g⟩ := M.d_are_comings
  have cst_LONGEST := M.c_LONGEST
  have x_is_int_ := x_is_int (P := P) (w := w) (base := base) M
  have nd := sc_are_comings.nd
  refine ⟨f, fd, ["candidate"], fn_ok (k := 1) (body := b_are_comings) F sc_are_comings rfl (fun cdv A outer s H E hr => ?_), g, F.kp, F.bindsN (fun _ _ _ _ _ _ us hl => match us, hl with | [_], _ => rfl), rfl⟩
  have hu : (A.deeper (envOfC "are_comings" (defScope (top 10)) s.heap.objs.size f cdv)).units + 64 < cLine := hr.units
  exact (cs_cons (cs_if (PW.pt (cw_or (ct_not (ct_val (ce_isi (T := "list") (by decide) (cv 0) rfl M.b_isinstance rfl M.b_list bb_list))) (cw_or1 (ct_cmp co_gt (ce_callB cb_len rfl M.b_len bb_len (ca_cons (cv 0) ca_nil)) (ce_glob (y := .int 40) rfl cst_LONGEST.choose_spec ⟨_, rfl⟩ (fun _ _ => .int _)) rfl)))) (cs_one (cs_ret ce_bl)) cs_nil)
    (cs_one (cs_ret (ce_callB (cb_all rfl) rfl M.b_all bb_all (ca_cons (ce_comp (own := [("one", 1)]) rfl nd (by decide) (ci_seq (cv 0)) (blkOk_by (N := ["candidate", "one"]) (sc := (defScope (top 10))) (own := [("one", 1)]) (by decide +kernel)) (fun _ _ _ _ _ => (cg_name (i := 1) nd rfl (.inl rfl))) (fun _ _ _ _ _ => cts_nil) (fun _ _ _ _ _ => (ce_call x_is_int_ (hr.mono (by decide)) rfl (ca_cons (cv 1) (ca_cons ce_int (ca_cons ce_int ca_nil))) (len_cons (len_cons (len_cons len_nil)))))) ca_nil)))))
theorem sc_need_comings : FnScope ["value"] ["value"] (defScope (top 12)) := ⟨rfl, rfl, rfl, by decide +kernel, rfl, by decide +kernel, by decide +kernel⟩
theorem x_need_comings (M : Md K mg) : Fx P w K mg base 3 "need_comings" 1 f_need_comings := by
  obtain ⟨f, fd, F, g⟩ := M.d_need_comings
  have x_are_comings_ := x_are_comings (P := P) (w := w) (base := base) M
  have nd := sc_need_comings.nd
  refine ⟨f, fd, ["value"], fn_ok (k := 2) (body := b_need_comings) F sc_need_comings rfl (fun cdv A outer s H E hr => ?_), g, F.kp, F.bindsN (fun _ _ _ _ _ _ us hl => match us, hl with | [_], _ => rfl), rfl⟩
  have hu : (A.deeper (envOfC "need_comings" (defScope (top 12)) s.heap.objs.size f cdv)).units + 64 < cLine := hr.units
  exact (cs_one (cs_if (ct_not (ct_val (ce_call x_are_comings_ (hr.mono (by decide)) rfl (ca_cons (cv 0) ca_nil) (len_cons len_nil)))) (cs_one cs_rz) cs_nil))
theorem sc_format_comings : FnScope ["comings", "coming"] ["comings"] (defScope (top 14)) := ⟨rfl, rfl, rfl, by decide +kernel, rfl, by decide +kernel, by decide +kernel⟩
theorem x_format_comings (M : Md K mg) : Fx P w K mg base 4 "format_comings" 1 f_format_comings := by
  obtain ⟨f, fd, F, g⟩ := M.d_format_comings
  have x_need_comings_ := x_need_comings (P := P) (w := w) (base := base) M
  have nd := sc_format_comings.nd
  refine ⟨f, fd, ["comings"], fn_ok (k := 3) (body := b_format_comings) F sc_format_comings rfl (fun cdv A outer s H E hr => ?_), g, F.kp, F.bindsN (fun _ _ _ _ _ _ us hl => match us, hl with | [_], _ => rfl), rfl⟩
  have hu : (A.deeper (envOfC "format_comings" (defScope (top 14)) s.heap.objs.size f cdv)).units + 64 < cLine := hr.units
  exact (cs_cons (cs_expr (ce_call x_need_comings_ (hr.mono (by decide)) rfl (ca_cons (cv 0) ca_nil) (len_cons len_nil)))
    (cs_one (cs_ret (ce_bm PySem.F.plainAttrs_str PySem.F.slot_str_join PySem.F.type_str_join mc_join ce_str (ca_cons (ce_comp (own := [("coming", 1)]) rfl nd (by decide) (ci_seq (cv 0)) (blkOk_by (N := ["comings", "coming"]) (sc := (defScope (top 14))) (own := [("coming", 1)]) (by decide +kernel)) (fun _ _ _ _ _ => (cg_name (i := 1) nd rfl (.inl rfl))) (fun _ _ _ _ _ => cts_nil) (fun _ _ _ _ _ => (ce_callTy cb_str rfl M.b_str bb_str (ca_cons (cv 1) ca_nil)))) ca_nil)))))
theorem x_parse_comings (M : Md K mg) : Fx P w K mg base 1 "parse_comings" 1 f_parse_comings := by
  obtain ⟨f, fd, F, g⟩ := M.d_parse_comings
  have cst_LONGEST := M.c_LONGEST
  have nd := sc_parse_comings.nd
  refine ⟨f, fd, ["text"], fn_ok (k := 0) (body := b_parse_comings) F sc_parse_comings rfl (fun cdv A outer s H E hr => ?_), g, F.kp, F.bindsN (fun _ _ _ _ _ _ us hl => match us, hl with | [_], _ => rfl), rfl⟩
  have hu : (A.deeper (envOfC "parse_comings" (defScope (top 15)) s.heap.objs.size f cdv)).units + 64 < cLine := hr.units
  exact (cs_cons (cs_if (PW.pt (cw_or (ct_not (ct_val (ce_isi (T := "str") (by decide) (cv 0) rfl M.b_isinstance rfl M.b_str bb_str))) (cw_or (ct_cmp co_gt (ce_callB cb_len rfl M.b_len bb_len (ca_cons (cv 0) ca_nil)) (ce_glob (y := .int 40) rfl cst_LONGEST.choose_spec ⟨_, rfl⟩ (fun _ _ => .int _)) rfl) (cw_or1 (ct_not (ct_val (ce_callB (cb_all rfl) rfl M.b_all bb_all (ca_cons (ce_comp (own := [("char", 1)]) rfl nd (by decide) (ci_str (cv 0)) (blkOk_by (N := ["text", "char"]) (sc := (defScope (top 15))) (own := [("char", 1)]) (by decide +kernel)) (fun _ _ _ _ _ => (cg_name (i := 1) nd rfl (.inl rfl))) (fun _ _ _ _ _ => cts_nil) (fun _ _ _ _ _ => (ce_cmp (co_in hu) (cv 1) ce_str rfl))) ca_nil)))))))) (cs_one cs_rz) cs_nil)
    (cs_one (cs_ret (ce_comp (own := [("char", 1)]) rfl nd (by decide) (ci_str (cv 0)) (blkOk_by (N := ["text", "char"]) (sc := (defScope (top 15))) (own := [("char", 1)]) (by decide +kernel)) (fun _ _ _ _ _ => (cg_name (i := 1) nd rfl (.inl rfl))) (fun _ _ _ _ _ => cts_nil) (fun _ _ _ _ _ => (ce_callTy cb_int rfl M.b_int bb_int (ca_cons (cv 1) ca_nil)))))))
theorem sc_law : FnScope ["script", "town", "turn", "new", "good", "rule", "comings", "text", "line", "at", "sign", "words", "told", "one", "coming", "word", "char"] ["script"] (defScope (top 25)) := ⟨rfl, rfl, rfl, by decide +kernel, rfl, by decide +kernel, by decide +kernel⟩
theorem x_law {f : Addr} {fd : FuncData} (F : FnP K "law" "law" (top 25) f fd) (M : Md K mg) : FnOk P w K mg base CX0 5 f fd ["script"] (spOf ⟨P, w, K, mg⟩ f_law 1) := by
  have x_law_rule_ := x_law_rule (P := P) (w := w) (base := base) M
  have x_law_comings_ := x_law_comings (P := P) (w := w) (base := base) M
  have x_law_draw_ := x_law_draw (P := P) (w := w) (base := base) M
  have x_law_pick_ := x_law_pick (P := P) (w := w) (base := base) M
  have x_law_read_ := x_law_read (P := P) (w := w) (base := base) M
  have x_format_rule_ := x_format_rule (P := P) (w := w) (base := base) M
  have x_parse_rule_ := x_parse_rule (P := P) (w := w) (base := base) M
  have x_format_comings_ := x_format_comings (P := P) (w := w) (base := base) M
  have x_parse_comings_ := x_parse_comings (P := P) (w := w) (base := base) M
  have x_is_rule_ := x_is_rule (P := P) (w := w) (base := base) M
  have nd := sc_law.nd
  refine fn_ok (k := 4) (body := b_law) F sc_law rfl (fun cdv A outer s H E hr => ?_)
  have hu : (A.deeper (envOfC "law" (defScope (top 25)) s.heap.objs.size f cdv)).units + 64 < cLine := hr.units
  exact (cs_cons (cs_set (i := 1) nd rfl (.inl rfl) (ce_lst (ca_cons ce_int (ca_cons ce_int ca_nil))))
    (cs_cons (cs_par2 (i := 5) (j := 6) rfl nd rfl rfl (by decide) rfl rfl (ca_cons (ce_call x_law_rule_ (hr.mono (by decide)) rfl (ca_cons (cv 0) (ca_cons (cv 1) ca_nil)) (len_cons (len_cons len_nil))) (ca_cons (ce_call x_law_comings_ (hr.mono (by decide)) rfl (ca_cons (cv 0) (ca_cons (cv 1) (ca_cons ce_int ca_nil))) (len_cons (len_cons (len_cons len_nil)))) ca_nil)) (by rfl))
    (cs_cons (cs_par2 (i := 7) (j := 8) rfl nd rfl rfl (by decide) rfl rfl (ca_cons (ce_bm PySem.F.plainAttrs_str PySem.F.slot_str_join PySem.F.type_str_join mc_join ce_str (ca_cons (ce_comp (own := [("one", 13)]) rfl nd (by decide) (ci_seq (cv 5)) (blkOk_by (N := ["script", "town", "turn", "new", "good", "rule", "comings", "text", "line", "at", "sign", "words", "told", "one", "coming", "word", "char"]) (sc := (defScope (top 25))) (own := [("one", 13)]) (by decide +kernel)) (fun _ _ _ _ _ => (cg_name (i := 13) nd rfl (.inl rfl))) (fun _ _ _ _ _ => cts_nil) (fun _ _ _ _ _ => (ce_callTy cb_str rfl M.b_str bb_str (ca_cons (cv 13) ca_nil)))) ca_nil)) (ca_cons (ce_bm PySem.F.plainAttrs_str PySem.F.slot_str_join PySem.F.type_str_join mc_join ce_str (ca_cons (ce_comp (own := [("coming", 14)]) rfl nd (by decide) (ci_seq (cv 6)) (blkOk_by (N := ["script", "town", "turn", "new", "good", "rule", "comings", "text", "line", "at", "sign", "words", "told", "one", "coming", "word", "char"]) (sc := (defScope (top 25))) (own := [("coming", 14)]) (by decide +kernel)) (fun _ _ _ _ _ => (cg_name (i := 14) nd rfl (.inl rfl))) (fun _ _ _ _ _ => cts_nil) (fun _ _ _ _ _ => (ce_callTy cb_str rfl M.b_str bb_str (ca_cons (cv 14) ca_nil)))) ca_nil)) ca_nil)) (by rfl))
    (cs_cons (cs_if (PW.pt (cw_or (ct_cmp (co_ne hu) (ce_call x_format_rule_ (hr.mono (by decide)) rfl (ca_cons (cv 5) ca_nil) (len_cons len_nil)) (cv 7) rfl) (cw_or1 (ct_cmp (co_ne hu) (ce_call x_parse_rule_ (hr.mono (by decide)) rfl (ca_cons (cv 7) ca_nil) (len_cons len_nil)) (cv 5) rfl)))) (cs_one (cs_ret ce_bl)) cs_nil)
    (cs_cons (cs_if (PW.pt (cw_or (ct_cmp (co_ne hu) (ce_call x_format_comings_ (hr.mono (by decide)) rfl (ca_cons (cv 6) ca_nil) (len_cons len_nil)) (cv 8) rfl) (cw_or1 (ct_cmp (co_ne hu) (ce_call x_parse_comings_ (hr.mono (by decide)) rfl (ca_cons (cv 8) ca_nil) (len_cons len_nil)) (cv 6) rfl)))) (cs_one (cs_ret ce_bl)) cs_nil)
    (cs_cons (cs_for PassesOwn.never rfl (ci_range1 rfl M.b_range (ca_cons ce_int ca_nil) (len_cons len_nil)) (cg_name (i := 2) nd rfl (.inl rfl)) (cs_cons (cs_par2 (i := 9) (j := 10) rfl nd rfl rfl (by decide) rfl rfl (ca_cons (ce_call x_law_draw_ (hr.mono (by decide)) rfl (ca_cons (cv 0) (ca_cons (cv 1) (ca_cons (ce_bin co_add (ce_callB cb_len rfl M.b_len bb_len (ca_cons (cv 7) ca_nil)) ce_int) ca_nil))) (len_cons (len_cons (len_cons len_nil)))) (ca_cons (ce_call x_law_pick_ (hr.mono (by decide)) rfl (ca_cons (cv 0) (ca_cons (cv 1) (ca_cons (ce_lst (ca_cons ce_str (ca_cons ce_str (ca_cons ce_str (ca_cons ce_str (ca_cons ce_str (ca_cons ce_str ca_nil))))))) ca_nil))) (len_cons (len_cons (len_cons len_nil)))) ca_nil)) (by rfl))
    (cs_cons (cs_set (i := 3) nd rfl (.inl rfl) (ce_bin co_addS (ce_bin co_addS (ce_sliceS (cv 7) co_none (co_some (cv 9))) (cv 10)) (ce_sliceS (cv 7) (co_some (ce_bin co_add (cv 9) (ce_call x_law_draw_ (hr.mono (by decide)) rfl (ca_cons (cv 0) (ca_cons (cv 1) (ca_cons ce_int ca_nil))) (len_cons (len_cons (len_cons len_nil)))))) co_none)))
    (cs_cons (cs_par2 (i := 11) (j := 12) rfl nd rfl rfl (by decide) rfl rfl (ca_cons (ce_bm PySem.F.plainAttrs_str PySem.F.slot_str_split PySem.F.type_str_split mc_split (cv 3) (ca_cons ce_str ca_nil)) (ca_cons ce_non ca_nil)) (by rfl))
    (cs_cons (cs_if (ct_val (ce_callB (cb_all rfl) rfl M.b_all bb_all (ca_cons (ce_comp (own := [("word", 15)]) rfl nd (by decide) (ci_seq (ce_slice (cv 11) (co_some ce_int) co_none)) (blkOk_by (N := ["script", "town", "turn", "new", "good", "rule", "comings", "text", "line", "at", "sign", "words", "told", "one", "coming", "word", "char"]) (sc := (defScope (top 25))) (own := [("word", 15)]) (by decide +kernel)) (fun _ _ _ _ _ => (cg_name (i := 15) nd rfl (.inl rfl))) (fun _ _ _ _ _ => cts_nil) (fun _ _ _ _ _ => (ce_cmp (co_in hu) (cv 15) (ce_tup (ca_cons ce_str (ca_cons ce_str (ca_cons ce_str ca_nil))) (len_cons (len_cons (len_cons len_nil)))) rfl))) ca_nil))) (cs_one (cs_set (i := 12) nd rfl (.inl rfl) (ce_bin co_add (ce_tup (ca_cons (ce_ix hu (cv 11) ce_int (fun _ _ => rfl)) ca_nil) (len_cons len_nil)) (ce_callTy cb_tuple rfl M.b_tuple bb_tuple (ca_cons (ce_comp (own := [("word", 15)]) rfl nd (by decide) (ci_seq (ce_slice (cv 11) (co_some ce_int) co_none)) (blkOk_by (N := ["script", "town", "turn", "new", "good", "rule", "comings", "text", "line", "at", "sign", "words", "told", "one", "coming", "word", "char"]) (sc := (defScope (top 25))) (own := [("word", 15)]) (by decide +kernel)) (fun _ _ _ _ _ => (cg_name (i := 15) nd rfl (.inl rfl))) (fun _ _ _ _ _ => cts_nil) (fun _ _ _ _ _ => (ce_callTy cb_int rfl M.b_int bb_int (ca_cons (cv 15) ca_nil)))) ca_nil))))) cs_nil)
    (cs_one (cs_if (ct_cmp (co_ne hu) (ce_call x_law_read_ (hr.mono (by decide)) rfl (ca_cons (cv 3) (ca_cons ce_int ca_nil)) (len_cons (len_cons len_nil))) (ce_ite (ct_val (ce_call x_is_rule_ (hr.mono (by decide)) rfl (ca_cons (cv 12) ca_nil) (len_cons len_nil))) (cv 12) ce_non) rfl) (cs_one (cs_ret ce_bl)) cs_nil)))))))
    (cs_cons (cs_par2 (i := 9) (j := 10) rfl nd rfl rfl (by decide) rfl rfl (ca_cons (ce_call x_law_draw_ (hr.mono (by decide)) rfl (ca_cons (cv 0) (ca_cons (cv 1) (ca_cons (ce_bin co_add (ce_callB cb_len rfl M.b_len bb_len (ca_cons (cv 8) ca_nil)) ce_int) ca_nil))) (len_cons (len_cons (len_cons len_nil)))) (ca_cons (ce_call x_law_pick_ (hr.mono (by decide)) rfl (ca_cons (cv 0) (ca_cons (cv 1) (ca_cons (ce_lst (ca_cons ce_str (ca_cons ce_str (ca_cons ce_str (ca_cons ce_str (ca_cons ce_str (ca_cons ce_str ca_nil))))))) ca_nil))) (len_cons (len_cons (len_cons len_nil)))) ca_nil)) (by rfl))
    (cs_cons (cs_set (i := 3) nd rfl (.inl rfl) (ce_bin co_addS (ce_bin co_addS (ce_sliceS (cv 8) co_none (co_some (cv 9))) (cv 10)) (ce_sliceS (cv 8) (co_some (ce_bin co_add (cv 9) ce_int)) co_none)))
    (cs_cons (cs_set (i := 4) nd rfl (.inl rfl) (ce_and (ce_cmp co_lt (ce_callB cb_len rfl M.b_len bb_len (ca_cons (cv 3) ca_nil)) ce_int rfl) (ce_one (ce_callB (cb_all rfl) rfl M.b_all bb_all (ca_cons (ce_comp (own := [("char", 16)]) rfl nd (by decide) (ci_str (cv 3)) (blkOk_by (N := ["script", "town", "turn", "new", "good", "rule", "comings", "text", "line", "at", "sign", "words", "told", "one", "coming", "word", "char"]) (sc := (defScope (top 25))) (own := [("char", 16)]) (by decide +kernel)) (fun _ _ _ _ _ => (cg_name (i := 16) nd rfl (.inl rfl))) (fun _ _ _ _ _ => cts_nil) (fun _ _ _ _ _ => (ce_cmp (co_in hu) (cv 16) ce_str rfl))) ca_nil)))))
    (cs_one (cs_ret (ce_cmp (co_eq hu) (ce_call x_law_read_ (hr.mono (by decide)) rfl (ca_cons (cv 3) (ca_cons ce_int ca_nil)) (len_cons (len_cons len_nil))) (ce_ite (ct_val (cv 4)) (ce_comp (own := [("char", 16)]) rfl nd (by decide) (ci_str (cv 3)) (blkOk_by (N := ["script", "town", "turn", "new", "good", "rule", "comings", "text", "line", "at", "sign", "words", "told", "one", "coming", "word", "char"]) (sc := (defScope (top 25))) (own := [("char", 16)]) (by decide +kernel)) (fun _ _ _ _ _ => (cg_name (i := 16) nd rfl (.inl rfl))) (fun _ _ _ _ _ => cts_nil) (fun _ _ _ _ _ => (ce_callTy cb_int rfl M.b_int bb_int (ca_cons (cv 16) ca_nil)))) ce_non) rfl))))))))))))
end
def dd_law_draw : He.DefD := ⟨("_law_draw", none), "_law_draw", "_law_draw", defArgs (top 19), defBody (top 19), defScope (top 19), [], []⟩
def dd_law_pick : He.DefD := ⟨("_law_pick", none), "_law_pick", "_law_pick", defArgs (top 20), defBody (top 20), defScope (top 20), [], []⟩
def dd_law_rule : He.DefD := ⟨("_law_rule", none), "_law_rule", "_law_rule", defArgs (top 22), defBody (top 22), defScope (top 22), [], []⟩
def dd_law_comings : He.DefD := ⟨("_law_comings", none), "_law_comings", "_law_comings", defArgs (top 23), defBody (top 23), defScope (top 23), [], []⟩
def dd_parse_comings : He.DefD := ⟨("parse_comings", none), "parse_comings", "parse_comings", defArgs (top 15), defBody (top 15), defScope (top 15), [], []⟩
def dd_is_int : He.DefD := ⟨("is_int", none), "is_int", "is_int", defArgs (top 8), defBody (top 8), defScope (top 8), [], []⟩
def dd_is_rule : He.DefD := ⟨("is_rule", none), "is_rule", "is_rule", defArgs (top 9), defBody (top 9), defScope (top 9), [], []⟩
def dd_parse_rule : He.DefD := ⟨("parse_rule", none), "parse_rule", "parse_rule", defArgs (top 17), defBody (top 17), defScope (top 17), [], []⟩
def dd_law_read : He.DefD := ⟨("_law_read", none), "_law_read", "_law_read", defArgs (top 24), defBody (top 24), defScope (top 24), [], []⟩
def dd_need_rule : He.DefD := ⟨("need_rule", none), "need_rule", "need_rule", defArgs (top 11), defBody (top 11), defScope (top 11), [], []⟩
def dd_format_rule : He.DefD := ⟨("format_rule", none), "format_rule", "format_rule", defArgs (top 16), defBody (top 16), defScope (top 16), [], []⟩
def dd_are_comings : He.DefD := ⟨("are_comings", none), "are_comings", "are_comings", defArgs (top 10), defBody (top 10), defScope (top 10), [], []⟩
def dd_need_comings : He.DefD := ⟨("need_comings", none), "need_comings", "need_comings", defArgs (top 12), defBody (top 12), defScope (top 12), [], []⟩
def dd_format_comings : He.DefD := ⟨("format_comings", none), "format_comings", "format_comings", defArgs (top 14), defBody (top 14), defScope (top 14), [], []⟩
def dd_law : He.DefD := ⟨("law", none), "law", "law", defArgs (top 25), defBody (top 25), defScope (top 25), [], []⟩
def fn : List He.DefD := [dd_law_draw, dd_law_pick, dd_law_rule, dd_law_comings, dd_parse_comings, dd_is_int, dd_is_rule, dd_parse_rule, dd_law_read, dd_need_rule, dd_format_rule, dd_are_comings, dd_need_comings, dd_format_comings, dd_law]
def fa : List He.Fa := [.glo "_law_draw", .glo "_law_pick", .glo "_law_rule", .glo "_law_comings", .glo "parse_comings", .glo "is_int", .glo "is_rule", .glo "parse_rule", .glo "_law_read", .glo "need_rule", .glo "format_rule", .glo "are_comings", .glo "need_comings", .glo "format_comings", .glo "law", .free "all", .free "bool", .free "int", .free "isinstance", .free "len", .free "list", .free "range", .free "str", .free "tuple", .int "LONGEST" 40, .glo "PLAIN", .glo "DoorError"]
def xf : List (PySem.W.Frag → Bool) := [tupBD "PLAIN" [.str "line", .str "many", .str "one", .str "turns"], excB "DoorError" ["ParseError"] "ParseError"]
abbrev R : PySem.W.OpenRow := PySem.W.OpenLaw.row PySem.Challenge.rw_lettogether_k30_whole_texts
abbrev hk : PySem.W.Hook := hookX 4 xf fa fn
def ob (s : PySem.W.SharedT) : AlX := obsXG 4 xf fa fn (HandSHeadRun.getT s)
theorem ob_eq (s : PySem.W.SharedT) : ob s = hk.obs s.abs := obsXG_eq (HandSHeadRun.getT_eq s)
def loose : List PySem.Str := (["DoorError", "InvalidRule", "InvalidComings", "ParseError", "LONGEST", "PLAIN", "is_int", "is_rule", "are_comings", "need_rule", "need_comings", "format_comings", "parse_comings", "format_rule", "parse_rule", "_law_draw", "_law_pick", "_law_setting", "_law_rule", "_law_comings", "_law_read"] : List PySem.Str)
theorem run (w : World) : HandSHeadRun.RunEq R (PySem.W.view R.prog [25]) hk ob 6000 loose w := by
  intro os
  kernel_rfl
theorem facts {K : PySem.W.Frag} {h : Heap} {mg : Str → Option Value} (X : K.In h) (G : h.Ns mainGlobals mg) (c : SaysX xf fa fn K) : Md K mg where
  d_law_draw := (c.d.def_ 0 (d := dd_law_draw) rfl).elim fun fd F => ⟨_, fd, F, He.glo_ok X G (c.d.fact 0 (f := .glo "_law_draw") rfl)⟩
  d_law_pick := (c.d.def_ 1 (d := dd_law_pick) rfl).elim fun fd F => ⟨_, fd, F, He.glo_ok X G (c.d.fact 1 (f := .glo "_law_pick") rfl)⟩
  d_law_rule := (c.d.def_ 2 (d := dd_law_rule) rfl).elim fun fd F => ⟨_, fd, F, He.glo_ok X G (c.d.fact 2 (f := .glo "_law_rule") rfl)⟩
  d_law_comings := (c.d.def_ 3 (d := dd_law_comings) rfl).elim fun fd F => ⟨_, fd, F, He.glo_ok X G (c.d.fact 3 (f := .glo "_law_comings") rfl)⟩
  d_parse_comings := (c.d.def_ 4 (d := dd_parse_comings) rfl).elim fun fd F => ⟨_, fd, F, He.glo_ok X G (c.d.fact 4 (f := .glo "parse_comings") rfl)⟩
  d_is_int := (c.d.def_ 5 (d := dd_is_int) rfl).elim fun fd F => ⟨_, fd, F, He.glo_ok X G (c.d.fact 5 (f := .glo "is_int") rfl)⟩
  d_is_rule := (c.d.def_ 6 (d := dd_is_rule) rfl).elim fun fd F => ⟨_, fd, F, He.glo_ok X G (c.d.fact 6 (f := .glo "is_rule") rfl)⟩
  d_parse_rule := (c.d.def_ 7 (d := dd_parse_rule) rfl).elim fun fd F => ⟨_, fd, F, He.glo_ok X G (c.d.fact 7 (f := .glo "parse_rule") rfl)⟩
  d_law_read := (c.d.def_ 8 (d := dd_law_read) rfl).elim fun fd F => ⟨_, fd, F, He.glo_ok X G (c.d.fact 8 (f := .glo "_law_read") rfl)⟩
  d_need_rule := (c.d.def_ 9 (d := dd_need_rule) rfl).elim fun fd F => ⟨_, fd, F, He.glo_ok X G (c.d.fact 9 (f := .glo "need_rule") rfl)⟩
  d_format_rule := (c.d.def_ 10 (d := dd_format_rule) rfl).elim fun fd F => ⟨_, fd, F, He.glo_ok X G (c.d.fact 10 (f := .glo "format_rule") rfl)⟩
  d_are_comings := (c.d.def_ 11 (d := dd_are_comings) rfl).elim fun fd F => ⟨_, fd, F, He.glo_ok X G (c.d.fact 11 (f := .glo "are_comings") rfl)⟩
  d_need_comings := (c.d.def_ 12 (d := dd_need_comings) rfl).elim fun fd F => ⟨_, fd, F, He.glo_ok X G (c.d.fact 12 (f := .glo "need_comings") rfl)⟩
  d_format_comings := (c.d.def_ 13 (d := dd_format_comings) rfl).elim fun fd F => ⟨_, fd, F, He.glo_ok X G (c.d.fact 13 (f := .glo "format_comings") rfl)⟩
  d_law := (c.d.def_ 14 (d := dd_law) rfl).elim fun fd F => ⟨_, fd, F, He.glo_ok X G (c.d.fact 14 (f := .glo "law") rfl)⟩
  b_all := He.free_ok X G (c.d.fact 15 (f := .free "all") rfl)
  b_bool := He.free_ok X G (c.d.fact 16 (f := .free "bool") rfl)
  b_int := He.free_ok X G (c.d.fact 17 (f := .free "int") rfl)
  b_isinstance := He.free_ok X G (c.d.fact 18 (f := .free "isinstance") rfl)
  b_len := He.free_ok X G (c.d.fact 19 (f := .free "len") rfl)
  b_list := He.free_ok X G (c.d.fact 20 (f := .free "list") rfl)
  b_range := He.free_ok X G (c.d.fact 21 (f := .free "range") rfl)
  b_str := He.free_ok X G (c.d.fact 22 (f := .free "str") rfl)
  b_tuple := He.free_ok X G (c.d.fact 23 (f := .free "tuple") rfl)
  c_LONGEST := He.int_ok X G (c.d.fact 24 (f := .int "LONGEST" 40) rfl)
  c_PLAIN := ⟨_, He.glo_ok X G (c.d.fact 25 (f := .glo "PLAIN") rfl), fun H => tupBD_ok (c.x 0 rfl) H⟩
  x_exc := List.forall_mem_cons.mpr ⟨excB_ok X G (c.x 1 rfl), fun _ h => nomatch h⟩
  g_exc := ⟨_, He.glo_ok X G (c.d.fact 26 (f := .glo "DoorError") rfl)⟩
theorem law_end {P : Program} {w : World} {K : PySem.W.Frag} {h : Heap} {mg : Str → Option Value} {fa : Addr} (KX : K.In h) (M : Md K mg) (hmg : mg "law" = some (.ref fa)) :
    ∃ (K : PySem.W.Frag) (fd : FuncData) (sp : Sp), K.In h ∧ (∀ (s : Shared) (u : Value), BindsTo s fd ⟨[u], []⟩ [("script", u)]) ∧
        (∀ (H : Hp) (a : Addr) (ns : List Int), ns.length ≤ 63 → Only H → SqL K H a (ns.map V.int) → sp [.ref a] H (fun v _ => v = .bl true) fun _ _ _ => False) ∧
        ∀ base : Heap, K.In base → base.Ns mainGlobals mg → FnOk P w K mg base CX0 5 fa fd ["script"] sp := by
  obtain ⟨f, fd, F, g⟩ := id M.d_law
  have e := hmg.symm.trans g
  cases e
  refine ⟨K, fd, spOf ⟨P, w, K, mg⟩ f_law 1, KX, fun s u => F.bindsA (ps := ["script"]) (fun _ _ _ _ _ _ us hl => match us, hl with | [_], _ => rfl) s [u] rfl, fun H a ns hl hO hS => ⟨rfl, law_true ⟨P, w, K, mg⟩ H a ns hl hO hS law_holds⟩, fun base _ _ => ?_⟩
  exact x_law F M
end Lw
open PySem PySem.W PySem.Calls PyProof.Rows
set_option maxHeartbeats 0 in
theorem PySem.Challenge.cw_lettogether_k30_whole_texts_holds : PySem.Challenge.rw_lettogether_k30_whole_texts.Holds := by
  w_on; o_law
  refine HandSHeadRun.head_any (r := OpenLaw.row PySem.Challenge.rw_lettogether_k30_whole_texts) (q := view (OpenLaw.row PySem.Challenge.rw_lettogether_k30_whole_texts).prog [25]) (H := Lw.hk) (ob := Lw.ob) (M := 6000) (loose := Lw.loose) (d := HandSHeadRun.topDef (OpenLaw.row PySem.Challenge.rw_lettogether_k30_whole_texts).prog 25) (kwd := []) Lw.ob_eq
    (by kernel_rfl) (fun s => by kernel_rfl) Lw.run (by kernel_rfl) (by kernel_rfl) (by kernel_rfl) (by rfl) (by first | assumption | decide +kernel) (by decide +kernel) ⟨rfl, rfl, rfl, rfl, rfl, by decide +kernel⟩ ?hw ?hc
  case hw => w_witness2
  case hc =>
    refine L2.walk_ofE (l := PySem.Challenge.rw_lettogether_k30_whole_texts) (n := 63) (k := 5) (x := "script") (CX := L2.CX0) rfl (by decide) (by kernel_rfl) ⟨rfl, by decide, by decide⟩ ?F (fun _ _ _ _ z => z)
    intro w mg fa h Y G hmg0
    obtain ⟨K, KX, c⟩ := Y
    have hmg : mg ("law" : PySem.Str) = some (.ref fa) := by
      have e : (HandSHeadRun.topDef (OpenLaw.row PySem.Challenge.rw_lettogether_k30_whole_texts).prog 25).name = ("law" : PySem.Str) := by kernel_rfl
      rw [← e]
      exact hmg0
    exact Lw.law_end (P := (PySem.Challenge.rw_lettogether_k30_whole_texts).prog) (w := w) KX (Lw.facts KX G c) hmg

