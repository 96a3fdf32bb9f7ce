import PyProof.Rows.All
import Wide.All
import OpenK.AllK
import Wide.FinOn
import HandS.ForMost
import HandS.Exc
import HandS.Lambda
import HandS.TupAny
import HandS.TupLe
import HandS.Style
import HandS.TupLen
import HandS.NoneIn
import HandS.Flow
import HandS.IsInst
import HandS.SortInts
import HandS.SetKeys
import HandS.Conv
import HandS.ExcOwn
import HandS.Comp
import HandS.Iter
import HandS.Zip
import KE.GoesNew
import KE.GoesMore
import HandS.DictComp
import HandS.Small
import HandS.ExcSuper
import HandS.ExcField
import HandS.TryMany
import HandS.HeadHook4
import HandS.HeadWalk
import HandS.Head2
import PySem.Challenge.RW_mendplan_k68_refusals_of_assignments
set_option Elab.async false
set_option linter.all false
section
set_option maxRecDepth 100000
/-! Ev1: the plain evaluator: values are trees, objects stand in a list, addresses are places in it. -/
namespace Ev
open PySem

inductive Val where
  | non
  | bl (b : Bool)
  | int (i : Int)
  | str (x : Str)
  | tup (xs : List Val)
  | ref (n : Nat)
  | rng (lo hi : Int)
  deriving Inhabited

mutual
def Val.same : Val → Val → Bool
  | .non, .non => true
  | .bl a, .bl b => a == b
  | .int i, .int j => decide (i = j)
  | .str x, .str y => decide (x = y)
  | .tup xs, .tup ys => Val.sames xs ys
  | .ref m, .ref n => decide (m = n)
  | .rng a b, .rng c d => decide (a = c) && decide (b = d)
  | _, _ => false
def Val.sames : List Val → List Val → Bool
  | [], [] => true
  | x :: xs, y :: ys => Val.same x y && Val.sames xs ys
  | _, _ => false
end
mutual
theorem Val.same_iff : ∀ (x y : Val), Val.same x y = true ↔ x = y
  | .non, y => by cases y <;> simp [Val.same]
  | .bl a, y => by cases y <;> simp [Val.same]
  | .int a, y => by cases y <;> simp [Val.same]
  | .str a, y => by cases y <;> simp [Val.same]
  | .tup xs, y => by cases y <;> simp [Val.same]; exact Val.sames_iff xs _
  | .ref a, y => by cases y <;> simp [Val.same]
  | .rng a b, y => by cases y <;> simp [Val.same]
theorem Val.sames_iff : ∀ (xs ys : List Val), Val.sames xs ys = true ↔ xs = ys
  | [], [] => by simp [Val.sames]
  | [], _ :: _ => by simp [Val.sames]
  | _ :: _, [] => by simp [Val.sames]
  | x :: xs, y :: ys => by simp [Val.sames, Val.same_iff x y, Val.sames_iff xs ys]
end
instance : DecidableEq Val := fun x y => decidable_of_iff _ (Val.same_iff x y)

inductive Ob where
  | lst (xs : List Val)
  /-- a list that is read alone -/
  | fro (xs : List Val)
  | dic (kvs : List (Val × Val))
  /-- a dict while it is walked -/
  | fdi (kvs : List (Val × Val))
  | ins (c : Str) (fs : List (Str × Val))
  deriving Inhabited

abbrev AH := List Ob

inductive Out (α : Type) where
  | ok (a : α) (h : AH)
  | exc (c : Str) (vs : List Val) (h : AH)
  | bad

abbrev M (α : Type) := AH → Out α

def Out.bind {α β : Type} (o : Out α) (k : α → AH → Out β) : Out β := match o with
  | .ok a h => k a h
  | .exc c vs h => .exc c vs h
  | .bad => .bad
@[simp] theorem Out.bind_ok {α β : Type} (a : α) (h : AH) (k : α → AH → Out β) : (Out.ok a h).bind k = k a h := rfl
@[simp] theorem Out.bind_exc {α β : Type} (c : Str) (vs : List Val) (h : AH) (k : α → AH → Out β) : (Out.exc c vs h : Out α).bind k = .exc c vs h := rfl
@[simp] theorem Out.bind_bad {α β : Type} (k : α → AH → Out β) : (Out.bad : Out α).bind k = .bad := rfl
def Out.of {α : Type} (o : Option α) (h : AH) : Out α := match o with
  | some a => .ok a h
  | none => .bad
@[simp] theorem Out.of_some {α : Type} (a : α) (h : AH) : Out.of (some a) h = .ok a h := rfl
@[simp] theorem Out.of_none {α : Type} (h : AH) : Out.of (none : Option α) h = .bad := rfl

/-- no error leaves it -/
def calm {α : Type} (o : Out α) : Out α := match o with
  | .exc _ _ _ => .bad
  | o => o
@[simp] theorem calm_ok {α : Type} (a : α) (h : AH) : calm (.ok a h) = .ok a h := rfl
@[simp] theorem calm_exc {α : Type} (c : Str) (vs : List Val) (h : AH) : (calm (.exc c vs h) : Out α) = .bad := rfl
@[simp] theorem calm_bad {α : Type} : (calm .bad : Out α) = .bad := rfl

abbrev St := List (Option Val)
/-- the calls of the text's own functions, by their numbers -/
abbrev Cf := Nat → List Val → M Val
abbrev Ex := Cf → St → M Val
abbrev Tx := Cf → St → M Bool
abbrev Ax := Cf → St → M (List Val)

/-! ### what stands in the heap -/
def line : Nat := 16777216
/-- a list that may be read -/
def lstAt (h : AH) (n : Nat) : Option (List Val) := match h[n]? with
  | some (.lst xs) => some xs
  | some (.fro xs) => some xs
  | _ => none
/-- a list of the text's own making -/
def ownAt (h : AH) (n : Nat) : Option (List Val) := match h[n]? with
  | some (.lst xs) => some xs
  | _ => none
def dicAt (h : AH) (n : Nat) : Option (List (Val × Val)) := match h[n]? with
  | some (.dic kvs) => some kvs
  | some (.fdi kvs) => some kvs
  | _ => none
/-- Python's data of a value; k: the depth at most -/
def data (h : AH) : Nat → Val → Option PyData
  | 0, _ => none
  | k + 1, v => match v with
    | .non => some .none
    | .bl b => some (.bool b)
    | .int i => some (.int i)
    | .str x => some (.str x)
    | .tup xs => (xs.mapM (data h k)).map .tuple
    | .ref n => (lstAt h n).bind fun xs => (xs.mapM (data h k)).map .list
    | .rng _ _ => none
/-- a == b -/
def pyEq (x y : Val) (h : AH) : Option Bool := match x, y with
  | .int i, .int j => some (decide (i = j))
  | .str i, .str j => some (decide (i = j))
  | .bl i, .bl j => some (i == j)
  | .non, .non => some true
  | .non, .int _ => some false
  | .int _, .non => some false
  | .non, .str _ => some false
  | .str _, .non => some false
  | .non, .bl _ => some false
  | .bl _, .non => some false
  | .int _, .str _ => some false
  | .str _, .int _ => some false
  | x, y => match data h 40 x, data h 40 y with
    | some d, some e => if SeqAt.shaped d && SeqAt.shaped e then some (PyData.eqv d e) else none
    | _, _ => none
def truth (x : Val) (h : AH) : Option Bool := match x with
  | .non => some false
  | .bl b => some b
  | .int i => some (i != 0)
  | .str y => if y.length ≤ line then some ((y.length : Int) != 0) else none
  | .tup xs => some (!xs.isEmpty)
  | .ref n => match h[n]? with
    | some (.lst xs) => some (!xs.isEmpty)
    | some (.fro xs) => some (!xs.isEmpty)
    | _ => none
  | .rng _ _ => none

/-! ### operators -/
def smallI (i : Int) : Bool := decide (-(2 ^ 64) < i) && decide (i < 2 ^ 64)
def opAdd (x y : Val) (h : AH) : Out Val := match x, y with
  | .int i, .int j => .ok (.int (i + j)) h
  | .str i, .str j => if i.length + j.length ≤ line then .ok (.str (i ++ j)) h else .bad
  | .tup xs, .tup ys => if !xs.isEmpty && decide (xs.length + ys.length ≤ line) then .ok (.tup (xs ++ ys)) h else if xs.isEmpty then .ok (.tup ys) h else .bad
  | .ref m, .ref n => match ownAt h m, ownAt h n with
    | some xs, some ys => if xs.length + ys.length ≤ line then .ok (.ref h.length) (h ++ [.lst (xs ++ ys)]) else .bad
    | _, _ => .bad
  | _, _ => .bad
def opSub (x y : Val) (h : AH) : Out Val := match x, y with
  | .int i, .int j => .ok (.int (i - j)) h
  | _, _ => .bad
def opMul (x y : Val) (h : AH) : Out Val := match x, y with
  | .int i, .int j => if smallI i || smallI j then .ok (.int (i * j)) h else .bad
  | .ref m, .int k => match ownAt h m with
    | some xs => if smallI k && decide (k < 2 ^ 62) && decide (-(2 ^ 62) < k) && decide (xs.length * k.toNat ≤ line) then .ok (.ref h.length) (h ++ [.lst (List.replicate k.toNat xs).flatten]) else .bad
    | none => .bad
  | _, _ => .bad
def opFdiv (x y : Val) (h : AH) : Out Val := match x, y with
  | .int i, .int j => if decide (0 < j) && decide (j < 1073741824) then .ok (.int (i / j)) h else .bad
  | _, _ => .bad
def opMod (x y : Val) (h : AH) : Out Val := match x, y with
  | .int i, .int j => if 0 < j then .ok (.int (i % j)) h else .bad
  | _, _ => .bad
def opPow (x y : Val) (h : AH) : Out Val := match x, y with
  | .int i, .int j => if decide (0 ≤ j) && decide (j ≤ 1000000) && decide (i.natAbs < 2 ^ 64) then .ok (.int (i ^ j.toNat)) h else .bad
  | _, _ => .bad
def opShl (x y : Val) (h : AH) : Out Val := match x, y with
  | .int i, .int j => if decide (0 ≤ j) && decide (j ≤ 1000000) && decide (i.natAbs < 2 ^ 64) then .ok (.int (i * 2 ^ j.toNat)) h else .bad
  | _, _ => .bad
def opShr (x y : Val) (h : AH) : Out Val := match x, y with
  | .int i, .int j => if 0 ≤ j then .ok (.int (i / 2 ^ j.toNat)) h else .bad
  | _, _ => .bad
def opAnd (x y : Val) (h : AH) : Out Val := match x, y with
  | .int i, .int j => .ok (.int (Builtin.bitAnd i j)) h
  | _, _ => .bad
def opOr (x y : Val) (h : AH) : Out Val := match x, y with
  | .int i, .int j => .ok (.int (Builtin.bitOr i j)) h
  | _, _ => .bad
def opXor (x y : Val) (h : AH) : Out Val := match x, y with
  | .int i, .int j => .ok (.int (Builtin.bitXor i j)) h
  | _, _ => .bad
def opOf : Operator → Option (Val → Val → M Val)
  | .Add => some opAdd
  | .Sub => some opSub
  | .Mult => some opMul
  | .FloorDiv => some opFdiv
  | .Mod => some opMod
  | .Pow => some opPow
  | .LShift => some opShl
  | .RShift => some opShr
  | .BitAnd => some opAnd
  | .BitOr => some opOr
  | .BitXor => some opXor
  | _ => none

/-! ### comparisons -/
/-- flat things, for in over a row -/
def flat : Val → Bool
  | .non => true
  | .bl _ => true
  | .int _ => true
  | .str _ => true
  | _ => false
/-- == of flat things -/
def eqF : Val → Val → Bool
  | .non, .non => true
  | .bl a, .bl b => a == b
  | .bl a, .int b => (if a then 1 else 0) == b
  | .int a, .bl b => a == (if b then 1 else 0)
  | .int a, .int b => a == b
  | .str a, .str b => a == b
  | _, _ => false
def inF (x : Val) (xs : List Val) : Bool := xs.any fun z => eqF z x
/-- the ints of a row -/
def intsOf : List Val → Option (List Int)
  | [] => some []
  | .int i :: r => (intsOf r).map (i :: ·)
  | _ => none
def cmpLt (x y : Val) (h : AH) : Option Bool := match x, y with
  | .int i, .int j => some (decide (i < j))
  | .str i, .str j => some (decide (i.cps.toList < j.cps.toList))
  | .tup xs, .tup ys => match intsOf xs, intsOf ys with
    | some a, some b => some (HT.lexLt a b)
    | _, _ => none
  | _, _ => none
def cmpI (p : Int → Int → Bool) (x y : Val) (_ : AH) : Option Bool := match x, y with
  | .int i, .int j => some (p i j)
  | _, _ => none
/-- keys -/
def isKey : Val → Bool
  | .int _ => true
  | .str _ => true
  | _ => false
def isKeyT : Val → Bool
  | .tup xs => xs.all isKey
  | _ => false
def dget (kvs : List (Val × Val)) (k : Val) : Option Val := (kvs.find? fun p => decide (p.1 = k)).map (·.2)
def dput (kvs : List (Val × Val)) (k v : Val) : List (Val × Val) := if (kvs.any fun p => decide (p.1 = k)) = true then kvs.map fun p => if p.1 = k then (p.1, v) else p else kvs ++ [(k, v)]
def ddrop (kvs : List (Val × Val)) (k : Val) : List (Val × Val) := kvs.filter fun p => decide (p.1 ≠ k)
/-- all keys ints and texts; all keys tuples of such -/
def keysK (kvs : List (Val × Val)) : Bool := kvs.all fun p => isKey p.1
def keysT (kvs : List (Val × Val)) : Bool := kvs.all fun p => isKeyT p.1
/-- the key fits the dict -/
def fits (kvs : List (Val × Val)) (k : Val) : Bool := (isKey k && keysK kvs) || (isKeyT k && keysT kvs)
/-- .. of a dict that is walked -/
def fitsF (kvs : List (Val × Val)) (k : Val) : Bool := !kvs.isEmpty && fits kvs k
/-- x in y -/
def pyIn (x y : Val) (h : AH) : Option Bool := match y with
  | .tup xs => if flat x && xs.all flat then some (inF x xs) else none
  | .ref n => match h[n]? with
    | some (.lst xs) => if flat x && xs.all flat then some (inF x xs) else none
    | some (.fro xs) => if flat x && xs.all flat then some (inF x xs) else none
    | some (.dic kvs) => if fits kvs x then some (dget kvs x).isSome else none
    | some (.fdi kvs) => if fitsF kvs x then some (dget kvs x).isSome else none
    | _ => none
  | .str z => match x with
    | .str i => some (!(Builtin.Str.occurrences z i 0 z.length 1).isEmpty)
    | _ => none
  | _ => none

/-! ### expressions -/
def eVar (i : Nat) : Ex := fun _ σ h => match σ[i]? with
  | some (some v) => .ok v h
  | _ => .bad
def eC (v : Val) : Ex := fun _ _ h => .ok v h
def eBin (op : Val → Val → M Val) (a b : Ex) : Ex := fun cf σ h => (a cf σ h).bind fun x h1 => (b cf σ h1).bind fun y h2 => calm (op x y h2)
def eNeg (a : Ex) : Ex := fun cf σ h => (a cf σ h).bind fun x h1 => match x with
  | .int i => .ok (.int (-i)) h1
  | _ => .bad
def eInv (a : Ex) : Ex := fun cf σ h => (a cf σ h).bind fun x h1 => match x with
  | .int i => .ok (.int (Builtin.bitNot i)) h1
  | _ => .bad
/-- a comparison -/
def eCmp (p : Val → Val → AH → Option Bool) (a b : Ex) : Ex := fun cf σ h => (a cf σ h).bind fun x h1 => (b cf σ h1).bind fun y h2 => (Out.of (p x y h2) h2).bind fun c h3 => .ok (.bl c) h3
def pNot (p : Val → Val → AH → Option Bool) (x y : Val) (h : AH) : Option Bool := (p x y h).map (!·)
def cmpIsN (x y : Val) (_ : AH) : Option Bool := match y with
  | .non => some (decide (x = .non))
  | _ => none
/-- an expression as a test: its truth -/
def tTru (a : Ex) : Tx := fun cf σ h => (a cf σ h).bind fun x h1 => Out.of (truth x h1) h1
/-- an expression that must be a bool as a test -/
def tBl (a : Ex) : Tx := fun cf σ h => (a cf σ h).bind fun x h1 => match x with
  | .bl b => .ok b h1
  | _ => .bad
def tAnd (a b : Tx) : Tx := fun cf σ h => (a cf σ h).bind fun c h1 => if c then b cf σ h1 else .ok false h1
def tOr (a b : Tx) : Tx := fun cf σ h => (a cf σ h).bind fun c h1 => if c then .ok true h1 else b cf σ h1
def tNot (a : Tx) : Tx := fun cf σ h => (a cf σ h).bind fun c h1 => .ok (!c) h1
/-- and, or, not as values, by truth -/
def eAnd (a b : Ex) : Ex := fun cf σ h => (a cf σ h).bind fun x h1 => (Out.of (truth x h1) h1).bind fun c h2 => if c then b cf σ h2 else .ok x h2
def eOr (a b : Ex) : Ex := fun cf σ h => (a cf σ h).bind fun x h1 => (Out.of (truth x h1) h1).bind fun c h2 => if c then .ok x h2 else b cf σ h2
def eNot (a : Ex) : Ex := fun cf σ h => (a cf σ h).bind fun x h1 => (Out.of (truth x h1) h1).bind fun c h2 => .ok (.bl (!c)) h2
def eIf (t : Tx) (a b : Ex) : Ex := fun cf σ h => (t cf σ h).bind fun c h1 => if c then a cf σ h1 else b cf σ h1
def aNil : Ax := fun _ _ h => .ok [] h
def aCons (a : Ex) (r : Ax) : Ax := fun cf σ h => (a cf σ h).bind fun x h1 => (r cf σ h1).bind fun xs h2 => .ok (x :: xs) h2
def eTup (r : Ax) : Ex := fun cf σ h => (r cf σ h).bind fun xs h1 => if xs.length ≤ line then .ok (.tup xs) h1 else .bad
def eLst (r : Ax) : Ex := fun cf σ h => (r cf σ h).bind fun xs h1 => if xs.length ≤ line then .ok (.ref h1.length) (h1 ++ [.lst xs]) else .bad
def eDic0 : Ex := fun _ _ h => .ok (.ref h.length) (h ++ [.dic []])
/-- a call of the text's own function -/
def eCall (i : Nat) (r : Ax) : Ex := fun cf σ h => (r cf σ h).bind fun xs h1 => cf i xs h1
/-- a builtin by its values -/
def eB (f : List Val → M Val) (r : Ax) : Ex := fun cf σ h => (r cf σ h).bind fun xs h1 => calm (f xs h1)
/-- a[i] -/
def eIxF (p : Val → Val → M Val) (a b : Ex) : Ex := fun cf σ h => (a cf σ h).bind fun x h1 => (b cf σ h1).bind fun y h2 => calm (p x y h2)
def insAt (h : AH) (n : Nat) : Option (Str × List (Str × Val)) := match h[n]? with
  | some (.ins c fs) => some (c, fs)
  | _ => none
/-- a.f, a an instance of one of these classes -/
def eFld (f : Str) (cs : List Str) (a : Ex) : Ex := fun cf σ h => (a cf σ h).bind fun x h1 => match x with
  | .ref n => match insAt h1 n with
    | some (c, fs) => if c ∈ cs then Out.of (fs.lookup f) h1 else .bad
    | none => .bad
  | _ => .bad
/-- a[i] -/
def pyIx (x y : Val) (h : AH) : Out Val := match x, y with
  | .tup xs, .int i => Out.of (L2.atI xs i) h
  | .str z, .int i => if z.length ≤ line then Out.of ((L2.atI z.cps.toList i).map fun c => .str ⟨#[c]⟩) h else .bad
  | .ref n, y => match h[n]? with
    | some (.lst xs) => match y with
      | .int i => Out.of (L2.atI xs i) h
      | _ => .bad
    | some (.fro xs) => match y with
      | .int i => Out.of (L2.atI xs i) h
      | _ => .bad
    | some (.dic kvs) => if fits kvs y then Out.of (dget kvs y) h else .bad
    | some (.fdi kvs) => if fitsF kvs y then Out.of (dget kvs y) h else .bad
    | _ => .bad
  | _, _ => .bad
/-- a part of a slice -/
abbrev Px := Cf → St → M (Option Int)
def pNone : Px := fun _ _ h => .ok none h
def pSome (a : Ex) : Px := fun cf σ h => (a cf σ h).bind fun x h1 => match x with
  | .int i => .ok (some i) h1
  | _ => .bad
def cut {α : Type} (xs : List α) (lo hi : Option Int) : List α := (xs.drop (HT.sIx xs.length 0 lo)).take (HT.sIx xs.length xs.length hi - HT.sIx xs.length 0 lo)
def pySlice (x : Val) (lo hi : Option Int) (h : AH) : Out Val := match x with
  | .tup xs => .ok (.tup (cut xs lo hi)) h
  | .ref n => match lstAt h n with
    | some xs => .ok (.ref h.length) (h ++ [.lst (cut xs lo hi)])
    | none => .bad
  | .str z => if z.length ≤ line then .ok (.str (Txt.slice z lo hi)) h else .bad
  | _ => .bad
def eSlice (a : Ex) (lo hi : Px) : Ex := fun cf σ h => (a cf σ h).bind fun x h1 => (lo cf σ h1).bind fun l h2 => (hi cf σ h2).bind fun u h3 => calm (pySlice x l u h3)

/-! ### what is walked -/
/-- a row: a tuple, or a list as it stands -/
inductive Row where
  | t (xs : List Val)
  | l (n : Nat)
def Row.at (r : Row) (h : AH) : Option (List Val) := match r with
  | .t xs => some xs
  | .l n => lstAt h n
def rowOf (v : Val) (h : AH) : Option Row := match v with
  | .tup xs => some (.t xs)
  | .ref n => (lstAt h n).map fun _ => .l n
  | _ => none
inductive Src where
  /-- items that do not change -/
  | vals (xs : List Val)
  /-- a list, as it stands at each turn -/
  | live (n : Nat)
  /-- enumerate, zip -/
  | en (r : Row)
  | zp (r s : Row)
def Src.get (s : Src) (i : Nat) (h : AH) : Option Val := match s with
  | .vals xs => xs[i]?
  | .live n => (lstAt h n).bind fun xs => xs[i]?
  | .en r => (r.at h).bind fun xs => (xs[i]?).map fun v => .tup [.int i, v]
  | .zp r q => (r.at h).bind fun xs => (q.at h).bind fun ys => (xs[i]?).bind fun v => (ys[i]?).map fun u => .tup [v, u]
def Src.size (s : Src) (h : AH) : Nat := match s with
  | .vals xs => xs.length
  | .live n => ((lstAt h n).getD []).length
  | .en r => ((r.at h).getD []).length
  | .zp r _ => ((r.at h).getD []).length
/-- it is still to be walked at turn i -/
def Src.here (s : Src) (i : Nat) (h : AH) : Bool := match s with
  | .vals _ => true
  | .live n => (lstAt h n).isSome
  | .en r => match r.at h with
    | some xs => decide (i ≤ xs.length)
    | none => false
  | .zp r q => match r.at h, q.at h with
    | some xs, some ys => decide (i ≤ min xs.length ys.length)
    | _, _ => false
abbrev Ix := Cf → St → M Src
def rangeVals (lo : Int) (n : Nat) (c : Int) : List Val := (List.range n).map fun (k : Nat) => .int (lo + (k : Int) * c)
def small62 (i : Int) : Bool := decide (-(2 ^ 62) ≤ i) && decide (i < 2 ^ 62)
/-- over a value: a list, a tuple, a text, a range -/
def iVal (a : Ex) : Ix := fun cf σ h => (a cf σ h).bind fun x h1 => match x with
  | .tup xs => .ok (.vals xs) h1
  | .ref n => match lstAt h1 n with
    | some _ => .ok (.live n) h1
    | none => .bad
  | .str z => .ok (.vals (z.cps.toList.map fun c => .str ⟨#[c]⟩)) h1
  | .rng lo hi => if small62 lo && small62 hi then .ok (.vals (rangeVals lo (hi - lo).toNat 1)) h1 else .bad
  | _ => .bad
def iRange1 (r : Ax) : Ix := fun cf σ h => (r cf σ h).bind fun xs h1 => match xs with
  | [.int j] => if small62 j then .ok (.vals (rangeVals 0 j.toNat 1)) h1 else .bad
  | _ => .bad
def iRange2 (r : Ax) : Ix := fun cf σ h => (r cf σ h).bind fun xs h1 => match xs with
  | [.int i, .int j] => if small62 i && small62 j then .ok (.vals (rangeVals i (j - i).toNat 1)) h1 else .bad
  | _ => .bad
def iRange3n (r : Ax) : Ix := fun cf σ h => (r cf σ h).bind fun xs h1 => match xs with
  | [.int i, .int j, .int c] => if small62 i && small62 j && decide (c = -1) then .ok (.vals (rangeVals i (i - j).toNat (-1))) h1 else .bad
  | _ => .bad
def iEnum (a : Ex) : Ix := fun cf σ h => (a cf σ h).bind fun x h1 => (Out.of (rowOf x h1) h1).bind fun r h2 => .ok (.en r) h2
def iZip (a b : Ex) : Ix := fun cf σ h => (a cf σ h).bind fun x h1 => (b cf σ h1).bind fun y h2 => (Out.of (rowOf x h2) h2).bind fun r h3 => (Out.of (rowOf y h3) h3).bind fun q h4 => .ok (.zp r q) h4

/-! ### targets -/
inductive Tg where
  | nm (i : Nat)
  | tp (is : List Nat)
def gNames : List Nat → List Val → St → Option St
  | [], [], σ => some σ
  | i :: is, v :: vs, σ => gNames is vs (σ.set i (some v))
  | _, _, _ => none
def Tg.put (g : Tg) (v : Val) (σ : St) (h : AH) : Option St := match g with
  | .nm i => some (σ.set i (some v))
  | .tp is => match v with
    | .tup xs => gNames is xs σ
    | .ref n => (lstAt h n).bind fun xs => gNames is xs σ
    | _ => none
def Tg.ids : Tg → List Nat
  | .nm i => [i]
  | .tp is => is

/-! ### comprehensions -/
def wipe (σ : St) : List Nat → St
  | [] => σ
  | v :: vs => (wipe σ vs).set v none
/-- turns of a comprehension: k turns at most are left, i is the next place; b: what a turn does -/
def itLoop (s : Src) (g : Tg) (b : St → AH → Option AH) (vs : List Nat) (σ : St) : Nat → Nat → AH → Option AH
  | k, i, h => if s.here i h then match s.get i h with
    | none => some h
    | some v => match k with
      | 0 => none
      | k + 1 => match g.put v (wipe σ vs) h with
        | none => none
        | some σ2 => match b σ2 h with
          | none => none
          | some h2 => itLoop s g b vs σ k (i + 1) h2
    else none
/-- a test, then what follows if it holds -/
def tstB (t : Tx) (cf : Cf) (b : St → AH → Option AH) (σ : St) (h : AH) : Option AH := match t cf σ h with
  | .ok true h1 => b σ h1
  | .ok false h1 => some h1
  | _ => none
/-- an item is put to the list n -/
def lcPut (n : Nat) (y : Val) (h : AH) : Option AH := match h[n]? with
  | some (.lst acc) => if acc.length < line then some (h.set n (.lst (acc ++ [y]))) else none
  | _ => none
def lcB (e : Ex) (cf : Cf) (n : Nat) (σ : St) (h : AH) : Option AH := match e cf σ h with
  | .ok y h1 => lcPut n y h1
  | _ => none
def dcPut (n : Nat) (k v : Val) (h : AH) : Option AH := match h[n]? with
  | some (.dic kvs) => if isKey k && keysK kvs && decide (kvs.length < line) then some (h.set n (.dic (dput kvs k v))) else none
  | _ => none
def dcB (ek ev : Ex) (cf : Cf) (n : Nat) (σ : St) (h : AH) : Option AH := match ek cf σ h with
  | .ok k h1 => match ev cf σ h1 with
    | .ok v h2 => dcPut n k v h2
    | _ => none
  | _ => none
/-- the second for of a comprehension -/
def forB (ix : Ix) (g : Tg) (cf : Cf) (b : St → AH → Option AH) (vs : List Nat) (σ : St) (h : AH) : Option AH := match ix cf σ h with
  | .ok s h1 => itLoop s g b vs σ (s.size h1) 0 h1
  | _ => none
def eLc (ix : Ix) (g : Tg) (t : Tx) (e : Ex) (vs : List Nat) : Ex := fun cf σ h => (ix cf σ h).bind fun s h1 => match itLoop s g (tstB t cf (lcB e cf h1.length)) vs σ (s.size h1) 0 (h1 ++ [.lst []]) with
  | some h2 => .ok (.ref h1.length) h2
  | none => .bad
def eLc2 (ix : Ix) (g : Tg) (t : Tx) (ix2 : Ix) (g2 : Tg) (t2 : Tx) (e : Ex) (vs vs2 : List Nat) : Ex := fun cf σ h => (ix cf σ h).bind fun s h1 =>
  match itLoop s g (tstB t cf (forB ix2 g2 cf (tstB t2 cf (lcB e cf h1.length)) vs2)) vs σ (s.size h1) 0 (h1 ++ [.lst []]) with
  | some h2 => .ok (.ref h1.length) h2
  | none => .bad
def eDc (ix : Ix) (g : Tg) (t : Tx) (ek ev : Ex) (vs : List Nat) : Ex := fun cf σ h => (ix cf σ h).bind fun s h1 => match itLoop s g (tstB t cf (dcB ek ev cf h1.length)) vs σ (s.size h1) 0 (h1 ++ [.dic []]) with
  | some h2 => .ok (.ref h1.length) h2
  | none => .bad
def tYes : Tx := fun _ _ h => .ok true h
/-- _law_told(lambda: e): the value, or the error's name and its field -/
def eTold (tab : List Str) (e : Ex) : Ex := fun cf σ h => match e cf σ h with
  | .ok v h1 => .ok (.tup [.str "value", v]) h1
  | .exc c [v] h1 => if c ∈ tab then .ok (.tup [.str c, v]) h1 else .bad
  | _ => .bad
/-- what is not served -/
def eBad : Ex := fun _ _ _ => .bad
def tBad : Tx := fun _ _ _ => .bad
def iBad : Ix := fun _ _ _ => .bad

/-! ### statements -/
inductive SO where
  | nx (σ : St) (h : AH)
  | rt (v : Val) (h : AH)
  | bk (σ : St) (h : AH)
  | ct (σ : St) (h : AH)
  | ex (c : Str) (vs : List Val) (σ : St) (h : AH)
  | bad
abbrev Sx := Cf → St → AH → SO
/-- an expression's outcome goes on -/
def Out.to {α : Type} (o : Out α) (σ : St) (k : α → AH → SO) : SO := match o with
  | .ok a h => k a h
  | .exc c vs h => .ex c vs σ h
  | .bad => .bad
@[simp] theorem Out.to_ok {α : Type} (a : α) (h : AH) (σ : St) (k : α → AH → SO) : (Out.ok a h).to σ k = k a h := rfl
@[simp] theorem Out.to_exc {α : Type} (c : Str) (vs : List Val) (h : AH) (σ : St) (k : α → AH → SO) : (Out.exc c vs h : Out α).to σ k = .ex c vs σ h := rfl
@[simp] theorem Out.to_bad {α : Type} (σ : St) (k : α → AH → SO) : (Out.bad : Out α).to σ k = .bad := rfl
/-- what follows -/
def SO.then (o : SO) (k : St → AH → SO) : SO := match o with
  | .nx σ h => k σ h
  | o => o
@[simp] theorem SO.then_nx (σ : St) (h : AH) (k : St → AH → SO) : (SO.nx σ h).then k = k σ h := rfl
@[simp] theorem SO.then_rt (v : Val) (h : AH) (k : St → AH → SO) : (SO.rt v h).then k = .rt v h := rfl
@[simp] theorem SO.then_bk (σ : St) (h : AH) (k : St → AH → SO) : (SO.bk σ h).then k = .bk σ h := rfl
@[simp] theorem SO.then_ct (σ : St) (h : AH) (k : St → AH → SO) : (SO.ct σ h).then k = .ct σ h := rfl
@[simp] theorem SO.then_ex (c : Str) (vs : List Val) (σ : St) (h : AH) (k : St → AH → SO) : (SO.ex c vs σ h).then k = .ex c vs σ h := rfl
@[simp] theorem SO.then_bad (k : St → AH → SO) : SO.bad.then k = .bad := rfl
def sBad : Sx := fun _ _ _ => .bad
def sNil : Sx := fun _ σ h => .nx σ h
def sSeq (a b : Sx) : Sx := fun cf σ h => (a cf σ h).then fun σ1 h1 => b cf σ1 h1
def sExpr (e : Ex) : Sx := fun cf σ h => (e cf σ h).to σ fun _ h1 => .nx σ h1
def sRet (e : Ex) : Sx := fun cf σ h => (e cf σ h).to σ fun v h1 => .rt v h1
def sRetN : Sx := fun _ _ h => .rt .non h
def sBreak : Sx := fun _ σ h => .bk σ h
def sCont : Sx := fun _ σ h => .ct σ h
def sIf (t : Tx) (a b : Sx) : Sx := fun cf σ h => (t cf σ h).to σ fun c h1 => if c then a cf σ h1 else b cf σ h1
/-- target = value -/
def sAsg (g : Tg) (e : Ex) : Sx := fun cf σ h => (e cf σ h).to σ fun v h1 => match g.put v σ h1 with
  | some σ1 => .nx σ1 h1
  | none => .bad
/-- a, b = x, y: names, stored from the right -/
def sPar (is : List Nat) (r : Ax) : Sx := fun cf σ h => (r cf σ h).to σ fun vs h1 => match gNames is vs σ with
  | some σ1 => .nx σ1 h1
  | none => .bad
/-- a[i] = v -/
def pySet (o i v : Val) (h : AH) : Option AH := match o with
  | .ref n => match h[n]? with
    | some (.lst xs) => match i with
      | .int k => (L2.ixN xs.length k).map fun j => h.set n (.lst (xs.set j v))
      | _ => none
    | some (.dic kvs) => if fits kvs i && decide (kvs.length < line) then some (h.set n (.dic (dput kvs i v))) else none
    | _ => none
  | _ => none
def sSub (o i v : Ex) : Sx := fun cf σ h => (v cf σ h).to σ fun z h1 => (o cf σ h1).to σ fun x h2 => (i cf σ h2).to σ fun y h3 => match pySet x y z h3 with
  | some h4 => .nx σ h4
  | none => .bad
def putF (f : Str) (v : Val) : List (Str × Val) → List (Str × Val)
  | [] => [(f, v)]
  | (g, x) :: r => if g = f then (g, v) :: r else (g, x) :: putF f v r
def pySetF (cs : List Str) (o : Val) (f : Str) (v : Val) (h : AH) : Option AH := match o with
  | .ref n => match insAt h n with
    | some (c, fs) => if c ∈ cs ∧ fs.length < 1000 then some (h.set n (.ins c (putF f v fs))) else none
    | none => none
  | _ => none
def sFld (cs : List Str) (o : Ex) (f : Str) (v : Ex) : Sx := fun cf σ h => (v cf σ h).to σ fun z h1 => (o cf σ h1).to σ fun x h2 => match pySetF cs x f z h2 with
  | some h3 => .nx σ h3
  | none => .bad
/-- name op= e -/
def sAug (i : Nat) (op : Val → Val → M Val) (e : Ex) : Sx := fun cf σ h => match σ[i]? with
  | some (some x) => (e cf σ h).to σ fun y h1 => (calm (op x y h1)).to σ fun z h2 => .nx (σ.set i (some z)) h2
  | _ => .bad
/-- a[i] of an object -/
def pyIxR (x y : Val) (h : AH) : Out Val := match x with
  | .ref _ => pyIx x y h
  | _ => .bad
/-- a[i] op= e -/
def sAugS (o i : Ex) (op : Val → Val → M Val) (e : Ex) : Sx := fun cf σ h => (o cf σ h).to σ fun x h1 => (i cf σ h1).to σ fun y h2 => (calm (pyIxR x y h2)).to σ fun z h3 => (e cf σ h3).to σ fun w h4 => (calm (op z w h4)).to σ fun u h5 => match pySet x y u h5 with
  | some h6 => .nx σ h6
  | none => .bad
/-- o.f op= e -/
def sAugF (cs : List Str) (o : Ex) (f : Str) (op : Val → Val → M Val) (e : Ex) : Sx := fun cf σ h => (o cf σ h).to σ fun x h1 => match x with
  | .ref n => match insAt h1 n with
    | some (c, fs) => if c ∈ cs then match fs.lookup f with
      | some z => (e cf σ h1).to σ fun w h2 => (calm (op z w h2)).to σ fun u h3 => match pySetF [c] x f u h3 with
        | some h4 => .nx σ h4
        | none => .bad
      | none => .bad
      else .bad
    | none => .bad
  | _ => .bad
/-- del d[k] -/
def pyDel (o i : Val) (h : AH) : Option AH := match o with
  | .ref n => match h[n]? with
    | some (.dic kvs) => if isKey i && keysK kvs && (dget kvs i).isSome then some (h.set n (.dic (ddrop kvs i))) else none
    | _ => none
  | _ => none
def sDel (o i : Ex) : Sx := fun cf σ h => (o cf σ h).to σ fun x h1 => (i cf σ h1).to σ fun y h2 => match pyDel x y h2 with
  | some h3 => .nx σ h3
  | none => .bad
/-- raise C(e): an own class with one field -/
def sRaise (c : Str) (e : Ex) : Sx := fun cf σ h => (e cf σ h).to σ fun v h1 => .ex c [v] σ h1
def forLoop (s : Src) (g : Tg) (b : Sx) (cf : Cf) : Nat → Nat → St → AH → SO
  | k, i, σ, h => if s.here i h then match s.get i h with
    | none => .nx σ h
    | some v => match k with
      | 0 => .bad
      | k + 1 => match g.put v σ h with
        | none => .bad
        | some σ1 => match b cf σ1 h with
          | .nx σ2 h2 => forLoop s g b cf k (i + 1) σ2 h2
          | .ct σ2 h2 => forLoop s g b cf k (i + 1) σ2 h2
          | .bk σ2 h2 => .nx σ2 h2
          | .rt v h2 => .rt v h2
          | .ex c vs σ2 h2 => .ex c vs σ2 h2
          | .bad => .bad
    else .bad
def sFor (ix : Ix) (g : Tg) (b : Sx) : Sx := fun cf σ h => (ix cf σ h).to σ fun s h1 => forLoop s g b cf (s.size h1) 0 σ h1
def whileLoop (t : Tx) (b : Sx) (cf : Cf) : Nat → St → AH → SO
  | 0, _, _ => .bad
  | k + 1, σ, h => (t cf σ h).to σ fun c h1 => if c then match b cf σ h1 with
    | .nx σ2 h2 => whileLoop t b cf k σ2 h2
    | .ct σ2 h2 => whileLoop t b cf k σ2 h2
    | .bk σ2 h2 => .nx σ2 h2
    | .rt v h2 => .rt v h2
    | .ex c vs σ2 h2 => .ex c vs σ2 h2
    | .bad => .bad
    else .nx σ h1
/-- how often a while may turn -/
def turns : Nat := 1000000000
def sWhile (t : Tx) (b : Sx) : Sx := fun cf σ h => whileLoop t b cf turns σ h

/-! ### the text -/
structure Fn where
  /-- how many parameters; how many names in all -/
  np : Nat
  nn : Nat
  body : Sx
def start (n : Nat) (vs : List Val) : St := vs.map some ++ List.replicate (n - vs.length) none
def SO.out (o : SO) : Out Val := match o with
  | .nx _ h => .ok .non h
  | .rt v h => .ok v h
  | .ex c vs _ h => .exc c vs h
  | _ => .bad
@[simp] theorem SO.out_nx (σ : St) (h : AH) : (SO.nx σ h).out = .ok .non h := rfl
@[simp] theorem SO.out_rt (v : Val) (h : AH) : (SO.rt v h).out = .ok v h := rfl
@[simp] theorem SO.out_ex (c : Str) (vs : List Val) (σ : St) (h : AH) : (SO.ex c vs σ h).out = .exc c vs h := rfl
@[simp] theorem SO.out_bad : SO.bad.out = .bad := rfl
/-- the i-th function called, at most d calls one in another -/
def run (fs : List Fn) : Nat → Cf
  | 0 => fun _ _ _ => .bad
  | d + 1 => fun i vs h => match fs[i]? with
    | some f => if vs.length = f.np then (f.body (run fs d) (start f.nn vs) h).out else .bad
    | none => .bad
end Ev

end

section
set_option maxRecDepth 100000
/-! Ev2: what the plain evaluator says is what the text does: the relation, expressions. -/
namespace Ev
open PySem PySem.Spec PyProof.Rows L2

/-! ### values and what stands for them -/
mutual
inductive RV (ρ : List Addr) (H : Hp) : Val → V → Prop
  | non : RV ρ H .non .non
  | bl (b : Bool) : RV ρ H (.bl b) (.bl b)
  | int (i : Int) : RV ρ H (.int i) (.int i)
  | str (x : Str) : RV ρ H (.str x) (.str x)
  | tup {xs : List Val} {p : Addr} {ws : List V} : H p = some (.tup ws) → RVs ρ H xs ws → RV ρ H (.tup xs) (.ref p)
  | ref {n : Nat} {a : Addr} : ρ[n]? = some a → RV ρ H (.ref n) (.ref a)
  | rng {lo hi : Int} {p : Addr} : H p = some (.rng lo hi) → RV ρ H (.rng lo hi) (.ref p)
inductive RVs (ρ : List Addr) (H : Hp) : List Val → List V → Prop
  | nil : RVs ρ H [] []
  | cons {x : Val} {w : V} {xs : List Val} {ws : List V} : RV ρ H x w → RVs ρ H xs ws → RVs ρ H (x :: xs) (w :: ws)
end
/-- what came later keeps the values -/
structure Grow (ρ : List Addr) (H : Hp) (ρ' : List Addr) (H' : Hp) : Prop where
  pre : ∀ (n : Nat) (a : Addr), ρ[n]? = some a → ρ'[n]? = some a
  tup : ∀ p ws, H p = some (.tup ws) → H' p = some (.tup ws)
  rng : ∀ p lo hi, H p = some (.rng lo hi) → H' p = some (.rng lo hi)
theorem Grow.refl (ρ : List Addr) (H : Hp) : Grow ρ H ρ H := ⟨fun _ _ e => e, fun _ _ e => e, fun _ _ _ e => e⟩
theorem Grow.trans {ρ ρ1 ρ2 : List Addr} {H H1 H2 : Hp} (a : Grow ρ H ρ1 H1) (b : Grow ρ1 H1 ρ2 H2) : Grow ρ H ρ2 H2 :=
  ⟨fun n x e => b.pre n x (a.pre n x e), fun p ws e => b.tup p ws (a.tup p ws e), fun p lo hi e => b.rng p lo hi (a.rng p lo hi e)⟩
mutual
theorem RV.grow {ρ ρ' : List Addr} {H H' : Hp} (g : Grow ρ H ρ' H') : ∀ {v : Val} {w : V}, RV ρ H v w → RV ρ' H' v w
  | _, _, .non => .non
  | _, _, .bl b => .bl b
  | _, _, .int i => .int i
  | _, _, .str x => .str x
  | _, _, .tup e r => .tup (g.tup _ _ e) (RVs.grow g r)
  | _, _, .ref e => .ref (g.pre _ _ e)
  | _, _, .rng e => .rng (g.rng _ _ _ e)
theorem RVs.grow {ρ ρ' : List Addr} {H H' : Hp} (g : Grow ρ H ρ' H') : ∀ {v : List Val} {w : List V}, RVs ρ H v w → RVs ρ' H' v w
  | _, _, .nil => .nil
  | _, _, .cons r t => .cons (RV.grow g r) (RVs.grow g t)
end
section
variable {ρ : List Addr} {H : Hp}
theorem RVs.length : ∀ {xs : List Val} {ws : List V}, RVs ρ H xs ws → xs.length = ws.length
  | _, _, .nil => rfl
  | _, _, .cons _ t => congrArg Nat.succ (RVs.length t)
theorem RVs.get : ∀ {xs : List Val} {ws : List V} {i : Nat} {x : Val}, RVs ρ H xs ws → xs[i]? = some x → ∃ w, ws[i]? = some w ∧ RV ρ H x w
  | _, _, 0, _, .cons r _, e => by simp at e; subst e; exact ⟨_, rfl, r⟩
  | _, _, i + 1, x, .cons _ t, e => by
    obtain ⟨u, h1, h2⟩ := RVs.get (i := i) (x := x) t (by simpa using e)
    exact ⟨u, by simpa using h1, h2⟩
theorem RVs.append : ∀ {xs ys : List Val} {us ws : List V}, RVs ρ H xs us → RVs ρ H ys ws → RVs ρ H (xs ++ ys) (us ++ ws)
  | _, _, _, _, .nil, s => s
  | _, _, _, _, .cons r t, s => .cons r (RVs.append t s)
theorem RVs.take : ∀ {xs : List Val} {ws : List V} (n : Nat), RVs ρ H xs ws → RVs ρ H (xs.take n) (ws.take n)
  | _, _, 0, _ => .nil
  | _, _, _ + 1, .nil => .nil
  | _, _, n + 1, .cons r t => .cons r (RVs.take n t)
theorem RVs.drop : ∀ {xs : List Val} {ws : List V} (n : Nat), RVs ρ H xs ws → RVs ρ H (xs.drop n) (ws.drop n)
  | _, _, 0, r => r
  | _, _, _ + 1, .nil => .nil
  | _, _, n + 1, .cons _ t => RVs.drop n t
theorem RVs.set {x : Val} {w : V} (r : RV ρ H x w) : ∀ {xs : List Val} {ws : List V} (i : Nat), RVs ρ H xs ws → RVs ρ H (xs.set i x) (ws.set i w)
  | _, _, _, .nil => .nil
  | _, _, 0, .cons _ t => .cons r t
  | _, _, i + 1, .cons q t => .cons q (RVs.set r i t)
theorem RVs.dropLast : ∀ {xs : List Val} {ws : List V}, RVs ρ H xs ws → RVs ρ H xs.dropLast ws.dropLast := fun {xs ws} r => by
  rw [List.dropLast_eq_take, List.dropLast_eq_take, r.length]
  exact r.take _
theorem RVs.erase : ∀ {xs : List Val} {ws : List V} (i : Nat), RVs ρ H xs ws → RVs ρ H (xs.eraseIdx i) (ws.eraseIdx i)
  | _, _, _, .nil => .nil
  | _, _, 0, .cons _ t => t
  | _, _, i + 1, .cons q t => .cons q (RVs.erase i t)
theorem RVs.rep {xs : List Val} {ws : List V} (r : RVs ρ H xs ws) : ∀ k : Nat, RVs ρ H (List.replicate k xs).flatten (List.replicate k ws).flatten
  | 0 => .nil
  | k + 1 => by
    rw [List.replicate_succ, List.replicate_succ, List.flatten_cons, List.flatten_cons]
    exact r.append (RVs.rep r k)
theorem RVs.empty {xs : List Val} {ws : List V} (r : RVs ρ H xs ws) : xs.isEmpty = ws.isEmpty := by
  cases r <;> rfl
theorem RVs.ints : ∀ {xs : List Val} {ws : List V} {ns : List Int}, RVs ρ H xs ws → intsOf xs = some ns → ws = ns.map V.int
  | _, _, _, .nil, e => by simp [intsOf] at e; subst e; rfl
  | x :: xs, w :: ws, ns, .cons r t, e => by
    cases r with
    | int i =>
      rw [intsOf] at e
      cases q : intsOf xs with
      | none => rw [q] at e; cases e
      | some ms =>
        rw [q] at e
        have e' : i :: ms = ns := Option.some.inj e
        subst e'
        rw [RVs.ints t q] <;> rfl
    | _ => simp [intsOf] at e
end

/-! ### the heap -/
def keyVal : Key → Val
  | .inl i => .int i
  | .inr x => .str x
abbrev RK (ρ : List Addr) (H : Hp) : List (Val × Val) → List (Key × V) → Prop := Paired fun p q => p.1 = keyVal q.1 ∧ RV ρ H p.2 q.2
abbrev RT (ρ : List Addr) (H : Hp) : List (Val × Val) → List (List Key × V) → Prop := Paired fun p q => p.1 = .tup (q.1.map keyVal) ∧ RV ρ H p.2 q.2
abbrev RF (ρ : List Addr) (H : Hp) : List (Str × Val) → List (Str × V) → Prop := Paired fun p q => p.1 = q.1 ∧ RV ρ H p.2 q.2
theorem pairedP {α β : Type} {F G : α → β → Prop} : ∀ {l₁ : List α} {l₂ : List β}, Paired F l₁ l₂ → (∀ a b, F a b → G a b) → Paired G l₁ l₂
  | _, _, .nil, _ => .nil
  | _, _, .cons r t, f => .cons (f _ _ r) (pairedP t f)
/-- the text, as it stands: the written part, the module's names, the tables of code objects, the fields of the text's errors -/
structure Gs where
  K : PySem.W.Frag
  mg : Str → Option Value
  T : List (Addr × Str)
  xf : Str → List Str
  /-- the tuples of texts that the top keeps -/
  C : List (Addr × List Str)
def ObR (G : Gs) (ρ : List Addr) (H : Hp) (a : Addr) : Ob → Prop
  | .lst xs => ∃ ws, H a = some (.lst ws) ∧ RVs ρ H xs ws
  | .fro xs => ∃ o ws, H a = some (.frz o (.lst ws)) ∧ RVs ρ H xs ws
  | .dic kvs => (∃ ks, H a = some (.dK ks) ∧ RK ρ H kvs ks) ∨ ∃ ks, H a = some (.dT ks) ∧ RT ρ H kvs ks
  | .fdi kvs => (∃ o ks, H a = some (.frz o (.dK ks)) ∧ RK ρ H kvs ks) ∨ ∃ o ks, H a = some (.frz o (.dT ks)) ∧ RT ρ H kvs ks
  | .ins c fs => ∃ C dx ws, G.mg c = some (.ref C) ∧ H a = some (.ins C dx ws) ∧ RF ρ H fs ws
structure Rel (G : Gs) (ρ : List Addr) (h : AH) (H : Hp) : Prop where
  len : ρ.length = h.length
  nd : ρ.Nodup
  ob : ∀ (n : Nat) (o : Ob) (a : Addr), h[n]? = some o → ρ[n]? = some a → ObR G ρ H a o
  tabs : LamX.Tabs G.T H
  cts : ∀ q ∈ G.C, H q.1 = some (.tup (q.2.map V.str))
theorem ObR.grow {G : Gs} {ρ ρ' : List Addr} {H H' : Hp} {a : Addr} {o : Ob} (r : ObR G ρ H a o) (g : Grow ρ H ρ' H') (k : H' a = H a) : ObR G ρ' H' a o := by
  cases o with
  | lst xs => obtain ⟨ws, e, q⟩ := r; exact ⟨ws, k.trans e, q.grow g⟩
  | fro xs => obtain ⟨o, ws, e, q⟩ := r; exact ⟨o, ws, k.trans e, q.grow g⟩
  | dic kvs =>
    rcases r with ⟨ks, e, q⟩ | ⟨ks, e, q⟩
    · exact .inl ⟨ks, k.trans e, pairedP q fun _ _ z => ⟨z.1, z.2.grow g⟩⟩
    · exact .inr ⟨ks, k.trans e, pairedP q fun _ _ z => ⟨z.1, z.2.grow g⟩⟩
  | fdi kvs =>
    rcases r with ⟨o, ks, e, q⟩ | ⟨o, ks, e, q⟩
    · exact .inl ⟨o, ks, k.trans e, pairedP q fun _ _ z => ⟨z.1, z.2.grow g⟩⟩
    · exact .inr ⟨o, ks, k.trans e, pairedP q fun _ _ z => ⟨z.1, z.2.grow g⟩⟩
  | ins c fs => obtain ⟨C, dx, ws, m, e, q⟩ := r; exact ⟨C, dx, ws, m, k.trans e, pairedP q fun _ _ z => ⟨z.1, z.2.grow g⟩⟩
theorem ObR.there {G : Gs} {ρ : List Addr} {H : Hp} {a : Addr} {o : Ob} (r : ObR G ρ H a o) : ∃ u, H a = some u := by
  cases o with
  | lst xs => obtain ⟨ws, e, q⟩ := r; exact ⟨_, e⟩
  | fro xs => obtain ⟨o, ws, e, q⟩ := r; exact ⟨_, e⟩
  | dic kvs =>
    rcases r with ⟨ks, e, q⟩ | ⟨ks, e, q⟩
    · exact ⟨_, e⟩
    · exact ⟨_, e⟩
  | fdi kvs =>
    rcases r with ⟨o, ks, e, q⟩ | ⟨o, ks, e, q⟩
    · exact ⟨_, e⟩
    · exact ⟨_, e⟩
  | ins c fs => obtain ⟨C, dx, ws, m, e, q⟩ := r; exact ⟨_, e⟩
/-- what the evaluator's steps change -/
def Soft : Option HO → Prop
  | none => True
  | some (.lst _) => True
  | some (.dK _) => True
  | some (.dT _) => True
  | some (.ins _ _ _) => True
  | some (.frz _ _) => True
  | _ => False
theorem tabs_upd {T : List (Addr × Str)} {H : Hp} {a : Addr} {o : HO} (t : LamX.Tabs T H) (s : Soft (H a)) : LamX.Tabs T (upd H a o) := fun p hp => by
  obtain ⟨ps, h1, h2, h3⟩ := t p hp
  have ne1 : p.1 ≠ a := fun z => by rw [← z, h1] at s; exact s
  refine ⟨ps, by rw [upd_ne ne1]; exact h1, h2, fun pos cv hc => ?_⟩
  obtain ⟨c, e1, e2⟩ := h3 pos cv hc
  have ne2 : c ≠ a := fun z => by rw [← z, e2] at s; exact s
  exact ⟨c, e1, by rw [upd_ne ne2]; exact e2⟩
theorem cts_upd {C : List (Addr × List Str)} {H : Hp} {a : Addr} {o : HO} (t : ∀ q ∈ C, H q.1 = some (.tup (q.2.map V.str))) (s : Soft (H a)) : ∀ q ∈ C, upd H a o q.1 = some (.tup (q.2.map V.str)) := fun q hq => by
  have e := t q hq
  rw [upd_ne (fun z => by rw [← z, e] at s; exact s)]
  exact e
theorem grow_upd {ρ : List Addr} {H : Hp} {a : Addr} {o : HO} (s : Soft (H a)) : Grow ρ H ρ (upd H a o) :=
  ⟨fun _ _ e => e, fun p ws e => by rw [upd_ne (fun z => by rw [← z, e] at s; exact s)]; exact e, fun p lo hi e => by rw [upd_ne (fun z => by rw [← z, e] at s; exact s)]; exact e⟩
theorem grow_more {ρ : List Addr} {H : Hp} {a : Addr} : Grow ρ H (ρ ++ [a]) H :=
  ⟨fun n x e => by rw [List.getElem?_append_left (List.getElem?_eq_some_iff.mp e).1]; exact e, fun _ _ e => e, fun _ _ _ e => e⟩
section
variable {G : Gs} {ρ : List Addr} {h : AH} {H : Hp}
theorem Rel.at (r : Rel G ρ h H) {n : Nat} {o : Ob} (e : h[n]? = some o) : ∃ a, ρ[n]? = some a ∧ ObR G ρ H a o := by
  obtain ⟨hl, _⟩ := List.getElem?_eq_some_iff.mp e
  have hr : n < ρ.length := by rw [r.len]; exact hl
  exact ⟨ρ[n], List.getElem?_eq_getElem hr, r.ob n o _ e (List.getElem?_eq_getElem hr)⟩
theorem Rel.there (r : Rel G ρ h H) {n : Nat} {a : Addr} (e : ρ[n]? = some a) : ∃ o, h[n]? = some o ∧ ObR G ρ H a o := by
  obtain ⟨hl, _⟩ := List.getElem?_eq_some_iff.mp e
  have hr : n < h.length := by rw [← r.len]; exact hl
  exact ⟨h[n], List.getElem?_eq_getElem hr, r.ob n _ a (List.getElem?_eq_getElem hr) e⟩
theorem Rel.ne (r : Rel G ρ h H) {n m : Nat} {a b : Addr} (e1 : ρ[n]? = some a) (e2 : ρ[m]? = some b) (ne : n ≠ m) : a ≠ b := fun z => by
  subst z
  obtain ⟨l1, q1⟩ := List.getElem?_eq_some_iff.mp e1
  obtain ⟨l2, q2⟩ := List.getElem?_eq_some_iff.mp e2
  exact ne ((List.getElem_inj r.nd).mp (q1.trans q2.symm))
/-- a place where nothing of ours stands is written -/
theorem Rel.aside (r : Rel G ρ h H) {p : Addr} {o : HO} (hp : H p = none) : Rel G ρ h (upd H p o) := by
  have g : Grow ρ H ρ (upd H p o) := grow_upd (by rw [hp]; trivial)
  refine ⟨r.len, r.nd, fun n ob a e1 e2 => ?_, tabs_upd r.tabs (by rw [hp]; trivial), cts_upd r.cts (by rw [hp]; trivial)⟩
  have q := r.ob n ob a e1 e2
  obtain ⟨u, hu⟩ := q.there
  exact q.grow g (upd_ne (ne_of_none hu hp))
/-- a new object -/
theorem Rel.new (r : Rel G ρ h H) {p : Addr} {o : HO} {ob : Ob} (hp : H p = none) (q : ObR G (ρ ++ [p]) (upd H p o) p ob) : Rel G (ρ ++ [p]) (h ++ [ob]) (upd H p o) := by
  have r' := r.aside (o := o) hp
  have g : Grow ρ (upd H p o) (ρ ++ [p]) (upd H p o) := grow_more
  refine ⟨by simp [r.len], ?_, fun n ob' a e1 e2 => ?_, r'.tabs, r'.cts⟩
  · rw [List.nodup_append]
    refine ⟨r.nd, by simp, fun a ha b hb => ?_⟩
    have e : b = p := by simpa using hb
    subst e
    obtain ⟨i, hi⟩ := List.mem_iff_getElem?.mp ha
    obtain ⟨o', _, q'⟩ := r.there hi
    obtain ⟨u, hu⟩ := q'.there
    exact ne_of_none hu hp
  · by_cases hn : n < h.length
    · rw [List.getElem?_append_left hn] at e1
      rw [List.getElem?_append_left (by rw [r.len]; exact hn)] at e2
      exact (r'.ob n ob' a e1 e2).grow g rfl
    · have hl : n = h.length := by
        have := (List.getElem?_eq_some_iff.mp e1).1
        simp at this
        omega
      subst hl
      simp at e1
      have e3 : (ρ ++ [p])[ρ.length]? = some a := by rw [r.len]; exact e2
      simp at e3
      subst e1
      subst e3
      exact q
theorem grow_new {p : Addr} {o : HO} (hp : H p = none) : Grow ρ H (ρ ++ [p]) (upd H p o) := (grow_upd (by rw [hp]; trivial)).trans grow_more
theorem new_at (r : Rel G ρ h H) {p : Addr} : (ρ ++ [p])[h.length]? = some p := by rw [← r.len]; simp
/-- an object of ours is changed -/
theorem Rel.write (r : Rel G ρ h H) {n : Nat} {a : Addr} {o : HO} {ob : Ob} (ha : ρ[n]? = some a) (s : Soft (H a)) (q : ObR G ρ (upd H a o) a ob) : Rel G ρ (h.set n ob) (upd H a o) := by
  have g : Grow ρ H ρ (upd H a o) := grow_upd s
  refine ⟨by simp [r.len], r.nd, fun m ob' b e1 e2 => ?_, tabs_upd r.tabs s, cts_upd r.cts s⟩
  by_cases hm : n = m
  · subst hm
    have hl : n < h.length := by rw [← r.len]; exact (List.getElem?_eq_some_iff.mp ha).1
    rw [List.getElem?_set_self hl] at e1
    rw [ha] at e2
    cases e1
    cases e2
    exact q
  · rw [List.getElem?_set_ne hm] at e1
    exact (r.ob m ob' b e1 e2).grow g (upd_ne (r.ne e2 ha (Ne.symm hm)))
end
/-- the slots -/
structure RSt (ρ : List Addr) (H : Hp) (σ : St) (τ : L2.St) : Prop where
  len : σ.length = τ.length
  at_ : ∀ (i : Nat) (v : Val), σ[i]? = some (some v) → ∃ w, τ[i]? = some (some w) ∧ RV ρ H v w
theorem RSt.grow {ρ ρ' : List Addr} {H H' : Hp} {σ : St} {τ : L2.St} (r : RSt ρ H σ τ) (g : Grow ρ H ρ' H') : RSt ρ' H' σ τ :=
  ⟨r.len, fun i v e => let ⟨w, q1, q2⟩ := r.at_ i v e; ⟨w, q1, q2.grow g⟩⟩
theorem RSt.set {ρ : List Addr} {H : Hp} {σ : St} {τ : L2.St} (r : RSt ρ H σ τ) {v : Val} {w : V} (q : RV ρ H v w) (i : Nat) : RSt ρ H (σ.set i (some v)) (τ.set i (some w)) := by
  refine ⟨by simp [r.len], fun j u e => ?_⟩
  by_cases hj : i = j
  · subst hj
    have hl : i < σ.length := by
      have := (List.getElem?_eq_some_iff.mp e).1
      simpa using this
    rw [List.getElem?_set_self hl] at e
    cases e
    exact ⟨w, List.getElem?_set_self (by rw [← r.len]; exact hl), q⟩
  · rw [List.getElem?_set_ne hj] at e
    obtain ⟨w', q1, q2⟩ := r.at_ j u e
    exact ⟨w', by rw [List.getElem?_set_ne hj]; exact q1, q2⟩

/-! ### what a reading asks -/
/-- an error of the text's own: its class, its own dict with the fields -/
def ExcR (G : Gs) (ρ : List Addr) (H : Hp) (c : Str) (vs : List Val) (cls : Value) (d : Option Addr) : Prop :=
  ∃ C dd ws, G.mg c = some (.ref C) ∧ cls = .ref C ∧ d = some dd ∧ H dd = some (.xd ((G.xf c).zip ws)) ∧ (G.xf c).length = ws.length ∧ RVs ρ H vs ws
def Post {α β : Type} (R : List Addr → Hp → α → β → Prop) (G : Gs) (W : Value → Option Addr → Hp → Prop) (ρ : List Addr) (H : Hp) (r : Out α) (Q : β → Hp → Prop) : Prop :=
  match r with
  | .ok a h1 => ∀ ρ' H' b, Rel G ρ' h1 H' → Grow ρ H ρ' H' → R ρ' H' a b → Q b H'
  | .exc c vs h1 => ∀ ρ' H' cls d, Rel G ρ' h1 H' → Grow ρ H ρ' H' → ExcR G ρ' H' c vs cls d → W cls d H'
  | .bad => False
theorem Post.grow {α β : Type} {R : List Addr → Hp → α → β → Prop} {G : Gs} {W : Value → Option Addr → Hp → Prop} {ρ ρ1 : List Addr} {H H1 : Hp} {r : Out α} {Q : β → Hp → Prop} (p : Post R G W ρ H r Q) (g : Grow ρ H ρ1 H1) : Post R G W ρ1 H1 r Q := by
  cases r with
  | ok a h => exact fun ρ' H' b q1 q2 q3 => p ρ' H' b q1 (g.trans q2) q3
  | exc c vs h => exact fun ρ' H' cls d q1 q2 q3 => p ρ' H' cls d q1 (g.trans q2) q3
  | bad => exact p
theorem Post.bind {α β γ δ : Type} {R1 : List Addr → Hp → α → β → Prop} {R2 : List Addr → Hp → γ → δ → Prop} {G : Gs} {W : Value → Option Addr → Hp → Prop} {ρ : List Addr} {H : Hp} {r : Out α} {k : α → AH → Out γ} {Q : δ → Hp → Prop}
    (p : Post R2 G W ρ H (r.bind k) Q) : Post R1 G W ρ H r fun b H1 => ∃ ρ1 a h1, Rel G ρ1 h1 H1 ∧ Grow ρ H ρ1 H1 ∧ R1 ρ1 H1 a b ∧ Post R2 G W ρ1 H1 (k a h1) Q := by
  cases r with
  | ok a h => exact fun ρ' H' b q1 q2 q3 => ⟨ρ', a, h, q1, q2, q3, Post.grow (r := k a h) p q2⟩
  | exc c vs h => exact p
  | bad => exact p
theorem Post.mono {α β : Type} {R : List Addr → Hp → α → β → Prop} {G : Gs} {W : Value → Option Addr → Hp → Prop} {ρ : List Addr} {H : Hp} {r : Out α} {Q Q' : β → Hp → Prop} (p : Post R G W ρ H r Q) (f : ∀ b H', Q b H' → Q' b H') : Post R G W ρ H r Q' := by
  cases r with
  | ok a h => exact fun ρ' H' b q1 q2 q3 => f b H' (p ρ' H' b q1 q2 q3)
  | exc c vs h => exact p
  | bad => exact p
/-- where no error comes -/
theorem Post.calm {α β : Type} {R : List Addr → Hp → α → β → Prop} {G : Gs} {W : Value → Option Addr → Hp → Prop} {ρ : List Addr} {H : Hp} {r : Out α} {Q : β → Hp → Prop} (p : Post R G W ρ H (Ev.calm r) Q) :
    ∃ a h1, r = .ok a h1 ∧ ∀ ρ' H' b, Rel G ρ' h1 H' → Grow ρ H ρ' H' → R ρ' H' a b → Q b H' := by
  cases r with
  | ok a h => exact ⟨a, h, rfl, p⟩
  | exc c vs h => exact p.elim
  | bad => exact p.elim
/-- the readings -/
def tD (G : Gs) (W : WX) (cf : Cf) (f : Ex) : TE := fun τ H Q => ∃ ρ σ h, Rel G ρ h H ∧ RSt ρ H σ τ ∧ Post RV G (fun cls d H' => W cls d τ H') ρ H (f cf σ h) Q
def tDT (G : Gs) (W : WX) (cf : Cf) (f : Tx) : TT := fun τ H Q => ∃ ρ σ h, Rel G ρ h H ∧ RSt ρ H σ τ ∧ Post (fun _ _ a b => a = b) G (fun cls d H' => W cls d τ H') ρ H (f cf σ h) Q
def tDA (G : Gs) (W : WX) (cf : Cf) (f : Ax) : TA := fun τ H Q => ∃ ρ σ h, Rel G ρ h H ∧ RSt ρ H σ τ ∧ Post RVs G (fun cls d H' => W cls d τ H') ρ H (f cf σ h) Q
/-- what is wanted behind a statement -/
def PostS (G : Gs) (W : WX) (ρ : List Addr) (H : Hp) (r : SO) (D : Ends) : Prop :=
  match r with
  | .nx σ h1 => ∀ ρ' H' τ, Rel G ρ' h1 H' → Grow ρ H ρ' H' → RSt ρ' H' σ τ → D.nx τ H'
  | .rt v h1 => ∀ ρ' H' w, Rel G ρ' h1 H' → Grow ρ H ρ' H' → RV ρ' H' v w → D.rt w H'
  | .bk σ h1 => ∀ ρ' H' τ, Rel G ρ' h1 H' → Grow ρ H ρ' H' → RSt ρ' H' σ τ → D.bk τ H'
  | .ct σ h1 => ∀ ρ' H' τ, Rel G ρ' h1 H' → Grow ρ H ρ' H' → RSt ρ' H' σ τ → D.ct τ H'
  | .ex c vs σ h1 => ∀ ρ' H' τ cls d, Rel G ρ' h1 H' → Grow ρ H ρ' H' → RSt ρ' H' σ τ → ExcR G ρ' H' c vs cls d → W cls d τ H'
  | .bad => False
def tDS (G : Gs) (W : WX) (cf : Cf) (f : Sx) : TS := fun D τ H => ∃ ρ σ h, Rel G ρ h H ∧ RSt ρ H σ τ ∧ PostS G W ρ H (f cf σ h) D
end Ev

end

section
set_option maxRecDepth 100000
/-! Ev3: operators and comparisons by values. -/
namespace Ev
open PySem PySem.Spec PyProof.Rows L2

theorem line_eq : line = sizeLine := by rw [sizeLine_eq]; rfl
/-- an operator by values -/
def rD (G : Gs) (op : Val → Val → M Val) : R2 := fun x y H Q => ∃ ρ h v w r h1, Rel G ρ h H ∧ RV ρ H v x ∧ RV ρ H w y ∧ op v w h = .ok r h1 ∧ ∀ ρ' H' b, Rel G ρ' h1 H' → Grow ρ H ρ' H' → RV ρ' H' r b → Q b H'
/-- a comparison by values -/
def rC (G : Gs) (p : Val → Val → AH → Option Bool) : R2 := fun x y H Q => ∃ ρ h v w c, Rel G ρ h H ∧ RV ρ H v x ∧ RV ρ H w y ∧ p v w h = some c ∧ ∀ ρ' H', Rel G ρ' h H' → Grow ρ H ρ' H' → Q (.bl c) H'
theorem ok_inj {α : Type} {a b : α} {h h1 : AH} (e : Out.ok a h = Out.ok b h1) : a = b ∧ h = h1 := by cases e; exact ⟨rfl, rfl⟩
theorem bad_ok {α : Type} {b : α} {h1 : AH} {P : Prop} (e : (Out.bad : Out α) = Out.ok b h1) : P := by cases e
theorem ite_ok {α : Type} {c : Prop} [Decidable c] {x : Out α} {b : α} {h1 : AH} (e : (if c then x else .bad) = Out.ok b h1) : c ∧ x = Out.ok b h1 := by
  by_cases hc : c
  · rw [if_pos hc] at e; exact ⟨hc, e⟩
  · rw [if_neg hc] at e; cases e
theorem ite_some {α : Type} {c : Prop} [Decidable c] {x : Option α} {b : α} (e : (if c then x else none) = some b) : c ∧ x = some b := by
  by_cases hc : c
  · rw [if_pos hc] at e; exact ⟨hc, e⟩
  · rw [if_neg hc] at e; cases e
theorem Rel.own {G : Gs} {ρ : List Addr} {h : AH} {H : Hp} (r : Rel G ρ h H) {n : Nat} {a : Addr} {xs : List Val} (e : ρ[n]? = some a) (q : ownAt h n = some xs) : h[n]? = some (.lst xs) ∧ ∃ ws, H a = some (.lst ws) ∧ RVs ρ H xs ws := by
  obtain ⟨o, h1, h2⟩ := r.there e
  unfold ownAt at q
  rw [h1] at q
  cases o with
  | lst ys =>
    have e' : ys = xs := Option.some.inj q
    subst e'
    exact ⟨h1, h2⟩
  | _ => cases q
theorem Rel.lst {G : Gs} {ρ : List Addr} {h : AH} {H : Hp} (r : Rel G ρ h H) {n : Nat} {a : Addr} {xs : List Val} (e : ρ[n]? = some a) (q : lstAt h n = some xs) (K : PySem.W.Frag) : ∃ ws, SqL K H a ws ∧ RVs ρ H xs ws := by
  obtain ⟨o, h1, h2⟩ := r.there e
  unfold lstAt at q
  rw [h1] at q
  cases o with
  | lst ys =>
    have e' : ys = xs := Option.some.inj q
    subst e'
    obtain ⟨ws, q1, q2⟩ := h2
    exact ⟨ws, SqL.of q1, q2⟩
  | fro ys =>
    have e' : ys = xs := Option.some.inj q
    subst e'
    obtain ⟨o, ws, q1, q2⟩ := h2
    exact ⟨ws, .inl (.inr ⟨o, q1⟩), q2⟩
  | _ => cases q
section
variable {X : Cx} {G : Gs}
/-- two ints -/
theorem two_int {f : Value → Value → Sem Value} {op : Val → Val → M Val} {g : Int → Int → Int} {C : Int → Int → Prop}
    (rule : OpR X f (rI C fun i j => .int (g i j))) (hop : ∀ v w h r h1, op v w h = .ok r h1 → ∃ i j, v = .int i ∧ w = .int j ∧ C i j ∧ r = .int (g i j) ∧ h1 = h) : OpR X f (rD G op) := by
  rintro pins s σ H x y v u Q I rx ry ⟨ρ, h, a, b, r, h1, rel, ra, rb, e, k⟩
  obtain ⟨i, j, rfl, rfl, hc, rfl, rfl⟩ := hop _ _ _ _ _ e
  cases ra
  cases rb
  exact rule pins s σ H _ _ v u Q I rx ry ⟨i, j, rfl, rfl, hc, k ρ H _ rel (Grow.refl _ _) (.int _)⟩
theorem ri0 {f : Value → Value → Sem Value} {g : Int → Int → V} (rule : OpR X f (rI0 g)) : OpR X f (rI (fun _ _ => True) g) := by
  rintro pins s σ H x y v u Q I rx ry ⟨i, j, e1, e2, _, q⟩
  exact rule pins s σ H x y v u Q I rx ry ⟨i, j, e1, e2, q⟩
theorem smallI_ok {i : Int} (h : smallI i = true) : -(2 ^ 64) < i ∧ i < 2 ^ 64 := by
  unfold smallI at h
  rw [Bool.and_eq_true] at h
  exact ⟨of_decide_eq_true h.1, of_decide_eq_true h.2⟩
theorem op_addD : OpR X (binaryOp .Add) (rD G opAdd) := by
  rintro pins s σ H x y v u Q I rx ry ⟨ρ, h, a, b, r, h1, rel, ra, rb, e, k⟩
  cases ra with
  | int i =>
    cases rb with
    | int j =>
      obtain ⟨rfl, rfl⟩ := ok_inj (show Out.ok (Val.int (i + j)) h = _ from e)
      exact op_add pins s σ H _ _ v u Q I rx ry ⟨i, j, rfl, rfl, k ρ H _ rel (Grow.refl _ _) (.int _)⟩
    | _ => exact bad_ok e
  | str i =>
    cases rb with
    | str j =>
      obtain ⟨hc, e⟩ := ite_ok (show (if i.length + j.length ≤ line then Out.ok (Val.str (i ++ j)) h else .bad) = _ from e)
      obtain ⟨rfl, rfl⟩ := ok_inj e
      rw [line_eq] at hc
      exact op_add_str pins s σ H _ _ v u Q I rx ry ⟨i, j, rfl, rfl, hc, k ρ H _ rel (Grow.refl _ _) (.str _)⟩
    | _ => exact bad_ok e
  | @tup xs p ws hp rxs =>
    cases rb with
    | @tup ys q zs hq rys =>
      have e : (if (!xs.isEmpty && decide (xs.length + ys.length ≤ line)) = true then Out.ok (Val.tup (xs ++ ys)) h else if xs.isEmpty = true then Out.ok (.tup ys) h else .bad) = Out.ok r h1 := e
      by_cases hx : xs.isEmpty = true
      · rw [hx] at e
        simp only [Bool.not_true, Bool.false_and, Bool.false_eq_true, if_false, if_true] at e
        obtain ⟨rfl, rfl⟩ := ok_inj e
        have hw : ws = [] := by rw [rxs.empty] at hx; simpa using hx
        subst hw
        have hz : ([] : List V).length + zs.length ≤ sizeLine := by
          obtain ⟨_, _, _, hz⟩ := I.tuple (SqT.of hq)
          simpa using hz
        exact op_catA pins s σ H _ _ v u Q I rx ry ⟨p, q, [], zs, rfl, rfl, SqT.of hp, SqT.of hq, hz, fun _ => k ρ H _ rel (Grow.refl _ _) (.tup hq rys), fun z => absurd rfl z, fun z => absurd rfl z⟩
      · have hx' : xs.isEmpty = false := by simpa using hx
        rw [hx'] at e
        simp only [Bool.not_false, Bool.true_and, Bool.false_eq_true, if_false] at e
        obtain ⟨hc, e⟩ := ite_ok e
        obtain ⟨rfl, rfl⟩ := ok_inj e
        have hc := of_decide_eq_true hc
        rw [line_eq, rxs.length, rys.length] at hc
        refine op_catA pins s σ H _ _ v u Q I rx ry ⟨p, q, ws, zs, rfl, rfl, SqT.of hp, SqT.of hq, hc, fun z => ?_, fun _ z => ?_, fun _ _ t ht => ?_⟩
        · subst z
          rw [rxs.empty] at hx'
          cases hx'
        · subst z
          cases rys
          rw [List.append_nil] at k
          exact k ρ H _ rel (Grow.refl _ _) (.tup hp rxs)
        · have g : Grow ρ H ρ (upd H t (.tup (ws ++ zs))) := grow_upd (by rw [ht]; trivial)
          exact k ρ _ _ (rel.aside ht) g (.tup upd_same ((rxs.append rys).grow g))
    | _ => exact bad_ok e
  | @ref m p hp =>
    cases rb with
    | @ref n q hq =>
      have e : (match ownAt h m, ownAt h n with
        | some xs, some ys => if xs.length + ys.length ≤ line then Out.ok (Val.ref h.length) (h ++ [.lst (xs ++ ys)]) else .bad
        | _, _ => .bad) = Out.ok r h1 := e
      cases e1 : ownAt h m with
      | none => rw [e1] at e; exact bad_ok e
      | some xs =>
        cases e2 : ownAt h n with
        | none => rw [e1, e2] at e; exact bad_ok e
        | some ys =>
          rw [e1, e2] at e
          obtain ⟨hc, e⟩ := ite_ok e
          obtain ⟨rfl, rfl⟩ := ok_inj e
          obtain ⟨_, ws, a1, a2⟩ := rel.own hp e1
          obtain ⟨_, zs, b1, b2⟩ := rel.own hq e2
          rw [line_eq, a2.length, b2.length] at hc
          refine op_cat pins s σ H _ _ v u Q I rx ry ⟨p, q, ws, zs, rfl, rfl, a1, b1, hc, fun t ht => ?_⟩
          have g : Grow ρ H (ρ ++ [t]) (upd H t (.lst (ws ++ zs))) := grow_new ht
          exact k _ _ _ (rel.new ht ⟨_, upd_same, (a2.append b2).grow g⟩) g (.ref (new_at rel))
    | _ => exact bad_ok e
  | _ => cases rb <;> exact bad_ok e
theorem op_subD : OpR X (binaryOp .Sub) (rD G opSub) := two_int (ri0 op_sub) fun v w h r h1 e => by
  unfold opSub at e
  split at e
  · obtain ⟨rfl, rfl⟩ := ok_inj e
    exact ⟨_, _, rfl, rfl, trivial, rfl, rfl⟩
  · exact bad_ok e
theorem op_fdivD : OpR X (binaryOp .FloorDiv) (rD G opFdiv) := two_int op_fdiv fun v w h r h1 e => by
  unfold opFdiv at e
  split at e
  · obtain ⟨hc, e⟩ := ite_ok e
    obtain ⟨rfl, rfl⟩ := ok_inj e
    rw [Bool.and_eq_true] at hc
    exact ⟨_, _, rfl, rfl, ⟨of_decide_eq_true hc.1, of_decide_eq_true hc.2⟩, rfl, rfl⟩
  · exact bad_ok e
theorem op_modD : OpR X (binaryOp .Mod) (rD G opMod) := two_int op_mod fun v w h r h1 e => by
  unfold opMod at e
  split at e
  · obtain ⟨hc, e⟩ := ite_ok e
    obtain ⟨rfl, rfl⟩ := ok_inj e
    exact ⟨_, _, rfl, rfl, hc, rfl, rfl⟩
  · exact bad_ok e
theorem cpow_of {i j : Int} (h : (decide (0 ≤ j) && decide (j ≤ 1000000) && decide (i.natAbs < 2 ^ 64)) = true) : CPow i j := by
  rw [Bool.and_eq_true, Bool.and_eq_true] at h
  exact ⟨of_decide_eq_true h.1.1, of_decide_eq_true h.1.2, of_decide_eq_true h.2⟩
theorem op_powD : OpR X (binaryOp .Pow) (rD G opPow) := two_int op_pow fun v w h r h1 e => by
  unfold opPow at e
  split at e
  · obtain ⟨hc, e⟩ := ite_ok e
    obtain ⟨rfl, rfl⟩ := ok_inj e
    exact ⟨_, _, rfl, rfl, cpow_of hc, rfl, rfl⟩
  · exact bad_ok e
theorem op_shlD : OpR X (binaryOp .LShift) (rD G opShl) := two_int op_shl fun v w h r h1 e => by
  unfold opShl at e
  split at e
  · obtain ⟨hc, e⟩ := ite_ok e
    obtain ⟨rfl, rfl⟩ := ok_inj e
    exact ⟨_, _, rfl, rfl, cpow_of hc, rfl, rfl⟩
  · exact bad_ok e
theorem op_shrD : OpR X (binaryOp .RShift) (rD G opShr) := two_int op_shr fun v w h r h1 e => by
  unfold opShr at e
  split at e
  · obtain ⟨hc, e⟩ := ite_ok e
    obtain ⟨rfl, rfl⟩ := ok_inj e
    exact ⟨_, _, rfl, rfl, hc, rfl, rfl⟩
  · exact bad_ok e
theorem op_andD : OpR X (binaryOp .BitAnd) (rD G opAnd) := two_int (ri0 op_and) fun v w h r h1 e => by
  unfold opAnd at e
  split at e
  · obtain ⟨rfl, rfl⟩ := ok_inj e
    exact ⟨_, _, rfl, rfl, trivial, rfl, rfl⟩
  · exact bad_ok e
theorem op_orD : OpR X (binaryOp .BitOr) (rD G opOr) := two_int (ri0 op_or) fun v w h r h1 e => by
  unfold opOr at e
  split at e
  · obtain ⟨rfl, rfl⟩ := ok_inj e
    exact ⟨_, _, rfl, rfl, trivial, rfl, rfl⟩
  · exact bad_ok e
theorem op_xorD : OpR X (binaryOp .BitXor) (rD G opXor) := two_int (ri0 op_xor) fun v w h r h1 e => by
  unfold opXor at e
  split at e
  · obtain ⟨rfl, rfl⟩ := ok_inj e
    exact ⟨_, _, rfl, rfl, trivial, rfl, rfl⟩
  · exact bad_ok e
theorem op_mulD : OpR X (binaryOp .Mult) (rD G opMul) := by
  rintro pins s σ H x y v u Q I rx ry ⟨ρ, h, a, b, r, h1, rel, ra, rb, e, k⟩
  cases ra with
  | int i =>
    cases rb with
    | int j =>
      obtain ⟨hc, e⟩ := ite_ok (show (if (smallI i || smallI j) = true then Out.ok (Val.int (i * j)) h else .bad) = _ from e)
      obtain ⟨rfl, rfl⟩ := ok_inj e
      rw [Bool.or_eq_true] at hc
      have hc' : CMul i j := hc.elim (fun z => .inl (smallI_ok z)) fun z => .inr (smallI_ok z)
      exact op_mul pins s σ H _ _ v u Q I rx ry ⟨i, j, rfl, rfl, hc', k ρ H _ rel (Grow.refl _ _) (.int _)⟩
    | _ => exact bad_ok e
  | @ref m p hp =>
    cases rb with
    | int j =>
      have e : (match ownAt h m with
        | some xs => if (smallI j && decide (j < 2 ^ 62) && decide (-(2 ^ 62) < j) && decide (xs.length * j.toNat ≤ line)) = true then Out.ok (Val.ref h.length) (h ++ [.lst (List.replicate j.toNat xs).flatten]) else .bad
        | none => .bad) = Out.ok r h1 := e
      cases e1 : ownAt h m with
      | none => rw [e1] at e; exact bad_ok e
      | some xs =>
        rw [e1] at e
        obtain ⟨hc, e⟩ := ite_ok e
        obtain ⟨rfl, rfl⟩ := ok_inj e
        rw [Bool.and_eq_true, Bool.and_eq_true, Bool.and_eq_true] at hc
        obtain ⟨⟨⟨_, c1⟩, c2⟩, c3⟩ := hc
        have c1 := of_decide_eq_true c1
        have c2 := of_decide_eq_true c2
        have c3 := of_decide_eq_true c3
        obtain ⟨_, ws, a1, a2⟩ := rel.own hp e1
        rw [line_eq, a2.length] at c3
        refine op_rep pins s σ H _ _ v u Q I rx ry ⟨p, j, ws, rfl, rfl, a1, by omega, by omega, c3, fun t ht => ?_⟩
        have g : Grow ρ H (ρ ++ [t]) (upd H t (.lst (List.replicate j.toNat ws).flatten)) := grow_new ht
        exact k _ _ _ (rel.new ht ⟨_, upd_same, (a2.rep _).grow g⟩) g (.ref (new_at rel))
    | _ => exact bad_ok e
  | _ => cases rb <;> exact bad_ok e
theorem opOf_ok {o : Operator} {op : Val → Val → M Val} (h : opOf o = some op) : OpR X (binaryOp o) (rD G op) := by
  cases o <;> first
    | (cases h; done)
    | (have e := Option.some.inj h; subst e; first | exact op_addD | exact op_subD | exact op_mulD | exact op_fdivD | exact op_modD | exact op_powD | exact op_shlD | exact op_shrD | exact op_andD | exact op_orD | exact op_xorD)
end
end Ev

end

section
set_option maxRecDepth 100000
/-! Ev4: data, dicts, comparisons by values. -/
namespace Ev
open PySem PySem.Spec PyProof.Rows L2

/-! ### data -/
theorem dpAll_of {K : PySem.W.Frag} {H : Hp} {ρ : List Addr} {h : AH} {f : Val → Option PyData} (hf : ∀ v w d, RV ρ H v w → f v = some d → Dp K H w d) : ∀ {xs : List Val} {ws : List V} {ds : List PyData}, RVs ρ H xs ws → xs.mapM f = some ds → DpAll K H ws ds
  | _, _, ds, .nil, e => by
    have e' : ds = [] := by simpa using e.symm
    subst e'
    exact .nil
  | x :: xs, w :: ws, ds, .cons r t, e => by
    rw [List.mapM_cons] at e
    cases q : f x with
    | none => rw [q] at e; cases e
    | some d =>
      rw [q] at e
      cases q2 : xs.mapM f with
      | none => rw [q2] at e; cases e
      | some ds' =>
        rw [q2] at e
        have e' : d :: ds' = ds := Option.some.inj e
        subst e'
        exact .cons (hf x w d r q) (dpAll_of (h := h) hf t q2)
theorem data_dp {K : PySem.W.Frag} {G : Gs} {H : Hp} {ρ : List Addr} {h : AH} (rel : Rel G ρ h H) : ∀ (k : Nat) (v : Val) (w : V) (d : PyData), RV ρ H v w → data h k v = some d → Dp K H w d
  | 0, v, w, d, _, e => by cases e
  | k + 1, v, w, d, r, e => by
    cases r with
    | non => cases e; exact .non
    | bl b => cases e; exact .bl b
    | int i => cases e; exact .int i
    | str x => cases e; exact .str x
    | @tup xs p ws hp rs =>
      have e : (xs.mapM (data h k)).map PyData.tuple = some d := e
      cases q : xs.mapM (data h k) with
      | none => rw [q] at e; cases e
      | some ds =>
        rw [q] at e
        cases e
        exact .tup (SqT.of hp) (dpAll_of (h := h) (fun v w d r e => data_dp rel k v w d r e) rs q)
    | @ref n a hn =>
      have e : ((lstAt h n).bind fun xs => (xs.mapM (data h k)).map PyData.list) = some d := e
      cases q0 : lstAt h n with
      | none => rw [q0] at e; cases e
      | some xs =>
        rw [q0] at e
        have e : (xs.mapM (data h k)).map PyData.list = some d := e
        obtain ⟨ws, q1, rs⟩ := rel.lst hn q0 K
        cases q : xs.mapM (data h k) with
        | none => rw [q] at e; cases e
        | some ds =>
          rw [q] at e
          cases e
          exact .lst q1 (dpAll_of (h := h) (fun v w d r e => data_dp rel k v w d r e) rs q)
    | rng _ => cases e

/-! ### keys, dicts -/
theorem keyVal_inj {a b : Key} (e : keyVal a = keyVal b) : a = b := by
  cases a <;> cases b <;> simp [keyVal] at e <;> simp [e]
theorem keyVals_inj : ∀ {a b : List Key}, a.map keyVal = b.map keyVal → a = b
  | [], [], _ => rfl
  | [], _ :: _, e => by simp at e
  | _ :: _, [], e => by simp at e
  | x :: a, y :: b, e => by
    simp only [List.map_cons, List.cons.injEq] at e
    rw [keyVal_inj e.1, keyVals_inj e.2]
theorem isKey_of {v : Val} (h : isKey v = true) : ∃ k, v = keyVal k := by
  cases v with
  | int i => exact ⟨.inl i, rfl⟩
  | str x => exact ⟨.inr x, rfl⟩
  | _ => cases h
theorem keys_of : ∀ {xs : List Val}, xs.all isKey = true → ∃ ks : List Key, xs = ks.map keyVal
  | [], _ => ⟨[], rfl⟩
  | x :: xs, h => by
    rw [List.all_cons, Bool.and_eq_true] at h
    obtain ⟨k, rfl⟩ := isKey_of h.1
    obtain ⟨ks, rfl⟩ := keys_of h.2
    exact ⟨k :: ks, rfl⟩
theorem isKeyT_of {v : Val} (h : isKeyT v = true) : ∃ ks : List Key, v = .tup (ks.map keyVal) := by
  cases v with
  | tup xs =>
    obtain ⟨ks, rfl⟩ := keys_of (show xs.all isKey = true from h)
    exact ⟨ks, rfl⟩
  | _ => cases h
theorem isKey_kv (k : Key) : isKey (keyVal k) = true := by cases k <;> rfl
theorem isKeyT_kv (k : Key) : isKeyT (keyVal k) = false := by cases k <;> rfl
section
variable {ρ : List Addr} {H : Hp}
theorem RV.key {k : Key} {y : V} (r : RV ρ H (keyVal k) y) : y = kV k := by
  cases k with
  | inl i => cases r; rfl
  | inr x => cases r; rfl
theorem RV.keyR (k : Key) : RV ρ H (keyVal k) (kV k) := by
  cases k with
  | inl i => exact .int i
  | inr x => exact .str x
theorem RVs.keys : ∀ {ks : List Key} {ws : List V}, RVs ρ H (ks.map keyVal) ws → ws = ks.map kV
  | [], _, .nil => rfl
  | k :: ks, _, .cons r t => by rw [r.key, RVs.keys t] <;> rfl
theorem RVs.keysR : ∀ ks : List Key, RVs ρ H (ks.map keyVal) (ks.map kV)
  | [] => .nil
  | k :: ks => .cons (RV.keyR k) (RVs.keysR ks)
theorem RV.keyT {ks : List Key} {y : V} (r : RV ρ H (.tup (ks.map keyVal)) y) : ∃ b, y = .ref b ∧ H b = some (.tup (ks.map kV)) := by
  cases r with
  | @tup xs p ws hp rs => exact ⟨p, rfl, by rw [hp, RVs.keys rs]⟩
theorem find_rel {κ : Type} [DecidableEq κ] {f : κ → Val} (hf : ∀ a b, f a = f b → a = b) : ∀ {kvs : List (Val × Val)} {ks : List (κ × V)} (k : κ), Paired (fun p q => p.1 = f q.1 ∧ RV ρ H p.2 q.2) kvs ks →
    (∀ v, dget kvs (f k) = some v → ∃ w, valV ks k = some w ∧ RV ρ H v w) ∧ (dget kvs (f k) = none → valV ks k = none)
  | _, _, k, .nil => ⟨fun v e => (by cases e), fun _ => rfl⟩
  | p :: kvs, q :: ks, k, .cons r t => by
    obtain ⟨h1, h2⟩ := find_rel hf k t
    by_cases e : q.1 = k
    · have e1 : p.1 = f k := by rw [r.1, e]
      have d : dget (p :: kvs) (f k) = some p.2 := by simp [dget, List.find?_cons, e1]
      rw [d, valV_pos e]
      exact ⟨fun v ev => by cases ev; exact ⟨_, rfl, r.2⟩, fun z => by cases z⟩
    · have e1 : ¬ p.1 = f k := fun z => e (hf _ _ (r.1.symm.trans z))
      have d : dget (p :: kvs) (f k) = dget kvs (f k) := by simp [dget, List.find?_cons, e1]
      rw [d, valV_neg e]
      exact ⟨h1, h2⟩
theorem any_rel {κ : Type} [DecidableEq κ] {f : κ → Val} (hf : ∀ a b, f a = f b → a = b) : ∀ {kvs : List (Val × Val)} {ks : List (κ × V)} (k : κ), Paired (fun p q => p.1 = f q.1 ∧ RV ρ H p.2 q.2) kvs ks →
    (kvs.any fun p => decide (p.1 = f k)) = (ks.any fun q => decide (q.1 = k))
  | _, _, k, .nil => rfl
  | p :: kvs, q :: ks, k, .cons r t => by
    rw [List.any_cons, List.any_cons, any_rel hf k t]
    congr 1
    rw [decide_eq_decide, r.1]
    exact ⟨fun z => hf _ _ z, fun z => by rw [z]⟩
theorem map_rel {κ : Type} [DecidableEq κ] {f : κ → Val} (hf : ∀ a b, f a = f b → a = b) {v : Val} {w : V} (rv : RV ρ H v w) : ∀ {kvs : List (Val × Val)} {ks : List (κ × V)} (k : κ), Paired (fun p q => p.1 = f q.1 ∧ RV ρ H p.2 q.2) kvs ks →
    Paired (fun p q => p.1 = f q.1 ∧ RV ρ H p.2 q.2) (kvs.map fun p => if p.1 = f k then (p.1, v) else p) (ks.map fun q => if q.1 = k then (q.1, w) else q)
  | _, _, k, .nil => .nil
  | p :: kvs, q :: ks, k, .cons r t => by
    rw [List.map_cons, List.map_cons]
    refine .cons ?_ (map_rel hf rv k t)
    by_cases e : q.1 = k
    · rw [if_pos e, if_pos (by rw [r.1, e])]
      exact ⟨r.1, rv⟩
    · rw [if_neg e, if_neg (fun z => e (hf _ _ (r.1.symm.trans z)))]
      exact r
theorem paired_snoc {α β : Type} {F : α → β → Prop} {a : α} {b : β} (r : F a b) : ∀ {l₁ : List α} {l₂ : List β}, Paired F l₁ l₂ → Paired F (l₁ ++ [a]) (l₂ ++ [b])
  | _, _, .nil => .cons r .nil
  | _, _, .cons q t => .cons q (paired_snoc r t)
theorem put_rel {κ : Type} [DecidableEq κ] {f : κ → Val} (hf : ∀ a b, f a = f b → a = b) {v : Val} {w : V} (rv : RV ρ H v w) {kvs : List (Val × Val)} {ks : List (κ × V)} (k : κ) (r : Paired (fun p q => p.1 = f q.1 ∧ RV ρ H p.2 q.2) kvs ks) :
    Paired (fun p q => p.1 = f q.1 ∧ RV ρ H p.2 q.2) (dput kvs (f k) v) (putK ks k w) := by
  unfold dput putK
  rw [any_rel hf k r]
  by_cases e : (ks.any fun q => decide (q.1 = k)) = true
  · rw [if_pos e, if_pos e]
    exact map_rel hf rv k r
  · rw [if_neg e, if_neg e]
    exact paired_snoc ⟨rfl, rv⟩ r
theorem drop_rel {κ : Type} [DecidableEq κ] {f : κ → Val} (hf : ∀ a b, f a = f b → a = b) : ∀ {kvs : List (Val × Val)} {ks : List (κ × V)} (k : κ), Paired (fun p q => p.1 = f q.1 ∧ RV ρ H p.2 q.2) kvs ks →
    Paired (fun p q => p.1 = f q.1 ∧ RV ρ H p.2 q.2) (ddrop kvs (f k)) (dropK ks k)
  | _, _, k, .nil => .nil
  | p :: kvs, q :: ks, k, .cons r t => by
    have ih := drop_rel hf k t
    unfold ddrop dropK at ih ⊢
    rw [List.filter_cons, List.filter_cons]
    by_cases e : q.1 = k
    · rw [if_neg (by simp [r.1, e]), if_neg (by simp [e])]
      exact ih
    · have e1 : ¬ p.1 = f k := fun z => e (hf _ _ (r.1.symm.trans z))
      rw [if_pos (by simp [e1]), if_pos (by simp [e])]
      exact .cons r ih
theorem tupKey_inj (a b : List Key) (e : Val.tup (a.map keyVal) = Val.tup (b.map keyVal)) : a = b := keyVals_inj (Val.tup.inj e)
end
theorem pairs_nil {K : Type} [DecidableEq K] {prog : Program} {w : World} {knd : PySem.KeyKind prog w K} {es : List DictEntry} (h : Pairs knd es []) : es = [] := by
  cases h; rfl
section
variable {X : Cx} {pins : List (Addr × Obj)} {σ : L2.St} {H : Hp} {s : Shared} {a : Addr}
/-- the empty dict is of both kinds -/
theorem kt_empty (I : Inv X pins σ H s) (e : H a = some (.dK [])) : Inv X pins σ (upd H a (.dT [])) s := by
  obtain ⟨z, hd, vs, rel, o, es, ep, h1, h2, h3, h4, h5, h6⟩ := dk_of I.hok e
  cases rel
  have q := I.write (x := a) (e := a) (o := .dT []) (h' := s.heap) (t' := s.toks) (by rw [e]; trivial) (.inl rfl) (fun _ _ _ e => e) ⟨o, h1⟩ ⟨Nat.zero_le _, hd, [], .nil, o, es, ep, h1, h2, h3, pairs_nil h5, List.nodup_nil⟩
  exact q
theorem tk_empty (I : Inv X pins σ H s) (e : H a = some (.dT [])) : Inv X pins σ (upd H a (.dK [])) s := by
  obtain ⟨z, hd, vs, rel, o, es, ep, h1, h2, h3, h4, h5, h6⟩ := dt_of I.hok e
  cases rel
  have hes : es = #[] := by simpa using h4
  subst hes
  have q := I.write (x := a) (e := a) (o := .dK []) (h' := s.heap) (t' := s.toks) (by rw [e]; trivial) (.inl rfl) (fun _ _ _ e => e) ⟨o, h1⟩ ⟨Nat.zero_le _, hd, [], .nil, o, #[], ep, h1, h2, h3, (fun en hen => absurd hen (by simp)), by first | exact .nil | trivial, List.nodup_nil⟩
  exact q
end
end Ev

end

section
set_option maxRecDepth 100000
/-! Ev5: comparisons and subscripts by values. -/
namespace Ev
open PySem PySem.Spec PyProof.Rows L2
section
variable {X : Cx} {G : Gs} {pins : List (Addr × Obj)} {τ : L2.St} {H : Hp} {s : Shared} {ρ : List Addr} {h : AH}
theorem rk_notT {kvs : List (Val × Val)} {ks : List (Key × V)} (r : RK ρ H kvs ks) (e : keysT kvs = true) : kvs = [] ∧ ks = [] := by
  cases r with
  | nil => exact ⟨rfl, rfl⟩
  | @cons p q _ _ r t =>
    unfold keysT at e
    rw [List.all_cons, Bool.and_eq_true, r.1, isKeyT_kv] at e
    cases e.1
theorem rt_notK {kvs : List (Val × Val)} {ks : List (List Key × V)} (r : RT ρ H kvs ks) (e : keysK kvs = true) : kvs = [] ∧ ks = [] := by
  cases r with
  | nil => exact ⟨rfl, rfl⟩
  | @cons p q _ _ r t =>
    unfold keysK at e
    rw [List.all_cons, Bool.and_eq_true, r.1] at e
    cases e.1
theorem write_dic (rel : Rel G ρ h H) {n : Nat} {a : Addr} {kvs : List (Val × Val)} {o : HO} (hn : ρ[n]? = some a) (e : h[n]? = some (.dic kvs)) (sf : Soft (H a)) (q : ObR G ρ (upd H a o) a (.dic kvs)) : Rel G ρ h (upd H a o) := by
  have r := rel.write (ob := .dic kvs) (o := o) hn sf q
  have hh : h.set n (.dic kvs) = h := by
    apply List.ext_getElem?
    intro m
    by_cases hm : n = m
    · subst hm
      rw [List.getElem?_set_self (List.getElem?_eq_some_iff.mp e).1, e]
    · rw [List.getElem?_set_ne hm]
  rw [hh] at r
  exact r
/-- what a dict holds at a key that fits -/
theorem dic_get (I : Inv X pins τ H s) (rel : Rel G ρ h H) {n : Nat} {a : Addr} {kvs : List (Val × Val)} {k : Val} {y : V} (hn : ρ[n]? = some a) (e : h[n]? = some (.dic kvs)) (hf : fits kvs k = true) (ry : RV ρ H k y) :
    ∃ H2, Inv X pins τ H2 s ∧ Rel G ρ h H2 ∧ Grow ρ H ρ H2 ∧ ∃ o, DGet H2 a y o ∧ (∀ v, dget kvs k = some v → ∃ w, o = some w ∧ RV ρ H2 v w) ∧ (dget kvs k = none → o = none) := by
  have q := rel.ob n _ a e hn
  unfold fits at hf
  rw [Bool.or_eq_true, Bool.and_eq_true, Bool.and_eq_true] at hf
  rcases q with ⟨ks, e1, r1⟩ | ⟨ks, e1, r1⟩
  · rcases hf with ⟨k1, _⟩ | ⟨k1, k2⟩
    · obtain ⟨key, rfl⟩ := isKey_of k1
      rw [ry.key]
      obtain ⟨f1, f2⟩ := find_rel (fun _ _ => keyVal_inj) key r1
      exact ⟨H, I, rel, Grow.refl _ _, _, DGet.k e1, f1, f2⟩
    · obtain ⟨rfl, rfl⟩ := rk_notT r1 k2
      obtain ⟨keys, rfl⟩ := isKeyT_of k1
      have g : Grow ρ H ρ (upd H a (.dT [])) := grow_upd (by rw [e1]; trivial)
      obtain ⟨b, rfl, hb⟩ := (ry.grow g).keyT
      exact ⟨_, kt_empty I e1, write_dic rel hn e (by rw [e1]; trivial) (.inr ⟨[], upd_same, .nil⟩), g, _, DGet.t upd_same hb, fun v z => (by cases z), fun _ => rfl⟩
  · rcases hf with ⟨k1, k2⟩ | ⟨k1, k2⟩
    · obtain ⟨rfl, rfl⟩ := rt_notK r1 k2
      obtain ⟨key, rfl⟩ := isKey_of k1
      rw [ry.key]
      have g : Grow ρ H ρ (upd H a (.dK [])) := grow_upd (by rw [e1]; trivial)
      exact ⟨_, tk_empty I e1, write_dic rel hn e (by rw [e1]; trivial) (.inl ⟨[], upd_same, .nil⟩), g, _, DGet.k upd_same, fun v z => (by cases z), fun _ => rfl⟩
    · obtain ⟨keys, rfl⟩ := isKeyT_of k1
      obtain ⟨b, rfl, hb⟩ := ry.keyT
      obtain ⟨f1, f2⟩ := find_rel tupKey_inj keys r1
      exact ⟨H, I, rel, Grow.refl _ _, _, DGet.t e1 hb, f1, f2⟩
theorem fdi_get (I : Inv X pins τ H s) (rel : Rel G ρ h H) {n : Nat} {a : Addr} {kvs : List (Val × Val)} {k : Val} {y : V} (hn : ρ[n]? = some a) (e : h[n]? = some (.fdi kvs)) (hf : fitsF kvs k = true) (ry : RV ρ H k y) :
    ∃ o, DGet H a y o ∧ (∀ v, dget kvs k = some v → ∃ w, o = some w ∧ RV ρ H v w) ∧ (dget kvs k = none → o = none) := by
  have q := rel.ob n _ a e hn
  unfold fitsF at hf
  rw [Bool.and_eq_true] at hf
  obtain ⟨he, hf⟩ := hf
  have he : kvs ≠ [] := fun z => by rw [z] at he; cases he
  unfold fits at hf
  rw [Bool.or_eq_true, Bool.and_eq_true, Bool.and_eq_true] at hf
  rcases q with ⟨ob, ks, e1, r1⟩ | ⟨ob, ks, e1, r1⟩
  · rcases hf with ⟨k1, _⟩ | ⟨k1, k2⟩
    · obtain ⟨key, rfl⟩ := isKey_of k1
      rw [ry.key]
      obtain ⟨f1, f2⟩ := find_rel (fun _ _ => keyVal_inj) key r1
      exact ⟨_, .inl ⟨ks, key, .inr ⟨ob, e1⟩, rfl, rfl⟩, f1, f2⟩
    · exact absurd (rk_notT r1 k2).1 he
  · rcases hf with ⟨k1, k2⟩ | ⟨k1, k2⟩
    · exact absurd (rt_notK r1 k2).1 he
    · obtain ⟨keys, rfl⟩ := isKeyT_of k1
      obtain ⟨b, rfl, hb⟩ := ry.keyT
      obtain ⟨f1, f2⟩ := find_rel tupKey_inj keys r1
      exact ⟨_, .inr ⟨ks, keys, b, .inr ⟨ob, e1⟩, rfl, hb, rfl⟩, f1, f2⟩
theorem isSome_rel {o : Option V} {r : Option Val} (h1 : ∀ v, r = some v → ∃ w, o = some w ∧ RV ρ H v w) (h2 : r = none → o = none) : o.isSome = r.isSome := by
  cases r with
  | none => rw [h2 rfl] <;> rfl
  | some v => obtain ⟨w, e, _⟩ := h1 v rfl; rw [e] <;> rfl

/-! ### comparisons -/
theorem flat_rel {v : Val} {w : V} (r : RV ρ H v w) (f : flat v = true) : flatV w = true := by
  cases r <;> first | rfl | cases f
theorem flats_rel : ∀ {xs : List Val} {ws : List V}, RVs ρ H xs ws → xs.all flat = true → ws.all flatV = true
  | _, _, .nil, _ => rfl
  | _, _, .cons r t, f => by
    rw [List.all_cons, Bool.and_eq_true] at f
    rw [List.all_cons, flat_rel r f.1, flats_rel t f.2] <;> rfl
theorem eqF_rel {v v' : Val} {w w' : V} (r : RV ρ H v w) (r' : RV ρ H v' w') (f : flat v = true) (f' : flat v' = true) : eqV w w' = eqF v v' := by
  cases r <;> first
    | (cases r' <;> first | rfl | cases f')
    | cases f
theorem inF_rel {x : Val} {y : V} (rx : RV ρ H x y) (fx : flat x = true) : ∀ {xs : List Val} {ws : List V}, RVs ρ H xs ws → xs.all flat = true → inV y ws = inF x xs
  | _, _, .nil, _ => rfl
  | _, _, .cons r t, f => by
    rw [List.all_cons, Bool.and_eq_true] at f
    unfold inV inF
    rw [List.any_cons, List.any_cons, eqF_rel r rx f.1 fx]
    have := inF_rel rx fx t f.2
    unfold inV inF at this
    rw [this]
theorem dict_in (hu : X.A.units + 1 < cLine) {x : Val} {y : V} {u : Value} {n : Nat} {a : Addr} {kvs : List (Val × Val)} {Q : Bool → Hp → Prop} {neg : Bool} (I : Inv X pins τ H s) (rel : Rel G ρ h H) (hn : ρ[n]? = some a) (rx : RV ρ H x y) (ru : RelV y u)
    (e : (h[n]? = some (.dic kvs) ∧ fits kvs x = true) ∨ (h[n]? = some (.fdi kvs) ∧ fitsF kvs x = true)) (k : ∀ H', Rel G ρ h H' → Grow ρ H ρ H' → Q (dget kvs x).isSome H') :
    wpAny (model X.prog X.w) X.A (compareOp (if neg = true then .NotIn else .In) u (.ref a)) (EP X pins τ fun v H' => ∃ b, v = .bl (if neg = true then !b else b) ∧ Q b H') X.xe s := by
  rcases e with ⟨e, hf⟩ | ⟨e, hf⟩
  · obtain ⟨H2, I2, rel2, g2, o, dg, f1, f2⟩ := dic_get I rel hn e hf rx
    have q := k H2 rel2 g2
    rw [← isSome_rel f1 f2] at q
    cases neg with
    | true => exact d_notIn hu I2 dg ru fun s3 I3 => ⟨.bl (!o.isSome), H2, I3, rfl, _, rfl, q⟩
    | false => exact d_in hu I2 dg ru fun s3 I3 => ⟨.bl o.isSome, H2, I3, rfl, _, rfl, q⟩
  · obtain ⟨o, dg, f1, f2⟩ := fdi_get I rel hn e hf rx
    have q := k H rel (Grow.refl _ _)
    rw [← isSome_rel f1 f2] at q
    cases neg with
    | true => exact d_notIn hu I dg ru fun s3 I3 => ⟨.bl (!o.isSome), H, I3, rfl, _, rfl, q⟩
    | false => exact d_in hu I dg ru fun s3 I3 => ⟨.bl o.isSome, H, I3, rfl, _, rfl, q⟩
/-- in, not in -/
theorem op_inD {neg : Bool} (hu : X.A.units + 1 < cLine) : OpR X (compareOp (if neg = true then .NotIn else .In)) (rC G fun x y h => (pyIn x y h).map fun b => if neg = true then !b else b) := by
  rintro pins s σ H x y v u Q I rx ry ⟨ρ, h, a, b, c, rel, ra, rb, e, k⟩
  have e : (pyIn a b h).map (fun b => if neg = true then !b else b) = some c := e
  cases q : pyIn a b h with
  | none => rw [q] at e; cases e
  | some d =>
    rw [q] at e
    have e : (if neg = true then !d else d) = c := Option.some.inj e
    subst e
    have seq : ∀ {p : Addr} {ws : List V} {xs : List Val}, y = .ref p → (SqL X.K H p ws ∨ SqT X.K H p ws) → RVs ρ H xs ws → flat a = true → xs.all flat = true → d = inF a xs →
        wpAny (model X.prog X.w) X.A (compareOp (if neg = true then .NotIn else .In) v u) (EP X pins σ Q) X.xe s := fun {p ws xs} ey hs rs fa fx ed => by
      have hin := inF_rel ra fa rs fx
      have kq := k ρ H rel (Grow.refl _ _)
      rw [ed, ← hin] at kq
      cases neg with
      | true => exact op_notIn_seq pins s σ H x y v u Q I rx ry ⟨p, ws, ey, hs, flat_rel ra fa, flats_rel rs fx, kq⟩
      | false => exact op_in_seq pins s σ H x y v u Q I rx ry ⟨p, ws, ey, hs, flat_rel ra fa, flats_rel rs fx, kq⟩
    cases rb with
    | @tup xs p ws hp rs =>
      obtain ⟨hc, q⟩ := ite_some (show (if (flat a && xs.all flat) = true then some (inF a xs) else none) = some d from q)
      rw [Bool.and_eq_true] at hc
      exact seq rfl (.inr (SqT.of hp)) rs hc.1 hc.2 (Option.some.inj q).symm
    | str z =>
      cases ra with
      | str i =>
        have q : some (!(Builtin.Str.occurrences z i 0 z.length 1).isEmpty) = some d := q
        cases q
        have kq := k ρ H rel (Grow.refl _ _)
        cases neg with
        | true => exact L2.op_notIn_str pins s σ H _ _ v u Q I rx ry ⟨i, z, rfl, rfl, kq⟩
        | false => exact L2.op_in_str pins s σ H _ _ v u Q I rx ry ⟨i, z, rfl, rfl, kq⟩
      | _ => cases q
    | @ref n p hp =>
      obtain ⟨o, ho, qo⟩ := rel.there hp
      unfold pyIn at q
      simp only [ho] at q
      have fin : ∀ {kvs : List (Val × Val)}, ((h[n]? = some (.dic kvs) ∧ fits kvs a = true) ∨ (h[n]? = some (.fdi kvs) ∧ fitsF kvs a = true)) → (dget kvs a).isSome = d →
          wpAny (model X.prog X.w) X.A (compareOp (if neg = true then .NotIn else .In) v u) (EP X pins σ Q) X.xe s := fun {kvs} hk hd => by
        cases ry
        refine thn (dict_in (Q := fun b H' => Q (.bl (if neg = true then !b else b)) H') hu I rel hp ra rx hk fun H' r' g' => ?_) fun w s' ⟨w', H', I', r', b, eb, q'⟩ => ?_
        · rw [hd]
          exact k ρ H' r' g'
        · subst eb
          exact ⟨_, H', I', r', q'⟩
      cases o with
      | lst xs =>
        obtain ⟨hc, q⟩ := ite_some q
        rw [Bool.and_eq_true] at hc
        obtain ⟨ws, q1, q2⟩ := qo
        exact seq rfl (.inl (SqL.of q1)) q2 hc.1 hc.2 (Option.some.inj q).symm
      | fro xs =>
        obtain ⟨hc, q⟩ := ite_some q
        rw [Bool.and_eq_true] at hc
        obtain ⟨o', ws, q1, q2⟩ := qo
        exact seq rfl (.inl (.inl (.inr ⟨o', q1⟩))) q2 hc.1 hc.2 (Option.some.inj q).symm
      | dic kvs =>
        obtain ⟨hc, q⟩ := ite_some q
        exact fin (.inl ⟨ho, hc⟩) (Option.some.inj q)
      | fdi kvs =>
        obtain ⟨hc, q⟩ := ite_some q
        exact fin (.inr ⟨ho, hc⟩) (Option.some.inj q)
      | ins c fs => cases q
    | _ => cases q
theorem rC_imp {f : Value → Value → Sem Value} {p p' : Val → Val → AH → Option Bool} (o : OpR X f (rC G p)) (hp : ∀ x y h c, p' x y h = some c → p x y h = some c) : OpR X f (rC G p') := by
  rintro pins s σ H x y v u Q I rx ry ⟨ρ, h, a, b, c, rel, ra, rb, e, k⟩
  exact o pins s σ H x y v u Q I rx ry ⟨ρ, h, a, b, c, rel, ra, rb, hp _ _ _ _ e, k⟩
theorem op_in1 (hu : X.A.units + 1 < cLine) : OpR X (compareOp .In) (rC G pyIn) :=
  rC_imp (op_inD (neg := false) hu) fun x y h c e => by
    show (pyIn x y h).map _ = some c
    rw [e] <;> rfl
theorem op_in2 (hu : X.A.units + 1 < cLine) : OpR X (compareOp .NotIn) (rC G (pNot pyIn)) :=
  rC_imp (op_inD (neg := true) hu) fun x y h c e => e
theorem op_eqN (hu : X.A.units + 64 < cLine) : OpR X (compareOp .Eq) (rC G pyEq) := by
  rintro pins s σ H x y v u Q I rx ry ⟨ρ, h, a, b, c, rel, ra, rb, e, k⟩
  have sc : scal x y = true → c = decide (x = y) → wpAny (model X.prog X.w) X.A (compareOp .Eq v u) (EP X pins σ Q) X.xe s := fun h1 h2 =>
    op_eq pins s σ H x y v u Q I rx ry ⟨h1, by rw [← h2]; exact k ρ H rel (Grow.refl _ _)⟩
  unfold pyEq at e
  split at e
  case h_13 =>
    split at e
    · rename_i d d' hd hd'
      obtain ⟨hc, e⟩ := ite_some e
      rw [Bool.and_eq_true] at hc
      have e' := Option.some.inj e
      subst e'
      exact L2.op_eqD hu pins s σ H x y v u Q I rx ry ⟨d, d', data_dp rel 40 _ _ d ra hd, data_dp rel 40 _ _ d' rb hd', hc.1, hc.2, k ρ H rel (Grow.refl _ _)⟩
    · cases e
  all_goals
    cases ra
    cases rb
    have e' := Option.some.inj e
    subst e'
    refine sc rfl ?_
    first
      | rfl
      | exact dec_bl.symm
      | simp
theorem op_neN (hu : X.A.units + 64 < cLine) : OpR X (compareOp .NotEq) (rC G (pNot pyEq)) := by
  rintro pins s σ H x y v u Q I rx ry ⟨ρ, h, a, b, c, rel, ra, rb, e, k⟩
  have e : (pyEq a b h).map (!·) = some c := e
  cases e0 : pyEq a b h with
  | none => rw [e0] at e; cases e
  | some c' =>
    rw [e0] at e
    have ec : (!c') = c := Option.some.inj e
    subst ec
    clear e
    have sc : scal x y = true → c' = decide (x = y) → wpAny (model X.prog X.w) X.A (compareOp .NotEq v u) (EP X pins σ Q) X.xe s := fun h1 h2 =>
      op_ne pins s σ H x y v u Q I rx ry ⟨h1, by rw [← h2]; exact k ρ H rel (Grow.refl _ _)⟩
    unfold pyEq at e0
    split at e0
    case h_13 =>
      split at e0
      · rename_i d d' hd hd'
        obtain ⟨hc, e⟩ := ite_some e0
        rw [Bool.and_eq_true] at hc
        have e' := Option.some.inj e
        subst e'
        exact L2.op_neD hu pins s σ H x y v u Q I rx ry ⟨d, d', data_dp rel 40 _ _ d ra hd, data_dp rel 40 _ _ d' rb hd', hc.1, hc.2, k ρ H rel (Grow.refl _ _)⟩
      · cases e0
    all_goals
      cases ra
      cases rb
      have e' := Option.some.inj e0
      subst e'
      refine sc rfl ?_
      first
        | rfl
        | exact dec_bl.symm
        | simp
theorem op_ltN (hu : X.A.units < cLine) : OpR X (compareOp .Lt) (rC G cmpLt) := by
  rintro pins s σ H x y v u Q I rx ry ⟨ρ, h, a, b, c, rel, ra, rb, e, k⟩
  unfold cmpLt at e
  split at e
  · cases ra
    cases rb
    have e' := Option.some.inj e
    subst e'
    exact op_lt pins s σ H _ _ v u Q I rx ry ⟨_, _, rfl, rfl, k ρ H rel (Grow.refl _ _)⟩
  · cases ra
    cases rb
    have e' := Option.some.inj e
    subst e'
    exact op_lt_str pins s σ H _ _ v u Q I rx ry ⟨_, _, rfl, rfl, k ρ H rel (Grow.refl _ _)⟩
  · split at e
    · rename_i ns ms h1 h2
      cases ra with
      | @tup _ p ws hp rs =>
        cases rb with
        | @tup _ q zs hq rs' =>
          have e' := Option.some.inj e
          subst e'
          rw [rs.ints h1] at hp
          rw [rs'.ints h2] at hq
          exact L2.op_ltT hu pins s σ H _ _ v u Q I rx ry ⟨p, q, ns, ms, rfl, rfl, SqT.of hp, SqT.of hq, k ρ H rel (Grow.refl _ _)⟩
    · cases e
  · cases e
theorem op_cmpI {op : CmpOp} {p : Int → Int → Bool} (o : OpR X (compareOp op) (rI0 fun i j => .bl (p i j))) : OpR X (compareOp op) (rC G (cmpI p)) := by
  rintro pins s σ H x y v u Q I rx ry ⟨ρ, h, a, b, c, rel, ra, rb, e, k⟩
  unfold cmpI at e
  split at e
  · cases ra
    cases rb
    have e' := Option.some.inj e
    subst e'
    exact o pins s σ H _ _ v u Q I rx ry ⟨_, _, rfl, rfl, k ρ H rel (Grow.refl _ _)⟩
  · cases e
theorem non_rel {v : Val} {w : V} (r : RV ρ H v w) : decide (w = .non) = decide (v = .non) := by
  cases r <;> simp
theorem op_isN1 : OpR X (compareOp .Is) (rC G cmpIsN) := by
  rintro pins s σ H x y v u Q I rx ry ⟨ρ, h, a, b, c, rel, ra, rb, e, k⟩
  unfold cmpIsN at e
  split at e
  · cases rb
    have e' := Option.some.inj e
    subst e'
    exact op_isN pins s σ H _ _ v u Q I rx ry ⟨rfl, by rw [non_rel ra]; exact k ρ H rel (Grow.refl _ _)⟩
  · cases e
theorem op_isN2 : OpR X (compareOp .IsNot) (rC G (pNot cmpIsN)) := by
  rintro pins s σ H x y v u Q I rx ry ⟨ρ, h, a, b, c, rel, ra, rb, e, k⟩
  have e : (cmpIsN a b h).map (!·) = some c := e
  unfold cmpIsN at e
  split at e
  · cases rb
    have e' := Option.some.inj e
    subst e'
    exact op_notN pins s σ H _ _ v u Q I rx ry ⟨rfl, by rw [non_rel ra]; exact k ρ H rel (Grow.refl _ _)⟩
  · cases e
def cmpOf : CmpOp → Option (Val → Val → AH → Option Bool)
  | .Eq => some pyEq
  | .NotEq => some (pNot pyEq)
  | .Lt => some cmpLt
  | .LtE => some (cmpI fun i j => decide (i ≤ j))
  | .Gt => some (cmpI fun i j => decide (j < i))
  | .GtE => some (cmpI fun i j => decide (j ≤ i))
  | .Is => some cmpIsN
  | .IsNot => some (pNot cmpIsN)
  | .In => some pyIn
  | .NotIn => some (pNot pyIn)
theorem cmpOf_ok (hu : X.A.units + 64 < cLine) {o : CmpOp} {p : Val → Val → AH → Option Bool} (h : cmpOf o = some p) : OpR X (compareOp o) (rC G p) := by
  cases o <;> (have e := Option.some.inj h; subst e)
  · exact op_eqN hu
  · exact op_neN hu
  · exact op_ltN (by omega)
  · exact op_cmpI op_le
  · exact op_cmpI op_gt
  · exact op_cmpI op_ge
  · exact op_isN1
  · exact op_isN2
  · exact op_in1 (by omega)
  · exact op_in2 (by omega)

/-! ### subscripts -/
/-- a subscript by values -/
theorem at_rel {α : Type} {xs : List Val} {ws : List V} (r : RVs ρ H xs ws) {i : Int} {v : Val} (e : atI xs i = some v) : ∃ w, atI ws i = some w ∧ RV ρ H v w := by
  unfold atI at e ⊢
  rw [r.length] at e
  cases q : ixN ws.length i with
  | none => rw [q] at e; cases e
  | some j =>
    rw [q] at e
    obtain ⟨w, h1, h2⟩ := r.get (show xs[j]? = some v from e)
    exact ⟨w, h1, h2⟩
theorem of_ok {α : Type} {o : Option α} {h h1 : AH} {a : α} (e : Out.of o h = .ok a h1) : o = some a ∧ h = h1 := by
  cases o with
  | none => cases e
  | some b => cases e; exact ⟨rfl, rfl⟩
theorem ix_D (hu : X.A.units + 1 < cLine) : IxR X (rD G pyIx) := by
  rintro value slice pins s σ H x y v u Q I rx ry ⟨ρ, h, a, b, r, h1, rel, ra, rb, e, k⟩ hs
  have sq : ∀ {p : Addr} {ws : List V} {xs : List Val} {i : Int}, x = .ref p → b = .int i → (SqL X.K H p ws ∨ SqT X.K H p ws) → RVs ρ H xs ws → Out.of (atI xs i) h = .ok r h1 →
      wpAny (model X.prog X.w) X.A (subscriptTail value slice v u) (EP X pins σ Q) X.xe s := fun {p ws xs i} ex eb hq rs e => by
    obtain ⟨e1, e2⟩ := of_ok e
    subst e2
    subst eb
    cases rb
    obtain ⟨w, q1, q2⟩ := at_rel (α := Unit) rs e1
    rcases hq with hq | hq
    · exact ix_list value slice pins s σ H x _ v u Q I rx ry ⟨p, ws, i, w, ex, rfl, hq, q1, k ρ H w rel (Grow.refl _ _) q2⟩ hs
    · exact ix_tup value slice pins s σ H x _ v u Q I rx ry ⟨p, ws, i, w, ex, rfl, hq, q1, k ρ H w rel (Grow.refl _ _) q2⟩ hs
  cases ra with
  | @tup xs p ws hp rs =>
    cases b with
    | int i => exact sq rfl rfl (.inr (SqT.of hp)) rs e
    | _ => exact bad_ok e
  | str z =>
    cases b with
    | int i =>
      obtain ⟨hc, e⟩ := ite_ok (show (if z.length ≤ line then Out.of ((atI z.cps.toList i).map fun c => Val.str ⟨#[c]⟩) h else .bad) = Out.ok r h1 from e)
      obtain ⟨e1, e2⟩ := of_ok e
      subst e2
      rw [line_eq] at hc
      cases rb
      cases q : atI z.cps.toList i with
      | none => rw [q] at e1; cases e1
      | some c =>
        rw [q] at e1
        cases e1
        exact ix_str value slice pins s σ H _ _ v u Q I rx ry ⟨z, i, c, rfl, rfl, hc, q, k ρ H _ rel (Grow.refl _ _) (.str _)⟩ hs
    | _ => exact bad_ok e
  | @ref n p hp =>
    obtain ⟨o, ho, qo⟩ := rel.there hp
    unfold pyIx at e
    simp only [ho] at e
    have dic : ∀ {H2 : Hp} {kvs : List (Val × Val)} {oo : Option V}, Inv X pins σ H2 s → Rel G ρ h H2 → Grow ρ H ρ H2 → DGet H2 p y oo → (∀ v, dget kvs b = some v → ∃ w, oo = some w ∧ RV ρ H2 v w) → Out.of (dget kvs b) h = .ok r h1 →
        wpAny (model X.prog X.w) X.A (subscriptTail value slice v u) (EP X pins σ Q) X.xe s := fun {H2 kvs oo} I2 rel2 g2 dg f1 e => by
      obtain ⟨e1, e2⟩ := of_ok e
      subst e2
      obtain ⟨w, rfl, q2⟩ := f1 r e1
      cases rx
      exact tail_any (dict_typeIs I2 dg) PySem.F.slot_dict_getitem.lookup (d_getItem hu I2 dg ry fun w' s3 I3 rw' => ⟨w, H2, I3, rw', k ρ H2 w rel2 g2 q2⟩) hs
    cases o with
    | lst xs =>
      obtain ⟨ws, q1, q2⟩ := qo
      cases b with
      | int i => exact sq rfl rfl (.inl (SqL.of q1)) q2 e
      | _ => exact bad_ok e
    | fro xs =>
      obtain ⟨o', ws, q1, q2⟩ := qo
      cases b with
      | int i => exact sq rfl rfl (.inl (.inl (.inr ⟨o', q1⟩))) q2 e
      | _ => exact bad_ok e
    | dic kvs =>
      obtain ⟨hc, e⟩ := ite_ok (show (if fits kvs b = true then Out.of (dget kvs b) h else .bad) = Out.ok r h1 from e)
      obtain ⟨H2, I2, rel2, g2, oo, dg, f1, f2⟩ := dic_get I rel hp ho hc rb
      exact dic I2 rel2 g2 dg f1 e
    | fdi kvs =>
      obtain ⟨hc, e⟩ := ite_ok (show (if fitsF kvs b = true then Out.of (dget kvs b) h else .bad) = Out.ok r h1 from e)
      obtain ⟨oo, dg, f1, f2⟩ := fdi_get I rel hp ho hc rb
      exact dic I rel (Grow.refl _ _) dg f1 e
    | ins c fs => exact bad_ok e
  | _ => exact bad_ok e
end
end Ev

end

section
set_option maxRecDepth 100000
/-! Ev6: expressions. -/
namespace Ev
open PySem PySem.Spec PyProof.Rows L2

def plainArg : Expr → Bool
  | .Starred _ _ => false
  | _ => true
theorem star_cons {e : Expr} {es : List Expr} {env : Env} (h : plainArg e = true) : starEach (e :: es) env = (false, eval e env) :: starEach es env := by
  cases e <;> first | rfl | cases h
theorem star_any {env : Env} {pos : Pos} : ∀ {es : List Expr}, es.all plainArg = true → (backTo pos (starEach es env)).any (·.1) = false
  | [], _ => rfl
  | e :: es, h => by
    rw [List.all_cons, Bool.and_eq_true] at h
    rw [star_cons h.1]
    have ih := star_any (env := env) (pos := pos) h.2
    first
      | exact ih
      | (show (backTo pos ((false, eval e env) :: starEach es env)).any (·.1) = false
         unfold backTo at ih ⊢
         simpa using ih)
section
variable {X : Cx} {G : Gs} {W : WX} {cf : Cf} {a b c : Expr} {fa fb fc : Ex} {ta tb : Tx} {pos : Pos} {es rest : List Expr} {ra : Ax}
theorem rd_of {op : Val → Val → M Val} {ρ : List Addr} {h : AH} {H H0 : Hp} {W' : Value → Option Addr → Hp → Prop} {v w : Val} {x y : V} {Q : VK} (rel : Rel G ρ h H) (rv : RV ρ H v x) (rw' : RV ρ H w y) (p : Post RV G W' ρ H (calm (op v w h)) Q) : rD G op x y H Q := by
  obtain ⟨r, h1, e, k⟩ := p.calm
  exact ⟨ρ, h, v, w, r, h1, rel, rv, rw', e, k⟩
theorem post_of {ρ : List Addr} {h : AH} {H : Hp} {W' : Value → Option Addr → Hp → Prop} {c : Bool} {Q : VK} {o : Option Bool} (p : Post RV G W' ρ H ((Out.of o h).bind fun c h3 => .ok (.bl c) h3) Q) : ∃ c, o = some c ∧ ∀ ρ' H', Rel G ρ' h H' → Grow ρ H ρ' H' → Q (.bl c) H' := by
  cases o with
  | none => exact p.elim
  | some c => exact ⟨c, rfl, fun ρ' H' r g => p ρ' H' _ r g (.bl c)⟩
/-- two expressions in a row -/
theorem two_D {k : Val → Val → M Val} {R : V → V → Hp → VK → Prop} {τ : L2.St} {H : Hp} {Q : VK}
    (hk : ∀ (ρ : List Addr) (h : AH) (H : Hp) (v w : Val) (x y : V), Rel G ρ h H → RV ρ H v x → RV ρ H w y → Post RV G (fun cls d H' => W cls d τ H') ρ H (k v w h) Q → R x y H Q)
    (h : tD G W cf (fun cf σ h => (fa cf σ h).bind fun x h1 => (fb cf σ h1).bind fun y h2 => k x y h2) τ H Q) :
    tD G W cf fa τ H fun x H1 => tD G W cf fb τ H1 fun y H2 => R x y H2 Q := by
  obtain ⟨ρ, σ, h, rel, rs, p⟩ := h
  refine ⟨ρ, σ, h, rel, rs, (Post.bind (R1 := RV) p).mono fun x H1 ⟨ρ1, v, h1, rel1, g1, rv, p1⟩ => ?_⟩
  refine ⟨ρ1, σ, h1, rel1, rs.grow g1, (Post.bind (R1 := RV) p1).mono fun y H2 ⟨ρ2, w, h2, rel2, g2, rw', p2⟩ => ?_⟩
  exact hk ρ2 h2 H2 v w x y rel2 (rv.grow g2) rw' p2
/-- one expression -/
theorem one_D {α β : Type} {R2 : List Addr → Hp → α → β → Prop} {k : Val → AH → Out α} {τ : L2.St} {H : Hp} {Q : β → Hp → Prop} {ρ : List Addr} {σ : St} {h : AH} (rel : Rel G ρ h H) (rs : RSt ρ H σ τ)
    (p : Post R2 G (fun cls d H' => W cls d τ H') ρ H ((fa cf σ h).bind k) Q) :
    tD G W cf fa τ H fun x H1 => ∃ ρ1 v h1, Rel G ρ1 h1 H1 ∧ Grow ρ H ρ1 H1 ∧ RV ρ1 H1 v x ∧ Post R2 G (fun cls d H' => W cls d τ H') ρ1 H1 (k v h1) Q :=
  ⟨ρ, σ, h, rel, rs, Post.bind (R1 := RV) p⟩
theorem one_T {α β : Type} {R2 : List Addr → Hp → α → β → Prop} {k : Bool → AH → Out α} {τ : L2.St} {H : Hp} {Q : β → Hp → Prop} {ρ : List Addr} {σ : St} {h : AH} (rel : Rel G ρ h H) (rs : RSt ρ H σ τ)
    (p : Post R2 G (fun cls d H' => W cls d τ H') ρ H ((ta cf σ h).bind k) Q) :
    tDT G W cf ta τ H fun c H1 => ∃ ρ1 h1, Rel G ρ1 h1 H1 ∧ Grow ρ H ρ1 H1 ∧ Post R2 G (fun cls d H' => W cls d τ H') ρ1 H1 (k c h1) Q :=
  ⟨ρ, σ, h, rel, rs, (Post.bind (R1 := fun _ _ a b => a = b) p).mono fun c H1 ⟨ρ1, v, h1, rel1, g1, e, p1⟩ => ⟨ρ1, h1, rel1, g1, by rw [← e]; exact p1⟩⟩
theorem one_A {α β : Type} {R2 : List Addr → Hp → α → β → Prop} {k : List Val → AH → Out α} {τ : L2.St} {H : Hp} {Q : β → Hp → Prop} {ρ : List Addr} {σ : St} {h : AH} (rel : Rel G ρ h H) (rs : RSt ρ H σ τ)
    (p : Post R2 G (fun cls d H' => W cls d τ H') ρ H ((ra cf σ h).bind k) Q) :
    tDA G W cf ra τ H fun xs H1 => ∃ ρ1 vs h1, Rel G ρ1 h1 H1 ∧ Grow ρ H ρ1 H1 ∧ RVs ρ1 H1 vs xs ∧ Post R2 G (fun cls d H' => W cls d τ H') ρ1 H1 (k vs h1) Q :=
  ⟨ρ, σ, h, rel, rs, Post.bind (R1 := RVs) p⟩
theorem PE.le {e : Expr} {t t' : TE} (h : PE X e t) (f : ∀ τ H Q, t' τ H Q → t τ H Q) : PE X e t' := ⟨fun pins s τ H Q I q => h.run pins s τ H Q I (f τ H Q q)⟩
theorem PT.le {e : Expr} {t t' : TT} (h : PT X e t) (f : ∀ τ H Q, t' τ H Q → t τ H Q) : PT X e t' := ⟨fun pins s τ H Q I q => h.run pins s τ H Q I (f τ H Q q)⟩
theorem PW.le {e : Expr} {t t' : TT} (h : PW X e t) (f : ∀ τ H Q, t' τ H Q → t τ H Q) : PW X e t' := ⟨fun wh pins s τ H Q I q => h.run wh pins s τ H Q I (f τ H Q q)⟩
theorem PA.le {t t' : TA} (h : PA X es t) (f : ∀ τ H Q, t' τ H Q → t τ H Q) : PA X es t' := ⟨fun ps pins s τ H Q I q => h.run ps pins s τ H Q I (f τ H Q q)⟩
theorem PS.le {st : Stmt} {t t' : TS} (h : PS X st t) (f : ∀ D τ H, t' D τ H → t D τ H) : PS X st t' := ⟨fun pins s τ H D I q => h.run pins s τ H D I (f D τ H q)⟩
theorem PSs.le {st : List Stmt} {t t' : TS} (h : PSs X st t) (f : ∀ D τ H, t' D τ H → t D τ H) : PSs X st t' := ⟨fun pins s τ H D I q => h.run pins s τ H D I (f D τ H q)⟩

/-! ### names, constants -/
theorem de_var {i : Nat} {x : Str} (hN : X.N[i]? = some x) (hv : Vis X.env.scope x) (hd : (x == ("__debug__" : Str)) = false) (hcd : (x == ("__classdict__" : Str)) = false) : PE X (.Name x pos) (tD G W cf (eVar i)) :=
  PE.le (pe_var hN hv hd hcd) fun τ H Q ⟨ρ, σ, h, rel, rs, p⟩ => by
    unfold eVar at p
    cases e : σ[i]? with
    | none => rw [e] at p; exact p.elim
    | some o =>
      rw [e] at p
      cases o with
      | none => exact p.elim
      | some v =>
        obtain ⟨w, h1, h2⟩ := rs.at_ i v e
        exact ⟨w, h1, p ρ H w rel (Grow.refl _ _) h2⟩
theorem de_c {v : Val} {w : V} {e : Expr} (h : PE X e (tC w)) (hr : ∀ ρ H, RV ρ H v w) : PE X e (tD G W cf (eC v)) :=
  PE.le h fun τ H Q ⟨ρ, σ, h, rel, rs, p⟩ => p ρ H w rel (Grow.refl _ _) (hr ρ H)

/-! ### operators -/
theorem de_bin {o : Operator} {op : Val → Val → M Val} (ho : OpR X (binaryOp o) (rD G op)) (ha : PE X a (tD G W cf fa)) (hb : PE X b (tD G W cf fb)) : PE X (.BinOp a o b pos) (tD G W cf (eBin op fa fb)) :=
  PE.le (pe_op ho ha hb) fun τ H Q h => two_D (fun ρ h H v w x y rel rv rw' p => rd_of (H0 := H) rel rv rw' p) h
theorem Post1 {α β : Type} {R2 : List Addr → Hp → α → β → Prop} {k : Val → AH → Out α} {τ : L2.St} {H : Hp} {Q : β → Hp → Prop} {ρ : List Addr} {σ : St} {h : AH} {R : V → Hp → Prop} (rel : Rel G ρ h H) (rs : RSt ρ H σ τ)
    (p : Post R2 G (fun cls d H' => W cls d τ H') ρ H ((fa cf σ h).bind k) Q) (f : ∀ x H1 ρ1 v h1, Rel G ρ1 h1 H1 → Grow ρ H ρ1 H1 → RV ρ1 H1 v x → Post R2 G (fun cls d H' => W cls d τ H') ρ1 H1 (k v h1) Q → R x H1) : tD G W cf fa τ H R := by
  obtain ⟨ρ', σ', h', rel', rs', p'⟩ := one_D (fa := fa) rel rs p
  exact ⟨ρ', σ', h', rel', rs', p'.mono fun x H1 ⟨ρ1, v, h1, a1, a2, a3, a4⟩ => f x H1 ρ1 v h1 a1 a2 a3 a4⟩
theorem PostT {α β : Type} {R2 : List Addr → Hp → α → β → Prop} {k : Bool → AH → Out α} {τ : L2.St} {H : Hp} {Q : β → Hp → Prop} {ρ : List Addr} {σ : St} {h : AH} {R : Bool → Hp → Prop} (rel : Rel G ρ h H) (rs : RSt ρ H σ τ)
    (p : Post R2 G (fun cls d H' => W cls d τ H') ρ H ((ta cf σ h).bind k) Q) (f : ∀ c H1 ρ1 h1, Rel G ρ1 h1 H1 → Grow ρ H ρ1 H1 → Post R2 G (fun cls d H' => W cls d τ H') ρ1 H1 (k c h1) Q → R c H1) : tDT G W cf ta τ H R := by
  obtain ⟨ρ', σ', h', rel', rs', p'⟩ := one_T (ta := ta) rel rs p
  exact ⟨ρ', σ', h', rel', rs', p'.mono fun x H1 ⟨ρ1, h1, a1, a2, a4⟩ => f x H1 ρ1 h1 a1 a2 a4⟩
theorem PostA {α β : Type} {R2 : List Addr → Hp → α → β → Prop} {k : List Val → AH → Out α} {τ : L2.St} {H : Hp} {Q : β → Hp → Prop} {ρ : List Addr} {σ : St} {h : AH} {R : List V → Hp → Prop} (rel : Rel G ρ h H) (rs : RSt ρ H σ τ)
    (p : Post R2 G (fun cls d H' => W cls d τ H') ρ H ((ra cf σ h).bind k) Q) (f : ∀ xs H1 ρ1 vs h1, Rel G ρ1 h1 H1 → Grow ρ H ρ1 H1 → RVs ρ1 H1 vs xs → Post R2 G (fun cls d H' => W cls d τ H') ρ1 H1 (k vs h1) Q → R xs H1) : tDA G W cf ra τ H R := by
  obtain ⟨ρ', σ', h', rel', rs', p'⟩ := one_A (ra := ra) rel rs p
  exact ⟨ρ', σ', h', rel', rs', p'.mono fun x H1 ⟨ρ1, v, h1, a1, a2, a3, a4⟩ => f x H1 ρ1 v h1 a1 a2 a3 a4⟩
theorem de_neg (ha : PE X a (tD G W cf fa)) : PE X (.UnaryOp .USub a pos) (tD G W cf (eNeg fa)) :=
  PE.le (pe_un un_neg ha) fun τ H Q ⟨ρ, σ, h, rel, rs, p⟩ => Post1 rel rs p fun x H1 ρ1 v h1 rel1 g1 rv p1 => by
    cases rv with
    | int i => exact ⟨i, rfl, p1 ρ1 H1 _ rel1 (Grow.refl _ _) (.int _)⟩
    | _ => exact p1.elim
theorem de_inv (ha : PE X a (tD G W cf fa)) : PE X (.UnaryOp .Invert a pos) (tD G W cf (eInv fa)) :=
  PE.le (pe_un un_inv ha) fun τ H Q ⟨ρ, σ, h, rel, rs, p⟩ => Post1 rel rs p fun x H1 ρ1 v h1 rel1 g1 rv p1 => by
    cases rv with
    | int i => exact ⟨i, rfl, p1 ρ1 H1 _ rel1 (Grow.refl _ _) (.int _)⟩
    | _ => exact p1.elim
theorem rc_of {p : Val → Val → AH → Option Bool} {ρ : List Addr} {h : AH} {H : Hp} {W' : Value → Option Addr → Hp → Prop} {v w : Val} {x y : V} {Q : VK} (rel : Rel G ρ h H) (rv : RV ρ H v x) (rw' : RV ρ H w y)
    (q : Post RV G W' ρ H ((Out.of (p v w h) h).bind fun c h3 => .ok (.bl c) h3) Q) : rC G p x y H Q := by
  obtain ⟨c, e, k⟩ := post_of (c := true) q
  exact ⟨ρ, h, v, w, c, rel, rv, rw', e, k⟩
theorem de_cmp {o : CmpOp} {p : Val → Val → AH → Option Bool} (ho : OpR X (compareOp o) (rC G p)) (ha : PE X a (tD G W cf fa)) (hb : PE X b (tD G W cf fb)) (hm : behindInMarks o b = false) : PE X (.Compare a [o] [b] pos) (tD G W cf (eCmp p fa fb)) :=
  PE.le (pe_cmpR ho ha hb hm) fun τ H Q h => two_D (fun ρ h H v w x y rel rv rw' q => rc_of rel rv rw' q) h
/-- a comparison as a test -/
theorem dt_cmp {o : CmpOp} {p : Val → Val → AH → Option Bool} (ho : OpR X (compareOp o) (rC G p)) (ha : PE X a (tD G W cf fa)) (hb : PE X b (tD G W cf fb)) (hm : behindInMarks o b = false) : PT X (.Compare a [o] [b] pos) (tDT G W cf (tBl (eCmp p fa fb))) :=
  PT.le (pt_cmpR ho ha hb hm) fun τ H Q ⟨ρ, σ, h, rel, rs, q⟩ => by
    have q : Post (fun _ _ (a b : Bool) => a = b) G (fun cls d H' => W cls d τ H') ρ H (((fa cf σ h).bind fun x h1 => (fb cf σ h1).bind fun y h2 => (Out.of (p x y h2) h2).bind fun c h3 => Out.ok (Val.bl c) h3).bind fun x h1 => match x with
      | Val.bl b => .ok b h1
      | _ => .bad) Q := q
    refine two_D (Q := fun x H' => ∃ k, x = .bl k ∧ Q k H') (k := fun x y h2 => (Out.of (p x y h2) h2).bind fun c h3 => Out.ok (Val.bl c) h3) (fun ρ h H v w x y rel rv rw' q => rc_of rel rv rw' q) ⟨ρ, σ, h, rel, rs, (Post.bind (R1 := RV) q).mono fun x H1 ⟨ρ1, v, h1, rel1, g1, rv, p1⟩ => ?_⟩
    cases rv with
    | bl c => exact ⟨c, rfl, p1 ρ1 H1 c rel1 (Grow.refl _ _) rfl⟩
    | _ => exact p1.elim

/-! ### and, or, not, if -/
theorem dw_and1 (ha : PT X a (tDT G W cf ta)) : PW X (.BoolOp .And [a] pos) (tDT G W cf ta) := pw_and1 ha
theorem dw_or1 (ha : PT X a (tDT G W cf ta)) : PW X (.BoolOp .Or [a] pos) (tDT G W cf ta) := pw_or1 ha
theorem dw_and (ha : PT X a (tDT G W cf ta)) (hb : PW X (.BoolOp .And (b :: rest) pos) (tDT G W cf tb)) : PW X (.BoolOp .And (a :: b :: rest) pos) (tDT G W cf (tAnd ta tb)) :=
  PW.le (pw_and ha hb) fun τ H Q ⟨ρ, σ, h, rel, rs, p⟩ => PostT rel rs p fun c H1 ρ1 h1 rel1 g1 p1 => by
    cases c with
    | true => exact ⟨ρ1, σ, h1, rel1, rs.grow g1, p1⟩
    | false => exact p1 ρ1 H1 false rel1 (Grow.refl _ _) rfl
theorem dw_or (ha : PT X a (tDT G W cf ta)) (hb : PW X (.BoolOp .Or (b :: rest) pos) (tDT G W cf tb)) : PW X (.BoolOp .Or (a :: b :: rest) pos) (tDT G W cf (tOr ta tb)) :=
  PW.le (pw_or ha hb) fun τ H Q ⟨ρ, σ, h, rel, rs, p⟩ => PostT rel rs p fun c H1 ρ1 h1 rel1 g1 p1 => by
    cases c with
    | true => exact p1 ρ1 H1 true rel1 (Grow.refl _ _) rfl
    | false => exact ⟨ρ1, σ, h1, rel1, rs.grow g1, p1⟩
theorem dt_not (ha : PT X a (tDT G W cf ta)) : PT X (.UnaryOp .Not a pos) (tDT G W cf (tNot ta)) :=
  PT.le (pt_not ha) fun τ H Q ⟨ρ, σ, h, rel, rs, p⟩ => PostT rel rs p fun c H1 ρ1 h1 rel1 g1 p1 => p1 ρ1 H1 (!c) rel1 (Grow.refl _ _) rfl
/-- a value's truth -/
theorem truth_ok {K : PySem.W.Frag} {ρ : List Addr} {h : AH} {H : Hp} {v : Val} {x : V} {c : Bool} (rel : Rel G ρ h H) (r : RV ρ H v x) (e : truth v h = some c) : TruV K x H c := by
  cases r with
  | non => exact (Option.some.inj e).symm
  | bl b => exact (Option.some.inj e).symm
  | int i => exact (Option.some.inj e).symm
  | str y =>
    obtain ⟨hc, e⟩ := ite_some (show (if y.length ≤ line then some ((y.length : Int) != 0) else none) = some c from e)
    rw [line_eq] at hc
    exact ⟨hc, (Option.some.inj e).symm⟩
  | @tup xs p ws hp rs =>
    have e : some (!xs.isEmpty) = some c := e
    rw [rs.empty] at e
    exact .inr (.inl ⟨ws, SqT.of hp, (Option.some.inj e).symm⟩)
  | @ref n p hp =>
    obtain ⟨o, ho, qo⟩ := rel.there hp
    unfold truth at e
    simp only [ho] at e
    cases o with
    | lst xs =>
      obtain ⟨ws, q1, q2⟩ := qo
      have e : some (!xs.isEmpty) = some c := e
      rw [q2.empty] at e
      exact .inl ⟨ws, SqL.of q1, (Option.some.inj e).symm⟩
    | fro xs =>
      obtain ⟨o', ws, q1, q2⟩ := qo
      have e : some (!xs.isEmpty) = some c := e
      rw [q2.empty] at e
      exact .inl ⟨ws, .inl (.inr ⟨o', q1⟩), (Option.some.inj e).symm⟩
    | _ => cases e
  | rng _ => cases e
theorem de_and (hK : X.K = G.K) (ha : PE X a (tD G W cf fa)) (hb : PE X (.BoolOp .And (b :: rest) pos) (tD G W cf fb)) : PE X (.BoolOp .And (a :: b :: rest) pos) (tD G W cf (eAnd fa fb)) :=
  PE.le (pe_andT ha hb) fun τ H Q ⟨ρ, σ, h, rel, rs, p⟩ => Post1 rel rs p fun x H1 ρ1 v h1 rel1 g1 rv p1 => by
    cases e : truth v h1 with
    | none => rw [e] at p1; exact p1.elim
    | some c =>
      rw [e] at p1
      refine ⟨c, truth_ok rel1 rv e, ?_⟩
      cases c with
      | true => exact ⟨ρ1, σ, h1, rel1, rs.grow g1, p1⟩
      | false => exact p1 ρ1 H1 _ rel1 (Grow.refl _ _) rv
theorem de_or (hK : X.K = G.K) (ha : PE X a (tD G W cf fa)) (hb : PE X (.BoolOp .Or (b :: rest) pos) (tD G W cf fb)) : PE X (.BoolOp .Or (a :: b :: rest) pos) (tD G W cf (eOr fa fb)) :=
  PE.le (pe_orT ha hb) fun τ H Q ⟨ρ, σ, h, rel, rs, p⟩ => Post1 rel rs p fun x H1 ρ1 v h1 rel1 g1 rv p1 => by
    cases e : truth v h1 with
    | none => rw [e] at p1; exact p1.elim
    | some c =>
      rw [e] at p1
      refine ⟨c, truth_ok rel1 rv e, ?_⟩
      cases c with
      | true => exact p1 ρ1 H1 _ rel1 (Grow.refl _ _) rv
      | false => exact ⟨ρ1, σ, h1, rel1, rs.grow g1, p1⟩
theorem de_not (ha : PE X a (tD G W cf fa)) : PE X (.UnaryOp .Not a pos) (tD G W cf (eNot fa)) :=
  PE.le (pe_notT ha) fun τ H Q ⟨ρ, σ, h, rel, rs, p⟩ => Post1 rel rs p fun x H1 ρ1 v h1 rel1 g1 rv p1 => by
    cases e : truth v h1 with
    | none => rw [e] at p1; exact p1.elim
    | some c =>
      rw [e] at p1
      exact ⟨c, truth_ok rel1 rv e, p1 ρ1 H1 _ rel1 (Grow.refl _ _) (.bl _)⟩
theorem de_if (hc : PT X c (tDT G W cf ta)) (ha : PE X a (tD G W cf fa)) (hb : PE X b (tD G W cf fb)) : PE X (.IfExp c a b pos) (tD G W cf (eIf ta fa fb)) :=
  PE.le (pe_ifExp hc ha hb) fun τ H Q ⟨ρ, σ, h, rel, rs, p⟩ => PostT rel rs p fun c H1 ρ1 h1 rel1 g1 p1 => by
    cases c with
    | true => exact ⟨ρ1, σ, h1, rel1, rs.grow g1, p1⟩
    | false => exact ⟨ρ1, σ, h1, rel1, rs.grow g1, p1⟩
theorem dt_tru (ha : PE X a (tD G W cf fa)) (he : ∀ whole, isTrue a X.env whole = (do let v ← whole; standAt a.pos; holding [v] (truthy v))) : PT X a (tDT G W cf (tTru fa)) :=
  PT.le (pt_truth ha he) fun τ H Q ⟨ρ, σ, h, rel, rs, p⟩ => Post1 rel rs p fun x H1 ρ1 v h1 rel1 g1 rv p1 => by
    cases e : truth v h1 with
    | none => rw [e] at p1; exact p1.elim
    | some c =>
      rw [e] at p1
      exact ⟨c, truth_ok rel1 rv e, p1 ρ1 H1 c rel1 (Grow.refl _ _) rfl⟩

/-! ### arguments, displays -/
theorem da_nil : PA X [] (tDA G W cf aNil) := PA.le pa_nil fun τ H Q ⟨ρ, σ, h, rel, rs, p⟩ => p ρ H [] rel (Grow.refl _ _) .nil
theorem da_cons (hp : plainArg a = true) (ha : PE X a (tD G W cf fa)) (hr : PA X es (tDA G W cf ra)) : PA X (a :: es) (tDA G W cf (aCons fa ra)) :=
  PA.le (pa_cons ha hr (star_cons hp)) fun τ H Q ⟨ρ, σ, h, rel, rs, p⟩ => Post1 rel rs p fun x H1 ρ1 v h1 rel1 g1 rv p1 =>
    PostA rel1 (rs.grow g1) p1 fun xs H2 ρ2 vs h2 rel2 g2 rvs p2 => p2 ρ2 H2 (x :: xs) rel2 (Grow.refl _ _) (.cons (rv.grow g2) rvs)
theorem de_tup {k : Nat} (ha : PA X es (tDA G W cf ra)) : PE X (.Tuple es k pos) (tD G W cf (eTup ra)) :=
  PE.le (pe_tup ha) fun τ H Q ⟨ρ, σ, h, rel, rs, p⟩ => PostA rel rs p fun xs H1 ρ1 vs h1 rel1 g1 rvs p1 => by
    by_cases hc : vs.length ≤ line
    · rw [if_pos hc] at p1
      rw [line_eq, rvs.length] at hc
      refine ⟨hc, fun q hq => ?_⟩
      have g : Grow ρ1 H1 ρ1 (upd H1 q (.tup xs)) := grow_upd (by rw [hq]; trivial)
      exact p1 ρ1 _ _ (rel1.aside hq) g (.tup upd_same (rvs.grow g))
    · rw [if_neg hc] at p1; exact p1.elim
theorem de_lst (ha : PA X es (tDA G W cf ra)) : PE X (.List es pos) (tD G W cf (eLst ra)) :=
  PE.le (pe_lst ha) fun τ H Q ⟨ρ, σ, h, rel, rs, p⟩ => PostA rel rs p fun xs H1 ρ1 vs h1 rel1 g1 rvs p1 => by
    by_cases hc : vs.length ≤ line
    · rw [if_pos hc] at p1
      rw [line_eq, rvs.length] at hc
      refine ⟨hc, fun q hq => ?_⟩
      have g : Grow ρ1 H1 (ρ1 ++ [q]) (upd H1 q (.lst xs)) := grow_new hq
      exact p1 _ _ _ (rel1.new hq ⟨xs, upd_same, rvs.grow g⟩) g (.ref (new_at rel1))
    · rw [if_neg hc] at p1; exact p1.elim
theorem de_dic0 : PE X (.Dict [] [] pos) (tD G W cf eDic0) :=
  PE.le pe_dnewK fun τ H Q ⟨ρ, σ, h, rel, rs, p⟩ => fun q hq => by
    have g : Grow ρ H (ρ ++ [q]) (upd H q (.dK [])) := grow_new hq
    exact p _ _ _ (rel.new hq (.inl ⟨[], upd_same, .nil⟩)) g (.ref (new_at rel))

/-! ### subscripts, slices -/
theorem de_ix (hu : X.A.units + 1 < cLine) (ha : PE X a (tD G W cf fa)) (hb : PE X b (tD G W cf fb)) (hs : PlainIx b) : PE X (.Subscript a b pos) (tD G W cf (eIxF pyIx fa fb)) :=
  PE.le (pe_ix (ix_D hu) ha hb hs) fun τ H Q h => two_D (fun ρ h H v w x y rel rv rw' p => rd_of (H0 := H) rel rv rw' p) h
def tDO (G : Gs) (W : WX) (cf : Cf) (f : Px) : TO := fun τ H Q => ∃ ρ σ h, Rel G ρ h H ∧ RSt ρ H σ τ ∧ Post (fun _ _ a b => a = b) G (fun cls d H' => W cls d τ H') ρ H (f cf σ h) Q
theorem PO.le {e : Option Expr} {t t' : TO} (h : PO X e t) (f : ∀ τ H Q, t' τ H Q → t τ H Q) : PO X e t' := ⟨fun pins s τ H Q I q => h.run pins s τ H Q I (f τ H Q q)⟩
theorem do_none : PO X none (tDO G W cf pNone) := PO.le po_none fun τ H Q ⟨ρ, σ, h, rel, rs, p⟩ => p ρ H none rel (Grow.refl _ _) rfl
theorem do_some (ha : PE X a (tD G W cf fa)) : PO X (some a) (tDO G W cf (pSome fa)) :=
  PO.le (po_some ha) fun τ H Q ⟨ρ, σ, h, rel, rs, p⟩ => Post1 rel rs p fun x H1 ρ1 v h1 rel1 g1 rv p1 => by
    cases rv with
    | int i => exact ⟨i, rfl, p1 ρ1 H1 _ rel1 (Grow.refl _ _) rfl⟩
    | _ => exact p1.elim
theorem cut_rel {ρ : List Addr} {H : Hp} {xs : List Val} {ws : List V} (r : RVs ρ H xs ws) (lo hi : Option Int) : RVs ρ H (cut xs lo hi) (cutV ws lo hi) := by
  unfold cut cutV
  rw [r.length]
  exact (r.drop _).take _
def rSlD (G : Gs) : V → Option Int → Option Int → Hp → VK → Prop := fun x lo hi H Q => ∃ ρ h v r h1, Rel G ρ h H ∧ RV ρ H v x ∧ pySlice v lo hi h = .ok r h1 ∧ ∀ ρ' H' b, Rel G ρ' h1 H' → Grow ρ H ρ' H' → RV ρ' H' r b → Q b H'
theorem sl_D : SlR X (rSlD G) := by
  rintro pins s σ H x v vl vu lo hi sl Q I rx hs pl pu ⟨ρ, h, a, r, h1, rel, ra, e, k⟩
  unfold pySlice at e
  cases ra with
  | @tup xs p ws hp rs =>
    obtain ⟨rfl, rfl⟩ := ok_inj e
    have rc := cut_rel rs lo hi
    refine sl_tupA pins s σ H _ v vl vu lo hi sl Q I rx hs pl pu ⟨p, ws, rfl, SqT.of hp, fun ⟨e1, e2⟩ => ?_, fun _ t ht => ?_⟩
    · have hw : cutV ws lo hi = ws := by
        unfold cutV
        rw [e1, e2]
        simp
      rw [hw] at rc
      exact k ρ H _ rel (Grow.refl _ _) (.tup hp rc)
    · have g : Grow ρ H ρ (upd H t (.tup (cutV ws lo hi))) := grow_upd (by rw [ht]; trivial)
      exact k ρ _ _ (rel.aside ht) g (.tup upd_same (rc.grow g))
  | @ref n p hp =>
    dsimp only at e
    cases q : lstAt h n with
    | none => rw [q] at e; exact bad_ok e
    | some xs =>
      rw [q] at e
      obtain ⟨rfl, rfl⟩ := ok_inj e
      obtain ⟨ws, q1, q2⟩ := rel.lst hp q X.K
      refine sl_list pins s σ H _ v vl vu lo hi sl Q I rx hs pl pu ⟨p, ws, rfl, q1, fun t ht => ?_⟩
      have g : Grow ρ H (ρ ++ [t]) (upd H t (.lst (cutV ws lo hi))) := grow_new ht
      exact k _ _ _ (rel.new ht ⟨_, upd_same, (cut_rel q2 lo hi).grow g⟩) g (.ref (new_at rel))
  | str z =>
    obtain ⟨hc, e⟩ := ite_ok (show (if z.length ≤ line then Out.ok (Val.str (Txt.slice z lo hi)) h else .bad) = Out.ok r h1 from e)
    obtain ⟨rfl, rfl⟩ := ok_inj e
    rw [line_eq] at hc
    exact C8.sl_txt pins s σ H _ v vl vu lo hi sl Q I rx hs pl pu ⟨z, rfl, hc, k ρ H _ rel (Grow.refl _ _) (.str _)⟩
  | _ => exact bad_ok e
theorem de_slice {lo hi : Option Expr} {pl pu : Px} {p2 : Pos} (ha : PE X a (tD G W cf fa)) (hl : PO X lo (tDO G W cf pl)) (hu : PO X hi (tDO G W cf pu)) : PE X (.Subscript a (.Slice lo hi none p2) pos) (tD G W cf (eSlice fa pl pu)) :=
  PE.le (pe_slice sl_D ha hl hu) fun τ H Q ⟨ρ, σ, h, rel, rs, p⟩ => Post1 rel rs p fun x H1 ρ1 v h1 rel1 g1 rv p1 => by
    refine ⟨ρ1, σ, h1, rel1, rs.grow g1, (Post.bind (R1 := fun _ _ a b => a = b) p1).mono fun l H2 ⟨ρ2, l', h2, rel2, g2, el, p2⟩ => ?_⟩
    subst el
    refine ⟨ρ2, σ, h2, rel2, (rs.grow g1).grow g2, (Post.bind (R1 := fun _ _ a b => a = b) p2).mono fun u H3 ⟨ρ3, u', h3, rel3, g3, eu, p3⟩ => ?_⟩
    subst eu
    obtain ⟨r, h4, e, k⟩ := p3.calm
    exact ⟨ρ3, h3, v, r, h4, rel3, (rv.grow g2).grow g3, e, k⟩
end
end Ev

end

section
set_option maxRecDepth 100000
/-! Ev7: built-in functions and methods by values. -/
namespace Ev
open PySem PySem.Spec PyProof.Rows L2

/-! ### what they are -/
def bLen : List Val → M Val := fun vs h => match vs with
  | [.str y] => if y.length ≤ line then .ok (.int y.length) h else .bad
  | [.tup xs] => .ok (.int xs.length) h
  | [.ref n] => match h[n]? with
    | some (.lst xs) => .ok (.int xs.length) h
    | some (.fro xs) => .ok (.int xs.length) h
    | some (.dic kvs) => .ok (.int kvs.length) h
    | _ => .bad
  | _ => .bad
def bInt : List Val → M Val := fun vs h => match vs with
  | [.int i] => .ok (.int i) h
  | [.bl b] => .ok (.int (if b then 1 else 0)) h
  | [.str a] => if a.length ≤ 640 then Out.of ((PySem.intText? a).map .int) h else .bad
  | _ => .bad
def bTuple : List Val → M Val := fun vs h => match vs with
  | [.tup xs] => .ok (.tup xs) h
  | [.ref n] => Out.of ((lstAt h n).map .tup) h
  | _ => .bad
def bList : List Val → M Val := fun vs h => match vs with
  | [.tup xs] => .ok (.ref h.length) (h ++ [.lst xs])
  | [.ref n] => match lstAt h n with
    | some xs => .ok (.ref h.length) (h ++ [.lst xs])
    | none => .bad
  | [.rng lo hi] => if small62 lo && small62 hi && decide ((hi - lo).toNat ≤ 16777216) then .ok (.ref h.length) (h ++ [.lst (rangeVals lo (hi - lo).toNat 1)]) else .bad
  | _ => .bad
/-- range(..) as a value -/
def bRange : List Val → M Val := fun vs h => match vs with
  | [.int j] => .ok (.rng 0 j) h
  | [.int i, .int j] => .ok (.rng i j) h
  | _ => .bad
def bools : List Val → Option (List Bool)
  | [] => some []
  | .bl b :: r => (bools r).map (b :: ·)
  | _ => none
def bAll : List Val → M Val := fun vs h => match vs with
  | [.ref n] => Out.of (((lstAt h n).bind bools).map fun bs => .bl (bs.all id)) h
  | _ => .bad
def bSum : List Val → M Val := fun vs h => match vs with
  | [.ref n] => Out.of (((lstAt h n).bind intsOf).map fun ns => .int ns.sum) h
  | _ => .bad
/-- the least, the greatest of a row -/
def least : List Int → Int → Int
  | [], m => m
  | x :: r, m => least r (if x < m then x else m)
def most : List Int → Int → Int
  | [], m => m
  | x :: r, m => most r (if m < x then x else m)
def bMin : List Val → M Val := fun vs h => match vs with
  | [.ref n] => match (lstAt h n).bind intsOf with
    | some (x :: r) => .ok (.int (least r x)) h
    | _ => .bad
  | [.int i, .int j] => .ok (.int (if j < i then j else i)) h
  | _ => .bad
def bMax : List Val → M Val := fun vs h => match vs with
  | [.ref n] => match (lstAt h n).bind intsOf with
    | some (x :: r) => .ok (.int (most r x)) h
    | _ => .bad
  | [.int i, .int j] => .ok (.int (if j > i then j else i)) h
  | _ => .bad
def putI (x : Int) : List Int → List Int
  | [] => [x]
  | y :: r => if x ≤ y then x :: y :: r else y :: putI x r
def sortI : List Int → List Int
  | [] => []
  | x :: r => putI x (sortI r)
def bSorted : List Val → M Val := fun vs h => match vs with
  | [.ref n] => match (lstAt h n).bind intsOf with
    | some ns => .ok (.ref h.length) (h ++ [.lst ((sortI ns).map .int)])
    | none => .bad
  | _ => .bad
/-- built-in types by name -/
def tyName (v : Val) (h : AH) : Option String := match v with
  | .non => some "NoneType"
  | .bl _ => some "bool"
  | .int _ => some "int"
  | .str _ => some "str"
  | .tup _ => some "tuple"
  | .ref n => match h[n]? with
    | some (.lst _) => some "list"
    | some (.fro _) => some "list"
    | some (.dic _) => some "dict"
    | _ => none
  | .rng _ _ => none
def isTy (t T : String) : Bool := t == T || (t == "bool" && T == "int")
/-- isinstance(x, T), isinstance(x, (T, ..)) -/
def eIsi (Ts : List String) (a : Ex) : Ex := fun cf σ h => (a cf σ h).bind fun x h1 => (Out.of (tyName x h1) h1).bind fun t h2 => .ok (.bl (Ts.any fun T => isTy t T)) h2

/-! ### methods -/
def mAppend : Val → List Val → M Val := fun x vs h => match x, vs with
  | .ref n, [v] => match ownAt h n with
    | some xs => if xs.length < line then .ok .non (h.set n (.lst (xs ++ [v]))) else .bad
    | none => .bad
  | _, _ => .bad
def mPop : Val → List Val → M Val := fun x vs h => match x, vs with
  | .ref n, [] => match ownAt h n with
    | some xs => match xs[xs.length - 1]? with
      | some v => .ok v (h.set n (.lst xs.dropLast))
      | none => .bad
    | none => .bad
  | _, _ => .bad
def isL (x : Val) (h : AH) : Bool := match x with
  | .ref n => (lstAt h n).isSome
  | _ => false
def isD (x : Val) (h : AH) : Bool := match x with
  | .ref n => (dicAt h n).isSome
  | _ => false
/-- a method of a built-in type; ty: the value is of this type -/
def eM (ty : Val → AH → Bool) (f : Val → List Val → M Val) (o : Ex) (r : Ax) : Ex := fun cf σ h => (o cf σ h).bind fun x h1 => if ty x h1 = true then (r cf σ h1).bind fun vs h2 => calm (f x vs h2) else .bad
/-- d.get(k), d.get(k, x) -/
def mGet : Val → List Val → M Val := fun x vs h => match x, vs with
  | .ref n, [k] => match h[n]? with
    | some (.dic kvs) => if fits kvs k then .ok ((dget kvs k).getD .non) h else .bad
    | some (.fdi kvs) => if fitsF kvs k then .ok ((dget kvs k).getD .non) h else .bad
    | _ => .bad
  | .ref n, [k, v] => match h[n]? with
    | some (.dic kvs) => if fits kvs k then .ok ((dget kvs k).getD v) h else .bad
    | some (.fdi kvs) => if fitsF kvs k then .ok ((dget kvs k).getD v) h else .bad
    | _ => .bad
  | _, _ => .bad

/-! ### what they do -/
def rB (G : Gs) (f : List Val → M Val) : List V → Hp → VK → Prop := fun xs H Q => ∃ ρ h vs r h1, Rel G ρ h H ∧ RVs ρ H vs xs ∧ f vs h = .ok r h1 ∧ ∀ ρ' H' b, Rel G ρ' h1 H' → Grow ρ H ρ' H' → RV ρ' H' r b → Q b H'
def rM (G : Gs) (f : Val → List Val → M Val) : V → List V → Hp → VK → Prop := fun x xs H Q => ∃ ρ h v vs r h1, Rel G ρ h H ∧ RV ρ H v x ∧ RVs ρ H vs xs ∧ f v vs h = .ok r h1 ∧ ∀ ρ' H' b, Rel G ρ' h1 H' → Grow ρ H ρ' H' → RV ρ' H' r b → Q b H'
section
variable {ρ : List Addr} {H : Hp}
theorem small62_ok {i : Int} (h : small62 i = true) : -(2 ^ 62) ≤ i ∧ i < 2 ^ 62 := by
  unfold small62 at h
  rw [Bool.and_eq_true] at h
  exact ⟨of_decide_eq_true h.1, of_decide_eq_true h.2⟩
theorem RVs.one {v : Val} {xs : List V} (r : RVs ρ H [v] xs) : ∃ x, xs = [x] ∧ RV ρ H v x := by
  cases r with
  | cons a b => cases b; exact ⟨_, rfl, a⟩
theorem RVs.two {v w : Val} {xs : List V} (r : RVs ρ H [v, w] xs) : ∃ x y, xs = [x, y] ∧ RV ρ H v x ∧ RV ρ H w y := by
  cases r with
  | cons a b =>
    cases b with
    | cons c d => cases d; exact ⟨_, _, rfl, a, c⟩
theorem RVs.none' {xs : List V} (r : RVs ρ H [] xs) : xs = [] := by cases r; rfl
theorem RVs.bls : ∀ {xs : List Val} {ws : List V} {bs : List Bool}, RVs ρ H xs ws → bools xs = some bs → ws = bs.map V.bl
  | _, _, _, .nil, e => by simp [bools] at e; subst e; rfl
  | x :: xs, w :: ws, bs, .cons r t, e => by
    cases r with
    | bl i =>
      rw [bools] at e
      cases q : bools xs with
      | none => rw [q] at e; cases e
      | some ms =>
        rw [q] at e
        have e' : i :: ms = bs := Option.some.inj e
        subst e'
        rw [RVs.bls t q] <;> rfl
    | _ => simp [bools] at e
theorem RVs.ofInts : ∀ ns : List Int, RVs ρ H (ns.map .int) (ns.map V.int)
  | [] => .nil
  | i :: ns => .cons (.int i) (RVs.ofInts ns)
end
theorem putI_perm (x : Int) : ∀ l : List Int, (putI x l).Perm (x :: l)
  | [] => .refl _
  | y :: r => by
    unfold putI
    split
    · exact .refl _
    · exact ((putI_perm x r).cons y).trans (.swap x y r)
theorem sortI_perm : ∀ l : List Int, (sortI l).Perm l
  | [] => .refl _
  | x :: r => (putI_perm x (sortI r)).trans ((sortI_perm r).cons x)
theorem putI_sorted (x : Int) : ∀ {l : List Int}, l.Pairwise (· ≤ ·) → (putI x l).Pairwise (· ≤ ·)
  | [], _ => by simp [putI]
  | y :: r, h => by
    rw [List.pairwise_cons] at h
    unfold putI
    split
    · rename_i hxy
      rw [List.pairwise_cons]
      refine ⟨fun z hz => ?_, List.pairwise_cons.mpr h⟩
      rcases List.mem_cons.mp hz with e | e
      · rw [e]; exact hxy
      · exact Int.le_trans hxy (h.1 z e)
    · rename_i hxy
      rw [List.pairwise_cons]
      refine ⟨fun z hz => ?_, putI_sorted x h.2⟩
      rcases List.mem_cons.mp ((putI_perm x r).mem_iff.mp hz) with e | e
      · rw [e]; omega
      · exact h.1 z e
theorem sortI_sorted : ∀ l : List Int, (sortI l).Pairwise (· ≤ ·)
  | [] => .nil
  | x :: r => putI_sorted x (sortI_sorted r)
theorem least_spec : ∀ (l : List Int) (m : Int), least l m ∈ m :: l ∧ ∀ y ∈ m :: l, least l m ≤ y
  | [], m => ⟨by simp [least], by simp [least]⟩
  | x :: r, m => by
    obtain ⟨h1, h2⟩ := least_spec r (if x < m then x else m)
    unfold least
    refine ⟨?_, fun y hy => ?_⟩
    · rcases List.mem_cons.mp h1 with e | e
      · rw [e]; split <;> simp
      · simp [e]
    · have h3 := h2 _ List.mem_cons_self
      have h4 : (if x < m then x else m) ≤ x ∧ (if x < m then x else m) ≤ m := by split <;> omega
      rcases List.mem_cons.mp hy with e | e
      · rw [e]; omega
      · rcases List.mem_cons.mp e with e | e
        · rw [e]; omega
        · exact h2 y (List.mem_cons_of_mem _ e)
theorem most_spec : ∀ (l : List Int) (m : Int), most l m ∈ m :: l ∧ ∀ y ∈ m :: l, y ≤ most l m
  | [], m => ⟨by simp [most], by simp [most]⟩
  | x :: r, m => by
    obtain ⟨h1, h2⟩ := most_spec r (if m < x then x else m)
    unfold most
    refine ⟨?_, fun y hy => ?_⟩
    · rcases List.mem_cons.mp h1 with e | e
      · rw [e]; split <;> simp
      · simp [e]
    · have h3 := h2 _ List.mem_cons_self
      have h4 : x ≤ (if m < x then x else m) ∧ m ≤ (if m < x then x else m) := by split <;> omega
      rcases List.mem_cons.mp hy with e | e
      · rw [e]; omega
      · rcases List.mem_cons.mp e with e | e
        · rw [e]; omega
        · exact h2 y (List.mem_cons_of_mem _ e)
section
variable {X : Cx} {G : Gs}
theorem b_len : CallR X (.builtin "len") (rB G bLen) := by
  rintro pins s σ H xs us Q I rv ⟨ρ, h, vs, r, h1, rel, rvs, e, k⟩
  have fin : ∀ {x : V} {n : Nat}, xs = [x] → LenV X.K x H n → r = .int n → h1 = h → wpAny (model X.prog X.w) X.A (call (.builtin "len") us) (EP X pins σ Q) X.xe s := fun {x n} ex hl er eh => by
    subst er eh
    exact call_len pins s σ H xs us Q I rv ⟨x, n, ex, hl, k ρ H _ rel (Grow.refl _ _) (.int _)⟩
  unfold bLen at e
  split at e
  · obtain ⟨hc, e⟩ := ite_ok e
    obtain ⟨x, rfl, q⟩ := rvs.one
    cases q
    obtain ⟨e1, e2⟩ := ok_inj e
    rw [line_eq] at hc
    exact fin rfl ⟨hc, rfl⟩ e1.symm e2.symm
  · obtain ⟨x, rfl, q⟩ := rvs.one
    cases q with
    | @tup ys p ws hp rs =>
      obtain ⟨e1, e2⟩ := ok_inj e
      rw [rs.length] at e1
      exact fin rfl (.inr ⟨ws, SqT.of hp, rfl⟩) e1.symm e2.symm
  · rename_i n
    obtain ⟨x, rfl, q⟩ := rvs.one
    cases q with
    | @ref _ p hp =>
      obtain ⟨o, ho, qo⟩ := rel.there hp
      simp only [ho] at e
      cases o with
      | lst ys =>
        obtain ⟨ws, q1, q2⟩ := qo
        obtain ⟨e1, e2⟩ := ok_inj (show Out.ok (Val.int ys.length) h = _ from e)
        rw [q2.length] at e1
        exact fin rfl (.inl ⟨ws, SqL.of q1, rfl⟩) e1.symm e2.symm
      | fro ys =>
        obtain ⟨o', ws, q1, q2⟩ := qo
        obtain ⟨e1, e2⟩ := ok_inj (show Out.ok (Val.int ys.length) h = _ from e)
        rw [q2.length] at e1
        exact fin rfl (.inl ⟨ws, .inl (.inr ⟨o', q1⟩), rfl⟩) e1.symm e2.symm
      | dic kvs =>
        obtain ⟨e1, e2⟩ := ok_inj (show Out.ok (Val.int kvs.length) h = _ from e)
        subst e1 e2
        obtain ⟨u, rfl, ru⟩ := vals1 rv
        cases ru
        rcases qo with ⟨ks, q1, q2⟩ | ⟨ks, q1, q2⟩
        · refine d_len I (.inl q1) fun t s' I' => ⟨.int ks.length, H, I', ⟨t, rfl⟩, ?_⟩
          rw [← Paired.length q2]
          exact k ρ H _ rel (Grow.refl _ _) (.int _)
        · refine call_len_dT pins s σ H [.ref p] _ Q I rv ⟨p, ks, rfl, q1, ?_⟩
          rw [← Paired.length q2]
          exact k ρ H _ rel (Grow.refl _ _) (.int _)
      | _ => exact bad_ok e
  · exact bad_ok e
theorem b_int : CallR X (.type "int") (rB G bInt) := by
  rintro pins s σ H xs us Q I rv ⟨ρ, h, vs, r, h1, rel, rvs, e, k⟩
  unfold bInt at e
  split at e
  · obtain ⟨x, rfl, q⟩ := rvs.one
    cases q
    obtain ⟨rfl, rfl⟩ := ok_inj e
    exact call_int1 pins s σ H _ us Q I rv (.inl ⟨_, rfl, k ρ H _ rel (Grow.refl _ _) (.int _)⟩)
  · obtain ⟨x, rfl, q⟩ := rvs.one
    cases q
    obtain ⟨rfl, rfl⟩ := ok_inj e
    exact call_int1 pins s σ H _ us Q I rv (.inr ⟨_, rfl, k ρ H _ rel (Grow.refl _ _) (.int _)⟩)
  · rename_i a
    obtain ⟨hc, e⟩ := ite_ok e
    obtain ⟨x, rfl, q⟩ := rvs.one
    cases q
    obtain ⟨e1, e2⟩ := of_ok e
    subst e2
    cases q : PySem.intText? a with
    | none => rw [q] at e1; cases e1
    | some n =>
      rw [q] at e1
      cases e1
      exact call_int_str pins s σ H _ us Q I rv ⟨a, n, rfl, q, hc, k ρ H _ rel (Grow.refl _ _) (.int _)⟩
  · exact bad_ok e
theorem b_tuple : CallR X (.type "tuple") (rB G bTuple) := by
  rintro pins s σ H xs us Q I rv ⟨ρ, h, vs, r, h1, rel, rvs, e, k⟩
  unfold bTuple at e
  split at e
  · obtain ⟨x, rfl, q⟩ := rvs.one
    cases q with
    | @tup ys p ws hp rs =>
      obtain ⟨rfl, rfl⟩ := ok_inj e
      exact call_tuple_of pins s σ H _ us Q I rv ⟨p, ws, rfl, .inr ⟨SqT.of hp, k ρ H _ rel (Grow.refl _ _) (.tup hp rs)⟩⟩
  · rename_i n
    obtain ⟨x, rfl, q⟩ := rvs.one
    cases q with
    | @ref _ p hp =>
      obtain ⟨e1, e2⟩ := of_ok e
      subst e2
      cases q : lstAt h n with
      | none => rw [q] at e1; cases e1
      | some ys =>
        rw [q] at e1
        cases e1
        obtain ⟨ws, q1, q2⟩ := rel.lst hp q X.K
        refine call_tuple_of pins s σ H _ us Q I rv ⟨p, ws, rfl, .inl ⟨q1, fun l hl => ?_⟩⟩
        have g : Grow ρ H ρ (upd H l (.tup ws)) := grow_upd (by rw [hl]; trivial)
        exact k ρ _ _ (rel.aside hl) g (.tup upd_same (q2.grow g))
  · exact bad_ok e
theorem rng_obj {ρ : List Addr} {p : Addr} {lo hi : Int} (I : Inv X pins σ H s) (hp : H p = some (.rng lo hi)) : ∃ t u v, IsRange s.heap p lo hi 1 t u v := I.hok p _ hp
theorem rgs_rel {ρ : List Addr} {H : Hp} (a b : Int) : RVs ρ H (rangeVals a (b - a).toNat 1) (rgV a b) := by
  unfold rangeVals rgV
  generalize List.range (b - a).toNat = l
  induction l with
  | nil => exact .nil
  | cons n l ih =>
    rw [List.map_cons, List.map_cons, Int.mul_one]
    exact .cons (.int _) ih
theorem b_range : CallR X (.type "range") (rB G bRange) := by
  rintro pins s σ H xs us Q I rv ⟨ρ, h, vs, r, h1, rel, rvs, e, k⟩
  unfold bRange at e
  split at e
  · rename_i j
    obtain ⟨x, rfl, q⟩ := rvs.one
    cases q
    obtain ⟨u, rfl, ru⟩ := vals1 rv
    obtain ⟨t, rfl⟩ := ru
    obtain ⟨rfl, rfl⟩ := ok_inj e
    have hn : H s.heap.objs.size = none := I.hok.fresh (Nat.le_refl _)
    have g : Grow ρ H ρ (upd H s.heap.objs.size (.rng 0 j)) := grow_upd (by rw [hn]; trivial)
    refine call_range_1 ⟨.ref s.heap.objs.size, upd H s.heap.objs.size (.rng 0 j), I.laid (t' := s.toks + 2) (fun b o e => Heap.get?_push_of_some _ e) (Nat.le_refl _) ?_, rfl, k ρ _ _ (rel.aside hn) g (.rng upd_same)⟩
    exact ⟨_, _, _, Heap.get?_push_size _ rfl⟩
  · rename_i i j
    obtain ⟨x, y, rfl, q1, q2⟩ := rvs.two
    cases q1
    cases q2
    obtain ⟨rfl, rfl⟩ := ok_inj e
    refine cr_range2 pins s σ H _ us Q I rv ⟨i, j, rfl, fun p hp => ?_⟩
    have g : Grow ρ H ρ (upd H p (.rng i j)) := grow_upd (by rw [hp]; trivial)
    exact k ρ _ _ (rel.aside hp) g (.rng upd_same)
  · exact bad_ok e
theorem b_list (hc : X.calm = true) : CallR X (.type "list") (rB G bList) := by
  rintro pins s σ H xs us Q I rv ⟨ρ, h, vs, r, h1, rel, rvs, e, k⟩
  have fin : ∀ {p : Addr} {ws : List V} {ys : List Val}, xs = [.ref p] → (SqL X.K H p ws ∨ SqT X.K H p ws) → RVs ρ H ys ws → Out.ok (Val.ref h.length) (h ++ [.lst ys]) = .ok r h1 →
      wpAny (model X.prog X.w) X.A (call (.type "list") us) (EP X pins σ Q) X.xe s := fun {p ws ys} ex hq rs e => by
    obtain ⟨e1, e2⟩ := ok_inj e
    subst e1 e2
    refine call_list_of pins s σ H xs us Q I rv ⟨p, ws, ex, hq, fun l hl => ?_⟩
    have g : Grow ρ H (ρ ++ [l]) (upd H l (.lst ws)) := grow_new hl
    exact k _ _ _ (rel.new hl ⟨ws, upd_same, rs.grow g⟩) g (.ref (new_at rel))
  unfold bList at e
  split at e
  · obtain ⟨x, rfl, q⟩ := rvs.one
    cases q with
    | @tup ys p ws hp rs => exact fin rfl (.inr (SqT.of hp)) rs e
  · rename_i n
    obtain ⟨x, rfl, q⟩ := rvs.one
    cases q with
    | @ref _ p hp =>
      cases q : lstAt h n with
      | none => rw [q] at e; exact bad_ok e
      | some ys =>
        rw [q] at e
        obtain ⟨ws, q1, q2⟩ := rel.lst hp q X.K
        exact fin rfl (.inl q1) q2 e
  · rename_i lo hi
    obtain ⟨x, rfl, q⟩ := rvs.one
    cases q with
    | @rng _ _ p hp =>
      obtain ⟨c, e⟩ := ite_ok e
      obtain ⟨rfl, rfl⟩ := ok_inj e
      rw [Bool.and_eq_true, Bool.and_eq_true] at c
      obtain ⟨⟨c1, c2⟩, c3⟩ := c
      have b1 := small62_ok c1
      have b2 := small62_ok c2
      have b3 := of_decide_eq_true c3
      obtain ⟨u, rfl, ru⟩ := vals1 rv
      cases ru
      obtain ⟨t, u, v, hr⟩ := rng_obj (ρ := ρ) I hp
      refine call_list_range (n := (hi - lo).toNat) (I.ok.hd hc) hr (small_one b1.1 b1.2 b2.1 b2.2) (rangeSize_nat lo hi) b3 fun h' tk acc c' hk e' hit => ?_
      have hn : H s.heap.objs.size = none := I.hok.fresh (Nat.le_refl _)
      have g : Grow ρ H (ρ ++ [s.heap.objs.size]) (upd H s.heap.objs.size (.lst (rgV lo hi))) := grow_new hn
      refine ⟨.ref s.heap.objs.size, upd H s.heap.objs.size (.lst (rgV lo hi)), I.laid hk (Nat.le_refl _) (show ObjOk X.prog X.w _ _ _ (.lst (rgV lo hi)) from ⟨?_, acc.toList, c', vals_rg hit, ?_⟩), rfl, k _ _ _ (rel.new hn ⟨_, upd_same, rgs_rel lo hi⟩) g (.ref (new_at rel))⟩
      · rw [rgV_length, sizeLine_eq]; omega
      · rw [Array.toArray_toList]; exact e'
  · exact bad_ok e
theorem b_all (hc : X.calm = true) : CallR X (.builtin "all") (rB G bAll) := by
  rintro pins s σ H xs us Q I rv ⟨ρ, h, vs, r, h1, rel, rvs, e, k⟩
  unfold bAll at e
  split at e
  · rename_i n
    obtain ⟨x, rfl, q⟩ := rvs.one
    cases q with
    | @ref _ p hp =>
      obtain ⟨e1, e2⟩ := of_ok e
      subst e2
      cases q : lstAt h n with
      | none => rw [q] at e1; cases e1
      | some ys =>
        rw [q] at e1
        have e1 : (bools ys).map (fun bs => Val.bl (bs.all id)) = some r := e1
        cases q2 : bools ys with
        | none => rw [q2] at e1; cases e1
        | some bs =>
          rw [q2] at e1
          cases e1
          obtain ⟨ws, q3, q4⟩ := rel.lst hp q X.K
          rw [q4.bls q2] at q3
          exact cr_all hc pins s σ H _ us Q I rv ⟨p, bs, rfl, q3, k ρ H _ rel (Grow.refl _ _) (.bl _)⟩
  · exact bad_ok e
theorem b_sum (hc : X.calm = true) : CallR X (.builtin "sum") (rB G bSum) := by
  rintro pins s σ H xs us Q I rv ⟨ρ, h, vs, r, h1, rel, rvs, e, k⟩
  unfold bSum at e
  split at e
  · rename_i n
    obtain ⟨x, rfl, q⟩ := rvs.one
    cases q with
    | @ref _ p hp =>
      obtain ⟨e1, e2⟩ := of_ok e
      subst e2
      cases q : lstAt h n with
      | none => rw [q] at e1; cases e1
      | some ys =>
        rw [q] at e1
        have e1 : (intsOf ys).map (fun bs => Val.int bs.sum) = some r := e1
        cases q2 : intsOf ys with
        | none => rw [q2] at e1; cases e1
        | some bs =>
          rw [q2] at e1
          cases e1
          obtain ⟨ws, q3, q4⟩ := rel.lst hp q X.K
          rw [q4.ints q2] at q3
          exact cr_sum hc pins s σ H _ us Q I rv ⟨p, bs, rfl, q3, k ρ H _ rel (Grow.refl _ _) (.int _)⟩
  · exact bad_ok e
theorem ints_at {h : AH} {ρ : List Addr} {H : Hp} (rel : Rel G ρ h H) {n : Nat} {p : Addr} {ns : List Int} (hp : ρ[n]? = some p) (e : (lstAt h n).bind intsOf = some ns) (K : PySem.W.Frag) : SqL K H p (ns.map V.int) := by
  cases q : lstAt h n with
  | none => rw [q] at e; cases e
  | some ys =>
    rw [q] at e
    obtain ⟨ws, q3, q4⟩ := rel.lst hp q K
    rw [q4.ints (show intsOf ys = some ns from e)] at q3
    exact q3
theorem b_min (hc : X.calm = true) : CallR X (.builtin "min") (rB G bMin) := by
  rintro pins s σ H xs us Q I rv ⟨ρ, h, vs, r, h1, rel, rvs, e, k⟩
  unfold bMin at e
  split at e
  · rename_i n
    obtain ⟨x, rfl, q⟩ := rvs.one
    cases q with
    | @ref _ p hp =>
      split at e
      · rename_i z l hz
        obtain ⟨rfl, rfl⟩ := ok_inj e
        refine cr_min hc pins s σ H _ us Q I rv ⟨p, z :: l, rfl, ints_at rel hp hz X.K, by simp, fun m m1 m2 => ?_⟩
        have hm : m = least l z := Int.le_antisymm (m2 _ (least_spec l z).1) ((least_spec l z).2 m m1)
        rw [hm]
        exact k ρ H _ rel (Grow.refl _ _) (.int _)
      · exact bad_ok e
  · obtain ⟨x, y, rfl, q1, q2⟩ := rvs.two
    cases q1
    cases q2
    obtain ⟨rfl, rfl⟩ := ok_inj e
    exact call_min2 hc pins s σ H _ us Q I rv ⟨_, _, rfl, k ρ H _ rel (Grow.refl _ _) (.int _)⟩
  · exact bad_ok e
theorem b_max (hc : X.calm = true) : CallR X (.builtin "max") (rB G bMax) := by
  rintro pins s σ H xs us Q I rv ⟨ρ, h, vs, r, h1, rel, rvs, e, k⟩
  unfold bMax at e
  split at e
  · rename_i n
    obtain ⟨x, rfl, q⟩ := rvs.one
    cases q with
    | @ref _ p hp =>
      split at e
      · rename_i z l hz
        obtain ⟨rfl, rfl⟩ := ok_inj e
        refine cr_max hc pins s σ H _ us Q I rv ⟨p, z :: l, rfl, ints_at rel hp hz X.K, by simp, fun m m1 m2 => ?_⟩
        have hm : m = most l z := Int.le_antisymm ((most_spec l z).2 m m1) (m2 _ (most_spec l z).1)
        rw [hm]
        exact k ρ H _ rel (Grow.refl _ _) (.int _)
      · exact bad_ok e
  · obtain ⟨x, y, rfl, q1, q2⟩ := rvs.two
    cases q1
    cases q2
    obtain ⟨rfl, rfl⟩ := ok_inj e
    exact call_max2 hc pins s σ H _ us Q I rv ⟨_, _, rfl, k ρ H _ rel (Grow.refl _ _) (.int _)⟩
  · exact bad_ok e
theorem b_sorted : CallR X (.builtin "sorted") (rB G bSorted) := by
  rintro pins s σ H xs us Q I rv ⟨ρ, h, vs, r, h1, rel, rvs, e, k⟩
  unfold bSorted at e
  split at e
  · rename_i n
    obtain ⟨x, rfl, q⟩ := rvs.one
    cases q with
    | @ref _ p hp =>
      cases q : (lstAt h n).bind intsOf with
      | none => rw [q] at e; exact bad_ok e
      | some ns =>
        rw [q] at e
        obtain ⟨rfl, rfl⟩ := ok_inj e
        refine cr_sortedI pins s σ H _ us Q I rv ⟨p, ns, rfl, ints_at rel hp q X.K, fun ns' l h1 h2 hl => ?_⟩
        have en : ns' = sortI ns := PySem.W.ksm_same (h1.trans (sortI_perm ns).symm) h2 (sortI_sorted ns)
        rw [en]
        have g : Grow ρ H (ρ ++ [l]) (upd H l (.lst ((sortI ns).map V.int))) := grow_new hl
        exact k _ _ _ (rel.new hl ⟨_, upd_same, RVs.ofInts _⟩) g (.ref (new_at rel))
  · exact bad_ok e
theorem ty_ok {K : PySem.W.Frag} {ρ : List Addr} {h : AH} {H : Hp} {v : Val} {x : V} {t : String} (rel : Rel G ρ h H) (r : RV ρ H v x) (e : tyName v h = some t) : TyX K H x (.type t) ∧ t ∈ ["NoneType", "bool", "int", "str", "tuple", "list", "dict"] := by
  cases r with
  | non => cases e; exact ⟨.base .non, by simp⟩
  | bl b => cases e; exact ⟨.base (.bl b), by simp⟩
  | int i => cases e; exact ⟨.base (.int i), by simp⟩
  | str y => cases e; exact ⟨.base (.str y), by simp⟩
  | tup hp rs => cases e; exact ⟨.base (.tup hp), by simp⟩
  | @ref n p hp =>
    obtain ⟨o, ho, qo⟩ := rel.there hp
    unfold tyName at e
    simp only [ho] at e
    cases o with
    | lst ys => obtain ⟨ws, q1, q2⟩ := qo; cases e; exact ⟨.base (.lst q1), by simp⟩
    | fro ys => obtain ⟨o', ws, q1, q2⟩ := qo; cases e; exact ⟨.base (.frz q1), by simp⟩
    | dic kvs =>
      cases e
      rcases qo with ⟨ks, q1, q2⟩ | ⟨ks, q1, q2⟩
      · exact ⟨.base (.dK q1), by simp⟩
      · exact ⟨.base (.dT q1), by simp⟩
    | _ => cases e
  | rng _ => cases e
/-- the classes that are asked for -/
def askTys : List String := ["bool", "int", "str", "tuple", "list"]
theorem kit_all {K : PySem.W.Frag} {t T : String} (ht : t ∈ ["NoneType", "bool", "int", "str", "tuple", "list", "dict"]) (hT : T ∈ askTys) : PySem.W.kitOne K (.type t) (.type T) = some (isTy t T) := by
  have all : (["NoneType", "bool", "int", "str", "tuple", "list", "dict"].all fun t => askTys.all fun T => decide (kitB t T = some (isTy t T))) = true := by decide +kernel
  have h1 := List.all_eq_true.mp (List.all_eq_true.mp all t ht) T hT
  exact kit_ty (of_decide_eq_true h1)
theorem kit_any {K : PySem.W.Frag} {t : String} (ht : t ∈ ["NoneType", "bool", "int", "str", "tuple", "list", "dict"]) : ∀ {Ts : List String}, (∀ T ∈ Ts, T ∈ askTys) → PySem.W.kitAny K (.type t) (Ts.map .type) = some (Ts.any fun T => isTy t T)
  | [], _ => kitAny_nil
  | T :: Ts, h => by
    have h1 := kit_all (K := K) ht (h T List.mem_cons_self)
    have h2 := kit_any (K := K) ht (Ts := Ts) fun T hT => h T (List.mem_cons_of_mem _ hT)
    rw [List.any_cons]
    exact kitAny_cons h1 (fun e => by rw [e, Bool.false_or]; exact h2) fun e => by rw [e, Bool.true_or]

/-! ### methods -/
theorem isL_ty {K : PySem.W.Frag} {ρ : List Addr} {h : AH} {H : Hp} {v : Val} {x : V} (rel : Rel G ρ h H) (r : RV ρ H v x) (e : isL v h = true) : tyV K "list" x H := by
  cases r with
  | @ref n p hp =>
    obtain ⟨xs, hx⟩ := Option.isSome_iff_exists.mp (show (lstAt h n).isSome = true from e)
    obtain ⟨ws, q, _⟩ := rel.lst hp hx K
    exact .inl ⟨rfl, ws, q⟩
  | _ => cases e
theorem m_append : MtR X "list.append" (rM G mAppend) := by
  rintro pins s σ H x xs v us Q I rx rv ⟨ρ, h, a, vs, r, h1, rel, ra, rvs, e, k⟩
  unfold mAppend at e
  split at e
  · rename_i n w
    cases ra with
    | @ref _ p hp =>
      obtain ⟨y, rfl, q⟩ := rvs.one
      cases q1 : ownAt h n with
      | none => rw [q1] at e; exact bad_ok e
      | some zs =>
        rw [q1] at e
        obtain ⟨hc, e⟩ := ite_ok e
        obtain ⟨rfl, rfl⟩ := ok_inj e
        obtain ⟨_, ws, a1, a2⟩ := rel.own hp q1
        rw [line_eq, a2.length] at hc
        refine mt_append pins s σ H _ _ v us Q I rx rv ⟨p, ws, y, rfl, rfl, a1, hc, ?_⟩
        have g : Grow ρ H ρ (upd H p (.lst (ws ++ [y]))) := grow_upd (by rw [a1]; trivial)
        exact k ρ _ _ (rel.write hp (by rw [a1]; trivial) ⟨_, upd_same, (a2.append (.cons q .nil)).grow g⟩) g .non
  · exact bad_ok e
theorem m_pop : MtR X "list.pop" (rM G mPop) := by
  rintro pins s σ H x xs v us Q I rx rv ⟨ρ, h, a, vs, r, h1, rel, ra, rvs, e, k⟩
  unfold mPop at e
  split at e
  · rename_i n
    cases ra with
    | @ref _ p hp =>
      cases q1 : ownAt h n with
      | none => rw [q1] at e; exact bad_ok e
      | some zs =>
        rw [q1] at e
        dsimp only at e
        cases q2 : zs[zs.length - 1]? with
        | none => rw [q2] at e; exact bad_ok e
        | some z =>
          rw [q2] at e
          obtain ⟨rfl, rfl⟩ := ok_inj e
          obtain ⟨_, ws, a1, a2⟩ := rel.own hp q1
          obtain ⟨w, b1, b2⟩ := a2.get q2
          rw [a2.length] at b1
          refine mt_pop pins s σ H _ _ v us Q I rx rv ⟨p, ws, w, rfl, rvs.none', a1, b1, ?_⟩
          have g : Grow ρ H ρ (upd H p (.lst ws.dropLast)) := grow_upd (by rw [a1]; trivial)
          exact k ρ _ _ (rel.write hp (by rw [a1]; trivial) ⟨_, upd_same, a2.dropLast.grow g⟩) g (b2.grow g)
  · exact bad_ok e
end
end Ev

end

section
set_option maxRecDepth 100000
/-! Ev8: calls. -/
namespace Ev
open PySem PySem.Spec PyProof.Rows L2

/-- o.m(..) of an own class: tab tells, by the class, which function -/
def eMeth (m : Str) (tab : List (Str × Nat)) (o : Ex) (r : Ax) : Ex := fun cf σ h => (o cf σ h).bind fun x h1 => match x with
  | .ref n => match insAt h1 n with
    | some (c, fs) => match tab.lookup c with
      | some i => if (fs.lookup m).isNone = true then (r cf σ h1).bind fun vs h2 => cf i (.ref n :: vs) h2 else .bad
      | none => .bad
    | none => .bad
  | _ => .bad
/-- C(..): an own class with the __init__ i -/
def eMake (c : Str) (i : Nat) (r : Ax) : Ex := fun cf σ h => (r cf σ h).bind fun vs h1 => (cf i (.ref h1.length :: vs) (h1 ++ [.ins c []])).bind fun v h2 => match v with
  | .non => .ok (.ref h1.length) h2
  | _ => .bad
theorem boot_isi : bootBuiltins ("isinstance" : Str) = some (.builtin "isinstance") := by decide +kernel
/-- what the i-th function promises -/
def spC (G : Gs) (cf : Cf) (i n : Nat) : Sp := fun ws H Q E => ∃ ρ h vs, Rel G ρ h H ∧ RVs ρ H vs ws ∧ vs.length = n ∧ Post RV G E ρ H (cf i vs h) Q
/-- what is known of the i-th function in a body: it stands at f -/
structure FnAt (G : Gs) (cf : Cf) (X : Cx) (k i : Nat) (f : Addr) : Prop where
  ex : ∃ (fd : FuncData) (ps : List Str), FnOk X.prog X.w X.K X.mg X.base (L2.CX X.prog X.w) k f fd ps (spC G cf i ps.length) ∧ Binds X.K fd ps [] ∧ ∀ vs h, vs.length ≠ ps.length → cf i vs h = .bad
  kp : PySem.W.keepIn X.K (.ref f) = true
section
variable {X : Cx} {G : Gs} {W : WX} {cf : Cf} {a o : Expr} {fa fo : Ex} {pos p apos : Pos} {es : List Expr} {ra : Ax} {x : Str} {k i : Nat} {f : Addr}
theorem len_of {np : Nat} {ρ : List Addr} {H : Hp} {h : AH} {vs : List Val} {Q : VK} {E : XK} (hl : ∀ vs h, vs.length ≠ np → cf i vs h = .bad) (p : Post RV G E ρ H (cf i vs h) Q) : vs.length = np := by
  by_cases e : vs.length = np
  · exact e
  · rw [hl vs h e] at p
    exact p.elim
theorem de_call (F : FnAt G cf X k i f) (hr : Room k X.A) (hg : Gl X x) (hm : X.mg x = some (.ref f)) (tk : Takes X W) (hd : (x == ("__debug__" : Str)) = false) (hp : (a :: es).all plainArg = true) (ha : PA X (a :: es) (tDA G W cf ra)) :
    PE X (.Call (.Name x p) (a :: es) [] pos) (tD G W cf (eCall i ra)) := by
  obtain ⟨fd, ps, F1, F2, F3⟩ := F.ex
  rw [List.all_cons, Bool.and_eq_true] at hp
  exact PE.le (pe_callS F1 hr hg hm F.kp F2 (fun σ => passAt tk σ) ha hd (star_cons hp.1) (star_any hp.2)) fun τ H Q ⟨ρ, σ, h, rel, rs, q⟩ => PostA rel rs q fun xs H1 ρ1 vs h1 rel1 g1 rvs p1 =>
    ⟨ρ1, h1, vs, rel1, rvs, len_of F3 p1, p1⟩
theorem de_call0 (F : FnAt G cf X k i f) (hr : Room k X.A) (hg : Gl X x) (hm : X.mg x = some (.ref f)) (tk : Takes X W) (hd : (x == ("__debug__" : Str)) = false) :
    PE X (.Call (.Name x p) [] [] pos) (tD G W cf (eCall i aNil)) := by
  obtain ⟨fd, ps, F1, F2, F3⟩ := F.ex
  refine ⟨fun pins s τ H Q I ⟨ρ, σ, h, rel, rs, q⟩ => ?_⟩
  refine wpAny_Call_Name_kw (ld_glob I hg hm ?_ hd)
  have q : Post RV G (fun cls d H' => W cls d τ H') ρ H (cf i [] h) Q := q
  exact PySem.W.callWith_K0 I.kIn F.kp (run_fnS (E := WE W) (us := []) (vs := []) F1 hr F2 (passAt tk τ) I .nil ⟨ρ, h, [], rel, .nil, len_of F3 q, q⟩)
/-- a built-in function -/
theorem de_callB {id : String} {g : List Val → M Val} (hc : CallR X (.builtin id) (rB G g)) (hg : Gl X x) (hm : X.mg x = none) (hv : bootBuiltins x = some (.builtin id)) (hn : x ≠ "__name__") (hd : (x == ("__debug__" : Str)) = false) (hp : (a :: es).all plainArg = true) (ha : PA X (a :: es) (tDA G W cf ra)) :
    PE X (.Call (.Name x p) (a :: es) [] pos) (tD G W cf (eB g ra)) := by
  rw [List.all_cons, Bool.and_eq_true] at hp
  exact PE.le (pe_callB hc hg hm hv ha hn hd (star_cons hp.1) (star_any hp.2)) fun τ H Q ⟨ρ, σ, h, rel, rs, q⟩ => PostA rel rs q fun xs H1 ρ1 vs h1 rel1 g1 rvs p1 => by
    obtain ⟨r, h2, e, kk⟩ := p1.calm
    exact ⟨ρ1, h1, vs, r, h2, rel1, rvs, e, kk⟩
theorem de_callTy {T : String} {g : List Val → M Val} (hc : CallR X (.type T) (rB G g)) (hg : Gl X x) (hm : X.mg x = none) (hv : bootBuiltins x = some (.type T)) (hn : x ≠ "__name__") (hd : (x == ("__debug__" : Str)) = false) (hp : (a :: es).all plainArg = true) (ha : PA X (a :: es) (tDA G W cf ra)) :
    PE X (.Call (.Name x p) (a :: es) [] pos) (tD G W cf (eB g ra)) := by
  rw [List.all_cons, Bool.and_eq_true] at hp
  exact PE.le (pe_callTy hc hg hm hv ha hn hd (star_cons hp.1) (star_any hp.2)) fun τ H Q ⟨ρ, σ, h, rel, rs, q⟩ => PostA rel rs q fun xs H1 ρ1 vs h1 rel1 g1 rvs p1 => by
    obtain ⟨r, h2, e, kk⟩ := p1.calm
    exact ⟨ρ1, h1, vs, r, h2, rel1, rvs, e, kk⟩
/-- a built-in type's name -/
structure TyAt (X : Cx) (x : Str) (T : String) : Prop where
  gl : Gl X x
  free : X.mg x = none
  boot : bootBuiltins x = some (.type T)
  nn : x ≠ "__name__"
  nd : (x == ("__debug__" : Str)) = false
theorem TyAt.pe {T : String} (t : TyAt X x T) : PE X (.Name x p) (tC (.ty T)) := pe_bltn t.gl t.free t.boot rfl t.nn t.nd
theorem de_isi1 {T : String} {y : Str} {q : Pos} (hg : Gl X "isinstance") (hm : X.mg "isinstance" = none) (t : TyAt X y T) (hT : T ∈ askTys) (hp : plainArg a = true) (ha : PE X a (tD G W cf fa)) :
    PE X (.Call (.Name "isinstance" p) [a, .Name y q] [] pos) (tD G W cf (eIsi [T] fa)) :=
  PE.le (pe_callB call_isi hg hm boot_isi (pa_cons ha (pa_cons t.pe pa_nil) (star_cons hp)) (he := star_cons hp)) fun τ H Q ⟨ρ, σ, h, rel, rs, q⟩ => Post1 rel rs q fun x H1 ρ1 v h1 rel1 g1 rv p1 => by
    cases e : tyName v h1 with
    | none => rw [e] at p1; exact p1.elim
    | some t =>
      rw [e] at p1
      obtain ⟨k1, k2⟩ := ty_ok (K := X.K) rel1 rv e
      refine ⟨x, .ty T, .type t, .type T, isTy t T, rfl, .ty T, k1, kit_all k2 hT, ?_⟩
      have p2 := p1 ρ1 H1 _ rel1 (Grow.refl _ _) (.bl _)
      have e2 : ([T].any fun T => isTy t T) = isTy t T := by simp
      rw [e2] at p2
      exact p2
/-- the names of a tuple of built-in types -/
inductive TysAt (X : Cx) : List Expr → List String → Prop
  | nil : TysAt X [] []
  | cons {y : Str} {T : String} {q : Pos} {es : List Expr} {Ts : List String} (t : TyAt X y T) (r : TysAt X es Ts) : TysAt X (.Name y q :: es) (T :: Ts)
theorem TysAt.pa : ∀ {es : List Expr} {Ts : List String}, TysAt X es Ts → PA X es (fun σ H Q => Q (Ts.map V.ty) H)
  | _, _, .nil => pa_nil
  | _, _, .cons t r => pa_cons t.pe r.pa
theorem clsVs : ∀ Ts : List String, Paired ClsV (Ts.map V.ty) (Ts.map Value.type)
  | [] => .nil
  | T :: Ts => .cons (.ty T) (clsVs Ts)
theorem de_isiT {Ts : List String} {ts : List Expr} {q : Pos} {kk : Nat} (hg : Gl X "isinstance") (hm : X.mg "isinstance" = none) (t : TysAt X ts Ts) (hT : ∀ T ∈ Ts, T ∈ askTys) (hl : Ts.length ≤ 100) (hp : plainArg a = true) (ha : PE X a (tD G W cf fa)) :
    PE X (.Call (.Name "isinstance" p) [a, .Tuple ts kk q] [] pos) (tD G W cf (eIsi Ts fa)) :=
  PE.le (pe_callB call_isiT hg hm boot_isi (pa_cons ha (pa_cons (pe_tup t.pa) pa_nil) (star_cons hp)) (he := star_cons hp)) fun τ H Q ⟨ρ, σ, h, rel, rs, q⟩ => Post1 rel rs q fun x H1 ρ1 v h1 rel1 g1 rv p1 => by
    cases e : tyName v h1 with
    | none => rw [e] at p1; exact p1.elim
    | some t =>
      rw [e] at p1
      refine ⟨by rw [List.length_map, sizeLine_eq]; omega, fun tp ht => ?_⟩
      have g : Grow ρ1 H1 ρ1 (upd H1 tp (.tup (Ts.map V.ty))) := grow_upd (by rw [ht]; trivial)
      have rel2 := rel1.aside (o := .tup (Ts.map V.ty)) ht
      obtain ⟨k1, k2⟩ := ty_ok (K := X.K) rel2 (rv.grow g) e
      exact ⟨x, tp, Ts.map V.ty, .type t, Ts.map .type, Ts.any fun T => isTy t T, rfl, upd_same, clsVs Ts, k1, kit_any k2 hT, p1 ρ1 _ _ rel2 g (.bl _)⟩

/-! ### methods of built-in types -/
theorem base_of {o : Expr} {m : Str} {env : Env} {whole : Sem Value} (h : (match o with | .Call _ _ _ _ => false | _ => true) = true) : attributeBase o m env whole = whole := by
  cases o <;> first | rfl | cases h
theorem few_of {es : List Expr} {env : Env} {cpos : Pos} (hp : es.all plainArg = true) (hl : es.length < 30) : ((backTo cpos (starEach es env)).all (fun x => !x.1) && (backToKw cpos (keywordEach [] env)).all (fun x => x.1.isSome)
      && decide (es.length + ([] : List Keyword).length + (if ([] : List Keyword).isEmpty then 0 else 1) < 30)) = true := by
  have h1 := star_any (env := env) (pos := cpos) hp
  have h2 : (backTo cpos (starEach es env)).all (fun x => !x.1) = true := by
    rw [List.all_eq_true]
    intro y hy
    have := List.any_eq_false.mp h1 y hy
    simpa using this
  rw [h2]
  simp [backToKw, keywordEach]
  exact hl
theorem de_bm {T id : String} {name : Str} {ty : Val → AH → Bool} {g : Val → List Val → M Val} (pa' : PlainAttrs T) (slot : Slot T name id) (hty : typeOf (.builtin id) = pure (.type "method_descriptor")) (hm : MtR X id (rM G g))
    (hT : ∀ ρ h H v x, Rel G ρ h H → RV ρ H v x → ty v h = true → tyV X.K T x H) (ho : PE X o (tD G W cf fo)) (hb : attributeBase o name X.env (eval o X.env) = eval o X.env) (hline : (apos.endLine == pos.line) = true) (hp : (a :: es).all plainArg = true) (hl : (a :: es).length < 30) (ha : PA X (a :: es) (tDA G W cf ra)) :
    PE X (.Call (.Attribute o name apos) (a :: es) [] pos) (tD G W cf (eM ty g fo ra)) := by
  have hp' := hp
  rw [List.all_cons, Bool.and_eq_true] at hp'
  exact PE.le (pe_bm pa' slot hty hm ho ha hb (few_of hp hl) hline (star_cons hp'.1) (star_any hp'.2)) fun τ H Q ⟨ρ, σ, h, rel, rs, q⟩ => Post1 rel rs q fun x H1 ρ1 v h1 rel1 g1 rv p1 => by
    by_cases c : ty v h1 = true
    · rw [if_pos c] at p1
      refine ⟨hT ρ1 h1 H1 v x rel1 rv c, PostA rel1 (rs.grow g1) p1 fun xs H2 ρ2 vs h2 rel2 g2 rvs p2 => ?_⟩
      obtain ⟨r, h3, e, kk⟩ := p2.calm
      exact ⟨ρ2, h2, v, vs, r, h3, rel2, rv.grow g2, rvs, e, kk⟩
    · rw [if_neg c] at p1
      exact p1.elim
theorem de_bm0 {T id : String} {name : Str} {ty : Val → AH → Bool} {g : Val → List Val → M Val} (pa' : PlainAttrs T) (slot : Slot T name id) (hty : typeOf (.builtin id) = pure (.type "method_descriptor")) (hm : MtR X id (rM G g))
    (hT : ∀ ρ h H v x, Rel G ρ h H → RV ρ H v x → ty v h = true → tyV X.K T x H) (ho : PE X o (tD G W cf fo)) (hb : attributeBase o name X.env (eval o X.env) = eval o X.env) (hline : (apos.endLine == pos.line) = true) :
    PE X (.Call (.Attribute o name apos) [] [] pos) (tD G W cf (eM ty g fo aNil)) :=
  PE.le (pe_bm0 pa' slot hty hm ho hb hline) fun τ H Q ⟨ρ, σ, h, rel, rs, q⟩ => Post1 rel rs q fun x H1 ρ1 v h1 rel1 g1 rv p1 => by
    by_cases c : ty v h1 = true
    · rw [if_pos c] at p1
      have p1 : Post RV G (fun cls d H' => W cls d τ H') ρ1 H1 (calm (g v [] h1)) Q := p1
      obtain ⟨r, h3, e, kk⟩ := p1.calm
      exact ⟨hT ρ1 h1 H1 v x rel1 rv c, ρ1, h1, v, [], r, h3, rel1, rv, .nil, e, kk⟩
    · rw [if_neg c] at p1
      exact p1.elim
/-- d.get(k) -/
theorem isD_of {ρ : List Addr} {h : AH} {H : Hp} {v : Val} {x : V} (rel : Rel G ρ h H) (r : RV ρ H v x) (e : Ev.isD v h = true) : ∃ a, x = .ref a ∧ IsD H a := by
  cases r with
  | @ref n q hq =>
    obtain ⟨o', ho, qo⟩ := rel.there hq
    have e : (dicAt h n).isSome = true := e
    unfold dicAt at e
    simp only [ho] at e
    cases o' with
    | dic kvs =>
      rcases qo with ⟨ks, q1, _⟩ | ⟨ks, q1, _⟩
      · exact ⟨q, rfl, .inl ⟨ks, .inl q1⟩⟩
      · exact ⟨q, rfl, .inr ⟨ks, .inl q1⟩⟩
    | fdi kvs =>
      rcases qo with ⟨ob, ks, q1, _⟩ | ⟨ob, ks, q1, _⟩
      · exact ⟨q, rfl, .inl ⟨ks, .inr ⟨ob, q1⟩⟩⟩
      · exact ⟨q, rfl, .inr ⟨ks, .inr ⟨ob, q1⟩⟩⟩
    | _ => cases e
  | _ => cases e
theorem getD_rel {ρ : List Addr} {H : Hp} {o : Option V} {r : Option Val} {v : Val} {w : V} (h1 : ∀ v, r = some v → ∃ w, o = some w ∧ RV ρ H v w) (h2 : r = none → o = none) (hv : RV ρ H v w) : RV ρ H (r.getD v) (o.getD w) := by
  cases r with
  | none => rw [h2 rfl]; exact hv
  | some u => obtain ⟨z, e, q⟩ := h1 u rfl; rw [e]; exact q
theorem trees_one {e : Expr} {env : Env} {cpos : Pos} (hp : plainArg e = true) : backTo cpos (starEach [e] env) = [(false, do let v ← eval e env; standAt cpos; pure v)] ∨ True := .inr trivial
theorem de_get1 (hu : X.A.units + 1 < cLine) (ho : PE X o (tD G W cf fo)) (ha : PE X a (tD G W cf fa)) (m : M1 X o "get" apos a pos) : PE X (.Call (.Attribute o "get" apos) [a] [] pos) (tD G W cf (eM Ev.isD mGet fo (aCons fa aNil))) := by
  refine ⟨fun pins s τ H Q I ⟨ρ, σ, h, rel, rs, q⟩ => ?_⟩
  refine wpAny_Call_method m.base m.few m.line PySem.F.plainAttrs_dict PySem.F.slot_dict_get PySem.F.type_dict_get (thn (ho.run pins s τ H (fun x H1 => ∃ ρ1 v h1, Rel G ρ1 h1 H1 ∧ RSt ρ1 H1 σ τ ∧ RV ρ1 H1 v x ∧ Ev.isD v h1 = true ∧ Post RV G (fun cls d H' => W cls d τ H') ρ1 H1 ((aCons fa aNil cf σ h1).bind fun vs h2 => calm (mGet v vs h2)) Q) I
    (Post1 rel rs q fun x H1 ρ1 v h1 rel1 g1 rv p1 => ?_)) fun u s1 ⟨x, H1, I1, rx, ρ1, v, h1, rel1, rs1, rv, hd, p1⟩ => ?_)
  · by_cases c : Ev.isD v h1 = true
    · rw [if_pos c] at p1
      exact ⟨ρ1, v, h1, rel1, rs.grow g1, rv, c, p1⟩
    · rw [if_neg c] at p1
      exact p1.elim
  · obtain ⟨a', ex, d⟩ := isD_of rel1 rv hd
    subst ex
    obtain rfl : u = Value.ref a' := rx
    obtain ⟨t1, t2, _⟩ := isD_at I1 d
    refine ⟨t1, t2, ?_⟩
    rw [m.trees]
    have p1 : Post RV G (fun cls d H' => W cls d τ H') ρ1 H1 ((fa cf σ h1).bind fun y h2 => calm (mGet v [y] h2)) Q := by
      have e : ((aCons fa aNil cf σ h1).bind fun vs h2 => calm (mGet v vs h2)) = (fa cf σ h1).bind fun y h2 => calm (mGet v [y] h2) := by
        unfold aCons aNil
        cases fa cf σ h1 <;> rfl
      rw [← e]
      exact p1
    refine Calls.callWith_builtin rfl (Calls.evalArgs_plain (Calls.spliced_cons (thn (ha.run pins s1 τ H1 _ I1 (Post1 (R := fun y H2 => ∃ ρ2 w h2, Rel G ρ2 h2 H2 ∧ RV ρ2 H2 v (.ref a') ∧ RV ρ2 H2 w y ∧ Post RV G (fun cls d H' => W cls d τ H') ρ2 H2 (calm (mGet v [w] h2)) Q) rel1 rs1 p1
      fun y H2 ρ2 w h2 rel2 g2 rw' p2 => ⟨ρ2, w, h2, rel2, rv.grow g2, rw', p2⟩)) fun iv s2 ⟨y, H2, I2, ry, ρ2, w, h2, rel2, rv2, rw', p2⟩ => Calls.spliced_nil ?_)))
    obtain ⟨r, h3, e, kk⟩ := p2.calm
    cases rv2 with
    | @ref n q hq =>
      unfold mGet at e
      dsimp only at e
      obtain ⟨o', ho', qo⟩ := rel2.there hq
      simp only [ho'] at e
      cases o' with
      | dic kvs =>
        obtain ⟨hc, e⟩ := ite_ok (show (if fits kvs w = true then Out.ok ((dget kvs w).getD .non) h2 else .bad) = Out.ok r h3 from e)
        obtain ⟨rfl, rfl⟩ := ok_inj e
        obtain ⟨H3, I3, rel3, g3, oo, dg, f1, f2⟩ := dic_get I2 rel2 hq ho' hc rw'
        exact d_get1 hu I3 dg ry fun w' s3 I4 rw'' => ⟨_, H3, I4, rw'', kk ρ2 H3 _ rel3 g3 (getD_rel f1 f2 .non)⟩
      | fdi kvs =>
        obtain ⟨hc, e⟩ := ite_ok (show (if fitsF kvs w = true then Out.ok ((dget kvs w).getD .non) h2 else .bad) = Out.ok r h3 from e)
        obtain ⟨rfl, rfl⟩ := ok_inj e
        obtain ⟨oo, dg, f1, f2⟩ := fdi_get I2 rel2 hq ho' hc rw'
        exact d_get1 hu I2 dg ry fun w' s3 I4 rw'' => ⟨_, H2, I4, rw'', kk ρ2 H2 _ rel2 (Grow.refl _ _) (getD_rel f1 f2 .non)⟩
      | _ => exact bad_ok e
    | _ => exact bad_ok e

/-! ### instances -/
theorem look_rel {ρ : List Addr} {H : Hp} {f : Str} : ∀ {fs : List (Str × Val)} {ws : List (Str × V)}, RF ρ H fs ws → (∀ v, fs.lookup f = some v → ∃ w, ws.lookup f = some w ∧ RV ρ H v w) ∧ (fs.lookup f = none → ws.lookup f = none)
  | _, _, .nil => ⟨fun v e => (by cases e), fun _ => rfl⟩
  | (g, v) :: fs, (g', w) :: ws, .cons r t => by
    obtain ⟨e1, e2⟩ := r
    have e1 : g = g' := e1
    subst e1
    obtain ⟨h1, h2⟩ := look_rel (f := f) t
    by_cases hb : (f == g) = true
    · simp only [List.lookup, hb]
      exact ⟨fun v' e => by cases e; exact ⟨w, rfl, e2⟩, fun e => (by cases e)⟩
    · have hb' : (f == g) = false := by simpa using hb
      simp only [List.lookup, hb']
      exact ⟨h1, h2⟩
theorem Rel.ins {ρ : List Addr} {h : AH} {H : Hp} (rel : Rel G ρ h H) {n : Nat} {a : Addr} {c : Str} {fs : List (Str × Val)} (hn : ρ[n]? = some a) (e : insAt h n = some (c, fs)) : h[n]? = some (.ins c fs) ∧ ∃ C dx ws, G.mg c = some (.ref C) ∧ H a = some (.ins C dx ws) ∧ RF ρ H fs ws := by
  obtain ⟨o, ho, qo⟩ := rel.there hn
  unfold insAt at e
  rw [ho] at e
  cases o with
  | ins c' fs' =>
    have e' : (c', fs') = (c, fs) := Option.some.inj e
    cases e'
    exact ⟨ho, qo⟩
  | _ => cases e
/-- the classes cs have fields of the name f -/
def FldOk (X : Cx) (f : Str) (cs : List Str) : Prop := ∀ c ∈ cs, ∃ C, X.mg c = some (.ref C) ∧ Cls X.K C ∧ NoAttr X.K C f
theorem FldOk.at {f : Str} {cs : List Str} {c : Str} {C : Addr} (h : FldOk X f cs) (hmg : X.mg = G.mg) (hc : c ∈ cs) (m : G.mg c = some (.ref C)) : Cls X.K C ∧ NoAttr X.K C f := by
  obtain ⟨C', m', k1, k2⟩ := h c hc
  rw [hmg, m] at m'
  cases m'
  exact ⟨k1, k2⟩
theorem de_fld {f : Str} {cs : List Str} (hmg : X.mg = G.mg) (hc : FldOk X f cs) (ha : PE X a (tD G W cf fa)) (hb : attributeBase a f X.env (eval a X.env) = eval a X.env) :
    PE X (.Attribute a f pos) (tD G W cf (eFld f cs fa)) :=
  PE.le (pe_fld ha hb) fun τ H Q ⟨ρ, σ, h, rel, rs, q⟩ => Post1 rel rs q fun x H1 ρ1 v h1 rel1 g1 rv p1 => by
    cases rv with
    | @ref n p hp =>
      cases e : insAt h1 n with
      | none => simp only [e] at p1; exact p1.elim
      | some cf' =>
        obtain ⟨c, fs⟩ := cf'
        simp only [e] at p1
        by_cases hcs : c ∈ cs
        · rw [if_pos hcs] at p1
          obtain ⟨_, C, dx, ws, m1, m2, m3⟩ := rel1.ins hp e
          obtain ⟨k1, k2⟩ := hc.at hmg hcs m1
          cases e2 : fs.lookup f with
          | none => rw [e2] at p1; exact p1.elim
          | some v =>
            rw [e2] at p1
            obtain ⟨w, l1, l2⟩ := (look_rel m3).1 v e2
            exact ⟨p, C, dx, ws, w, rfl, m2, k1, k2, l1, p1 ρ1 H1 w rel1 (Grow.refl _ _) l2⟩
        · rw [if_neg hcs] at p1
          exact p1.elim
    | _ => exact p1.elim
/-- which functions the methods of this name are -/
def MethOk (G : Gs) (cf : Cf) (X : Cx) (k : Nat) (m : Str) (tab : List (Str × Nat)) : Prop := ∀ c i, tab.lookup c = some i → ∃ C f, X.mg c = some (.ref C) ∧ Cls X.K C ∧ Meth X.K C m f ∧ FnAt G cf X k i f
theorem de_meth {m : Str} {tab : List (Str × Nat)} {pl : Sem Bool} (hmg : X.mg = G.mg) (M : MethOk G cf X k m tab) (hr : Room k X.A) (tk : Takes X W) (ho : PE X o (tD G W cf fo)) (hp : (a :: es).all plainArg = true) (ha : PA X (a :: es) (tDA G W cf ra))
    (ht : eval (.Call (.Attribute o m apos) (a :: es) [] pos) X.env = (do
      let ov ← eval o X.env
      standAt apos.atName
      let (f, first) ← holding [ov] (getMethod ov m pl)
      callWith pos f first (backTo pos (starEach (a :: es) X.env)) (backToKw pos (keywordEach [] X.env)))) :
    PE X (.Call (.Attribute o m apos) (a :: es) [] pos) (tD G W cf (eMeth m tab fo ra)) := by
  refine ⟨fun pins s τ H Q I ⟨ρ, σ, h, rel, rs, q⟩ => ?_⟩
  rw [List.all_cons, Bool.and_eq_true] at hp
  refine methcall_of ho I (Post1 rel rs q fun x H1 ρ1 v h1 rel1 g1 rv p1 => ?_) ht
  cases rv with
  | @ref n p hn =>
    cases e : insAt h1 n with
    | none => simp only [e] at p1; exact p1.elim
    | some cf' =>
      obtain ⟨c, fs⟩ := cf'
      simp only [e] at p1
      cases e2 : tab.lookup c with
      | none => simp only [e2] at p1; exact p1.elim
      | some i =>
        simp only [e2] at p1
        by_cases e3 : (fs.lookup m).isNone = true
        · rw [if_pos e3] at p1
          obtain ⟨_, C, dx, ws, m1, m2, m3⟩ := rel1.ins hn e
          obtain ⟨C', f, n1, n2, n3, n4⟩ := M c i e2
          rw [hmg, m1] at n1
          cases n1
          obtain ⟨fd, ps, F1, F2, F3⟩ := n4.ex
          refine ⟨p, C, dx, ws, f, rfl, m2, n2, n3, (look_rel m3).2 (Option.isNone_iff_eq_none.mp e3), fun s1 I1 => ?_⟩
          have A := PostA rel1 (rs.grow g1) p1 (R := fun xs H2 => ∃ ρ2 vs h2, Rel G ρ2 h2 H2 ∧ RVs ρ2 H2 (.ref n :: vs) (.ref p :: xs) ∧ Post RV G (fun cls d H' => W cls d τ H') ρ2 H2 (cf i (.ref n :: vs) h2) Q)
            fun xs H2 ρ2 vs h2 rel2 g2 rvs p2 => ⟨ρ2, vs, h2, rel2, .cons (.ref (g2.pre _ _ hn)) rvs, p2⟩
          refine PySem.W.callWith_K (first := [.ref p]) (h₀ := X.base) I.ok.mod.kin n4.kp (thn (ha.run pos pins s1 τ H1 _ I1 A) fun us s2 ⟨xs, H2, I2, r, ρ2, vs, h2, rel2, rvs, p2⟩ => ⟨I2.kIn, ?_⟩) (star_cons hp.1) (star_any hp.2)
          exact run_fnS (E := WE W) (us := .ref p :: us) (vs := .ref p :: xs) F1 hr F2 (passAt tk τ) I2 (.cons rfl r) ⟨ρ2, h2, _, rel2, rvs, len_of F3 p2, p2⟩
        · rw [if_neg e3] at p1
          exact p1.elim
  | _ => exact p1.elim
theorem de_meth0 {m : Str} {tab : List (Str × Nat)} {pl : Sem Bool} (hmg : X.mg = G.mg) (M : MethOk G cf X k m tab) (hr : Room k X.A) (tk : Takes X W) (ho : PE X o (tD G W cf fo))
    (ht : eval (.Call (.Attribute o m apos) [] [] pos) X.env = (do
      let ov ← eval o X.env
      standAt apos.atName
      let (f, first) ← holding [ov] (getMethod ov m pl)
      callWith pos f first (backTo pos (starEach [] X.env)) (backToKw pos (keywordEach [] X.env)))) :
    PE X (.Call (.Attribute o m apos) [] [] pos) (tD G W cf (eMeth m tab fo aNil)) := by
  refine ⟨fun pins s τ H Q I ⟨ρ, σ, h, rel, rs, q⟩ => ?_⟩
  refine methcall_of ho I (Post1 rel rs q fun x H1 ρ1 v h1 rel1 g1 rv p1 => ?_) ht
  cases rv with
  | @ref n p hn =>
    cases e : insAt h1 n with
    | none => simp only [e] at p1; exact p1.elim
    | some cf' =>
      obtain ⟨c, fs⟩ := cf'
      simp only [e] at p1
      cases e2 : tab.lookup c with
      | none => simp only [e2] at p1; exact p1.elim
      | some i =>
        simp only [e2] at p1
        by_cases e3 : (fs.lookup m).isNone = true
        · rw [if_pos e3] at p1
          obtain ⟨_, C, dx, ws, m1, m2, m3⟩ := rel1.ins hn e
          obtain ⟨C', f, n1, n2, n3, n4⟩ := M c i e2
          rw [hmg, m1] at n1
          cases n1
          obtain ⟨fd, ps, F1, F2, F3⟩ := n4.ex
          refine ⟨p, C, dx, ws, f, rfl, m2, n2, n3, (look_rel m3).2 (Option.isNone_iff_eq_none.mp e3), fun s1 I1 => ?_⟩
          have p2 : Post RV G (fun cls d H' => W cls d τ H') ρ1 H1 (cf i [.ref n] h1) Q := p1
          exact PySem.W.callWith_K0 (first := [.ref p]) I1.kIn n4.kp (run_fnS (E := WE W) (us := [.ref p]) (vs := [.ref p]) F1 hr F2 (passAt tk τ) I1 (.cons rfl .nil) ⟨ρ1, h1, [.ref n], rel1, .cons (.ref hn) .nil, len_of F3 p2, p2⟩)
        · rw [if_neg e3] at p1
          exact p1.elim
  | _ => exact p1.elim
/-- C(..), its __init__ the function i -/
structure MakeAt (G : Gs) (cf : Cf) (X : Cx) (k i : Nat) (x : Str) : Prop where
  ex : ∃ C f, X.mg x = some (.ref C) ∧ Mk X.K C f ∧ FnAt G cf X k i f
theorem run_makeD {C : Addr} {pins : List (Addr × Obj)} {τ : L2.St} {H : Hp} {s : Shared} {Q : VK} {us : List Value} {xs : List V} {ρ : List Addr} {h : AH} {vs : List Val} (hmg : X.mg = G.mg) (hC : X.mg x = some (.ref C)) (M : Mk X.K C f) (F : FnAt G cf X k i f) (hr : Room (k + 1) X.A) (tk : Takes X W)
    (I : Inv X pins τ H s) (r : Vals xs us) (rel : Rel G ρ h H) (rvs : RVs ρ H vs xs)
    (p : Post RV G (fun cls d H' => W cls d τ H') ρ H ((cf i (.ref h.length :: vs) (h ++ [.ins x []])).bind fun v h2 => match v with
      | .non => .ok (.ref h.length) h2
      | _ => .bad) Q) : wpAny (model X.prog X.w) X.A (call (.ref C) us) (EP X pins τ Q) X.xe s := by
  obtain ⟨fd, ps, F1, F2, F3⟩ := F.ex
  have nn : H (s.heap.objs.size + 1) = none := I.hok.fresh (Nat.le_succ _)
  have n0 : H s.heap.objs.size = none := I.hok.fresh (Nat.le_refl _)
  have ne : s.heap.objs.size ≠ s.heap.objs.size + 1 := Nat.ne_of_lt (Nat.lt_succ_self _)
  have I2 := Inv.made (C := C) I
  have rel1 := rel.aside (o := .own (s.heap.objs.size + 1)) n0
  have g1 : Grow ρ H ρ (upd H s.heap.objs.size (.own (s.heap.objs.size + 1))) := grow_upd (by rw [n0]; trivial)
  have nn1 : upd H s.heap.objs.size (.own (s.heap.objs.size + 1)) (s.heap.objs.size + 1) = none := by rw [upd_ne (Ne.symm ne)]; exact nn
  have rel2 := rel1.new (ob := .ins x []) (o := .ins C s.heap.objs.size []) nn1 ⟨C, _, [], by rw [← hmg]; exact hC, upd_same, .nil⟩
  have g2 := g1.trans (grow_new (ρ := ρ) (o := .ins C s.heap.objs.size []) nn1)
  have p2 := (Post.bind (R1 := RV) (p.grow g2)).mono (Q' := fun v H2 => v = .non ∧ Q (.ref (s.heap.objs.size + 1)) H2) fun b H3 ⟨ρ3, v, h3, rel3, g3, rv, p3⟩ => by
    cases rv with
    | non => exact ⟨rfl, p3 ρ3 H3 _ rel3 (Grow.refl _ _) (.ref (g3.pre _ _ (new_at rel)))⟩
    | _ => exact p3.elim
  have hsp : spC G cf i ps.length (.ref (s.heap.objs.size + 1) :: xs) (upd (upd H s.heap.objs.size (.own (s.heap.objs.size + 1))) (s.heap.objs.size + 1) (.ins C s.heap.objs.size [])) (fun v H2 => v = .non ∧ Q (.ref (s.heap.objs.size + 1)) H2) (WE W τ) :=
    ⟨ρ ++ [s.heap.objs.size + 1], h ++ [.ins x []], .ref h.length :: vs, rel2, .cons (.ref (new_at rel)) (rvs.grow g2), len_of F3 p2, p2⟩
  have r2 : Vals (V.ref (s.heap.objs.size + 1) :: xs) (Value.ref (s.heap.objs.size + 1) :: us) := .cons rfl r
  have hl : (Value.ref (s.heap.objs.size + 1) :: us).length = ps.length := by rw [← r2.length]; exact F1.len _ _ _ _ hsp
  have bd := F2 { s with heap := (s.heap.push PySem.W.emptyDict).push (PySem.W.instObj C s.heap.objs.size) } (Value.ref (s.heap.objs.size + 1) :: us) I2.kIn (by rw [List.append_nil]; exact hl)
  rw [List.append_nil] at bd
  refine wpAny_call (make_map (f := f) I.kIn M.makes M.init (beq_iff_eq.mp M.fn) (codeAny_mono (F1.run _ X.stack _ _ ⟨Value.ref (s.heap.objs.size + 1) :: us, []⟩ (Value.ref (s.heap.objs.size + 1) :: us) _ _ (WE W τ) (hr.make C us [])
    (I2.env0.make C us []) bd r2 hsp) fun r s' hq' => ?_))
  cases r with
  | error e => exact passAt tk τ pins _ _ e s' I2 hq'
  | ok fl =>
    cases fl with
    | ret u =>
      obtain ⟨v, H', I3, rv, ev, q3⟩ := I2.after hq'
      subst ev
      exact ⟨rv, ⟨V.ref (s.heap.objs.size + 1), H', I3, rfl, q3⟩⟩
    | next => exact False.elim hq'
    | brk => exact False.elim hq'
    | cont => exact False.elim hq'
theorem de_make (hmg : X.mg = G.mg) (M : MakeAt G cf X k i x) (hr : Room (k + 1) X.A) (tk : Takes X W) (hg : Gl X x) (hd : (x == ("__debug__" : Str)) = false) (hp : (a :: es).all plainArg = true) (ha : PA X (a :: es) (tDA G W cf ra)) :
    PE X (.Call (.Name x p) (a :: es) [] pos) (tD G W cf (eMake x i ra)) := by
  obtain ⟨C, f, hC, M, F⟩ := M.ex
  rw [List.all_cons, Bool.and_eq_true] at hp
  refine ⟨fun pins s τ H Q I ⟨ρ, σ, h, rel, rs, q⟩ => ?_⟩
  refine wpAny_Call_Name_kw (ld_glob I hg hC ?_ hd)
  have A := PostA rel rs q (R := fun xs H2 => ∃ ρ2 vs h2, Rel G ρ2 h2 H2 ∧ RVs ρ2 H2 vs xs ∧ Post RV G (fun cls d H' => W cls d τ H') ρ2 H2 ((cf i (.ref h2.length :: vs) (h2 ++ [.ins x []])).bind fun v h2' => match v with
      | .non => .ok (.ref h2.length) h2'
      | _ => .bad) Q) fun xs H2 ρ2 vs h2 rel2 g2 rvs p2 => ⟨ρ2, vs, h2, rel2, rvs, p2⟩
  refine PySem.W.callWith_K (h₀ := X.base) I.ok.mod.kin M.kp (thn (ha.run pos pins s τ H _ I A) fun us s1 ⟨xs, H1, I1, r, ρ2, vs, h2, rel2, rvs, p2⟩ => ⟨I1.kIn, ?_⟩) (star_cons hp.1) (star_any hp.2)
  exact run_makeD hmg hC M F hr tk I1 r rel2 rvs p2
theorem de_make0 (hmg : X.mg = G.mg) (M : MakeAt G cf X k i x) (hr : Room (k + 1) X.A) (tk : Takes X W) (hg : Gl X x) (hd : (x == ("__debug__" : Str)) = false) :
    PE X (.Call (.Name x p) [] [] pos) (tD G W cf (eMake x i aNil)) := by
  obtain ⟨C, f, hC, M, F⟩ := M.ex
  refine ⟨fun pins s τ H Q I ⟨ρ, σ, h, rel, rs, q⟩ => ?_⟩
  refine wpAny_Call_Name_kw (ld_glob I hg hC ?_ hd)
  exact PySem.W.callWith_K0 I.kIn M.kp (run_makeD (us := []) (xs := []) (vs := []) hmg hC M F hr tk I .nil rel .nil q)
end
end Ev

end

section
set_option maxRecDepth 100000
/-! Ev9: what is walked: enumerate and zip over lists and tuples in any mix. -/
namespace Ev
open PySem PySem.Spec PyProof.Rows L2
open AutoSeq1 (wpAny_loadPart')
set_option maxHeartbeats 1000000 in
theorem enum_new1 {v : Value} {o : Obj} {H : Heap → Prop} (B : Begins v o H) :
    Meets (Builtin.«enumerate.__new__» ⟨[.type "enumerate", v], []⟩) (fun _ R s => H s.heap ∧
      R (.ok (.ret (.ref (s.heap.push o).objs.size))) { s with heap := (s.heap.push o).push { cls := .type "enumerate", data := .fields #[.none, .bool false, .ref s.heap.objs.size, rawInt 0, .none, .none] } }) :=
  .of_wp fun prog w A R s h => by
    obtain ⟨hp, g, d, tk, os⟩ := s
    obtain ⟨h1, h⟩ := h
    have hsub := sub_enumerate
    have q1 : ∀ {A' : Around} {E : Value → Shared → Prop} {Q : Value → Shared → Prop}, Q (.ref hp.objs.size) ⟨hp.push o, g, d, tk, os⟩ → wpAny (model prog w) A' (pyIter v) Q E ⟨hp, g, d, tk, os⟩ :=
      fun q => B.iter prog w _ _ ⟨hp, g, d, tk, os⟩ _ h1 q
    wp_walk using q1
    refine wpAny_stack_any fun st => wpAny_pure ?_
    split
    · rename_i c _ _ _ _ _
      cases (c == Value.type "enumerate")
      all_goals (wp_walk using q1; exact ⟨_, rfl, h⟩)
    · wp_walk using q1
      exact ⟨_, rfl, h⟩
/-! ### rows in the heap -/
inductive SK where
  | l | t
def SK.rd (k : SK) (K : PySem.W.Frag) (H : Hp) (a : Addr) (xs : List V) : Prop := match k with
  | .l => SqL K H a xs
  | .t => SqT K H a xs
def SK.it (k : SK) (h : Heap) (it a : Addr) (i : Nat) : Prop := match k with
  | .l => h.IsListIter it a i
  | .t => h.IsTupleIter it a i
def SK.at (k : SK) (h : Heap) (a : Addr) (items : Array Value) : Prop := match k with
  | .l => h.IsList a items
  | .t => h.IsTuple a items
def SK.ob (k : SK) (a : Addr) : Obj := match k with
  | .l => { cls := .type "list_iterator", data := .fields #[.ref a, .int 0 0] }
  | .t => { cls := .type "tuple_iterator", data := .fields #[.ref a, .int 0 0] }
theorem SK.begins (k : SK) (a : Addr) (items : Array Value) : Begins (.ref a) (k.ob a) fun h => k.at h a items := by
  cases k
  · exact begins_list a items
  · exact begins_tuple a items
theorem SK.draws (k : SK) {prog : Program} {w : World} {A : Around} (hh : A.handled = none) (it a : Addr) (hne : a ≠ it) (items : Array Value) :
    Draws prog w A it [it, a] items.size (fun i v => items[i]? = some v) (fun i h => k.it h it a i ∧ k.at h a items) := by
  cases k
  · exact Draws.list hh it a hne items
  · exact Draws.tuple hh it a hne items
theorem SK.start (k : SK) {h : Heap} {it a : Addr} (e : h.get? it = some (k.ob a)) : k.it h it a 0 := by
  cases k
  · exact ⟨_, e, rfl, rfl⟩
  · exact ⟨_, e, rfl, rfl⟩
theorem SK.obj (k : SK) {h : Heap} {it a : Addr} {i : Nat} (st : k.it h it a i) : ∃ o, h.get? it = some o ∧ ∀ v, o.data ≠ .cell v := by
  cases k
  · obtain ⟨o, e, c, d⟩ := st
    exact ⟨o, e, fun v z => by rw [d] at z; cases z⟩
  · obtain ⟨o, e, c, d⟩ := st
    exact ⟨o, e, fun v z => by rw [d] at z; cases z⟩
theorem SK.keep (k : SK) {h h' : Heap} {it a : Addr} {i : Nat} (st : k.it h it a i) (e : ∀ o, h.get? it = some o → h'.get? it = some o) : k.it h' it a i := by
  cases k
  · exact st.at e
  · exact st.at e
section
variable {X : Cx} {pins : List (Addr × Obj)} {τ : L2.St} {H : Hp} {s : Shared} {a : Addr} {xs ys : List V}
theorem SK.row (k : SK) (I : Inv X pins τ H s) (h : k.rd X.K H a xs) : ∃ its : List Value, Vals xs its ∧ k.at s.heap a its.toArray ∧ a < s.heap.objs.size := by
  cases k
  · obtain ⟨its, r, p, _⟩ := I.list h
    refine ⟨its, r, p.isList, ?_⟩
    obtain ⟨o, n, e, _⟩ := p
    exact Heap.lt_size e
  · obtain ⟨its, r, p, _⟩ := I.tuple h
    refine ⟨its, r, p, ?_⟩
    obtain ⟨o, e, _⟩ := p
    exact Heap.lt_size e
theorem SK.inj (k : SK) (I : Inv X pins τ H s) (h : k.rd X.K H a xs) (h' : k.rd X.K H a ys) : xs = ys := by
  cases k
  · exact I.list_inj h h'
  · exact I.tuple_inj h h'
end
/-! ### enumerate -/
def ItE (K : PySem.W.Frag) (k : SK) (a : Addr) : It :=
  ⟨fun i H => ∃ (xs : List V) (x : V), k.rd K H a xs ∧ xs[i]? = some x, fun i H v H' => ∃ T x, v = .ref T ∧ H T = none ∧ H' = upd H T (.tup [.int (i : Nat), x]) ∧ ∀ xs, k.rd K H a xs → xs[i]? = some x, fun i H => ∃ xs : List V, k.rd K H a xs ∧ xs.length = i⟩
theorem turn_enumK {P : Program} {w : World} {K : PySem.W.Frag} {elts : List Expr} {kk : Nat} {tpos : Pos} (k : SK) (a e it : Addr) (hne : e ≠ it) (hae : a ≠ e) (hai : a ≠ it) :
    Turn P w K (.Tuple elts kk tpos) (ItE K k a) [e, it] e (fun i h => (∃ old, IsEnum h e it (0 + ((i : Nat) : Int)) old) ∧ k.it h it a i) where
  mem := by simp
  obj := fun i h st b hb => by
    obtain ⟨⟨old, he⟩, hi⟩ := st
    have e' : b = e ∨ b = it := by simpa using hb
    rcases e' with z | z
    · rw [z]; exact ⟨_, he, fun v q => nomatch q⟩
    · rw [z]; exact k.obj hi
  keep := fun i h h' st q => ⟨let ⟨old, he⟩ := st.1; ⟨old, q e (by simp) _ he⟩, k.keep st.2 fun o z => q it (by simp) o z⟩
  item := by
    intro X hP hw hK hc i pins s σ H E I hf st hg
    subst hP hw hK
    obtain ⟨xs, x, hq, hx⟩ := hg
    obtain ⟨its, rv, hat, hlt⟩ := k.row I hq
    obtain ⟨u, hu, ru⟩ := rv.get hx
    have hil : i < its.toArray.size := by simpa using (List.getElem?_eq_some_iff.mp hu).1
    have Dr := k.draws (prog := X.prog) (w := X.w) (A := X.A.in1) (show X.A.in1.handled = none from I.ok.hd hc) it a hai its.toArray
    have W := GoesN.enumFrom (elts := elts) (x1 := kk) (pos := tpos) 0 Dr e hne (by simp [hne, Ne.symm hae]) (by simp)
    have ht : ∀ b ∈ [e, it], b < s.heap.objs.size := fun b hb => by
      have e' : b = e ∨ b = it := by simpa using hb
      rcases e' with z | z
      · rw [z]; obtain ⟨old, he⟩ := st.1; exact Heap.lt_size he
      · rw [z]; obtain ⟨o, q, _⟩ := k.obj st.2; exact Heap.lt_size q
    refine wpAny_mono (W.goes i s (fun v s2 => ∃ x H', Inv X pins σ H' s2 ∧ RelV x v ∧ (ItE X.K k a).yld i H x H' ∧ ((∃ old, IsEnum s2.heap e it (0 + ((i + 1 : Nat) : Int)) old) ∧ k.it s2.heap it a (i + 1)) ∧ ∀ b ∈ [e, it], H' b = none) E hil ⟨st.1, st.2, hat⟩ fun v h' tk hY st' hk _ => ?_) (fun r s1 ⟨v, e1, q⟩ => ⟨v, e1, q⟩) fun _ _ z => z
    obtain ⟨T, t, y, ev, hT, hy, hT2⟩ := hY
    subst ev
    have ey : y = u := by
      have : its.toArray[i]? = some u := by simpa using hu
      rw [this] at hy
      exact (Option.some.inj hy).symm
    subst ey
    have new : ObjOk X.prog X.w (upd H T (.tup [.int (i : Nat), x])) h' T (.tup [.int (i : Nat), x]) :=
      ⟨by show 2 ≤ sizeLine; decide, [.int (0 + (i : Int)) t, y], .cons ⟨t, by rw [Int.zero_add]⟩ (.cons ru .nil), hT2⟩
    have I1 := I.turnedNew (t' := tk) (ch := [e, it]) (fun b ob hb q => hk b ob hb q) hf hT new
    refine ⟨.ref T, _, I1, rfl, ⟨T, x, rfl, I.hok.fresh hT, rfl, fun ys hy => by rw [k.inj I hy hq]; exact hx⟩, ⟨st'.1, st'.2.1⟩, fun b hb => ?_⟩
    rw [upd_ne (Nat.ne_of_lt (Nat.lt_of_lt_of_le (ht b hb) hT))]
    exact (hf b hb).1
  done := by
    intro X hP hw hK hc i pins s σ H E I hf st hg
    subst hP hw hK
    obtain ⟨xs, hq, hx⟩ := hg
    obtain ⟨its, rv, hat, hlt⟩ := k.row I hq
    have hl := rv.length
    have Dr := k.draws (prog := X.prog) (w := X.w) (A := X.A.in1) (show X.A.in1.handled = none from I.ok.hd hc) it a hai its.toArray
    have W := GoesN.enumFrom (elts := elts) (x1 := kk) (pos := tpos) 0 Dr e hne (by simp [hne, Ne.symm hae]) (by simp)
    have en : its.toArray.size = i := by simp; omega
    refine wpAny_mono (W.stops s (fun s1 => Inv X pins σ H s1) E (by rw [en]; exact ⟨st.1, st.2, hat⟩) fun h' tk hk _ => ?_) (fun r s1 q => q) fun _ _ z => z
    exact I.turnedL (t' := tk) (ch := [e, it]) (fun b o hb q => hk b o hb q) hf
  self := fun A i s Q E st h => let ⟨⟨_, he⟩, _⟩ := st; wpAny_pyIter_enum he h
/-! ### zip -/
def ItZ (K : PySem.W.Frag) (k1 k2 : SK) (a b : Addr) : It :=
  ⟨fun i H => ∃ (xs ys : List V) (x y : V), k1.rd K H a xs ∧ k2.rd K H b ys ∧ xs[i]? = some x ∧ ys[i]? = some y,
    fun i H v H' => ∃ T x y, v = .ref T ∧ H T = none ∧ H' = upd H T (.tup [x, y]) ∧ (∀ xs, k1.rd K H a xs → xs[i]? = some x) ∧ ∀ ys, k2.rd K H b ys → ys[i]? = some y,
    fun i H => ∃ xs ys : List V, k1.rd K H a xs ∧ k2.rd K H b ys ∧ min xs.length ys.length = i⟩
theorem turn_zipK {P : Program} {w : World} {K : PySem.W.Frag} {elts : List Expr} {kk : Nat} {tpos : Pos} (k1 k2 : SK) {a b z TI TO i1 i2 : Addr} (n1 : a ≠ i1) (n2 : b ≠ i2) (D : ZipSep2 z TI TO i1 i2 [i1, a] [i2, b]) :
    Turn P w K (.Tuple elts kk tpos) (ItZ K k1 k2 a b) [z, TI, TO, i1, i2] z (fun i h => IsZip h z TI TO .none ∧ IsTupOf2 h TI (.ref i1) (.ref i2) ∧ (∃ x y, IsTupOf2 h TO x y) ∧ k1.it h i1 a i ∧ k2.it h i2 b i) where
  mem := by simp
  obj := fun i h st c hc => by
    obtain ⟨hz, hTI, ⟨x, y, hTO⟩, h1, h2⟩ := st
    have e' : c = z ∨ c = TI ∨ c = TO ∨ c = i1 ∨ c = i2 := by simpa using hc
    rcases e' with q | q | q | q | q
    · rw [q]; exact ⟨_, hz, fun v q => nomatch q⟩
    · rw [q]; exact ⟨_, hTI, fun v q => nomatch q⟩
    · rw [q]; exact ⟨_, hTO, fun v q => nomatch q⟩
    · rw [q]; exact k1.obj h1
    · rw [q]; exact k2.obj h2
  keep := fun i h h' st q => by
    obtain ⟨hz, hTI, ⟨x, y, hTO⟩, h1, h2⟩ := st
    exact ⟨q z (by simp) _ hz, q TI (by simp) _ hTI, ⟨x, y, q TO (by simp) _ hTO⟩, k1.keep h1 fun o e => q i1 (by simp) o e, k2.keep h2 fun o e => q i2 (by simp) o e⟩
  item := by
    intro X hP hw hK hc i pins s σ H E I hf st hg
    subst hP hw hK
    obtain ⟨xs, ys, x, y, hqx, hqy, hx, hy⟩ := hg
    obtain ⟨its, rv, hat, _⟩ := k1.row I hqx
    obtain ⟨its2, rv2, hat2, _⟩ := k2.row I hqy
    obtain ⟨u, hu, ru⟩ := rv.get hx
    obtain ⟨u2, hu2, ru2⟩ := rv2.get hy
    have l1 : i < its.toArray.size := by simpa using (List.getElem?_eq_some_iff.mp hu).1
    have l2 : i < its2.toArray.size := by simpa using (List.getElem?_eq_some_iff.mp hu2).1
    have hd : X.A.in1.in1.handled = none := I.ok.hd hc
    have W := GoesN.zip2 (elts := elts) (x1 := kk) (pos := tpos) D (k1.draws (prog := X.prog) (w := X.w) (A := X.A.in1) hd i1 a n1 its.toArray) (k2.draws (prog := X.prog) (w := X.w) (A := X.A.in1) hd i2 b n2 its2.toArray)
    have ht : ∀ c ∈ [z, TI, TO, i1, i2], c < s.heap.objs.size := fun c hc => by
      obtain ⟨hz, hTI, ⟨x, y, hTO⟩, h1, h2⟩ := st
      have e' : c = z ∨ c = TI ∨ c = TO ∨ c = i1 ∨ c = i2 := by simpa using hc
      rcases e' with q | q | q | q | q
      · rw [q]; exact Heap.lt_size hz
      · rw [q]; exact Heap.lt_size hTI
      · rw [q]; exact Heap.lt_size hTO
      · rw [q]; obtain ⟨o, e, _⟩ := k1.obj h1; exact Heap.lt_size e
      · rw [q]; obtain ⟨o, e, _⟩ := k2.obj h2; exact Heap.lt_size e
    have hf' : ∀ c ∈ [z, TO, i1, i2], FpOk X pins H c := fun c hc => hf c (by
      have e' : c = z ∨ c = TO ∨ c = i1 ∨ c = i2 := by simpa using hc
      rcases e' with q | q | q | q <;> simp [q])
    refine wpAny_mono (W.goes i s (fun v s2 => ∃ x H', Inv X pins σ H' s2 ∧ RelV x v ∧ (ItZ X.K k1 k2 a b).yld i H x H' ∧ (IsZip s2.heap z TI TO .none ∧ IsTupOf2 s2.heap TI (.ref i1) (.ref i2) ∧ (∃ x y, IsTupOf2 s2.heap TO x y) ∧ k1.it s2.heap i1 a (i + 1) ∧ k2.it s2.heap i2 b (i + 1)) ∧ ∀ b ∈ [z, TI, TO, i1, i2], H' b = none) E (by omega) ⟨st.1, st.2.1, st.2.2.1, ⟨st.2.2.2.1, hat⟩, st.2.2.2.2, hat2⟩ fun v h' tk hY st' hk _ => ?_) (fun r s1 ⟨v, e1, q⟩ => ⟨v, e1, q⟩) fun _ _ z => z
    obtain ⟨T, v1, v2, ev, hT, hy1, hy2, hT2⟩ := hY
    subst ev
    have ey1 : v1 = u := by
      have : its.toArray[i]? = some u := by simpa using hu
      rw [this] at hy1
      exact (Option.some.inj hy1).symm
    have ey2 : v2 = u2 := by
      have : its2.toArray[i]? = some u2 := by simpa using hu2
      rw [this] at hy2
      exact (Option.some.inj hy2).symm
    subst ey1
    subst ey2
    have new : ObjOk X.prog X.w (upd H T (.tup [x, y])) h' T (.tup [x, y]) :=
      ⟨by show 2 ≤ sizeLine; decide, [v1, v2], .cons ru (.cons ru2 .nil), hT2⟩
    have I1 := I.turnedNew (t' := tk) (ch := [z, TO, i1, i2]) (fun b ob hb q => hk b ob hb q) hf' hT new
    refine ⟨.ref T, _, I1, rfl, ⟨T, x, y, rfl, I.hok.fresh hT, rfl, fun l hl => by rw [k1.inj I hl hqx]; exact hx, fun l hl => by rw [k2.inj I hl hqy]; exact hy⟩, ⟨st'.1, st'.2.1, st'.2.2.1, st'.2.2.2.1.1, st'.2.2.2.2.1⟩, fun b hb => ?_⟩
    rw [upd_ne (Nat.ne_of_lt (Nat.lt_of_lt_of_le (ht b hb) hT))]
    exact (hf b hb).1
  done := by
    intro X hP hw hK hc i pins s σ H E I hf st hg
    subst hP hw hK
    obtain ⟨xs, ys, hqx, hqy, hend⟩ := hg
    obtain ⟨its, rv, hat, _⟩ := k1.row I hqx
    obtain ⟨its2, rv2, hat2, _⟩ := k2.row I hqy
    have l1 := rv.length
    have l2 := rv2.length
    have hd : X.A.in1.in1.handled = none := I.ok.hd hc
    have W := GoesN.zip2 (elts := elts) (x1 := kk) (pos := tpos) D (k1.draws (prog := X.prog) (w := X.w) (A := X.A.in1) hd i1 a n1 its.toArray) (k2.draws (prog := X.prog) (w := X.w) (A := X.A.in1) hd i2 b n2 its2.toArray)
    have hf' : ∀ c ∈ [z, TO, i1, i2], FpOk X pins H c := fun c hc => hf c (by
      have e' : c = z ∨ c = TO ∨ c = i1 ∨ c = i2 := by simpa using hc
      rcases e' with q | q | q | q <;> simp [q])
    have en : min its.toArray.size its2.toArray.size = i := by simp; omega
    refine wpAny_mono (W.stops s (fun s1 => Inv X pins σ H s1) E (by rw [en]; exact ⟨st.1, st.2.1, st.2.2.1, ⟨st.2.2.2.1, hat⟩, st.2.2.2.2, hat2⟩) fun h' tk hk _ => ?_) (fun r s1 q => q) fun _ _ z => z
    exact I.turnedL (t' := tk) (ch := [z, TO, i1, i2]) (fun b o hb q => hk b o hb q) hf'
  self := fun A i s Q E st h => wpAny_pyIter_zip st.1 h
end Ev

end

section
set_option maxRecDepth 100000
/-! Ev10: what is walked: the readings of iterables; targets. -/
namespace Ev
open PySem PySem.Spec PyProof.Rows L2

/-- J walks s -/
structure Walk (G : Gs) (ρ0 : List Addr) (H0 : Hp) (s : Src) (J : It) : Prop where
  stop : ∀ i ρ h H, Rel G ρ h H → Grow ρ0 H0 ρ H → s.here i h = true → s.get i h = none → J.stop i H
  go : ∀ i ρ h H v, Rel G ρ h H → Grow ρ0 H0 ρ H → s.here i h = true → s.get i h = some v → J.go i H ∧ ∀ x H', J.yld i H x H' → Rel G ρ h H' ∧ Grow ρ H ρ H' ∧ RV ρ H' v x
def tDI (G : Gs) (W : WX) (cf : Cf) (f : Ix) : TI := fun τ H R => ∃ ρ σ h, Rel G ρ h H ∧ RSt ρ H σ τ ∧ Post (Walk G) G (fun cls d H' => W cls d τ H') ρ H (f cf σ h) R
section
variable {G : Gs} {ρ0 : List Addr} {h0 : AH} {H0 : Hp}
/-- a list that may be read -/
theorem lst_at {ρ : List Addr} {h : AH} {H : Hp} {n : Nat} {a : Addr} {xs : List Val} (rel : Rel G ρ h H) (hn : ρ[n]? = some a) (e : lstAt h n = some xs) : ∃ ws, SqL G.K H a ws ∧ RVs ρ H xs ws := by
  obtain ⟨o, ho, q⟩ := rel.there hn
  unfold lstAt at e
  rw [ho] at e
  cases o with
  | lst ys =>
    obtain ⟨ws, q1, q2⟩ := q
    cases e
    exact ⟨ws, SqL.of q1, q2⟩
  | fro ys =>
    obtain ⟨o', ws, q1, q2⟩ := q
    cases e
    exact ⟨ws, .inl (.inr ⟨o', q1⟩), q2⟩
  | _ => cases e
theorem walk_list {n : Nat} {a : Addr} (hn : ρ0[n]? = some a) : Walk G ρ0 H0 (.live n) (Itl G.K a) where
  stop := fun i ρ h H rel g hh hg => by
    have hh : (lstAt h n).isSome = true := hh
    obtain ⟨xs, e⟩ := Option.isSome_iff_exists.mp hh
    obtain ⟨ws, q1, q2⟩ := lst_at rel (g.pre n a hn) e
    have hg : ((lstAt h n).bind fun xs => xs[i]?) = none := hg
    rw [e] at hg
    exact ⟨ws, q1, by rw [← q2.length]; exact List.getElem?_eq_none_iff.mp hg⟩
  go := fun i ρ h H v rel g hh hg => by
    have hg : ((lstAt h n).bind fun xs => xs[i]?) = some v := hg
    cases e : lstAt h n with
    | none => rw [e] at hg; cases hg
    | some xs =>
      rw [e] at hg
      obtain ⟨ws, q1, q2⟩ := lst_at rel (g.pre n a hn) e
      obtain ⟨x, hx, rx⟩ := q2.get hg
      refine ⟨⟨ws, x, q1, hx⟩, fun y H' ⟨e1, e2⟩ => ?_⟩
      subst e1
      have e3 := e2 ws q1
      rw [hx] at e3
      cases e3
      exact ⟨rel, Grow.refl _ _, rx⟩
theorem walk_tup {p : Addr} {xs : List Val} {ws : List V} (hp : H0 p = some (.tup ws)) (r : RVs ρ0 H0 xs ws) : Walk G ρ0 H0 (.vals xs) (Itt G.K p) where
  stop := fun i ρ h H rel g hh hg => ⟨ws, SqT.of (g.tup _ _ hp), by rw [← r.length]; exact List.getElem?_eq_none_iff.mp hg⟩
  go := fun i ρ h H v rel g hh hg => by
    obtain ⟨x, hx, rx⟩ := (r.grow g).get (show xs[i]? = some v from hg)
    refine ⟨⟨ws, x, SqT.of (g.tup _ _ hp), hx⟩, fun y H' ⟨e1, e2⟩ => ?_⟩
    subst e1
    have e3 := e2 ws (SqT.of (g.tup _ _ hp))
    rw [hx] at e3
    cases e3
    exact ⟨rel, Grow.refl _ _, rx⟩
theorem walk_str {z : Str} : Walk G ρ0 H0 (.vals (z.cps.toList.map fun c => .str ⟨#[c]⟩)) (Its z) where
  stop := fun i ρ h H rel g hh hg => by
    have hg : (z.cps.toList.map fun c => Val.str ⟨#[c]⟩)[i]? = none := hg
    have := List.getElem?_eq_none_iff.mp hg
    show z.cps.size ≤ i
    simpa using this
  go := fun i ρ h H v rel g hh hg => by
    have hg : (z.cps.toList.map fun c => Val.str ⟨#[c]⟩)[i]? = some v := hg
    rw [List.getElem?_map] at hg
    cases e : z.cps.toList[i]? with
    | none => rw [e] at hg; cases hg
    | some c =>
      rw [e] at hg
      cases hg
      have hl := (List.getElem?_eq_some_iff.mp e).1
      refine ⟨show i < z.cps.size by simpa using hl, fun y H' ⟨e1, c', e2, e3⟩ => ?_⟩
      subst e1
      have e4 : z.cps[i]? = some c := by rw [← Array.getElem?_toList]; exact e
      rw [e4] at e2
      cases e2
      subst e3
      exact ⟨rel, Grow.refl _ _, .str _⟩
theorem rangeVals_get {lo c : Int} {n i : Nat} : (rangeVals lo n c)[i]? = if i < n then some (.int (lo + (i : Int) * c)) else none := by
  unfold rangeVals
  rw [List.getElem?_map]
  by_cases h : i < n
  · rw [if_pos h, List.getElem?_range h]; rfl
  · rw [if_neg h, List.getElem?_eq_none (by simpa using h)]; rfl
theorem walk_rng {lo : Int} {n : Nat} : Walk G ρ0 H0 (.vals (rangeVals lo n 1)) (Itr lo n) where
  stop := fun i ρ h H rel g hh hg => by
    have hg : (rangeVals lo n 1)[i]? = none := hg
    rw [rangeVals_get] at hg
    by_cases h : i < n
    · rw [if_pos h] at hg; cases hg
    · exact Nat.le_of_not_lt h
  go := fun i ρ h H v rel g hh hg => by
    have hg : (rangeVals lo n 1)[i]? = some v := hg
    rw [rangeVals_get] at hg
    by_cases h : i < n
    · rw [if_pos h] at hg
      cases hg
      refine ⟨h, fun y H' ⟨e1, e2⟩ => ?_⟩
      subst e1
      subst e2
      rw [Int.mul_one]
      exact ⟨rel, Grow.refl _ _, .int _⟩
    · rw [if_neg h] at hg; cases hg
theorem walk_rngC {lo c : Int} {n : Nat} : Walk G ρ0 H0 (.vals (rangeVals lo n c)) (Itc lo c n) where
  stop := fun i ρ h H rel g hh hg => by
    have hg : (rangeVals lo n c)[i]? = none := hg
    rw [rangeVals_get] at hg
    by_cases h : i < n
    · rw [if_pos h] at hg; cases hg
    · exact Nat.le_of_not_lt h
  go := fun i ρ h H v rel g hh hg => by
    have hg : (rangeVals lo n c)[i]? = some v := hg
    rw [rangeVals_get] at hg
    by_cases h : i < n
    · rw [if_pos h] at hg
      cases hg
      refine ⟨h, fun y H' ⟨e1, e2⟩ => ?_⟩
      subst e1
      subst e2
      exact ⟨rel, Grow.refl _ _, .int _⟩
    · rw [if_neg h] at hg; cases hg
/-! ### rows -/
/-- the row stands at a -/
def RowAt (ρ : List Addr) (H : Hp) : Row → SK → Addr → Prop
  | .t xs, .t, a => ∃ ws, H a = some (.tup ws) ∧ RVs ρ H xs ws
  | .l n, .l, a => ρ[n]? = some a
  | _, _, _ => False
theorem RowAt.grow {ρ1 : List Addr} {H1 : Hp} {r : Row} {k : SK} {a : Addr} (q : RowAt ρ0 H0 r k a) (g : Grow ρ0 H0 ρ1 H1) : RowAt ρ1 H1 r k a := by
  cases r <;> cases k <;> first
    | exact q.elim
    | exact g.pre _ _ q
    | (obtain ⟨ws, q1, q2⟩ := q; exact ⟨ws, g.tup _ _ q1, q2.grow g⟩)
theorem RowAt.rd {ρ : List Addr} {h : AH} {H : Hp} {r : Row} {k : SK} {a : Addr} {xs : List Val} (q : RowAt ρ H r k a) (rel : Rel G ρ h H) (e : r.at h = some xs) : ∃ ws, k.rd G.K H a ws ∧ RVs ρ H xs ws := by
  cases r <;> cases k <;> first
    | exact q.elim
    | exact lst_at rel q e
    | (obtain ⟨ws, q1, q2⟩ := q; cases e; exact ⟨ws, SqT.of q1, q2⟩)
theorem row_at {ρ : List Addr} {h : AH} {H : Hp} {v : Val} {x : V} {r : Row} (rel : Rel G ρ h H) (rv : RV ρ H v x) (e : rowOf v h = some r) : ∃ k a, x = .ref a ∧ RowAt ρ H r k a ∧ ∃ ws, k.rd G.K H a ws := by
  cases rv with
  | @tup xs p ws hp rs => cases e; exact ⟨.t, p, rfl, ⟨ws, hp, rs⟩, ws, SqT.of hp⟩
  | @ref n a hn =>
    have e : ((lstAt h n).map fun _ => Row.l n) = some r := e
    cases q : lstAt h n with
    | none => rw [q] at e; cases e
    | some xs =>
      rw [q] at e
      cases e
      obtain ⟨ws, q1, _⟩ := lst_at rel hn q
      exact ⟨.l, a, rfl, hn, ws, q1⟩
  | _ => cases e
theorem walk_en {r : Row} {k : SK} {a : Addr} (q : RowAt ρ0 H0 r k a) : Walk G ρ0 H0 (.en r) (ItE G.K k a) where
  stop := fun i ρ h H rel g hh hg => by
    have hh : (match r.at h with
      | some xs => decide (i ≤ xs.length)
      | none => false) = true := hh
    have hg : ((r.at h).bind fun xs => (xs[i]?).map fun v => Val.tup [.int i, v]) = none := hg
    cases e : r.at h with
    | none => rw [e] at hh; cases hh
    | some xs =>
      rw [e] at hh hg
      obtain ⟨ws, q1, q2⟩ := (q.grow g).rd rel e
      have hh : i ≤ xs.length := of_decide_eq_true hh
      have hg : ((xs[i]?).map fun v => Val.tup [.int i, v]) = none := hg
      have h2 : xs[i]? = none := by simpa using hg
      have := List.getElem?_eq_none_iff.mp h2
      exact ⟨ws, q1, by rw [← q2.length]; omega⟩
  go := fun i ρ h H v rel g hh hg => by
    have hg : ((r.at h).bind fun xs => (xs[i]?).map fun v => Val.tup [.int i, v]) = some v := hg
    cases e : r.at h with
    | none => rw [e] at hg; cases hg
    | some xs =>
      rw [e] at hg
      obtain ⟨ws, q1, q2⟩ := (q.grow g).rd rel e
      have hg : ((xs[i]?).map fun v => Val.tup [.int i, v]) = some v := hg
      cases e2 : xs[i]? with
      | none => rw [e2] at hg; cases hg
      | some y =>
        rw [e2] at hg
        cases hg
        obtain ⟨x, hx, rx⟩ := q2.get e2
        refine ⟨⟨ws, x, q1, hx⟩, fun z H' ⟨T, x', e3, e4, e5, e6⟩ => ?_⟩
        subst e3
        subst e5
        have e7 := e6 ws q1
        rw [hx] at e7
        cases e7
        have g2 : Grow ρ H ρ (upd H T (.tup [.int (i : Nat), x])) := grow_upd (by rw [e4]; trivial)
        exact ⟨rel.aside e4, g2, .tup upd_same (.cons (.int _) (.cons (rx.grow g2) .nil))⟩
theorem walk_zp {r s : Row} {k l : SK} {a b : Addr} (q : RowAt ρ0 H0 r k a) (p : RowAt ρ0 H0 s l b) : Walk G ρ0 H0 (.zp r s) (ItZ G.K k l a b) where
  stop := fun i ρ h H rel g hh hg => by
    have hh : (match r.at h, s.at h with
      | some xs, some ys => decide (i ≤ min xs.length ys.length)
      | _, _ => false) = true := hh
    have hg : ((r.at h).bind fun xs => (s.at h).bind fun ys => (xs[i]?).bind fun v => (ys[i]?).map fun u => Val.tup [v, u]) = none := hg
    cases e : r.at h with
    | none => rw [e] at hh; cases hh
    | some xs =>
      cases f : s.at h with
      | none => rw [e, f] at hh; cases hh
      | some ys =>
        rw [e, f] at hh hg
        obtain ⟨ws, q1, q2⟩ := (q.grow g).rd rel e
        obtain ⟨us, p1, p2⟩ := (p.grow g).rd rel f
        have hh : i ≤ min xs.length ys.length := of_decide_eq_true hh
        have hg : ((xs[i]?).bind fun v => (ys[i]?).map fun u => Val.tup [v, u]) = none := hg
        refine ⟨ws, us, q1, p1, ?_⟩
        rw [← q2.length, ← p2.length]
        by_cases hlt : i < min xs.length ys.length
        · have l1 : i < xs.length := by omega
          have l2 : i < ys.length := by omega
          rw [List.getElem?_eq_getElem l1, List.getElem?_eq_getElem l2] at hg
          cases hg
        · omega
  go := fun i ρ h H v rel g hh hg => by
    have hg : ((r.at h).bind fun xs => (s.at h).bind fun ys => (xs[i]?).bind fun v => (ys[i]?).map fun u => Val.tup [v, u]) = some v := hg
    cases e : r.at h with
    | none => rw [e] at hg; cases hg
    | some xs =>
      cases f : s.at h with
      | none => rw [e, f] at hg; cases hg
      | some ys =>
        rw [e, f] at hg
        obtain ⟨ws, q1, q2⟩ := (q.grow g).rd rel e
        obtain ⟨us, p1, p2⟩ := (p.grow g).rd rel f
        have hg : ((xs[i]?).bind fun v => (ys[i]?).map fun u => Val.tup [v, u]) = some v := hg
        cases e2 : xs[i]? with
        | none => rw [e2] at hg; cases hg
        | some y =>
          cases f2 : ys[i]? with
          | none => rw [e2, f2] at hg; cases hg
          | some u =>
            rw [e2, f2] at hg
            cases hg
            obtain ⟨x, hx, rx⟩ := q2.get e2
            obtain ⟨x2, hx2, rx2⟩ := p2.get f2
            refine ⟨⟨ws, us, x, x2, q1, p1, hx, hx2⟩, fun z H' ⟨T, x', x2', e3, e4, e5, e6, f6⟩ => ?_⟩
            subst e3
            subst e5
            have e7 := e6 ws q1
            rw [hx] at e7
            cases e7
            have f7 := f6 us p1
            rw [hx2] at f7
            cases f7
            have g2 : Grow ρ H ρ (upd H T (.tup [x, x2])) := grow_upd (by rw [e4]; trivial)
            exact ⟨rel.aside e4, g2, .tup upd_same (.cons (rx.grow g2) (.cons (rx2.grow g2) .nil))⟩
end

/-! ### the iterables -/
section
variable {X : Cx} {G : Gs} {W : WX} {cf : Cf} {a b : Expr} {fa fb : Ex} {pos p tpos : Pos} {tg : Expr} {elts : List Expr} {kk : Nat} {ra : Ax}
theorem PI.le {e : Expr} {t t' : TI} (h : PI X tg e t) (f : ∀ τ H R, t' τ H R → t τ H R) : PI X tg e t' := ⟨fun pins s τ H R I q => h.run pins s τ H R I (f τ H R q)⟩
def iAny (K : PySem.W.Frag) (tl : TE) : TI := fun σ H R => tl σ H fun x H1 => (∃ a, x = .ref a ∧ (∃ xs, SqL K H1 a xs) ∧ R (Itl K a) H1) ∨ (∃ a, x = .ref a ∧ (∃ xs, SqT K H1 a xs) ∧ R (Itt K a) H1) ∨ (∃ z, x = .str z ∧ R (Its z) H1) ∨ ∃ a lo hi, x = .ref a ∧ H1 a = some (.rng lo hi) ∧ (-(2 ^ 62) ≤ lo ∧ lo < 2 ^ 62 ∧ -(2 ^ 62) ≤ hi ∧ hi < 2 ^ 62) ∧ R (Itr lo (hi - lo).toNat) H1
theorem pi_any {e : Expr} {tl : TE} (hl : PE X e tl) : PI X tg e (iAny X.K tl) := by
  refine ⟨fun pins s σ H R I h => ?_⟩
  refine thn (hl.run pins s σ H _ I h) fun v s1 ⟨x, H1, I1, r1, q1⟩ => ?_
  rcases q1 with ⟨a, e, ⟨xs, hq⟩, q⟩ | ⟨a, e, ⟨xs, hq⟩, q⟩ | ⟨z, ez, q⟩ | ⟨a, lo, hi, e, hp, ⟨b1, b2, b3, b4⟩, q⟩
  · subst e
    cases r1
    obtain ⟨its, rv, p, hz⟩ := I1.list hq
    exact wpAny_pyIter_list p.isList (pi_one (tk := s1.toks) I1 _ (turn_list a _) ⟨_, Heap.get?_push_size _ rfl, rfl, rfl⟩ q)
  · subst e
    cases r1
    obtain ⟨its, rv, p, hz⟩ := I1.tuple hq
    exact wpAny_pyIter_tuple (show s1.heap.IsTuple a its.toArray from p) (pi_one (tk := s1.toks) I1 _ (turn_tuple a _) ⟨_, Heap.get?_push_size _ rfl, rfl, rfl⟩ q)
  · subst ez
    obtain ⟨t, rfl⟩ := r1
    cases ha : z.cps.all (· < 128)
    · exact wpAny_pyIter_wide ha (pi_one (tk := s1.toks) I1 _ (turn_str _ z t "str_iterator" (.inr rfl)) ⟨_, Heap.get?_push_size _ rfl, rfl, rfl⟩ q)
    · exact wpAny_pyIter_ascii ha (pi_one (tk := s1.toks) I1 _ (turn_str _ z t "str_ascii_iterator" (.inl rfl)) ⟨_, Heap.get?_push_size _ rfl, rfl, rfl⟩ q)
  · subst e
    cases r1
    obtain ⟨t, u, w, hr⟩ : ∃ t u w, IsRange s1.heap a lo hi 1 t u w := I1.hok a _ hp
    refine wpAny_pyIter_range hr (small_one b1 b2 b3 b4) (pi_one (tk := s1.toks) I1 _ (turn_range _ lo (hi - lo).toNat) ?_ q)
    have e1 : lo + ((0 : Nat) : Int) * 1 = lo := by simp
    have e2 : (((hi - lo).toNat : Nat) : Int) - ((0 : Nat) : Int) = Builtin.Range.rangeSize lo hi 1 := by rw [rangeSize_one]; split <;> omega
    show IsRangeIter _ _ (lo + ((0 : Nat) : Int) * 1) ((((hi - lo).toNat : Nat) : Int) - ((0 : Nat) : Int)) 1
    rw [e1, e2]
    exact Heap.get?_push_size _ rfl
theorem ite_post {α β : Type} {R2 : List Addr → Hp → α → β → Prop} {Wd : Value → Option Addr → Hp → Prop} {ρ : List Addr} {H : Hp} {Q : β → Hp → Prop} {c : Bool} {o : Out α} (p : Post R2 G Wd ρ H (if c then o else .bad) Q) : c = true ∧ Post R2 G Wd ρ H o Q := by
  cases c with
  | true => exact ⟨rfl, p⟩
  | false => exact p.elim
theorem di_val (hK : X.K = G.K) (ha : PE X a (tD G W cf fa)) : PI X tg a (tDI G W cf (iVal fa)) :=
  PI.le (pi_any ha) fun τ H R ⟨ρ, σ, h, rel, rs, q⟩ => Post1 rel rs q fun x H1 ρ1 v h1 rel1 g1 rv p1 => by
    rw [hK]
    cases rv with
    | @tup xs p ws hp rs => exact .inr (.inl ⟨p, rfl, ⟨ws, SqT.of hp⟩, p1 ρ1 H1 _ rel1 (Grow.refl _ _) (walk_tup hp rs)⟩)
    | @ref n a hn =>
      have p1 : Post (Walk G) G (fun cls d H' => W cls d τ H') ρ1 H1 (match lstAt h1 n with
        | some _ => .ok (.live n) h1
        | none => .bad) R := p1
      cases e : lstAt h1 n with
      | none => rw [e] at p1; exact p1.elim
      | some xs =>
        rw [e] at p1
        obtain ⟨ws, q1, _⟩ := lst_at rel1 hn e
        exact .inl ⟨a, rfl, ⟨ws, q1⟩, p1 ρ1 H1 _ rel1 (Grow.refl _ _) (walk_list hn)⟩
    | str z => exact .inr (.inr (.inl ⟨z, rfl, p1 ρ1 H1 _ rel1 (Grow.refl _ _) walk_str⟩))
    | @rng lo hi p hp =>
      obtain ⟨c, p2⟩ := ite_post (show Post (Walk G) G (fun cls d H' => W cls d τ H') ρ1 H1 (if small62 lo && small62 hi then .ok (.vals (rangeVals lo (hi - lo).toNat 1)) h1 else .bad) R from p1)
      rw [Bool.and_eq_true] at c
      obtain ⟨c1, c2⟩ := small62_ok c.1
      obtain ⟨c3, c4⟩ := small62_ok c.2
      exact .inr (.inr (.inr ⟨p, lo, hi, rfl, hp, ⟨c1, c2, c3, c4⟩, p2 ρ1 H1 _ rel1 (Grow.refl _ _) walk_rng⟩))
    | _ => exact p1.elim
theorem di_range1 (hg : Gl X "range") (hm : X.mg "range" = none) (ha : PA X [a] (tDA G W cf ra)) (hs : starEach [a] X.env = [(false, eval a X.env)] := by rfl) : PI X tg (.Call (.Name "range" p) [a] [] pos) (tDI G W cf (iRange1 ra)) :=
  PI.le (pi_range1 hg hm ha hs) fun τ H R ⟨ρ, σ, h, rel, rs, q⟩ => PostA rel rs q fun xs H1 ρ1 vs h1 rel1 g1 rv p1 => by
    cases rv with
    | nil => exact p1.elim
    | cons r rr =>
      cases rr with
      | nil =>
        cases r with
        | int j =>
          obtain ⟨c, p2⟩ := ite_post (show Post (Walk G) G (fun cls d H' => W cls d τ H') ρ1 H1 (if small62 j then .ok (.vals (rangeVals 0 j.toNat 1)) h1 else .bad) R from p1)
          obtain ⟨c1, c2⟩ := small62_ok c
          exact ⟨j, rfl, c1, c2, p2 ρ1 H1 _ rel1 (Grow.refl _ _) walk_rng⟩
        | _ => exact p1.elim
      | cons r2 rr => cases r <;> exact p1.elim
theorem di_range2 (hg : Gl X "range") (hm : X.mg "range" = none) (ha : PA X [a, b] (tDA G W cf ra)) (hs : starEach [a, b] X.env = [(false, eval a X.env), (false, eval b X.env)] := by rfl) (hs2 : starEach [b] X.env = [(false, eval b X.env)] := by rfl) :
    PI X tg (.Call (.Name "range" p) [a, b] [] pos) (tDI G W cf (iRange2 ra)) :=
  PI.le (pi_range2 hg hm ha hs hs2) fun τ H R ⟨ρ, σ, h, rel, rs, q⟩ => PostA rel rs q fun xs H1 ρ1 vs h1 rel1 g1 rv p1 => by
    cases rv with
    | nil => exact p1.elim
    | cons r rr =>
      cases rr with
      | nil => cases r <;> exact p1.elim
      | cons r2 rr =>
        cases rr with
        | nil =>
          cases r with
          | int i =>
            cases r2 with
            | int j =>
              obtain ⟨c, p2⟩ := ite_post (show Post (Walk G) G (fun cls d H' => W cls d τ H') ρ1 H1 (if small62 i && small62 j then .ok (.vals (rangeVals i (j - i).toNat 1)) h1 else .bad) R from p1)
              rw [Bool.and_eq_true] at c
              obtain ⟨c1, c2⟩ := small62_ok c.1
              obtain ⟨c3, c4⟩ := small62_ok c.2
              exact ⟨i, j, rfl, ⟨c1, c2, c3, c4⟩, p2 ρ1 H1 _ rel1 (Grow.refl _ _) walk_rng⟩
            | _ => exact p1.elim
          | _ => cases r2 <;> exact p1.elim
        | cons r3 rr => cases r <;> cases r2 <;> exact p1.elim
theorem di_range3 {c : Expr} (hg : Gl X "range") (hm : X.mg "range" = none) (ha : PA X [a, b, c] (tDA G W cf ra))
    (hs : starEach [a, b, c] X.env = (false, eval a X.env) :: starEach [b, c] X.env := by rfl) (hpl : (backTo pos (starEach [b, c] X.env)).any (·.1) = false := by rfl) :
    PI X tg (.Call (.Name "range" p) [a, b, c] [] pos) (tDI G W cf (iRange3n ra)) :=
  PI.le (pi_range3 hg hm ha hs hpl) fun τ H R ⟨ρ, σ, h, rel, rs, q⟩ => PostA rel rs q fun xs H1 ρ1 vs h1 rel1 g1 rv p1 => by
    match vs, rv, p1 with
    | [.int i, .int j, .int c], .cons (.int _) (.cons (.int _) (.cons (.int _) .nil)), p1 =>
      obtain ⟨c', p2⟩ := ite_post (show Post (Walk G) G (fun cls d H' => W cls d τ H') ρ1 H1 (if small62 i && small62 j && decide (c = -1) then .ok (.vals (rangeVals i (i - j).toNat (-1))) h1 else .bad) R from p1)
      rw [Bool.and_eq_true, Bool.and_eq_true] at c'
      obtain ⟨c1, c2⟩ := small62_ok c'.1.1
      obtain ⟨c3, c4⟩ := small62_ok c'.1.2
      have e := of_decide_eq_true c'.2
      subst e
      exact ⟨i, j, -1, _, rfl, RgC.neg c1 c2 c3 c4, p2 ρ1 H1 _ rel1 (Grow.refl _ _) walk_rngC⟩
def iEnumK (K : PySem.W.Frag) (ta : TA) : TI := fun σ H R => ta σ H fun vs H1 => ∃ k a ws, vs = [.ref a] ∧ SK.rd k K H1 a ws ∧ R (ItE K k a) H1
theorem SK.free_ob (k : SK) (a : Addr) : (k.ob a).isFreed = false := by cases k <;> rfl
theorem pi_enumK {e : Expr} {ta : TA} (hg : Gl X "enumerate") (hm : X.mg "enumerate" = none) (ha : PA X [e] ta) (hs : starEach [e] X.env = [(false, eval e X.env)] := by rfl) :
    PI X (.Tuple elts kk tpos) (.Call (.Name "enumerate" p) [e] [] pos) (iEnumK X.K ta) := by
  refine ⟨fun pins s σ H R I h => ?_⟩
  refine Call_ (ld_blt I hg hm boot_enumerate (PyProof.Rows.callWith_type1 (thn (ha.run pos pins s σ H _ I h) fun us s1 ⟨vs, H1, I1, r1, q1⟩ => ?_) hs rfl))
  obtain ⟨k, a, ws, ex, hq, q⟩ := q1
  subst ex
  cases r1 with
  | cons r rr =>
    cases rr
    cases r
    obtain ⟨its, rv, hat, hlt⟩ := k.row I1 hq
    refine callType_new F.called_enumerate (by decide) (F.typeCall_enumerate_1 _) (F.newCall_enumerate_1 _) (fun obj => F.args_object_init_2 obj _) F.entry_enumerate_new (enum_new1 (k.begins a its.toArray)) ⟨hat, ?_⟩
    have hz : (s1.heap.push (k.ob a)).objs.size = s1.heap.objs.size + 1 := Heap.size_push ..
    show _ ∧ _
    rw [hz]
    have he : IsEnum ((s1.heap.push (k.ob a)).push { cls := .type "enumerate", data := .fields #[.none, .bool false, .ref s1.heap.objs.size, rawInt 0, .none, .none] }) (s1.heap.objs.size + 1) s1.heap.objs.size (0 + ((0 : Nat) : Int)) .none := by
      have := Heap.get?_push_size (s1.heap.push (k.ob a)) (o := { cls := .type "enumerate", data := .fields #[.none, .bool false, .ref s1.heap.objs.size, rawInt 0, .none, .none] }) rfl
      rw [hz] at this; exact this
    have hit : ((s1.heap.push (k.ob a)).push { cls := .type "enumerate", data := .fields #[.none, .bool false, .ref s1.heap.objs.size, rawInt 0, .none, .none] }).get? s1.heap.objs.size = some (k.ob a) := Heap.get?_push_of_some _ (Heap.get?_push_size _ (k.free_ob a))
    refine ⟨⟨_, he, rfl⟩, wpAny_pyIter_enum he ?_⟩
    have I2 : Inv X pins σ H1 { s1 with heap := (s1.heap.push (k.ob a)).push { cls := .type "enumerate", data := .fields #[.none, .bool false, .ref s1.heap.objs.size, rawInt 0, .none, .none] } } := I1.kept (t' := s1.toks) fun b o x => Heap.get?_push_of_some _ (Heap.get?_push_of_some _ x)
    refine ⟨s1.heap.objs.size + 1, [s1.heap.objs.size + 1, s1.heap.objs.size], _, _, H1, rfl, I2, turn_enumK k a (s1.heap.objs.size + 1) s1.heap.objs.size (Nat.succ_ne_self _) (Nat.ne_of_lt (Nat.lt_succ_of_lt hlt)) (Nat.ne_of_lt hlt), ⟨⟨.none, he⟩, k.start hit⟩, fun b hb => ?_, q⟩
    have e' : b = s1.heap.objs.size + 1 ∨ b = s1.heap.objs.size := by simpa using hb
    have hle : s1.heap.objs.size ≤ b := by
      rcases e' with z | z
      · rw [z]; exact Nat.le_add_right _ _
      · rw [z]; exact Nat.le_refl _
    exact I1.fpOk hle (I1.hok.fresh hle)
def iZipK (K : PySem.W.Frag) (ta : TA) : TI := fun σ H R => ta σ H fun vs H1 => ∃ k l a b xs ys, vs = [.ref a, .ref b] ∧ SK.rd k K H1 a xs ∧ SK.rd l K H1 b ys ∧ R (ItZ K k l a b) H1
theorem pi_zipK {e e2 : Expr} {ta : TA} (hg : Gl X "zip") (hm : X.mg "zip" = none) (ha : PA X [e, e2] ta)
    (hs : starEach [e, e2] X.env = (false, eval e X.env) :: starEach [e2] X.env := by rfl) (hpl : (backTo pos (starEach [e2] X.env)).any (·.1) = false := by rfl) :
    PI X (.Tuple elts kk tpos) (.Call (.Name "zip" p) [e, e2] [] pos) (iZipK X.K ta) := by
  refine ⟨fun pins s σ H R I h => ?_⟩
  refine Call_ (ld_blt I hg hm PyProof.Rows.boot_zip (PyProof.Rows.callWith_type1 (thn (ha.run pos pins s σ H _ I h) fun us s1 ⟨vs, H1, I1, r1, q1⟩ => ?_) hs hpl))
  obtain ⟨k, l, a, b, xs, ys, ex, hqx, hqy, q⟩ := q1
  subst ex
  cases r1 with
  | cons r rr =>
    cases rr with
    | cons r' rr =>
      cases rr
      cases r
      cases r'
      obtain ⟨its, rv, p1, la⟩ := k.row I1 hqx
      obtain ⟨its2, rv2, p2, lb⟩ := l.row I1 hqy
      refine zip_begins2 (k.begins a its.toArray) (l.begins b its2.toArray) p1 p2 fun h' hz hTI hTO h1 h2 hsz hk => wpAny_pyIter_zip hz ?_
      have I2 : Inv X pins σ H1 { s1 with heap := h' } := I1.kept (t' := s1.toks) hk
      refine ⟨s1.heap.objs.size + 4, [s1.heap.objs.size + 4, s1.heap.objs.size + 2, s1.heap.objs.size + 3, s1.heap.objs.size, s1.heap.objs.size + 1], _, _, H1, rfl, I2,
        turn_zipK k l (Nat.ne_of_lt la) (Nat.ne_of_lt (Nat.lt_succ_of_lt lb)) (zip_sep2 (fun c hc => by rw [List.mem_singleton.mp hc]; exact la) (fun c hc => by rw [List.mem_singleton.mp hc]; exact lb)), ⟨hz, hTI, ⟨_, _, hTO⟩, k.start h1, l.start h2⟩, fun c hcm => ?_, q⟩
      have e' : c = s1.heap.objs.size + 4 ∨ c = s1.heap.objs.size + 2 ∨ c = s1.heap.objs.size + 3 ∨ c = s1.heap.objs.size ∨ c = s1.heap.objs.size + 1 := by simpa using hcm
      have hle : s1.heap.objs.size ≤ c := by
        rcases e' with z | z | z | z | z
        · rw [z]; exact Nat.le_add_right _ _
        · rw [z]; exact Nat.le_add_right _ _
        · rw [z]; exact Nat.le_add_right _ _
        · rw [z]; exact Nat.le_refl _
        · rw [z]; exact Nat.le_add_right _ _
      exact I1.fpOk hle (I1.hok.fresh hle)
end
end Ev

end

section
set_option maxRecDepth 100000
/-! Ev11: enumerate, zip; targets; comprehensions. -/
namespace Ev
open PySem PySem.Spec PyProof.Rows L2
section
variable {X : Cx} {G : Gs} {W : WX} {cf : Cf} {a b : Expr} {fa fb : Ex} {pos p tpos : Pos} {tg : Expr} {elts : List Expr} {kk : Nat} {ra : Ax}
theorem di_enum (hK : X.K = G.K) (hg : Gl X "enumerate") (hm : X.mg "enumerate" = none) (ha : PE X a (tD G W cf fa)) (hp : plainArg a = true) :
    PI X (.Tuple elts kk tpos) (.Call (.Name "enumerate" p) [a] [] pos) (tDI G W cf (iEnum fa)) :=
  PI.le (pi_enumK hg hm (da_cons hp ha da_nil) (star_cons hp)) fun τ H R ⟨ρ, σ, h, rel, rs, q⟩ => by
    have q : Post (Walk G) G (fun cls d H' => W cls d τ H') ρ H ((fa cf σ h).bind fun x h1 => (Out.of (rowOf x h1) h1).bind fun r h2 => .ok (.en r) h2) R := q
    have q2 : Post (Walk G) G (fun cls d H' => W cls d τ H') ρ H ((aCons fa aNil cf σ h).bind fun xs h1 => match xs with
      | [x] => (Out.of (rowOf x h1) h1).bind fun r h2 => .ok (.en r) h2
      | _ => .bad) R := by
      unfold aCons aNil
      cases e : fa cf σ h with
      | ok v h1 => rw [e] at q; exact q
      | exc c vs h1 => rw [e] at q; exact q
      | bad => rw [e] at q; exact q
    refine PostA rel rs q2 fun xs H1 ρ1 vs h1 rel1 g1 rv p1 => ?_
    match vs, rv, p1 with
    | [v], .cons (w := x) rx .nil, p1 =>
      cases e : rowOf v h1 with
      | none => simp only [e] at p1; exact p1.elim
      | some r =>
        simp only [e, Out.of_some, Out.bind_ok] at p1
        obtain ⟨k, c, e1, e2, ws, e3⟩ := row_at rel1 rx e
        subst e1
        rw [hK]
        exact ⟨k, c, ws, rfl, e3, p1 ρ1 H1 _ rel1 (Grow.refl _ _) (walk_en e2)⟩
theorem di_zip (hK : X.K = G.K) (hg : Gl X "zip") (hm : X.mg "zip" = none) (ha : PE X a (tD G W cf fa)) (hb : PE X b (tD G W cf fb)) (hp : plainArg a = true) (hp2 : plainArg b = true) :
    PI X (.Tuple elts kk tpos) (.Call (.Name "zip" p) [a, b] [] pos) (tDI G W cf (iZip fa fb)) :=
  PI.le (pi_zipK hg hm (da_cons hp ha (da_cons hp2 hb da_nil)) (star_cons hp) (star_any (by simp [hp2]))) fun τ H R ⟨ρ, σ, h, rel, rs, q⟩ => by
    have q : Post (Walk G) G (fun cls d H' => W cls d τ H') ρ H ((fa cf σ h).bind fun x h1 => (fb cf σ h1).bind fun y h2 => (Out.of (rowOf x h2) h2).bind fun r h3 => (Out.of (rowOf y h3) h3).bind fun q h4 => .ok (.zp r q) h4) R := q
    have q2 : Post (Walk G) G (fun cls d H' => W cls d τ H') ρ H ((aCons fa (aCons fb aNil) cf σ h).bind fun xs h2 => match xs with
      | [x, y] => (Out.of (rowOf x h2) h2).bind fun r h3 => (Out.of (rowOf y h3) h3).bind fun q h4 => .ok (.zp r q) h4
      | _ => .bad) R := by
      unfold aCons aNil
      cases e : fa cf σ h with
      | ok v h1 =>
        rw [e] at q
        cases f : fb cf σ h1 with
        | ok v2 h2 => simp only [Out.bind_ok, f] at q ⊢; exact q
        | exc c vs h2 => simp only [Out.bind_ok, f] at q ⊢; exact q
        | bad => simp only [Out.bind_ok, f] at q ⊢; exact q
      | exc c vs h1 => rw [e] at q; exact q
      | bad => rw [e] at q; exact q
    refine PostA rel rs q2 fun xs H1 ρ1 vs h1 rel1 g1 rv p1 => ?_
    match vs, rv, p1 with
    | [v, u], .cons (w := x) rx (.cons (w := y) ry .nil), p1 =>
      cases e : rowOf v h1 with
      | none => simp only [e] at p1; exact p1.elim
      | some r =>
        simp only [e, Out.of_some, Out.bind_ok] at p1
        cases f : rowOf u h1 with
        | none => simp only [f] at p1; exact p1.elim
        | some r2 =>
          simp only [f, Out.of_some, Out.bind_ok] at p1
          obtain ⟨k, c, e1, e2, ws, e3⟩ := row_at rel1 rx e
          obtain ⟨l, c2, f1, f2, ws2, f3⟩ := row_at rel1 ry f
          subst e1
          subst f1
          rw [hK]
          exact ⟨k, l, c, c2, ws, ws2, rfl, e3, f3, p1 ρ1 H1 _ rel1 (Grow.refl _ _) (walk_zp e2 f2)⟩
/-! ### targets -/
/-- the slots are set -/
def setsT : List Nat → List V → L2.St → L2.St
  | i :: is, w :: ws, τ => setsT is ws (τ.set i (some w))
  | _, _, τ => τ
theorem gNames_ok {ρ : List Addr} {H : Hp} : ∀ {is : List Nat} {vs : List Val} {ws : List V} {σ σ' : St} {τ : L2.St}, RVs ρ H vs ws → RSt ρ H σ τ → gNames is vs σ = some σ' → is.length = ws.length ∧ RSt ρ H σ' (setsT is ws τ)
  | [], _, _, _, _, _, .nil, rs, e => by cases e; exact ⟨rfl, rs⟩
  | [], _, _, _, _, _, .cons _ _, rs, e => by cases e
  | i :: is, _, _, _, _, _, .nil, rs, e => by cases e
  | i :: is, _, _, σ, σ', τ, .cons r t, rs, e => by
    have e : gNames is _ (σ.set i (some _)) = some σ' := e
    obtain ⟨h1, h2⟩ := gNames_ok (is := is) t (rs.set r i) e
    exact ⟨by simp [h1], h2⟩
def tgG (K : PySem.W.Frag) : Tg → TG
  | .nm i => L2.gName i
  | .tp is => fun v τ H Q => ∃ a ws, v = .ref a ∧ (SqT K H a ws ∨ SqL K H a ws) ∧ ws.length = is.length ∧ Q (setsT is ws τ) H
theorem tg_ok {ρ : List Addr} {h : AH} {H : Hp} {σ σ' : St} {τ : L2.St} {v : Val} {x : V} {Q : L2.St → Hp → Prop} (g : Tg) (rel : Rel G ρ h H) (rs : RSt ρ H σ τ) (rv : RV ρ H v x) (e : g.put v σ h = some σ') (q : ∀ τ', RSt ρ H σ' τ' → (∃ ws, ws.length = g.ids.length ∧ τ' = setsT g.ids ws τ) → Q τ' H) : tgG G.K g x τ H Q := by
  cases g with
  | nm i =>
    cases e
    exact q _ (rs.set rv i) ⟨[x], rfl, rfl⟩
  | tp is =>
    cases rv with
    | @tup xs p ws hp r =>
      obtain ⟨h1, h2⟩ := gNames_ok r rs e
      exact ⟨p, ws, rfl, .inl (SqT.of hp), h1.symm, q _ h2 ⟨ws, h1.symm, rfl⟩⟩
    | @ref n a hn =>
      have e : ((lstAt h n).bind fun xs => gNames is xs σ) = some σ' := e
      cases e2 : lstAt h n with
      | none => rw [e2] at e; cases e
      | some xs =>
        rw [e2] at e
        obtain ⟨ws, q1, r⟩ := lst_at rel hn e2
        obtain ⟨h1, h2⟩ := gNames_ok r rs e
        exact ⟨a, ws, rfl, .inr q1, h1.symm, q _ h2 ⟨ws, h1.symm, rfl⟩⟩
    | _ => cases e
theorem wipe_set {τ : L2.St} {i : Nat} {o : Option V} : ∀ {vs : List Nat}, i ∈ vs → L2.wipe (τ.set i o) vs = L2.wipe τ vs
  | v :: vs, h => by
    unfold L2.wipe
    by_cases hv : i ∈ vs
    · rw [wipe_set hv]
    · have e : i = v := by
        rcases List.mem_cons.mp h with z | z
        · exact z
        · exact absurd z hv
      subst e
      have : ∀ (vs : List Nat), i ∉ vs → L2.wipe (τ.set i o) vs = (L2.wipe τ vs).set i o := fun vs => by
        induction vs with
        | nil => intro _; rfl
        | cons u us ih =>
          intro hu
          unfold L2.wipe
          rw [ih (fun z => hu (List.mem_cons_of_mem _ z)), List.set_comm _ _ (fun z => hu (by rw [z]; exact List.mem_cons_self))]
      rw [this vs hv, List.set_set]
theorem wipe_idem {τ : L2.St} : ∀ {vs us : List Nat}, (∀ i ∈ us, i ∈ vs) → L2.wipe (L2.wipe τ us) vs = L2.wipe τ vs
  | vs, [], _ => rfl
  | vs, u :: us, h => by
    show L2.wipe ((L2.wipe τ us).set u none) vs = _
    rw [wipe_set (h u List.mem_cons_self)]
    exact wipe_idem fun i hi => h i (List.mem_cons_of_mem _ hi)
theorem wipe_sets : ∀ {is : List Nat} {ws : List V} {τ : L2.St} {vs : List Nat}, (∀ i ∈ is, i ∈ vs) → L2.wipe (setsT is ws τ) vs = L2.wipe τ vs
  | [], _, _, _, _ => by rfl
  | i :: is, [], _, _, _ => rfl
  | i :: is, w :: ws, τ, vs, h => by
    show L2.wipe (setsT is ws (τ.set i (some w))) vs = _
    rw [wipe_sets fun j hj => h j (List.mem_cons_of_mem _ hj), wipe_set (h i List.mem_cons_self)]
theorem rst_wipe {ρ : List Addr} {H : Hp} {σ : St} {τ : L2.St} (rs : RSt ρ H σ τ) : ∀ vs, RSt ρ H (wipe σ vs) (L2.wipe τ vs)
  | [] => rs
  | v :: vs => by
    have ih := rst_wipe rs vs
    refine ⟨by simp [wipe, L2.wipe, ih.len], fun i u e => ?_⟩
    unfold wipe at e
    unfold L2.wipe
    by_cases hi : v = i
    · subst hi
      by_cases hl : v < (wipe σ vs).length
      · rw [List.getElem?_set_self hl] at e; cases e
      · rw [List.getElem?_eq_none (by simpa using hl)] at e; cases e
    · rw [List.getElem?_set_ne hi] at e ⊢
      exact ih.at_ i u e

/-! ### a comprehension's turns -/
theorem turns_ok {s : Src} {J : It} {g : Tg} {bd : St → AH → Option AH} {vs : List Nat} {ρ0 : List Addr} {H0 : Hp} {σ : St} {τ : L2.St} {hf h1 : AH} {ρ1 : List Addr} {H1 : Hp} {k : Nat} {Fin : Hp → Prop} {B : L2.St → Hp → (Hp → Prop) → Prop}
    (wk : Walk G ρ0 H0 s J) (hv : ∀ i ∈ g.ids, i ∈ vs) (rel : Rel G ρ1 h1 H1) (gr : Grow ρ0 H0 ρ1 H1) (rs : RSt ρ1 H1 σ τ) (e : itLoop s g bd vs σ k 0 h1 = some hf)
    (fin : ∀ ρ' H', Rel G ρ' hf H' → Grow ρ1 H1 ρ' H' → Fin H')
    (body : ∀ ρ h H σ2 τ2 h' Nx, Rel G ρ h H → Grow ρ1 H1 ρ H → RSt ρ H σ2 τ2 → L2.wipe τ2 vs = L2.wipe τ vs → bd σ2 h = some h' → (∀ ρ' H', Rel G ρ' h' H' → Grow ρ H ρ' H' → Nx H') → B τ2 H Nx) :
    ∃ W : Nat → Nat → Hp → Prop, (∃ m, W 0 m H1) ∧ ∀ i m H, W i m H →
      (J.stop i H ∧ Fin H) ∨ (J.go i H ∧ ∃ Nx : Hp → Prop, (∀ H', Nx H' → ∃ m', m' < m ∧ W (i + 1) m' H') ∧ ∀ x H', J.yld i H x H' → tgG G.K g x (L2.wipe τ vs) H' fun τ2 H2 => L2.wipe τ2 vs = L2.wipe τ vs ∧ B τ2 H2 Nx) := by
  refine ⟨fun i m H => ∃ ρ h, Rel G ρ h H ∧ Grow ρ1 H1 ρ H ∧ itLoop s g bd vs σ m i h = some hf, ⟨k, ρ1, h1, rel, Grow.refl _ _, e⟩, ?_⟩
  rintro i m H ⟨ρ, h, rl, gg, ei⟩
  unfold itLoop at ei
  by_cases hh : s.here i h = true
  · rw [if_pos hh] at ei
    cases hg : s.get i h with
    | none =>
      simp only [hg] at ei
      cases ei
      exact .inl ⟨wk.stop i ρ _ H rl (gr.trans gg) hh hg, fin ρ H rl gg⟩
    | some v =>
      simp only [hg] at ei
      cases m with
      | zero => cases ei
      | succ m =>
        simp only at ei
        obtain ⟨go, yl⟩ := wk.go i ρ h H v rl (gr.trans gg) hh hg
        cases hp : g.put v (wipe σ vs) h with
        | none => rw [hp] at ei; cases ei
        | some σ2 =>
          rw [hp] at ei
          simp only at ei
          cases hb : bd σ2 h with
          | none => rw [hb] at ei; cases ei
          | some h2 =>
            rw [hb] at ei
            simp only at ei
            refine .inr ⟨go, fun H' => ∃ ρ' , Rel G ρ' h2 H' ∧ Grow ρ1 H1 ρ' H', fun H' ⟨ρ', q1, q2⟩ => ⟨m, Nat.lt_succ_self _, ρ', h2, q1, q2, ei⟩, fun x H' y => ?_⟩
            obtain ⟨rl2, g2, rv⟩ := yl x H' y
            refine tg_ok g rl2 (rst_wipe (rs.grow (gg.trans g2)) vs) rv hp fun τ' rs' ⟨ws, hw, et⟩ => ?_
            have ew : L2.wipe τ' vs = L2.wipe τ vs := by rw [et, wipe_sets hv, wipe_idem fun i hi => hi]
            exact ⟨ew, body ρ h H' σ2 τ' h2 _ rl2 (gg.trans g2) rs' ew hb fun ρ' H'' q1 q2 => ⟨ρ', q1, (gg.trans g2).trans q2⟩⟩
  · rw [if_neg hh] at ei; cases ei
/-- an item is put to the list -/
theorem lcPut_ok {n : Nat} {y : Val} {x : V} {h h' : AH} {ρ : List Addr} {H : Hp} {D : Addr} (rel : Rel G ρ h H) (hn : ρ[n]? = some D) (rv : RV ρ H y x) (e : lcPut n y h = some h') : ∃ acc, H D = some (.lst acc) ∧ acc.length < sizeLine ∧ Rel G ρ h' (upd H D (.lst (acc ++ [x]))) ∧ Grow ρ H ρ (upd H D (.lst (acc ++ [x]))) := by
  unfold lcPut at e
  obtain ⟨o, ho, q⟩ := rel.there hn
  rw [ho] at e
  cases o with
  | lst acc =>
    obtain ⟨ws, q1, q2⟩ := q
    simp only at e
    by_cases hl : acc.length < line
    · rw [if_pos hl] at e
      cases e
      have g : Grow ρ H ρ (upd H D (.lst (ws ++ [x]))) := grow_upd (by rw [q1]; trivial)
      exact ⟨ws, q1, by rw [← q2.length, sizeLine_eq]; exact hl, rel.write hn (by rw [q1]; trivial) ⟨_, upd_same, (q2.append (.cons rv .nil)).grow g⟩, g⟩
    · rw [if_neg hl] at e; cases e
  | _ => cases e
theorem Rel.out_of {ρ : List Addr} {h : AH} {H : Hp} {p : Addr} (rel : Rel G ρ h H) (hp : H p = none) : True := trivial
/-- the test, as a whole -/
theorem tst_ok {t : Tx} {tt : TT} {bd : St → AH → Option AH} {ρ : List Addr} {h h' : AH} {H : Hp} {σ : St} {τ : L2.St} {Nx : Hp → Prop} {B : L2.St → Hp → Prop} (rel : Rel G ρ h H) (rs : RSt ρ H σ τ) (e : tstB t cf bd σ h = some h')
    (ht : ∀ {Q : Bool → Hp → Prop}, tDT G (fun _ _ _ _ => False) cf t τ H Q → tt τ H Q) (nx : ∀ ρ' H', Rel G ρ' h' H' → Grow ρ H ρ' H' → Nx H')
    (body : ∀ ρ1 h1 H1, Rel G ρ1 h1 H1 → Grow ρ H ρ1 H1 → bd σ h1 = some h' → B τ H1) : tt τ H fun b H3 => if b = true then B τ H3 else Nx H3 := by
  refine ht ⟨ρ, σ, h, rel, rs, ?_⟩
  unfold tstB at e
  cases q : t cf σ h with
  | ok b h1 =>
    rw [q] at e
    intro ρ' H' b' r1 g1 eb
    subst eb
    cases b with
    | true => exact body ρ' h1 H' r1 g1 e
    | false => cases e; exact nx ρ' H' r1 g1
  | exc c vs h1 => rw [q] at e; cases e
  | bad => rw [q] at e; cases e
end
end Ev

end

section
set_option maxRecDepth 100000
/-! Ev12: comprehensions. -/
namespace Ev
open PySem PySem.Spec PyProof.Rows L2
/-- no error leaves a block -/
abbrev W0 : WX := fun _ _ _ _ => False
section
variable {X : Cx} {G : Gs} {W : WX} {cf : Cf} {pos : Pos} {elt kx tg iter tg2 iter2 : Expr} {ifs ifs2 : List Expr} {scope : Scope} {own : List (Str × Nat)} {vs2 : List Nat} {ix ix2 : Ix} {g g2 : Tg} {t t2 : Tx} {e ek : Ex}
theorem PTs.le {es : List Expr} {t t' : TT} (h : PTs X es t) (f : ∀ τ H Q, t' τ H Q → t τ H Q) : PTs X es t' := ⟨fun pins s τ H Q I q => h.run pins s τ H Q I (f τ H Q q)⟩
theorem dts_nil : PTs X [] (tDT G W cf tYes) := PTs.le pts_nil fun τ H Q ⟨ρ, σ, h, rel, rs, q⟩ => q ρ H true rel (Grow.refl _ _) rfl
theorem new_lst {ρ : List Addr} {h : AH} {H : Hp} {D : Addr} (rel : Rel G ρ h H) (hD : H D = none) : Rel G (ρ ++ [D]) (h ++ [.lst []]) (upd H D (.lst [])) := rel.new hD ⟨[], upd_same, .nil⟩
theorem new_dic {ρ : List Addr} {h : AH} {H : Hp} {D : Addr} (rel : Rel G ρ h H) (hD : H D = none) : Rel G (ρ ++ [D]) (h ++ [.dic []]) (upd H D (.dK [])) := rel.new hD (.inl ⟨[], upd_same, .nil⟩)
/-- an item's reading -/
theorem lcB_ok {ρ : List Addr} {h h' : AH} {H : Hp} {σ : St} {τ : L2.St} {n : Nat} {D : Addr} {Nx : Hp → Prop} (rel : Rel G ρ h H) (rs : RSt ρ H σ τ) (hn : ρ[n]? = some D) (eb : lcB e cf n σ h = some h') (nx : ∀ ρ' H', Rel G ρ' h' H' → Grow ρ H ρ' H' → Nx H') :
    tD G W0 cf e τ H fun y H4 => ∃ acc, H4 D = some (.lst acc) ∧ acc.length < sizeLine ∧ Nx (upd H4 D (.lst (acc ++ [y]))) := by
  unfold lcB at eb
  refine ⟨ρ, σ, h, rel, rs, ?_⟩
  cases q : e cf σ h with
  | ok y h1 =>
    rw [q] at eb
    intro ρ' H' w r1 g1 rv
    obtain ⟨acc, k1, k2, k3, k4⟩ := lcPut_ok r1 (g1.pre _ _ hn) rv eb
    exact ⟨acc, k1, k2, nx ρ' _ k3 (g1.trans k4)⟩
  | exc c vs h1 => rw [q] at eb; cases eb
  | bad => rw [q] at eb; cases eb
theorem de_lc (hc : X.calm = true) (hN : X.N.Nodup) (hi : PI X tg iter (tDI G W cf ix)) (ok : BlkOk X.N X.env.scope scope own) (hv : ∀ i ∈ g.ids, i ∈ own.map (·.2))
    (hg : ∀ (s : Shared) (H : Hp) (C : Addr) (cl : List (Str × Addr)) (fp : List Addr), PG (X.blk s H scope (compEnvC scope cl C X.env) fp) tg (tgG G.K g)) (ht : ∀ (s : Shared) (H : Hp) (C : Addr) (cl : List (Str × Addr)) (fp : List Addr), PTs (X.blk s H scope (compEnvC scope cl C X.env) fp) ifs (tDT G W0 cf t))
    (he : ∀ (s : Shared) (H : Hp) (C : Addr) (cl : List (Str × Addr)) (fp : List Addr), PE (X.blk s H scope (compEnvC scope cl C X.env) fp) elt (tD G W0 cf e)) (hs : ∀ x, foldedSetIterable iter X.env x = pure x) :
    PE X (.ListComp elt [⟨tg, iter, ifs, 0⟩] scope pos) (tD G W cf (eLc ix g t e (own.map (·.2)))) :=
  PE.le (pe_lc hc hN hi ok hg ht he hs) fun τ H Q ⟨ρ, σ, h, rel, rs, q⟩ => by
    refine ⟨ρ, σ, h, rel, rs, (Post.bind (R1 := Walk G) q).mono fun J H1 ⟨ρ1, s, h1, rel1, g1, wk, p1⟩ D hD => ?_⟩
    cases eq : itLoop s g (tstB t cf (lcB e cf h1.length)) (own.map (·.2)) σ (s.size h1) 0 (h1 ++ [.lst []]) with
    | none => rw [eq] at p1; exact p1.elim
    | some hf =>
      rw [eq] at p1
      have gn : Grow ρ1 H1 (ρ1 ++ [D]) (upd H1 D (.lst [])) := grow_new hD
      exact turns_ok (Fin := Q (.ref D)) (B := fun τ2 H2 Nx => tDT G W0 cf t τ2 H2 fun b H3 => if b = true then tD G W0 cf e τ2 H3 fun y H4 => ∃ acc, H4 D = some (.lst acc) ∧ acc.length < sizeLine ∧ Nx (upd H4 D (.lst (acc ++ [y]))) else Nx H3) wk hv (new_lst rel1 hD) gn ((rs.grow g1).grow gn) eq
        (fun ρ' H' r' g' => p1 ρ' H' _ r' (gn.trans g') (.ref (g'.pre _ _ (new_at rel1)))) fun ρ h H σ2 τ2 h' Nx rel gr rs' _ eb nx =>
          tst_ok (B := fun τ2 H3 => tD G W0 cf e τ2 H3 fun y H4 => ∃ acc, H4 D = some (.lst acc) ∧ acc.length < sizeLine ∧ Nx (upd H4 D (.lst (acc ++ [y])))) rel rs' eb (fun z => z) nx fun ρ1' h1' H1' r1 gg e1 =>
            lcB_ok r1 (rs'.grow gg) ((gr.trans gg).pre _ _ (new_at rel1)) e1 fun ρ'' H'' a b => nx ρ'' H'' a (gg.trans b)
/-- .. and kept under a name on the same line -/
theorem ds_setLc {i : Nat} {y : Str} {py spos : Pos} (hc : X.calm = true) (hN : X.N.Nodup) (hy : X.N[i]? = some y) (hyl : X.env.scope.names.lookup y = some .local)
    (hsw : swapsWith (.ListComp elt [⟨tg, iter, ifs, 0⟩] scope pos) (some (.Name y py)) spos.line X.env = pure true) (hi : PI X tg iter (tDI G W cf ix)) (ok : BlkOk X.N X.env.scope scope own) (hv : ∀ i ∈ g.ids, i ∈ own.map (·.2))
    (hg : ∀ (s : Shared) (H : Hp) (C : Addr) (cl : List (Str × Addr)) (fp : List Addr), PG (X.blk s H scope (compEnvC scope cl C X.env) fp) tg (tgG G.K g)) (ht : ∀ (s : Shared) (H : Hp) (C : Addr) (cl : List (Str × Addr)) (fp : List Addr), PTs (X.blk s H scope (compEnvC scope cl C X.env) fp) ifs (tDT G W0 cf t))
    (he : ∀ (s : Shared) (H : Hp) (C : Addr) (cl : List (Str × Addr)) (fp : List Addr), PE (X.blk s H scope (compEnvC scope cl C X.env) fp) elt (tD G W0 cf e)) (hs : ∀ x, foldedSetIterable iter X.env x = pure x) :
    PS X (.Assign [.Name y py] (.ListComp elt [⟨tg, iter, ifs, 0⟩] scope pos) spos) (tDS G W cf (sAsg (.nm i) (eLc ix g t e (own.map (·.2))))) :=
  PS.le (ps_setLc hc hN hy hyl hsw hi ok hg ht he hs) fun D τ H ⟨ρ, σ, h, rel, rs, q⟩ => by
    have q2 : Post (Walk G) G (fun cls d H' => W cls d τ H') ρ H (ix cf σ h) fun J H1 => ∃ ρ1 s h1, Rel G ρ1 h1 H1 ∧ Grow ρ H ρ1 H1 ∧ Walk G ρ1 H1 s J ∧ ∃ hf, itLoop s g (tstB t cf (lcB e cf h1.length)) (own.map (·.2)) σ (s.size h1) 0 (h1 ++ [.lst []]) = some hf ∧
        ∀ ρ' H' τ', Rel G ρ' hf H' → Grow ρ1 H1 ρ' H' → RSt ρ' H' (σ.set i (some (.ref h1.length))) τ' → D.nx τ' H' := by
      have q : PostS G W ρ H ((eLc ix g t e (own.map (·.2)) cf σ h).to σ fun v h1 => .nx (σ.set i (some v)) h1) D := q
      unfold eLc at q
      cases e1 : ix cf σ h with
      | ok s h1 =>
        rw [e1, Out.bind_ok] at q
        intro ρ1 H1 J r1 g1 wk
        refine ⟨ρ1, s, h1, r1, g1, wk, ?_⟩
        cases e2 : itLoop s g (tstB t cf (lcB e cf h1.length)) (own.map (·.2)) σ (s.size h1) 0 (h1 ++ [.lst []]) with
        | none => simp only [e2] at q; exact q.elim
        | some hf =>
          simp only [e2, Out.to_ok] at q
          exact ⟨hf, rfl, fun ρ' H' τ' a b c => q ρ' H' τ' a (g1.trans b) c⟩
      | exc c vs h1 =>
        rw [e1] at q
        exact fun ρ' H' cls d r g x => q ρ' H' τ cls d r g (rs.grow g) x
      | bad => rw [e1] at q; exact q
    show tDI G W cf ix τ H _
    refine ⟨ρ, σ, h, rel, rs, q2.mono fun J H1 ⟨ρ1, s, h1, rel1, g1, wk, hf, eq, p1⟩ A hA => ?_⟩
    have gn : Grow ρ1 H1 (ρ1 ++ [A]) (upd H1 A (.lst [])) := grow_new hA
    have rs1 := (rs.grow g1).grow gn
    exact turns_ok (Fin := fun H' => D.nx (τ.set i (some (.ref A))) H') (B := fun τ2 H2 Nx => tDT G W0 cf t τ2 H2 fun b H3 => if b = true then tD G W0 cf e τ2 H3 fun y H4 => ∃ acc, H4 A = some (.lst acc) ∧ acc.length < sizeLine ∧ Nx (upd H4 A (.lst (acc ++ [y]))) else Nx H3) wk hv (new_lst rel1 hA) gn rs1 eq
      (fun ρ' H' r' g' => p1 ρ' H' _ r' (gn.trans g') ((rs1.grow g').set (.ref (g'.pre _ _ (new_at rel1))) i)) fun ρ h H σ2 τ2 h' Nx rel gr rs' _ eb nx =>
        tst_ok (B := fun τ2 H3 => tD G W0 cf e τ2 H3 fun y H4 => ∃ acc, H4 A = some (.lst acc) ∧ acc.length < sizeLine ∧ Nx (upd H4 A (.lst (acc ++ [y])))) rel rs' eb (fun z => z) nx fun ρ1' h1' H1' r1 gg e1 =>
          lcB_ok r1 (rs'.grow gg) ((gr.trans gg).pre _ _ (new_at rel1)) e1 fun ρ'' H'' a b => nx ρ'' H'' a (gg.trans b)
/-- an empty dict of tuples as keys is also one of ints and texts -/
theorem PE.conv {x : Expr} {tx : TE} (h : PE X x tx) : PE X x fun τ H Q => tx τ H fun z H' => Q z H' ∨ ∃ D, H' D = some (.dT []) ∧ Q z (upd H' D (.dK [])) :=
  ⟨fun pins s τ H Q I q => thn (h.run pins s τ H _ I q) fun v s1 ⟨x, H1, I1, r1, q1⟩ => by
    rcases q1 with q1 | ⟨D, hD, q1⟩
    · exact ⟨x, H1, I1, r1, q1⟩
    · exact ⟨x, _, tk_empty I1 hD, r1, q1⟩⟩
theorem dcPut_ok {n : Nat} {k v : Val} {x y : V} {h h' : AH} {ρ : List Addr} {H : Hp} {D : Addr} {Nx : Hp → Prop} (rel : Rel G ρ h H) (hn : ρ[n]? = some D) (rk : RV ρ H k x) (rv : RV ρ H v y) (e : dcPut n k v h = some h') (nx : ∀ ρ' H', Rel G ρ' h' H' → Grow ρ H ρ' H' → Nx H') :
    ∃ (R : Hp → Prop), (R H ∨ ∃ D, H D = some (.dT []) ∧ R (upd H D (.dK []))) ∧ ∀ H', R H' → ∃ kvs k', x = kV k' ∧ H' D = some (.dK kvs) ∧ kvs.length < sizeLine ∧ Nx (upd H' D (.dK (putK kvs k' y))) := by
  unfold dcPut at e
  obtain ⟨o, ho, q⟩ := rel.there hn
  rw [ho] at e
  cases o with
  | dic kvs =>
    simp only at e
    by_cases hl : (isKey k && keysK kvs && decide (kvs.length < line)) = true
    · rw [if_pos hl] at e
      cases e
      rw [Bool.and_eq_true, Bool.and_eq_true] at hl
      obtain ⟨⟨l1, l2⟩, l3⟩ := hl
      have l3 := of_decide_eq_true l3
      obtain ⟨key, rfl⟩ := isKey_of l1
      have ek := rk.key
      subst ek
      have main : ∀ (H : Hp) (ks : List (Key × V)), Rel G ρ h H → RV ρ H v y → H D = some (.dK ks) → RK ρ H kvs ks → (∀ ρ' H', Rel G ρ' (h.set n (.dic (dput kvs (keyVal key) v))) H' → Grow ρ H ρ' H' → Nx H') →
          ∃ kvs k', kV key = kV k' ∧ H D = some (.dK kvs) ∧ kvs.length < sizeLine ∧ Nx (upd H D (.dK (putK kvs k' y))) := fun H ks rel rv q1 q2 nx => by
        have g : Grow ρ H ρ (upd H D (.dK (putK ks key y))) := grow_upd (by rw [q1]; trivial)
        have hlen : kvs.length = ks.length := Paired.length q2
        refine ⟨ks, key, rfl, q1, by rw [← hlen, sizeLine_eq]; exact l3, nx ρ _ (rel.write hn (by rw [q1]; trivial) (.inl ⟨_, upd_same, ?_⟩)) g⟩
        exact pairedP (put_rel (fun _ _ => keyVal_inj) rv key q2) fun a b z => ⟨z.1, z.2.grow g⟩
      rcases q with ⟨ks, q1, q2⟩ | ⟨ks, q1, q2⟩
      · exact ⟨fun H' => H' = H, .inl rfl, fun H' eH => by subst eH; exact main _ ks rel rv q1 q2 nx⟩
      · obtain ⟨rfl, rfl⟩ := rt_notK q2 l2
        refine ⟨fun H' => H' = upd H D (.dK []), .inr ⟨D, q1, rfl⟩, fun H' eH => ?_⟩
        subst eH
        have g : Grow ρ H ρ (upd H D (.dK [])) := grow_upd (by rw [q1]; trivial)
        exact main _ [] (write_dic rel hn ho (by rw [q1]; trivial) (.inl ⟨[], upd_same, .nil⟩)) (rv.grow g) upd_same .nil fun ρ' H' a b => nx ρ' H' a (g.trans b)
    · rw [if_neg hl] at e; cases e
  | _ => cases e
theorem dcB_ok {ρ : List Addr} {h h' : AH} {H : Hp} {σ : St} {τ : L2.St} {n : Nat} {D : Addr} {Nx : Hp → Prop} (rel : Rel G ρ h H) (rs : RSt ρ H σ τ) (hn : ρ[n]? = some D) (eb : dcB ek e cf n σ h = some h') (nx : ∀ ρ' H', Rel G ρ' h' H' → Grow ρ H ρ' H' → Nx H') :
    tD G W0 cf ek τ H fun y H4 => tD G W0 cf e τ H4 fun z H5 => (∃ kvs k, y = kV k ∧ H5 D = some (.dK kvs) ∧ kvs.length < sizeLine ∧ Nx (upd H5 D (.dK (putK kvs k z)))) ∨
      ∃ E, H5 E = some (.dT []) ∧ ∃ kvs k, y = kV k ∧ (upd H5 E (.dK [])) D = some (.dK kvs) ∧ kvs.length < sizeLine ∧ Nx (upd (upd H5 E (.dK [])) D (.dK (putK kvs k z))) := by
  unfold dcB at eb
  refine ⟨ρ, σ, h, rel, rs, ?_⟩
  cases q : ek cf σ h with
  | ok y h1 =>
    rw [q] at eb
    intro ρ' H' w r1 g1 rv
    refine ⟨ρ', σ, h1, r1, rs.grow g1, ?_⟩
    simp only at eb
    cases q2 : e cf σ h1 with
    | ok z h2 =>
      rw [q2] at eb
      intro ρ2 H2 w2 r2 g2 rv2
      obtain ⟨R, hR, hk⟩ := dcPut_ok r2 ((g1.trans g2).pre _ _ hn) (rv.grow g2) rv2 eb fun ρ' H' a b => nx ρ' H' a ((g1.trans g2).trans b)
      rcases hR with hR | ⟨E, hE, hR⟩
      · exact .inl (hk _ hR)
      · exact .inr ⟨E, hE, hk _ hR⟩
    | exc c vs h1 => rw [q2] at eb; cases eb
    | bad => rw [q2] at eb; cases eb
  | exc c vs h1 => rw [q] at eb; cases eb
  | bad => rw [q] at eb; cases eb
theorem de_dc (hc : X.calm = true) (hN : X.N.Nodup) (hi : PI X tg iter (tDI G W cf ix)) (ok : BlkOk X.N X.env.scope scope own) (hv : ∀ i ∈ g.ids, i ∈ own.map (·.2))
    (hg : ∀ (s : Shared) (H : Hp) (C : Addr) (cl : List (Str × Addr)) (fp : List Addr), PG (X.blk s H scope (compEnvC scope cl C X.env) fp) tg (tgG G.K g)) (ht : ∀ (s : Shared) (H : Hp) (C : Addr) (cl : List (Str × Addr)) (fp : List Addr), PTs (X.blk s H scope (compEnvC scope cl C X.env) fp) ifs (tDT G W0 cf t))
    (hk : ∀ (s : Shared) (H : Hp) (C : Addr) (cl : List (Str × Addr)) (fp : List Addr), PE (X.blk s H scope (compEnvC scope cl C X.env) fp) kx (tD G W0 cf ek))
    (he : ∀ (s : Shared) (H : Hp) (C : Addr) (cl : List (Str × Addr)) (fp : List Addr), PE (X.blk s H scope (compEnvC scope cl C X.env) fp) elt (tD G W0 cf e)) (hs : ∀ x, foldedSetIterable iter X.env x = pure x) :
    PE X (.DictComp kx elt [⟨tg, iter, ifs, 0⟩] scope pos) (tD G W cf (eDc ix g t ek e (own.map (·.2)))) :=
  PE.le (pe_dc hc hN hi ok hg ht hk (fun s H C cl fp => PE.conv (he s H C cl fp)) hs) fun τ H Q ⟨ρ, σ, h, rel, rs, q⟩ => by
    refine ⟨ρ, σ, h, rel, rs, (Post.bind (R1 := Walk G) q).mono fun J H1 ⟨ρ1, s, h1, rel1, g1, wk, p1⟩ D hD => ?_⟩
    cases eq : itLoop s g (tstB t cf (dcB ek e cf h1.length)) (own.map (·.2)) σ (s.size h1) 0 (h1 ++ [.dic []]) with
    | none => rw [eq] at p1; exact p1.elim
    | some hf =>
      rw [eq] at p1
      have gn : Grow ρ1 H1 (ρ1 ++ [D]) (upd H1 D (.dK [])) := grow_new hD
      exact turns_ok (Fin := Q (.ref D)) (B := fun τ2 H2 Nx => tDT G W0 cf t τ2 H2 fun b H3 => if b = true then tD G W0 cf ek τ2 H3 fun y H4 => tD G W0 cf e τ2 H4 fun z H5 => (∃ kvs k, y = kV k ∧ H5 D = some (.dK kvs) ∧ kvs.length < sizeLine ∧ Nx (upd H5 D (.dK (putK kvs k z)))) ∨
          ∃ E, H5 E = some (.dT []) ∧ ∃ kvs k, y = kV k ∧ (upd H5 E (.dK [])) D = some (.dK kvs) ∧ kvs.length < sizeLine ∧ Nx (upd (upd H5 E (.dK [])) D (.dK (putK kvs k z))) else Nx H3) wk hv (new_dic rel1 hD) gn ((rs.grow g1).grow gn) eq
        (fun ρ' H' r' g' => p1 ρ' H' _ r' (gn.trans g') (.ref (g'.pre _ _ (new_at rel1)))) fun ρ h H σ2 τ2 h' Nx rel gr rs' _ eb nx =>
          tst_ok (B := fun τ2 H3 => tD G W0 cf ek τ2 H3 fun y H4 => tD G W0 cf e τ2 H4 fun z H5 => (∃ kvs k, y = kV k ∧ H5 D = some (.dK kvs) ∧ kvs.length < sizeLine ∧ Nx (upd H5 D (.dK (putK kvs k z)))) ∨
          ∃ E, H5 E = some (.dT []) ∧ ∃ kvs k, y = kV k ∧ (upd H5 E (.dK [])) D = some (.dK kvs) ∧ kvs.length < sizeLine ∧ Nx (upd (upd H5 E (.dK [])) D (.dK (putK kvs k z)))) rel rs' eb (fun z => z) nx fun ρ1' h1' H1' r1 gg e1 =>
            dcB_ok r1 (rs'.grow gg) ((gr.trans gg).pre _ _ (new_at rel1)) e1 fun ρ'' H'' a b => nx ρ'' H'' a (gg.trans b)
end
end Ev

end

section
set_option maxRecDepth 100000
/-! Ev13: statements. -/
namespace Ev
open PySem PySem.Spec PyProof.Rows L2
theorem PostS.grow {G : Gs} {W : WX} {ρ ρ1 : List Addr} {H H1 : Hp} {r : SO} {D : Ends} (p : PostS G W ρ H r D) (g : Grow ρ H ρ1 H1) : PostS G W ρ1 H1 r D := by
  cases r with
  | nx σ h => exact fun ρ' H' τ a b c => p ρ' H' τ a (g.trans b) c
  | rt v h => exact fun ρ' H' w a b c => p ρ' H' w a (g.trans b) c
  | bk σ h => exact fun ρ' H' τ a b c => p ρ' H' τ a (g.trans b) c
  | ct σ h => exact fun ρ' H' τ a b c => p ρ' H' τ a (g.trans b) c
  | ex c vs σ h => exact fun ρ' H' τ cls d a b c e => p ρ' H' τ cls d a (g.trans b) c e
  | bad => exact p
/-- an expression, then the rest -/
theorem PostS.to {α β : Type} {R : List Addr → Hp → α → β → Prop} {G : Gs} {W : WX} {ρ : List Addr} {H : Hp} {o : Out α} {σ : St} {τ : L2.St} {k : α → AH → SO} {D : Ends} (rs : RSt ρ H σ τ) (p : PostS G W ρ H (o.to σ k) D) :
    Post R G (fun cls d H' => W cls d τ H') ρ H o fun b H1 => ∃ ρ1 a h1, Rel G ρ1 h1 H1 ∧ Grow ρ H ρ1 H1 ∧ R ρ1 H1 a b ∧ PostS G W ρ1 H1 (k a h1) D := by
  cases o with
  | ok a h => exact fun ρ' H' b q1 q2 q3 => ⟨ρ', a, h, q1, q2, q3, PostS.grow (r := k a h) p q2⟩
  | exc c vs h => exact fun ρ' H' cls d a b e => p ρ' H' τ cls d a b (rs.grow b) e
  | bad => exact p
theorem PostS.then {G : Gs} {W : WX} {ρ : List Addr} {H : Hp} {o : SO} {k : St → AH → SO} {D : Ends} (p : PostS G W ρ H (o.then k) D) :
    PostS G W ρ H o { D with nx := fun τ H1 => ∃ ρ1 σ h1, Rel G ρ1 h1 H1 ∧ Grow ρ H ρ1 H1 ∧ RSt ρ1 H1 σ τ ∧ PostS G W ρ1 H1 (k σ h1) D } := by
  cases o with
  | nx σ h => exact fun ρ' H' τ a b c => ⟨ρ', σ, h, a, b, c, PostS.grow (r := k σ h) p b⟩
  | _ => exact p
section
variable {X : Cx} {G : Gs} {W : WX} {cf : Cf} {a b c : Expr} {fa fb fc : Ex} {pos p pos' : Pos} {ra : Ax} {st : Stmt} {sts : List Stmt} {sa sb : Sx} {t : Tx}
theorem toE {k : Val → AH → SO} {R : V → Hp → Prop} {ρ : List Addr} {σ : St} {h : AH} {τ : L2.St} {H : Hp} {D : Ends} (rel : Rel G ρ h H) (rs : RSt ρ H σ τ) (p : PostS G W ρ H ((fa cf σ h).to σ k) D)
    (f : ∀ x H1 ρ1 v h1, Rel G ρ1 h1 H1 → Grow ρ H ρ1 H1 → RV ρ1 H1 v x → RSt ρ1 H1 σ τ → PostS G W ρ1 H1 (k v h1) D → R x H1) : tD G W cf fa τ H R :=
  ⟨ρ, σ, h, rel, rs, (PostS.to (R := RV) rs p).mono fun x H1 ⟨ρ1, v, h1, a1, a2, a3, a4⟩ => f x H1 ρ1 v h1 a1 a2 a3 (rs.grow a2) a4⟩
theorem toT {k : Bool → AH → SO} {R : Bool → Hp → Prop} {ρ : List Addr} {σ : St} {h : AH} {τ : L2.St} {H : Hp} {D : Ends} (rel : Rel G ρ h H) (rs : RSt ρ H σ τ) (p : PostS G W ρ H ((t cf σ h).to σ k) D)
    (f : ∀ c H1 ρ1 h1, Rel G ρ1 h1 H1 → Grow ρ H ρ1 H1 → RSt ρ1 H1 σ τ → PostS G W ρ1 H1 (k c h1) D → R c H1) : tDT G W cf t τ H R :=
  ⟨ρ, σ, h, rel, rs, (PostS.to (R := fun _ _ a b => a = b) rs p).mono fun c H1 ⟨ρ1, v, h1, a1, a2, a3, a4⟩ => f c H1 ρ1 h1 a1 a2 (rs.grow a2) (by rw [← a3]; exact a4)⟩
theorem toA {k : List Val → AH → SO} {R : List V → Hp → Prop} {ρ : List Addr} {σ : St} {h : AH} {τ : L2.St} {H : Hp} {D : Ends} (rel : Rel G ρ h H) (rs : RSt ρ H σ τ) (p : PostS G W ρ H ((ra cf σ h).to σ k) D)
    (f : ∀ xs H1 ρ1 vs h1, Rel G ρ1 h1 H1 → Grow ρ H ρ1 H1 → RVs ρ1 H1 vs xs → RSt ρ1 H1 σ τ → PostS G W ρ1 H1 (k vs h1) D → R xs H1) : tDA G W cf ra τ H R :=
  ⟨ρ, σ, h, rel, rs, (PostS.to (R := RVs) rs p).mono fun x H1 ⟨ρ1, v, h1, a1, a2, a3, a4⟩ => f x H1 ρ1 v h1 a1 a2 a3 (rs.grow a2) a4⟩
/-! ### rows -/
theorem ds_nil : PSs X [] (tDS G W cf sNil) := PSs.le pss_nil fun D τ H ⟨ρ, σ, h, rel, rs, p⟩ => p ρ H τ rel (Grow.refl _ _) rs
theorem ds_cons (h1 : PS X st (tDS G W cf sa)) (h2 : PSs X sts (tDS G W cf sb)) : PSs X (st :: sts) (tDS G W cf (sSeq sa sb)) :=
  PSs.le (pss_cons h1 h2) fun D τ H ⟨ρ, σ, h, rel, rs, p⟩ => by
    refine ⟨ρ, σ, h, rel, rs, ?_⟩
    have q := PostS.then p
    revert q
    generalize sa cf σ h = o
    intro q
    cases o with
    | nx σ1 h1 => exact fun ρ' H' τ' a b c => let ⟨ρ1, σ2, h2, r1, r2, r3, r4⟩ := q ρ' H' τ' a b c; ⟨ρ1, σ2, h2, r1, r3, r4⟩
    | _ => exact q
theorem ds_bad {st : Stmt} : PS X st (tDS G W cf sBad) := ⟨fun pins s τ H D I ⟨ρ, σ, h, rel, rs, p⟩ => p.elim⟩
theorem dss_bad {st : List Stmt} : PSs X st (tDS G W cf sBad) := ⟨fun pins s τ H D I ⟨ρ, σ, h, rel, rs, p⟩ => p.elim⟩
theorem de_bad {e : Expr} : PE X e (tD G W cf eBad) := ⟨fun pins s τ H D I ⟨ρ, σ, h, rel, rs, p⟩ => p.elim⟩
theorem dt_bad {e : Expr} : PT X e (tDT G W cf tBad) := ⟨fun pins s τ H D I ⟨ρ, σ, h, rel, rs, p⟩ => p.elim⟩
theorem di_bad {tg e : Expr} : PI X tg e (tDI G W cf iBad) := ⟨fun pins s τ H D I ⟨ρ, σ, h, rel, rs, p⟩ => p.elim⟩
/-! ### simple statements -/
theorem ds_pass : PS X (.Pass pos) (tDS G W cf sNil) := PS.le ps_pass fun D τ H ⟨ρ, σ, h, rel, rs, p⟩ => p ρ H τ rel (Grow.refl _ _) rs
theorem ds_break : PS X (.Break pos) (tDS G W cf sBreak) := PS.le ps_break fun D τ H ⟨ρ, σ, h, rel, rs, p⟩ => p ρ H τ rel (Grow.refl _ _) rs
theorem ds_cont : PS X (.Continue pos) (tDS G W cf sCont) := PS.le ps_continue fun D τ H ⟨ρ, σ, h, rel, rs, p⟩ => p ρ H τ rel (Grow.refl _ _) rs
theorem ds_expr (ha : PE X a (tD G W cf fa)) (hs : swapsWith a none pos.line X.env = pure false) : PS X (.Expr a pos) (tDS G W cf (sExpr fa)) :=
  PS.le (ps_expr ha hs) fun D τ H ⟨ρ, σ, h, rel, rs, p⟩ => toE rel rs p fun x H1 ρ1 v h1 rel1 g1 rv rs1 p1 => p1 ρ1 H1 τ rel1 (Grow.refl _ _) rs1
theorem ds_ret (ha : PE X a (tD G W cf fa)) : PS X (.Return (some a) pos) (tDS G W cf (sRet fa)) :=
  PS.le (ps_ret ha) fun D τ H ⟨ρ, σ, h, rel, rs, p⟩ => toE rel rs p fun x H1 ρ1 v h1 rel1 g1 rv rs1 p1 => p1 ρ1 H1 x rel1 (Grow.refl _ _) rv
theorem ds_retN : PS X (.Return none pos) (tDS G W cf sRetN) := PS.le ps_retN fun D τ H ⟨ρ, σ, h, rel, rs, p⟩ => p ρ H .non rel (Grow.refl _ _) .non
theorem ds_if {ps qs : List Stmt} (hc : PT X c (tDT G W cf t)) (ha : PSs X ps (tDS G W cf sa)) (hb : PSs X qs (tDS G W cf sb)) : PS X (.If c ps qs pos) (tDS G W cf (sIf t sa sb)) :=
  PS.le (ps_if hc ha hb) fun D τ H ⟨ρ, σ, h, rel, rs, p⟩ => toT rel rs p fun k H1 ρ1 h1 rel1 g1 rs1 p1 => by
    cases k with
    | true => exact ⟨ρ1, σ, h1, rel1, rs1, p1⟩
    | false => exact ⟨ρ1, σ, h1, rel1, rs1, p1⟩
/-! ### stores -/
theorem dg_names (hN : X.N.Nodup) : ∀ {ts : List Expr} {is : List Nat}, Paired (fun e i => ∃ x p, e = .Name x p ∧ X.N[i]? = some x ∧ Loc X.env.scope x ∧ (X.fn x = true ∨ X.env.scope.names.lookup x = some .local)) ts is →
    PGs X ts (fun vs τ H Q => vs.length = is.length ∧ Q (setsT is vs τ) H)
  | _, _, .nil => ⟨fun pins s σ H vs us Q I r h => pgs_nil.run pins s σ H vs us Q I r (by
      obtain ⟨h1, h2⟩ := h
      have e : vs = [] := List.eq_nil_of_length_eq_zero h1
      subst e
      exact ⟨rfl, h2⟩)⟩
  | _, _, .cons (a := e) (b := i) ⟨x, p, ex, h1, h2, h3⟩ t => by
    subst ex
    refine ⟨fun pins s σ H vs us Q I r h => (pgs_cons (pg_name hN h1 h2 h3) (dg_names hN t)).run pins s σ H vs us Q I r ?_⟩
    obtain ⟨k1, k2⟩ := h
    cases vs with
    | nil => cases k1
    | cons v vs => exact ⟨v, vs, rfl, Nat.succ.inj k1, k2⟩
theorem dg_name {i : Nat} {x : Str} (hN : X.N.Nodup) (hi : X.N[i]? = some x) (hx : Loc X.env.scope x) (hf : X.fn x = true ∨ X.env.scope.names.lookup x = some .local) : PG X (.Name x p) (tgG G.K (.nm i)) := pg_name hN hi hx hf
theorem dg_tup {ts : List Expr} {is : List Nat} {kk : Nat} (hK : X.K = G.K) (hc : X.calm = true) (hN : X.N.Nodup) (h : Paired (fun e i => ∃ x p, e = .Name x p ∧ X.N[i]? = some x ∧ Loc X.env.scope x ∧ (X.fn x = true ∨ X.env.scope.names.lookup x = some .local)) ts is)
    (hn : (assignEach ts X.env).length = is.length) (hst : (assignEach ts X.env).findIdx? (·.1) = none) : PG X (.Tuple ts kk p) (tgG G.K (.tp is)) :=
  ⟨fun pins s σ H v u Q I r ⟨a, ws, e1, hq, hl, q⟩ => by
    rw [← hK] at hq
    rcases hq with hq | hq
    · exact (pg_tup hc (dg_names hN h) hn hst).run pins s σ H v u Q I r ⟨a, ws, e1, hq, hl, hl, q⟩
    · exact (pg_unl hc (dg_names hN h) hn hst).run pins s σ H v u Q I r ⟨a, ws, e1, hq, hl, hl, q⟩⟩
theorem asg_post {ρ : List Addr} {σ : St} {h : AH} {τ : L2.St} {H : Hp} {D : Ends} {g : Tg} (rel : Rel G ρ h H) (rs : RSt ρ H σ τ) (p : PostS G W ρ H (sAsg g fa cf σ h) D) : tD G W cf fa τ H fun x H1 => tgG G.K g x τ H1 D.nx :=
  toE rel rs p fun x H1 ρ1 v h1 rel1 g1 rv rs1 p1 => by
    cases e : g.put v σ h1 with
    | none => rw [e] at p1; exact p1.elim
    | some σ1 =>
      rw [e] at p1
      exact tg_ok g rel1 rs1 rv e fun τ' rs' _ => p1 ρ1 H1 τ' rel1 (Grow.refl _ _) rs'
theorem ds_set {i : Nat} {x : Str} (hN : X.N.Nodup) (hi : X.N[i]? = some x) (hx : Loc X.env.scope x) (hf : X.fn x = true ∨ X.env.scope.names.lookup x = some .local) (ha : PE X a (tD G W cf fa)) (hs : swapsWith a (some (.Name x pos')) pos.line X.env = pure false) :
    PS X (.Assign [.Name x pos'] a pos) (tDS G W cf (sAsg (.nm i) fa)) :=
  PS.le (ps_set hN hi hx ha hs hf) fun D τ H ⟨ρ, σ, h, rel, rs, p⟩ => asg_post rel rs p
theorem ds_asg {tg : Expr} {g : Tg} (ha : PE X a (tD G W cf fa)) (hg : PG X tg (tgG G.K g)) (hs : swapsWithSole [tg] a pos.line X.env = pure false) (hw : swappedStores [tg] a X.env = pure none) (h1 : (assignEach [tg] X.env).map (·.2) = [assign tg X.env]) :
    PS X (.Assign [tg] a pos) (tDS G W cf (sAsg g fa)) :=
  PS.le (ps_asg ha hg hs hw h1) fun D τ H ⟨ρ, σ, h, rel, rs, p⟩ => asg_post rel rs p
theorem ds_par {i j : Nat} {x y : Str} {px py pt : Pos} {kt k2 : Nat} {pt2 : Pos} (hc : X.calm = true) (hN : X.N.Nodup) (hi : X.N[i]? = some x) (hj : X.N[j]? = some y) (hij : i ≠ j)
    (hx : X.env.scope.names.lookup x = some .local) (hy : X.env.scope.names.lookup y = some .local) (ha : PA X [a, b] (tDA G W cf ra))
    (hw : swappedStores [.Tuple [.Name x px, .Name y py] kt pt] (.Tuple [a, b] k2 pt2) X.env = pure (some [x, y]))
    (hs : swapsWithSole [.Tuple [.Name x px, .Name y py] kt pt] (.Tuple [a, b] k2 pt2) pos.line X.env = pure false) :
    PS X (.Assign [.Tuple [.Name x px, .Name y py] kt pt] (.Tuple [a, b] k2 pt2) pos) (tDS G W cf (sPar [i, j] ra)) :=
  PS.le (ps_par hc hN hi hj hij hx hy ha hw hs) fun D τ H ⟨ρ, σ, h, rel, rs, q⟩ => toA rel rs q fun xs H1 ρ1 vs h1 rel1 g1 rv rs1 p1 => by
    cases e : gNames [i, j] vs σ with
    | none => rw [e] at p1; exact p1.elim
    | some σ1 =>
      rw [e] at p1
      match vs, rv, e with
      | [v, u], .cons (w := x) rx (.cons (w := y) ry .nil), e =>
        cases e
        exact ⟨x, y, rfl, p1 ρ1 H1 _ rel1 (Grow.refl _ _) ((rs1.set rx i).set ry j)⟩
/-- a[i] = v, by values -/
def rSetG (G : Gs) : TSet := fun o i v H Q => ∃ ρ h x y z h1, Rel G ρ h H ∧ RV ρ H x o ∧ RV ρ H y i ∧ RV ρ H z v ∧ pySet x y z h = some h1 ∧ ∀ ρ' H', Rel G ρ' h1 H' → Grow ρ H ρ' H' → Q H'
theorem set_D (hu : X.A.units + 1 < cLine) : PSet X (rSetG G) := by
  intro pins s σ H o i v ov iv u Q I ro ri rv ⟨ρ, h, x, y, z, h1, rel, rx, ry, rz, e, k⟩
  unfold pySet at e
  cases rx with
  | @ref n p hp =>
    obtain ⟨ob, ho, qo⟩ := rel.there hp
    simp only [ho] at e
    cases ob with
    | lst xs =>
      obtain ⟨ws, q1, q2⟩ := qo
      cases ry with
      | int kx =>
        simp only at e
        cases e2 : ixN xs.length kx with
        | none => rw [e2] at e; cases e
        | some j =>
          rw [e2] at e
          have e : h.set n (.lst (xs.set j z)) = h1 := Option.some.inj e
          subst e
          have g : Grow ρ H ρ (upd H p (.lst (ws.set j v))) := grow_upd (by rw [q1]; trivial)
          exact set_list pins s σ H _ _ v ov iv u Q I ro ri rv ⟨p, ws, kx, j, rfl, rfl, q1, by rw [← q2.length]; exact e2, k ρ _ (rel.write hp (by rw [q1]; trivial) ⟨_, upd_same, (q2.set rz j).grow g⟩) g⟩
      | _ => cases e
    | dic kvs =>
      have e : (if (fits kvs y && decide (kvs.length < line)) = true then some (h.set n (.dic (dput kvs y z))) else none) = some h1 := e
      obtain ⟨hc, e⟩ := ite_some e
      rw [Bool.and_eq_true] at hc
      obtain ⟨hf, hl⟩ := hc
      have hl := of_decide_eq_true hl
      cases e
      unfold fits at hf
      rw [Bool.or_eq_true, Bool.and_eq_true, Bool.and_eq_true] at hf
      obtain rfl : ov = Value.ref p := ro
      have mainK : ∀ (H : Hp) (ks : List (Key × V)) (key : Key), Inv X pins σ H s → Rel G ρ h H → RV ρ H z v → H p = some (.dK ks) → RK ρ H kvs ks → y = keyVal key → RelV (kV key) iv → (∀ ρ' H', Rel G ρ' (h.set n (.dic (dput kvs y z))) H' → Grow ρ H ρ' H' → Q H') →
          wpAny (model X.prog X.w) X.A (setItem (.ref p) iv u) (fun _ s' => ∃ H', Inv X pins σ H' s' ∧ Q H') X.xe s := fun H ks key I rel rz q1 q2 ey ri k => by
        subst ey
        have g : Grow ρ H ρ (upd H p (.dK (putK ks key v))) := grow_upd (by rw [q1]; trivial)
        have hlen : kvs.length = ks.length := Paired.length q2
        refine d_setItem hu I (DPut.k q1 (by rw [← hlen, sizeLine_eq]; exact hl)) ri rv fun s' I' => ⟨_, I', k ρ _ (rel.write hp (by rw [q1]; trivial) (.inl ⟨_, upd_same, ?_⟩)) g⟩
        exact pairedP (put_rel (fun _ _ => keyVal_inj) rz key q2) fun a b z => ⟨z.1, z.2.grow g⟩
      have mainT : ∀ (H : Hp) (ks : List (List Key × V)) (keys : List Key), Inv X pins σ H s → Rel G ρ h H → RV ρ H y i → RV ρ H z v → H p = some (.dT ks) → RT ρ H kvs ks → y = .tup (keys.map keyVal) → (∀ ρ' H', Rel G ρ' (h.set n (.dic (dput kvs y z))) H' → Grow ρ H ρ' H' → Q H') →
          wpAny (model X.prog X.w) X.A (setItem (.ref p) iv u) (fun _ s' => ∃ H', Inv X pins σ H' s' ∧ Q H') X.xe s := fun H ks keys I rel ry rz q1 q2 ey k => by
        subst ey
        obtain ⟨b, rfl, hb⟩ := ry.keyT
        have g : Grow ρ H ρ (upd H p (.dT (putK ks keys v))) := grow_upd (by rw [q1]; trivial)
        have hlen : kvs.length = ks.length := Paired.length q2
        refine d_setItem hu I (DPut.t q1 hb (by rw [← hlen, sizeLine_eq]; exact hl)) ri rv fun s' I' => ⟨_, I', k ρ _ (rel.write hp (by rw [q1]; trivial) (.inr ⟨_, upd_same, ?_⟩)) g⟩
        exact pairedP (put_rel tupKey_inj rz keys q2) fun a b z => ⟨z.1, z.2.grow g⟩
      rcases qo with ⟨ks, e1, r1⟩ | ⟨ks, e1, r1⟩
      · rcases hf with ⟨k1, _⟩ | ⟨k1, k2⟩
        · obtain ⟨key, rfl⟩ := isKey_of k1
          have ek := ry.key
          subst ek
          exact mainK H ks key I rel rz e1 r1 rfl ri k
        · obtain ⟨rfl, rfl⟩ := rk_notT r1 k2
          obtain ⟨keys, rfl⟩ := isKeyT_of k1
          have g : Grow ρ H ρ (upd H p (.dT [])) := grow_upd (by rw [e1]; trivial)
          exact mainT _ [] keys (kt_empty I e1) (write_dic rel hp ho (by rw [e1]; trivial) (.inr ⟨[], upd_same, .nil⟩)) (ry.grow g) (rz.grow g) upd_same .nil rfl fun ρ' H' a b => k ρ' H' a (g.trans b)
      · rcases hf with ⟨k1, k2⟩ | ⟨k1, k2⟩
        · obtain ⟨rfl, rfl⟩ := rt_notK r1 k2
          obtain ⟨key, rfl⟩ := isKey_of k1
          have ek := ry.key
          subst ek
          have g : Grow ρ H ρ (upd H p (.dK [])) := grow_upd (by rw [e1]; trivial)
          exact mainK _ [] key (tk_empty I e1) (write_dic rel hp ho (by rw [e1]; trivial) (.inl ⟨[], upd_same, .nil⟩)) (rz.grow g) upd_same .nil rfl ri fun ρ' H' a b => k ρ' H' a (g.trans b)
        · obtain ⟨keys, rfl⟩ := isKeyT_of k1
          exact mainT H ks keys I rel ry rz e1 r1 rfl k
    | _ => cases e
  | _ => cases e
theorem ds_sub (hu : X.A.units + 1 < cLine) (ho : PE X a (tD G W cf fa)) (hi : PE X b (tD G W cf fb)) (hv : PE X c (tD G W cf fc)) (hs : swapsWithSole [.Subscript a b p] c pos.line X.env = pure false) (hw : swappedStores [.Subscript a b p] c X.env = pure none)
    (h1 : (assignEach [.Subscript a b p] X.env).map (·.2) = [assign (.Subscript a b p) X.env])
    (ha : ∀ v, assign (.Subscript a b p) X.env v = (do
      let ov ← holding [v] (eval a X.env)
      let iv ← holding [v, ov] (eval b X.env)
      standAt p
      holding [v, ov, iv] (setItem ov iv v)
      release [v, ov, iv] [])) : PS X (.Assign [.Subscript a b p] c pos) (tDS G W cf (sSub fa fb fc)) :=
  PS.le (ps_asg hv (pg_sub ho hi (set_D (G := G) hu) ha) hs hw h1) fun D τ H ⟨ρ, σ, h, rel, rs, q⟩ => toE rel rs q fun x H1 ρ1 v h1 rel1 g1 rv rs1 p1 =>
    toE rel1 rs1 p1 fun y H2 ρ2 o h2 rel2 g2 ro rs2 p2 => toE rel2 rs2 p2 fun z H3 ρ3 i h3 rel3 g3 ri rs3 p3 => by
      cases e : pySet o i v h3 with
      | none => rw [e] at p3; exact p3.elim
      | some h4 =>
        rw [e] at p3
        exact ⟨ρ3, h3, o, i, v, h4, rel3, ro.grow g3, ri, (rv.grow g2).grow g3, e, fun ρ' H' r g => p3 ρ' H' τ r g (rs3.grow g)⟩
end
end Ev

end

section
set_option maxRecDepth 100000
/-! Ev14: fields, augmented stores, del, loops. -/
namespace Ev
open PySem PySem.Spec PyProof.Rows L2
theorem putF_rel {ρ : List Addr} {H : Hp} {f : Str} {v : Val} {w : V} (rv : RV ρ H v w) : ∀ {fs : List (Str × Val)} {ws : List (Str × V)}, RF ρ H fs ws → RF ρ H (putF f v fs) (L2.putF f w ws)
  | _, _, .nil => .cons ⟨rfl, rv⟩ .nil
  | (g, x) :: fs, (g', y) :: ws, .cons r t => by
    obtain ⟨e1, e2⟩ := r
    have e1 : g = g' := e1
    subst e1
    unfold putF L2.putF
    by_cases hb : g = f
    · rw [if_pos hb, if_pos hb]; exact .cons ⟨rfl, rv⟩ t
    · rw [if_neg hb, if_neg hb]; exact .cons ⟨rfl, e2⟩ (putF_rel rv t)
section
variable {X : Cx} {G : Gs} {W : WX} {cf : Cf} {a b c : Expr} {fa fb fc : Ex} {pos p pos' : Pos} {ra : Ax} {st : Stmt} {sts : List Stmt} {sa sb : Sx} {t : Tx}
theorem setF_ok {cs : List Str} {f : Str} {o z : Val} {x y : V} {ρ : List Addr} {h h1 : AH} {H : Hp} (hmg : X.mg = G.mg) (hc : FldOk X f cs) (rel : Rel G ρ h H) (ro : RV ρ H o x) (rz : RV ρ H z y) (e : pySetF cs o f z h = some h1) :
    ∃ q C dx fs, x = .ref q ∧ (∃ cn ∈ cs, G.mg cn = some (.ref C)) ∧ H q = some (.ins C dx fs) ∧ Cls X.K C ∧ NoAttr X.K C f ∧ fs.length < 1000 ∧ Rel G ρ h1 (upd H q (.ins C dx (L2.putF f y fs))) ∧ Grow ρ H ρ (upd H q (.ins C dx (L2.putF f y fs))) := by
  unfold pySetF at e
  cases ro with
  | @ref n q hq =>
    simp only at e
    cases e2 : insAt h n with
    | none => rw [e2] at e; cases e
    | some cf' =>
      obtain ⟨c, fs⟩ := cf'
      rw [e2] at e
      simp only at e
      obtain ⟨⟨k1, k2⟩, e⟩ := ite_some e
      cases e
      obtain ⟨e3, C, dx, ws, m, eh, rf⟩ := rel.ins hq e2
      obtain ⟨k3, k4⟩ := hc.at hmg k1 m
      have g : Grow ρ H ρ (upd H q (.ins C dx (L2.putF f y ws))) := grow_upd (by rw [eh]; trivial)
      have hl : fs.length = ws.length := Paired.length rf
      exact ⟨q, C, dx, ws, rfl, ⟨c, k1, m⟩, eh, k3, k4, by rw [← hl]; exact k2, rel.write hq (by rw [eh]; trivial) ⟨C, dx, _, m, upd_same, pairedP (putF_rel rz rf) fun _ _ z => ⟨z.1, z.2.grow g⟩⟩, g⟩
  | _ => cases e
theorem ds_fld {cs : List Str} {f : Str} (hmg : X.mg = G.mg) (hc : FldOk X f cs) (ha : PE X a (tD G W cf fa)) (hv : PE X c (tD G W cf fc)) (hs : swapsWith c (some (.Attribute a f pos')) pos.line X.env = pure false) :
    PS X (.Assign [.Attribute a f pos'] c pos) (tDS G W cf (sFld cs fa f fc)) :=
  PS.le (ps_fld ha hv hs) fun D τ H ⟨ρ, σ, h, rel, rs, q⟩ => toE rel rs q fun y H1 ρ1 z h1 rel1 g1 rz rs1 p1 => toE rel1 rs1 p1 fun x H2 ρ2 o h2 rel2 g2 ro rs2 p2 => by
    cases e : pySetF cs o f z h2 with
    | none => rw [e] at p2; exact p2.elim
    | some h3 =>
      rw [e] at p2
      obtain ⟨q, C, dx, fs, e1, _, e2, k1, k2, k3, k4, k5⟩ := setF_ok hmg hc rel2 ro (rz.grow g2) e
      exact ⟨q, C, dx, fs, e1, e2, k1, k2, k3, p2 ρ2 _ τ k4 k5 (rs2.grow k5)⟩
/-- the operators of +=, -= -/
def opAddI (x y : Val) (h : AH) : Out Val := match x, y with
  | .int i, .int j => .ok (.int (i + j)) h
  | _, _ => .bad
def tIp (G : Gs) (op : Val → Val → M Val) : TIp := fun x y H Q => ∃ ρ h v w r h1, Rel G ρ h H ∧ RV ρ H v x ∧ RV ρ H w y ∧ op v w h = .ok r h1 ∧ ∀ ρ' H' b, Rel G ρ' h1 H' → Grow ρ H ρ' H' → RV ρ' H' r b → Q b H'
theorem ip_addD : PIp X .Add (tIp G opAddI) := by
  rintro pins s σ H x y v u Q I r1 r2 ⟨ρ, h, a, b, r, h1, rel, ra, rb, e, k⟩
  cases ra with
  | int i =>
    cases rb with
    | int j =>
      cases e
      exact ip_add pins s σ H _ _ v u Q I r1 r2 ⟨i, j, rfl, rfl, k ρ H _ rel (Grow.refl _ _) (.int _)⟩
    | _ => cases e
  | _ => cases rb <;> cases e
theorem ip_subD : PIp X .Sub (tIp G opSub) := by
  rintro pins s σ H x y v u Q I r1 r2 ⟨ρ, h, a, b, r, h1, rel, ra, rb, e, k⟩
  cases ra with
  | int i =>
    cases rb with
    | int j =>
      cases e
      exact ip_sub pins s σ H _ _ v u Q I r1 r2 ⟨i, j, rfl, rfl, k ρ H _ rel (Grow.refl _ _) (.int _)⟩
    | _ => cases e
  | _ => cases rb <;> cases e
def augOf : Operator → Option (Val → Val → M Val)
  | .Add => some opAddI
  | .Sub => some opSub
  | _ => none
theorem ip_of {o : Operator} {op : Val → Val → M Val} (e : augOf o = some op) : PIp X o (tIp G op) := by
  cases o <;> first
    | (cases e; exact ip_addD)
    | (cases e; exact ip_subD)
    | cases e
theorem ds_aug {i : Nat} {x : Str} {o : Operator} {op : Val → Val → M Val} (ho : augOf o = some op) (hN : X.N.Nodup) (hi : X.N[i]? = some x) (hx : Loc X.env.scope x) (hf : X.fn x = true ∨ X.env.scope.names.lookup x = some .local) (ha : PE X a (tD G W cf fa)) :
    PS X (.AugAssign (.Name x pos') o a pos) (tDS G W cf (sAug i op fa)) :=
  PS.le (ps_aug hN hi hx ha (ip_of ho) hf) fun D τ H ⟨ρ, σ, h, rel, rs, q⟩ => by
    have q : PostS G W ρ H (match σ[i]? with
      | some (some x) => (fa cf σ h).to σ fun y h1 => (calm (op x y h1)).to σ fun z h2 => .nx (σ.set i (some z)) h2
      | _ => .bad) D := q
    cases e : σ[i]? with
    | none => rw [e] at q; exact q.elim
    | some ov =>
      cases ov with
      | none => rw [e] at q; exact q.elim
      | some v =>
        rw [e] at q
        obtain ⟨w, e1, r1⟩ := rs.at_ i v e
        refine ⟨w, e1, toE rel rs q fun y H1 ρ1 u h1 rel1 g1 ru rs1 p1 => ?_⟩
        cases e2 : op v u h1 with
        | ok z h2 =>
          rw [e2] at p1
          exact ⟨ρ1, h1, v, u, z, h2, rel1, r1.grow g1, ru, e2, fun ρ' H' b r g rz => p1 ρ' H' _ r g ((rs1.grow g).set rz i)⟩
        | exc c vs h2 => rw [e2] at p1; exact p1.elim
        | bad => rw [e2] at p1; exact p1.elim
/-- x[i] by values -/
theorem get_D (hu : X.A.units + 1 < cLine) : PGet X (rD G pyIxR) := by
  rintro pins s σ H o i ov iv Q I ro ri ⟨ρ, h, a, b, r, h1, rel, ra, rb, e, k⟩
  cases ra with
  | @ref n p hp =>
    obtain ⟨ob, ho, qo⟩ := rel.there hp
    unfold pyIxR pyIx at e
    simp only [ho] at e
    obtain rfl : ov = Value.ref p := ro
    have sq : ∀ {ws : List V} {xs : List Val} {j : Int}, b = .int j → SqL X.K H p ws → RVs ρ H xs ws → Out.of (atI xs j) h = .ok r h1 → wpAny (model X.prog X.w) X.A (getItem (.ref p) iv) (EP X pins σ Q) X.xe s := fun {ws xs j} ej hq rs ee => by
      obtain ⟨e1, e2⟩ := of_ok ee
      subst e2
      clear e
      subst ej
      cases rb
      obtain ⟨t, rfl⟩ := ri
      obtain ⟨its, r', pl, hz⟩ := I.list hq
      obtain ⟨m, h1', h2, h3, h4, h5⟩ := atI_get e1
      obtain ⟨w1, ew1, rw1⟩ := rs.get h2
      obtain ⟨w, ew, rw'⟩ := r'.get ew1
      have hl := r'.length
      have hl2 := rs.length
      have hn := line63
      have fin : EP X pins σ Q w s := ⟨w1, H, I, rw', k ρ H w1 rel (Grow.refl _ _) rw1⟩
      by_cases h0 : 0 ≤ j
      · have hj : j.toNat = m := by
          rw [seqIndex_of h0 h5] at h1'
          exact Option.some.inj h1'
        exact PySem.wpAny_getItem_list pl.isList h0 (by omega) (by rw [hj]; simpa using ew) fin
      · have hj : (j + (its.toArray.size : Int)).toNat = m := by
          rw [seqIndex_neg (by omega) h4] at h1'
          rw [List.size_toArray, ← hl, ← hl2]
          exact Option.some.inj h1'
        exact PySem.wpAny_getItem_list_neg pl.isList (by omega) (by rw [List.size_toArray]; omega) (by omega) (by rw [hj]; simpa using ew) fin
    cases ob with
    | lst xs =>
      obtain ⟨ws, q1, q2⟩ := qo
      cases b with
      | int j => exact sq rfl (SqL.of q1) q2 e
      | _ => exact bad_ok e
    | fro xs =>
      obtain ⟨o', ws, q1, q2⟩ := qo
      cases b with
      | int j => exact sq rfl (.inl (.inr ⟨o', q1⟩)) q2 e
      | _ => exact bad_ok e
    | dic kvs =>
      obtain ⟨hc, e⟩ := ite_ok (show (if fits kvs b = true then Out.of (dget kvs b) h else .bad) = Out.ok r h1 from e)
      obtain ⟨H2, I2, rel2, g2, oo, dg, f1, f2⟩ := dic_get I rel hp ho hc rb
      obtain ⟨e1, e2⟩ := of_ok e
      subst e2
      obtain ⟨w, rfl, q2⟩ := f1 r e1
      exact d_getItem hu I2 dg ri fun w' s3 I3 rw' => ⟨w, H2, I3, rw', k ρ H2 w rel2 g2 q2⟩
    | fdi kvs =>
      obtain ⟨hc, e⟩ := ite_ok (show (if fitsF kvs b = true then Out.of (dget kvs b) h else .bad) = Out.ok r h1 from e)
      obtain ⟨oo, dg, f1, f2⟩ := fdi_get I rel hp ho hc rb
      obtain ⟨e1, e2⟩ := of_ok e
      subst e2
      obtain ⟨w, rfl, q2⟩ := f1 r e1
      exact d_getItem hu I dg ri fun w' s3 I3 rw' => ⟨w, H, I3, rw', k ρ H w rel (Grow.refl _ _) q2⟩
    | ins c fs => exact bad_ok e
  | _ => exact bad_ok e
theorem ds_augS {o : Operator} {op : Val → Val → M Val} (ho' : augOf o = some op) (hu : X.A.units + 1 < cLine) (ho : PE X a (tD G W cf fa)) (hi : PE X b (tD G W cf fb)) (he : PE X c (tD G W cf fc))
    (ha : ∀ ov iv new, augStore b ov iv new = (do holding [new, ov, iv] (setItem ov iv new); release [new, ov, iv] []; pure .next)) : PS X (.AugAssign (.Subscript a b p) o c pos) (tDS G W cf (sAugS fa fb op fc)) :=
  PS.le (ps_augS ho hi (get_D (G := G) hu) he (ip_of (G := G) ho') (set_D (G := G) hu) ha) fun D τ H ⟨ρ, σ, h, rel, rs, q⟩ => toE rel rs q fun x H1 ρ1 v h1 rel1 g1 rv rs1 p1 => toE rel1 rs1 p1 fun y H2 ρ2 u h2 rel2 g2 ru rs2 p2 => by
    cases e : pyIxR v u h2 with
    | ok z h3 =>
      rw [e] at p2
      refine ⟨ρ2, h2, v, u, z, h3, rel2, rv.grow g2, ru, e, fun ρ3 H3 w r3 g3 rz => ?_⟩
      have rs3 := rs2.grow g3
      have p3 : PostS G W ρ3 H3 ((fc cf σ h3).to σ fun w h4 => (calm (op z w h4)).to σ fun u' h5 => match pySet v u u' h5 with
        | some h6 => .nx σ h6
        | none => .bad) D := PostS.grow p2 g3
      refine toE r3 rs3 p3 fun y4 H4 ρ4 w4 h4 r4 g4 rw4 rs4 p4 => ?_
      cases e4 : op z w4 h4 with
      | ok z5 h5 =>
        rw [e4] at p4
        refine ⟨ρ4, h4, z, w4, z5, h5, r4, rz.grow g4, rw4, e4, fun ρ5 H5 y5 r5 g5 rz5 => ?_⟩
        have p5 : PostS G W ρ5 H5 (match pySet v u z5 h5 with
          | some h6 => .nx σ h6
          | none => .bad) D := PostS.grow (r := match pySet v u z5 h5 with
          | some h6 => .nx σ h6
          | none => .bad) p4 g5
        cases e5 : pySet v u z5 h5 with
        | none => rw [e5] at p5; exact p5.elim
        | some h6 =>
          rw [e5] at p5
          exact ⟨ρ5, h5, v, u, z5, h6, r5, (((rv.grow g2).grow g3).grow g4).grow g5, ((ru.grow g3).grow g4).grow g5, rz5, e5, fun ρ' H' r g => p5 ρ' H' τ r g ((rs4.grow g5).grow g)⟩
      | exc c vs h5 => rw [e4] at p4; exact p4.elim
      | bad => rw [e4] at p4; exact p4.elim
    | exc c vs h3 => rw [e] at p2; exact p2.elim
    | bad => rw [e] at p2; exact p2.elim
/-- op= on values, for fields -/
theorem in_of {o : Operator} {op : Val → Val → M Val} (e : augOf o = some op) : InOp X o (tIp G op) := fun pins s σ H x y u v Q I r1 r2 h => ip_of e pins s σ H x y u v Q I r1 r2 h
theorem ds_augF {cs : List Str} {f : Str} {o : Operator} {op : Val → Val → M Val} (ho' : augOf o = some op) (hmg : X.mg = G.mg) (hc : FldOk X f cs) (ha : PE X a (tD G W cf fa)) (hv : PE X c (tD G W cf fc)) :
    PS X (.AugAssign (.Attribute a f p) o c pos) (tDS G W cf (sAugF cs fa f op fc)) :=
  PS.le (ps_fldaug ha hv (in_of (G := G) ho')) fun D τ H ⟨ρ, σ, h, rel, rs, q⟩ => toE rel rs q fun x H1 ρ1 v h1 rel1 g1 rv rs1 p1 => by
    cases rv with
    | @ref n q hq =>
      simp only at p1
      cases e : insAt h1 n with
      | none => rw [e] at p1; exact p1.elim
      | some cf' =>
        obtain ⟨cn, fs⟩ := cf'
        rw [e] at p1
        simp only at p1
        by_cases hcn : cn ∈ cs
        · rw [if_pos hcn] at p1
          cases e2 : fs.lookup f with
          | none => rw [e2] at p1; exact p1.elim
          | some z =>
            rw [e2] at p1
            obtain ⟨e3, C, dx, ws, m, eh, rf⟩ := rel1.ins hq e
            obtain ⟨k3, k4⟩ := hc.at hmg hcn m
            obtain ⟨w, ew, rw'⟩ := (look_rel rf).1 z e2
            refine ⟨q, C, dx, ws, w, rfl, eh, k3, k4, ew, toE rel1 rs1 p1 fun y H2 ρ2 u h2 rel2 g2 ru rs2 p2 => ?_⟩
            cases e4 : op z u h2 with
            | ok z5 h3 =>
              rw [e4] at p2
              refine ⟨ρ2, h2, z, u, z5, h3, rel2, rw'.grow g2, ru, e4, fun ρ5 H5 y5 r5 g5 rz5 => ?_⟩
              have p5 : PostS G W ρ5 H5 (match pySetF [cn] (.ref n) f z5 h3 with
                | some h4 => .nx σ h4
                | none => .bad) D := PostS.grow (r := match pySetF [cn] (.ref n) f z5 h3 with
                | some h4 => .nx σ h4
                | none => .bad) p2 g5
              cases e5 : pySetF [cn] (.ref n) f z5 h3 with
              | none => rw [e5] at p5; exact p5.elim
              | some h4 =>
                rw [e5] at p5
                obtain ⟨q', C', dx', fs', e6, ⟨cn', hcn', m'⟩, e7, k5, k6, k7, k8, k9⟩ := setF_ok (cs := [cn]) hmg (fun c' hc' => hc c' (by rw [List.mem_singleton.mp hc']; exact hcn)) r5 (.ref (g5.pre _ _ (g2.pre _ _ hq))) rz5 e5
                cases e6
                have eC : C' = C := by
                  rw [List.mem_singleton.mp hcn', m] at m'
                  cases m'
                  rfl
                subst eC
                exact ⟨dx', fs', e7, k7, p5 ρ5 _ τ k8 k9 ((rs2.grow g5).grow k9)⟩
            | exc c vs h5 => rw [e4] at p2; exact p2.elim
            | bad => rw [e4] at p2; exact p2.elim
        · rw [if_neg hcn] at p1; exact p1.elim
    | _ => exact p1.elim
end
end Ev

end

section
set_option maxRecDepth 100000
/-! Ev15: del, loops. -/
namespace Ev
open PySem PySem.Spec PyProof.Rows L2
section
variable {X : Cx} {G : Gs} {W : WX} {cf : Cf} {a b c : Expr} {fa fb fc : Ex} {pos p pos' : Pos} {ra : Ax} {st : Stmt} {sts : List Stmt} {sa sb : Sx} {t : Tx}
theorem del_ok {o i : Val} {x y : V} {ρ : List Addr} {h h1 : AH} {H : Hp} (rel : Rel G ρ h H) (ro : RV ρ H o x) (ri : RV ρ H i y) (e : pyDel o i h = some h1) :
    ∃ q kvs k H1, x = .ref q ∧ ((H q = some (.dK kvs) ∧ H1 = H) ∨ (H q = some (.dT []) ∧ kvs = [] ∧ H1 = upd H q (.dK []))) ∧ y = kV k ∧ (valV kvs k).isSome = true ∧ Rel G ρ h1 (upd H1 q (.dK (dropK kvs k))) ∧ Grow ρ H ρ (upd H1 q (.dK (dropK kvs k))) := by
  unfold pyDel at e
  cases ro with
  | @ref n q hq =>
    obtain ⟨ob, ho, qo⟩ := rel.there hq
    simp only [ho] at e
    cases ob with
    | dic kvs =>
      have e : (if (isKey i && keysK kvs && (dget kvs i).isSome) = true then some (h.set n (.dic (ddrop kvs i))) else none) = some h1 := e
      obtain ⟨hc, e⟩ := ite_some e
      cases e
      rw [Bool.and_eq_true, Bool.and_eq_true] at hc
      obtain ⟨⟨k1, k2⟩, k3⟩ := hc
      obtain ⟨key, rfl⟩ := isKey_of k1
      have ek := ri.key
      subst ek
      rcases qo with ⟨ks, e1, r1⟩ | ⟨ks, e1, r1⟩
      · obtain ⟨f1, f2⟩ := find_rel (fun _ _ => keyVal_inj) key r1
        have g : Grow ρ H ρ (upd H q (.dK (dropK ks key))) := grow_upd (by rw [e1]; trivial)
        refine ⟨q, ks, key, H, rfl, .inl ⟨e1, rfl⟩, rfl, ?_, rel.write hq (by rw [e1]; trivial) (.inl ⟨_, upd_same, ?_⟩), g⟩
        · rw [isSome_rel f1 f2]; exact k3
        · exact pairedP (drop_rel (fun _ _ => keyVal_inj) key r1) fun a b z => ⟨z.1, z.2.grow g⟩
      · obtain ⟨rfl, rfl⟩ := rt_notK r1 k2
        cases k3
    | _ => cases e
  | _ => cases e
theorem ds_del (ho : PE X a (tD G W cf fa)) (hi : PE X b (tD G W cf fb)) : PS X (.Delete [.Subscript a b p] pos) (tDS G W cf (sDel fa fb)) :=
  PS.le (ps_ddel ho hi) fun D τ H ⟨ρ, σ, h, rel, rs, q⟩ => toE rel rs q fun x H1 ρ1 o h1 rel1 g1 ro rs1 p1 => toE rel1 rs1 p1 fun y H2 ρ2 i h2 rel2 g2 ri rs2 p2 => by
    cases e : pyDel o i h2 with
    | none => rw [e] at p2; exact p2.elim
    | some h3 =>
      rw [e] at p2
      obtain ⟨q, kvs, k, H3, e1, e2, e3, e4, e5, e6⟩ := del_ok rel2 (ro.grow g2) ri e
      rcases e2 with ⟨e2, rfl⟩ | ⟨_, rfl, _⟩
      · exact ⟨q, kvs, k, e1, e2, e3, e4, p2 ρ2 _ τ e5 e6 (rs2.grow e6)⟩
      · cases e4
/-! ### for -/
theorem PostS.ends {ρ : List Addr} {H : Hp} {o : SO} {D D' : Ends} (p : PostS G W ρ H o D) (h1 : ∀ τ H', D.nx τ H' → D'.nx τ H') (h2 : ∀ w H', D.rt w H' → D'.rt w H') (h3 : ∀ τ H', D.bk τ H' → D'.bk τ H') (h4 : ∀ τ H', D.ct τ H' → D'.ct τ H') : PostS G W ρ H o D' := by
  cases o with
  | nx σ h => exact fun ρ' H' τ a b c => h1 _ _ (p ρ' H' τ a b c)
  | rt v h => exact fun ρ' H' w a b c => h2 _ _ (p ρ' H' w a b c)
  | bk σ h => exact fun ρ' H' τ a b c => h3 _ _ (p ρ' H' τ a b c)
  | ct σ h => exact fun ρ' H' τ a b c => h4 _ _ (p ρ' H' τ a b c)
  | _ => exact p
theorem ds_for {tg iter : Expr} {body : List Stmt} {ix : Ix} {g : Tg} (hp : PassesOwn (model X.prog X.w) X.A X.env X.xe) (hc : X.calm = true) (hi : PI X tg iter (tDI G W cf ix)) (hg : PG X tg (tgG G.K g)) (hb : PSs X body (tDS G W cf sb)) (hs : ∀ x, foldedSetIterable iter X.env x = pure x) :
    PS X (.For tg iter body [] pos) (tDS G W cf (sFor ix g sb)) :=
  PS.le (ps_for hp hc hi hg hb hs) fun D τ H ⟨ρ, σ, h, rel, rs, q⟩ => by
    show tDI G W cf ix τ H _
    refine ⟨ρ, σ, h, rel, rs, (PostS.to (R := Walk G) rs q).mono fun J H1 ⟨ρ1, s, h1, rel1, g1, wk, p1⟩ => ?_⟩
    refine ⟨fun i m τ' H' => ∃ ρ' σ' h', Rel G ρ' h' H' ∧ Grow ρ1 H1 ρ' H' ∧ RSt ρ' H' σ' τ' ∧ PostS G W ρ' H' (forLoop s g sb cf m i σ' h') D, ⟨s.size h1, ρ1, σ, h1, rel1, Grow.refl _ _, rs.grow g1, p1⟩, ?_⟩
    rintro i m τ2 H2 ⟨ρ2, σ2, h2, rel2, g2, rs2, p2⟩
    unfold forLoop at p2
    by_cases hh : s.here i h2 = true
    · rw [if_pos hh] at p2
      cases e : s.get i h2 with
      | none =>
        simp only [e] at p2
        exact .inl ⟨wk.stop i ρ2 h2 H2 rel2 g2 hh e, p2 ρ2 H2 τ2 rel2 (Grow.refl _ _) rs2⟩
      | some v =>
        simp only [e] at p2
        cases m with
        | zero => exact p2.elim
        | succ m =>
          simp only at p2
          obtain ⟨go, yl⟩ := wk.go i ρ2 h2 H2 v rel2 g2 hh e
          refine .inr ⟨go, fun τ' H' => ∃ ρ' σ' h', Rel G ρ' h' H' ∧ Grow ρ1 H1 ρ' H' ∧ RSt ρ' H' σ' τ' ∧ PostS G W ρ' H' (forLoop s g sb cf m (i + 1) σ' h') D, fun τ' H' z => ⟨m, Nat.lt_succ_self _, z⟩, fun x H3 y => ?_⟩
          obtain ⟨rel3, g3, rv⟩ := yl x H3 y
          cases hp : g.put v σ2 h2 with
          | none => rw [hp] at p2; exact p2.elim
          | some σ3 =>
            rw [hp] at p2
            simp only at p2
            refine tg_ok g rel3 (rs2.grow g3) rv hp fun τ3 rs3 _ => ⟨ρ2, σ3, h2, rel3, rs3, ?_⟩
            have p3 := PostS.grow p2 g3
            revert p3
            generalize sb cf σ3 h2 = o
            intro p3
            cases o with
            | nx σ4 h4 => exact fun ρ' H' τ' a b c => ⟨ρ', σ4, h4, a, (g2.trans g3).trans b, c, PostS.grow (r := forLoop s g sb cf m (i + 1) σ4 h4) p3 b⟩
            | ct σ4 h4 => exact fun ρ' H' τ' a b c => ⟨ρ', σ4, h4, a, (g2.trans g3).trans b, c, PostS.grow (r := forLoop s g sb cf m (i + 1) σ4 h4) p3 b⟩
            | bk σ4 h4 => exact p3
            | rt v h4 => exact p3
            | ex c vs σ4 h4 => exact p3
            | bad => exact p3
    · rw [if_neg hh] at p2; exact p2.elim
theorem ds_while {body : List Stmt} (hp : PassesOwn (model X.prog X.w) X.A X.env X.xe) (hc : PT X c (tDT G W cf t)) (hb : PSs X body (tDS G W cf sb)) : PS X (.While c body [] pos) (tDS G W cf (sWhile t sb)) :=
  PS.le (ps_while hp hc hb) fun D τ H ⟨ρ, σ, h, rel, rs, q⟩ => by
    refine ⟨fun m τ' H' => ∃ ρ' σ' h', Rel G ρ' h' H' ∧ RSt ρ' H' σ' τ' ∧ PostS G W ρ' H' (whileLoop t sb cf m σ' h') D, ⟨turns, ρ, σ, h, rel, rs, q⟩, ?_⟩
    rintro m τ1 H1 ⟨ρ1, σ1, h1, rel1, rs1, p1⟩
    cases m with
    | zero => exact p1.elim
    | succ m =>
      have p1 : PostS G W ρ1 H1 ((t cf σ1 h1).to σ1 fun c h1 => if c then match sb cf σ1 h1 with
        | .nx σ2 h2 => whileLoop t sb cf m σ2 h2
        | .ct σ2 h2 => whileLoop t sb cf m σ2 h2
        | .bk σ2 h2 => .nx σ2 h2
        | .rt v h2 => .rt v h2
        | .ex c vs σ2 h2 => .ex c vs σ2 h2
        | .bad => .bad
        else .nx σ1 h1) D := p1
      refine toT rel1 rs1 p1 fun k H2 ρ2 h2 rel2 g2 rs2 p2 => ?_
      cases k with
      | false =>
        rw [if_neg Bool.false_ne_true]
        exact p2 ρ2 H2 τ1 rel2 (Grow.refl _ _) rs2
      | true =>
        rw [if_pos rfl]
        refine ⟨fun τ' H' => ∃ ρ' σ' h', Rel G ρ' h' H' ∧ RSt ρ' H' σ' τ' ∧ PostS G W ρ' H' (whileLoop t sb cf m σ' h') D, fun τ' H' z => ⟨m, Nat.lt_succ_self _, z⟩, ρ2, σ1, h2, rel2, rs2, ?_⟩
        rw [if_pos rfl] at p2
        revert p2
        generalize sb cf σ1 h2 = o
        intro p3
        cases o with
        | nx σ4 h4 => exact fun ρ' H' τ' a b c => ⟨ρ', σ4, h4, a, c, PostS.grow (r := whileLoop t sb cf m σ4 h4) p3 b⟩
        | ct σ4 h4 => exact fun ρ' H' τ' a b c => ⟨ρ', σ4, h4, a, c, PostS.grow (r := whileLoop t sb cf m σ4 h4) p3 b⟩
        | bk σ4 h4 => exact p3
        | rt v h4 => exact p3
        | ex c vs σ4 h4 => exact p3
        | bad => exact p3
end
end Ev

end

section
set_option maxRecDepth 100000
set_option maxHeartbeats 1000000
/-! Ev16: own errors of two steps over Exception, with one field: made and raised. -/
namespace Ev
open PySem PySem.Spec PyProof.Rows L2
abbrev twoUp (C D : Addr) : List Value := .ref C :: .ref D :: PySem.ESX.exTail
theorem two_has {K : PySem.W.Frag} {C D : Addr} {cd0 : ClassData} (e1 : PySem.W.clsIn K C = some cd0) (e2 : cd0.mro = twoUp C D) {b : Value} (hb : (twoUp C D).contains b = true) : PySem.W.mroIn K C b = some true := by
  have z : ¬ (List.isEmpty (twoUp C D) = true) := fun q => Bool.noConfusion q
  show (Option.bind (PySem.W.clsIn K C) _) = some true
  rw [e1]
  show (if cd0.mro.isEmpty = true then _ else _) = some true
  rw [e2, if_neg z, hb]
section
variable {prog : Program} {w : World} {A : Around} {R : Result → Shared → Prop} {hh : Heap} {gs : Array GenState} {dr : Drawn} {tk : Nat} {os : OsState}
open Builtin Builtin.ObjectAttr PySem.W PySem.Calls in
/-- the first field of a new error -/
theorem err_put {K : PySem.W.Frag} {f : Str} {tt : Tok} {v : Value} {x C D : Addr} {fv : Array Value} {cd0 : ClassData}
    (kin : K.In hh) (ox : hh.get? x = some { cls := .ref C, data := .fields fv }) (e1 : PySem.W.clsIn K C = some cd0) (e2 : cd0.mro = twoUp C D) (e3 : cd0.hasDict = true) (e4 : PySem.W.findIn K (.ref C) f = some none)
    (hq : ∀ hn tn dx, (∀ b o, b ≠ x → hh.get? b = some o → hn.get? b = some o) → hh.objs.size ≤ dx → dx ≠ x → hn.get? x = some { cls := .ref C, dict := some dx, data := .fields fv } →
      hn.Ns1 dx (fun y => if y = f then some v else none) → R (.ok (.ret .none)) ⟨hn, gs, dr, tn, os⟩) :
    codeAny (model prog w) A (.call (.builtin "object.__setattr__") ⟨[.ref x, .str f tt, v], []⟩) R ⟨hh, gs, dr, tk, os⟩ := by
  have inst : PySem.W.InstAt hh x { cls := .ref C, data := .fields fv } C none := ⟨ox, rfl, rfl, trivial⟩
  have sf := PySem.F.store_object
  have isO : PySem.W.Looks (model prog w) hh (isInstance (.ref x) (.type "object")) true := inst.type.andThen (PySem.W.looks_mroIn kin (two_has e1 e2 (by
    show (Value.ref C :: Value.ref D :: PySem.ESX.exTail).contains (.type "object") = true
    rw [List.contains_cons, List.contains_cons, (by decide +kernel : PySem.ESX.exTail.contains (.type "object") = true), Bool.or_true, Bool.or_true])))
  have apart : x ≠ hh.objs.size := Nat.ne_of_lt (Heap.lt_size ox)
  have step : refuseLoop (.ref x) "__setattr__" cd0.mro = pure () := by
    rw [e2, refuseLoop_ref, refuseLoop_ref]
    exact PySem.F.store_Exception.passes (.ref x)
  have lm : PySem.W.Looks (model prog w) hh (mroOf (.ref C)) cd0.mro := (PySem.W.looks_clsIn kin e1).andThen .now
  have lt : PySem.W.Looks (model prog w) hh (storeTaker? none) none := .now
  have lc : PySem.W.Looks (model prog w) hh (classData C) cd0 := PySem.W.looks_clsIn kin e1
  refine codeAny_call_builtin sf.slot.plain sf.entry (@PySem.W.check_slot (model prog w) _ _ ⟨hh, gs, dr, tk, os⟩ "object.__setattr__" "object" "__setattr__" (.ref x) [.str f tt, v] [] _ sf.kind sf.split isO (sf.args (.ref x) (.str f tt) v) ?_)
  rw [PySem.W.osa_eq, refuse_eq]
  refine wpAny_bind (wpAny_bind (inst.type.at (wpAny_bind (lm.at ?_))))
  rw [step]
  refine wpAny_pure (wpAny_bind (inst.type.at (wpAny_bind ((PySem.W.looks_findIn kin e4).at (wpAny_bind (lt.at ?_))))))
  show wpAny _ _ (storeInOwnDict (.ref x) (.ref C) (.str f tt) f v false) _ _ _
  obtain ⟨c1, c2, c3, c4, c5, c6, c7, c8, c9, c10, c11⟩ := cd0
  have e3 : c6 = true := e3
  subst e3
  unfold storeInOwnDict ownDictForStores
  repeat (first | with_reducible refine PySem.HandSPX.store_in_new ?_ ?_ | with_reducible refine wpAny_loadPart_at ox ?_ | with_reducible refine lc.at ?_ | wp_step)
  · exact ⟨_, #[], _, (Heap.get?_update_ne _ _ _ _ apart.symm).trans (Heap.get?_push_at rfl rfl), rfl, fun e he => absurd he (by simp), fun _ => rfl⟩
  · intro hn tn nsn same
    have ox1 : (hh.push { cls := .type "dict", data := .dict #[] }).get? x = some { cls := .ref C, data := .fields fv } := Heap.get?_push_of_some _ ox
    refine hq hn tn hh.objs.size (fun b o hb ho => ?_) (Nat.le_refl _) apart.symm ?_ nsn
    · exact (same.2 b (Nat.ne_of_lt (Heap.lt_size ho))).trans ((Heap.get?_update_ne _ _ _ _ hb).trans (Heap.get?_push_of_some _ ho))
    · exact (same.2 x apart).trans (Heap.get?_update_self _ ox1 rfl)
end
/-- the text of such a class's __init__ -/
def xA (f : Str) (p1 p2 : Pos) : Arguments := { posonlyargs := [], args := [{ arg := "self", annotation := none, pos := p1 }, { arg := f, annotation := none, pos := p2 }], vararg := none, kwonlyargs := [], kw_defaults := [], kwarg := none, defaults := [] }
def xB (f : Str) (q1 q2 q3 q4 : Pos) : List Stmt := [.Assign [.Attribute (.Name "self" q1) f q2] (.Name f q3) q4]
def xS (f : Str) : Scope := { kind := .function, names := [(PySem.Str.ofString "self", .local), (f, .local)], isGenerator := false, isCoroutine := false, more := [] }
abbrev oneField (f : Str) : Prop := (f == ("self" : Str)) = false ∧ (f == ("__debug__" : Str)) = false
open PySem.W in
/-- what the written part says of the class x at C with the field f, and of its __init__, at fI -/
structure XTxt (K : Frag) (mg : Str → Option Value) (x f : Str) (C fI : Addr) : Prop where
  gC : mg x = some (.ref C)
  cls : ∃ nm q N bs D sn sub ab col dd k0 k1 k2 k3 k5, K.lookup C = some (excClassObj nm q C N bs (.ref D :: PySem.ESX.exTail) true sn sub ab col dd k0 k1 k2 k3 k5 "Exception.__new__")
  sa : findIn K (.ref C) "__setattr__" = some (some (.builtin "object.__setattr__"))
  noN : findIn K (.ref C) f = some none
  iC : findIn K (.ref C) "__init__" = some (some (.ref fI))
  tC : typeIn K (.ref fI) = some (.type "function")
  kC : keepIn K (.ref C) = true
  exC : subIn K (.ref C) (.type "BaseException") = some true
  tyC : typeIn K (.ref C) = some (.type "type")
  nf : oneField f
  fn : ∃ (oc : Value) (od : Option Addr) (kV doc pm : Value) (an : Option Addr) (cdv ct : Value) (osl : Array (Option Value)) (qn : Str) (p1 p2 q1 q2 q3 q4 : Pos),
    K.lookup fI = some ⟨oc, od, .func (fnOf "__init__" qn (xA f p1 p2) (xB f q1 q2 q3 q4) (xS f) .none kV doc pm an cdv ct), osl⟩ ∧ codeIn K cdv qn = true ∧
    ∀ s a b, BindsTo s (fnOf "__init__" qn (xA f p1 p2) (xB f q1 q2 q3 q4) (xS f) .none kV doc pm an cdv ct) ⟨[a, b], []⟩ [("self", a), (f, b)]
/-- a made error -/
structure XMade (h h' : Heap) (e C d : Addr) (f : Str) (v : Value) : Prop where
  keep : ∀ b o, h.get? b = some o → h'.get? b = some o
  new : h.objs.size ≤ e
  obj : ∃ oe vs, h'.get? e = some oe ∧ oe.cls = .ref C ∧ oe.dict = some d ∧ oe.data = .fields vs ∧ vs[1]? = some .none
  dbig : h.objs.size ≤ d
  dne : d ≠ e
  ns : h'.Ns1 d (fun y => if y = f then some v else none)
section
variable {prog : Program} {w : World} {A : Around} {E : Value → Shared → Prop} {R : Result → Shared → Prop} {s : Shared} {K : PySem.W.Frag} {mg : Str → Option Value} {x f : Str} {C fI : Addr}
theorem err_init (T : XTxt K mg x f C fI) {e t0 : Addr} {v : Value} (kin : K.In s.heap) (nl : s.heap.NoLimit) (he : s.heap.get? e = some (PySem.HandSPX.excO C t0)) (room : A.depth < recursionLimit)
    (hq : ∀ hn tn dx, (∀ b o, b ≠ e → s.heap.get? b = some o → hn.get? b = some o) → hn.get? e = some { cls := .ref C, dict := some dx, data := .fields #[.ref t0, .none, .none, .none, .bool false, .none] } → s.heap.objs.size ≤ dx → dx ≠ e → hn.Ns1 dx (fun y => if y = f then some v else none) → R (.ok (.ret .none)) { s with heap := hn, toks := tn }) :
    codeAny (model prog w) A (.call (.ref fI) ⟨[.ref e, v], []⟩) R s := by
  obtain ⟨oc, od, kV, doc, pm, an, cdv, ct, osl, qn, p1, p2, q1, q2, q3, q4, ho, hcd, hb⟩ := T.fn
  obtain ⟨nm, q, N, bs, D, sn, sub, ab, col, dd, k0, k1, k2, k3, k5, hC⟩ := T.cls
  have cd0 : PySem.W.clsIn K C = some { name := nm, bases := bs, mro := twoUp C D, ns := N, qualname := q, hasDict := true, slotNames := sn, subclasses := sub, abstract := ab, collection := col, hasDel := false } := by
    unfold PySem.W.clsIn
    rw [hC]
  have nself : (f == ("self" : Str)) = false := T.nf.1
  have kf : (xS f).names.lookup f = some .local := by
    show List.lookup f [(PySem.Str.ofString "self", NameKind.local), (f, NameKind.local)] = _
    rw [List.lookup_cons]
    have z : (f == PySem.Str.ofString "self") = false := nself
    rw [z]
    show List.lookup f [(f, NameKind.local)] = _
    rw [List.lookup_cons]
    simp
  have ks : (xS f).names.lookup ("self" : Str) = some NameKind.local := by
    show List.lookup ("self" : Str) [(PySem.Str.ofString "self", NameKind.local), (f, NameKind.local)] = _
    rw [List.lookup_cons]
    rfl
  have nself2 : ¬ f = ("self" : Str) := fun z => by rw [z] at nself; simp at nself
  refine Att.call_fn (binds := [("self", .ref e), (f, v)]) kin nl ho hcd room (hb s (.ref e) v) (by
    show ([((("self" : Str)), Value.ref e), (f, v)].all fun y => (xS f).names.lookup y.1 == some .local || (xS f).names.lookup y.1 == some .cell) = true
    simp only [List.all_cons, List.all_nil, kf, ks]
    rfl) (fun s1 IC => ?_) rfl rfl rfl
  obtain ⟨h1, t1, rfl⟩ := IC.toInCall.same
  have k := IC.toInCall.keep
  have hn := IC.toInCall.ns
  show wpAny _ _ (execs [.Assign [.Attribute (.Name "self" q1) f q2] (.Name f q3) q4] _) _ _ _
  refine wpAny_execs_cons (plainObj_wpAny_Assign_Attribute ?_)
  have mf : (bindL (envOfC qn (xS f) s.heap.objs.size fI cdv).kindOf [((("self" : Str)), Value.ref e), (f, v)] fun _ => none) f = some v := by
    have kk : (envOfC qn (xS f) s.heap.objs.size fI cdv).kindOf f = some .local := kf
    have kk2 : (envOfC qn (xS f) s.heap.objs.size fI cdv).kindOf "self" = some .local := ks
    simp [bindL, kk, kk2]
  have ms : (bindL (envOfC qn (xS f) s.heap.objs.size fI cdv).kindOf [((("self" : Str)), Value.ref e), (f, v)] fun _ => none) "self" = some (.ref e) := by
    have kk : (envOfC qn (xS f) s.heap.objs.size fI cdv).kindOf f = some .local := kf
    have kk2 : (envOfC qn (xS f) s.heap.objs.size fI cdv).kindOf "self" = some .local := ks
    simp [bindL, kk, kk2, nself2, Ne.symm nself2]
  refine wpAny_Name (wpAny_loadName_local rfl kf hn mf ?_) T.nf.2
  refine wpAny_Name (wpAny_loadName_local rfl ks hn ms ?_) (by decide)
  refine PySem.W.set_plain (kin.keeps k) (ox := PySem.HandSPX.excO C t0) (od := none) ⟨k _ _ he, rfl, rfl, trivial⟩ T.sa ?_
  refine err_put (kin.keeps k) (k _ _ he) cd0 rfl rfl T.noN (fun hn' tn dx k3 dn dne hx3 ns3 => ?_)
  show wpAny _ _ (execs _ _) _ _ _
  have z : s.heap.objs.size < h1.objs.size := hn.lt
  exact wpAny_execs_nil (hq hn' tn dx (fun b o hb e' => k3 b o hb (k b o e')) hx3 (Nat.le_of_lt (Nat.lt_of_lt_of_le z dn)) dne ns3)
theorem two_contains (D : Addr) (Y : String) : (Value.ref D :: PySem.ESX.exTail).contains (.type Y) = PySem.ESX.exTail.contains (.type Y) := by
  rw [List.contains_cons]
  rfl
theorem err_made (T : XTxt K mg x f C fI) {v : Value} (kin : K.In s.heap) (nl : s.heap.NoLimit) (room : A.depth + 1 < recursionLimit)
    (hq : ∀ hn tn e d, XMade s.heap hn e C d f v → R (.ok (.ret (.ref e))) { s with heap := hn, toks := tn }) : codeAny (model prog w) A (.call (.ref C) ⟨[v], []⟩) R s := by
  obtain ⟨nm, q, N, bs, D, sn, sub, ab, col, dd, k0, k1, k2, k3, k5, hC⟩ := T.cls
  obtain ⟨hh, gs, dr, tk, os⟩ := s
  have k : ∀ b o, hh.get? b = some o → ((hh.push (PySem.W.kdv_tup [v])).push (PySem.HandSPX.excO C hh.objs.size)).get? b = some o := fun b o e => Heap.get?_push_of_some _ (Heap.get?_push_of_some _ e)
  have at1 : ((hh.push (PySem.W.kdv_tup [v])).push (PySem.HandSPX.excO C hh.objs.size)).get? (hh.objs.size + 1) = some (PySem.HandSPX.excO C hh.objs.size) := by
    have z := Heap.get?_push_size (hh.push (PySem.W.kdv_tup [v])) (o := PySem.HandSPX.excO C hh.objs.size) rfl
    rw [Heap.size_push] at z
    exact z
  refine PySem.HandSPX.call_own PySem.F.excBase_Exception (fun Y => two_contains D Y) (kin _ _ hC) (PySem.W.looks_findIn kin T.iC) (fun self => PySem.W.bind_fn kin self T.tC) (by rw [sizeLine_eq]; exact (by decide : 1 ≤ 16777216)) ?_
  refine err_init (s := ⟨(hh.push (PySem.W.kdv_tup [v])).push (PySem.HandSPX.excO C hh.objs.size), gs, dr, tk, os⟩) T (kin.keeps k) (nl.keeps k) at1 ?_ fun hn tn dx kk hx dn dne nsn => ?_
  · show A.depth + 1 < recursionLimit
    exact room
  · have z : hh.objs.size + 1 + 1 ≤ dx := by
      have q := dn
      rw [Heap.size_push, Heap.size_push] at q
      exact q
    exact ⟨rfl, hq hn tn (hh.objs.size + 1) dx ⟨fun b o e => kk b o (Nat.ne_of_lt (Nat.lt_succ_of_lt (Heap.lt_size e))) (k b o e), Nat.le_succ _, ⟨_, _, hx, rfl, rfl, rfl, rfl⟩, Nat.le_trans (Nat.le_trans (Nat.le_succ _) (Nat.le_succ _)) z, dne, nsn⟩⟩
end
theorem relO_one {v : V} {u : Value} (r : RelV v u) (f g : Str) : RelO (List.lookup g [(f, v)]) (if g = f then some u else none) := by
  by_cases e : g = f
  · subst e
    rw [if_pos rfl]
    have q : List.lookup g [(g, v)] = some v := by simp [List.lookup]
    rw [q]
    exact r
  · rw [if_neg e]
    have qf : (g == f) = false := by simpa using e
    have q : List.lookup g [(f, v)] = none := by simp [List.lookup, qf]
    rw [q]
    trivial
section
variable {X : Cx} {G : Gs} {W : WX} {cf : Cf} {a : Expr} {fa : Ex} {ra : Ax} {p pos pos2 : Pos} {x f : Str} {C fI : Addr}
/-- x(e) -/
def tMkX (f : Str) (C : Addr) (ta : TA) : L2.St → Hp → XK → Prop := fun σ H Q => ta σ H fun vs H1 => ∃ v, vs = [v] ∧ ∀ d, H1 d = none → Q (.ref C) (some d) (upd H1 d (.xd [(f, v)]))
theorem pmk_err {ta : TA} {k : Nat} (T : XTxt X.K X.mg x f C fI) (hr : Room k X.A) (ha : PA X [a] ta) (hg : Gl X x) (hd : (x == ("__debug__" : Str)) = false) (hp : plainArg a = true) : PMk X (.Call (.Name x p) [a] [] pos) (tMkX f C ta) := by
  intro pins s σ H Q I h
  refine wpAny_Call_Name_kw (ld_glob I hg T.gC ?_ hd)
  refine PySem.W.callWith_K (h₀ := X.base) I.ok.mod.kin T.kC (thn (ha.run pos pins s σ H _ I h) fun us s1 ⟨vs, H1, I1, r1, v, ev, q1⟩ => ?_) (star_cons hp) (star_any rfl)
  subst ev
  refine ⟨I1.kIn, ?_⟩
  cases r1 with
  | @cons _ u _ _ rv rn =>
    cases rn
    show wpAny _ _ (call (.ref C) [u]) _ _ _
    have nl := I1.nolimit
    obtain ⟨hh, gs, dr, tk, os⟩ := s1
    refine wpAny_call (err_made T I1.kIn nl (by have := hr.dp; omega) fun hn tn e d M => ?_)
    show MkP X pins σ Q (.ref e) ⟨hn, gs, dr, tn, os⟩
    obtain ⟨oe, fv, hoe, hc, hdd, hdat, h1⟩ := M.obj
    obtain ⟨Gh, g1, g2⟩ := restrict hn fun b => decide (b ≠ e)
    have gk : ∀ b, b ≠ e → Gh.get? b = hn.get? b := fun b hb => g1 b (decide_eq_true hb)
    have ge : Gh.get? e = none := g2 e (by simp)
    have old : ∀ b o, hh.get? b = some o → Gh.get? b = some o := fun b o q => (gk b (Nat.ne_of_lt (Nat.lt_of_lt_of_le (Heap.lt_size q) M.new))).trans (M.keep b o q)
    have ob : ObjOk X.prog X.w (upd H1 d (.xd [(f, v)])) Gh d (.xd [(f, v)]) := ⟨_, M.ns.at (fun o q => (gk d M.dne).trans q), fun g => relO_one rv f g⟩
    have J : Inv X pins σ (upd H1 d (.xd [(f, v)])) ⟨Gh, gs, dr, tn, os⟩ := I1.laid (t' := tn) old M.dbig ob
    refine ⟨e, oe, fv, ⟨Gh, gs, dr, tn, os⟩, _, .ref C, some d, rfl, J, fun b o q => ?_, ge, hoe, ⟨hc, hdd⟩, hdat, h1, ?_, rfl, I1.bare, raises_own T.exC T.tyC, q1 d (I1.hok.fresh M.dbig)⟩
    · by_cases hb : b = e
      · have q' : Gh.get? b = some o := q
        rw [hb, ge] at q'
        cases q'
      · exact (gk b hb).symm.trans q
    · rw [upd_ne (Ne.symm M.dne)]
      exact I1.hok.fresh M.new
theorem to_one {ρ : List Addr} {h : AH} {H : Hp} {σ : St} {k : Val → AH → SO} {D : Ends} (q : PostS G W ρ H ((fa cf σ h).to σ k) D) : PostS G W ρ H ((aCons fa aNil cf σ h).to σ fun vs h1 => match vs with
    | [v] => k v h1
    | _ => .bad) D := by
  unfold aCons aNil
  cases e : fa cf σ h with
  | ok v h1 => rw [e] at q; exact q
  | exc c vs h1 => rw [e] at q; exact q
  | bad => rw [e] at q; exact q
theorem ds_raise {k : Nat} (hc : X.calm = true) (hmg : X.mg = G.mg) (T : XTxt X.K X.mg x f C fI) (hx : G.xf x = [f]) (hr : Room k X.A) (tk : Takes X W) (hg : Gl X x) (hd : (x == ("__debug__" : Str)) = false) (hp : plainArg a = true) (ha : PE X a (tD G W cf fa)) :
    PS X (.Raise (some (.Call (.Name x p) [a] [] pos)) none pos2) (tDS G W cf (sRaise x fa)) :=
  PS.le (ps_raise hc tk (pmk_err T hr (da_cons hp ha da_nil) hg hd hp)) fun D τ H ⟨ρ, σ, h, rel, rs, q⟩ => toA rel rs (to_one q) fun xs H1 ρ1 vs h1 rel1 g1 rv rs1 p1 => by
    match vs, rv, p1 with
    | [v], .cons (w := y) ry .nil, p1 =>
      have p1 : ∀ ρ' H' τ cls d, Rel G ρ' h1 H' → Grow ρ1 H1 ρ' H' → RSt ρ' H' σ τ → ExcR G ρ' H' x [v] cls d → W cls d τ H' := p1
      refine ⟨y, rfl, fun d hd' => ?_⟩
      have g2 : Grow ρ1 H1 ρ1 (upd H1 d (.xd [(f, y)])) := grow_upd (by rw [hd']; trivial)
      exact p1 ρ1 _ τ _ _ (rel1.aside hd') g2 (rs1.grow g2) ⟨C, d, [y], by rw [← hmg]; exact T.gC, rfl, rfl, by rw [hx]; exact upd_same, by rw [hx]; rfl, .cons (ry.grow g2) .nil⟩
    | [], _, p1 => exact p1.elim
    | _ :: _ :: _, _, p1 => exact p1.elim
end
end Ev

end

section
set_option maxRecDepth 100000
set_option maxHeartbeats 1000000
/-! Ev17: try with several clauses that name the error; a lambda told. -/
namespace Ev
open PySem PySem.Spec PyProof.Rows L2
/-- the ends of a suite behind which its name goes -/
def endsW (i : Nat) (D : Ends) : Ends := { nx := fun σ H => D.nx (σ.set i none) H, rt := D.rt, bk := fun σ H => D.bk (σ.set i none) H, ct := fun σ H => D.ct (σ.set i none) H }
/-- what the clauses, each with the name of slot i, wish of an error -/
def wNamed (K : PySem.W.Frag) (i : Nat) (Wo : WX) (D : Ends) : List (Value × (Addr → Value → Option Addr → TS)) → WX
  | [] => Wo
  | (c, ts) :: r => fun cls d σ H => ∃ b, PySem.W.exmOne K cls c = some b ∧ (b = true → ∀ a, H a = none → i < σ.length → ts a cls d (endsW i D) (σ.set i (some (.ref a))) H) ∧ (b = false → wNamed K i Wo D r cls d σ H)
inductive Clauses (X : Cx) (n : Str) : List ExceptHandler → List (Value × (Addr → Value → Option Addr → TS)) → Prop
  | nil : Clauses X n [] []
  | cons {y : Str} {c : Value} {ts : Addr → Value → Option Addr → TS} {st : Stmt} {sts : List Stmt} {q q' : Pos} {hds : List ExceptHandler} {l : List (Value × (Addr → Value → Option Addr → TS))} : Names X y c →
      (∀ (a : Addr) (oe : Obj) (cls : Value) (d : Option Addr) (pn : List (Addr × Obj)), Zc cls d oe → (∃ vs, oe.data = .fields vs) → PSs (X.suite a ((a, oe) :: pn)) (st :: sts) (ts a cls d)) → Clauses X n hds l →
      Clauses X n (.ExceptHandler (some (.Name y q)) (some n) (st :: sts) q' :: hds) ((c, ts) :: l)
section
variable {X : Cx} {pins : List (Addr × Obj)} {n : Str} {i : Nat} {Wo : WX} {D : Ends} {a : Addr} {cls : Value} {d : Option Addr} {τ : L2.St} {H : Hp} {sI s0 : Shared} {B : Heap}
/-- an error in the frame's hand is not one of the frames, nor the locals -/
theorem not_frame {h : Heap} {o : Obj} {fv : Array Value} {l : List Env} (ff : h.FunFrames B l) (e : h.get? a = some o) (dd : o.data = .fields fv) : a ∉ frs l := fun hm => by
  obtain ⟨_, o2, e2, nf⟩ := ff.mem hm
  rw [e] at e2
  cases e2
  exact nf _ dd
end
section
variable {X : Cx} {body : List Stmt} {h0 : ExceptHandler} {hds : List ExceptHandler} {l : List (Value × (Addr → Value → Option Addr → TS))} {pos : Pos} {tb : WX → TS} {Wo : WX} {n : Str} {i : Nat}
theorem ps_tryN (hs : X.stack = X.env :: X.outer) (hf : X.env.frame = some X.env.locals) (hN : X.N.Nodup) (hi : X.N[i]? = some n) (hl : X.env.kindOf n = some .local) (tk : Takes X Wo)
    (hb : ∀ (W : WX) (pn : List (Addr × Obj)) (xe : Value → Shared → Prop), Takes (X.tr pn xe) W → PassesOwn (model X.prog X.w) X.A X.env xe → PSs (X.tr pn xe) body (tb W)) (hh : Clauses X n (h0 :: hds) l) :
    PS X (.Try body (h0 :: hds) [] [] pos) (fun D τ H => tb (wNamed X.K i Wo D l) D τ H) := by
  constructor
  intro pins s τ H D I red
  have okk := I.ok
  have frames : X.A.frames = some (X.env :: X.outer) := okk.frames.trans (congrArg some hs)
  refine wpAny_Try_except ?_
  refine wpAny_mono ((hb (wNamed X.K i Wo D l) (X.pn ++ pins) (fun e s1 => wpAny (model X.prog X.w) X.A (noteFrame e X.env) (fun _ s2 => wpAny (model X.prog X.w) X.A (setFlight e none) (fun _ s3 =>
    wpAny (model X.prog X.w) X.A (handleBy e X.env (h0 :: hds)) (SP X pins D) X.xe s3) X.xe s2) X.xe s1) (fun u sq xq => ?caught) PassesOwn.looking).run [] s τ H D (I.toTry _) red) (fun fl s1 hsp => ?through) (fun e s1 he => he)
  case through =>
    cases fl with
    | next => obtain ⟨t1, H1, J, q⟩ := hsp; exact wpAny_execs_nil ⟨t1, H1, J.ofTry okk, q⟩
    | brk => obtain ⟨t1, H1, J, q⟩ := hsp; exact ⟨t1, H1, J.ofTry okk, q⟩
    | cont => obtain ⟨t1, H1, J, q⟩ := hsp; exact ⟨t1, H1, J.ofTry okk, q⟩
    | ret v => obtain ⟨v1, t1, H1, J, r, q⟩ := hsp; exact ⟨v1, t1, H1, J.ofTry okk, r, q⟩
  case caught =>
    obtain ⟨a, B, sI, pq, t1, H1, cls, d, eu, Jq, nb, up, sky, na, os, ag, wish⟩ := xq
    subst eu
    have J : Inv X pins t1 H1 sI := Jq.ofTry okk
    have sky2 : Sky B (X.env :: X.outer) a (Zc cls d) X.env.locals sq.heap := hs ▸ sky
    show wpAny (model X.prog X.w) X.A (noteFrame (.ref a) X.env) _ _ _
    refine Sky.land Zc.steady frames hf sky2 fun h3 fl3 up3 => ?_
    have J3 : Inv X pins t1 H1 { sq with heap := h3 } := J.landed nb fl3.1 (up.trans up3) os ag
    obtain ⟨oe3, fv3, he3, hz3, hd3⟩ := fl3.there
    have off : a ∉ frs (X.env :: X.outer) := not_frame fl3.2.2.1 he3 hd3
    have offL : a ≠ X.env.locals := fun z => off (List.mem_filterMap.mpr ⟨X.env, List.mem_cons_self, by rw [hf, z]⟩)
    have offF : a ∉ X.fs := fun hm => by
      obtain ⟨e, he, q⟩ := List.mem_filterMap.mp hm
      exact off (List.mem_filterMap.mpr ⟨e, List.mem_cons_of_mem _ he, q⟩)
    have S3 := J3.suite he3 hd3 na offL offF
    suffices go : ∀ {hk : List ExceptHandler} {lk : List (Value × (Addr → Value → Option Addr → TS))}, Clauses X n hk lk → wNamed X.K i Wo D lk cls d t1 H1 → wpAny (model X.prog X.w) X.A (handleBy (.ref a) X.env hk) (SP X pins D) X.xe { sq with heap := h3 } from go hh wish
    intro hk lk cl
    induction cl with
    | nil =>
      intro wq
      refine wpAny_handleBy_nil ?_
      obtain ⟨k1, k2, k3, oe, fv, T, oT, tsv, he, hz, hd, h1, hr⟩ := id fl3
      unfold PySem.passOn
      refine wpAny_bind (wpAny_field he hd h1 ?_)
      have nn : ¬ ((Value.ref T == Value.none) = true) := by simp
      rw [if_neg nn]
      have out : wpAny (model X.prog X.w) X.A (setFlight (.ref a) X.env.frame) (fun _ s4 => wpAny (model X.prog X.w) X.A (throw (.ref a) : Sem Flow) (SP X pins D) X.xe s4) X.xe { sq with heap := h3 } := by
        rw [hf]
        refine HandSPX.setFlight_upZ fl3 fun h4 held up4 => wpAny_throw (tk _ _ ⟨a, B, sI, pins, t1, H1, cls, d, rfl, J, nb, (up.trans up3).trans up4, .inr (.inr ?_), na, os, ag, wq⟩)
        rw [hs]
        exact held
      first
        | exact wpAny_bind (wpAny_pure (wpAny_bind out))
        | exact wpAny_bind out
    | @cons y c ts st sts q q' hk2 lk2 nm suite rest ih =>
      intro wq
      obtain ⟨b, eb, yes, no⟩ := wq
      refine wpAny_handleBy_cons (codeAny_handlers_test ?_) (by intro z; cases z)
      have isC : PySem.W.Looks (model X.prog X.w) h3 (typeOf (.ref a)) cls := fun A Q E s k z => wpAny_typeOf_ref (k _ _ he3) (by rw [hz3.1]; exact z)
      have fits := PySem.W.exm_one (M := model X.prog X.w) (J3.kIn) isC eb
      have named : ∀ {Q : Value → Shared → Prop} {E : Value → Shared → Prop}, Q c { sq with heap := h3 } → wpAny (model X.prog X.w) (X.A.mark (some (.ref a))) (eval (.Name y q) X.env) Q E { sq with heap := h3 } := fun {Q E} z => by
        obtain ⟨g1, g2, g3 | ⟨g3, g4, g5⟩⟩ := nm
        · exact ld_glob (X := X.suite a ((a, oe3) :: (X.pn ++ pins))) S3 g1 g3 z g2
        · exact ld_blt (X := X.suite a ((a, oe3) :: (X.pn ++ pins))) S3 g1 g3 g4 z g5 g2
      refine named (fits.here ?_)
      cases b with
      | false =>
        show wpAny _ X.A (handleBy (.ref a) X.env hk2) _ _ _
        exact ih (no rfl)
      | true =>
        refine codeAny_handlers_suite_as ?_
        refine HandSPX.lands_againZ fl3 fun h4 fl4 up4 => ?_
        have J4 : Inv X pins t1 H1 { sq with heap := h4 } := J.landed nb fl4.1 ((up.trans up3).trans up4) os ag
        obtain ⟨oe4, fv4, he4, hz4, hd4⟩ := fl4.there
        have S4 := J4.suite he4 hd4 na offL offF
        refine store_ok (X := X.suite a ((a, oe4) :: (X.pn ++ pins))) (v := .ref a) S4 hN hi (.inl hl) rfl (fun s5 S5 => ?_) (.inr hl)
        refine wpAny_mono ((suite a oe4 cls d (X.pn ++ pins) hz4 ⟨_, hd4⟩).run [] s5 _ H1 _ S5 (yes rfl a na (by rw [S4.len]; exact (List.getElem?_eq_some_iff.mp hi).1))) (fun fl s6 hsp => ?_) (fun _ _ z => False.elim z)
        have close : ∀ {t6 : L2.St} {H6 : Hp} {Q : Shared → Prop}, Inv (X.suite a ((a, oe4) :: (X.pn ++ pins))) [] t6 H6 s6 → (∀ s7, Inv X pins (t6.set i none) H6 s7 → Q s7) →
            wpAny (model X.prog X.w) X.A (do bindName X.env n .none; unbindBehindTheSuite X.env n q') (fun _ s7 => Q s7) X.xe s6 := fun {t6 H6 Q} S6 z => gone_ok (S6.unsuite okk) hN hi hl z
        cases fl with
        | next => obtain ⟨t6, H6, S6, q6⟩ := hsp; exact close S6 fun s7 J7 => ⟨_, _, J7, q6⟩
        | brk => obtain ⟨t6, H6, S6, q6⟩ := hsp; exact close S6 fun s7 J7 => ⟨_, _, J7, q6⟩
        | cont => obtain ⟨t6, H6, S6, q6⟩ := hsp; exact close S6 fun s7 J7 => ⟨_, _, J7, q6⟩
        | ret v => obtain ⟨v6, t6, H6, S6, r6, q6⟩ := hsp; exact close S6 fun s7 J7 => ⟨_, _, _, J7, r6, q6⟩
end
end Ev

end

section
set_option maxRecDepth 100000
set_option maxHeartbeats 1000000
/-! Ev18: _law_told(lambda: ..). -/
namespace Ev
open PySem PySem.Spec PyProof.Rows L2 LamX
/-- an error that the clauses tell: its name and its field -/
def Wish (G : Gs) (tab : List Str) (Q : VK) : XK := fun cls d H => ∃ c ∈ tab, ∃ C f dd w, G.mg c = some (.ref C) ∧ G.xf c = [f] ∧ cls = .ref C ∧ d = some dd ∧ H dd = some (.xd [(f, w)]) ∧ ∀ p, H p = none → Q (.ref p) (upd H p (.tup [.str c, w]))
def TTell (G : Gs) (tab : List Str) : (XK → Hp → VK → Prop) → Hp → VK → Prop := fun tl H Q =>
  tl (Wish G tab Q) H fun v H1 => ([V.str "value", v] : List V).length ≤ sizeLine ∧ ∀ p, H1 p = none → Q (.ref p) (upd H1 p (.tup [.str "value", v]))
/-- what is asked of a class whose errors are told -/
structure TellC (G : Gs) (c f : Str) (C : Addr) : Prop where
  gC : G.mg c = some (.ref C)
  xf : G.xf c = [f]
  get : XfC G.K C
  non : PySem.W.findIn G.K (.ref C) f = some none
/-- the clauses of the text, each with the name n of slot i: it tells (y, f), or it is never reached -/
inductive Tells (G : Gs) (n : Str) (sc : Scope) (tab : List Str) : List ExceptHandler → List (Str × Option Str × Addr) → Prop
  | nil : Tells G n sc tab [] []
  | tell {y f : Str} {C : Addr} {p q p1 p2 p3 p4 p5 : Pos} {j k : Nat} {hds : List ExceptHandler} {l : List (Str × Option Str × Addr)} : TellC G y f C → y ∈ tab → sc.names.lookup y = some .globalImplicit → (y == ("__debug__" : Str)) = false → Tells G n sc tab hds l →
      Tells G n sc tab (.ExceptHandler (some (.Name y p)) (some n) [.Return (some (.Tuple [.Constant (.str y) j p1, .Attribute (.Name n p2) f p3] k p4)) p5] q :: hds) ((y, some f, C) :: l)
  | pass {y : Str} {C : Addr} {p q : Pos} {st : Stmt} {sts : List Stmt} {hds : List ExceptHandler} {l : List (Str × Option Str × Addr)} : G.mg y = some (.ref C) → y ∉ tab → sc.names.lookup y = some .globalImplicit → (y == ("__debug__" : Str)) = false → Tells G n sc tab hds l →
      Tells G n sc tab (.ExceptHandler (some (.Name y p)) (some n) (st :: sts) q :: hds) ((y, none, C) :: l)
/-- the reading of a clause -/
def tellT (i : Nat) : Str × Option Str × Addr → Value × (Addr → Value → Option Addr → TS)
  | (y, some f, C) => (.ref C, fun a cls d => tRet (tTup (tCons (tC (.str y)) (tCons (tXf a cls d C f (tVar i)) tNil))))
  | (_, none, C) => (.ref C, fun _ _ _ => tNever)
section
variable {X : Cx} {G : Gs} {n : Str} {i : Nat} {tab : List Str}
theorem tells_ok (hK : X.K = G.K) (hmg : X.mg = G.mg) (hN : X.N[i]? = some n) (hn : X.env.scope.names.lookup n = some .local) (hd : (n == ("__debug__" : Str)) = false) (hcd : (n == ("__classdict__" : Str)) = false) :
    ∀ {hds : List ExceptHandler} {l : List (Str × Option Str × Addr)}, Tells G n X.env.scope tab hds l → Clauses X n hds (l.map (tellT i))
  | _, _, .nil => .nil
  | _, _, .tell t m g1 g2 r => .cons ⟨g1, g2, .inl (by rw [hmg]; exact t.gC)⟩ (fun a oe cls d pn hz hf => pss_one (ps_ret (pe_tup (pa_cons pe_str (pa_cons (pe_xf (by rw [show (X.suite a ((a, oe) :: pn)).K = G.K from hK]; exact t.get) (by rw [show (X.suite a ((a, oe) :: pn)).K = G.K from hK]; exact t.non) hz hf (pe_var hN (.inl hn) hd hcd)) pa_nil))))) (tells_ok hK hmg hN hn hd hcd r)
  | _, _, .pass g m g1 g2 r => .cons ⟨g1, g2, .inl (by rw [hmg]; exact g)⟩ (fun a oe cls d pn hz hf => pss_never) (tells_ok hK hmg hN hn hd hcd r)
/-- which class fits which -/
def Fits (G : Gs) (tab : List Str) (l : List (Str × Option Str × Addr)) : Prop := ∀ c ∈ tab, ∀ C, G.mg c = some (.ref C) → (∃ f, (c, some f, C) ∈ l) ∧ ∀ e ∈ l, PySem.W.exmOne G.K (.ref C) (.ref e.2.2) = some (decide (e.1 = c))
theorem wish_named {Wo : WX} {D : Ends} {Q : VK} {cls : Value} {d : Option Addr} {τ : L2.St} {H : Hp} {sc : Scope} (hQ : D.rt = Q) (w : Wish G tab Q cls d H) :
    ∀ {hds : List ExceptHandler} {l : List (Str × Option Str × Addr)}, Tells G n sc tab hds l → (∀ c ∈ tab, ∀ C, G.mg c = some (.ref C) → cls = .ref C → (∃ f, (c, some f, C) ∈ l) ∧ ∀ e ∈ l, PySem.W.exmOne G.K (.ref C) (.ref e.2.2) = some (decide (e.1 = c))) → wNamed G.K i Wo D (l.map (tellT i)) cls d τ H
  | _, _, .nil, hx => by
    obtain ⟨c, hc, C, f, dd, v, e1, e2, e3, e4, e5, q⟩ := w
    obtain ⟨⟨f', hm⟩, _⟩ := hx c hc C e1 e3
    cases hm
  | _, _, .tell (y := y) (f := f0) (C := C0) (l := l) t m g1 g2 r, hx => by
    obtain ⟨c, hc, C, f, dd, v, e1, e2, e3, e4, e5, q⟩ := id w
    subst e3
    refine ⟨decide (y = c), (hx c hc C e1 rfl).2 (y, some f0, C0) List.mem_cons_self, fun hy a na hl => ?_, fun hy => ?_⟩
    · have e : y = c := of_decide_eq_true hy
      subst e
      have eC : C0 = C := by
        have z := t.gC
        rw [e1] at z
        cases z
        rfl
      subst eC
      have ef : f0 = f := by
        have z := t.xf
        rw [e2] at z
        cases z
        rfl
      subst ef
      refine ⟨.ref a, List.getElem?_set_self hl, rfl, rfl, dd, _, v, e4, e5, by simp [List.lookup], by show 2 ≤ sizeLine; decide, fun p hp => ?_⟩
      show D.rt _ _
      rw [hQ]
      exact q p hp
    · have e : y ≠ c := of_decide_eq_false hy
      refine wish_named hQ w r fun c' hc' C' e1' e3' => ?_
      cases e3'
      obtain ⟨⟨f', hm⟩, hx'⟩ := hx c' hc' C e1' rfl
      have ec : c' = c := by
        obtain ⟨⟨f2, hm2⟩, _⟩ := hx c hc C e1 rfl
        have z := hx' _ hm2
        have z2 := (hx c hc C e1 rfl).2 _ hm2
        rw [z2] at z
        have z3 : decide (c = c) = decide (c = c') := Option.some.inj z
        rw [decide_eq_true rfl] at z3
        exact (of_decide_eq_true z3.symm).symm
      subst ec
      refine ⟨⟨f', ?_⟩, fun e' he' => hx' e' (List.mem_cons_of_mem _ he')⟩
      rcases List.mem_cons.mp hm with z | z
      · cases z
        exact absurd rfl e
      · exact z
  | _, _, .pass (y := y) (C := C0) (l := l) g m g1 g2 r, hx => by
    obtain ⟨c, hc, C, f, dd, v, e1, e2, e3, e4, e5, q⟩ := id w
    subst e3
    have ne : y ≠ c := fun z => m (z ▸ hc)
    refine ⟨decide (y = c), (hx c hc C e1 rfl).2 (y, none, C0) List.mem_cons_self, fun hy => absurd (of_decide_eq_true hy) ne, fun _ => ?_⟩
    refine wish_named hQ w r fun c' hc' C' e1' e3' => ?_
    obtain ⟨⟨f', hm⟩, hx'⟩ := hx c' hc' C' e1' e3'
    refine ⟨⟨f', ?_⟩, fun e' he' => hx' e' (List.mem_cons_of_mem _ he')⟩
    rcases List.mem_cons.mp hm with z | z
    · cases z
    · exact z
/-- the def _law_told gives what the lambda gives -/
theorem tell_gives {Ng : List Str} {x a n q : Str} {sg : Scope} {g : Addr} {cdg : Value} {j k : Nat} {p0 p1 p2 p3 p4 p8 : Pos} {hd0 : ExceptHandler} {hds : List ExceptHandler} {l : List (Str × Option Str × Addr)} (hK : X.K = G.K) (hmg : X.mg = G.mg)
    (hNn : Ng.Nodup) (hN1 : Ng[1]? = some n) (hn : sg.names.lookup n = some .local) (hd : (n == ("__debug__" : Str)) = false) (hcd : (n == ("__classdict__" : Str)) = false) (h0 : ∀ f : Addr, (L2.start Ng [V.ref f])[0]? = some (some (V.ref f)))
    (T : Tells G n sg tab (hd0 :: hds) l) (F : Fits G tab l) :
    GivesTo X Ng x sg g cdg [.Try [.Return (some (.Tuple [.Constant (.str "value") j p0, .Call (.Name a p1) [] [] p2] k p3)) p4] (hd0 :: hds) [] [] p8] a q (TTell G tab) := by
  intro f c' s H Q tl act hc h
  refine ⟨_, pss_one (ps_tryN (X := (cxOf C8.CX0 X.prog X.w X.K X.mg X.base Ng x sg g cdg X.A X.stack s H C8.E0).nox) (i := 1) (n := n) (l := l.map (tellT 1)) (Wo := fun _ _ _ _ => False)
      (tb := fun W D σ H => ∃ Ech : XK, (∀ cls d σ' H', Ech cls d H' → W cls d σ' H') ∧ σ[0]? = some (some (.ref f)) ∧ H c' = some (CodeO c' q) ∧ tl Ech H fun v H1 => ([V.str "value", v] : List V).length ≤ sizeLine ∧ ∀ p, H1 p = none → D.rt (.ref p) (upd H1 p (.tup [.str "value", v])))
      rfl rfl hNn hN1 hn LamX.takes0 (fun W pn xe tk _ => ?_) (tells_ok (X := (cxOf C8.CX0 X.prog X.w X.K X.mg X.base Ng x sg g cdg X.A X.stack s H C8.E0).nox) hK hmg hN1 hn hd hcd T)), ?_⟩
  · refine ⟨fun pins s' σ H' D I h' => ?_⟩
    obtain ⟨Ech, hW, h1, h2, h3⟩ := h'
    have hp := act W pn xe Ech p1 p2 tk hW
    have hq := pss_one (ps_ret (pos := p4) (pe_tup (x1 := k) (pos := p3) (pa_cons (pe_str (x := "value") (j := j) (pos := p0)) (pa_cons hp pa_nil))))
    exact hq.run pins s' σ H' D I ⟨h1, h2, h3⟩
  · refine ⟨Wish G tab Q, fun cls d σ' H' w => ?_, h0 f, hc, h⟩
    show wNamed X.K 1 _ _ (l.map (tellT 1)) cls d σ' H'
    rw [hK]
    exact wish_named (sc := sg) rfl w T fun c hc C e1 _ => F c hc C e1
end
end Ev

end

section
set_option maxRecDepth 100000
set_option maxHeartbeats 1000000
/-! Ev19: _law_told(lambda: ..), the call. -/
namespace Ev
open PySem PySem.Spec PyProof.Rows L2 LamX
theorem grow_ext {ρ : List Addr} {H H1 : Hp} (e : ExtN H H1) : Grow ρ H ρ H1 :=
  ⟨fun _ _ z => z, fun p ws z => e p _ z (fun ps q => nomatch q), fun p lo hi z => e p _ z (fun ps q => nomatch q)⟩
theorem Rel.ext {G : Gs} {ρ : List Addr} {h : AH} {H H1 : Hp} (r : Rel G ρ h H) (e : ExtN H H1) (t : Tabs G.T H1) : Rel G ρ h H1 := by
  refine ⟨r.len, r.nd, fun n ob a e1 e2 => ?_, t, fun q hq => e _ _ (r.cts q hq) (fun ps z => nomatch z)⟩
  have q := r.ob n ob a e1 e2
  have g : Grow ρ H ρ H1 := grow_ext e
  refine q.grow g ?_
  cases ob with
  | lst xs => obtain ⟨ws, z, _⟩ := q; rw [e a _ z (fun ps q => nomatch q), z]
  | fro xs => obtain ⟨o, ws, z, _⟩ := q; rw [e a _ z (fun ps q => nomatch q), z]
  | dic kvs => rcases q with ⟨ks, z, _⟩ | ⟨ks, z, _⟩ <;> rw [e a _ z (fun ps q => nomatch q), z]
  | fdi kvs => rcases q with ⟨o, ks, z, _⟩ | ⟨o, ks, z, _⟩ <;> rw [e a _ z (fun ps q => nomatch q), z]
  | ins c fs => obtain ⟨C, dx, ws, _, z, _⟩ := q; rw [e a _ z (fun ps q => nomatch q), z]
/-- the def that tells, and where its lambdas' code objects are kept -/
structure ToldAt (G : Gs) (tab : List Str) (X : Cx) (x : Str) : Prop where
  ex : ∃ (a n : Str) (g c P : Addr) (pg : Arguments) (sg : Scope) (dV kV doc pm cdv ct oc : Value) (an od : Option Addr) (osl : Array (Option Value)) (Ng : List Str) (j k : Nat) (p0 p1 p2 p3 p4 p8 : Pos) (hd0 : ExceptHandler) (hds : List ExceptHandler) (l : List (Str × Option Str × Addr)),
    X.mg x = some (.ref g) ∧ PySem.W.keepIn X.K (.ref g) = true ∧
    X.K.lookup g = some ⟨oc, od, .func (PySem.W.fnOf x x pg [.Try [.Return (some (.Tuple [.Constant (.str "value") j p0, .Call (.Name a p1) [] [] p2] k p3)) p4] (hd0 :: hds) [] [] p8] sg dV kV doc pm an cdv ct), osl⟩ ∧
    PySem.W.codeIn X.K cdv x = true ∧ L2.Binds X.K (PySem.W.fnOf x x pg [.Try [.Return (some (.Tuple [.Constant (.str "value") j p0, .Call (.Name a p1) [] [] p2] k p3)) p4] (hd0 :: hds) [] [] p8] sg dV kV doc pm an cdv ct) [a] [] ∧
    FnScope Ng [a] sg ∧ Ng[0]? = some a ∧ Vis sg a ∧ Ng[1]? = some n ∧ sg.names.lookup n = some .local ∧ ((n == ("__debug__" : Str)) = false ∧ (n == ("__classdict__" : Str)) = false) ∧ ((a == ("__debug__" : Str)) = false ∧ (a == ("__classdict__" : Str)) = false) ∧
    Tells G n sg tab (hd0 :: hds) l ∧ Fits G tab l ∧ TabB X.base X.mg c P ∧ X.env.code = .ref c ∧ (P, X.env.qual ++ "<lambda>") ∈ G.T ∧ (∀ p ∈ G.T, p.1 = P → p.2 = X.env.qual ++ "<lambda>")
section
variable {X : Cx} {G : Gs} {W : WX} {cf : Cf} {tab : List Str} {x : Str} {k : Nat} {params : Arguments} {body : Expr} {scope : Scope} {fe : Ex} {p lpos pos : Pos}
theorem de_told (hK : X.K = G.K) (hmg : X.mg = G.mg) (T : ToldAt G tab X x) (hg : Gl X x) (hdx : (x == ("__debug__" : Str)) = false) (hr : Room (k + 2) X.A) (L : LamS X.env.scope scope) (hdef : defaultsOf params X.env = ([], []))
    (hbind : ∀ (q : Str) (cl : List (Str × Addr)) (pm cv ctv : Value), bindArgs (PySem.W.kla_fn "<lambda>" q params body scope cl pm cv ctv) ⟨[], []⟩ = pure [])
    (hbody : ∀ (A : Around) (outer : List Env) (s : Shared) (H : Hp) (E : XK) (f c' : Addr), Room k (A.deeper (lamEnv X scope s.heap.objs.size f c')) → PE (lamCx X A outer s H E scope f c') body (tD G (fun cls d _ H => E cls d H) cf fe)) :
    PE X (.Call (.Name x p) [.Lambda params body scope lpos] [] pos) (tD G W cf (eTold tab fe)) := by
  obtain ⟨a, n, g, c, P, pg, sg, dV, kV, doc, pm, cdv, ct, oc, an, od, osl, Ng, j, kk, p0, p1, p2, p3, p4, p8, hd0, hds, l, z1, z2, z3, z4, z5, z6, z7, z8, z9, z10, ⟨z11, z12⟩, ⟨z13, z14⟩, z15, z16, z17, z18, z19, z20⟩ := T.ex
  have h0 : ∀ f : Addr, (L2.start Ng [V.ref f])[0]? = some (some (V.ref f)) := fun f => rfl
  refine PE.le (pe_lamcall (T := G.T) (TT := TTell G tab) (t := fun E => tD G (fun cls d _ H => E cls d H) cf fe) hg z1 z2 z3 z4 z5 z6 z7 z8 (tell_gives hK hmg z6.nd z9 z10 z11 z12 h0 z15 z16) z17 z18 z19 z20 hr L hdef hbind hbody hdx z13 z14) fun τ H Q ⟨ρ, σ, h, rel, rs, q⟩ => ?_
  refine ⟨rel.tabs, fun H1 eN T1 => ?_⟩
  have g1 : Grow ρ H ρ H1 := grow_ext eN
  refine ⟨ρ, σ, h, rel.ext eN T1, rs.grow g1, ?_⟩
  have q : Post RV G (fun cls d H' => W cls d τ H') ρ H (match fe cf σ h with
    | .ok v h1 => .ok (.tup [.str "value", v]) h1
    | .exc c [v] h1 => if c ∈ tab then .ok (.tup [.str c, v]) h1 else .bad
    | _ => .bad) Q := q
  cases e : fe cf σ h with
  | ok v h1 =>
    rw [e] at q
    intro ρ' H' b r2 g2 rv
    refine ⟨by show 2 ≤ sizeLine; decide, fun pp hp => ?_⟩
    have g3 : Grow ρ' H' ρ' (upd H' pp (.tup [V.str "value", b])) := grow_upd (by rw [hp]; trivial)
    exact q ρ' _ _ (r2.aside hp) ((g1.trans g2).trans g3) (.tup upd_same (.cons (.str _) (.cons (rv.grow g3) .nil)))
  | exc c vs h1 =>
    rw [e] at q
    match vs, q with
    | [v], q =>
      by_cases hc : c ∈ tab
      · have q : Post RV G (fun cls d H' => W cls d τ H') ρ H (if c ∈ tab then .ok (.tup [.str c, v]) h1 else .bad) Q := q
        rw [if_pos hc] at q
        intro ρ' H' cls d r2 g2 ⟨C, dd, ws, e1, e2, e3, e4, e5, e6⟩
        cases e6 with
        | @cons _ w _ _ rv rr =>
          cases rr
          match hxf : G.xf c, e5 with
          | [f], _ =>
            rw [hxf] at e4
            refine ⟨c, hc, C, f, dd, w, e1, hxf, e2, e3, e4, fun pp hp => ?_⟩
            have g3 : Grow ρ' H' ρ' (upd H' pp (.tup [V.str c, w])) := grow_upd (by rw [hp]; trivial)
            exact q ρ' _ _ (r2.aside hp) ((g1.trans g2).trans g3) (.tup upd_same (.cons (.str _) (.cons (rv.grow g3) .nil)))
          | [], e5 => cases e5
          | _ :: _ :: _, e5 => cases e5
      · have q : Post RV G (fun cls d H' => W cls d τ H') ρ H (if c ∈ tab then .ok (.tup [.str c, v]) h1 else .bad) Q := q
        rw [if_neg hc] at q
        exact q.elim
    | [], q => exact q.elim
    | _ :: _ :: _, q => exact q.elim
  | bad => rw [e] at q; exact q.elim
end
end Ev

end

section
set_option maxRecDepth 100000
/-! Ev20: from the text to the plain evaluator. -/
namespace Ev
open PySem
/-- the names of a frame: its slots, its scope as it runs, the names of the written scope where only those may be stored -/
structure Sc where
  N : List Str
  sc : Scope
  fn : Option (List (Str × NameKind))
/-- what the top has written -/
structure Gt where
  fns : List (Str × Nat)
  mks : List (Str × Nat)
  mets : List (Str × List (Str × Nat))
  flds : List (Str × List Str)
  errs : List (Str × Str)
  cons : List (Str × Val)
  tups : List (Str × List Str)
  told : Str
  tab : List Str
def okName (x : Str) : Bool := !(x == ("__debug__" : Str)) && !(x == ("__classdict__" : Str)) && !(x == ("__name__" : Str))
def visK : Option NameKind → Bool
  | some .local => true
  | some .cell => true
  | some .free => true
  | _ => false
def Sc.vis (S : Sc) (x : Str) : Bool := okName x && visK (S.sc.names.lookup x)
def ixAt (N : List Str) (x : Str) : Option Nat := if N[N.findIdx (· == x)]? = some x then some (N.findIdx (· == x)) else none
def Sc.ix (S : Sc) (x : Str) : Option Nat := if S.vis x then ixAt S.N x else none
def Sc.sto (S : Sc) (x : Str) : Bool := match S.sc.names.lookup x with
  | some .local => true
  | some .cell => (match S.fn with
    | none => true
    | some l => l.lookup x == some .cell)
  | _ => false
def Sc.gl (S : Sc) (x : Str) : Bool := okName x && S.sc.names.lookup x == some .globalImplicit
/-- a block's frame -/
def Sc.blk (S : Sc) (scope : Scope) : Sc := ⟨S.N, L2.relS scope S.sc, some scope.names⟩
def Sc.lam (S : Sc) (scope : Scope) : Sc := ⟨S.N, scope, some []⟩
/-- a block's own names -/
def ownIn (N : List Str) (names : List (Str × NameKind)) : List (Str × Nat) := names.filterMap fun p => match p.2 with
  | .local => (ixAt N p.1).map fun i => (p.1, i)
  | .cell => (ixAt N p.1).map fun i => (p.1, i)
  | _ => none

def notCall : Expr → Bool
  | .Call _ _ _ _ => false
  | _ => true
def plainIx : Expr → Bool
  | .Slice _ _ _ _ => false
  | _ => true
def plainTest : Expr → Bool
  | .UnaryOp _ _ _ => false
  | .BoolOp _ _ _ => false
  | .IfExp _ _ _ _ => false
  | .Compare _ _ _ _ => false
  | _ => true
def isComp : Expr → Bool
  | .ListComp _ _ _ _ => true
  | .SetComp _ _ _ _ => true
  | .DictComp _ _ _ _ _ => true
  | _ => false
def notSet : Expr → Bool
  | .Set _ _ _ => false
  | _ => true
def cA (r : Expr → Ex) : List Expr → Ax
  | [] => aNil
  | e :: es => aCons (r e) (cA r es)
def cAnd (r : Expr → Ex) : List Expr → Ex
  | [] => eBad
  | [a] => r a
  | a :: b :: es => eAnd (r a) (cAnd r (b :: es))
def cOr (r : Expr → Ex) : List Expr → Ex
  | [] => eBad
  | [a] => r a
  | a :: b :: es => eOr (r a) (cOr r (b :: es))
def cAndT (r : Expr → Tx) : List Expr → Tx
  | [] => tBad
  | [a] => r a
  | a :: b :: es => tAnd (r a) (cAndT r (b :: es))
def cOrT (r : Expr → Tx) : List Expr → Tx
  | [] => tBad
  | [a] => r a
  | a :: b :: es => tOr (r a) (cOrT r (b :: es))
/-- builtins -/
def cBI (x : Str) : Option (List Val → M Val) :=
  if x = "len" then some bLen else if x = "int" then some bInt else if x = "tuple" then some bTuple else if x = "list" then some bList else if x = "all" then some bAll
  else if x = "sum" then some bSum else if x = "min" then some bMin else if x = "max" then some bMax else if x = "sorted" then some bSorted else if x = "range" then some bRange else none
def tyOf (x : Str) : Option String :=
  if x = "bool" then some "bool" else if x = "int" then some "int" else if x = "str" then some "str" else if x = "tuple" then some "tuple" else if x = "list" then some "list" else none
def tysOf (S : Sc) : List Expr → Option (List String)
  | [] => some []
  | .Name x _ :: es => if S.gl x then match tyOf x, tysOf S es with
    | some t, some ts => some (t :: ts)
    | _, _ => none
    else none
  | _ => none
def cIsi (S : Sc) (r : Expr → Ex) : List Expr → Ex
  | [a, .Name y _] => if S.gl y then match tyOf y with
    | some t => if L2.V.ty t = L2.V.ty t then (if plainArg a then eIsi [t] (r a) else eBad) else eBad
    | none => eBad
    else eBad
  | [a, .Tuple ts _ _] => match tysOf S ts with
    | some Ts => if plainArg a && decide (Ts.length ≤ 100) then eIsi Ts (r a) else eBad
    | none => eBad
  | _ => eBad
/-- targets -/
def ixs (S : Sc) : List Expr → Option (List Nat)
  | [] => some []
  | .Name x _ :: es => if S.sto x then match S.ix x, ixs S es with
    | some i, some is => some (i :: is)
    | _, _ => none
    else none
  | _ => none
def cTg (S : Sc) : Expr → Option Tg
  | .Name x _ => if S.sto x then (S.ix x).map .nm else none
  | .Tuple es _ _ => (ixs S es).map .tp
  | _ => none
/-- what is walked -/
def cI (T : Gt) (S : Sc) (r : Expr → Ex) (tg : Expr) (it : Expr) : Ix := match it with
  | .Call (.Name x _) es [] _ =>
    if S.gl x && es.all plainArg then
      if x = "range" then match es with
        | [a] => iRange1 (cA r [a])
        | [a, b] => iRange2 (cA r [a, b])
        | [a, b, c] => iRange3n (cA r [a, b, c])
        | _ => iBad
      else if x = "enumerate" then match es, tg with
        | [a], .Tuple _ _ _ => iEnum (r a)
        | _, _ => iBad
      else if x = "zip" then match es, tg with
        | [a, b], .Tuple _ _ _ => iZip (r a) (r b)
        | _, _ => iBad
      else iVal (r it)
    else iVal (r it)
  | _ => iVal (r it)
def cIfs (r : Expr → Tx) : List Expr → Option Tx
  | [] => some tYes
  | [c] => some (r c)
  | _ => none
/-- a comprehension's frame and own names -/
def blkIn (S : Sc) (scope : Scope) : Option (Sc × List (Str × Nat)) := if L2.blkC S.N S.sc scope (ownIn S.N scope.names) then some (S.blk scope, ownIn S.N scope.names) else none
def cLc (T : Gt) (S : Sc) (r : Expr → Ex) (rS : Sc → Expr → Ex × Tx) (elt : Expr) (gens : List Comprehension) (scope : Scope) : Ex := match gens with
  | [⟨tg, it, ifs, 0⟩] => match blkIn S scope with
    | some (B, own) => match cTg B tg, cIfs (fun e => (rS B e).2) ifs with
      | some g, some t => if notSet it && g.ids.all fun i => own.any fun p => p.2 == i then eLc (cI T S r tg it) g t (rS B elt).1 (own.map (·.2)) else eBad
      | _, _ => eBad
    | none => eBad
  | _ => eBad
def cDc (T : Gt) (S : Sc) (r : Expr → Ex) (rS : Sc → Expr → Ex × Tx) (ek ev : Expr) (gens : List Comprehension) (scope : Scope) : Ex := match gens with
  | [⟨tg, it, ifs, 0⟩] => match blkIn S scope with
    | some (B, own) => match cTg B tg, cIfs (fun e => (rS B e).2) ifs with
      | some g, some t => if notSet it && g.ids.all fun i => own.any fun p => p.2 == i then eDc (cI T S r tg it) g t (rS B ek).1 (rS B ev).1 (own.map (·.2)) else eBad
      | _, _ => eBad
    | none => eBad
  | _ => eBad
def noArgs (a : Arguments) : Bool := match a with
  | ⟨[], [], none, [], [], none, []⟩ => true
  | _ => false
def cCall (T : Gt) (told : Bool) (S : Sc) (r : Expr → Ex) (rS : Sc → Expr → Ex × Tx) (f : Expr) (es : List Expr) (pos : Pos) : Ex := match f with
  | .Name x _ => if S.gl x && es.all plainArg then
      if x = T.told then match es with
        | [.Lambda ps body scope _] => if told && noArgs ps && LamX.lamSB S.sc scope then eTold T.tab (rS (S.lam scope) body).1 else eBad
        | _ => eBad
      else match T.fns.lookup x with
        | some i => eCall i (cA r es)
        | none => match T.mks.lookup x with
          | some i => eMake x i (cA r es)
          | none => if x = "isinstance" then cIsi S r es else match cBI x with
            | some g => if es.isEmpty then eBad else eB g (cA r es)
            | none => eBad
    else eBad
  | .Attribute o m apos => if notCall o && es.all plainArg && decide (es.length < 30) && (apos.endLine == pos.line) then match T.mets.lookup m with
      | some tab => eMeth m tab (r o) (cA r es)
      | none => if m = "append" then (if es.isEmpty then eBad else eM isL mAppend (r o) (cA r es)) else if m = "pop" then eM isL mPop (r o) (cA r es) else if m = "get" then (match es with
        | [a] => eM Ev.isD mGet (r o) (aCons (r a) aNil)
        | _ => eBad) else eBad
    else eBad
  | _ => eBad
def cP (r : Expr → Ex) : Option Expr → Px
  | none => pNone
  | some e => pSome (r e)
def cEx (T : Gt) (told : Bool) (S : Sc) (r : Expr → Ex × Tx) (rS : Sc → Expr → Ex × Tx) : Expr → Ex
  | .Constant c _ _ => match c with
    | .none => eC .non
    | .bool b => eC (.bl b)
    | .int i => eC (.int i)
    | .str x => eC (.str x)
    | _ => eBad
  | .Name x _ => match S.ix x with
    | some i => eVar i
    | none => if S.gl x then match T.cons.lookup x with
      | some v => eC v
      | none => match T.tups.lookup x with
        | some l => eC (.tup (l.map .str))
        | none => eBad
      else eBad
  | .BinOp a o b _ => match opOf o with
    | some op => eBin op (r a).1 (r b).1
    | none => eBad
  | .UnaryOp .USub a _ => eNeg (r a).1
  | .UnaryOp .Invert a _ => eInv (r a).1
  | .UnaryOp .Not a _ => eNot (r a).1
  | .BoolOp .And es _ => cAnd (fun e => (r e).1) es
  | .BoolOp .Or es _ => cOr (fun e => (r e).1) es
  | .Compare a [o] [b] _ => if behindInMarks o b then eBad else match cmpOf o with
    | some p => eCmp p (r a).1 (r b).1
    | none => eBad
  | .IfExp t a b _ => eIf (r t).2 (r a).1 (r b).1
  | .Tuple es _ _ => if es.all plainArg then eTup (cA (fun e => (r e).1) es) else eBad
  | .List es _ => if es.all plainArg then eLst (cA (fun e => (r e).1) es) else eBad
  | .Dict [] [] _ => eDic0
  | .Subscript a (.Slice lo hi none _) _ => eSlice (r a).1 (cP (fun e => (r e).1) lo) (cP (fun e => (r e).1) hi)
  | .Subscript a i _ => if plainIx i then eIxF pyIx (r a).1 (r i).1 else eBad
  | .Attribute o f _ => match T.flds.lookup f with
    | some cs => if notCall o then eFld f cs (r o).1 else eBad
    | none => eBad
  | .Call f es [] pos => cCall T told S (fun e => (r e).1) rS f es pos
  | .ListComp elt gens scope _ => cLc T S (fun e => (r e).1) rS elt gens scope
  | .DictComp k v gens scope _ => cDc T S (fun e => (r e).1) rS k v gens scope
  | _ => eBad
def cTx (r : Expr → Ex × Tx) (ex : Ex) : Expr → Tx
  | .BoolOp .And es _ => cAndT (fun e => (r e).2) es
  | .BoolOp .Or es _ => cOrT (fun e => (r e).2) es
  | .UnaryOp .Not a _ => tNot (r a).2
  | .Compare _ [_] [b] _ => tBl ex
  | e => if plainTest e then tTru ex else tBad
/-- an expression as a value and as a test; n: how deep at most; told: lambdas may be told here -/
def cC (T : Gt) : Nat → Bool → Sc → Expr → Ex × Tx
  | 0, _, _, _ => (eBad, tBad)
  | n + 1, b, S, e => (cEx T b S (cC T n b S) (cC T n false) e, cTx (cC T n b S) (cEx T b S (cC T n b S) (cC T n false) e) e)
/-! ### statements -/
def cSs (s : Stmt → Sx) : List Stmt → Sx
  | [] => sNil
  | st :: sts => sSeq (s st) (cSs s sts)
/-- name = [..] on one line -/
def swapC (S : Sc) (e : Expr) (y : Str) (py : Pos) : Bool := match e with
  | .ListComp _ _ scope pos => (S.sc.names.lookup y == some .local) && (py.line == pos.line) && !(scope.names.any fun (n, k) => n == y && (k == .local || k == .cell))
  | _ => false
def nameOf : Expr → Option (Str × Pos)
  | .Name x p => some (x, p)
  | _ => none
def cAsg (T : Gt) (S : Sc) (r : Expr → Ex) (ts : List Expr) (e : Expr) : Sx := match ts with
  | [.Name x p] => if S.sto x then match S.ix x with
      | some i => if isComp e then (match e with
        | .ListComp _ _ _ _ => sAsg (.nm i) (r e)
        | _ => sBad) else sAsg (.nm i) (r e)
      | none => sBad
    else sBad
  | [.Tuple ts k p] => if isComp e then sBad else match e with
    | .Tuple vs _ _ => match ts, vs with
      | [.Name x px, .Name y py], [a, b] => if px.line == py.line && !(vs.all (foldedForSure 8)) && !(vs.all (constantsAlone 8)) && vs.all plainArg && (S.sc.names.lookup x == some .local) && (S.sc.names.lookup y == some .local) && !(x == y) then match S.ix x, S.ix y with
          | some i, some j => sPar [i, j] (cA r vs)
          | _, _ => sBad
        else sBad
      | _, _ => sBad
    | e => match ixs S ts with
      | some is => sAsg (.tp is) (r e)
      | none => sBad
  | [.Subscript o i _] => if isComp e || !plainIx i then sBad else sSub (r o) (r i) (r e)
  | [.Attribute o f _] => if isComp e || !notCall o then sBad else match T.flds.lookup f with
    | some cs => sFld cs (r o) f (r e)
    | none => sBad
  | _ => sBad
def cAug (T : Gt) (S : Sc) (r : Expr → Ex) (t : Expr) (o : Operator) (e : Expr) : Sx := match augOf o with
  | none => sBad
  | some op => match t with
    | .Name x _ => if S.sto x then match S.ix x with
        | some i => sAug i op (r e)
        | none => sBad
      else sBad
    | .Subscript a i _ => if plainIx i then sAugS (r a) (r i) op (r e) else sBad
    | .Attribute a f _ => if notCall a then match T.flds.lookup f with
        | some cs => sAugF cs (r a) f op (r e)
        | none => sBad
      else sBad
    | _ => sBad
def cS (T : Gt) (m : Nat) (b : Bool) (S : Sc) : Nat → Stmt → Sx
  | 0, _ => sBad
  | n + 1, st => match st with
    | .Pass _ => sNil
    | .Break _ => sBreak
    | .Continue _ => sCont
    | .Return none _ => sRetN
    | .Return (some e) _ => sRet (cC T m b S e).1
    | .Expr e _ => if isComp e then sBad else sExpr (cC T m b S e).1
    | .If c a a2 _ => sIf (cC T m b S c).2 (cSs (cS T m b S n) a) (cSs (cS T m b S n) a2)
    | .While c a [] _ => sWhile (cC T m b S c).2 (cSs (cS T m b S n) a)
    | .For tg it a [] _ => match cTg S tg with
      | some g => if notSet it then sFor (cI T S (fun e => (cC T m b S e).1) tg it) g (cSs (cS T m b S n) a) else sBad
      | none => sBad
    | .Assign ts e _ => cAsg T S (fun e => (cC T m b S e).1) ts e
    | .AugAssign t o e _ => cAug T S (fun e => (cC T m b S e).1) t o e
    | .Delete [.Subscript o i _] _ => if plainIx i then sDel (cC T m b S o).1 (cC T m b S i).1 else sBad
    | .Raise (some (.Call (.Name x _) [a] [] _)) none _ => if S.gl x && plainArg a then match T.errs.lookup x with
        | some _ => sRaise x (cC T m b S a).1
        | none => sBad
      else sBad
    | _ => sBad
end Ev

end

section
set_option maxRecDepth 100000
/-! Ev21: what the plain evaluator says of an expression of the text is so. -/
namespace Ev
open PySem PySem.Spec PyProof.Rows L2 LamX
structure XOk (G : Gs) (W : WX) (k : Nat) (S : Sc) (X : Cx) : Prop where
  N : X.N = S.N
  sc : X.env.scope = S.sc
  fn : ∀ x, S.sto x = true → X.fn x = true ∨ X.env.scope.names.lookup x = some .local
  nd : X.N.Nodup
  kind : X.env.scope.kind = .function
  calm : X.calm = true
  K : X.K = G.K
  mg : X.mg = G.mg
  tk : Takes X W
  room : Room (k + 1) X.A
def biNames : List Str := ["len", "int", "tuple", "list", "all", "sum", "min", "max", "sorted", "isinstance", "range", "enumerate", "zip", "bool", "str"]
structure Globs (G : Gs) (T : Gt) (cf : Cf) (k : Nat) (X : Cx) : Prop where
  fn : ∀ x i, T.fns.lookup x = some i → ∃ f, X.mg x = some (.ref f) ∧ FnAt G cf X k i f
  mak : ∀ x i, T.mks.lookup x = some i → MakeAt G cf X k i x
  me : ∀ m tab, T.mets.lookup m = some tab → MethOk G cf X k m tab
  fl : ∀ f cs, T.flds.lookup f = some cs → FldOk X f cs
  er : ∀ x f, T.errs.lookup x = some f → ∃ C fI, XTxt X.K X.mg x f C fI ∧ G.xf x = [f]
  co : ∀ x v, T.cons.lookup x = some v → ∃ u w, X.mg x = some u ∧ RelV w u ∧ ∀ ρ H, RV ρ H v w
  tu : ∀ x l, T.tups.lookup x = some l → ∃ p, X.mg x = some (.ref p) ∧ (p, l) ∈ G.C
  bi : ∀ x ∈ biNames, X.mg x = none
section
variable {G : Gs} {T : Gt} {cf : Cf} {W : WX} {k : Nat} {S : Sc} {X : Cx} {r : Expr → Ex} {rt : Expr → Tx}
theorem okName_ok {x : Str} (h : okName x = true) : (x == ("__debug__" : Str)) = false ∧ (x == ("__classdict__" : Str)) = false ∧ x ≠ "__name__" := by
  unfold okName at h
  simp only [Bool.and_eq_true, Bool.not_eq_true'] at h
  exact ⟨h.1.1, h.1.2, fun e => by rw [e] at h; simp at h⟩
theorem visK_ok {o : Option NameKind} (h : visK o = true) : o = some .local ∨ o = some .cell ∨ o = some .free := by
  cases o with
  | none => cases h
  | some k => cases k <;> first | exact .inl rfl | exact .inr (.inl rfl) | exact .inr (.inr rfl) | cases h
theorem ixAt_ok {N : List Str} {x : Str} {i : Nat} (h : ixAt N x = some i) : N[i]? = some x := by
  unfold ixAt at h
  by_cases c : N[N.findIdx (· == x)]? = some x
  · rw [if_pos c] at h
    cases h
    exact c
  · rw [if_neg c] at h
    cases h
theorem ix_ok (O : XOk G W k S X) {x : Str} {i : Nat} (h : S.ix x = some i) : X.N[i]? = some x ∧ Vis X.env.scope x ∧ (x == ("__debug__" : Str)) = false ∧ (x == ("__classdict__" : Str)) = false := by
  unfold Sc.ix at h
  by_cases c : S.vis x = true
  · rw [if_pos c] at h
    unfold Sc.vis at c
    rw [Bool.and_eq_true] at c
    obtain ⟨e1, e2, _⟩ := okName_ok c.1
    have v := visK_ok c.2
    rw [← O.sc] at v
    exact ⟨by rw [O.N]; exact ixAt_ok h, v, e1, e2⟩
  · rw [if_neg c] at h; cases h
theorem gl_ok (O : XOk G W k S X) {x : Str} (h : S.gl x = true) : Gl X x ∧ (x == ("__debug__" : Str)) = false ∧ x ≠ "__name__" := by
  unfold Sc.gl at h
  rw [Bool.and_eq_true] at h
  obtain ⟨e1, e2, e3⟩ := okName_ok h.1
  refine ⟨?_, e1, e3⟩
  have z : S.sc.names.lookup x = some .globalImplicit := by simpa using h.2
  rw [← O.sc] at z
  exact z
theorem sto_ok (O : XOk G W k S X) {x : Str} (h : S.sto x = true) : Loc X.env.scope x ∧ (X.fn x = true ∨ X.env.scope.names.lookup x = some .local) := by
  refine ⟨?_, O.fn x h⟩
  unfold Sc.sto at h
  show X.env.scope.names.lookup x = some .local ∨ X.env.scope.names.lookup x = some .cell
  rw [O.sc]
  cases e : S.sc.names.lookup x with
  | none => rw [e] at h; cases h
  | some kk =>
    rw [e] at h
    cases kk <;> first
      | exact .inl rfl
      | exact .inr rfl
      | cases h
theorem hu_of1 (O : XOk G W k S X) : X.A.units + 64 < cLine := by have := O.room.un; omega
theorem cA_ok (h : ∀ e, PE X e (tD G W cf (r e))) : ∀ {es : List Expr}, es.all plainArg = true → PA X es (tDA G W cf (cA r es))
  | [], _ => da_nil
  | e :: es, hp => by
    rw [List.all_cons, Bool.and_eq_true] at hp
    exact da_cons hp.1 (h e) (cA_ok h hp.2)
theorem cAnd_ok (hK : X.K = G.K) (h : ∀ e, PE X e (tD G W cf (r e))) {pos : Pos} : ∀ {es : List Expr}, PE X (.BoolOp .And es pos) (tD G W cf (cAnd r es))
  | [] => de_bad
  | [a] => pe_one (h a)
  | a :: b :: es => de_and hK (h a) (cAnd_ok hK h)
theorem cOr_ok (hK : X.K = G.K) (h : ∀ e, PE X e (tD G W cf (r e))) {pos : Pos} : ∀ {es : List Expr}, PE X (.BoolOp .Or es pos) (tD G W cf (cOr r es))
  | [] => de_bad
  | [a] => pe_one (h a)
  | a :: b :: es => de_or hK (h a) (cOr_ok hK h)
theorem dw_bad {e : Expr} : PW X e (tDT G W cf tBad) := ⟨fun wh pins s τ H Q I ⟨ρ, σ, h, rel, rs, p⟩ => p.elim⟩
theorem cAndT_ok (h : ∀ e, PT X e (tDT G W cf (rt e))) {pos : Pos} : ∀ {es : List Expr}, PW X (.BoolOp .And es pos) (tDT G W cf (cAndT rt es))
  | [] => dw_bad
  | [a] => dw_and1 (h a)
  | a :: b :: es => dw_and (h a) (cAndT_ok h)
theorem cOrT_ok (h : ∀ e, PT X e (tDT G W cf (rt e))) {pos : Pos} : ∀ {es : List Expr}, PW X (.BoolOp .Or es pos) (tDT G W cf (cOrT rt es))
  | [] => dw_bad
  | [a] => dw_or1 (h a)
  | a :: b :: es => dw_or (h a) (cOrT_ok h)
theorem PW.pt {e : Expr} {t : TT} (h : PW X e t) : PT X e t := ⟨fun pins s σ H Q I hw => h.run _ pins s σ H Q I hw⟩
/-! ### builtins -/
theorem boot_all' : bootBuiltins ("all" : Str) = some (.builtin "all") := by decide +kernel
theorem boot_sum' : bootBuiltins ("sum" : Str) = some (.builtin "sum") := by decide +kernel
theorem boot_min' : bootBuiltins ("min" : Str) = some (.builtin "min") := by decide +kernel
theorem boot_max' : bootBuiltins ("max" : Str) = some (.builtin "max") := by decide +kernel
theorem boot_len' : bootBuiltins ("len" : Str) = some (.builtin "len") := by decide +kernel
theorem boot_sorted' : bootBuiltins ("sorted" : Str) = some (.builtin "sorted") := by decide +kernel
theorem boot_int' : bootBuiltins ("int" : Str) = some (.type "int") := by decide +kernel
theorem boot_tuple' : bootBuiltins ("tuple" : Str) = some (.type "tuple") := by decide +kernel
theorem boot_list' : bootBuiltins ("list" : Str) = some (.type "list") := by decide +kernel
theorem boot_range' : bootBuiltins ("range" : Str) = some (.type "range") := by decide +kernel
theorem boot_bool' : bootBuiltins ("bool" : Str) = some (.type "bool") := by decide +kernel
theorem boot_str' : bootBuiltins ("str" : Str) = some (.type "str") := by decide +kernel
theorem cBI_ok (O : XOk G W k S X) (bi : ∀ x ∈ biNames, X.mg x = none) {x : Str} {g : List Val → M Val} {a : Expr} {es : List Expr} {ra : Ax} {p pos : Pos} (h : cBI x = some g) (hg : S.gl x = true) (hp : (a :: es).all plainArg = true) (ha : PA X (a :: es) (tDA G W cf ra)) :
    PE X (.Call (.Name x p) (a :: es) [] pos) (tD G W cf (eB g ra)) := by
  obtain ⟨g1, g2, g3⟩ := gl_ok O hg
  unfold cBI at h
  split at h
  · rename_i e; cases h; subst e; exact de_callB b_len g1 (bi _ (by simp [biNames])) boot_len' g3 g2 hp ha
  split at h
  · rename_i e; cases h; subst e; exact de_callTy b_int g1 (bi _ (by simp [biNames])) boot_int' g3 g2 hp ha
  split at h
  · rename_i e; cases h; subst e; exact de_callTy b_tuple g1 (bi _ (by simp [biNames])) boot_tuple' g3 g2 hp ha
  split at h
  · rename_i e; cases h; subst e; exact de_callTy (b_list O.calm) g1 (bi _ (by simp [biNames])) boot_list' g3 g2 hp ha
  split at h
  · rename_i e; cases h; subst e; exact de_callB (b_all O.calm) g1 (bi _ (by simp [biNames])) boot_all' g3 g2 hp ha
  split at h
  · rename_i e; cases h; subst e; exact de_callB (b_sum O.calm) g1 (bi _ (by simp [biNames])) boot_sum' g3 g2 hp ha
  split at h
  · rename_i e; cases h; subst e; exact de_callB (b_min O.calm) g1 (bi _ (by simp [biNames])) boot_min' g3 g2 hp ha
  split at h
  · rename_i e; cases h; subst e; exact de_callB (b_max O.calm) g1 (bi _ (by simp [biNames])) boot_max' g3 g2 hp ha
  split at h
  · rename_i e; cases h; subst e; exact de_callB b_sorted g1 (bi _ (by simp [biNames])) boot_sorted' g3 g2 hp ha
  split at h
  · rename_i e; cases h; subst e; exact de_callTy b_range g1 (bi _ (by simp [biNames])) boot_range' g3 g2 hp ha
  cases h
theorem tyOf_ok (O : XOk G W k S X) (bi : ∀ x ∈ biNames, X.mg x = none) {x : Str} {t : String} (hg : S.gl x = true) (h : tyOf x = some t) : TyAt X x t ∧ t ∈ askTys := by
  obtain ⟨g1, g2, g3⟩ := gl_ok O hg
  unfold tyOf at h
  split at h
  · rename_i e; cases h; subst e; exact ⟨⟨g1, bi _ (by simp [biNames]), boot_bool', g3, g2⟩, by simp [askTys]⟩
  split at h
  · rename_i e; cases h; subst e; exact ⟨⟨g1, bi _ (by simp [biNames]), boot_int', g3, g2⟩, by simp [askTys]⟩
  split at h
  · rename_i e; cases h; subst e; exact ⟨⟨g1, bi _ (by simp [biNames]), boot_str', g3, g2⟩, by simp [askTys]⟩
  split at h
  · rename_i e; cases h; subst e; exact ⟨⟨g1, bi _ (by simp [biNames]), boot_tuple', g3, g2⟩, by simp [askTys]⟩
  split at h
  · rename_i e; cases h; subst e; exact ⟨⟨g1, bi _ (by simp [biNames]), boot_list', g3, g2⟩, by simp [askTys]⟩
  cases h
theorem tysOf_ok (O : XOk G W k S X) (bi : ∀ x ∈ biNames, X.mg x = none) : ∀ {es : List Expr} {Ts : List String}, tysOf S es = some Ts → TysAt X es Ts ∧ ∀ t ∈ Ts, t ∈ askTys
  | [], _, h => by cases h; exact ⟨.nil, fun t ht => absurd ht (by simp)⟩
  | e :: es, Ts, h => by
    cases e with
    | Name x p =>
      have h : (if S.gl x = true then match tyOf x, tysOf S es with
        | some t, some ts => some (t :: ts)
        | _, _ => none
        else none) = some Ts := h
      by_cases c : S.gl x = true
      · rw [if_pos c] at h
        cases e1 : tyOf x with
        | none => rw [e1] at h; cases h
        | some t =>
          cases e2 : tysOf S es with
          | none => rw [e1, e2] at h; cases h
          | some ts =>
            rw [e1, e2] at h
            cases h
            obtain ⟨q1, q2⟩ := tyOf_ok O bi c e1
            obtain ⟨q3, q4⟩ := tysOf_ok O bi e2
            exact ⟨.cons q1 q3, fun t' ht => by
              rcases List.mem_cons.mp ht with z | z
              · rw [z]; exact q2
              · exact q4 t' z⟩
      · rw [if_neg c] at h; cases h
    | _ => cases h
theorem cIsi_ok (O : XOk G W k S X) (bi : ∀ x ∈ biNames, X.mg x = none) (h : ∀ e, PE X e (tD G W cf (r e))) {es : List Expr} {p pos : Pos} (hg : S.gl "isinstance" = true) : PE X (.Call (.Name "isinstance" p) es [] pos) (tD G W cf (cIsi S r es)) := by
  obtain ⟨g1, g2, g3⟩ := gl_ok O hg
  have hm := bi "isinstance" (by simp [biNames])
  unfold cIsi
  split
  · rename_i a y q
    split
    · rename_i c
      split
      · rename_i t e1
        rw [if_pos rfl]
        split
        · rename_i c2
          obtain ⟨q1, q2⟩ := tyOf_ok O bi c e1
          exact de_isi1 g1 hm q1 q2 c2 (h a)
        · exact de_bad
      · exact de_bad
    · exact de_bad
  · rename_i a ts kk q
    split
    · rename_i Ts e1
      split
      · rename_i c
        rw [Bool.and_eq_true] at c
        obtain ⟨q1, q2⟩ := tysOf_ok O bi e1
        exact de_isiT g1 hm q1 q2 (of_decide_eq_true c.2) c.1 (h a)
      · exact de_bad
    · exact de_bad
  · exact de_bad
/-! ### targets, what is walked -/
theorem ixs_ok (O : XOk G W k S X) : ∀ {es : List Expr} {is : List Nat}, ixs S es = some is → Paired (fun e i => ∃ x p, e = .Name x p ∧ X.N[i]? = some x ∧ Loc X.env.scope x ∧ (X.fn x = true ∨ X.env.scope.names.lookup x = some .local)) es is
  | [], _, h => by cases h; exact .nil
  | e :: es, is, h => by
    cases e with
    | Name x p =>
      have h : (if S.sto x = true then match S.ix x, ixs S es with
        | some i, some is => some (i :: is)
        | _, _ => none
        else none) = some is := h
      by_cases c : S.sto x = true
      · rw [if_pos c] at h
        cases e1 : S.ix x with
        | none => rw [e1] at h; cases h
        | some i =>
          cases e2 : ixs S es with
          | none => rw [e1, e2] at h; cases h
          | some is' =>
            rw [e1, e2] at h
            cases h
            obtain ⟨q1, q2⟩ := sto_ok O c
            exact .cons ⟨x, p, rfl, (ix_ok O e1).1, q1, q2⟩ (ixs_ok O e2)
      · rw [if_neg c] at h; cases h
    | _ => cases h
theorem names_each {es : List Expr} {is : List Nat} {P : Str → Nat → Prop} {env : Env} (h : Paired (fun e i => ∃ x p, e = .Name x p ∧ P x i) es is) : (assignEach es env).length = is.length ∧ (assignEach es env).findIdx? (·.1) = none ∧ ∀ y ∈ assignEach es env, y.1 = false := by
  induction h with
  | nil => exact ⟨rfl, rfl, fun y hy => absurd hy (by simp [assignEach])⟩
  | cons r t ih =>
    obtain ⟨x, p, rfl, _⟩ := r
    obtain ⟨h1, h2, h3⟩ := ih
    have e : ∀ es, assignEach (.Name x p :: es) env = (false, assign (.Name x p) env) :: assignEach es env := fun _ => rfl
    refine ⟨by rw [e]; simp [h1], ?_, fun y hy => ?_⟩
    · rw [e]
      rw [List.findIdx?_eq_none_iff] at h2 ⊢
      intro y hy
      rcases List.mem_cons.mp hy with z | z
      · rw [z]
      · exact h2 y z
    · rw [e] at hy
      rcases List.mem_cons.mp hy with z | z
      · rw [z]
      · exact h3 y z
theorem cTg_ok (O : XOk G W k S X) {tg : Expr} {g : Tg} (h : cTg S tg = some g) : PG X tg (tgG G.K g) := by
  cases tg with
  | Name x p =>
    have h : (if S.sto x = true then (S.ix x).map Tg.nm else none) = some g := h
    by_cases c : S.sto x = true
    · rw [if_pos c] at h
      cases e : S.ix x with
      | none => rw [e] at h; cases h
      | some i =>
        rw [e] at h
        cases h
        obtain ⟨q1, q2⟩ := sto_ok O c
        exact dg_name O.nd (ix_ok O e).1 q1 q2
    · rw [if_neg c] at h; cases h
  | Tuple es kk p =>
    have h : (ixs S es).map Tg.tp = some g := h
    cases e : ixs S es with
    | none => rw [e] at h; cases h
    | some is =>
      rw [e] at h
      cases h
      have q := ixs_ok O e
      obtain ⟨h1, h2, _⟩ := names_each (P := fun x i => X.N[i]? = some x ∧ Loc X.env.scope x ∧ (X.fn x = true ∨ X.env.scope.names.lookup x = some .local)) (env := X.env) q
      exact dg_tup O.K O.calm O.nd q h1 h2
  | _ => cases h
theorem cI_ok (O : XOk G W k S X) (bi : ∀ x ∈ biNames, X.mg x = none) (h : ∀ e, PE X e (tD G W cf (r e))) {tg it : Expr} : PI X tg it (tDI G W cf (cI T S r tg it)) := by
  unfold cI
  split
  · rename_i x p es pos
    split
    · rename_i c
      rw [Bool.and_eq_true] at c
      obtain ⟨g1, g2, g3⟩ := gl_ok O c.1
      have hp := c.2
      split
      · rename_i e
        subst e
        have hm := bi "range" (by simp [biNames])
        split
        · exact di_range1 g1 hm (cA_ok h hp) (star_cons (by simpa using hp))
        · rename_i a b
          have hp' : plainArg a = true ∧ plainArg b = true := by simpa using hp
          exact di_range2 g1 hm (cA_ok h hp) (by rw [star_cons hp'.1, star_cons hp'.2]; rfl) (star_cons hp'.2)
        · rename_i a b c'
          have hp' : plainArg a = true ∧ plainArg b = true ∧ plainArg c' = true := by simpa using hp
          exact di_range3 g1 hm (cA_ok h hp) (star_cons hp'.1) (star_any (by simp [hp'.2]))
        · exact di_bad
      split
      · rename_i e
        subst e
        have hm := bi "enumerate" (by simp [biNames])
        split
        · exact di_enum O.K g1 hm (h _) (by simpa using hp)
        · exact di_bad
      split
      · rename_i e
        subst e
        have hm := bi "zip" (by simp [biNames])
        split
        · rename_i a b es' kk tp
          have hp' : plainArg a = true ∧ plainArg b = true := by simpa using hp
          exact di_zip O.K g1 hm (h _) (h _) hp'.1 hp'.2
        · exact di_bad
      · exact di_val O.K (h _)
    · exact di_val O.K (h _)
  · exact di_val O.K (h _)
end
end Ev

end

section
set_option maxRecDepth 100000
set_option maxHeartbeats 1000000
/-! Ev22: expressions of the text, all of them. -/
namespace Ev
open PySem PySem.Spec PyProof.Rows L2 LamX
section
variable {G : Gs} {T : Gt} {cf : Cf} {W : WX} {k : Nat} {S : Sc} {X Y : Cx}
theorem FnAt.same {i : Nat} {f : Addr} (e1 : Y.prog = X.prog) (e2 : Y.w = X.w) (e3 : Y.K = X.K) (e4 : Y.mg = X.mg) (e5 : Y.base = X.base) (F : FnAt G cf X k i f) : FnAt G cf Y k i f :=
  ⟨by rw [e1, e2, e3, e4, e5]; exact F.ex, by rw [e3]; exact F.kp⟩
theorem Globs.same (e1 : Y.prog = X.prog) (e2 : Y.w = X.w) (e3 : Y.K = X.K) (e4 : Y.mg = X.mg) (e5 : Y.base = X.base) (g : Globs G T cf k X) : Globs G T cf k Y where
  fn := fun x i h => by
    obtain ⟨f, a, b⟩ := g.fn x i h
    exact ⟨f, by rw [e4]; exact a, b.same e1 e2 e3 e4 e5⟩
  mak := fun x i h => by
    obtain ⟨C, f, a, b, c⟩ := (g.mak x i h).ex
    exact ⟨C, f, by rw [e4]; exact a, by rw [e3]; exact b, c.same e1 e2 e3 e4 e5⟩
  me := fun m tab h c i hc => by
    obtain ⟨C, f, a, b, b', d⟩ := g.me m tab h c i hc
    exact ⟨C, f, by rw [e4]; exact a, by rw [e3]; exact b, by rw [e3]; exact b', d.same e1 e2 e3 e4 e5⟩
  fl := fun f cs h c hc => by
    obtain ⟨C, a, b, d⟩ := g.fl f cs h c hc
    exact ⟨C, by rw [e4]; exact a, by rw [e3]; exact b, by rw [e3]; exact d⟩
  er := fun x f h => by
    obtain ⟨C, fI, a, b⟩ := g.er x f h
    exact ⟨C, fI, by rw [e3, e4]; exact a, b⟩
  co := fun x v h => by
    obtain ⟨u, w, a, b, c⟩ := g.co x v h
    exact ⟨u, w, by rw [e4]; exact a, b, c⟩
  tu := fun x l h => by
    obtain ⟨p, a, b⟩ := g.tu x l h
    exact ⟨p, by rw [e4]; exact a, b⟩
  bi := fun x hx => by rw [e4]; exact g.bi x hx
theorem takes_none {X : Cx} : Takes X W0 := fun _ _ ⟨_, _, _, _, _, _, _, _, _, _, _, _, _, _, _, _, w⟩ => w.elim
/-- a block's frame -/
theorem XOk.blk (O : XOk G W k S X) {scope : Scope} {own : List (Str × Nat)} (ok : BlkOk X.N X.env.scope scope own) (s : Shared) (H : Hp) (C : Addr) (cl : List (Str × Addr)) (fp : List Addr) : XOk G W0 k (S.blk scope) (X.blk s H scope (compEnvC scope cl C X.env) fp) where
  N := O.N
  sc := by
    show relS scope X.env.scope = relS scope S.sc
    rw [O.sc]
  fn := fun x h => by
    have h : (match (relS scope S.sc).names.lookup x with
      | some .local => true
      | some .cell => scope.names.lookup x == some .cell
      | _ => false) = true := h
    show (scope.names.lookup x == some .cell) = true ∨ (relS scope X.env.scope).names.lookup x = some .local
    rw [O.sc]
    cases e : (relS scope S.sc).names.lookup x with
    | none => rw [e] at h; cases h
    | some kk =>
      rw [e] at h
      cases kk <;> first
        | exact .inr rfl
        | exact .inl h
        | cases h
  nd := O.nd
  kind := ok.kind
  calm := O.calm
  K := O.K
  mg := O.mg
  tk := takes_none
  room := O.room
theorem Globs.blk (g : Globs G T cf k X) {scope : Scope} (s : Shared) (H : Hp) (C : Addr) (cl : List (Str × Addr)) (fp : List Addr) : Globs G T cf k (X.blk s H scope (compEnvC scope cl C X.env) fp) := Globs.same (X := X) rfl rfl rfl rfl rfl g
/-- a told lambda's frame -/
theorem XOk.lam (O : XOk G W k S X) {scope : Scope} (L : LamS X.env.scope scope) {A : Around} {outer : List Env} {s : Shared} {H : Hp} {E : XK} {f c' : Addr} (hr : Room (k + 1) (A.deeper (lamEnv X scope s.heap.objs.size f c'))) : XOk G (fun cls d _ H => E cls d H) k (S.lam scope) (lamCx X A outer s H E scope f c') where
  N := O.N
  sc := rfl
  fn := fun x h => by
    have h : (match scope.names.lookup x with
      | some .local => true
      | some .cell => ([] : List (Str × NameKind)).lookup x == some .cell
      | _ => false) = true := h
    show (false = true) ∨ scope.names.lookup x = some .local
    cases e : scope.names.lookup x with
    | none => rw [e] at h; cases h
    | some kk =>
      rw [e] at h
      cases kk <;> first
        | exact .inr rfl
        | cases h
  nd := O.nd
  kind := L.kind
  calm := rfl
  K := O.K
  mg := O.mg
  tk := takes_of rfl rfl rfl rfl
  room := hr
/-- what is asked of the readings below -/
abbrev Both (G : Gs) (W : WX) (cf : Cf) (X : Cx) (r : Expr → Ex × Tx) : Prop := ∀ e, PE X e (tD G W cf (r e).1) ∧ PT X e (tDT G W cf (r e).2)
abbrev Any (G : Gs) (T : Gt) (cf : Cf) (k : Nat) (rS : Sc → Expr → Ex × Tx) : Prop := ∀ (S : Sc) (X : Cx) (W : WX), XOk G W k S X → Globs G T cf k X → Both G W cf X (rS S)
theorem blkIn_ok (O : XOk G W k S X) {scope : Scope} {B : Sc} {own : List (Str × Nat)} (h : blkIn S scope = some (B, own)) : B = S.blk scope ∧ BlkOk X.N X.env.scope scope own := by
  unfold blkIn at h
  by_cases c : blkC S.N S.sc scope (ownIn S.N scope.names) = true
  · rw [if_pos c] at h
    cases h
    exact ⟨rfl, by rw [O.N, O.sc]; exact blkOk_by c⟩
  · rw [if_neg c] at h; cases h
theorem cIfs_ok {rt : Expr → Tx} (h : ∀ e, PT X e (tDT G W cf (rt e))) {ifs : List Expr} {t : Tx} (e : cIfs rt ifs = some t) : PTs X ifs (tDT G W cf t) := by
  match ifs, e with
  | [], e => cases e; exact dts_nil
  | [c], e => cases e; exact pts_one (h c)
  | _ :: _ :: _, e => cases e
theorem any_mem {g : Tg} {own : List (Str × Nat)} (h : (g.ids.all fun i => own.any fun p => p.2 == i) = true) : ∀ i ∈ g.ids, i ∈ own.map (·.2) := fun i hi => by
  have q := List.all_eq_true.mp h i hi
  obtain ⟨p, hp, e⟩ := List.any_eq_true.mp q
  exact List.mem_map.mpr ⟨p, hp, by simpa using e⟩
theorem notSet_ok {it : Expr} {env : Env} (h : notSet it = true) : ∀ x, foldedSetIterable it env x = pure x := by
  intro x
  cases it <;> first | rfl | cases h
theorem cLc_ok (O : XOk G W k S X) (g : Globs G T cf k X) {r : Expr → Ex} (h : ∀ e, PE X e (tD G W cf (r e))) {rS : Sc → Expr → Ex × Tx} (hS : Any G T cf k rS) {elt : Expr} {gens : List Comprehension} {scope : Scope} {pos : Pos} :
    PE X (.ListComp elt gens scope pos) (tD G W cf (cLc T S r rS elt gens scope)) := by
  unfold cLc
  split
  · rename_i tg it ifs
    split
    · rename_i B own e1
      obtain ⟨rfl, ok⟩ := blkIn_ok O e1
      split
      · rename_i gt t e2 e3
        split
        · rename_i c
          rw [Bool.and_eq_true] at c
          exact de_lc O.calm O.nd (cI_ok O g.bi h) ok (any_mem c.2) (fun s H C cl fp => cTg_ok (O.blk ok s H C cl fp) e2) (fun s H C cl fp => cIfs_ok (fun e => (hS _ _ _ (O.blk ok s H C cl fp) (g.blk s H C cl fp) e).2) e3)
            (fun s H C cl fp => (hS _ _ _ (O.blk ok s H C cl fp) (g.blk s H C cl fp) elt).1) (notSet_ok c.1)
        · exact de_bad
      · exact de_bad
    · exact de_bad
  · exact de_bad
theorem cDc_ok (O : XOk G W k S X) (g : Globs G T cf k X) {r : Expr → Ex} (h : ∀ e, PE X e (tD G W cf (r e))) {rS : Sc → Expr → Ex × Tx} (hS : Any G T cf k rS) {ek ev : Expr} {gens : List Comprehension} {scope : Scope} {pos : Pos} :
    PE X (.DictComp ek ev gens scope pos) (tD G W cf (cDc T S r rS ek ev gens scope)) := by
  unfold cDc
  split
  · rename_i tg it ifs
    split
    · rename_i B own e1
      obtain ⟨rfl, ok⟩ := blkIn_ok O e1
      split
      · rename_i gt t e2 e3
        split
        · rename_i c
          rw [Bool.and_eq_true] at c
          exact de_dc O.calm O.nd (cI_ok O g.bi h) ok (any_mem c.2) (fun s H C cl fp => cTg_ok (O.blk ok s H C cl fp) e2) (fun s H C cl fp => cIfs_ok (fun e => (hS _ _ _ (O.blk ok s H C cl fp) (g.blk s H C cl fp) e).2) e3)
            (fun s H C cl fp => (hS _ _ _ (O.blk ok s H C cl fp) (g.blk s H C cl fp) ek).1) (fun s H C cl fp => (hS _ _ _ (O.blk ok s H C cl fp) (g.blk s H C cl fp) ev).1) (notSet_ok c.1)
        · exact de_bad
      · exact de_bad
    · exact de_bad
  · exact de_bad
/-! ### calls -/
theorem meth_eq {o : Expr} {m : Str} {apos pos : Pos} {es : List Expr} {env : Env} (h1 : notCall o = true) (h2 : es.all plainArg = true) (h3 : es.length < 30) (h4 : (apos.endLine == pos.line) = true) :
    ∃ pl, eval (.Call (.Attribute o m apos) es [] pos) env = (do
      let ov ← eval o env
      standAt apos.atName
      let (f, first) ← holding [ov] (getMethod ov m pl)
      callWith pos f first (backTo pos (starEach es env)) (backToKw pos (keywordEach [] env))) := by
  have few : methodCallForm (es.length + ([] : List Keyword).length) (backTo pos (starEach es env)) (backToKw pos (keywordEach [] env)) = true := by
    have q := few_of (env := env) (cpos := pos) h2 h3
    unfold methodCallForm
    rw [Bool.and_eq_true, Bool.and_eq_true] at q
    rw [Bool.and_eq_true, Bool.and_eq_true]
    refine ⟨q.1, ?_⟩
    have q2 := q.2
    simp [backToKw, keywordEach] at q2 ⊢
    exact q2
  have hb : attributeBase o m env (eval o env) = eval o env := base_of (by cases o <;> first | rfl | cases h1)
  refine ⟨(do return (← importBound o env).getD true), ?_⟩
  show (do
    let ov ← attributeBase o m env (eval o env)
    standAt apos.atName
    methodCall o m apos pos env ov (es.length + ([] : List Keyword).length) (backTo pos (starEach es env)) (backToKw pos (keywordEach [] env))) = _
  rw [hb]
  unfold methodCall
  rw [few]
  unfold calleeOf methodCallPos
  simp only [if_true, h4, Bool.not_true, Bool.or_true, Bool.false_or, pure_bind]
theorem cCall_ok (O : XOk G W k S X) (g : Globs G T cf k X) {told : Bool} (ht : told = true → Room (k + 3) X.A ∧ ToldAt G T.tab X T.told) {r : Expr → Ex} (h : ∀ e, PE X e (tD G W cf (r e))) {rS : Sc → Expr → Ex × Tx} (hS : Any G T cf k rS) {f : Expr} {es : List Expr} {pos : Pos} :
    PE X (.Call f es [] pos) (tD G W cf (cCall T told S r rS f es pos)) := by
  have rk : Room k X.A := O.room.mono (Nat.le_succ k)
  unfold cCall
  split
  · rename_i x p
    split
    · rename_i c
      rw [Bool.and_eq_true] at c
      obtain ⟨g1, g2, g3⟩ := gl_ok O c.1
      split
      · rename_i ex
        split
        · rename_i ps body scope lp
          split
          · rename_i c2
            rw [Bool.and_eq_true, Bool.and_eq_true] at c2
            obtain ⟨⟨c3, c4⟩, c5⟩ := c2
            obtain ⟨hr, TA⟩ := ht c3
            subst ex
            have L : LamS X.env.scope scope := by rw [O.sc]; exact lamS_by c5
            have hps : ps = ⟨[], [], none, [], [], none, []⟩ := by
              obtain ⟨a1, a2, a3, a4, a5, a6, a7⟩ := ps
              cases a1 <;> cases a2 <;> cases a3 <;> cases a4 <;> cases a5 <;> cases a6 <;> cases a7 <;> first | rfl | cases c4
            subst hps
            exact de_told (k := k + 1) O.K O.mg TA g1 g2 hr L rfl (fun _ _ _ _ _ => rfl) fun A outer s H E f c' hr' => (hS _ _ _ (O.lam L hr') (Globs.same (X := X) rfl rfl rfl rfl rfl g) body).1
          · exact de_bad
        · exact de_bad
      · split
        · rename_i i e1
          obtain ⟨f, hm, F⟩ := g.fn x i e1
          cases es with
          | nil => exact de_call0 F rk g1 hm O.tk g2
          | cons a es => exact de_call F rk g1 hm O.tk g2 c.2 (cA_ok h c.2)
        · split
          · rename_i i e1
            have M := g.mak x i e1
            cases es with
            | nil => exact de_make0 O.mg M O.room O.tk g1 g2
            | cons a es => exact de_make O.mg M O.room O.tk g1 g2 c.2 (cA_ok h c.2)
          · split
            · rename_i e
              subst e
              exact cIsi_ok O g.bi h c.1
            · split
              · rename_i gb e1
                cases es with
                | nil => exact de_bad
                | cons a es => exact cBI_ok O g.bi e1 c.1 c.2 (cA_ok h c.2)
              · exact de_bad
    · exact de_bad
  · rename_i o m apos
    split
    · rename_i c
      rw [Bool.and_eq_true, Bool.and_eq_true, Bool.and_eq_true] at c
      obtain ⟨⟨⟨c1, c2⟩, c3⟩, c4⟩ := c
      have c3 := of_decide_eq_true c3
      have hb : attributeBase o m X.env (eval o X.env) = eval o X.env := base_of (by cases o <;> first | rfl | cases c1)
      split
      · rename_i tab e1
        obtain ⟨pl, eq⟩ := meth_eq (m := m) (env := X.env) c1 c2 c3 c4
        have M := g.me m tab e1
        cases es with
        | nil => exact de_meth0 O.mg M rk O.tk (h o) eq
        | cons a es => exact de_meth O.mg M rk O.tk (h o) c2 (cA_ok h c2) eq
      · split
        · rename_i e
          subst e
          cases es with
          | nil => exact de_bad
          | cons a es => exact de_bm PySem.F.plainAttrs_list PySem.F.slot_list_append PySem.F.type_list_append m_append (fun ρ h H v x rel rv e => isL_ty rel rv e) (h o) hb c4 c2 c3 (cA_ok h c2)
        · split
          · rename_i e
            subst e
            cases es with
            | nil => exact de_bm0 PySem.F.plainAttrs_list PySem.F.slot_list_pop PySem.F.type_list_pop m_pop (fun ρ h H v x rel rv e => isL_ty rel rv e) (h o) hb c4
            | cons a es => exact de_bm PySem.F.plainAttrs_list PySem.F.slot_list_pop PySem.F.type_list_pop m_pop (fun ρ h H v x rel rv e => isL_ty rel rv e) (h o) hb c4 c2 c3 (cA_ok h c2)
          · split
            · rename_i e
              subst e
              split
              · rename_i a _
                have hu : X.A.units + 1 < cLine := by have := hu_of1 O; omega
                have hp : plainArg a = true := by simpa using c2
                refine de_get1 hu (h o) (h a) ⟨hb, few_of c2 c3, c4, ?_⟩
                rw [star_cons hp]
                rfl
              · exact de_bad
            · exact de_bad
    · exact de_bad
  · exact de_bad
end
end Ev

end

section
set_option maxRecDepth 100000
set_option maxHeartbeats 1000000
/-! Ev23: expressions and statements of the text. -/
namespace Ev
open PySem PySem.Spec PyProof.Rows L2 LamX
section
variable {G : Gs} {T : Gt} {cf : Cf} {W : WX} {k : Nat} {S : Sc} {X : Cx}
theorem txtsR (ρ : List Addr) (H : Hp) : ∀ l : List Str, RVs ρ H (l.map .str) (l.map V.str)
  | [] => .nil
  | x :: l => .cons (.str x) (txtsR ρ H l)
theorem de_ct {x : Str} {p : Addr} {l : List Str} {pos : Pos} (hg : Gl X x) (hm : X.mg x = some (.ref p)) (hc : (p, l) ∈ G.C) (hd : (x == ("__debug__" : Str)) = false) : PE X (.Name x pos) (tD G W cf (eC (.tup (l.map .str)))) :=
  PE.le (pe_glob (v := .ref p) hg hm rfl hd) fun τ H Q ⟨ρ, σ, h, rel, rs, q⟩ => q ρ H _ rel (Grow.refl _ _) (.tup (rel.cts _ hc) (txtsR ρ H l))
theorem base_nc {o : Expr} {m : Str} {env : Env} (c : notCall o = true) : attributeBase o m env (eval o env) = eval o env := by
  cases o <;> first | rfl | cases c
theorem plainIx_ok {b : Expr} (h : plainIx b = true) : PlainIx b := by
  intro o i
  cases b <;> first | rfl | cases h
theorem cP_ok {r : Expr → Ex} (h : ∀ e, PE X e (tD G W cf (r e))) {e : Option Expr} : PO X e (tDO G W cf (cP r e)) := by
  cases e with
  | none => exact do_none
  | some e => exact do_some (h e)
theorem plainTest_ok {e : Expr} {env : Env} (h : plainTest e = true) : ∀ whole, isTrue e env whole = (do let v ← whole; standAt e.pos; holding [v] (truthy v)) := by
  intro whole
  cases e <;> first | rfl | cases h
theorem cEx_ok (O : XOk G W k S X) (g : Globs G T cf k X) {told : Bool} (ht : told = true → Room (k + 3) X.A ∧ ToldAt G T.tab X T.told) {r : Expr → Ex × Tx} (h : Both G W cf X r) {rS : Sc → Expr → Ex × Tx} (hS : Any G T cf k rS) (e : Expr) :
    PE X e (tD G W cf (cEx T told S r rS e)) := by
  have h1 : ∀ e, PE X e (tD G W cf (r e).1) := fun e => (h e).1
  have hu := hu_of1 O
  unfold cEx
  split
  · split
    · exact de_c (show PE X _ (tC .non) from ⟨fun _ _ _ H _ I q => Constant_none ⟨.non, H, I, rfl, q⟩⟩) fun _ _ => .non
    · exact de_c pe_bl fun _ _ => .bl _
    · exact de_c pe_int fun _ _ => .int _
    · exact de_c pe_str fun _ _ => .str _
    · exact de_bad
  · split
    · rename_i i e1
      obtain ⟨q1, q2, q3, q4⟩ := ix_ok O e1
      exact de_var q1 q2 q3 q4
    · split
      · rename_i c
        obtain ⟨g1, g2, g3⟩ := gl_ok O c
        split
        · rename_i v e1
          obtain ⟨u, w, q1, q2, q3⟩ := g.co _ _ e1
          exact de_c (pe_glob g1 q1 q2 g2) q3
        · split
          · rename_i l e1
            obtain ⟨p, q1, q2⟩ := g.tu _ _ e1
            exact de_ct g1 q1 q2 g2
          · exact de_bad
      · exact de_bad
  · split
    · rename_i op e1
      exact de_bin (opOf_ok e1) (h1 _) (h1 _)
    · exact de_bad
  · exact de_neg (h1 _)
  · exact de_inv (h1 _)
  · exact de_not (h1 _)
  · exact cAnd_ok O.K h1
  · exact cOr_ok O.K h1
  · split
    · exact de_bad
    · rename_i c
      split
      · rename_i p e1
        exact de_cmp (cmpOf_ok hu e1) (h1 _) (h1 _) (by simpa using c)
      · exact de_bad
  · exact de_if (h _).2 (h1 _) (h1 _)
  · split
    · rename_i c
      exact de_tup (cA_ok h1 c)
    · exact de_bad
  · split
    · rename_i c
      exact de_lst (cA_ok h1 c)
    · exact de_bad
  · exact de_dic0
  · exact de_slice (h1 _) (cP_ok h1) (cP_ok h1)
  · split
    · rename_i c
      exact de_ix (by omega) (h1 _) (h1 _) (plainIx_ok c)
    · exact de_bad
  · split
    · rename_i cs e1
      split
      · rename_i c
        exact de_fld O.mg (g.fl _ _ e1) (h1 _) (base_nc c)
      · exact de_bad
    · exact de_bad
  · exact cCall_ok O g ht h1 hS
  · exact cLc_ok O g h1 hS
  · exact cDc_ok O g h1 hS
  · exact de_bad
theorem cTx_ok (O : XOk G W k S X) (g : Globs G T cf k X) {told : Bool} (ht : told = true → Room (k + 3) X.A ∧ ToldAt G T.tab X T.told) {r : Expr → Ex × Tx} (h : Both G W cf X r) {rS : Sc → Expr → Ex × Tx} (hS : Any G T cf k rS) (e : Expr) :
    PT X e (tDT G W cf (cTx r (cEx T told S r rS e) e)) := by
  have h1 : ∀ e, PE X e (tD G W cf (r e).1) := fun e => (h e).1
  have h2 : ∀ e, PT X e (tDT G W cf (r e).2) := fun e => (h e).2
  have he := cEx_ok O g ht h hS e
  have hu := hu_of1 O
  cases e with
  | BoolOp o es p =>
    cases o with
    | And => exact PW.pt (cAndT_ok h2)
    | Or => exact PW.pt (cOrT_ok h2)
  | UnaryOp o a p =>
    cases o with
    | Not => exact dt_not (h2 a)
    | _ => exact dt_bad
  | Compare a ops bs p =>
    match ops, bs with
    | [o], [b] =>
      show PT X (.Compare a [o] [b] p) (tDT G W cf (tBl (if behindInMarks o b = true then eBad else match cmpOf o with
        | some p => eCmp p (r a).1 (r b).1
        | none => eBad)))
      by_cases c : behindInMarks o b = true
      · rw [if_pos c]
        exact ⟨fun pins s τ H Q I ⟨ρ, σ, h, rel, rs, p⟩ => p.elim⟩
      · rw [if_neg c]
        cases e1 : cmpOf o with
        | none => exact ⟨fun pins s τ H Q I ⟨ρ, σ, h, rel, rs, p⟩ => p.elim⟩
        | some pp => exact dt_cmp (cmpOf_ok hu e1) (h1 _) (h1 _) (by simpa using c)
    | [], _ => exact dt_bad
    | _ :: _ :: _, _ => exact dt_bad
    | [_], [] => exact dt_bad
    | [_], _ :: _ :: _ => exact dt_bad
  | IfExp t a b p => exact dt_bad
  | _ => exact dt_tru he (plainTest_ok rfl)
theorem cC_ok : ∀ (n : Nat) (told : Bool) (S : Sc) (X : Cx) (W : WX), XOk G W k S X → Globs G T cf k X → (told = true → Room (k + 3) X.A ∧ ToldAt G T.tab X T.told) → Both G W cf X (cC T n told S)
  | 0, _, _, _, _, _, _, _ => fun e => ⟨de_bad, dt_bad⟩
  | n + 1, told, S, X, W, O, g, ht => by
    have ih1 := cC_ok n told S X W O g ht
    have ihS : Any G T cf k (cC T n false) := fun S' X' W' O' g' => cC_ok n false S' X' W' O' g' (fun z => by cases z)
    exact fun e => ⟨cEx_ok O g ht ih1 ihS e, cTx_ok O g ht ih1 ihS e⟩
/-! ### statements -/
theorem sw_off {e : Expr} {t : Option Expr} {l : Nat} {env : Env} (h : isComp e = false) : swapsWith e t l env = pure false := by
  cases e <;> first | rfl | cases h
theorem sw_other {e t : Expr} {l : Nat} {env : Env} (h : isComp e = false) : swapsWithSole [t] e l env = pure false := sw_off h
theorem sw_name {elt : Expr} {gs : List Comprehension} {scope : Scope} {pos py : Pos} {y : Str} {l : Nat} {env : Env} (hk : env.scope.kind = .function) :
    swapsWith (.ListComp elt gs scope pos) (some (.Name y py)) l env = pure ((env.scope.names.lookup y == some .local) && (py.line == pos.line) && !(scope.names.any fun (n, k) => n == y && (k == .local || k == .cell))) := by
  have hb : env.blockKind = .function := by unfold Env.blockKind; rw [hk]; rfl
  unfold swapsWith
  simp only [hb, Expr.pos]
  rfl
theorem swapped_name {x : Str} {p : Pos} {e : Expr} {env : Env} : swappedStores [.Name x p] e env = pure none := rfl
theorem swapped_other {ts : List Expr} {k : Nat} {p : Pos} {e : Expr} {env : Env} (h : (match e with | .Tuple _ _ _ => false | _ => true) = true) : swappedStores [.Tuple ts k p] e env = pure none := by
  cases e <;> first | rfl | cases h
theorem cSs_ok {s : Stmt → Sx} (h : ∀ st, PS X st (tDS G W cf (s st))) : ∀ sts : List Stmt, PSs X sts (tDS G W cf (cSs s sts))
  | [] => ds_nil
  | st :: sts => ds_cons (h st) (cSs_ok h sts)
theorem cAsg_ok (O : XOk G W k S X) (g : Globs G T cf k X) {r : Expr → Ex} (h : ∀ e, PE X e (tD G W cf (r e))) {ts : List Expr} {e : Expr} {pos : Pos}
    (hlc : ∀ (i : Nat) (x : Str) (p : Pos) (elt : Expr) (gens : List Comprehension) (scope : Scope) (p2 : Pos), e = .ListComp elt gens scope p2 → S.sto x = true → S.ix x = some i → PS X (.Assign [.Name x p] (.ListComp elt gens scope p2) pos) (tDS G W cf (sAsg (.nm i) (r (.ListComp elt gens scope p2))))) :
    PS X (.Assign ts e pos) (tDS G W cf (cAsg T S r ts e)) := by
  have hu := hu_of1 O
  unfold cAsg
  split
  · rename_i x p
    split
    · rename_i c
      split
      · rename_i i e1
        obtain ⟨q1, q2⟩ := sto_ok O c
        split
        · split
          · exact hlc _ _ _ _ _ _ _ rfl c e1
          · exact ds_bad
        · rename_i c2
          exact ds_set O.nd (ix_ok O e1).1 q1 q2 (h e) (sw_off (by simpa using c2))
      · exact ds_bad
    · exact ds_bad
  · rename_i ts k p
    split
    · exact ds_bad
    · rename_i c2
      have c2 : isComp e = false := by simpa using c2
      split
      · rename_i vs kk pp
        split
        · rename_i x px y py a b
          split
          · rename_i c
            simp only [Bool.and_eq_true, Bool.not_eq_true'] at c
            obtain ⟨⟨⟨⟨⟨⟨c1, c3⟩, c4⟩, c5⟩, c6⟩, c7⟩, c8⟩ := c
            split
            · rename_i i j e1 e2
              have lx : X.env.scope.names.lookup x = some .local := by rw [O.sc]; simpa using c6
              have ly : X.env.scope.names.lookup y = some .local := by rw [O.sc]; simpa using c7
              have ne : x ≠ y := by simpa using c8
              have hij : i ≠ j := fun z => by
                have z1 := (ix_ok O e1).1
                have z2 := (ix_ok O e2).1
                rw [z, z2] at z1
                exact ne (Option.some.inj z1).symm
              refine ds_par O.calm O.nd (ix_ok O e1).1 (ix_ok O e2).1 hij lx ly (cA_ok h c5) ?_ rfl
              have hb : X.env.blockKind = .function := by unfold Env.blockKind; rw [O.kind]; rfl
              have kx : X.env.kindOf x = some .local := lx
              have ky : X.env.kindOf y = some .local := ly
              have pa : plainArg a = true ∧ plainArg b = true := by simpa using c5
              have ns : ([a, b].any fun | .Starred .. => true | _ => false) = false := by
                have t : ∀ z : Expr, plainArg z = true → (match z with | .Starred _ _ => true | _ => false) = false := fun z hz => by cases z <;> first | rfl | cases hz
                simp only [List.any_cons, List.any_nil, Bool.or_false]
                rw [t a pa.1, t b pa.2]
                rfl
              show swappedStores [.Tuple [.Name x px, .Name y py] k p] (.Tuple [a, b] _ _) X.env = pure (some [x, y])
              have c1' : px.line = py.line := by simpa using c1
              unfold swappedStores
              simp only [hb, kx, ky, c3, c4, ns, Expr.pos, c1', List.length_cons, List.length_nil, List.filterMap_cons, List.filterMap_nil, List.head?_cons, Option.map_some, Option.getD_some]
              have e0 : (some NameKind.local == some NameKind.local && py.line == py.line) = true := by simp
              have nyx : (y == x) = false := by simp [Ne.symm ne]
              have ed : ([x, y] : List Str).eraseDups = [x, y] := by
                simp [List.eraseDups_cons, nyx, Ne.symm ne]
              simp only [e0, if_true, ed]
              split
              · rename_i z; exact absurd z (by decide)
              split
              · rename_i z; exact absurd (ns.symm.trans z) Bool.false_ne_true
              split
              · rename_i z; exact absurd z (by simp)
              rfl
            · exact ds_bad
          · exact ds_bad
        · exact ds_bad
      · rename_i hne
        split
        · rename_i is e1
          have q := ixs_ok O e1
          obtain ⟨h1, h2, _⟩ := names_each (P := fun x i => X.N[i]? = some x ∧ Loc X.env.scope x ∧ (X.fn x = true ∨ X.env.scope.names.lookup x = some .local)) (env := X.env) q
          exact ds_asg (h e) (dg_tup O.K O.calm O.nd q h1 h2) (sw_other c2) (swapped_other (by cases e <;> first | rfl | exact absurd rfl (hne _ _ _))) rfl
        · exact ds_bad
  · rename_i o i p
    split
    · exact ds_bad
    · rename_i c
      simp only [Bool.or_eq_true, Bool.not_eq_true', not_or, Bool.not_eq_true] at c
      have c2 : plainIx i = true := by simpa using c.2
      refine ds_sub (by omega) (h o) (h i) (h e) (sw_other c.1) rfl rfl fun v => ?_
      cases i <;> first | rfl | cases c2
  · rename_i o f p
    split
    · exact ds_bad
    · rename_i c
      simp only [Bool.or_eq_true, Bool.not_eq_true', not_or, Bool.not_eq_true] at c
      split
      · rename_i cs e1
        exact ds_fld O.mg (g.fl _ _ e1) (h o) (h e) (sw_off c.1)
      · exact ds_bad
  · exact ds_bad
theorem cAug_ok (O : XOk G W k S X) (g : Globs G T cf k X) {r : Expr → Ex} (h : ∀ e, PE X e (tD G W cf (r e))) {t e : Expr} {o : Operator} {pos : Pos} : PS X (.AugAssign t o e pos) (tDS G W cf (cAug T S r t o e)) := by
  have hu := hu_of1 O
  unfold cAug
  split
  · exact ds_bad
  · rename_i op e0
    split
    · rename_i x p
      split
      · rename_i c
        split
        · rename_i i e1
          obtain ⟨q1, q2⟩ := sto_ok O c
          exact ds_aug e0 O.nd (ix_ok O e1).1 q1 q2 (h e)
        · exact ds_bad
      · exact ds_bad
    · rename_i a i p
      split
      · rename_i c
        refine ds_augS e0 (by omega) (h a) (h i) (h e) fun ov iv new => ?_
        cases i <;> first | rfl | cases c
      · exact ds_bad
    · rename_i a f p
      split
      · split
        · rename_i cs e1
          exact ds_augF e0 O.mg (g.fl _ _ e1) (h a) (h e)
        · exact ds_bad
      · exact ds_bad
    · exact ds_bad
/-- what a def's body asks beyond -/
structure SOk (G : Gs) (T : Gt) (cf : Cf) (W : WX) (k : Nat) (S : Sc) (X : Cx) : Prop where
  x : XOk G W k S X
  g : Globs G T cf k X
  r : Room (k + 3) X.A
  p : PassesOwn (model X.prog X.w) X.A X.env X.xe
theorem lc_asg (O : XOk G W k S X) (g : Globs G T cf k X) {told : Bool} (ht : told = true → Room (k + 3) X.A ∧ ToldAt G T.tab X T.told) (n : Nat) (i : Nat) (x : Str) (p : Pos) (elt : Expr) (gens : List Comprehension) (scope : Scope) (p2 pos : Pos) (c : S.sto x = true) (e1 : S.ix x = some i) :
    PS X (.Assign [.Name x p] (.ListComp elt gens scope p2) pos) (tDS G W cf (sAsg (.nm i) (cC T n told S (.ListComp elt gens scope p2)).1)) := by
  obtain ⟨q1, q2⟩ := sto_ok O c
  have sw := sw_name (elt := elt) (gs := gens) (scope := scope) (pos := p2) (py := p) (y := x) (l := pos.line) (env := X.env) O.kind
  by_cases hs : ((X.env.scope.names.lookup x == some .local) && (p.line == p2.line) && !(scope.names.any fun (n, k) => n == x && (k == .local || k == .cell))) = true
  · rw [hs] at sw
    have hl : X.env.scope.names.lookup x = some .local := by
      rw [Bool.and_eq_true, Bool.and_eq_true] at hs
      simpa using hs.1.1
    cases n with
    | zero => exact ⟨fun pins s τ H D I ⟨ρ, σ, h, rel, rs, p⟩ => p.elim⟩
    | succ n =>
      have ih1 := cC_ok (cf := cf) n told S X W O g ht
      have h1 : ∀ e, PE X e (tD G W cf (cC T n told S e).1) := fun e => (ih1 e).1
      have hS : Any G T cf k (cC T n false) := fun S' X' W' O' g' => cC_ok n false S' X' W' O' g' (fun z => by cases z)
      have bad : PS X (.Assign [.Name x p] (.ListComp elt gens scope p2) pos) (tDS G W cf (sAsg (.nm i) eBad)) := ⟨fun pins s τ H D I ⟨ρ, σ, h, rel, rs, p⟩ => p.elim⟩
      show PS X _ (tDS G W cf (sAsg (.nm i) (cLc T S (fun e => (cC T n told S e).1) (cC T n false) elt gens scope)))
      unfold cLc
      split
      · rename_i tg it ifs
        split
        · rename_i B own e2
          obtain ⟨rfl, ok⟩ := blkIn_ok O e2
          split
          · rename_i gt t e3 e4
            split
            · rename_i c2
              rw [Bool.and_eq_true] at c2
              exact ds_setLc O.calm O.nd (ix_ok O e1).1 hl sw (cI_ok O g.bi h1) ok (any_mem c2.2) (fun s H C cl fp => cTg_ok (O.blk ok s H C cl fp) e3) (fun s H C cl fp => cIfs_ok (fun e => (hS _ _ _ (O.blk ok s H C cl fp) (g.blk s H C cl fp) e).2) e4)
                (fun s H C cl fp => (hS _ _ _ (O.blk ok s H C cl fp) (g.blk s H C cl fp) elt).1) (notSet_ok c2.1)
            · exact bad
          · exact bad
        · exact bad
      · exact bad
  · rw [Bool.eq_false_iff.mpr hs] at sw
    exact ds_set O.nd (ix_ok O e1).1 q1 q2 (cC_ok (cf := cf) n told S X W O g ht _).1 sw
theorem cS_ok {m : Nat} {b : Bool} (K : SOk G T cf W k S X) (tl : b = true → ToldAt G T.tab X T.told) : ∀ (n : Nat) (st : Stmt), PS X st (tDS G W cf (cS T m b S n st))
  | 0, st => ds_bad
  | n + 1, st => by
    have O := K.x
    have g := K.g
    have ht : b = true → Room (k + 3) X.A ∧ ToldAt G T.tab X T.told := fun z => ⟨K.r, tl z⟩
    have hb := cC_ok (cf := cf) m b S X W O g ht
    have h1 : ∀ e, PE X e (tD G W cf (cC T m b S e).1) := fun e => (hb e).1
    have h2 : ∀ e, PT X e (tDT G W cf (cC T m b S e).2) := fun e => (hb e).2
    have ih := cS_ok (m := m) K tl n
    unfold cS
    split
    · exact ds_pass
    · exact ds_break
    · exact ds_cont
    · exact ds_retN
    · exact ds_ret (h1 _)
    · split
      · exact ds_bad
      · rename_i c
        exact ds_expr (h1 _) (sw_off (by simpa using c))
    · exact ds_if (h2 _) (cSs_ok ih _) (cSs_ok ih _)
    · exact ds_while K.p (h2 _) (cSs_ok ih _)
    · split
      · rename_i gt e1
        split
        · rename_i c
          exact ds_for K.p O.calm (cI_ok O g.bi h1) (cTg_ok O e1) (cSs_ok ih _) (notSet_ok c)
        · exact ds_bad
      · exact ds_bad
    · exact cAsg_ok O g h1 fun i x p elt gens scope p2 e c e1 => by
        subst e
        exact lc_asg O g ht m i x p elt gens scope p2 _ c e1
    · exact cAug_ok O g h1
    · split
      · exact ds_del (h1 _) (h1 _)
      · exact ds_bad
    · rename_i x p a p2 p3
      split
      · rename_i c
        rw [Bool.and_eq_true] at c
        obtain ⟨g1, g2, g3⟩ := gl_ok O c.1
        split
        · rename_i f e1
          obtain ⟨C, fI, TX, hxf⟩ := g.er _ _ e1
          exact ds_raise O.calm O.mg TX hxf O.room O.tk g1 g2 c.2 (h1 a)
        · exact ds_bad
      · exact ds_bad
    · exact ds_bad
end
end Ev

end

section
set_option maxRecDepth 100000
set_option maxHeartbeats 1000000
/-! Ev24: all defs of a text at once. -/
namespace Ev
open PySem PySem.Spec PyProof.Rows L2 LamX
/-! ### binding -/
theorem fm_congr {α β : Type} {f g : α → Option β} : ∀ {l : List α}, (∀ x ∈ l, f x = g x) → l.filterMap f = l.filterMap g
  | [], _ => rfl
  | x :: l, h => by
    rw [List.filterMap_cons, List.filterMap_cons, h x List.mem_cons_self, fm_congr fun y hy => h y (List.mem_cons_of_mem _ hy)]
theorem zip_look : ∀ {ns : List Str} {us : List Value}, ns.Nodup → us.length = ns.length → ns.filterMap (fun n => ((ns.zip us).lookup n).map (n, ·)) = ns.zip us
  | [], us, _, h => by
    cases us with
    | nil => rfl
    | cons _ _ => cases h
  | n :: ns, [], _, h => by cases h
  | n :: ns, u :: us, hn, h => by
    have hn' := List.nodup_cons.mp hn
    have ih := zip_look hn'.2 (us := us) (Nat.succ.inj h)
    rw [List.zip_cons_cons, List.filterMap_cons]
    have e1 : List.lookup n ((n, u) :: ns.zip us) = some u := by simp [List.lookup]
    rw [e1]
    show (n, u) :: ns.filterMap _ = _
    have e2 : ns.filterMap (fun m => (List.lookup m ((n, u) :: ns.zip us)).map (m, ·)) = ns.filterMap fun m => (List.lookup m (ns.zip us)).map (m, ·) := by
      apply fm_congr
      intro m hm
      have ne : (m == n) = false := by
        have : m ≠ n := fun e => hn'.1 (e ▸ hm)
        simpa using this
      rw [List.lookup_cons, ne]
    rw [e2, ih]
theorem look_some : ∀ {ns : List Str} {us : List Value}, us.length = ns.length → ∀ n ∈ ns, ((ns.zip us).lookup n).isNone = false
  | [], _, _, n, hn => by cases hn
  | m :: ns, [], h, _, _ => by cases h
  | m :: ns, u :: us, h, n, hn => by
    rw [List.zip_cons_cons, List.lookup_cons]
    cases e : n == m with
    | true => rfl
    | false =>
      rcases List.mem_cons.mp hn with z | z
      · rw [z] at e; simp at e
      · exact look_some (us := us) (Nat.succ.inj h) n z
theorem bind_plain {x qual : Str} {as : List Arg} {body : List Stmt} {scope : Scope} {kV doc pm cdv ct : Value} {an : Option Addr} {us : List Value} (hn : (as.map (·.arg)).Nodup) (hl : us.length = (as.map (·.arg)).length) :
    bindArgs (PySem.W.fnOf x qual ⟨[], as, none, [], [], none, []⟩ body scope .none kV doc pm an cdv ct) ⟨us, []⟩ = pure ((as.map (·.arg)).zip us) := by
  have hz := zip_look hn hl
  have hm : (as.map (·.arg)).filter (fun n => (((as.map (·.arg)).zip us).lookup n).isNone) = [] := by
    rw [List.filter_eq_nil_iff]
    intro n hn'
    rw [look_some hl n hn']
    exact Bool.false_ne_true
  unfold bindArgs
  simp only [PySem.W.fnOf, List.map_nil, List.nil_append, List.append_nil, List.forIn_nil, pure_bind]
  have e : seqItems? Value.none = pure none := rfl
  rw [e]
  simp only [pure_bind, Option.getD_none, List.drop_nil, List.length_nil, Nat.sub_zero, List.zip_nil_right, List.forIn_nil]
  rw [hl]
  simp only [Nat.lt_irrefl, gt_iff_lt, decide_false, Bool.false_and, List.take_length, hm, List.isEmpty_nil, hz]
  rfl
/-! ### a def -/
structure Df where
  d : He.DefD
  N : List Str
  tl : Bool
def Df.ps (f : Df) : List Str := f.d.params.args.map (·.arg)
def Df.sc (f : Df) : Sc := ⟨f.N, f.d.scope, none⟩
def Df.body (T : Gt) (m n : Nat) (f : Df) : Sx := cSs (cS T m f.tl f.sc n) f.d.body
def Df.fn (T : Gt) (m n : Nat) (f : Df) : Fn := ⟨f.ps.length, f.N.length, f.body T m n⟩
def plainPs (a : Arguments) : Bool := match a with
  | ⟨[], _, none, [], [], none, []⟩ => true
  | _ => false
def kindF (k : ScopeKind) : Bool := match k with
  | .function => true
  | _ => false
def Df.okB (f : Df) : Bool :=
  plainPs f.d.params && f.d.dfl.isEmpty && f.d.kwd.isEmpty && kindF f.d.scope.kind && !f.d.scope.isCoroutine && !f.d.scope.isGenerator && decide f.N.Nodup && decide (f.N.take f.ps.length = f.ps) &&
    (f.ps.all fun x => match f.d.scope.names.lookup x with
      | some .local => true
      | some .cell => true
      | _ => false) && (f.d.scope.names.all fun y => match y.2 with
      | .free => false
      | _ => true)
theorem kindF_ok {k : ScopeKind} (h : kindF k = true) : k = .function := by cases k <;> first | rfl | cases h
structure DfOk (K : PySem.W.Frag) (f : Df) (a : Addr) : Prop where
  fd : ∃ fd, FunD K f.d.name f.d.qual f.d.params f.d.body f.d.scope [] [] a fd ∧ Binds K fd f.ps [] ∧ ∀ (s : Shared) (us : List Value), us.length = f.ps.length → BindsTo s fd ⟨us, []⟩ (f.ps.zip us)
  sc : FnScope f.N f.ps f.d.scope
theorem Df.scope_ok {f : Df} (h : f.okB = true) : FnScope f.N f.ps f.d.scope ∧ f.d.dfl = [] ∧ f.d.kwd = [] ∧ ∃ as, f.d.params = ⟨[], as, none, [], [], none, []⟩ ∧ (as.map (·.arg)).Nodup := by
  unfold Df.okB at h
  simp only [Bool.and_eq_true, Bool.not_eq_true', decide_eq_true_eq, List.all_eq_true] at h
  obtain ⟨⟨⟨⟨⟨⟨⟨⟨⟨h1, h2⟩, h3⟩, h4⟩, h5⟩, h6⟩, h7⟩, h8⟩, h9⟩, h10⟩ := h
  have hp : ∃ as, f.d.params = ⟨[], as, none, [], [], none, []⟩ := by
    revert h1
    generalize f.d.params = pp
    intro h1
    obtain ⟨a1, a2, a3, a4, a5, a6, a7⟩ := pp
    cases a1 <;> cases a3 <;> cases a4 <;> cases a5 <;> cases a6 <;> cases a7 <;> first | exact ⟨a2, rfl⟩ | cases h1
  obtain ⟨as, hp⟩ := hp
  refine ⟨⟨kindF_ok h4, h5, h6, h7, h8, fun x hx => ?_, fun y hy e => ?_⟩, by simpa using h2, by simpa using h3, as, hp, ?_⟩
  · have q := h9 x hx
    cases e : f.d.scope.names.lookup x with
    | none => rw [e] at q; cases q
    | some kk =>
      rw [e] at q
      cases kk <;> first | exact .inl rfl | exact .inr rfl | cases q
  · have q := h10 y hy
    rw [e] at q
    cases q
  · have e : f.ps = as.map (·.arg) := by unfold Df.ps; rw [hp]
    rw [← e, ← h8]
    exact h7.sublist (List.take_sublist _ _)
theorem Df.ok_of {K : PySem.W.Frag} {f : Df} (h : f.okB = true) (c : ∃ fd, FunD K f.d.name f.d.qual f.d.params f.d.body f.d.scope (f.d.dvs K) (f.d.kws K) (He.fAd K f.d.at_) fd) : DfOk K f (He.fAd K f.d.at_) := by
  obtain ⟨sc, e1, e2, as, hp, hn⟩ := Df.scope_ok h
  obtain ⟨fd, F⟩ := c
  have z1 : f.d.dvs K = [] := by unfold He.DefD.dvs; rw [e1]; rfl
  have z2 : f.d.kws K = [] := by unfold He.DefD.kws; rw [e2]; rfl
  rw [z1, z2] at F
  have eps : f.ps = as.map (·.arg) := by unfold Df.ps; rw [hp]
  have bnd : ∀ (kV doc pm : Value) (an : Option Addr) (cdv ct : Value) (us : List Value), us.length = f.ps.length → bindArgs (PySem.W.fnOf f.d.name f.d.qual f.d.params f.d.body f.d.scope .none kV doc pm an cdv ct) ⟨us, []⟩ = pure (f.ps.zip us) := fun kV doc pm an cdv ct us hl => by
    rw [hp, eps]
    exact bind_plain hn (by rw [hl, eps])
  exact ⟨⟨fd, F, FunD.bindsN F bnd, fun s us hl => FunD.bindsA F bnd s us hl⟩, sc⟩
/-! ### the entry -/
theorem start_rel {ρ : List Addr} {H : Hp} {vs : List Val} {ws : List V} {N : List Str} (r : RVs ρ H vs ws) (hl : vs.length ≤ N.length) : RSt ρ H (start N.length vs) (L2.start N ws) := by
  refine ⟨?_, fun i v e => ?_⟩
  · unfold start L2.start
    simp [r.length]
  · unfold start at e
    by_cases hi : i < vs.length
    · rw [List.getElem?_append_left (by simpa using hi), List.getElem?_map] at e
      cases q : vs[i]? with
      | none => rw [q] at e; cases e
      | some u =>
        rw [q] at e
        cases e
        obtain ⟨w, h1, h2⟩ := r.get q
        refine ⟨w, ?_, h2⟩
        unfold L2.start
        rw [List.getElem?_append_left (by simpa [← r.length] using hi), List.getElem?_map, h1]
        rfl
    · rw [List.getElem?_append_right (by simpa using Nat.le_of_not_lt hi)] at e
      rw [List.getElem?_replicate] at e
      split at e <;> cases e
/-- a body's ends, as its outcome -/
theorem post_body {G : Gs} {E : XK} {ρ : List Addr} {H : Hp} {o : SO} {Q : VK} (p : Post RV G E ρ H o.out Q) : PostS G (fun cls d _ H => E cls d H) ρ H o { nx := fun _ H' => Q .non H', rt := Q } := by
  cases o with
  | nx σ h => exact fun ρ' H' τ a b c => p ρ' H' .non a b .non
  | rt v h => exact fun ρ' H' w a b c => p ρ' H' w a b c
  | bk σ h => exact p.elim
  | ct σ h => exact p.elim
  | ex c vs σ h => exact fun ρ' H' τ cls d a b c e => p ρ' H' cls d a b e
  | bad => exact p
/-! ### what the written part tells, beside the calls -/
structure Wr (G : Gs) (T : Gt) (K : PySem.W.Frag) (mg : Str → Option Value) (dfs : List Df) : Prop where
  fn : ∀ x i, T.fns.lookup x = some i → ∃ f, dfs[i]? = some f ∧ f.tl = false ∧ mg x = some (.ref (He.fAd K f.d.at_))
  mak : ∀ x i, T.mks.lookup x = some i → ∃ C f, dfs[i]? = some f ∧ f.tl = false ∧ mg x = some (.ref C) ∧ Mk K C (He.fAd K f.d.at_)
  me : ∀ m tab, T.mets.lookup m = some tab → ∀ c i, tab.lookup c = some i → ∃ C f, dfs[i]? = some f ∧ f.tl = false ∧ mg c = some (.ref C) ∧ Cls K C ∧ Meth K C m (He.fAd K f.d.at_)
  fl : ∀ f cs, T.flds.lookup f = some cs → ∀ c ∈ cs, ∃ C, mg c = some (.ref C) ∧ Cls K C ∧ NoAttr K C f
  er : ∀ x f, T.errs.lookup x = some f → ∃ C fI, XTxt K mg x f C fI ∧ G.xf x = [f]
  co : ∀ x v, T.cons.lookup x = some v → ∃ u w, mg x = some u ∧ RelV w u ∧ ∀ ρ H, RV ρ H v w
  tu : ∀ x l, T.tups.lookup x = some l → ∃ p, mg x = some (.ref p) ∧ (p, l) ∈ G.C
  bi : ∀ x ∈ biNames, mg x = none
  gK : G.K = K
  gm : G.mg = mg
  ok : ∀ f ∈ dfs, DfOk K f (He.fAd K f.d.at_)
section
variable {P : Program} {w : World} {K : PySem.W.Frag} {mg : Str → Option Value} {base : Heap} {G : Gs} {T : Gt} {dfs : List Df} {m n : Nat}
abbrev fnsOf (T : Gt) (m n : Nat) (dfs : List Df) : List Fn := dfs.map (Df.fn T m n)
/-- what is known of the i-th def -/
abbrev Known (G : Gs) (P : Program) (w : World) (K : PySem.W.Frag) (mg : Str → Option Value) (base : Heap) (cf : Cf) (k i : Nat) (f : Df) : Prop :=
  (∃ (fd : FuncData) (ps : List Str), FnOk P w K mg base (L2.CX P w) k (He.fAd K f.d.at_) fd ps (spC G cf i ps.length) ∧ Binds K fd ps [] ∧ ∀ vs h, vs.length ≠ ps.length → cf i vs h = .bad) ∧ PySem.W.keepIn K (.ref (He.fAd K f.d.at_)) = true
theorem globs_of {cf : Cf} {k : Nat} {X : Cx} (W' : Wr G T K mg dfs) (e1 : X.prog = P) (e2 : X.w = w) (e3 : X.K = K) (e4 : X.mg = mg) (e5 : X.base = base) (kn : ∀ i f, dfs[i]? = some f → f.tl = false → Known G P w K mg base cf k i f) : Globs G T cf k X where
  fn := fun x i h => by
    obtain ⟨f, a, b, c⟩ := W'.fn x i h
    obtain ⟨q1, q2⟩ := kn i f a b
    exact ⟨_, by rw [e4]; exact c, ⟨by rw [e1, e2, e3, e4, e5]; exact q1, by rw [e3]; exact q2⟩⟩
  mak := fun x i h => by
    obtain ⟨C, f, a, b, c, d⟩ := W'.mak x i h
    obtain ⟨q1, q2⟩ := kn i f a b
    exact ⟨C, _, by rw [e4]; exact c, by rw [e3]; exact d, ⟨by rw [e1, e2, e3, e4, e5]; exact q1, by rw [e3]; exact q2⟩⟩
  me := fun mm tab h c i hc => by
    obtain ⟨C, f, a, b, c', d, e⟩ := W'.me mm tab h c i hc
    obtain ⟨q1, q2⟩ := kn i f a b
    exact ⟨C, _, by rw [e4]; exact c', by rw [e3]; exact d, by rw [e3]; exact e, ⟨by rw [e1, e2, e3, e4, e5]; exact q1, by rw [e3]; exact q2⟩⟩
  fl := fun f cs h c hc => by
    obtain ⟨C, a, b, d⟩ := W'.fl f cs h c hc
    exact ⟨C, by rw [e4]; exact a, by rw [e3]; exact b, by rw [e3]; exact d⟩
  er := fun x f h => by
    obtain ⟨C, fI, a, b⟩ := W'.er x f h
    exact ⟨C, fI, by rw [e3, e4]; exact a, b⟩
  co := fun x v h => by
    obtain ⟨u, w, a, b, c⟩ := W'.co x v h
    exact ⟨u, w, by rw [e4]; exact a, b, c⟩
  tu := fun x l h => by
    obtain ⟨p, a, b⟩ := W'.tu x l h
    exact ⟨p, by rw [e4]; exact a, b⟩
  bi := fun x hx => by rw [e4]; exact W'.bi x hx
/-- the context of a def's body -/
theorem body_ok {cf : Cf} {k : Nat} {f : Df} {a : Addr} {cdv : Value} {A : Around} {outer : List Env} {s : Shared} {H : Hp} {E : XK} (W' : Wr G T K mg dfs) (S : FnScope f.N f.ps f.d.scope) (hr : Room (k + 3) (A.deeper (envOfC f.d.qual f.d.scope s.heap.objs.size a cdv)))
    (kn : ∀ i f, dfs[i]? = some f → f.tl = false → Known G P w K mg base cf k i f) (tl : f.tl = true → ToldAt G T.tab (cxOf (L2.CX P w) P w K mg base f.N f.d.qual f.d.scope a cdv A outer s H E) T.told) :
    PSs (cxOf (L2.CX P w) P w K mg base f.N f.d.qual f.d.scope a cdv A outer s H E) f.d.body (tDS G (fun cls d _ H => E cls d H) cf (f.body T m n)) := by
  have O : XOk G (fun cls d _ H => E cls d H) k f.sc (cxOf (L2.CX P w) P w K mg base f.N f.d.qual f.d.scope a cdv A outer s H E) :=
    { N := rfl, sc := rfl, fn := fun _ _ => .inl rfl, nd := S.nd, kind := S.kind, calm := rfl, K := W'.gK.symm, mg := W'.gm.symm, tk := takes_of rfl rfl rfl rfl, room := hr.mono (by omega) }
  have g := globs_of (X := cxOf (L2.CX P w) P w K mg base f.N f.d.qual f.d.scope a cdv A outer s H E) W' rfl rfl rfl rfl rfl kn
  exact cSs_ok (fun st => cS_ok (m := m) ⟨O, g, hr, passes_of rfl⟩ tl n st) f.d.body
theorem def_ok {cf : Cf} {k i : Nat} {f : Df} (W' : Wr G T K mg dfs) (hi : dfs[i]? = some f) (kn : ∀ i f, dfs[i]? = some f → f.tl = false → Known G P w K mg base cf k i f) (cf' : Cf)
    (hcf : ∀ vs h, cf' i vs h = if vs.length = f.ps.length then (f.body T m n cf (start f.N.length vs) h).out else .bad) (ht : f.tl = false) : Known G P w K mg base cf' (k + 4) i f := by
  have hm : f ∈ dfs := List.mem_of_getElem? hi
  obtain ⟨⟨fd, F, B, _⟩, S⟩ := W'.ok f hm
  refine ⟨⟨fd, f.ps, ?_, B, fun vs h hl => by rw [hcf, if_neg hl]⟩, F.kp⟩
  refine F.ok (k := k + 3) S (fun vs H Q E h => ?_) fun cdv A outer s H vs Q E hr h => ⟨_, body_ok (m := m) (n := n) W' S hr kn (fun z => by rw [ht] at z; cases z), ?_⟩
  · obtain ⟨ρ, h', vs', rel, rv, hl, _⟩ := h
    rw [← hl, rv.length]
  · obtain ⟨ρ, h', vs', rel, rv, hl, p⟩ := h
    rw [hcf, if_pos hl] at p
    have hle : vs'.length ≤ f.N.length := by
      rw [hl, ← S.pre, List.length_take]
      exact Nat.min_le_right _ _
    exact ⟨ρ, _, h', rel, start_rel rv hle, post_body p⟩
theorem known_all (W' : Wr G T K mg dfs) : ∀ (d i : Nat) (f : Df), dfs[i]? = some f → f.tl = false → Known G P w K mg base (run (fnsOf T m n dfs) d) (4 * d) i f
  | 0, i, f, hi, ht => by
    have hm : f ∈ dfs := List.mem_of_getElem? hi
    obtain ⟨⟨fd, F, B, _⟩, S⟩ := W'.ok f hm
    exact ⟨⟨fd, f.ps, ⟨fun vs H Q E ⟨ρ, h', vs', rel, rv, hl, p⟩ => p.elim, fun A outer s H args us vs Q E _ _ _ _ ⟨ρ, h', vs', rel, rv, hl, p⟩ => p.elim⟩, B, fun vs h hl => rfl⟩, F.kp⟩
  | d + 1, i, f, hi, ht => by
    have e : (fnsOf T m n dfs)[i]? = some (f.fn T m n) := by
      unfold fnsOf
      rw [List.getElem?_map, hi]
      rfl
    refine def_ok (m := m) (n := n) W' hi (known_all W' d) _ (fun vs h => ?_) ht
    show (match (fnsOf T m n dfs)[i]? with
      | some f => if vs.length = f.np then (f.body (run (fnsOf T m n dfs) d) (start f.nn vs) h).out else .bad
      | none => .bad) = _
    rw [e]
    rfl
end
end Ev

end

section
set_option maxRecDepth 100000
set_option maxHeartbeats 1000000
/-! Ev25: what is read off the text; the facts of its head. -/
namespace Ev
open PySem PySem.Spec PyProof.Rows L2 LamX
/-! ### names of nested blocks -/
def ownNs (sc : Scope) : List Str := sc.names.filterMap fun p => match p.2 with
  | .local => if p.1 = ".0" then none else some p.1
  | .cell => if p.1 = ".0" then none else some p.1
  | _ => none
def nE : Nat → Expr → List Str
  | 0, _ => []
  | n + 1, e => match e with
    | .BoolOp _ es _ => es.flatMap (nE n)
    | .BinOp a _ b _ => nE n a ++ nE n b
    | .UnaryOp _ a _ => nE n a
    | .Lambda _ b _ _ => nE n b
    | .IfExp a b c _ => nE n a ++ nE n b ++ nE n c
    | .Dict ks vs _ => (ks.filterMap id).flatMap (nE n) ++ vs.flatMap (nE n)
    | .ListComp e gs sc _ => ownNs sc ++ nE n e ++ gs.flatMap fun g => nE n g.iter ++ g.ifs.flatMap (nE n)
    | .SetComp e gs sc _ => ownNs sc ++ nE n e ++ gs.flatMap fun g => nE n g.iter ++ g.ifs.flatMap (nE n)
    | .DictComp k v gs sc _ => ownNs sc ++ nE n k ++ nE n v ++ gs.flatMap fun g => nE n g.iter ++ g.ifs.flatMap (nE n)
    | .Compare a _ bs _ => nE n a ++ bs.flatMap (nE n)
    | .Call f es _ _ => nE n f ++ es.flatMap (nE n)
    | .Attribute a _ _ => nE n a
    | .Subscript a i _ => nE n a ++ nE n i
    | .Starred a _ => nE n a
    | .List es _ => es.flatMap (nE n)
    | .Tuple es _ _ => es.flatMap (nE n)
    | .Slice a b _ _ => ([a, b].filterMap id).flatMap (nE n)
    | .JoinedStr es _ => es.flatMap (nE n)
    | .FormattedValue a _ _ _ => nE n a
    | _ => []
def nS (m : Nat) : Nat → Stmt → List Str
  | 0, _ => []
  | n + 1, st => match st with
    | .Return (some e) _ => nE m e
    | .Expr e _ => nE m e
    | .If c a b _ => nE m c ++ a.flatMap (nS m n) ++ b.flatMap (nS m n)
    | .While c a _ _ => nE m c ++ a.flatMap (nS m n)
    | .For tg it a _ _ => nE m it ++ a.flatMap (nS m n)
    | .Assign ts e _ => ts.flatMap (nE m) ++ nE m e
    | .AugAssign t _ e _ => nE m t ++ nE m e
    | .Delete ts _ => ts.flatMap (nE m)
    | .Raise (some e) _ _ => nE m e
    | .Try b hs _ _ _ => b.flatMap (nS m n)
    | _ => []
def addNew (l : List Str) : List Str → List Str
  | [] => l
  | x :: xs => if x ∈ l then addNew l xs else addNew (l ++ [x]) xs
def namesOf (body : List Stmt) (sc : Scope) : List Str := addNew [] (ownNs sc ++ body.flatMap (nS 40 40))
/-! ### the defs, the classes -/
def defsIn (st : Stmt) : List He.DefD := match st with
  | .FunctionDef name args body _ _ _ scope _ _ _ => [⟨(name, none), name, name, args, body, scope, [], []⟩]
  | .ClassDef cname _ _ cb _ _ _ _ _ _ _ => cb.filterMap fun s => match s with
    | .FunctionDef name args body _ _ _ scope _ _ _ => some ⟨(cname, some name), name, cname ++ "." ++ name, args, body, scope, [], []⟩
    | _ => none
  | _ => []
def dfOf (law : Str) (d : He.DefD) : Df := ⟨d, namesOf d.body d.scope, d.at_ == (law, none)⟩
def dfsOf (law : Str) (body : List Stmt) : List Df := (body.flatMap defsIn).map (dfOf law)
def ixDef (dfs : List Df) (p : Str × Option Str) : Nat := dfs.findIdx fun f => f.d.at_ == p
/-- a class, its bases by name, its methods -/
def clsIn (st : Stmt) : List (Str × List Str × List Stmt) := match st with
  | .ClassDef cname bs _ cb _ _ _ _ _ _ _ => [(cname, bs.filterMap (fun b => match b with
    | .Name x _ => some x
    | _ => none), cb)]
  | _ => []
def hasDef (x : Str) (cb : List Stmt) : Bool := cb.any fun s => match s with
  | .FunctionDef name _ _ _ _ _ _ _ _ _ => name == x
  | _ => false
def defNames (cb : List Stmt) : List Str := cb.filterMap fun s => match s with
  | .FunctionDef name _ _ _ _ _ _ _ _ _ => some name
  | _ => none
/-- the fields that an __init__ stores -/
def fldsIn (cb : List Stmt) : List Str := cb.flatMap fun s => match s with
  | .FunctionDef name _ body _ _ _ _ _ _ _ => if name = "__init__" then body.filterMap (fun t => match t with
    | .Assign [.Attribute (.Name _ _) f _] _ _ => some f
    | _ => none) else []
  | _ => []
/-- an error's one field -/
def errOf (c : Str × List Str × List Stmt) : Option (Str × Str) := match c with
  | (x, _, [.FunctionDef _ ⟨[], [a, b], none, [], [], none, []⟩ [.Assign [.Attribute (.Name s _) f _] (.Name g _) _] _ _ _ _ _ _ _]) => if a.arg = "self" ∧ s = "self" ∧ b.arg = f ∧ g = f then some (x, f) else none
  | _ => none
def gtOf (dfs : List Df) (law told : Str) (body : List Stmt) : Gt :=
  let cls := body.flatMap clsIn
  let own := cls.filter fun c => c.2.1.isEmpty && hasDef "__init__" c.2.2
  let mts := own.flatMap fun c => (defNames c.2.2).map fun m => (c.1, m)
  let fds := own.flatMap fun c => (fldsIn c.2.2).map fun f => (c.1, f)
  let ers := (cls.filter fun c => !c.2.1.isEmpty).filterMap errOf
  { fns := (body.filterMap fun st => match st with
      | .FunctionDef name _ _ _ _ _ _ _ _ _ => if name = law ∨ name = told then none else some (name, ixDef dfs (name, none))
      | _ => none)
    mks := own.map fun c => (c.1, ixDef dfs (c.1, some ("__init__" : Str)))
    mets := (addNew [] (mts.map (·.2))).map fun m => (m, (mts.filter fun p => p.2 == m).map fun p => (p.1, ixDef dfs (p.1, some m)))
    flds := (addNew [] (fds.map (·.2))).map fun f => (f, (fds.filter fun p => p.2 == f).map (·.1))
    errs := ers
    cons := body.filterMap fun st => match st with
      | .Assign [.Name x _] (.Constant (.int i) _ _) _ => some (x, .int i)
      | .Assign [.Name x _] (.Constant (.str z) _ _) _ => if x = "__name__" then none else some (x, .str z)
      | _ => none
    tups := []
    told := told
    tab := ers.map (·.1) }
/-! ### the told def's clauses -/
def clausesL (T : Gt) (n : Str) (sc : Scope) : List ExceptHandler → Option (List (Str × Option Str))
  | [] => some []
  | .ExceptHandler (some (.Name y _)) (some m) body _ :: hds => if m = n ∧ sc.names.lookup y = some .globalImplicit ∧ (y == ("__debug__" : Str)) = false then
      if y ∈ T.tab then match body with
        | [.Return (some (.Tuple [.Constant (.str z) _ _, .Attribute (.Name m2 _) f _] _ _)) _] => if z = y ∧ m2 = n ∧ T.errs.lookup y = some f then (clausesL T n sc hds).map ((y, some f) :: ·) else none
        | _ => none
      else match body with
        | _ :: _ => (clausesL T n sc hds).map ((y, none) :: ·)
        | [] => none
    else none
  | _ => none
def toldL (T : Gt) (f : Df) : Option (List (Str × Option Str)) := match f.d.body, f.ps, f.N with
  | [.Try [.Return (some (.Tuple [.Constant (.str v) _ _, .Call (.Name a2 _) [] [] _] _ _)) _] (h0 :: hs) [] [] _], [a], [a1, n] =>
    if v = "value" ∧ a2 = a ∧ a1 = a ∧ f.d.name = T.told ∧ f.d.qual = T.told ∧ f.d.at_ = (T.told, none) ∧ okName a = true ∧ okName n = true ∧ f.d.scope.names.lookup n = some .local ∧ f.d.scope.names.lookup a = some .local then clausesL T n f.d.scope (h0 :: hs) else none
  | _, _, _ => none
/-! ### the facts -/
def xcB (K : PySem.W.Frag) (C D : Addr) : Bool := match K.lookup C with
  | some ⟨.type "type", _, .cls cd, sl⟩ => decide (cd.mro = .ref C :: .ref D :: PySem.ESX.exTail) && cd.hasDict && !cd.hasDel && (match sl.toList with
    | [_, _, _, _, some (.builtin n), _] => n == "Exception.__new__"
    | _ => false)
  | _ => false
def dadOf (K : PySem.W.Frag) (C : Addr) : Addr := match K.lookup C with
  | some ⟨_, _, .cls cd, _⟩ => (match cd.mro with
    | _ :: .ref D :: _ => D
    | _ => 0)
  | _ => 0
theorem xcB_ok {K : PySem.W.Frag} {C D : Addr} (h : xcB K C D = true) : ∃ nm q N bs D sn sub ab col dd k0 k1 k2 k3 k5, K.lookup C = some (excClassObj nm q C N bs (.ref D :: PySem.ESX.exTail) true sn sub ab col dd k0 k1 k2 k3 k5 "Exception.__new__") := by
  unfold xcB at h
  split at h
  · rename_i dd cd sl e
    rw [Bool.and_eq_true, Bool.and_eq_true, Bool.and_eq_true] at h
    obtain ⟨⟨⟨h1, h2⟩, h3⟩, h4⟩ := h
    have h1 := of_decide_eq_true h1
    split at h4
    · rename_i k0 k1 k2 k3 n k5 es
      have en : n = "Exception.__new__" := by simpa using h4
      subst en
      obtain ⟨nm, bs, mro, ns, qn, hd, sn, sub, ab, col, del⟩ := cd
      have h1 : mro = _ := h1
      have h2 : hd = true := h2
      have hdel : del = false := by simpa using h3
      subst h1 h2 hdel
      have es2 : sl = #[k0, k1, k2, k3, some (.builtin "Exception.__new__"), k5] := by
        rw [← Array.toArray_toList (xs := sl), es]
      subst es2
      exact ⟨nm, qn, ns, bs, D, sn, sub, ab, col, dd, k0, k1, k2, k3, k5, e⟩
    · cases h4
  · cases h
def errB (K : PySem.W.Frag) (x f : Str) : Bool :=
  (He.Fa.glo x).ok K && xcB K (He.ga K x) (dadOf K (He.ga K x)) && He.eqO (PySem.W.findIn K (.ref (He.ga K x)) "__setattr__") (some (some (.builtin "object.__setattr__"))) && He.eqO (PySem.W.findIn K (.ref (He.ga K x)) f) (some none) &&
    He.eqO (PySem.W.findIn K (.ref (He.ga K x)) "__init__") (some (some (.ref (He.ma K (He.ga K x) "__init__")))) && decide (PySem.W.typeIn K (.ref (He.ma K (He.ga K x) "__init__")) = some (.type "function")) && PySem.W.keepIn K (.ref (He.ga K x)) &&
    decide (PySem.W.subIn K (.ref (He.ga K x)) (.type "BaseException") = some true) && decide (PySem.W.typeIn K (.ref (He.ga K x)) = some (.type "type")) && xfB K (He.ga K x)
def conB (K : PySem.W.Frag) (x : Str) : Val → Bool
  | .int i => (He.Fa.int x i).ok K
  | .str z => (He.Fa.str x z).ok K
  | _ => false
/-- all that is asked of the written part -/
def exB (T : Gt) (L : List (Str × Option Str)) (K : PySem.W.Frag) : Bool :=
  (T.fns.all fun p => (He.Fa.glo p.1).ok K) && (T.mks.all fun p => (He.Fa.glo p.1).ok K && (He.Fa.mkr p.1).ok K) &&
    (T.mets.all fun q => q.2.all fun p => (He.Fa.glo p.1).ok K && (He.Fa.cls p.1).ok K && (He.Fa.meth p.1 q.1).ok K) &&
    (T.flds.all fun q => q.2.all fun c => (He.Fa.glo c).ok K && (He.Fa.cls c).ok K && (He.Fa.noat c q.1).ok K) && (T.errs.all fun q => errB K q.1 q.2) && (T.cons.all fun q => conB K q.1 q.2) && (biNames.all fun x => (He.Fa.free x).ok K) &&
    (L.all fun e => (He.Fa.glo e.1).ok K && T.tab.all fun c => (He.Fa.exm c e.1 (decide (e.1 = c))).ok K) && (L.isEmpty || ((He.Fa.glo T.told).ok K && T.tab.all fun c => L.any fun e => decide (e.1 = c) && e.2.isSome))
/-- what is asked of the text alone -/
def stB (T : Gt) (dfs : List Df) : Bool :=
  dfs.all Df.okB && (T.fns.all fun p => match dfs[p.2]? with
    | some f => decide (f.d.at_ = (p.1, none)) && !f.tl
    | none => false) && (T.mks.all fun p => match dfs[p.2]? with
    | some f => decide (f.d.at_ = (p.1, some ("__init__" : Str))) && !f.tl
    | none => false) && (T.mets.all fun q => q.2.all fun p => match dfs[p.2]? with
    | some f => decide (f.d.at_ = (p.1, some q.1)) && !f.tl
    | none => false) && (T.errs.all fun q => dfs.any fun f => decide (f.d.at_ = (q.1, some ("__init__" : Str))) && (f.d.name == "__init__") && !(q.2 == ("self" : Str)) && !(q.2 == ("__debug__" : Str)) && !f.tl && (match f.d.params with
      | ⟨[], [⟨"self", none, _⟩, ⟨b, none, _⟩], none, [], [], none, []⟩ => b == q.2
      | _ => false) && (match f.d.body with
      | [.Assign [.Attribute (.Name s _) g _] (.Name g2 _) _] => s == ("self" : Str) && g == q.2 && g2 == q.2
      | _ => false) && (match f.d.scope with
      | ⟨.function, [(s, .local), (g, .local)], false, false, []⟩ => s == ("self" : Str) && g == q.2
      | _ => false))
end Ev

end

section
set_option maxRecDepth 100000
set_option maxHeartbeats 1000000
/-! Ev26: the head's facts, as the evaluator wants them. -/
namespace Ev
open PySem PySem.Spec PyProof.Rows L2 LamX
def gsOf (T : Gt) (K : PySem.W.Frag) (mg : Str → Option Value) (Tb : List (Addr × Str)) : Gs where
  K := K
  mg := mg
  T := Tb
  xf := fun c => match T.errs.lookup c with
    | some f => [f]
    | none => []
  C := []
theorem mem_look {α : Type} : ∀ {l : List (Str × α)} {x : Str} {v : α}, l.lookup x = some v → (x, v) ∈ l
  | (y, u) :: l, x, v, h => by
    rw [List.lookup_cons] at h
    cases e : x == y with
    | true =>
      rw [e] at h
      cases h
      have z : x = y := by simpa using e
      rw [z]
      exact List.mem_cons_self
    | false =>
      rw [e] at h
      exact List.mem_cons_of_mem _ (mem_look h)
theorem all_at {α : Type} {l : List α} {p : α → Bool} (h : l.all p = true) {x : α} (hx : x ∈ l) : p x = true := List.all_eq_true.mp h x hx
section
variable {K : PySem.W.Frag} {h : Heap} {mg : Str → Option Value} {T : Gt} {dfs : List Df} {L : List (Str × Option Str)} {Tb : List (Addr × Str)}
theorem at_df {i : Nat} {p : Str × Option Str} (q : (match dfs[i]? with
    | some f => decide (f.d.at_ = p) && !f.tl
    | none => false) = true) : ∃ f, dfs[i]? = some f ∧ f.tl = false ∧ f.d.at_ = p := by
  cases e : dfs[i]? with
  | none => rw [e] at q; cases q
  | some f =>
    rw [e] at q
    have q : (decide (f.d.at_ = p) && !f.tl) = true := q
    rw [Bool.and_eq_true] at q
    exact ⟨f, rfl, by simpa using q.2, of_decide_eq_true q.1⟩
theorem err_ok (X : K.In h) (G : h.Ns mainGlobals mg) (dok : ∀ f ∈ dfs, DfOk K f (He.fAd K f.d.at_)) {x f : Str} (e : errB K x f = true) (s : (dfs.any fun g => decide (g.d.at_ = (x, some ("__init__" : Str))) && (g.d.name == "__init__") && !(f == ("self" : Str)) && !(f == ("__debug__" : Str)) && !g.tl && (match g.d.params with
      | ⟨[], [⟨"self", none, _⟩, ⟨b, none, _⟩], none, [], [], none, []⟩ => b == f
      | _ => false) && (match g.d.body with
      | [.Assign [.Attribute (.Name s _) g _] (.Name g2 _) _] => s == ("self" : Str) && g == f && g2 == f
      | _ => false) && (match g.d.scope with
      | ⟨.function, [(s, .local), (g, .local)], false, false, []⟩ => s == ("self" : Str) && g == f
      | _ => false)) = true) : ∃ C fI, XTxt K mg x f C fI := by
  unfold errB at e
  simp only [Bool.and_eq_true] at e
  obtain ⟨⟨⟨⟨⟨⟨⟨⟨⟨e1, e2⟩, e3⟩, e4⟩, e5⟩, e6⟩, e7⟩, e8⟩, e9⟩, e10⟩ := e
  obtain ⟨g, hg, s⟩ := List.any_eq_true.mp s
  simp only [Bool.and_eq_true] at s
  obtain ⟨⟨⟨⟨⟨⟨⟨s1, s2⟩, s3⟩, s4⟩, s5⟩, s6⟩, s7⟩, s8⟩ := s
  have s1 := of_decide_eq_true s1
  obtain ⟨⟨fd, F, B, BA⟩, S⟩ := dok g hg
  rw [s1] at F
  have efI : He.fAd K (x, some ("__init__" : Str)) = He.ma K (He.ga K x) "__init__" := rfl
  rw [efI] at F
  obtain ⟨oc, od, dV, kV, doc, pm, an, cdv, ct, osl, efd, lk, hcd, hD, hK⟩ := F.ex
  have edV : dV = .none := by
    rcases hD with ⟨_, z⟩ | ⟨z, _⟩
    · exact z
    · exact absurd rfl z
  have nself : (f == ("self" : Str)) = false := by simpa using s3
  have ndbg : (f == ("__debug__" : Str)) = false := by simpa using s4
  have en : g.d.name = "__init__" := by simpa using s2
  split at s6
  · rename_i p1 b p2 ep
    have eb : b = f := by simpa using s6
    subst eb
    split at s7
    · rename_i sn q1 g1 q2 g2 q3 q4 ebd
      simp only [Bool.and_eq_true, beq_iff_eq] at s7
      obtain ⟨⟨z1, z2⟩, z3⟩ := s7
      subst z1 z2 z3
      split at s8
      · rename_i sn gn esc
        simp only [Bool.and_eq_true, beq_iff_eq] at s8
        obtain ⟨z1, z2⟩ := s8
        subst z1 z2
        refine ⟨He.ga K x, He.ma K (He.ga K x) "__init__", He.glo_ok X G e1, xcB_ok e2, He.eqO_ok e3, He.eqO_ok e4, He.eqO_ok e5, of_decide_eq_true e6, e7, of_decide_eq_true e8, of_decide_eq_true e9, ⟨nself, ndbg⟩, ?_⟩
        rw [efd, en, ep, ebd, esc, edV] at lk
        refine ⟨oc, od, kV, doc, pm, an, cdv, ct, osl, g.d.qual, p1, p2, q1, q2, q3, q4, lk, hcd, fun s' a b' => ?_⟩
        refine .of_eq ?_
        have nd : (([⟨"self", none, p1⟩, ⟨gn, none, p2⟩] : List Arg).map (·.arg)).Nodup := by
          have z : ¬ (("self" : Str) = gn) := fun z => by rw [← z] at nself; simp at nself
          simp [z]
        exact bind_plain (as := [⟨"self", none, p1⟩, ⟨gn, none, p2⟩]) (us := [a, b']) nd rfl
      · cases s8
    · cases s7
  · cases s6
theorem wr_of (X : K.In h) (G : h.Ns mainGlobals mg) (st : stB T dfs = true) (ex : exB T L K = true) (tu : T.tups = []) (c : ∀ f ∈ dfs, ∃ fd, FunD K f.d.name f.d.qual f.d.params f.d.body f.d.scope (f.d.dvs K) (f.d.kws K) (He.fAd K f.d.at_) fd) : Wr (gsOf T K mg Tb) T K mg dfs := by
  unfold stB at st
  simp only [Bool.and_eq_true] at st
  obtain ⟨⟨⟨⟨st1, st2⟩, st3⟩, st4⟩, st5⟩ := st
  unfold exB at ex
  rw [Bool.and_eq_true, Bool.and_eq_true, Bool.and_eq_true, Bool.and_eq_true, Bool.and_eq_true, Bool.and_eq_true, Bool.and_eq_true, Bool.and_eq_true] at ex
  obtain ⟨⟨⟨⟨⟨⟨⟨⟨ex1, ex2⟩, ex3⟩, ex4⟩, ex5⟩, ex6⟩, ex7⟩, ex8⟩, ex9⟩ := ex
  have dok : ∀ f ∈ dfs, DfOk K f (He.fAd K f.d.at_) := fun f hf => Df.ok_of (all_at st1 hf) (c f hf)
  refine ⟨fun x i hx => ?_, fun x i hx => ?_, fun m tab hm c' i hc => ?_, fun f cs hf c' hc => ?_, fun x f hx => ?_, fun x v hx => ?_, fun x l hx => ?_, fun x hx => ?_, rfl, rfl, dok⟩
  · have hm := mem_look hx
    obtain ⟨f, a, b, e⟩ := at_df (all_at st2 hm)
    refine ⟨f, a, b, ?_⟩
    rw [e]
    exact He.glo_ok X G (all_at ex1 hm)
  · have hm := mem_look hx
    obtain ⟨f, a, b, e⟩ := at_df (all_at st3 hm)
    have q := all_at ex2 hm
    rw [Bool.and_eq_true] at q
    refine ⟨_, f, a, b, He.glo_ok X G q.1, ?_⟩
    rw [e]
    exact He.mkr_ok q.2
  · have hm1 := mem_look hm
    have hm2 := mem_look hc
    obtain ⟨f, a, b, e⟩ := at_df (all_at (all_at st4 hm1) hm2)
    have q := all_at (all_at ex3 hm1) hm2
    rw [Bool.and_eq_true, Bool.and_eq_true] at q
    refine ⟨_, f, a, b, He.glo_ok X G q.1.1, He.cls_ok q.1.2, ?_⟩
    rw [e]
    exact He.meth_ok q.2
  · have hm1 := mem_look hf
    have q := all_at (all_at ex4 hm1) hc
    rw [Bool.and_eq_true, Bool.and_eq_true] at q
    exact ⟨_, He.glo_ok X G q.1.1, He.cls_ok q.1.2, He.noat_ok q.2⟩
  · have hm := mem_look hx
    obtain ⟨C, fI, t⟩ := err_ok X G dok (all_at ex5 hm) (all_at st5 hm)
    refine ⟨C, fI, t, ?_⟩
    show (match T.errs.lookup x with
      | some f => [f]
      | none => []) = [f]
    rw [hx]
  · have hm := mem_look hx
    have q := all_at ex6 hm
    cases v with
    | int i =>
      obtain ⟨t, e⟩ := He.int_ok X G (show (He.Fa.int x i).ok K = true from q)
      exact ⟨_, .int i, e, ⟨t, rfl⟩, fun _ _ => .int i⟩
    | str z =>
      obtain ⟨t, e⟩ := He.str_ok X G (show (He.Fa.str x z).ok K = true from q)
      exact ⟨_, .str z, e, ⟨t, rfl⟩, fun _ _ => .str z⟩
    | _ => cases q
  · rw [tu] at hx; cases hx
  · exact He.free_ok X G (all_at ex7 hx)
/-! ### the told def -/
theorem tells_of (X : K.In h) (G : h.Ns mainGlobals mg) (er : ∀ q ∈ T.errs, errB K q.1 q.2 = true) {n : Str} {sc : Scope} : ∀ {hds : List ExceptHandler} {l : List (Str × Option Str)}, clausesL T n sc hds = some l → (∀ e ∈ l, (He.Fa.glo e.1).ok K = true) →
    Tells (gsOf T K mg Tb) n sc T.tab hds (l.map fun e => (e.1, e.2, He.ga K e.1))
  | [], l, hl, _ => by cases hl; exact .nil
  | hd :: hds, l, hl, hg => by
    unfold clausesL at hl
    split at hl
    · rename_i heq; cases heq
    · rename_i y p m body q hds' heq
      obtain ⟨rfl, rfl⟩ := List.cons.inj heq
      split at hl
      · rename_i c
        obtain ⟨rfl, c2, c3⟩ := c
        split at hl
        · rename_i ht
          split at hl
          · rename_i z j p1 m2 p2 f p3 k p4 p5
            split at hl
            · rename_i c4
              obtain ⟨rfl, rfl, c5⟩ := c4
              cases e : clausesL T m2 sc hds with
              | none => rw [e] at hl; cases hl
              | some l' =>
                rw [e] at hl
                cases hl
                have hm := mem_look c5
                have q := er _ hm
                unfold errB at q
                simp only [Bool.and_eq_true] at q
                obtain ⟨⟨⟨⟨⟨⟨⟨⟨⟨e1, e2⟩, e3⟩, e4⟩, e5⟩, e6⟩, e7⟩, e8⟩, e9⟩, e10⟩ := q
                refine .tell ⟨He.glo_ok X G e1, ?_, xfB_ok e10, He.eqO_ok e4⟩ ht c2 c3 (tells_of X G er e fun e' he' => hg e' (List.mem_cons_of_mem _ he'))
                show (match T.errs.lookup z with
                  | some f => [f]
                  | none => []) = [f]
                rw [c5]
            · cases hl
          · cases hl
        · rename_i ht
          split at hl
          · rename_i st sts
            cases e : clausesL T m sc hds with
            | none => rw [e] at hl; cases hl
            | some l' =>
              rw [e] at hl
              cases hl
              exact .pass (He.glo_ok X G (hg _ List.mem_cons_self)) ht c2 c3 (tells_of X G er e fun e' he' => hg e' (List.mem_cons_of_mem _ he'))
          · cases hl
      · cases hl
    · cases hl
end
end Ev

end

section
set_option maxRecDepth 100000
set_option maxHeartbeats 1000000
/-! Ev27: the head's Hook; the law at the end. -/
namespace Ev
open PySem PySem.Spec PyProof.Rows L2 LamX
/-! ### the Hook: no list is kept -/
def isLst (o : Obj) : Bool := match o.cls with
  | .type c => c == "list"
  | _ => false
def frL (g : Addr → Option Obj) (as : List Addr) : PySem.W.Frag := (He.frG g as).filter fun q => !He.emptyTab q.2 && !isLst q.2
theorem frL_mem {g : Addr → Option Obj} {as : List Addr} {a : Addr} {o : Obj} (h : (frL g as).lookup a = some o) : g a = some o ∧ He.emptyTab o = false ∧ isLst o = false := by
  have m := He.lookup_mem h
  obtain ⟨m1, m2⟩ := List.mem_filter.mp m
  simp only [Bool.and_eq_true, Bool.not_eq_true'] at m2
  exact ⟨He.frG_mem m1, m2.1, m2.2⟩
theorem frL_in {as : List Addr} {h : Heap} : (frL h.get? as).In h := fun _ _ e => (frL_mem e).1
abbrev obsL (n : Nat) (fn : List He.DefD) (tf : List He.Defn) (ex : PySem.W.Frag → Bool) (g : Addr → Option Obj) : He.AlX := (He.obsT [] fn [] (frL g (He.asD g n)), ex (frL g (He.asD g n)) && He.tabsB g tf (frL g (He.asD g n)))
def SaysL (fn : List He.DefD) (tf : List He.Defn) (ex : PySem.W.Frag → Bool) (w : World) (h : Heap) (K : PySem.W.Frag) : Prop := He.SaysX [] fn [] tf ex w h K ∧ ∀ a o, K.lookup a = some o → isLst o = false
theorem saysL_of {n : Nat} {fn : List He.DefD} {tf : List He.Defn} {ex : PySem.W.Frag → Bool} {w : World} {h : Heap} (e : obsL n fn tf ex h.get? = He.valX fn [] w) : SaysL fn tf ex w h (frL h.get? (He.asD h.get? n)) := by
  have e1 : He.obsT [] fn [] (frL h.get? (He.asD h.get? n)) = He.valT fn [] w := congrArg (fun z : He.AlX => z.1) e
  have e2 : (ex (frL h.get? (He.asD h.get? n)) && He.tabsB h.get? tf (frL h.get? (He.asD h.get? n))) = true := congrArg (fun z : He.AlX => z.2) e
  rw [Bool.and_eq_true] at e2
  have look : ∀ p ∈ tf, PySem.W.codeHdIn (frL h.get? (He.asD h.get? n)) (He.cT (frL h.get? (He.asD h.get? n)) p).1 (He.cT (frL h.get? (He.asD h.get? n)) p).2 = true ∧ ∃ o, h.get? (He.cT (frL h.get? (He.asD h.get? n)) p).2 = some o ∧ He.emptyTab o = true := fun p hp => by
    have z := List.all_eq_true.mp e2.2 p hp
    rw [Bool.and_eq_true] at z
    refine ⟨z.1, ?_⟩
    have z2 := z.2
    cases q : h.get? (He.cT (frL h.get? (He.asD h.get? n)) p).2 with
    | none => rw [q] at z2; cases z2
    | some o => rw [q] at z2; exact ⟨o, rfl, z2⟩
  refine ⟨⟨e1, e2.1, fun p hp => (look p hp).1, fun p hp => ?_, fun p hp => ?_⟩, fun a o q => (frL_mem q).2.2⟩
  · obtain ⟨_, o, q, t⟩ := look p hp
    cases z : (frL h.get? (He.asD h.get? n)).lookup (He.cT (frL h.get? (He.asD h.get? n)) p).2 with
    | none => rfl
    | some o2 =>
      obtain ⟨z1, z2, _⟩ := frL_mem z
      rw [q] at z1
      cases z1
      rw [t] at z2
      cases z2
  · obtain ⟨_, o, q, t⟩ := look p hp
    rw [q, He.emptyTab_eq t]
def hookL (n : Nat) (fn : List He.DefD) (tf : List He.Defn) (ex : PySem.W.Frag → Bool) : PySem.W.Hook where
  α := He.AlX
  obs := fun s => obsL n fn tf ex s.heap.get?
  val := fun w => He.valX fn [] w
  says := fun w h => ∃ K : PySem.W.Frag, K.In h ∧ SaysL fn tf ex w h K
  of := fun _ _ e => ⟨_, frL_in, saysL_of e⟩
  keeps := fun _ _ _ ⟨K, hK, c, nl⟩ k => ⟨K, PySem.W.Frag.In.keeps hK k, ⟨c.t, c.more, c.hd, c.out, fun p hp => k _ _ (c.empty p hp)⟩, nl⟩
theorem obsL_eq {n : Nat} {fn : List He.DefD} {tf : List He.Defn} {ex : PySem.W.Frag → Bool} {g : Addr → Option Obj} {s : Shared} (h : ∀ a, g a = s.heap.get? a) : obsL n fn tf ex g = (hookL n fn tf ex).obs s := by
  have e : g = s.heap.get? := funext h
  rw [e] <;> rfl
/-! ### the law -/
/-- what the lambdas of law are called -/
def lamQ (f : Df) : Str := (envOfC f.d.qual f.d.scope 0 0 .none).qual ++ "<lambda>"
/-- the text told: T, its defs, the told def's clauses -/
structure Text where
  T : Gt
  dfs : List Df
  L : List (Str × Option Str)
  /-- where the law stands -/
  iL : Nat
  tf : List He.Defn
def Text.okB (t : Text) : Bool := stB t.T t.dfs && t.T.tups.isEmpty && (match t.dfs[t.iL]? with
  | some f => decide (f.d.at_ = (("law" : Str), none)) && decide (f.ps = [("script" : Str)]) && decide (f.d.name = "law") && decide (f.d.qual = "law")
  | none => false) && (match t.tf with
  | [] => (match t.dfs[t.iL]? with
    | some f => !f.tl
    | none => false)
  | [p] => decide (p = (("law" : Str), none)) && (t.dfs.any fun f => decide (toldL t.T f = some t.L) && f.okB) && !t.L.isEmpty
  | _ => false)
theorem toldAt_of {T : Gt} {K : PySem.W.Frag} {mg : Str → Option Value} {h : Heap} {dfs : List Df} {L : List (Str × Option Str)} {Tb : List (Addr × Str)} {X : Cx} (KX : K.In h) (G : h.Ns mainGlobals mg) (eK : X.K = K) (eM : X.mg = mg) {f : Df} (hf : f ∈ dfs) (dok : ∀ f ∈ dfs, DfOk K f (He.fAd K f.d.at_)) (ex : exB T L K = true)
    (hL : toldL T f = some L) (hne : L ≠ []) (kp : ∀ f ∈ dfs, PySem.W.keepIn K (.ref (He.fAd K f.d.at_)) = true) {c P : Addr} (tb : TabB X.base X.mg c P) (hc : X.env.code = .ref c) (hT : (P, X.env.qual ++ "<lambda>") ∈ Tb) (hu : ∀ p ∈ Tb, p.1 = P → p.2 = X.env.qual ++ "<lambda>") : ToldAt (gsOf T K mg Tb) T.tab X T.told := by
  unfold exB at ex
  rw [Bool.and_eq_true, Bool.and_eq_true, Bool.and_eq_true, Bool.and_eq_true, Bool.and_eq_true, Bool.and_eq_true, Bool.and_eq_true, Bool.and_eq_true] at ex
  obtain ⟨⟨⟨⟨⟨⟨⟨⟨ex1, ex2⟩, ex3⟩, ex4⟩, ex5⟩, ex6⟩, ex7⟩, ex8⟩, ex9⟩ := ex
  obtain ⟨⟨fd, F, B, BA⟩, S⟩ := dok f hf
  have kpf := kp f hf
  unfold toldL at hL
  split at hL
  · rename_i v j p0 a2 p1 p2 k p3 p4 h0 hs p8 a a1 n e1 e2 e3
    split at hL
    · rename_i cc
      obtain ⟨rfl, rfl, rfl, z1, z2, z3, z4, z5, z6, z7⟩ := cc
      obtain ⟨oc, od, dV, kV, doc, pm, an, cdv, ct, osl, efd, lk, hcd, hD, hK⟩ := F.ex
      rw [z3] at lk F kpf
      rw [z1, z2, e1] at efd
      subst efd
      rw [e2] at B S
      rw [e3] at S
      obtain ⟨o1, o2, _⟩ := okName_ok z4
      obtain ⟨o3, o4, _⟩ := okName_ok z5
      have told9 : (He.Fa.glo T.told).ok K = true ∧ (T.tab.all fun c => L.any fun e => decide (e.1 = c) && e.2.isSome) = true := by
        cases L with
        | nil => exact absurd rfl hne
        | cons e L =>
          have z : (List.isEmpty (e :: L) || ((He.Fa.glo T.told).ok K && T.tab.all fun c => (e :: L).any fun e => decide (e.1 = c) && e.2.isSome)) = true := ex9
          have z : ((He.Fa.glo T.told).ok K && T.tab.all fun c => (e :: L).any fun e => decide (e.1 = c) && e.2.isSome) = true := z
          rwa [Bool.and_eq_true] at z
      have gT : mg T.told = some (.ref (He.ga K T.told)) := He.glo_ok KX G told9.1
      have gl : ∀ e ∈ L, (He.Fa.glo e.1).ok K = true := fun e he => by
        have z := all_at ex8 he
        rw [Bool.and_eq_true] at z
        exact z.1
      refine ⟨_, n, He.ga K T.told, c, P, f.d.params, f.d.scope, dV, kV, doc, pm, cdv, ct, oc, an, od, osl, [_, n], j, k, p0, p1, p2, p3, p4, p8, h0, hs, L.map fun e => (e.1, e.2, He.ga K e.1), by rw [eM]; exact gT, by rw [eK]; exact kpf, by rw [eK]; exact lk, ?_, by rw [eK]; exact B, S, rfl, .inl z7, rfl, z6, ⟨o3, o4⟩, ⟨o1, o2⟩, tells_of KX G (fun q hq => all_at ex5 hq) hL gl, ?_, tb, hc, hT, hu⟩
      · rw [eK]
        rw [z2] at hcd
        exact hcd
      · intro cn hcn C hC
        have hC : mg cn = some (.ref C) := hC
        have z := all_at told9.2 hcn
        obtain ⟨e, he, ze⟩ := List.any_eq_true.mp z
        rw [Bool.and_eq_true] at ze
        have ze1 := of_decide_eq_true ze.1
        have gC := He.glo_ok KX G (gl e he)
        rw [ze1, hC] at gC
        cases gC
        refine ⟨?_, fun e' he' => ?_⟩
        · cases q : e.2 with
          | none => rw [q] at ze; cases ze.2
          | some ff => exact ⟨ff, List.mem_map.mpr ⟨e, he, by rw [ze1, q]⟩⟩
        · obtain ⟨e0, he0, rfl⟩ := List.mem_map.mp he'
          have z2 := all_at ex8 he0
          rw [Bool.and_eq_true] at z2
          exact He.exm_ok (all_at z2.2 hcn)
    · cases hL
  · cases hL
end Ev

end

section
set_option maxRecDepth 100000
set_option maxHeartbeats 1000000
/-! Ev28: the end: a law of a text, from what the plain evaluator says. -/
namespace Ev
open PySem PySem.Spec PyProof.Rows L2 LamX
abbrev lawAt : Str × Option Str := (("law" : Str), none)
/-- the law's outcome -/
def lawOut (t : Text) (m n D : Nat) (f : Df) : List Val → M Val := fun vs h => if vs.length = 1 then (f.body t.T m n (run (fnsOf t.T m n t.dfs) D) (start f.N.length vs) h).out else .bad
theorem cx_none {P : Program} {w : World} {H : Hp} {s : Shared} {e : Value} {s' : Shared} (h : L2.CX P w [] H s (fun _ _ _ => False) e s') : False := by
  obtain ⟨_, _, _, _, _, _, _, _, _, _, _, _, z⟩ := h
  exact z
theorem sq_cases {K : PySem.W.Frag} {H : Hp} {a : Addr} {xs : List V} (nl : ∀ a o, K.lookup a = some o → isLst o = false) (h : SqL K H a xs) : H a = some (.lst xs) ∨ ∃ o, H a = some (.frz o (.lst xs)) := by
  rcases h with h | ⟨o, its, n, h1, h2, _⟩
  · exact h
  · have z := nl a o h1
    unfold isLst at z
    rw [h2] at z
    cases z
theorem ints_rel (ρ : List Addr) (H : Hp) : ∀ ns : List Int, RVs ρ H (ns.map .int) (ns.map V.int)
  | [] => .nil
  | n :: ns => .cons (.int n) (ints_rel ρ H ns)
theorem rel_start {G : Gs} {H : Hp} {a : Addr} {ns : List Int} (hC : G.C = []) (tb : Tabs G.T H) (h : H a = some (.lst (ns.map V.int)) ∨ ∃ o, H a = some (.frz o (.lst (ns.map V.int)))) : ∃ o, (o = Ob.lst (ns.map .int) ∨ o = Ob.fro (ns.map .int)) ∧ Rel G [a] [o] H := by
  rcases h with h | ⟨ob, h⟩
  · refine ⟨_, .inl rfl, rfl, by simp, fun n o a' e1 e2 => ?_, tb, by rw [hC]; exact fun q hq => absurd hq (by simp)⟩
    cases n with
    | zero =>
      cases e1
      cases e2
      exact ⟨_, h, ints_rel _ _ ns⟩
    | succ n => cases e1
  · refine ⟨_, .inr rfl, rfl, by simp, fun n o a' e1 e2 => ?_, tb, by rw [hC]; exact fun q hq => absurd hq (by simp)⟩
    cases n with
    | zero =>
      cases e1
      cases e2
      exact ⟨ob, _, h, ints_rel _ _ ns⟩
    | succ n => cases e1
def exL (T : Gt) (L : List (Str × Option Str)) (K : PySem.W.Frag) : Bool := exB T L K && (He.Fa.glo ("law" : Str)).ok K
theorem law_at {l : PySem.W.OpenLaw} {t : Text} {m n D : Nat} {f : Df} (ok : t.okB = true) (hf : t.dfs[t.iL]? = some f)
    (plain : ∀ ns : List Int, ns.length ≤ 63 → (∀ z ∈ ns, Builtin.Int.intBits z ≤ 1048576) → ∀ o, (o = Ob.lst (ns.map .int) ∨ o = Ob.fro (ns.map .int)) → ∃ h', lawOut t m n D f [.ref 0] [o] = .ok (.bl true) h')
    {w : World} {mg : Str → Option Value} {fa : Addr} {h : Heap} {steps : Nat} (Y : (hookL steps (t.dfs.map (·.d)) t.tf (exL t.T t.L)).says w h) (G : h.Ns mainGlobals mg) (hmg : mg ("law" : Str) = some (.ref fa)) :
    ∃ K : PySem.W.Frag, K.In h ∧ LawAtS l w K (L2.CX l.prog w) (4 * D + 4) 63 "script" mg fa h := by
  obtain ⟨K, KX, c, nl⟩ := Y
  refine ⟨K, KX, ?_⟩
  have ex := c.more
  unfold exL at ex
  rw [Bool.and_eq_true] at ex
  unfold Text.okB at ok
  rw [Bool.and_eq_true, Bool.and_eq_true, Bool.and_eq_true] at ok
  obtain ⟨⟨⟨st, tu⟩, ol⟩, otf⟩ := ok
  rw [hf] at ol
  have ol : (decide (f.d.at_ = (("law" : Str), none)) && decide (f.ps = [("script" : Str)]) && decide (f.d.name = "law") && decide (f.d.qual = "law")) = true := ol
  rw [Bool.and_eq_true, Bool.and_eq_true, Bool.and_eq_true] at ol
  obtain ⟨⟨⟨ol1, ol2⟩, ol3⟩, ol4⟩ := ol
  have ol1 := of_decide_eq_true ol1
  have ol2 := of_decide_eq_true ol2
  have tu : t.T.tups = [] := by simpa using tu
  have hfm : f ∈ t.dfs := List.mem_of_getElem? hf
  have cd : ∀ g ∈ t.dfs, ∃ fd, FunD K g.d.name g.d.qual g.d.params g.d.body g.d.scope (g.d.dvs K) (g.d.kws K) (He.fAd K g.d.at_) fd := fun g hg => He.SaysD.defs (fa := []) (He.SaysT.d c.t) (List.mem_map.mpr ⟨g, hg, rfl⟩)
  obtain ⟨Tb, eTb⟩ : ∃ Tb, Tb = t.tf.map fun p => ((He.cT K p).2, lamQ f) := ⟨_, rfl⟩
  have W' : Wr (gsOf t.T K mg Tb) t.T K mg t.dfs := wr_of KX G st ex.1 tu cd
  obtain ⟨⟨fd, F, B, BA⟩, S⟩ := W'.ok f hfm
  have keep : ∀ g ∈ t.dfs, PySem.W.keepIn K (.ref (He.fAd K g.d.at_)) = true := fun g hg => by
    obtain ⟨⟨fd', F', _⟩, _⟩ := W'.ok g hg
    exact F'.kp
  have efa : He.fAd K f.d.at_ = fa := by
    rw [ol1]
    have q := He.glo_ok KX G ex.2
    rw [hmg] at q
    cases q
    rfl
  obtain ⟨oc, od, dV, kV, doc, pm, an, cdv, ct, osl, efd, lk, hcd, hD, hK⟩ := F.ex
  have sp1 : ∀ vs : List V, vs.length = 1 → vs.length = f.ps.length := fun vs h => by rw [ol2, h]; rfl
  refine ⟨fd, t.tf.map (He.cT K), fun ws H Q E => ∃ ρ h vs, Rel (gsOf t.T K mg Tb) ρ h H ∧ RVs ρ H vs ws ∧ vs.length = 1 ∧ Post RV (gsOf t.T K mg Tb) E ρ H (lawOut t m n D f vs h) Q, fun p hp => ?_, fun p hp => ?_, fun p hp => ?_, fun s u => ?_, fun H a ns hl hb hT hS => ?_, fun base KB GB TB => ?_⟩
  · obtain ⟨q, hq, rfl⟩ := List.mem_map.mp hp
    exact c.empty q hq
  · obtain ⟨q, hq, rfl⟩ := List.mem_map.mp hp
    exact c.out q hq
  · obtain ⟨q, hq, rfl⟩ := List.mem_map.mp hp
    exact PySem.W.codeHd_of_K KX (c.hd q hq)
  · have z := BA s [u] (by rw [ol2]; rfl)
    rw [ol2] at z
    exact z
  · have tabs : Tabs Tb H := fun p hp => by
      rw [eTb] at hp
      obtain ⟨q, hq, rfl⟩ := List.mem_map.mp hp
      exact TabS.nil (hT (He.cT K q) (List.mem_map.mpr ⟨q, hq, rfl⟩))
    obtain ⟨o, ho, rel⟩ := rel_start (G := gsOf t.T K mg Tb) rfl tabs (sq_cases nl hS)
    obtain ⟨h', e⟩ := plain ns hl hb o ho
    refine ⟨[a], [o], [.ref 0], rel, .cons (.ref rfl) .nil, rfl, ?_⟩
    rw [e]
    intro ρ' H' b _ _ rb
    cases rb
    rfl
  · have kn := fun (i : Nat) (g : Df) (hi : t.dfs[i]? = some g) (ht : g.tl = false) => known_all (P := l.prog) (w := w) (base := base) (m := m) (n := n) W' D i g hi ht
    rw [efa, efd] at lk
    rw [efd]
    have fin := fn_of (f := fa) (K := K) (CX := L2.CX l.prog w) (P := l.prog) (w := w) (mg := mg) (base := base) (k := 4 * D + 3) (N := f.N) (ps := f.ps)
      (sp := fun ws H Q E => ∃ ρ h vs, Rel (gsOf t.T K mg Tb) ρ h H ∧ RVs ρ H vs ws ∧ vs.length = 1 ∧ Post RV (gsOf t.T K mg Tb) E ρ H (lawOut t m n D f vs h) Q) lk hcd S (fun vs H Q E h => by
        obtain ⟨ρ, h', vs', rel, rv, hl, _⟩ := h
        exact sp1 vs (by rw [← rv.length, hl])) fun A outer s H vs Q E hr h => by
      refine ⟨_, body_ok (m := m) (n := n) W' S hr kn (fun htl => ?_), ?_⟩
      · -- the told lambdas
        cases htf : t.tf with
        | nil =>
          rw [htf] at otf
          have otf : (match t.dfs[t.iL]? with
            | some f => !f.tl
            | none => false) = true := otf
          rw [hf] at otf
          have otf : (!f.tl) = true := otf
          rw [htl] at otf
          cases otf
        | cons p r =>
          cases r with
          | cons _ _ => rw [htf] at otf; cases otf
          | nil =>
            rw [htf] at otf
            have otf : (decide (p = (("law" : Str), none)) && (t.dfs.any fun f => decide (toldL t.T f = some t.L) && f.okB) && !t.L.isEmpty) = true := otf
            rw [Bool.and_eq_true, Bool.and_eq_true] at otf
            have ep := of_decide_eq_true otf.1.1
            obtain ⟨g, hg, hgl⟩ := List.any_eq_true.mp otf.1.2
            rw [Bool.and_eq_true] at hgl
            have hgl1 := of_decide_eq_true hgl.1
            have hne : t.L ≠ [] := fun z => by
              have q := otf.2
              rw [z] at q
              cases q
            obtain ⟨cc, ecc⟩ := He.codeIn_ref hcd
            have ecT : (He.cT K p).1 = cc := by
              have lk2 : K.lookup (He.fAd K p) = some ⟨oc, od, .func (PySem.W.fnOf f.d.name f.d.qual f.d.params f.d.body f.d.scope dV kV doc pm an cdv ct), osl⟩ := by
                rw [ep, ← ol1, efa]
                exact lk
              exact He.codeOf_eq lk2 ecc
            have mem : He.cT K p ∈ t.tf.map (He.cT K) := List.mem_map.mpr ⟨p, by rw [htf]; exact List.mem_cons_self, rfl⟩
            have tbb := TB _ mem
            have eTb2 : Tb = [((He.cT K p).2, lamQ f)] := by rw [eTb, htf]; rfl
            refine toldAt_of KX G rfl rfl hg W'.ok ex.1 hgl1 hne keep (c := cc) (P := (He.cT K p).2) (by rw [← ecT]; exact tbb) ecc ?_ ?_
            · rw [eTb2]
              exact List.mem_cons_self
            · intro q hq _
              rw [eTb2] at hq
              rw [List.mem_singleton.mp hq]
              rfl
      · obtain ⟨ρ, h', vs', rel, rv, hl, p⟩ := h
        unfold lawOut at p
        rw [if_pos hl] at p
        have hle : vs'.length ≤ f.N.length := by
          have z : f.ps.length ≤ f.N.length := by
            rw [← S.pre, List.length_take]
            exact Nat.min_le_right _ _
          rw [ol2] at z
          rw [hl]
          exact z
        exact ⟨ρ, _, h', rel, start_rel rv hle, post_body p⟩
    rw [ol2] at fin
    exact fin
end Ev

end

section
set_option maxRecDepth 100000
/-! Lw: plain rules for the evaluator; the law's own drawing of numbers. -/
namespace Ev
open PySem
/-- what is wanted of a statement's outcome -/
structure Po where
  nx : St → AH → Prop
  rt : Val → AH → Prop := fun _ _ => False
  bk : St → AH → Prop := fun _ _ => False
  ct : St → AH → Prop := fun _ _ => False
  ex : Str → List Val → St → AH → Prop := fun _ _ _ _ => False
def SO.sat (o : SO) (P : Po) : Prop := match o with
  | .nx σ h => P.nx σ h
  | .rt v h => P.rt v h
  | .bk σ h => P.bk σ h
  | .ct σ h => P.ct σ h
  | .ex c vs σ h => P.ex c vs σ h
  | .bad => False
theorem sat_seq {a b : Sx} {cf : Cf} {σ : St} {h : AH} {P : Po} (q : (a cf σ h).sat { P with nx := fun σ1 h1 => (b cf σ1 h1).sat P }) : (sSeq a b cf σ h).sat P := by
  unfold sSeq
  cases e : a cf σ h <;> (rw [e] at q; exact q)
theorem sat_mono {o : SO} {P Q : Po} (p : o.sat P) (h1 : ∀ σ h, P.nx σ h → Q.nx σ h) (h2 : ∀ v h, P.rt v h → Q.rt v h) (h3 : ∀ σ h, P.bk σ h → Q.bk σ h) (h4 : ∀ σ h, P.ct σ h → Q.ct σ h) (h5 : ∀ c vs σ h, P.ex c vs σ h → Q.ex c vs σ h) : o.sat Q := by
  cases o with
  | nx σ h => exact h1 _ _ p
  | rt v h => exact h2 _ _ p
  | bk σ h => exact h3 _ _ p
  | ct σ h => exact h4 _ _ p
  | ex c vs σ h => exact h5 _ _ _ _ p
  | bad => exact p
theorem for_sat {s : Src} {g : Tg} {b : Sx} {cf : Cf} {P : Po} {N : Nat} (I : Nat → St → AH → Prop)
    (turn : ∀ i σ h, I i σ h → s.here i h = true ∧ (s.get i h = none → P.nx σ h) ∧ ∀ v, s.get i h = some v → i < N ∧ ∃ σ1, g.put v σ h = some σ1 ∧ (b cf σ1 h).sat { nx := I (i + 1), ct := I (i + 1), bk := P.nx, rt := P.rt, ex := P.ex }) :
    ∀ (k i : Nat) (σ : St) (h : AH), N ≤ k + i → I i σ h → (forLoop s g b cf k i σ h).sat P
  | k, i, σ, h, hk, hI => by
    obtain ⟨h1, h2, h3⟩ := turn i σ h hI
    unfold forLoop
    rw [if_pos h1]
    cases e : s.get i h with
    | none => exact h2 e
    | some v =>
      obtain ⟨h4, σ1, h5, h6⟩ := h3 v e
      cases k with
      | zero => omega
      | succ k =>
        simp only [h5]
        cases e2 : b cf σ1 h with
        | nx σ2 h2' => rw [e2] at h6; exact for_sat I turn k (i + 1) σ2 h2' (by omega) h6
        | ct σ2 h2' => rw [e2] at h6; exact for_sat I turn k (i + 1) σ2 h2' (by omega) h6
        | bk σ2 h2' => rw [e2] at h6; exact h6
        | rt v2 h2' => rw [e2] at h6; exact h6
        | ex c vs σ2 h2' => rw [e2] at h6; exact h6
        | bad => rw [e2] at h6; exact h6
theorem sat_for {ix : Ix} {g : Tg} {b : Sx} {cf : Cf} {σ : St} {h : AH} {P : Po} {s : Src} {h1 : AH} (e : ix cf σ h = .ok s h1) (q : (forLoop s g b cf (s.size h1) 0 σ h1).sat P) : (sFor ix g b cf σ h).sat P := by
  unfold sFor
  rw [e]
  exact q
theorem sat_if {t : Tx} {a b : Sx} {cf : Cf} {σ : St} {h : AH} {P : Po} {c : Bool} {h1 : AH} (e : t cf σ h = .ok c h1) (q1 : c = true → (a cf σ h1).sat P) (q2 : c = false → (b cf σ h1).sat P) : (sIf t a b cf σ h).sat P := by
  unfold sIf
  rw [e]
  cases c with
  | true => exact q1 rfl
  | false => exact q2 rfl
/-! ### the law's numbers -/
def lwBig : Sx := (sSeq (sAsg (.nm 3) (eVar 2))
  (sSeq (sFor (iRange1 (aCons (eC (.int (60))) aNil)) (.nm 4)
  (sSeq (sIf (tBl (eCmp pyEq (eVar 3) (eC (.int (0)))))
  (sSeq sBreak
  sNil)
  sNil)
  (sSeq (sExpr (eM isL mAppend (eVar 1) (aCons (eBin opMod (eB bInt (aCons (eVar 3) aNil)) (eC (.int (997)))) aNil)))
  (sSeq (sAsg (.nm 3) (eBin opFdiv (eVar 3) (eC (.int (997)))))
  sNil))))
  sNil))
def lwSmall : Sx := (sSeq (sFor (iRange1 (aCons (eC (.int (4))) aNil)) (.nm 4)
  (sSeq (sAsg (.nm 5) (eBin opMod (eB bInt (aCons (eBin opAdd (eBin opAdd (eBin opMul (eVar 2) (eC (.int (48271)))) (eBin opMul (eVar 4) (eC (.int (69621))))) (eC (.int (11)))) aNil)) (eC (.int (2147483647)))))
  (sSeq (sExpr (eM isL mAppend (eVar 1) (aCons (eBin opMod (eB bInt (aCons (eBin opAdd (eBin opMul (eVar 5) (eC (.int (16807)))) (eVar 4)) aNil)) (eC (.int (2147483629)))) aNil)))
  sNil)))
  sNil)
def lwNumbers : Sx := (sSeq (sAsg (.nm 1) (eLst aNil))
  (sSeq (sFor (iVal (eSlice (eVar 0) pNone (pSome (eC (.int (63)))))) (.nm 2)
  (sSeq (sIf (tBl (eCmp (cmpI fun i j => decide (j ≤ i)) (eVar 2) (eBin opPow (eC (.int (10))) (eC (.int (18)))))) lwBig lwSmall)
  sNil))
  (sSeq (sIf (tBl (eCmp pyEq (eB bLen (aCons (eVar 1) aNil)) (eC (.int (0)))))
  (sSeq (sExpr (eM isL mAppend (eVar 1) (aCons (eC (.int (0))) aNil)))
  sNil)
  sNil)
  (sSeq (sRet (eVar 1))
  sNil))))
/-- what holds of the numbers drawn -/
def RowOk (row : List Int) : Prop := row.length ≤ 4000 ∧ ∀ x ∈ row, 0 ≤ x ∧ x < 2147483647
/-- the row's places -/
abbrev Row0 (o : Ob) (row cs : List Int) : AH := [o, .lst (row.map .int), .lst (cs.map .int)]
def InR (x : Int) : Prop := 0 ≤ x ∧ x < 2147483647
theorem inR_mod {x : Int} {m : Int} (h0 : 0 < m) (h1 : m ≤ 2147483647) : InR (x % m) := ⟨Int.emod_nonneg _ (by omega), Int.lt_of_lt_of_le (Int.emod_lt_of_pos _ h0) h1⟩
theorem inR_app {row : List Int} {x : Int} (hr : ∀ y ∈ row, InR y) (hx : InR x) : ∀ y ∈ row ++ [x], InR y := by
  intro y hy
  rcases List.mem_append.mp hy with q | q
  · exact hr y q
  · rw [List.mem_singleton.mp q]; exact hx
theorem app_row {o : Ob} {row cs : List Int} {x : Int} (hl : row.length < line) : mAppend (.ref 1) [.int x] (Row0 o row cs) = .ok .non (Row0 o (row ++ [x]) cs) := by
  have : (row.map Val.int).length < line := by rw [List.length_map]; exact hl
  show (if (row.map Val.int).length < line then Out.ok Val.non ((Row0 o row cs).set 1 (.lst (row.map Val.int ++ [.int x]))) else .bad) = _
  rw [if_pos this]
  show Out.ok Val.non [o, .lst (row.map Val.int ++ [.int x]), .lst (cs.map .int)] = Out.ok Val.non [o, .lst ((row ++ [x]).map Val.int), .lst (cs.map .int)]
  rw [List.map_append]
  rfl
/-- the state within _law_numbers: the row, the script's beginning -/
abbrev NumSt (o : Ob) (cs : List Int) (n : Nat) (σ : St) (h : AH) : Prop := ∃ (a b c d : Option Val) (row : List Int), σ = [some (.ref 0), some (.ref 1), a, b, c, d] ∧ h = Row0 o row cs ∧ row.length ≤ n ∧ ∀ x ∈ row, InR x
theorem small_small (j : Int) (h : -(2 ^ 64) < j) (h2 : j < 2 ^ 64) : smallI j = true := by
  unfold smallI
  rw [decide_eq_true h, decide_eq_true h2]
  rfl
theorem opMul_r (i j : Int) (h : AH) (q : smallI j = true) : opMul (.int i) (.int j) h = .ok (.int (i * j)) h := by
  show (if smallI i || smallI j then _ else _) = _
  rw [q, Bool.or_true, if_pos rfl]
theorem opMod_r (i j : Int) (h : AH) (q : 0 < j) : opMod (.int i) (.int j) h = .ok (.int (i % j)) h := by
  show (if 0 < j then _ else _) = _
  rw [if_pos q]
theorem opFdiv_r (i j : Int) (h : AH) (q : 0 < j) (q2 : j < 1073741824) : opFdiv (.int i) (.int j) h = .ok (.int (i / j)) h := by
  show (if decide (0 < j) && decide (j < 1073741824) then _ else _) = _
  rw [decide_eq_true q, decide_eq_true q2]
  rfl
theorem small_turn {cf : Cf} {o : Ob} {row cs : List Int} {cell i : Int} {c d : Option Val} (r1 : row.length < line) :
    (sSeq (sAsg (.nm 5) (eBin opMod (eB bInt (aCons (eBin opAdd (eBin opAdd (eBin opMul (eVar 2) (eC (.int (48271)))) (eBin opMul (eVar 4) (eC (.int (69621))))) (eC (.int (11)))) aNil)) (eC (.int (2147483647)))))
  (sSeq (sExpr (eM isL mAppend (eVar 1) (aCons (eBin opMod (eB bInt (aCons (eBin opAdd (eBin opMul (eVar 5) (eC (.int (16807)))) (eVar 4)) aNil)) (eC (.int (2147483629)))) aNil)))
  sNil)) cf [some (.ref 0), some (.ref 1), some (.int cell), c, some (.int i), d] (Row0 o row cs) = .nx [some (.ref 0), some (.ref 1), some (.int cell), c, some (.int i), some (.int ((cell * 48271 + i * 69621 + 11) % 2147483647))] (Row0 o (row ++ [(((cell * 48271 + i * 69621 + 11) % 2147483647) * 16807 + i) % 2147483629]) cs) := by
  have m1 := opMul_r cell 48271 (Row0 o row cs) (small_small _ (by omega) (by omega))
  have m2 := opMul_r i 69621 (Row0 o row cs) (small_small _ (by omega) (by omega))
  have m3 := opMul_r ((cell * 48271 + i * 69621 + 11) % 2147483647) 16807 (Row0 o row cs) (small_small _ (by omega) (by omega))
  have m4 := opMod_r (cell * 48271 + i * 69621 + 11) 2147483647 (Row0 o row cs) (by omega)
  have m5 := opMod_r (((cell * 48271 + i * 69621 + 11) % 2147483647) * 16807 + i) 2147483629 (Row0 o row cs) (by omega)
  have m6 : ∀ x, mAppend (.ref 1) [.int x] (Row0 o row cs) = .ok .non (Row0 o (row ++ [x]) cs) := fun x => app_row r1
  generalize h0 : Row0 o row cs = h at *
  have m7 : isL (.ref 1) h = true := by rw [← h0]; rfl
  simp only [sSeq, sAsg, sExpr, sNil, eBin, eVar, eC, eB, aCons, aNil, eM, m7, bInt, Out.bind_ok, Out.to_ok, SO.then_nx, calm_ok, List.set_cons_zero, List.set_cons_succ, List.getElem?_cons_zero, List.getElem?_cons_succ, if_true, m1, m2, m3, m4, m5, m6, opAdd, Tg.put]
theorem numbers_small {cf : Cf} {o : Ob} {cs : List Int} {row : List Int} {cell : Int} {b c d : Option Val} {n : Nat} (hn : n + 4 < line) (hl : row.length ≤ n) (hr : ∀ x ∈ row, InR x) :
    (lwSmall cf [some (.ref 0), some (.ref 1), some (.int cell), b, c, d] (Row0 o row cs)).sat { nx := NumSt o cs (n + 4) } := by
  unfold lwSmall
  refine sat_seq (sat_for (s := .vals (rangeVals 0 4 1)) rfl ?_)
  refine for_sat (N := 4) (fun i σ h => ∃ (b c d : Option Val) (row : List Int), σ = [some (.ref 0), some (.ref 1), some (.int cell), b, c, d] ∧ h = Row0 o row cs ∧ row.length ≤ n + i ∧ i ≤ 4 ∧ ∀ x ∈ row, InR x) ?_ _ _ _ _ (by show 4 ≤ 4 + 0; omega) ⟨b, c, d, row, rfl, rfl, hl, by decide, hr⟩
  rintro i σ h ⟨b, c, d, row, rfl, rfl, hl, hi, hr⟩
  refine ⟨rfl, fun e => ?_, fun v e => ?_⟩
  · have e : (rangeVals 0 4 1)[i]? = none := e
    rw [rangeVals_get] at e
    have : ¬ i < 4 := fun z => by rw [if_pos z] at e; cases e
    have e4 : i = 4 := by omega
    subst e4
    exact ⟨_, b, c, d, row, rfl, rfl, hl, hr⟩
  · have e : (rangeVals 0 4 1)[i]? = some v := e
    rw [rangeVals_get] at e
    by_cases z : i < 4
    · rw [if_pos z] at e
      cases e
      refine ⟨z, _, rfl, ?_⟩
      have r1 : row.length < line := by omega
      rw [show ([some (.ref 0), some (.ref 1), some (.int cell), b, c, d] : St).set 4 (some (.int (0 + ↑i * 1))) = [some (.ref 0), some (.ref 1), some (.int cell), b, some (.int (0 + ↑i * 1)), d] from rfl, small_turn r1]
      exact ⟨_, _, _, _, rfl, rfl, by rw [List.length_append]; show row.length + 1 ≤ _; omega, by omega, inR_app hr (inR_mod (by omega) (by omega))⟩
    · rw [if_neg z] at e; cases e
theorem numbers_big {cf : Cf} {o : Ob} {cs : List Int} {row : List Int} {cell : Int} {b c d : Option Val} {n : Nat} (hn : n + 60 < line) (hl : row.length ≤ n) (hr : ∀ x ∈ row, InR x) :
    (lwBig cf [some (.ref 0), some (.ref 1), some (.int cell), b, c, d] (Row0 o row cs)).sat { nx := NumSt o cs (n + 60) } := by
  unfold lwBig
  refine sat_seq (show (SO.nx [some (.ref 0), some (.ref 1), some (.int cell), some (.int cell), c, d] (Row0 o row cs)).sat _ from ?_)
  refine sat_seq (sat_for (s := .vals (rangeVals 0 60 1)) rfl ?_)
  refine for_sat (N := 60) (fun i σ h => ∃ (b : Int) (c d : Option Val) (row : List Int), σ = [some (.ref 0), some (.ref 1), some (.int cell), some (.int b), c, d] ∧ h = Row0 o row cs ∧ row.length ≤ n + i ∧ i ≤ 60 ∧ ∀ x ∈ row, InR x) ?_ _ _ _ _ (by show 60 ≤ 60 + 0; omega) ⟨cell, c, d, row, rfl, rfl, hl, by decide, hr⟩
  rintro i σ h ⟨b, c, d, row, rfl, rfl, hl, hi, hr⟩
  refine ⟨rfl, fun e => ?_, fun v e => ?_⟩
  · exact ⟨_, _, c, d, row, rfl, rfl, by omega, hr⟩
  · have e : (rangeVals 0 60 1)[i]? = some v := e
    rw [rangeVals_get] at e
    by_cases z : i < 60
    · rw [if_pos z] at e
      cases e
      refine ⟨z, _, rfl, ?_⟩
      have r1 : row.length < line := by omega
      refine sat_seq (sat_if (c := decide (b = 0)) rfl (fun _ => ?_) (fun _ => ?_))
      · exact ⟨_, _, _, _, row, rfl, rfl, by omega, hr⟩
      · show (sSeq _ _ _ _ _).sat _
        simp only [sSeq, sAsg, sExpr, sNil, eBin, eVar, eC, eB, aCons, aNil, eM, isL, bInt, Out.bind_ok, Out.to_ok, SO.then_nx, calm_ok, List.set_cons_zero, List.set_cons_succ, List.getElem?_cons_zero, List.getElem?_cons_succ, lstAt, Option.isSome_some, if_true, opMod_r _ 997 _ (by decide), opFdiv_r _ 997 _ (by decide) (by decide), app_row r1, Tg.put]
        exact ⟨_, _, _, _, rfl, rfl, by rw [List.length_append]; show row.length + 1 ≤ _; omega, by omega, inR_app hr (inR_mod (by omega) (by omega))⟩
    · rw [if_neg z] at e; cases e
theorem cut_take {α : Type} (xs : List α) (n : Nat) (h : xs.length ≤ n) : cut xs none (some (n : Int)) = xs := by
  unfold cut
  have e1 : HT.sIx xs.length 0 none = 0 := rfl
  have e2 : HT.sIx xs.length xs.length (some (n : Int)) = xs.length := by
    rw [HT.sIx_nat]
    omega
  rw [e1, e2]
  simp
/-- _law_numbers: a row of numbers -/
theorem numbers_ok {cf : Cf} {o : Ob} {ns : List Int} (hl : ns.length ≤ 63) (ho : o = .lst (ns.map .int) ∨ o = .fro (ns.map .int)) :
    ∃ row : List Int, (lwNumbers cf (start 6 [.ref 0]) [o]).out = .ok (.ref 1) (Row0 o row ns) ∧ row ≠ [] ∧ row.length ≤ 4000 ∧ ∀ x ∈ row, InR x := by
  have key : (lwNumbers cf (start 6 [.ref 0]) [o]).sat { nx := fun _ _ => False, rt := fun v h => ∃ row : List Int, v = .ref 1 ∧ h = Row0 o row ns ∧ row ≠ [] ∧ row.length ≤ 4000 ∧ ∀ x ∈ row, InR x } := by
    unfold lwNumbers
    refine sat_seq (show (SO.nx [some (.ref 0), some (.ref 1), none, none, none, none] [o, .lst []]).sat _ from ?_)
    have e0 : lstAt [o, .lst []] 0 = some (ns.map .int) := by rcases ho with rfl | rfl <;> rfl
    have e1 : (iVal (eSlice (eVar 0) pNone (pSome (eC (.int (63)))))) cf [some (.ref 0), some (.ref 1), none, none, none, none] [o, .lst []] = .ok (.live 2) (Row0 o [] ns) := by
      have e2 : pySlice (.ref 0) none (some 63) [o, .lst []] = .ok (.ref 2) (Row0 o [] ns) := by
        show (match lstAt [o, .lst []] 0 with | some xs => _ | none => _) = _
        rw [e0]
        show Out.ok (Val.ref 2) [o, .lst [], .lst (cut (ns.map Val.int) none (some ((63 : Nat) : Int)))] = _
        rw [cut_take _ _ (by rw [List.length_map]; exact hl)]
        rfl
      simp only [iVal, eSlice, eVar, pNone, pSome, eC, Out.bind_ok, List.getElem?_cons_zero, e2, calm_ok]
      rfl
    refine sat_seq (sat_for e1 ?_)
    refine for_sat (N := ns.length) (fun i σ h => i ≤ ns.length ∧ NumSt o ns (60 * i) σ h) ?_ _ _ _ _ (by show ns.length ≤ (ns.map Val.int).length + 0; rw [List.length_map]; omega) ⟨Nat.zero_le _, _, _, _, _, [], rfl, rfl, Nat.zero_le _, fun x hx => absurd hx List.not_mem_nil⟩
    rintro i σ h ⟨hi, a, b, c, d, row, rfl, rfl, hl2, hr⟩
    refine ⟨rfl, fun e => ?_, fun v e => ?_⟩
    · by_cases q : row = []
      · subst q
        exact ⟨[0], rfl, rfl, by decide, by decide, fun x hx => by rw [List.mem_singleton.mp hx]; exact ⟨by decide, by decide⟩⟩
      · have q2 : row.length ≠ 0 := fun z => q (List.eq_nil_of_length_eq_zero z)
        have e3 : (tBl (eCmp pyEq (eB bLen (aCons (eVar 1) aNil)) (eC (.int (0))))) cf [some (.ref 0), some (.ref 1), a, b, c, d] (Row0 o row ns) = .ok false (Row0 o row ns) := by
          show Out.ok (decide (((row.map Val.int).length : Int) = 0)) (Row0 o row ns) = _
          rw [List.length_map, decide_eq_false (by omega)]
        refine sat_seq (sat_if e3 (fun z => by cases z) (fun _ => ?_))
        exact ⟨row, rfl, rfl, q, by omega, hr⟩
    · have e : (ns.map Val.int)[i]? = some v := e
      rw [List.getElem?_map] at e
      cases ec : ns[i]? with
      | none => rw [ec] at e; cases e
      | some cell =>
        rw [ec] at e
        cases e
        have hi2 : i < ns.length := (List.getElem?_eq_some_iff.mp ec).1
        refine ⟨hi2, _, rfl, ?_⟩
        refine sat_seq (sat_if (c := decide ((10 : Int) ^ 18 ≤ cell)) rfl (fun _ => ?_) (fun _ => ?_))
        · refine sat_mono (numbers_big (by unfold line; omega) hl2 hr) ?_ (fun _ _ => False.elim) (fun _ _ => False.elim) (fun _ _ => False.elim) (fun _ _ _ _ => False.elim)
          rintro σ h ⟨a, b, c, d, row, rfl, rfl, h1, h2⟩
          exact ⟨by omega, a, b, c, d, row, rfl, rfl, by omega, h2⟩
        · refine sat_mono (numbers_small (by unfold line; omega) hl2 hr) ?_ (fun _ _ => False.elim) (fun _ _ => False.elim) (fun _ _ => False.elim) (fun _ _ _ _ => False.elim)
          rintro σ h ⟨a, b, c, d, row, rfl, rfl, h1, h2⟩
          exact ⟨by omega, a, b, c, d, row, rfl, rfl, by omega, h2⟩
  cases e : lwNumbers cf (start 6 [.ref 0]) [o] with
  | rt v h =>
    rw [e] at key
    obtain ⟨row, rfl, rfl, h1, h2, h3⟩ := key
    exact ⟨row, rfl, h1, h2, h3⟩
  | nx σ h => rw [e] at key; exact key.elim
  | bk σ h => rw [e] at key; exact key.elim
  | ct σ h => rw [e] at key; exact key.elim
  | ex c vs σ h => rw [e] at key; exact key.elim
  | bad => rw [e] at key; exact key.elim
end Ev

end

section
set_option maxRecDepth 100000
/-! Lw2: the law's drawing, taking, picking. -/
namespace Ev
open PySem
def lwDraw : Sx := (sSeq (sIf (tBl (eCmp cmpLt (eVar 1) (eB bLen (aCons (eVar 0) aNil))))
  (sSeq (sRet (eBin opMod (eB bInt (aCons (eIxF pyIx (eVar 0) (eVar 1)) aNil)) (eVar 2)))
  sNil)
  sNil)
  (sSeq (sAsg (.nm 3) (eBin opMod (eB bInt (aCons (eBin opAdd (eBin opAdd (eBin opMul (eIxF pyIx (eVar 0) (eBin opMod (eB bInt (aCons (eVar 1) aNil)) (eB bLen (aCons (eVar 0) aNil)))) (eC (.int (40692)))) (eBin opMul (eVar 1) (eC (.int (7919))))) (eC (.int (3)))) aNil)) (eC (.int (2147483399)))))
  (sSeq (sRet (eBin opMod (eB bInt (aCons (eBin opMod (eB bInt (aCons (eBin opAdd (eBin opMul (eVar 3) (eC (.int (48271)))) (eVar 1)) aNil)) (eC (.int (2147483647)))) aNil)) (eVar 2)))
  sNil)))
def lwTake (i : Nat) : Sx := (sSeq (sSub (eVar 1) (eC (.int (0))) (eBin opAdd (eIxF pyIx (eVar 1) (eC (.int (0)))) (eC (.int (1)))))
  (sSeq (sRet (eCall i (aCons (eVar 0) (aCons (eBin opSub (eIxF pyIx (eVar 1) (eC (.int (0)))) (eC (.int (1)))) (aCons (eVar 2) aNil)))))
  sNil))
def lwPick (i : Nat) : Sx := (sSeq (sRet (eIxF pyIx (eVar 2) (eCall i (aCons (eVar 0) (aCons (eVar 1) (aCons (eB bLen (aCons (eVar 2) aNil)) aNil))))))
  sNil)
theorem int_at {row : List Int} {k : Int} (h0 : 0 ≤ k) (h1 : k < row.length) : ∃ x, x ∈ row ∧ L2.atI (row.map Val.int) k = some (.int x) := by
  obtain ⟨j, rfl⟩ : ∃ j : Nat, k = (j : Int) := ⟨k.toNat, by omega⟩
  have hj : j < row.length := by omega
  refine ⟨row[j], List.getElem_mem hj, L2.atI_nat ?_⟩
  rw [List.getElem?_map, List.getElem?_eq_getElem hj]
  rfl
theorem ix_list {h : AH} {r : Nat} {xs : List Val} {k : Int} (e : h[r]? = some (.lst xs)) : pyIx (.ref r) (.int k) h = Out.of (L2.atI xs k) h := by
  simp only [pyIx, e]
theorem len_list {h : AH} {r : Nat} {xs : List Val} (e : h[r]? = some (.lst xs)) : bLen [.ref r] h = .ok (.int xs.length) h := by
  simp only [bLen, e]
/-- _law_draw -/
theorem draw_ok {cf : Cf} {h : AH} {r : Nat} {row : List Int} {k n : Int} (e : h[r]? = some (.lst (row.map .int))) (hr : row ≠ []) (hk : 0 ≤ k) (hn : 0 < n) :
    ∃ d : Int, (lwDraw cf (start 4 [.ref r, .int k, .int n]) h).out = .ok (.int d) h ∧ 0 ≤ d ∧ d < n := by
  have hl : 0 < row.length := List.length_pos_iff.mpr hr
  have e1 : bLen [.ref r] h = .ok (.int row.length) h := by rw [len_list e, List.length_map]
  have m0 : ∀ x : Int, opMod (.int x) (.int n) h = .ok (.int (x % n)) h := fun x => opMod_r x n h hn
  show ∃ d : Int, (lwDraw cf [some (.ref r), some (.int k), some (.int n), none] h).out = .ok (.int d) h ∧ 0 ≤ d ∧ d < n
  by_cases q : k < row.length
  · obtain ⟨x, hx, e2⟩ := int_at hk q
    have e3 : pyIx (.ref r) (.int k) h = .ok (.int x) h := by rw [ix_list e, e2]; rfl
    refine ⟨x % n, ?_, Int.emod_nonneg _ (by omega), Int.emod_lt_of_pos _ hn⟩
    simp only [lwDraw, sSeq, sIf, sRet, tBl, eCmp, cmpLt, eIxF, eBin, eVar, eC, eB, aCons, aNil, e1, e3, bInt, m0, Out.bind_ok, Out.to_ok, Out.of_some, SO.then_nx, SO.then_rt, calm_ok, List.getElem?_cons_zero, List.getElem?_cons_succ, decide_eq_true q, if_true, SO.out_rt]
  · have q1 : 0 ≤ k % (row.length : Int) := Int.emod_nonneg _ (by omega)
    have q2 : k % (row.length : Int) < row.length := Int.emod_lt_of_pos _ (by omega)
    obtain ⟨x, hx, e2⟩ := int_at q1 q2
    have e3 : pyIx (.ref r) (.int (k % (row.length : Int))) h = .ok (.int x) h := by rw [ix_list e, e2]; rfl
    have m1 : opMod (.int k) (.int row.length) h = .ok (.int (k % (row.length : Int))) h := opMod_r _ _ h (by omega)
    have m2 := opMul_r x 40692 h (small_small _ (by omega) (by omega))
    have m3 := opMul_r k 7919 h (small_small _ (by omega) (by omega))
    have m4 := opMod_r (x * 40692 + k * 7919 + 3) 2147483399 h (by omega)
    have m5 := opMul_r ((x * 40692 + k * 7919 + 3) % 2147483399) 48271 h (small_small _ (by omega) (by omega))
    have m6 := opMod_r ((x * 40692 + k * 7919 + 3) % 2147483399 * 48271 + k) 2147483647 h (by omega)
    refine ⟨((x * 40692 + k * 7919 + 3) % 2147483399 * 48271 + k) % 2147483647 % n, ?_, Int.emod_nonneg _ (by omega), Int.emod_lt_of_pos _ hn⟩
    simp only [lwDraw, sSeq, sIf, sRet, sNil, sAsg, Tg.put, tBl, eCmp, cmpLt, eIxF, eBin, eVar, eC, eB, aCons, aNil, e1, e3, bInt, m0, m1, m2, m3, m4, m5, m6, opAdd, Out.bind_ok, Out.to_ok, Out.of_some, SO.then_nx, SO.then_rt, calm_ok, List.getElem?_cons_zero, List.getElem?_cons_succ, List.set_cons_zero, List.set_cons_succ, decide_eq_false q, if_false, Bool.false_eq_true, SO.out_rt]
theorem set1 {h : AH} {sp : Nat} {k j : Int} (e : h[sp]? = some (.lst [.int k])) : pySet (.ref sp) (.int 0) (.int j) h = some (h.set sp (.lst [.int j])) := by
  simp only [pySet, e]
  rfl
/-- _law_take -/
theorem take_ok {cf cf2 : Cf} {h : AH} {r sp i : Nat} {row : List Int} {k n : Int} (hd : ∀ vs h, vs.length = 3 → cf i vs h = (lwDraw cf2 (start 4 vs) h).out) (e : h[r]? = some (.lst (row.map .int))) (hr : row ≠ []) (es : h[sp]? = some (.lst [.int k])) (hne : r ≠ sp) (hk : 0 ≤ k) (hn : 0 < n) :
    ∃ d : Int, (lwTake i cf (start 3 [.ref r, .ref sp, .int n]) h).out = .ok (.int d) (h.set sp (.lst [.int (k + 1)])) ∧ 0 ≤ d ∧ d < n := by
  have hs : sp < h.length := (List.getElem?_eq_some_iff.mp es).1
  have e4 : (h.set sp (.lst [.int (k + 1)]))[sp]? = some (.lst [.int (k + 1)]) := by rw [List.getElem?_set_self hs]
  have e5 : (h.set sp (.lst [.int (k + 1)]))[r]? = some (.lst (row.map .int)) := by rw [List.getElem?_set_ne (fun z => hne z.symm), e]
  obtain ⟨d, h1, h2, h3⟩ := draw_ok (cf := cf2) (n := n) e5 hr hk hn
  refine ⟨d, ?_, h2, h3⟩
  have e6 : pyIx (.ref sp) (.int 0) h = .ok (.int k) h := by rw [ix_list es]; rfl
  have e7 : pyIx (.ref sp) (.int 0) (h.set sp (.lst [.int (k + 1)])) = .ok (.int (k + 1)) (h.set sp (.lst [.int (k + 1)])) := by rw [ix_list e4]; rfl
  have e8 : k + 1 - 1 = k := by omega
  have e9 := hd [.ref r, .int k, .int n] (h.set sp (.lst [.int (k + 1)])) rfl
  rw [h1] at e9
  show (lwTake i cf [some (.ref r), some (.ref sp), some (.int n)] h).out = _
  simp only [lwTake, sSeq, sSub, sRet, sNil, eIxF, eBin, eVar, eC, eCall, aCons, aNil, e6, e7, e8, e9, set1 es, opAdd, opSub, Out.bind_ok, Out.to_ok, SO.then_nx, SO.then_rt, calm_ok, List.getElem?_cons_zero, List.getElem?_cons_succ, SO.out_rt]
/-- _law_pick -/
theorem pick_ok {cf cf2 cf3 : Cf} {h : AH} {r sp t i j : Nat} {row : List Int} {k : Int} {xs : List Val} (ht : ∀ vs h, vs.length = 3 → cf i vs h = (lwTake j cf2 (start 3 vs) h).out) (hd : ∀ vs h, vs.length = 3 → cf2 j vs h = (lwDraw cf3 (start 4 vs) h).out) (e : h[r]? = some (.lst (row.map .int))) (hr : row ≠ []) (es : h[sp]? = some (.lst [.int k])) (et : h[t]? = some (.lst xs)) (hne : r ≠ sp) (hnt : sp ≠ t) (hk : 0 ≤ k) (hx : xs ≠ []) :
    ∃ (d : Nat) (v : Val), xs[d]? = some v ∧ (lwPick i cf (start 3 [.ref r, .ref sp, .ref t]) h).out = .ok v (h.set sp (.lst [.int (k + 1)])) := by
  have hl : 0 < xs.length := List.length_pos_iff.mpr hx
  obtain ⟨d, h1, h2, h3⟩ := take_ok (cf := cf2) (n := xs.length) hd e hr es hne hk (by omega)
  obtain ⟨d, rfl⟩ : ∃ j : Nat, d = (j : Int) := ⟨d.toNat, by omega⟩
  have hd2 : d < xs.length := by omega
  refine ⟨d, xs[d], List.getElem?_eq_getElem hd2, ?_⟩
  have e1 := ht [.ref r, .ref sp, .int xs.length] h rfl
  rw [h1] at e1
  have e2 : bLen [.ref t] h = .ok (.int xs.length) h := len_list et
  have e3 : (h.set sp (.lst [.int (k + 1)]))[t]? = some (.lst xs) := by rw [List.getElem?_set_ne hnt, et]
  have e4 : pyIx (.ref t) (.int d) (h.set sp (.lst [.int (k + 1)])) = .ok xs[d] (h.set sp (.lst [.int (k + 1)])) := by
    rw [ix_list e3, L2.atI_nat (List.getElem?_eq_getElem hd2)]
    rfl
  show (lwPick i cf [some (.ref r), some (.ref sp), some (.ref t)] h).out = _
  simp only [lwPick, sSeq, sRet, sNil, eIxF, eB, eVar, eCall, aCons, aNil, e1, e2, e4, Out.bind_ok, Out.to_ok, SO.then_rt, calm_ok, List.getElem?_cons_zero, List.getElem?_cons_succ, SO.out_rt]
end Ev

end

section
set_option maxRecDepth 100000
namespace K68
open Ev PySem
abbrev P : Program := PySem.Challenge.pw_mendplan_k68_refusals_of_assignments
def dfs : List Df := dfsOf "law" P.main.body
def T : Gt := gtOf dfs "law" "_law_told" P.main.body
def L : List (Str × Option Str) := ((dfs.find? fun f => f.d.name == ("_law_told" : Str)).bind (toldL T)).getD []
def t : Text := ⟨T, dfs, L, ixDef dfs ("law", none), [("law", none)]⟩
theorem ok : t.okB = true := by decide +kernel
end K68

end

section
set_option maxRecDepth 100000
namespace K68
open Ev PySem
def tellTab : List Str := [("BadValue" : Str), ("BadText" : Str), ("Unknown" : Str), ("NoChance" : Str), ("NoDay" : Str), ("Missing" : Str), ("TakenName" : Str), ("Short" : Str)]
/-- is_integer(x); slots: x -/
def f_is_integer : Sx := (sSeq (sRet (eAnd (eIsi ["int"] (eVar 0)) (eNot (eIsi ["bool"] (eVar 0)))))
  sNil)
/-- is_within(x, low, high); slots: x, low, high -/
def f_is_within : Sx := (sSeq (sRet (eAnd (eCall 0 (aCons (eVar 0) aNil)) (eAnd (eCmp (cmpI fun i j => decide (i ≤ j)) (eVar 1) (eVar 0)) (eCmp (cmpI fun i j => decide (i ≤ j)) (eVar 0) (eVar 2)))))
  sNil)
/-- is_sequence(x); slots: x -/
def f_is_sequence : Sx := (sSeq (sRet (eIsi ["list", "tuple"] (eVar 0)))
  sNil)
/-- is_row(x, least, most); slots: x, least, most -/
def f_is_row : Sx := (sSeq (sRet (eAnd (eCall 2 (aCons (eVar 0) aNil)) (eAnd (eCmp (cmpI fun i j => decide (i ≤ j)) (eVar 1) (eB bLen (aCons (eVar 0) aNil))) (eCmp (cmpI fun i j => decide (i ≤ j)) (eB bLen (aCons (eVar 0) aNil)) (eVar 2)))))
  sNil)
/-- all_different(row); slots: row, seen, x -/
def f_all_different : Sx := (sSeq (sAsg (.nm 1) eDic0)
  (sSeq (sFor (iVal (eVar 0)) (.nm 2)
  (sSeq (sIf (tBl (eCmp pyIn (eVar 2) (eVar 1)))
  (sSeq (sRet (eC (.bl false)))
  sNil)
  sNil)
  (sSeq (sSub (eVar 1) (eVar 2) (eC (.bl true)))
  sNil)))
  (sSeq (sRet (eC (.bl true)))
  sNil)))
/-- all_served(wants); slots: wants, owners, held, k -/
def f_all_served : Sx := (sSeq (sAsg (.nm 1) eDic0)
  (sSeq (sAsg (.nm 2) eDic0)
  (sSeq (sFor (iRange1 (aCons (eB bLen (aCons (eVar 0) aNil)) aNil)) (.nm 3)
  (sSeq (sIf (tNot (tTru (eCall 6 (aCons (eVar 0) (aCons (eVar 3) (aCons (eVar 1) (aCons (eVar 2) aNil)))))))
  (sSeq (sRet (eC (.bl false)))
  sNil)
  sNil)
  sNil))
  (sSeq (sRet (eC (.bl true)))
  sNil))))
/-- serve(wants, start, owners, held); slots: wants, start, owners, held, came, stack, want, place -/
def f_serve : Sx := (sSeq (sAsg (.nm 4) eDic0)
  (sSeq (sAsg (.nm 5) (eLst (aCons (eVar 1) aNil)))
  (sSeq (sWhile (tTru (eVar 5))
  (sSeq (sAsg (.nm 6) (eM isL mPop (eVar 5) aNil))
  (sSeq (sFor (iVal (eIxF pyIx (eVar 0) (eVar 6))) (.nm 7)
  (sSeq (sIf (tBl (eCmp pyIn (eVar 7) (eVar 4)))
  (sSeq sCont
  sNil)
  sNil)
  (sSeq (sSub (eVar 4) (eVar 7) (eVar 6))
  (sSeq (sIf (tBl (eCmp (pNot pyIn) (eVar 7) (eVar 2)))
  (sSeq (sExpr (eCall 7 (aCons (eVar 7) (aCons (eVar 4) (aCons (eVar 2) (aCons (eVar 3) aNil))))))
  (sSeq (sRet (eC (.bl true)))
  sNil))
  sNil)
  (sSeq (sExpr (eM isL mAppend (eVar 5) (aCons (eIxF pyIx (eVar 2) (eVar 7)) aNil)))
  sNil)))))
  sNil)))
  (sSeq (sRet (eC (.bl false)))
  sNil))))
/-- move(place, came, owners, held); slots: place, came, owners, held, want, old -/
def f_move : Sx := (sSeq (sWhile (tBl (eCmp (pNot cmpIsN) (eVar 0) (eC .non)))
  (sSeq (sAsg (.nm 4) (eIxF pyIx (eVar 1) (eVar 0)))
  (sSeq (sAsg (.nm 5) (eM Ev.isD mGet (eVar 3) (aCons (eVar 4) aNil)))
  (sSeq (sSub (eVar 2) (eVar 0) (eVar 4))
  (sSeq (sSub (eVar 3) (eVar 4) (eVar 0))
  (sSeq (sAsg (.nm 0) (eVar 5))
  sNil))))))
  sNil)
/-- places_of(wants, chosen); slots: wants, chosen, want, place -/
def f_places_of : Sx := (sSeq (sRet (eB bLen (aCons eBad aNil)))
  sNil)
/-- fewest_short(wants); slots: wants, level, chosen, k -/
def f_fewest_short : Sx := (sSeq (sAsg (.nm 1) (eLc (iRange1 (aCons (eB bLen (aCons (eVar 0) aNil)) aNil)) (.nm 3) tYes (eTup (aCons (eVar 3) aNil)) [3]))
  (sSeq (sWhile (tTru (eVar 1))
  (sSeq (sFor (iVal (eVar 1)) (.nm 2)
  (sSeq (sIf (tBl (eCmp cmpLt (eCall 8 (aCons (eVar 0) (aCons (eVar 2) aNil))) (eB bLen (aCons (eVar 2) aNil))))
  (sSeq (sRet (eVar 2))
  sNil)
  sNil)
  sNil))
  (sSeq (sAsg (.nm 1) eBad)
  sNil)))
  (sSeq (sRet (eC .non))
  sNil)))
/-- PriceTable.__init__(self, costs); slots: self, costs -/
def f_PriceTable___init__ : Sx := (sSeq (sFld [("PriceTable" : Str)] (eVar 0) ("costs" : Str) (eVar 1))
  (sSeq (sFld [("PriceTable" : Str)] (eVar 0) ("rows" : Str) (eBin opMul (eLst (aCons (eC (.int (0))) aNil)) (eB bLen (aCons (eVar 1) aNil))))
  (sSeq (sFld [("PriceTable" : Str)] (eVar 0) ("columns" : Str) (eBin opMul (eLst (aCons (eC (.int (0))) aNil)) (eB bLen (aCons (eIxF pyIx (eVar 1) (eC (.int (0)))) aNil))))
  (sSeq (sFld [("PriceTable" : Str)] (eVar 0) ("owners" : Str) (eBin opMul (eLst (aCons (eC .non) aNil)) (eB bLen (aCons (eIxF pyIx (eVar 1) (eC (.int (0)))) aNil))))
  sNil))))
/-- PriceTable.rest(self, row, column); slots: self, row, column, cost -/
def f_PriceTable_rest : Sx := (sSeq (sAsg (.nm 3) (eIxF pyIx (eIxF pyIx (eFld ("costs" : Str) [("PriceTable" : Str)] (eVar 0)) (eVar 1)) (eVar 2)))
  (sSeq (sIf (tBl (eCmp cmpIsN (eVar 3) (eC .non)))
  (sSeq (sRet (eC .non))
  sNil)
  sNil)
  (sSeq (sRet (eBin opSub (eBin opSub (eVar 3) (eIxF pyIx (eFld ("rows" : Str) [("PriceTable" : Str)] (eVar 0)) (eVar 1))) (eIxF pyIx (eFld ("columns" : Str) [("PriceTable" : Str)] (eVar 0)) (eVar 2))))
  sNil)))
/-- PriceTable.enter(self, row); slots: self, row, rests, back, tree, at, ahead, column -/
def f_PriceTable_enter : Sx := (sSeq (sAsg (.nm 2) (eBin opMul (eLst (aCons (eC .non) aNil)) (eB bLen (aCons (eFld ("columns" : Str) [("PriceTable" : Str)] (eVar 0)) aNil))))
  (sSeq (sAsg (.nm 3) (eBin opMul (eLst (aCons (eC .non) aNil)) (eB bLen (aCons (eFld ("columns" : Str) [("PriceTable" : Str)] (eVar 0)) aNil))))
  (sSeq (sAsg (.nm 4) (eLst aNil))
  (sSeq (sPar [5, 6] (aCons (eVar 1) (aCons (eC .non) aNil)))
  (sSeq (sWhile (tTru (eC (.bl true)))
  (sSeq (sExpr (eMeth ("look" : Str) [(("PriceTable" : Str), 13)] (eVar 0) (aCons (eVar 5) (aCons (eVar 6) (aCons (eVar 4) (aCons (eVar 2) (aCons (eVar 3) aNil)))))))
  (sSeq (sAsg (.nm 7) (eCall 17 (aCons (eVar 2) (aCons (eVar 4) aNil))))
  (sSeq (sIf (tBl (eCmp cmpIsN (eVar 7) (eC .non)))
  (sSeq (sRet (eC (.bl false)))
  sNil)
  sNil)
  (sSeq (sExpr (eMeth ("lift" : Str) [(("PriceTable" : Str), 14)] (eVar 0) (aCons (eVar 1) (aCons (eVar 4) (aCons (eVar 2) (aCons (eIxF pyIx (eVar 2) (eVar 7)) aNil))))))
  (sSeq (sIf (tBl (eCmp cmpIsN (eIxF pyIx (eFld ("owners" : Str) [("PriceTable" : Str)] (eVar 0)) (eVar 7)) (eC .non)))
  (sSeq (sExpr (eMeth ("hand_on" : Str) [(("PriceTable" : Str), 15)] (eVar 0) (aCons (eVar 1) (aCons (eVar 7) (aCons (eVar 3) aNil)))))
  (sSeq (sRet (eC (.bl true)))
  sNil))
  sNil)
  (sSeq (sExpr (eM isL mAppend (eVar 4) (aCons (eVar 7) aNil)))
  (sSeq (sPar [5, 6] (aCons (eIxF pyIx (eFld ("owners" : Str) [("PriceTable" : Str)] (eVar 0)) (eVar 7)) (aCons (eVar 7) aNil)))
  sNil))))))))
  sNil)))))
/-- PriceTable.look(self, row, ahead, tree, rests, back); slots: self, row, ahead, tree, rests, back, column, rest -/
def f_PriceTable_look : Sx := (sSeq (sFor (iRange1 (aCons (eB bLen (aCons (eVar 4) aNil)) aNil)) (.nm 6)
  (sSeq (sAsg (.nm 7) (eMeth ("rest" : Str) [(("PriceTable" : Str), 11)] (eVar 0) (aCons (eVar 1) (aCons (eVar 6) aNil))))
  (sSeq (sIf (tOr (tBl (eCmp cmpIsN (eVar 7) (eC .non))) (tBl (eCmp pyIn (eVar 6) (eVar 3))))
  (sSeq sCont
  sNil)
  sNil)
  (sSeq (sIf (tOr (tBl (eCmp cmpIsN (eIxF pyIx (eVar 4) (eVar 6)) (eC .non))) (tBl (eCmp cmpLt (eVar 7) (eIxF pyIx (eVar 4) (eVar 6)))))
  (sSeq (sSub (eVar 4) (eVar 6) (eVar 7))
  (sSeq (sSub (eVar 5) (eVar 6) (eVar 2))
  sNil))
  sNil)
  sNil))))
  sNil)
/-- PriceTable.lift(self, row, tree, rests, step); slots: self, row, tree, rests, step, column -/
def f_PriceTable_lift : Sx := (sSeq (sAugS (eFld ("rows" : Str) [("PriceTable" : Str)] (eVar 0)) (eVar 1) opAddI (eVar 4))
  (sSeq (sFor (iVal (eVar 2)) (.nm 5)
  (sSeq (sAugS (eFld ("rows" : Str) [("PriceTable" : Str)] (eVar 0)) (eIxF pyIx (eFld ("owners" : Str) [("PriceTable" : Str)] (eVar 0)) (eVar 5)) opAddI (eVar 4))
  (sSeq (sAugS (eFld ("columns" : Str) [("PriceTable" : Str)] (eVar 0)) (eVar 5) opSub (eVar 4))
  sNil)))
  (sSeq (sFor (iRange1 (aCons (eB bLen (aCons (eVar 3) aNil)) aNil)) (.nm 5)
  (sSeq (sIf (tAnd (tBl (eCmp (pNot cmpIsN) (eIxF pyIx (eVar 3) (eVar 5)) (eC .non))) (tBl (eCmp (pNot pyIn) (eVar 5) (eVar 2))))
  (sSeq (sAugS (eVar 3) (eVar 5) opSub (eVar 4))
  sNil)
  sNil)
  sNil))
  sNil)))
/-- PriceTable.hand_on(self, row, column, back); slots: self, row, column, back -/
def f_PriceTable_hand_on : Sx := (sSeq (sWhile (tBl (eCmp (pNot cmpIsN) (eIxF pyIx (eVar 3) (eVar 2)) (eC .non)))
  (sSeq (sSub (eFld ("owners" : Str) [("PriceTable" : Str)] (eVar 0)) (eVar 2) (eIxF pyIx (eFld ("owners" : Str) [("PriceTable" : Str)] (eVar 0)) (eIxF pyIx (eVar 3) (eVar 2))))
  (sSeq (sAsg (.nm 2) (eIxF pyIx (eVar 3) (eVar 2)))
  sNil)))
  (sSeq (sSub (eFld ("owners" : Str) [("PriceTable" : Str)] (eVar 0)) (eVar 2) (eVar 1))
  sNil))
/-- PriceTable.tight(self); slots: self, wide, row, k -/
def f_PriceTable_tight : Sx := (sSeq (sAsg (.nm 1) (eB bRange (aCons (eB bLen (aCons (eFld ("columns" : Str) [("PriceTable" : Str)] (eVar 0)) aNil)) aNil)))
  (sSeq (sRet (eLc (iRange1 (aCons (eB bLen (aCons (eFld ("rows" : Str) [("PriceTable" : Str)] (eVar 0)) aNil)) aNil)) (.nm 2) tYes (eLc (iVal (eVar 1)) (.nm 3) (tBl (eCmp pyEq (eMeth ("rest" : Str) [(("PriceTable" : Str), 11)] (eVar 0) (aCons (eVar 2) (aCons (eVar 3) aNil))) (eC (.int (0))))) (eVar 3) [3]) [2]))
  sNil))
/-- nearest(rests, tree); slots: rests, tree, best, column -/
def f_nearest : Sx := (sSeq (sAsg (.nm 2) (eC .non))
  (sSeq (sFor (iRange1 (aCons (eB bLen (aCons (eVar 0) aNil)) aNil)) (.nm 3)
  (sSeq (sIf (tOr (tBl (eCmp cmpIsN (eIxF pyIx (eVar 0) (eVar 3)) (eC .non))) (tBl (eCmp pyIn (eVar 3) (eVar 1))))
  (sSeq sCont
  sNil)
  sNil)
  (sSeq (sIf (tOr (tBl (eCmp cmpIsN (eVar 2) (eC .non))) (tBl (eCmp cmpLt (eIxF pyIx (eVar 0) (eVar 3)) (eIxF pyIx (eVar 0) (eVar 2)))))
  (sSeq (sAsg (.nm 2) (eVar 3))
  sNil)
  sNil)
  sNil)))
  (sSeq (sRet (eVar 2))
  sNil)))
/-- priced(costs); slots: costs, table, row -/
def f_priced : Sx := (sSeq (sAsg (.nm 1) (eMake ("PriceTable" : Str) 10 (aCons (eVar 0) aNil)))
  (sSeq (sFor (iRange1 (aCons (eB bLen (aCons (eVar 0) aNil)) aNil)) (.nm 2)
  (sSeq (sIf (tNot (tTru (eMeth ("enter" : Str) [(("PriceTable" : Str), 12)] (eVar 1) (aCons (eVar 2) aNil))))
  (sSeq (sRet (eC .non))
  sNil)
  sNil)
  sNil))
  (sSeq (sRet (eVar 1))
  sNil)))
/-- can_end(tight, needed, row, free); slots: tight, needed, row, free, rows, wants, asked, k, column -/
def f_can_end : Sx := (sSeq (sAsg (.nm 4) (eB bRange (aCons (eVar 2) (aCons (eB bLen (aCons (eVar 0) aNil)) aNil))))
  (sSeq (sAsg (.nm 5) (eLc (iVal (eVar 4)) (.nm 7) tYes (eLc (iVal (eIxF pyIx (eVar 0) (eVar 7))) (.nm 8) (tBl (eCmp pyIn (eVar 8) (eVar 3))) (eVar 8) [8]) [7]))
  (sSeq (sAsg (.nm 6) (eLc (iVal (eVar 1)) (.nm 8) (tBl (eCmp pyIn (eVar 8) (eVar 3))) (eLc (iVal (eVar 4)) (.nm 7) (tBl (eCmp pyIn (eVar 8) (eIxF pyIx (eVar 0) (eVar 7)))) (eVar 7) [7]) [8]))
  (sSeq (sRet (eAnd (eCall 5 (aCons (eVar 5) aNil)) (eCall 5 (aCons (eVar 6) aNil))))
  sNil))))
/-- first_least(table); slots: table, tight, free, column, needed, chosen, row, left, k -/
def f_first_least : Sx := (sSeq (sAsg (.nm 1) (eMeth ("tight" : Str) [(("PriceTable" : Str), 16)] (eVar 0) aNil))
  (sSeq (sAsg (.nm 2) (eB bList (aCons (eB bRange (aCons (eB bLen (aCons (eFld ("columns" : Str) [("PriceTable" : Str)] (eVar 0)) aNil)) aNil)) aNil)))
  (sSeq (sAsg (.nm 4) (eLc (iVal (eVar 2)) (.nm 3) (tBl (eCmp cmpLt (eIxF pyIx (eFld ("columns" : Str) [("PriceTable" : Str)] (eVar 0)) (eVar 3)) (eC (.int (0))))) (eVar 3) [3]))
  (sSeq (sAsg (.nm 5) (eLst aNil))
  (sSeq (sFor (iRange1 (aCons (eB bLen (aCons (eVar 1) aNil)) aNil)) (.nm 6)
  (sSeq (sFor (iVal (eIxF pyIx (eVar 1) (eVar 6))) (.nm 3)
  (sSeq (sAsg (.nm 7) (eLc (iVal (eVar 2)) (.nm 8) (tBl (eCmp (pNot pyEq) (eVar 8) (eVar 3))) (eVar 8) [8]))
  (sSeq (sIf (tAnd (tBl (eCmp pyIn (eVar 3) (eVar 2))) (tTru (eCall 19 (aCons (eVar 1) (aCons (eVar 4) (aCons (eBin opAdd (eVar 6) (eC (.int (1)))) (aCons (eVar 7) aNil)))))))
  (sSeq (sExpr (eM isL mAppend (eVar 5) (aCons (eVar 3) aNil)))
  (sSeq (sAsg (.nm 2) (eVar 7))
  (sSeq sBreak
  sNil)))
  sNil)
  sNil)))
  sNil))
  (sSeq (sRet (eB bTuple (aCons (eVar 5) aNil)))
  sNil))))))
/-- BadValue.__init__(self, at); slots: self, at -/
def f_BadValue___init__ : Sx := (sSeq sBad
  sNil)
/-- BadText.__init__(self, at); slots: self, at -/
def f_BadText___init__ : Sx := (sSeq sBad
  sNil)
/-- Unknown.__init__(self, name); slots: self, name -/
def f_Unknown___init__ : Sx := (sSeq sBad
  sNil)
/-- NoChance.__init__(self, word); slots: self, word -/
def f_NoChance___init__ : Sx := (sSeq sBad
  sNil)
/-- Crowded.__init__(self, first, last); slots: self, first, last -/
def f_Crowded___init__ : Sx := (sSeq sBad
  (sSeq sBad
  sNil))
/-- NoDay.__init__(self, name); slots: self, name -/
def f_NoDay___init__ : Sx := (sSeq sBad
  sNil)
/-- Missing.__init__(self, at); slots: self, at -/
def f_Missing___init__ : Sx := (sSeq sBad
  sNil)
/-- TakenName.__init__(self, name); slots: self, name -/
def f_TakenName___init__ : Sx := (sSeq sBad
  sNil)
/-- Short.__init__(self, rows); slots: self, rows -/
def f_Short___init__ : Sx := (sSeq (sFld [("PriceTable" : Str)] (eVar 0) ("rows" : Str) (eVar 1))
  sNil)
/-- is_costs(costs); slots: costs, row, cost -/
def f_is_costs : Sx := (sSeq (sIf (tNot (tTru (eCall 3 (aCons (eVar 0) (aCons (eC (.int (1))) (aCons (eC (.int (6))) aNil))))))
  (sSeq (sRet (eC (.bl false)))
  sNil)
  sNil)
  (sSeq (sFor (iVal (eVar 0)) (.nm 1)
  (sSeq (sIf (tOr (tNot (tTru (eCall 3 (aCons (eVar 1) (aCons (eB bLen (aCons (eVar 0) aNil)) (aCons (eC (.int (6))) aNil)))))) (tBl (eCmp (pNot pyEq) (eB bLen (aCons (eVar 1) aNil)) (eB bLen (aCons (eIxF pyIx (eVar 0) (eC (.int (0)))) aNil)))))
  (sSeq (sRet (eC (.bl false)))
  sNil)
  sNil)
  (sSeq (sIf (tNot (tTru (eB bAll (aCons (eLc (iVal (eVar 1)) (.nm 2) tYes (eOr (eCmp cmpIsN (eVar 2) (eC .non)) (eCall 1 (aCons (eVar 2) (aCons (eC (.int (0))) (aCons (eC (.int (100))) aNil))))) [2]) aNil))))
  (sSeq (sRet (eC (.bl false)))
  sNil)
  sNil)
  sNil)))
  (sSeq (sRet (eC (.bl true)))
  sNil)))
/-- is_integers(row); slots: row, x -/
def f_is_integers : Sx := (sSeq (sRet (eAnd (eCall 2 (aCons (eVar 0) aNil)) (eB bAll (aCons (eLc (iVal (eVar 0)) (.nm 1) tYes (eCall 0 (aCons (eVar 1) aNil)) [1]) aNil))))
  sNil)
/-- table_of(costs); slots: costs, table, wide, row, k -/
def f_table_of : Sx := (sSeq (sIf (tNot (tTru (eCall 30 (aCons (eVar 0) aNil))))
  (sSeq (sRaise ("BadValue" : Str) (eC (.int (0))))
  sNil)
  sNil)
  (sSeq (sAsg (.nm 1) (eCall 18 (aCons (eVar 0) aNil)))
  (sSeq (sIf (tBl (eCmp cmpIsN (eVar 1) (eC .non)))
  (sSeq (sAsg (.nm 2) (eB bRange (aCons (eB bLen (aCons (eIxF pyIx (eVar 0) (eC (.int (0)))) aNil)) aNil)))
  (sSeq (sRaise ("Short" : Str) (eCall 9 (aCons (eLc (iVal (eVar 0)) (.nm 3) tYes (eLc (iVal (eVar 2)) (.nm 4) (tBl (eCmp (pNot cmpIsN) (eIxF pyIx (eVar 3) (eVar 4)) (eC .non))) (eVar 4) [4]) [3]) aNil)))
  sNil))
  sNil)
  (sSeq (sRet (eVar 1))
  sNil))))
/-- assign(costs); slots: costs, table, columns, row, column -/
def f_assign : Sx := (sSeq (sAsg (.nm 1) (eCall 32 (aCons (eVar 0) aNil)))
  (sSeq (sAsg (.nm 2) (eCall 20 (aCons (eVar 1) aNil)))
  (sSeq (sRet (eTup (aCons (eB bSum (aCons (eLc (iZip (eVar 0) (eVar 2)) (.tp [3, 4]) tYes (eIxF pyIx (eVar 3) (eVar 4)) [3, 4]) aNil)) (aCons (eVar 2) aNil))))
  sNil)))
/-- prices(costs); slots: costs, table -/
def f_prices : Sx := (sSeq (sAsg (.nm 1) (eCall 32 (aCons (eVar 0) aNil)))
  (sSeq (sRet (eTup (aCons (eB bTuple (aCons (eFld ("rows" : Str) [("PriceTable" : Str)] (eVar 1)) aNil)) (aCons (eB bTuple (aCons (eFld ("columns" : Str) [("PriceTable" : Str)] (eVar 1)) aNil)) aNil))))
  sNil))
/-- is_assignment(costs, columns); slots: costs, columns, row, column -/
def f_is_assignment : Sx := (sSeq (sIf (tOr (tBl (eCmp (pNot pyEq) (eB bLen (aCons (eVar 1) aNil)) (eB bLen (aCons (eVar 0) aNil)))) (tNot (tTru (eCall 4 (aCons (eVar 1) aNil)))))
  (sSeq (sRet (eC (.bl false)))
  sNil)
  sNil)
  (sSeq (sFor (iZip (eVar 0) (eVar 1)) (.tp [2, 3])
  (sSeq (sIf (tOr (tNot (tTru (eCall 1 (aCons (eVar 3) (aCons (eC (.int (0))) (aCons (eBin opSub (eB bLen (aCons (eVar 2) aNil)) (eC (.int (1)))) aNil)))))) (tBl (eCmp cmpIsN (eIxF pyIx (eVar 2) (eVar 3)) (eC .non))))
  (sSeq (sRet (eC (.bl false)))
  sNil)
  sNil)
  sNil))
  (sSeq (sRet (eC (.bl true)))
  sNil)))
/-- are_below(costs, rows, columns); slots: costs, rows, columns, row, number, cost, other -/
def f_are_below : Sx := (sSeq (sFor (iZip (eVar 0) (eVar 1)) (.tp [3, 4])
  (sSeq (sFor (iZip (eVar 3) (eVar 2)) (.tp [5, 6])
  (sSeq (sIf (tAnd (tBl (eCmp (pNot cmpIsN) (eVar 5) (eC .non))) (tBl (eCmp cmpLt (eVar 5) (eBin opAdd (eVar 4) (eVar 6)))))
  (sSeq (sRet (eC (.bl false)))
  sNil)
  sNil)
  sNil))
  sNil))
  (sSeq (sRet (eC (.bl true)))
  sNil))
/-- are_met(costs, assignment, rows, columns); slots: costs, assignment, rows, columns, row, column, number -/
def f_are_met : Sx := (sSeq (sFor iBad (.tp [4, 5, 6])
  (sSeq (sIf (tBl (eCmp (pNot pyEq) (eIxF pyIx (eVar 4) (eVar 5)) (eBin opAdd (eVar 6) (eIxF pyIx (eVar 3) (eVar 5)))))
  (sSeq (sRet (eC (.bl false)))
  sNil)
  sNil)
  sNil))
  (sSeq (sRet (eC (.bl true)))
  sNil))
/-- are_fitting(assignment, columns); slots: assignment, columns, column, number -/
def f_are_fitting : Sx := (sSeq (sFor (iEnum (eVar 1)) (.tp [2, 3])
  (sSeq (sIf (tOr (tBl (eCmp (cmpI fun i j => decide (j < i)) (eVar 3) (eC (.int (0))))) (tAnd (tBl (eCmp cmpLt (eVar 3) (eC (.int (0))))) (tBl (eCmp (pNot pyIn) (eVar 2) (eVar 0)))))
  (sSeq (sRet (eC (.bl false)))
  sNil)
  sNil)
  sNil))
  (sSeq (sRet (eC (.bl true)))
  sNil))
/-- prices_prove(costs, assignment, rows, columns); slots: costs, assignment, rows, columns, at, row -/
def f_prices_prove : Sx := (sSeq (sIf (tNot (tTru (eCall 30 (aCons (eVar 0) aNil))))
  (sSeq (sRaise ("BadValue" : Str) (eC (.int (0))))
  sNil)
  sNil)
  (sSeq (sFor (iEnum (eTup (aCons (eVar 1) (aCons (eVar 2) (aCons (eVar 3) aNil))))) (.tp [4, 5])
  (sSeq (sIf (tNot (tTru (eCall 31 (aCons (eVar 5) aNil))))
  (sSeq (sRaise ("BadValue" : Str) (eBin opAdd (eVar 4) (eC (.int (1)))))
  sNil)
  sNil)
  sNil))
  (sSeq (sIf (tBl (eCmp (pNot pyEq) (eB bLen (aCons (eVar 2) aNil)) (eB bLen (aCons (eVar 0) aNil))))
  (sSeq (sRaise ("BadValue" : Str) (eC (.int (2))))
  sNil)
  sNil)
  (sSeq (sIf (tBl (eCmp (pNot pyEq) (eB bLen (aCons (eVar 3) aNil)) (eB bLen (aCons (eIxF pyIx (eVar 0) (eC (.int (0)))) aNil))))
  (sSeq (sRaise ("BadValue" : Str) (eC (.int (3))))
  sNil)
  sNil)
  (sSeq (sIf (tOr (tNot (tTru (eCall 35 (aCons (eVar 0) (aCons (eVar 1) aNil))))) (tNot (tTru (eCall 36 (aCons (eVar 0) (aCons (eVar 2) (aCons (eVar 3) aNil)))))))
  (sSeq (sRet (eC (.bl false)))
  sNil)
  sNil)
  (sSeq (sRet (eAnd (eCall 37 (aCons (eVar 0) (aCons (eVar 1) (aCons (eVar 2) (aCons (eVar 3) aNil))))) (eCall 38 (aCons (eVar 1) (aCons (eVar 3) aNil)))))
  sNil))))))
/-- _law_so(found, meant); slots: found, meant, k -/
def f__law_so : Sx := (sSeq (sIf (tBl (eCmp cmpIsN (eVar 1) (eC .non)))
  (sSeq (sRet (eCmp cmpIsN (eVar 0) (eC .non)))
  sNil)
  sNil)
  (sSeq (sIf (tTru (eIsi ["tuple"] (eVar 1)))
  (sSeq (sIf (tOr (tNot (tTru (eIsi ["tuple"] (eVar 0)))) (tBl (eCmp (pNot pyEq) (eB bLen (aCons (eVar 0) aNil)) (eB bLen (aCons (eVar 1) aNil)))))
  (sSeq (sRet (eC (.bl false)))
  sNil)
  sNil)
  (sSeq (sFor (iRange1 (aCons (eB bLen (aCons (eVar 1) aNil)) aNil)) (.nm 2)
  (sSeq (sIf (tNot (tTru (eCall 40 (aCons (eIxF pyIx (eVar 0) (eVar 2)) (aCons (eIxF pyIx (eVar 1) (eVar 2)) aNil)))))
  (sSeq (sRet (eC (.bl false)))
  sNil)
  sNil)
  sNil))
  (sSeq (sRet (eC (.bl true)))
  sNil)))
  sNil)
  (sSeq (sIf (tOr (tTru (eIsi ["bool"] (eVar 1))) (tTru (eIsi ["bool"] (eVar 0))))
  (sSeq (sRet (eAnd (eIsi ["bool"] (eVar 1)) (eAnd (eIsi ["bool"] (eVar 0)) (eCmp pyEq (eVar 0) (eVar 1)))))
  sNil)
  sNil)
  (sSeq (sIf (tTru (eIsi ["int"] (eVar 1)))
  (sSeq (sRet (eAnd (eIsi ["int"] (eVar 0)) (eCmp pyEq (eVar 0) (eVar 1))))
  sNil)
  sNil)
  (sSeq (sRet (eAnd (eIsi ["str"] (eVar 1)) (eAnd (eIsi ["str"] (eVar 0)) (eCmp pyEq (eVar 0) (eVar 1)))))
  sNil)))))
/-- _law_numbers(script); slots: script, row, cell, left, k, mixed -/
def f__law_numbers : Sx := (sSeq (sAsg (.nm 1) (eLst aNil))
  (sSeq (sFor (iVal (eSlice (eVar 0) pNone (pSome (eC (.int (63)))))) (.nm 2)
  (sSeq (sIf (tBl (eCmp (cmpI fun i j => decide (j ≤ i)) (eVar 2) (eBin opPow (eC (.int (10))) (eC (.int (18))))))
  (sSeq (sAsg (.nm 3) (eVar 2))
  (sSeq (sFor (iRange1 (aCons (eC (.int (60))) aNil)) (.nm 4)
  (sSeq (sIf (tBl (eCmp pyEq (eVar 3) (eC (.int (0)))))
  (sSeq sBreak
  sNil)
  sNil)
  (sSeq (sExpr (eM isL mAppend (eVar 1) (aCons (eBin opMod (eB bInt (aCons (eVar 3) aNil)) (eC (.int (997)))) aNil)))
  (sSeq (sAsg (.nm 3) (eBin opFdiv (eVar 3) (eC (.int (997)))))
  sNil))))
  sNil))
  (sSeq (sFor (iRange1 (aCons (eC (.int (4))) aNil)) (.nm 4)
  (sSeq (sAsg (.nm 5) (eBin opMod (eB bInt (aCons (eBin opAdd (eBin opAdd (eBin opMul (eVar 2) (eC (.int (48271)))) (eBin opMul (eVar 4) (eC (.int (69621))))) (eC (.int (11)))) aNil)) (eC (.int (2147483647)))))
  (sSeq (sExpr (eM isL mAppend (eVar 1) (aCons (eBin opMod (eB bInt (aCons (eBin opAdd (eBin opMul (eVar 5) (eC (.int (16807)))) (eVar 4)) aNil)) (eC (.int (2147483629)))) aNil)))
  sNil)))
  sNil))
  sNil))
  (sSeq (sIf (tBl (eCmp pyEq (eB bLen (aCons (eVar 1) aNil)) (eC (.int (0)))))
  (sSeq (sExpr (eM isL mAppend (eVar 1) (aCons (eC (.int (0))) aNil)))
  sNil)
  sNil)
  (sSeq (sRet (eVar 1))
  sNil))))
/-- _law_draw(row, at, limit); slots: row, at, limit, mixed -/
def f__law_draw : Sx := (sSeq (sIf (tBl (eCmp cmpLt (eVar 1) (eB bLen (aCons (eVar 0) aNil))))
  (sSeq (sRet (eBin opMod (eB bInt (aCons (eIxF pyIx (eVar 0) (eVar 1)) aNil)) (eVar 2)))
  sNil)
  sNil)
  (sSeq (sAsg (.nm 3) (eBin opMod (eB bInt (aCons (eBin opAdd (eBin opAdd (eBin opMul (eIxF pyIx (eVar 0) (eBin opMod (eB bInt (aCons (eVar 1) aNil)) (eB bLen (aCons (eVar 0) aNil)))) (eC (.int (40692)))) (eBin opMul (eVar 1) (eC (.int (7919))))) (eC (.int (3)))) aNil)) (eC (.int (2147483399)))))
  (sSeq (sRet (eBin opMod (eB bInt (aCons (eBin opMod (eB bInt (aCons (eBin opAdd (eBin opMul (eVar 3) (eC (.int (48271)))) (eVar 1)) aNil)) (eC (.int (2147483647)))) aNil)) (eVar 2)))
  sNil)))
/-- _law_take(row, spot, limit); slots: row, spot, limit -/
def f__law_take : Sx := (sSeq (sSub (eVar 1) (eC (.int (0))) (eBin opAdd (eIxF pyIx (eVar 1) (eC (.int (0)))) (eC (.int (1)))))
  (sSeq (sRet (eCall 42 (aCons (eVar 0) (aCons (eBin opSub (eIxF pyIx (eVar 1) (eC (.int (0)))) (eC (.int (1)))) (aCons (eVar 2) aNil)))))
  sNil))
/-- _law_pick(row, spot, things); slots: row, spot, things -/
def f__law_pick : Sx := (sSeq (sRet (eIxF pyIx (eVar 2) (eCall 43 (aCons (eVar 0) (aCons (eVar 1) (aCons (eB bLen (aCons (eVar 2) aNil)) aNil))))))
  sNil)
/-- _law_told(deed); slots: deed, why -/
def f__law_told : Sx := (sSeq sBad
  sNil)
/-- law(script); slots: script, row, spot, bad, good, k -/
def f_law : Sx := (sSeq (sAsg (.nm 1) (eCall 41 (aCons (eVar 0) aNil)))
  (sSeq (sAsg (.nm 2) (eLst (aCons (eC (.int (0))) aNil)))
  (sSeq (sAsg (.nm 4) (eTup (aCons (eTup (aCons (eC (.int (1))) (aCons (eC (.int (2))) aNil))) (aCons (eTup (aCons (eC (.int (1))) (aCons (eC .non) aNil))) aNil))))
  (sSeq (sAsg (.nm 3) (eCall 44 (aCons (eVar 1) (aCons (eVar 2) (aCons (eLst (aCons (eTup aNil) (aCons (eTup (aCons (eTup aNil) aNil)) (aCons (eTup (aCons (eTup (aCons (eC (.int (1))) (aCons (eC (.int (2))) aNil))) (aCons (eTup (aCons (eC (.int (1))) aNil)) aNil))) (aCons (eTup (aCons (eTup (aCons (eC (.int (1))) aNil)) (aCons (eTup (aCons (eC (.int (1))) aNil)) aNil))) (aCons (eTup (aCons (eTup (aCons (eC (.int (101))) aNil)) aNil)) (aCons (eTup (aCons (eTup (aCons (eNeg (eC (.int (1)))) aNil)) aNil)) (aCons (eTup (aCons (eTup (aCons (eC (.bl true)) aNil)) aNil)) (aCons (eTup (aCons (eC (.int (1))) (aCons (eC (.int (2))) aNil))) (aCons (eC .non) (aCons (eTup (aCons (eTup (aCons (eC (.str ("1" : Str))) aNil)) aNil)) (aCons (eTup (aCons (eB bTuple (aCons (eLc (iRange1 (aCons (eC (.int (7))) aNil)) (.nm 5) tYes (eC (.int (1))) [5]) aNil)) aNil)) (aCons (eB bTuple (aCons (eLc (iRange1 (aCons (eC (.int (7))) aNil)) (.nm 5) tYes (eTup (aCons (eC (.int (1))) (aCons (eC (.int (1))) (aCons (eC (.int (1))) (aCons (eC (.int (1))) (aCons (eC (.int (1))) (aCons (eC (.int (1))) aNil))))))) [5]) aNil)) aNil))))))))))))) aNil)))))
  (sSeq (sIf (tOr (tBl (eCmp (pNot pyEq) (eTold tellTab (eCall 33 (aCons (eVar 3) aNil))) (eTup (aCons (eC (.str ("BadValue" : Str))) (aCons (eC (.int (0))) aNil))))) (tBl (eCmp (pNot pyEq) (eTold tellTab (eCall 34 (aCons (eVar 3) aNil))) (eTup (aCons (eC (.str ("BadValue" : Str))) (aCons (eC (.int (0))) aNil))))))
  (sSeq (sRet (eC (.bl false)))
  sNil)
  sNil)
  (sSeq (sIf (tOr (tBl (eCmp (pNot pyEq) (eTold tellTab (eCall 39 (aCons (eVar 3) (aCons (eC .non) (aCons (eC (.int (1))) (aCons (eC (.int (1))) aNil)))))) (eTup (aCons (eC (.str ("BadValue" : Str))) (aCons (eC (.int (0))) aNil))))) (tBl (eCmp (pNot pyEq) (eTold tellTab (eCall 39 (aCons (eVar 4) (aCons (eC .non) (aCons (eTup (aCons (eC (.int (1))) (aCons (eC (.int (1))) aNil))) (aCons (eTup (aCons (eC (.int (0))) (aCons (eC (.int (0))) aNil))) aNil)))))) (eTup (aCons (eC (.str ("BadValue" : Str))) (aCons (eC (.int (1))) aNil))))))
  (sSeq (sRet (eC (.bl false)))
  sNil)
  sNil)
  (sSeq (sIf (tBl (eCmp (pNot pyEq) (eTold tellTab (eCall 39 (aCons (eVar 4) (aCons (eTup (aCons (eC (.int (1))) (aCons (eC (.str ("0" : Str))) aNil))) (aCons (eTup (aCons (eC (.int (1))) (aCons (eC (.int (1))) aNil))) (aCons (eTup (aCons (eC (.int (0))) (aCons (eC (.int (0))) aNil))) aNil)))))) (eTup (aCons (eC (.str ("BadValue" : Str))) (aCons (eC (.int (1))) aNil)))))
  (sSeq (sRet (eC (.bl false)))
  sNil)
  sNil)
  (sSeq (sIf (tBl (eCmp (pNot pyEq) (eTold tellTab (eCall 39 (aCons (eVar 4) (aCons (eTup (aCons (eC (.int (1))) (aCons (eC (.int (0))) aNil))) (aCons (eTup (aCons (eC (.int (1))) aNil)) (aCons (eTup (aCons (eC (.int (0))) (aCons (eC (.int (0))) aNil))) aNil)))))) (eTup (aCons (eC (.str ("BadValue" : Str))) (aCons (eC (.int (2))) aNil)))))
  (sSeq (sRet (eC (.bl false)))
  sNil)
  sNil)
  (sSeq (sIf (tBl (eCmp (pNot pyEq) (eTold tellTab (eCall 39 (aCons (eVar 4) (aCons (eTup (aCons (eC (.int (1))) (aCons (eC (.int (0))) aNil))) (aCons (eTup (aCons (eC (.int (1))) (aCons (eC (.bl true)) aNil))) (aCons (eTup (aCons (eC (.int (0))) (aCons (eC (.int (0))) aNil))) aNil)))))) (eTup (aCons (eC (.str ("BadValue" : Str))) (aCons (eC (.int (2))) aNil)))))
  (sSeq (sRet (eC (.bl false)))
  sNil)
  sNil)
  (sSeq (sIf (tBl (eCmp (pNot pyEq) (eTold tellTab (eCall 39 (aCons (eVar 4) (aCons (eTup (aCons (eC (.int (1))) (aCons (eC (.int (0))) aNil))) (aCons (eTup (aCons (eC (.int (1))) (aCons (eC (.int (1))) aNil))) (aCons (eTup (aCons (eC (.int (0))) aNil)) aNil)))))) (eTup (aCons (eC (.str ("BadValue" : Str))) (aCons (eC (.int (3))) aNil)))))
  (sSeq (sRet (eC (.bl false)))
  sNil)
  sNil)
  (sSeq (sIf (tBl (eCmp (pNot pyEq) (eTold tellTab (eCall 39 (aCons (eVar 4) (aCons (eTup (aCons (eC (.int (1))) (aCons (eC (.int (0))) aNil))) (aCons (eTup (aCons (eC (.int (1))) (aCons (eC (.int (1))) aNil))) (aCons (eC (.int (0))) aNil)))))) (eTup (aCons (eC (.str ("BadValue" : Str))) (aCons (eC (.int (3))) aNil)))))
  (sSeq (sRet (eC (.bl false)))
  sNil)
  sNil)
  (sSeq (sRet (eAnd (eCall 40 (aCons (eCall 33 (aCons (eVar 4) aNil)) (aCons (eTup (aCons (eC (.int (3))) (aCons (eTup (aCons (eC (.int (1))) (aCons (eC (.int (0))) aNil))) aNil))) aNil))) (eAnd (eCall 40 (aCons (eCall 39 (aCons (eVar 4) (aCons (eTup aNil) (aCons (eTup (aCons (eC (.int (1))) (aCons (eC (.int (1))) aNil))) (aCons (eTup (aCons (eC (.int (0))) (aCons (eC (.int (0))) aNil))) aNil))))) (aCons (eC (.bl false)) aNil))) (eCall 40 (aCons (eCall 33 (aCons (eLst (aCons (eLst (aCons (eC (.int (100))) aNil)) aNil)) aNil)) (aCons (eTup (aCons (eC (.int (100))) (aCons (eTup (aCons (eC (.int (0))) aNil)) aNil))) aNil))))))
  sNil))))))))))))
def fs : List Fn := [⟨1, 1, f_is_integer⟩,
  ⟨3, 3, f_is_within⟩,
  ⟨1, 1, f_is_sequence⟩,
  ⟨3, 3, f_is_row⟩,
  ⟨1, 3, f_all_different⟩,
  ⟨1, 4, f_all_served⟩,
  ⟨4, 8, f_serve⟩,
  ⟨4, 6, f_move⟩,
  ⟨2, 4, f_places_of⟩,
  ⟨1, 4, f_fewest_short⟩,
  ⟨2, 2, f_PriceTable___init__⟩,
  ⟨3, 4, f_PriceTable_rest⟩,
  ⟨2, 8, f_PriceTable_enter⟩,
  ⟨6, 8, f_PriceTable_look⟩,
  ⟨5, 6, f_PriceTable_lift⟩,
  ⟨4, 4, f_PriceTable_hand_on⟩,
  ⟨1, 4, f_PriceTable_tight⟩,
  ⟨2, 4, f_nearest⟩,
  ⟨1, 3, f_priced⟩,
  ⟨4, 9, f_can_end⟩,
  ⟨1, 9, f_first_least⟩,
  ⟨2, 2, f_BadValue___init__⟩,
  ⟨2, 2, f_BadText___init__⟩,
  ⟨2, 2, f_Unknown___init__⟩,
  ⟨2, 2, f_NoChance___init__⟩,
  ⟨3, 3, f_Crowded___init__⟩,
  ⟨2, 2, f_NoDay___init__⟩,
  ⟨2, 2, f_Missing___init__⟩,
  ⟨2, 2, f_TakenName___init__⟩,
  ⟨2, 2, f_Short___init__⟩,
  ⟨1, 3, f_is_costs⟩,
  ⟨1, 2, f_is_integers⟩,
  ⟨1, 5, f_table_of⟩,
  ⟨1, 5, f_assign⟩,
  ⟨1, 2, f_prices⟩,
  ⟨2, 4, f_is_assignment⟩,
  ⟨3, 7, f_are_below⟩,
  ⟨4, 7, f_are_met⟩,
  ⟨2, 4, f_are_fitting⟩,
  ⟨4, 6, f_prices_prove⟩,
  ⟨2, 3, f__law_so⟩,
  ⟨1, 6, f__law_numbers⟩,
  ⟨3, 4, f__law_draw⟩,
  ⟨3, 3, f__law_take⟩,
  ⟨3, 3, f__law_pick⟩,
  ⟨1, 2, f__law_told⟩,
  ⟨1, 6, f_law⟩]

set_option maxHeartbeats 0 in
theorem fs_eq : fnsOf T 40 40 dfs = fs := by kernel_rfl
def ob1 (ns : List Int) : Ob := .lst (ns.map .int)
def show1 (o : Out Val) : String := match o with
  | .ok (.bl b) _ => s!"ok {b}"
  | .ok _ _ => "ok other"
  | .exc c _ _ => s!"exc {c.toString}"
  | .bad => "bad"
end K68

end

section
set_option maxRecDepth 100000
set_option maxHeartbeats 0
namespace K68
open Ev PySem
def yes (o : SO) : Bool := match o with
  | .rt (.bl true) _ => true
  | _ => false
theorem yes_out {o : SO} (h : yes o = true) : ∃ h', o.out = .ok (.bl true) h' := by
  cases o with
  | rt v h2 =>
    cases v with
    | bl b => cases b with
      | true => exact ⟨h2, rfl⟩
      | false => cases h
    | _ => cases h
  | _ => cases h
theorem seq_asg {g : Tg} {e : Ex} {b : Sx} {cf : Cf} {σ : St} {h : AH} {v : Val} {h1 : AH} {σ1 : St} (he : e cf σ h = .ok v h1) (hp : g.put v σ h1 = some σ1) : sSeq (sAsg g e) b cf σ h = b cf σ1 h1 := by
  unfold sSeq sAsg
  rw [he]
  show SO.then (match g.put v σ h1 with | some σ1 => SO.nx σ1 h1 | none => .bad) _ = _
  rw [hp]
  rfl
def things : List Val := [.tup [], .tup [.tup []], .tup [.tup [.int 1, .int 2], .tup [.int 1]], .tup [.tup [.int 1], .tup [.int 1]], .tup [.tup [.int 101]], .tup [.tup [.int (-1)]], .tup [.tup [.bl true]], .tup [.int 1, .int 2], .non, .tup [.tup [.str ("1" : Str)]], .tup [.tup [.int 1, .int 1, .int 1, .int 1, .int 1, .int 1, .int 1]], .tup (List.replicate 7 (.tup [.int 1, .int 1, .int 1, .int 1, .int 1, .int 1]))]
theorem call_eq {i : Nat} {r : Ax} {cf : Cf} {σ : St} {h h1 : AH} {xs : List Val} {o : Out Val} (hr : r cf σ h = .ok xs h1) (hc : cf i xs h1 = o) : eCall i r cf σ h = o := by
  unfold eCall
  rw [hr]
  exact hc
abbrev good : Val := .tup [.tup [.int 1, .int 2], .tup [.int 1, .non]]
theorem run_at {fs : List Fn} {d i np nn : Nat} {b : Sx} {vs : List Val} {h : AH} (e : fs[i]? = some ⟨np, nn, b⟩) (q : vs.length = np) : Ev.run fs (d + 1) i vs h = (b (Ev.run fs d) (Ev.start nn vs) h).out := by
  show (match fs[i]? with | some f => if vs.length = f.np then (f.body (Ev.run fs d) (Ev.start f.nn vs) h).out else .bad | none => .bad) = _
  rw [e]
  show (if vs.length = np then _ else _) = _
  rw [if_pos q]
theorem at41 : fs[41]? = some ⟨1, 6, lwNumbers⟩ := rfl
theorem at42 : fs[42]? = some ⟨3, 4, lwDraw⟩ := rfl
theorem at43 : fs[43]? = some ⟨3, 3, lwTake 42⟩ := rfl
theorem at44 : fs[44]? = some ⟨3, 3, lwPick 43⟩ := rfl
abbrev hp (o a b : Ob) (k : Int) : AH := [o, a, b, .lst [.int k], .lst (List.replicate 7 (.int 1)), .lst (List.replicate 7 (.tup [.int 1, .int 1, .int 1, .int 1, .int 1, .int 1])), .lst things]
theorem law_ok {o : Ob} {ns : List Int} (hl : ns.length ≤ 63) (ho : o = .lst (ns.map .int) ∨ o = .fro (ns.map .int)) : ∃ h', (f_law (Ev.run fs 20) [some (.ref 0), none, none, none, none, none] [o]).out = .ok (.bl true) h' := by
  obtain ⟨row, e1, hr, _, _⟩ := numbers_ok (cf := Ev.run fs 19) hl ho
  have e1 : Ev.run fs 20 41 [.ref 0] [o] = .ok (.ref 1) (Row0 o row ns) := (run_at at41 rfl).trans e1
  have s1 : eCall 41 (aCons (eVar 0) aNil) (Ev.run fs 20) [some (.ref 0), none, none, none, none, none] [o] = .ok (.ref 1) (Row0 o row ns) := call_eq (xs := [.ref 0]) (h1 := [o]) (by kernel_rfl) e1
  unfold f_law
  rw [seq_asg (g := .nm 1) (σ1 := [some (.ref 0), some (.ref 1), none, none, none, none]) s1 rfl]
  rw [seq_asg (g := .nm 2) (v := .ref 3) (h1 := [o, .lst (row.map .int), .lst (ns.map .int), .lst [.int 0]]) (σ1 := [some (.ref 0), some (.ref 1), some (.ref 3), none, none, none]) (by kernel_rfl) rfl]
  rw [seq_asg (g := .nm 4) (v := good) (h1 := [o, .lst (row.map .int), .lst (ns.map .int), .lst [.int 0]]) (σ1 := [some (.ref 0), some (.ref 1), some (.ref 3), none, some good, none]) (by kernel_rfl) rfl]
  obtain ⟨d, v, e2, e3⟩ := pick_ok (cf := Ev.run fs 19) (cf2 := Ev.run fs 18) (cf3 := Ev.run fs 17) (h := hp o (.lst (row.map .int)) (.lst (ns.map .int)) 0) (r := 1) (sp := 3) (t := 6) (i := 43) (j := 42) (row := row) (k := 0) (xs := things) (fun vs h q => run_at at43 q) (fun vs h q => run_at at42 q) rfl hr rfl rfl (by decide) (by decide) (by decide) (by unfold things; exact List.cons_ne_nil _ _)
  have e3 : Ev.run fs 20 44 [.ref 1, .ref 3, .ref 6] (hp o (.lst (row.map .int)) (.lst (ns.map .int)) 0) = .ok v (hp o (.lst (row.map .int)) (.lst (ns.map .int)) 1) := (run_at at44 rfl).trans e3
  generalize Ob.lst (row.map .int) = a at *
  generalize Ob.lst (ns.map .int) = b at *
  rw [seq_asg (g := .nm 3) (v := v) (h1 := hp o a b 1) (σ1 := [some (.ref 0), some (.ref 1), some (.ref 3), some v, some good, none]) (call_eq (xs := [.ref 1, .ref 3, .ref 6]) (h1 := hp o a b 0) (by kernel_rfl) e3) rfl]
  have hd : d < 12 := (List.getElem?_eq_some_iff.mp e2).1
  have hv : v = things.getD d .non := by rw [List.getD_eq_getElem?_getD, e2]; rfl
  subst hv
  clear e2 e3 s1 e1 hr hl ho
  have hd : d = 0 ∨ d = 1 ∨ d = 2 ∨ d = 3 ∨ d = 4 ∨ d = 5 ∨ d = 6 ∨ d = 7 ∨ d = 8 ∨ d = 9 ∨ d = 10 ∨ d = 11 := by omega
  rcases hd with rfl | rfl | rfl | rfl | rfl | rfl | rfl | rfl | rfl | rfl | rfl | rfl
  all_goals exact yes_out (by kernel_rfl)
end K68

end

section
set_option maxRecDepth 100000
set_option maxHeartbeats 0
namespace K68
open Ev PySem PySem.Spec PyProof.Rows L2
abbrev R : PySem.W.OpenRow := PySem.W.OpenLaw.row PySem.Challenge.rw_mendplan_k68_refusals_of_assignments
def lawPlace : Nat := P.main.body.findIdx fun st => match st with
  | .FunctionDef name _ _ _ _ _ _ _ _ _ => name == "law"
  | _ => false
def names : List Str := (P.main.scope.names.map (·.1)).filter fun x => !(x == ("__name__" : Str)) && !(x == ("law" : Str))
abbrev hk : PySem.W.Hook := hookL 5 (dfs.map (·.d)) [lawAt] (exL T L)
def ob (s : PySem.W.SharedT) : He.AlX := obsL 5 (dfs.map (·.d)) [lawAt] (exL T L) (HandSHeadRun.getT s)
theorem ob_eq (s : PySem.W.SharedT) : ob s = hk.obs s.abs := obsL_eq (HandSHeadRun.getT_eq s)
end K68

end

section
set_option maxRecDepth 100000
set_option maxHeartbeats 0
namespace K68
open Ev PySem PySem.Spec PyProof.Rows L2
theorem run (w : World) : HandSHeadRun.RunEq R (PySem.W.view R.prog [49]) hk ob 20000 names w := by
  intro os
  kernel_rfl
end K68

end

section
set_option maxRecDepth 100000
set_option maxHeartbeats 0
namespace K68
open Ev PySem PySem.Spec PyProof.Rows L2 LamX
theorem fLaw : ∃ f, t.dfs[t.iL]? = some f := by
  have : (t.dfs[t.iL]?).isSome = true := by decide +kernel
  exact Option.isSome_iff_exists.mp this
def fl : Df := (t.dfs[t.iL]?).getD ⟨⟨("", none), "", "", ⟨[], [], none, [], [], none, []⟩, [], ⟨.function, [], false, false, []⟩, [], []⟩, [], false⟩
theorem fl_at : t.dfs[t.iL]? = some fl := by
  obtain ⟨f, e⟩ := fLaw
  unfold fl
  rw [e]
  rfl
theorem plain : ∀ ns : List Int, ns.length ≤ 63 → (∀ z ∈ ns, Builtin.Int.intBits z ≤ 1048576) → ∀ o, (o = Ob.lst (ns.map .int) ∨ o = Ob.fro (ns.map .int)) → ∃ h', lawOut t 40 40 20 fl [.ref 0] [o] = .ok (.bl true) h' := by
  intro ns hl _ o ho
  obtain ⟨h', e⟩ := law_ok hl ho
  refine ⟨h', ?_⟩
  have e1 : fl.body t.T 40 40 = f_law := by kernel_rfl
  have e2 : fl.N.length = 6 := by kernel_rfl
  have e3 : fnsOf t.T 40 40 t.dfs = fs := fs_eq
  unfold lawOut
  rw [if_pos (show ([Val.ref 0] : List Val).length = 1 from rfl), e1, e2, e3]
  exact e
end K68
open PySem PySem.W PySem.Calls PyProof.Rows
theorem PySem.Challenge.cw_mendplan_k68_refusals_of_assignments_holds : PySem.Challenge.rw_mendplan_k68_refusals_of_assignments.Holds := by
  w_on; o_law
  refine HandSHeadRun.head_any (r := OpenLaw.row PySem.Challenge.rw_mendplan_k68_refusals_of_assignments) (q := view (OpenLaw.row PySem.Challenge.rw_mendplan_k68_refusals_of_assignments).prog [49]) (H := K68.hk) (ob := K68.ob) (M := 20000) (loose := K68.names) (d := HandSHeadRun.topDef (OpenLaw.row PySem.Challenge.rw_mendplan_k68_refusals_of_assignments).prog 49) (kwd := []) K68.ob_eq
    (by kernel_rfl) (fun s => by kernel_rfl) K68.run (by kernel_rfl) (by kernel_rfl) (by kernel_rfl) (by rfl) (by first | assumption | decide +kernel) (by decide +kernel) ⟨rfl, rfl, rfl, rfl, rfl, by decide +kernel⟩ ?hw ?hc
  case hw => w_witness2
  case hc =>
    refine LamX.walk_ofTsE (l := PySem.Challenge.rw_mendplan_k68_refusals_of_assignments) (n := 63) (k := 4 * 20 + 4) (x := "script") (CX := fun w => L2.CX (PySem.Challenge.rw_mendplan_k68_refusals_of_assignments).prog w) rfl (by decide) (by kernel_rfl) ⟨rfl, by decide, by decide⟩ ?F (fun w H s e s' z => Ev.cx_none z)
    intro w mg fa h Y G hmg0
    have hmg : mg ("law" : PySem.Str) = some (.ref fa) := by
      have e : (HandSHeadRun.topDef (OpenLaw.row PySem.Challenge.rw_mendplan_k68_refusals_of_assignments).prog 49).name = ("law" : PySem.Str) := by kernel_rfl
      rw [← e]
      exact hmg0
    exact Ev.law_at (t := K68.t) (m := 40) (n := 40) (D := 20) K68.ok K68.fl_at K68.plain Y G hmg

end
