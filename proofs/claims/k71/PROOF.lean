import PyProof.Rows.All
import Wide.All
import OpenK.AllK
import Wide.FinOn
import HandS.ForMost
import HandS.ForExc
import KE.KSortTupAny
import HandS.Wide
import HandS.IsInst
import HandS.TupAny
import HandS.DeepEq
import PyProof.NeKinds
import KE.KEqNest
import HandS.Dict
import HandS.TupMul
import HandS.TupLe
import PyProof.StrBlock2
import HandS.Small
import HandS.SortInts
import HandS.RaiseMore
import HandS.Finally
import HandS.Conv
import HandS.More
import HandS.SortRule
import HandS.DictTup
import KE.KDictSum
import HandS.TupLen
import HandS.NoneIn
import HandS.Remove
import HandS.SetFor
import HandS.StrMore
import HandS.Flow
import HandS.ExcIs
import HandS.ExcOwn
import HandS.Strs
import HandS.Rev
import HandS.Zip
import HandS.Iter
import PyProof.EnumMake
import PyProof.Draws
import HandS.HeadHook4
import HandS.Head2
import HandS.HeadEnd
import HandS.WordsExc
import PySem.Challenge.RW_outlast_k71_each_order_once
set_option Elab.async false
set_option linter.all false
set_option maxRecDepth 100000
/-! A small evaluator: values, objects, expressions, statements; a store by places. -/
namespace Ov
open PySem

inductive Val where
  | non | bl (b : Bool) | int (i : Int) | str (x : Str) | loc (l : Nat) | tup (vs : List Val) | ktp (vs : List Val)

mutual
def Val.dec : (a b : Val) → Decidable (a = b)
  | .non, .non => Decidable.isTrue rfl
  | .bl a, .bl b => if h : a = b then Decidable.isTrue (by rw [h]) else isFalse (fun e => h (Val.bl.inj e))
  | .int a, .int b => if h : a = b then Decidable.isTrue (by rw [h]) else isFalse (fun e => h (Val.int.inj e))
  | .str a, .str b => if h : a = b then Decidable.isTrue (by rw [h]) else isFalse (fun e => h (Val.str.inj e))
  | .loc a, .loc b => if h : a = b then Decidable.isTrue (by rw [h]) else isFalse (fun e => h (Val.loc.inj e))
  | .tup a, .tup b => match Val.decs a b with
    | Decidable.isTrue h => Decidable.isTrue (by rw [h])
    | isFalse h => isFalse (fun e => h (Val.tup.inj e))
  | .ktp a, .ktp b => match Val.decs a b with
    | Decidable.isTrue h => Decidable.isTrue (by rw [h])
    | isFalse h => isFalse (fun e => h (Val.ktp.inj e))
  | .ktp _, .non | .ktp _, .bl _ | .ktp _, .int _ | .ktp _, .str _ | .ktp _, .loc _ | .ktp _, .tup _ => isFalse nofun
  | .non, .ktp _ | .bl _, .ktp _ | .int _, .ktp _ | .str _, .ktp _ | .loc _, .ktp _ | .tup _, .ktp _ => isFalse nofun
  | .non, .bl _ | .non, .int _ | .non, .str _ | .non, .loc _ | .non, .tup _ => isFalse nofun
  | .bl _, .non | .bl _, .int _ | .bl _, .str _ | .bl _, .loc _ | .bl _, .tup _ => isFalse nofun
  | .int _, .non | .int _, .bl _ | .int _, .str _ | .int _, .loc _ | .int _, .tup _ => isFalse nofun
  | .str _, .non | .str _, .bl _ | .str _, .int _ | .str _, .loc _ | .str _, .tup _ => isFalse nofun
  | .loc _, .non | .loc _, .bl _ | .loc _, .int _ | .loc _, .str _ | .loc _, .tup _ => isFalse nofun
  | .tup _, .non | .tup _, .bl _ | .tup _, .int _ | .tup _, .str _ | .tup _, .loc _ => isFalse nofun
def Val.decs : (a b : List Val) → Decidable (a = b)
  | [], [] => Decidable.isTrue rfl
  | [], _ :: _ => isFalse nofun
  | _ :: _, [] => isFalse nofun
  | x :: xs, y :: ys => match Val.dec x y, Val.decs xs ys with
    | Decidable.isTrue h, Decidable.isTrue k => Decidable.isTrue (by rw [h, k])
    | isFalse h, _ => isFalse (fun e => h (List.cons.inj e).1)
    | _, isFalse k => isFalse (fun e => k (List.cons.inj e).2)
end
instance : DecidableEq Val := Val.dec

/-- objects that may change: lists (rol: read only), dicts (t: keys are tuples; rod: walked just now), instances -/
inductive Ob where
  | lst (vs : List Val) | rol (vs : List Val)
  | dic (t : Bool) (kvs : List (Val × Val)) | rod (t : Bool) (kvs : List (Val × Val))
  | ins (c : Nat) (fs : List (Nat × Val))
  deriving DecidableEq

abbrev Store := List Ob
abbrev lim : Nat := 16777216
abbrev Env := List (Option Val)
def sget (s : Store) (l : Nat) : Option Ob := s[l]?
def sput (s : Store) (l : Nat) (o : Ob) : Store := s.set l o
def snew (s : Store) (o : Ob) : Store := s ++ [o]
def slen (s : Store) : Nat := s.length
/-- a name's value -/
def eget : Env → Nat → Option Val
  | [], _ => none
  | x :: _, 0 => x
  | _ :: r, n + 1 => eget r n
def eset : Env → Nat → Option Val → Env
  | [], _, _ => []
  | _ :: r, 0, v => v :: r
  | x :: r, n + 1, v => x :: eset r n v
/-- an exception: its class's number, its fields -/
structure Exc where
  c : Nat
  fs : List (Nat × Val)

inductive R (α : Type) where
  | ok (a : α) (s : Store) | exc (x : Exc) (s : Store) | bad
def R.bind {α β : Type} : R α → (α → Store → R β) → R β
  | .ok a s, f => f a s
  | .exc x s, _ => .exc x s
  | .bad, _ => .bad
@[simp] theorem R.bind_ok {α β : Type} (a : α) (s : Store) (f : α → Store → R β) : (R.ok a s).bind f = f a s := (rfl)
@[simp] theorem R.bind_exc {α β : Type} (x : Exc) (s : Store) (f : α → Store → R β) : (R.exc x s : R α).bind f = .exc x s := (rfl)
@[simp] theorem R.bind_bad {α β : Type} (f : α → Store → R β) : (R.bad : R α).bind f = .bad := (rfl)
theorem R.bind_congr {α β : Type} {r r' : R α} (f : α → Store → R β) (h : r = r') : r.bind f = r'.bind f := by rw [h]
/-- by an answer of a test -/
def R.tb {α : Type} (o : Option Bool) (a b : R α) : R α := match o with
  | some true => a
  | some false => b
  | none => .bad
@[simp] theorem R.tb_true {α : Type} (a b : R α) : R.tb (some true) a b = a := (rfl)
@[simp] theorem R.tb_false {α : Type} (a b : R α) : R.tb (some false) a b = b := (rfl)
@[simp] theorem R.tb_none {α : Type} (a b : R α) : R.tb none a b = .bad := (rfl)
theorem R.tb_some {α : Type} (c : Bool) (a b : R α) : R.tb (some c) a b = if c = true then a else b := by cases c <;> rfl
theorem R.tb_congr {α : Type} {o o' : Option Bool} (a b : R α) (h : o = o') : R.tb o a b = R.tb o' a b := by rw [h]
/-- an item that may lack -/
def R.ob {α β : Type} (o : Option α) (f : α → R β) : R β := match o with
  | some a => f a
  | none => .bad
@[simp] theorem R.ob_some {α β : Type} (a : α) (f : α → R β) : R.ob (some a) f = f a := (rfl)
@[simp] theorem R.ob_none {α β : Type} (f : α → R β) : R.ob none f = .bad := (rfl)
theorem R.ob_congr {α β : Type} {o o' : Option α} (f : α → R β) (h : o = o') : R.ob o f = R.ob o' f := by rw [h]
def R.opt {α : Type} (o : Option α) (s : Store) : R α := match o with
  | some a => .ok a s
  | none => .bad
@[simp] theorem R.opt_some {α : Type} (a : α) (s : Store) : R.opt (some a) s = .ok a s := (rfl)
@[simp] theorem R.opt_none {α : Type} (s : Store) : R.opt (none : Option α) s = .bad := (rfl)

/-- built-in functions and types; methods of built-in types -/
inductive Bi where
  | len | int | str | abs | min | max | sum | sorted | range | enum | zip | rev | list | tuple | dict | set | all | repr | isi
  deriving DecidableEq
inductive Bm where
  | append | extend | pop | insert | remove | clear | get | setdefault | items | join | split | startswith | partition | index | count | find | replace | upper
  deriving DecidableEq
/-- a loop's target: one name, or some names -/
inductive Tg where
  | n (i : Nat) | t (is : List Nat)
  deriving DecidableEq
/-- the types that isinstance asks for -/
inductive Ty where
  | int | bool | str | tuple | list | dict
  deriving DecidableEq

inductive E where
  | k (v : Val)
  | v (i : Nat)
  | g (x : Nat) (v : Val)
  | gin (neg : Bool) (a : E) (x : Nat) (vs : List Val)
  | gix (x : Nat) (vs : List Val) (i : E)
  | gg (x : Nat) (kvs : List (Str × List Val)) (es : E)
  | nil | cons (a b : E)
  | bin (o : Operator) (a b : E)
  | cmp (o : CmpOp) (a b : E)
  | chn (o p : CmpOp) (a b c : E)
  | not (a : E) | neg (a : E)
  | and (a b : E) | or (a b : E)
  | ife (t a b : E)
  | tup (es : E) | lst (es : E) | dic (t : Bool) (es : E)
  | ix (a i : E) | sl (a lo hi st : E)
  | att (a : E) (f : Nat)
  | call (f : Nat) (es : E)
  | mk (c : Nat) (es : E)
  | bi (b : Bi) (es : E)
  | isi (a : E) (ts : List Ty)
  | ss (a : E)
  | tr (a : E)
  | ise (i : Nat) (cs : List Nat)
  | bm (m : Bm) (o es : E)
  | me (m : Nat) (o es : E)
  | lc (g : Tg) (it cond elt : E) (own : List Nat)
  | lcd (g : Tg) (d cond elt : E) (own : List Nat)

inductive S where
  | skip
  | sq (a b : S)
  | pass | cont
  | ex (e : E)
  | asg (g : Tg) (e : E)
  | asgL (is : List Nat) (e : E)
  | asgA (a : E) (f : Nat) (e : E)
  | asgS (a i e : E)
  | asgX (a i b j e f : E)
  | aug (i : Nat) (o : Operator) (e : E)
  | augA (a : E) (f : Nat) (o : Operator) (e : E)
  | augS (a i : E) (o : Operator) (e : E)
  | ret (e : E) | retN
  | ife (t : E) (a b : S)
  | whl (t : E) (b : S)
  | fr (g : Tg) (it : E) (b : S)
  | frd (g : Tg) (d : E) (b : S)
  | raise (c : Nat) (es : E)
  | try_ (b : S) (c : Nat) (n : Option Nat) (h : S)
  | bad


/-! ### values -/
def truth (s : Store) : Val → Option Bool
  | .non => some false
  | .bl b => some b
  | .int i => some (decide (i ≠ 0))
  | .str x => if x.length ≤ lim then some (decide (x.length ≠ 0)) else none
  | .tup vs => some (!vs.isEmpty)
  | .ktp _ => none
  | .loc l => match sget s l with
    | some (.lst vs) => some (!vs.isEmpty)
    | some (.rol vs) => some (!vs.isEmpty)
    | some (.dic false kvs) => some (!kvs.isEmpty)
    | _ => none
def b2i (b : Bool) : Int := if b then 1 else 0

def lstOf (s : Store) (l : Nat) : Option (List Val) := match sget s l with
  | some (.lst vs) => some vs
  | some (.rol vs) => some vs
  | _ => none
def dicOf (s : Store) (l : Nat) : Option (Bool × List (Val × Val)) := match sget s l with
  | some (.dic t kvs) => some (t, kvs)
  | some (.rod t kvs) => some (t, kvs)
  | _ => none

/-- == of two lists, item by item -/
def allEq (f : Val → Val → Option Bool) : List Val → List Val → Option Bool
  | [], [] => some true
  | [], _ :: _ => some false
  | _ :: _, [] => some false
  | x :: xs, y :: ys => match f x y, allEq f xs ys with
    | some a, some b => some (a && b)
    | _, _ => none
/-- == of two values, their items by f -/
def veq1 (f : Val → Val → Option Bool) (s : Store) : Val → Val → Option Bool
  | .ktp xs, .tup ys => allEq f xs ys
  | .ktp _, _ => none
  | _, .ktp _ => none
  | .non, .non => some true
  | .bl a, .bl b => some (a == b)
  | .bl a, .int j => some (decide (b2i a = j))
  | .int i, .bl b => some (decide (i = b2i b))
  | .int i, .int j => some (decide (i = j))
  | .str x, .str y => some (decide (x = y))
  | .tup xs, .tup ys => allEq f xs ys
  | .loc a, .loc b => (match lstOf s a, lstOf s b with
    | some xs, some ys => if xs.length = ys.length then allEq f xs ys else some false
    | _, _ => none)
  | .loc a, _ => (match lstOf s a with
    | some _ => some false
    | none => none)
  | _, .loc b => (match lstOf s b with
    | some _ => some false
    | none => none)
  | _, _ => some false
def veq : Nat → Store → Val → Val → Option Bool
  | 0, s, x, y => veq1 (fun _ _ => none) s x y
  | n + 1, s, x, y => veq1 (veq n s) s x y
/-- == at the depth that we go to -/
abbrev deepest : Nat := 40
def eqb (s : Store) (x y : Val) : Option Bool := veq deepest s x y
/-- x in a list -/
def inL (s : Store) (x : Val) : List Val → Option Bool
  | [] => some false
  | y :: ys => match eqb s y x, inL s x ys with
    | some a, some b => some (a || b)
    | _, _ => none

def alloc (o : Ob) (s : Store) : R Val := .ok (.loc (slen s)) (snew s o)
def newL (vs : List Val) (s : Store) : R Val := if vs.length ≤ lim then alloc (.lst vs) s else .bad

/-! ### operators -/
/-- a text again and again -/
def strRep (a : Str) (k : Nat) : Str := ⟨(List.replicate k a.cps).foldl (· ++ ·) #[]⟩
def binop (o : Operator) (x y : Val) (s : Store) : R Val := match o with
  | .Add => (match x, y with
    | .int i, .int j => .ok (.int (i + j)) s
    | .str a, .str b => if a.length + b.length ≤ lim then .ok (.str (a ++ b)) s else .bad
    | .tup a, .tup b => if a.length + b.length ≤ lim then .ok (.tup (a ++ b)) s else .bad
    | .loc a, .loc b => (match lstOf s a, lstOf s b with
      | some xs, some ys => newL (xs ++ ys) s
      | _, _ => .bad)
    | _, _ => .bad)
  | .Sub => (match x, y with
    | .int i, .int j => .ok (.int (i - j)) s
    | _, _ => .bad)
  | .Mult => (match x, y with
    | .int i, .int j => if (-(2 ^ 64) < i ∧ i < 2 ^ 64) ∨ (-(2 ^ 64) < j ∧ j < 2 ^ 64) then .ok (.int (i * j)) s else .bad
    | .loc a, .int k => (match sget s a with
      | some (.lst xs) => if -(2 ^ 63) ≤ k ∧ k < 2 ^ 63 ∧ xs.length * k.toNat ≤ lim then alloc (.lst (List.replicate k.toNat xs).flatten) s else .bad
      | _ => .bad)
    | .str a, .int k => if 0 ≤ k ∧ k ≤ 1 then .ok (.str (if k = 1 then a else Str.empty)) s else if 2 ≤ k ∧ k ≤ 10000 ∧ a.length ≠ 0 ∧ a.length * k.toNat ≤ 100000 then .ok (.str (strRep a k.toNat)) s else .bad
    | .tup a, .int k => if a ≠ [] ∧ 0 ≤ k ∧ k ≤ 1000 ∧ a.length ≤ 1000 then .ok (.tup (List.replicate k.toNat a).flatten) s else .bad
    | _, _ => .bad)
  | .BitAnd => (match x, y with
    | .int i, .int j => .ok (.int (Builtin.bitAnd i j)) s
    | _, _ => .bad)
  | .LShift => (match x, y with
    | .int i, .int j => if 0 ≤ j ∧ j ≤ 1000000 ∧ i.natAbs < 2 ^ 64 then .ok (.int (i * 2 ^ j.toNat)) s else .bad
    | _, _ => .bad)
  | .RShift => (match x, y with
    | .int i, .int j => if 0 ≤ j then .ok (.int (i / 2 ^ j.toNat)) s else .bad
    | _, _ => .bad)
  | .FloorDiv => (match x, y with
    | .int i, .int j => if 0 < j ∧ j < 10 ^ 60 then .ok (.int (i / j)) s else .bad
    | _, _ => .bad)
  | .Mod => (match x, y with
    | .int i, .int j => if 0 < j then .ok (.int (i % j)) s else .bad
    | _, _ => .bad)
  | .Pow => (match x, y with
    | .int i, .int j => if 0 ≤ j ∧ j ≤ 1000000 ∧ i.natAbs < 2 ^ 64 then .ok (.int (i ^ j.toNat)) s else .bad
    | _, _ => .bad)
  | _ => .bad
def isSub (a b : Str) : Bool := !(Builtin.Str.occurrences b a 0 b.length 1).isEmpty
def dget (kvs : List (Val × Val)) (k : Val) : Option Val := (kvs.find? fun kv => decide (kv.1 = k)).map (·.2)
def dput (kvs : List (Val × Val)) (k v : Val) : List (Val × Val) :=
  if (kvs.any fun kv => decide (kv.1 = k)) = true then kvs.map (fun kv => if kv.1 = k then (kv.1, v) else kv) else kvs ++ [(k, v)]
def ddrop (kvs : List (Val × Val)) (k : Val) : List (Val × Val) := kvs.filter fun kv => decide (kv.1 ≠ k)
def leafKey : Val → Bool
  | .int _ => true
  | .str _ => true
  | _ => false
/-- a key that fits a dict of this kind -/
def fitKey (t : Bool) : Val → Bool
  | .int _ => !t
  | .str _ => !t
  | .tup ks => t && ks.all leafKey
  | _ => false
def inop (neg : Bool) (x y : Val) (s : Store) : R Val := match y with
  | .str b => (match x with
    | .str a => (match a.cps.toList with
      | [c] => .ok (.bl (neg != decide (c ∈ b.cps.toList))) s
      | _ => .ok (.bl (neg != isSub a b)) s)
    | _ => .bad)
  | .tup vs => (match inL s x vs with
    | some r => .ok (.bl (neg != r)) s
    | none => .bad)
  | .loc l => (match sget s l with
    | some (.lst vs) => (match inL s x vs with
      | some r => .ok (.bl (neg != r)) s
      | none => .bad)
    | some (.rol vs) => (match inL s x vs with
      | some r => .ok (.bl (neg != r)) s
      | none => .bad)
    | some (.dic t kvs) => if fitKey t x then .ok (.bl (neg != (dget kvs x).isSome)) s else .bad
    | some (.rod t kvs) => if fitKey t x then .ok (.bl (neg != (dget kvs x).isSome)) s else .bad
    | _ => .bad)
  | _ => .bad
def ordop (p : Int → Int → Bool) (q : List Nat → List Nat → Bool) (x y : Val) (s : Store) : R Val := match x, y with
  | .int i, .int j => .ok (.bl (p i j)) s
  | .str a, .str b => .ok (.bl (q a.cps.toList b.cps.toList)) s
  | _, _ => .bad
/-- no place in it -/
def flatB : Val → Bool
  | .ktp _ => false
  | .loc _ => false
  | .tup _ => false
  | _ => true
/-- dicts with the very same pairs -/
def sameDs (s : Store) : List Val → List Val → Bool
  | [], [] => true
  | .loc a :: xs, .loc b :: ys => (match sget s a, sget s b with
    | some (.dic false k1), some (.dic false k2) => decide (k1 = k2) && (k1.all fun p => fitKey false p.1 && flatB p.2) && decide ((k1.map (·.1)).Nodup)
    | _, _ => false) && sameDs s xs ys
  | _, _ => false
def sameD (s : Store) (x y : Val) : Bool := match x, y with
  | .loc a, .loc b => (match lstOf s a, lstOf s b with
    | some xs, some ys => sameDs s xs ys
    | _, _ => false)
  | _, _ => false
/-- != of two dicts: of unlike sizes, both empty, or of the very same pairs -/
def neD (s : Store) (x y : Val) : R Val := match x, y with
  | .loc a, .loc b => (match sget s a, sget s b with
    | some (.dic t k1), some (.dic u k2) =>
      if k1.length ≠ k2.length then .ok (.bl true) s
      else if k1.length = 0 then .ok (.bl false) s
      else if t = false ∧ u = false ∧ k1 = k2 ∧ (k1.all fun p => fitKey false p.1 && decide (veq 20 s p.2 p.2 = some true)) = true ∧ (k1.map (·.1)).Nodup then .ok (.bl false) s else .bad
    | _, _ => .bad)
  | _, _ => .bad
def isB (f : Bool → Bool) (x : Val) (s : Store) : R Val := match x with
  | .bl c => .ok (.bl (f c)) s
  | _ => .bad
def cmpop (o : CmpOp) (x y : Val) (s : Store) : R Val := match o with
  | .Eq => (match eqb s x y with
    | some r => .ok (.bl r) s
    | none => .bad)
  | .NotEq => (match eqb s x y with
    | some r => .ok (.bl (!r)) s
    | none => if sameD s x y = true then .ok (.bl false) s else neD s x y)
  | .Lt => ordop (fun i j => decide (i < j)) (fun a b => decide (a < b)) x y s
  | .LtE => ordop (fun i j => decide (i ≤ j)) (fun a b => !decide (b < a)) x y s
  | .Gt => ordop (fun i j => decide (j < i)) (fun a b => decide (b < a)) x y s
  | .GtE => ordop (fun i j => decide (j ≤ i)) (fun a b => !decide (a < b)) x y s
  | .Is => (match y with
    | .non => .ok (.bl (decide (x = .non))) s
    | .bl b => isB (fun c => decide (c = b)) x s
    | _ => .bad)
  | .IsNot => (match y with
    | .non => .ok (.bl (!decide (x = .non))) s
    | .bl b => isB (fun c => !decide (c = b)) x s
    | _ => .bad)
  | .In => inop false x y s
  | .NotIn => inop true x y s
/-- x[y] -/
def getix (x y : Val) (s : Store) : R Val := match x with
  | .tup vs => (match y with
    | .int i => R.opt (L2.atI vs i) s
    | _ => .bad)
  | .str z => (match y with
    | .int i => if z.length ≤ lim then (match L2.atI z.cps.toList i with
      | some c => .ok (.str ⟨#[c]⟩) s
      | none => .bad) else .bad
    | _ => .bad)
  | .loc l => (match sget s l with
    | some (.lst vs) => (match y with
      | .int i => R.opt (L2.atI vs i) s
      | _ => .bad)
    | some (.rol vs) => (match y with
      | .int i => R.opt (L2.atI vs i) s
      | _ => .bad)
    | some (.dic t kvs) => if fitKey t y then R.opt (dget kvs y) s else .bad
    | some (.rod t kvs) => if fitKey t y then R.opt (dget kvs y) s else .bad
    | _ => .bad)
  | _ => .bad
/-- an end of a slice -/
def slEnd : Val → Option (Option Int)
  | .non => some none
  | .int i => some (some i)
  | _ => none
def cut (xs : List α) (lo hi : Option Int) : List α := (xs.drop (HT.sIx xs.length 0 lo)).take (HT.sIx xs.length xs.length hi - HT.sIx xs.length 0 lo)
/-- x[lo:hi] -/
def getslO (x : Val) (lo hi : Option Int) (s : Store) : R Val := match x with
  | .tup vs => .ok (.tup (cut vs lo hi)) s
  | .str z => if z.length ≤ lim then .ok (.str (L2.cutS z lo hi)) s else .bad
  | .loc l => (match lstOf s l with
    | some vs => alloc (.lst (cut vs lo hi)) s
    | none => .bad)
  | _ => .bad
/-- the items of xs[lo:hi:c] -/
def pick (xs : List α) (lo hi : Option Int) (c : Int) : List α := (sliceRange (sliceBounds lo hi (some c) xs.length).1 (sliceBounds lo hi (some c) xs.length).2.1 (sliceBounds lo hi (some c) xs.length).2.2).filterMap (xs[·]?)
def getsl3 (x : Val) (lo hi c : Option Int) (s : Store) : R Val := match x, c with
  | .loc l, some c => (match lstOf s l with
    | some vs => if c ≠ 0 then alloc (.lst (pick vs lo hi c)) s else .bad
    | none => .bad)
  | .tup vs, some c => if lo = none ∧ hi = none ∧ c = -1 then .ok (.tup vs.reverse) s else .bad
  | _, _ => .bad
def endR (l : Val) (s : Store) : R (Option Int) := R.opt (slEnd l) s
/-- x[i] = v -/
def setix (x i v : Val) (s : Store) : R Unit := match x with
  | .loc l => (match sget s l with
    | some (.lst vs) => (match i with
      | .int j => (match L2.ixN vs.length j with
        | some n => .ok () (sput s l (.lst (vs.set n v)))
        | none => .bad)
      | _ => .bad)
    | some (.dic t kvs) => if fitKey t i = true ∧ kvs.length < lim then .ok () (sput s l (.dic t (dput kvs i v))) else .bad
    | _ => .bad)
  | _ => .bad
def getat (x : Val) (f : Nat) (s : Store) : R Val := match x with
  | .loc l => (match sget s l with
    | some (.ins _ fs) => R.opt (fs.lookup f) s
    | _ => .bad)
  | _ => .bad
def putF (f : Nat) (v : Val) : List (Nat × Val) → List (Nat × Val)
  | [] => [(f, v)]
  | (g, w) :: r => if g = f then (g, v) :: r else (g, w) :: putF f v r
def setat (x : Val) (f : Nat) (v : Val) (s : Store) : R Unit := match x with
  | .loc l => (match sget s l with
    | some (.ins c fs) => if fs.length < 1000 then .ok () (sput s l (.ins c (putF f v fs))) else .bad
    | _ => .bad)
  | _ => .bad

/-! ### built-in functions, methods of built-in types -/
def intsOf : List Val → Option (List Int)
  | [] => some []
  | .int i :: r => (intsOf r).map (i :: ·)
  | _ :: _ => none
def strsOf : List Val → Option (List Str)
  | [] => some []
  | .str i :: r => (strsOf r).map (i :: ·)
  | _ :: _ => none
/-- a list's or a tuple's items -/
def itemsOf (s : Store) : Val → Option (List Val)
  | .tup vs => some vs
  | .loc l => lstOf s l
  | _ => none
/-- pairs of two -/
def twos : List Val → Option (List (Val × Val))
  | [] => some []
  | .tup [k, v] :: r => (twos r).map ((k, v) :: ·)
  | _ :: _ => none
def blsOf : List Val → Option (List Bool)
  | [] => some []
  | .bl i :: r => (blsOf r).map (i :: ·)
  | _ :: _ => none
def insSort (x : Int) : List Int → List Int
  | [] => [x]
  | y :: r => if x ≤ y then x :: y :: r else y :: insSort x r
def sortI : List Int → List Int
  | [] => []
  | x :: r => insSort x (sortI r)
def ddI : List Int → List Int
  | [] => []
  | x :: r => if x ∈ r then ddI r else x :: ddI r
/-- sorted(set(x)), whole numbers -/
def ssR (x : Val) (s : Store) : R Val := match x with
  | .tup vs => (match intsOf vs with
    | some ns => if ns.length < 63 then alloc (.lst ((sortI (ddI ns)).map Val.int)) s else .bad
    | none => .bad)
  | _ => .bad
/-- the module's dict, asked by get(k, d) -/
def ggR (kvs : List (Str × List Val)) (xs : List Val) (s : Store) : R Val := match xs with
  | [.str z, d] => (match kvs.lookup z with
    | some vs => .ok (.ktp vs) s
    | none => .ok d s)
  | _ => .bad
/-- tuple(reversed(x)) -/
def trR (x : Val) (s : Store) : R Val := match x with
  | .tup vs => .ok (.tup vs.reverse) s
  | _ => .bad
def insBy {α : Type} (lt : α → α → Bool) (x : α) : List α → List α
  | [] => [x]
  | y :: r => if lt y x = true then y :: insBy lt x r else x :: y :: r
def sortBy {α : Type} (lt : α → α → Bool) : List α → List α
  | [] => []
  | x :: r => insBy lt x (sortBy lt r)
def vItem : Val → Int ⊕ List Nat
  | .int i => .inl i
  | .str z => .inr z.cps.toList
  | _ => .inl 0
/-- tuples of ints and texts, item by item -/
def lexV (a b : List Val) : Bool := PyProof.Rows.lexLt PyProof.Rows.itemOrd (a.map vItem) (b.map vItem)
def strLt (a b : Str) : Bool := decide (a.cps.toList < b.cps.toList)
def tupsOf : List Val → Option (List (List Val))
  | [] => some []
  | .tup i :: r => (tupsOf r).map (i :: ·)
  | _ :: _ => none
def isStrB : Val → Bool
  | .str _ => true
  | _ => false
/-- all of one form: ints and texts at the same places -/
def unif : List (List Val) → Bool
  | [] => true
  | t :: ts => !t.isEmpty && t.all leafKey && ts.all fun u => u.all leafKey && decide (u.map isStrB = t.map isStrB)
def sorted2 (l : Nat) (s : Store) : R Val := match sget s l with
  | some (.dic false kvs) => (match strsOf (kvs.map (·.1)) with
    | some zs => if zs.length < 64 then alloc (.lst ((sortBy strLt zs).map Val.str)) s else .bad
    | none => (match intsOf (kvs.map (·.1)) with
      | some ns => if ns.length < 64 then alloc (.lst ((sortI ns).map Val.int)) s else .bad
      | none => .bad))
  | some (.dic true kvs) => (match tupsOf (kvs.map (·.1)) with
    | some ts => if unif ts = true then alloc (.lst ((sortBy lexV ts).map Val.tup)) s else .bad
    | none => .bad)
  | some (.lst vs) => (match tupsOf vs with
    | some ts => if unif ts = true then alloc (.lst ((sortBy lexV ts).map Val.tup)) s else .bad
    | none => .bad)
  | _ => .bad
def bfn (b : Bi) (xs : List Val) (s : Store) : R Val := match b with
  | .len => (match xs with
    | [.tup vs] => .ok (.int vs.length) s
    | [.ktp vs] => .ok (.int vs.length) s
    | [.str z] => if z.length ≤ lim then .ok (.int z.length) s else .bad
    | [.loc l] => (match sget s l with
      | some (.lst vs) => .ok (.int vs.length) s
      | some (.rol vs) => .ok (.int vs.length) s
      | some (.dic false kvs) => .ok (.int kvs.length) s
      | some (.dic true kvs) => .ok (.int kvs.length) s
      | _ => .bad)
    | _ => .bad)
  | .int => (match xs with
    | [.int i] => .ok (.int i) s
    | [.bl c] => .ok (.int (if c then 1 else 0)) s
    | [.str a] => if a.length ≤ 640 then (match intText? a with
      | some n => .ok (.int n) s
      | none => .bad) else .bad
    | _ => .bad)
  | .str => (match xs with
    | [.int i] => if i.natAbs.log2 < 1920 then .ok (.str (toString i)) s else .bad
    | [.str a] => .ok (.str a) s
    | [.non] => .ok (.str "None") s
    | _ => .bad)
  | .abs => (match xs with
    | [.int i] => .ok (.int (if i < 0 then -i else i)) s
    | _ => .bad)
  | .max => (match xs with
    | [.int i, .int j] => .ok (.int (if j > i then j else i)) s
    | _ => .bad)
  | .min => (match xs with
    | [.int i, .int j] => .ok (.int (if j < i then j else i)) s
    | _ => .bad)
  | .sum => (match xs with
    | [.loc l] => (match lstOf s l with
      | some vs => (match intsOf vs with
        | some ns => .ok (.int ns.sum) s
        | none => .bad)
      | none => .bad)
    | _ => .bad)
  | .sorted => (match xs with
    | [.loc l] => (match lstOf s l with
      | some vs => (match intsOf vs with
        | some ns => alloc (.lst ((sortI ns).map Val.int)) s
        | none => sorted2 l s)
      | none => sorted2 l s)
    | _ => .bad)
  | .list => (match xs with
    | [.tup vs] => alloc (.lst vs) s
    | [.loc l] => (match sget s l with
      | some (.lst vs) => alloc (.lst vs) s
      | some (.rol vs) => alloc (.lst vs) s
      | some (.dic false kvs) => alloc (.lst (kvs.map (·.1))) s
      | _ => .bad)
    | _ => .bad)
  | .tuple => (match xs with
    | [.tup vs] => .ok (.tup vs) s
    | [.loc l] => (match lstOf s l with
      | some vs => .ok (.tup vs) s
      | none => .bad)
    | _ => .bad)
  | .dict => (match xs with
    | [.loc l] => (match sget s l with
      | some (.dic false kvs) => alloc (.dic false kvs) s
      | some (.lst vs) => (match twos vs with
        | some kvs => if (kvs.all fun p => fitKey false p.1) = true then alloc (.dic false (kvs.foldl (fun acc p => dput acc p.1 p.2) [])) s else .bad
        | none => .bad)
      | _ => .bad)
    | _ => .bad)
  | .all => (match xs with
    | [.loc l] => (match lstOf s l with
      | some vs => (match blsOf vs with
        | some bs => .ok (.bl (bs.all id)) s
        | none => .bad)
      | none => .bad)
    | _ => .bad)
  | _ => .bad
def tyIs (t : Ty) (v : Val) (s : Store) : Option Bool := match v with
  | .ktp _ => none
  | .non => some false
  | .bl _ => some (match t with
    | .int => true
    | .bool => true
    | _ => false)
  | .int _ => some (match t with
    | .int => true
    | _ => false)
  | .str _ => some (match t with
    | .str => true
    | _ => false)
  | .tup _ => some (match t with
    | .tuple => true
    | _ => false)
  | .loc l => (match sget s l with
    | some (.lst _) => some (match t with
      | .list => true
      | _ => false)
    | some (.dic _ _) => some (match t with
      | .dict => true
      | _ => false)
    | _ => none)
def isiAny (v : Val) (s : Store) : List Ty → Option Bool
  | [] => some false
  | t :: ts => match tyIs t v s, isiAny v s ts with
    | some a, some b => some (a || b)
    | _, _ => none
def isi (v : Val) (ts : List Ty) (s : Store) : R Val := match ts with
  | [t] => (match tyIs t v s with
    | some b => .ok (.bl b) s
    | none => .bad)
  | ts => (match isiAny v s ts with
    | some b => .ok (.bl b) s
    | none => .bad)
/-- what kind of thing a method is asked of -/
inductive Kd where
  | str | lst | dic
  deriving DecidableEq
def kindOf (s : Store) : Val → Option Kd
  | .str _ => some .str
  | .loc l => (match sget s l with
    | some (.lst _) => some .lst
    | some (.rol _) => some .lst
    | some (.dic _ _) => some .dic
    | _ => none)
  | _ => none
/-- the methods that are served -/
def bmServed : Kd → Bm → Bool
  | .lst, .append | .lst, .extend | .lst, .pop | .lst, .clear | .lst, .remove | .lst, .index => true
  | .dic, .get | .dic, .pop | .dic, .clear => true
  | .str, .split | .str, .startswith | .str, .join | .str, .find | .str, .count => true
  | _, _ => false
def kindFor (s : Store) (x : Val) (m : Bm) : Option Kd := match kindOf s x with
  | some k => if bmServed k m = true then some k else none
  | none => none
def bmf (k : Kd) (m : Bm) (x : Val) (xs : List Val) (s : Store) : R Val := match k, m, x with
  | .lst, .append, .loc l => (match xs with
    | [y] => (match sget s l with
      | some (.lst vs) => if vs.length < lim then .ok .non (sput s l (.lst (vs ++ [y]))) else .bad
      | _ => .bad)
    | _ => .bad)
  | .lst, .extend, .loc l => (match xs with
    | [.loc m] => (match sget s l, sget s m with
      | some (.lst vs), some (.lst ws) => if vs.length + ws.length ≤ lim then .ok .non (sput s l (.lst (vs ++ ws))) else .bad
      | _, _ => .bad)
    | _ => .bad)
  | .lst, .pop, .loc l => (match sget s l with
    | some (.lst vs) => (match xs with
      | [] => (match vs[vs.length - 1]? with
        | some y => .ok y (sput s l (.lst vs.dropLast))
        | none => .bad)
      | [.int i] => if -(2 ^ 63) ≤ i ∧ i < 2 ^ 63 then (match L2.ixN vs.length i with
          | some n => (match vs[n]? with
            | some y => .ok y (sput s l (.lst (vs.eraseIdx n)))
            | none => .bad)
          | none => .bad) else .bad
      | _ => .bad)
    | _ => .bad)
  | .lst, .clear, .loc l => (match xs with
    | [] => (match sget s l with
      | some (.lst _) => .ok .non (sput s l (.lst []))
      | _ => .bad)
    | _ => .bad)
  | .lst, .remove, .loc l => (match xs with
    | [.int k] => (match sget s l with
      | some (.lst vs) => (match intsOf vs with
        | some ns => if k ∈ ns then .ok .non (sput s l (.lst ((ns.erase k).map Val.int))) else .bad
        | none => .bad)
      | _ => .bad)
    | _ => .bad)
  | .lst, .index, .loc l => (match xs with
    | [.str k] => (match lstOf s l with
      | some vs => (match strsOf vs with
        | some ys => if k ∈ ys then .ok (.int (ys.idxOf k : Nat)) s else .bad
        | none => .bad)
      | none => .bad)
    | _ => .bad)
  | .dic, .get, .loc l => (match sget s l with
    | some (.dic t kvs) => (match xs with
      | [k] => if fitKey t k then .ok ((dget kvs k).getD .non) s else if t = false ∧ k = .non then .ok .non s else .bad
      | [k, d] => if fitKey t k then .ok ((dget kvs k).getD d) s else .bad
      | _ => .bad)
    | _ => .bad)
  | .dic, .pop, .loc l => (match sget s l with
    | some (.dic false kvs) => (match xs with
      | [k] => if fitKey false k then (match dget kvs k with
        | some y => .ok y (sput s l (.dic false (ddrop kvs k)))
        | none => .bad) else .bad
      | [k, d] => if fitKey false k then (match dget kvs k with
        | some y => .ok y (sput s l (.dic false (ddrop kvs k)))
        | none => .ok d s) else .bad
      | _ => .bad)
    | _ => .bad)
  | .dic, .clear, .loc l => (match sget s l with
    | some (.dic false _) => (match xs with
      | [] => .ok .non (sput s l (.dic false []))
      | _ => .bad)
    | _ => .bad)
  | .str, .split, .str a => (match xs with
    | [.str b] => if (b.length == 0) = false ∧ a.length + 2 ≤ lim then alloc (.lst ((Txt.split a b).map Val.str)) s else .bad
    | _ => .bad)
  | .str, .startswith, .str a => (match xs with
    | [.str b] => .ok (.bl (Txt.startswith a b)) s
    | _ => .bad)
  | .str, .find, .str a => (match xs with
    | [.str b, .int i] => .ok (.int (Txt.find3 a b i)) s
    | _ => .bad)
  | .str, .count, .str a => (match xs with
    | [.str b] => .ok (.int (Txt.count a b)) s
    | _ => .bad)
  | .str, .join, .str a => (match xs with
    | [y] => (match itemsOf s y with
      | some vs => (match strsOf vs with
        | some ys => if (ys.map (·.length)).sum + ys.length * a.length ≤ lim then .ok (.str (Txt.join a ys)) s else .bad
        | none => .bad)
      | none => .bad)
    | _ => .bad)
  | _, _, _ => .bad

/-! ### expressions -/
/-- what the evaluator is told of the program: own functions, methods by class and name, classes' __init__, how often a while may turn -/
structure Gm where
  call : Nat → List Val → Store → R Val
  meth : Nat → Nat → Option Nat
  init : Nat → Option Nat
  fuel : Nat
  /-- which class stands below which -/
  sub : Nat → Nat → Bool
def esets : Env → List Nat → List Val → Option Env
  | ρ, [], [] => some ρ
  | ρ, i :: is, v :: vs => esets (eset ρ i (some v)) is vs
  | _, _, _ => none
def tgSet : Tg → Val → Env → Option Env
  | .n i, v, ρ => some (eset ρ i (some v))
  | .t is, .tup vs, ρ => esets ρ is vs
  | .t _, _, _ => none
def wipeE (ρ : Env) : List Nat → Env
  | [] => ρ
  | v :: vs => eset (wipeE ρ vs) v none
/-- what is walked: the items; an object that is to stand as it is; a dict to be locked -/
inductive Wk where
  | free (xs : List Val)
  | keep (l : Nat) (o : Ob) (xs : List Val)
  | lock (l : Nat) (t : Bool) (kvs : List (Val × Val)) (xs : List Val)
  | keep2 (l : Nat) (o : Ob) (m : Nat) (q : Ob) (xs : List Val)
def Wk.ofVal (v : Val) (s : Store) : R Wk := match v with
  | .tup vs => .ok (.free vs) s
  | .str z => if z.length ≤ lim then .ok (.free (z.cps.toList.map fun c => .str ⟨#[c]⟩)) s else .bad
  | .loc l => (match sget s l with
    | some (.lst vs) => .ok (.keep l (.lst vs) vs) s
    | some (.rol vs) => .ok (.keep l (.rol vs) vs) s
    | _ => .bad)
  | _ => .bad
def upTo (a : Int) : Nat → List Val
  | 0 => []
  | n + 1 => .int a :: upTo (a + 1) n
def stepTo (a c : Int) : Nat → List Val
  | 0 => []
  | n + 1 => .int a :: stepTo (a + c) c n
def Wk.rangeOf (xs : List Val) (s : Store) : R Wk := match xs with
  | [.int j] => if -(2 ^ 62) ≤ j ∧ j < 2 ^ 62 then .ok (.free (upTo 0 j.toNat)) s else .bad
  | [.int i, .int j] => if -(2 ^ 62) ≤ i ∧ i < 2 ^ 62 ∧ -(2 ^ 62) ≤ j ∧ j < 2 ^ 62 then .ok (.free (upTo i (j - i).toNat)) s else .bad
  | [.int i, .int j, .int c] => if c ≠ 0 ∧ c.natAbs < 1073741824 ∧ Builtin.Range.small i j c = true ∧ 0 ≤ Builtin.Range.rangeSize i j c then .ok (.free (stepTo i c (Builtin.Range.rangeSize i j c).toNat)) s else .bad
  | _ => .bad
def numbered (i : Int) : List Val → List Val
  | [] => []
  | v :: r => .tup [.int i, v] :: numbered (i + 1) r
def Wk.enumOf (xs : List Val) (s : Store) : R Wk := match xs with
  | [.loc l] => (match sget s l with
    | some (.lst vs) => .ok (.keep l (.lst vs) (numbered 0 vs)) s
    | some (.rol vs) => .ok (.keep l (.rol vs) (numbered 0 vs)) s
    | _ => .bad)
  | [.str z] => if z.length ≤ lim then .ok (.free (numbered 0 (z.cps.toList.map fun c => .str ⟨#[c]⟩))) s else .bad
  | _ => .bad
def Wk.revOf (xs : List Val) (s : Store) : R Wk := match xs with
  | [.loc l] => (match sget s l with
    | some (.lst vs) => .ok (.keep l (.lst vs) vs.reverse) s
    | some (.rol vs) => .ok (.keep l (.rol vs) vs.reverse) s
    | _ => .bad)
  | _ => .bad
def zipped : List Val → List Val → List Val
  | x :: xs, y :: ys => .tup [x, y] :: zipped xs ys
  | _, _ => []
def Wk.zipOf (xs : List Val) (s : Store) : R Wk := match xs with
  | [.tup a, .tup b] => .ok (.free (zipped a b)) s
  | [.loc l, .loc m] => (match sget s l, sget s m with
    | some (.lst a), some (.lst b) => .ok (.keep2 l (.lst a) m (.lst b) (zipped a b)) s
    | _, _ => .bad)
  | [.loc l, .tup b] => (match sget s l with
    | some (.lst a) => .ok (.keep l (.lst a) (zipped a b)) s
    | _ => .bad)
  | [.loc l, .ktp b] => (match sget s l with
    | some (.lst a) => .ok (.keep l (.lst a) (zipped a b)) s
    | _ => .bad)
  | _ => .bad
/-- the object stands -/
def stands (l : Nat) (o : Ob) (s : Store) : Bool := decide (sget s l = some o)
def stands2 (l : Nat) (o : Ob) (m : Nat) (q : Ob) (s : Store) : Bool := stands l o s && stands m q s
/-- a comprehension's turns -/
def lcR (chk : Store → Bool) (turn : Val → Store → R (Option Val)) : List Val → List Val → Store → R (List Val)
  | [], acc, s => if chk s = true then .ok acc s else .bad
  | x :: xs, acc, s => if chk s = true then (turn x s).bind fun o s' => (match o with
    | some v => if acc.length < lim then lcR chk turn xs (acc ++ [v]) s' else .bad
    | none => lcR chk turn xs acc s') else .bad
/-- nothing is raised out of a comprehension -/
def R.calm {α : Type} : R α → R α
  | .ok a s => .ok a s
  | _ => .bad
@[simp] theorem R.calm_ok {α : Type} (a : α) (s : Store) : (R.ok a s).calm = .ok a s := (rfl)
def lcW (w : Wk) (turn : Val → Store → R (Option Val)) (s : Store) : R Val := match w with
  | .free xs => (lcR (fun _ => true) turn xs [] s).calm.bind fun vs s => alloc (.lst vs) s
  | .keep l o xs => (lcR (stands l o) turn xs [] s).calm.bind fun vs s => alloc (.lst vs) s
  | .keep2 l o m q xs => (lcR (stands2 l o m q) turn xs [] s).calm.bind fun vs s => alloc (.lst vs) s
  | .lock l t kvs xs => (lcR (stands l (.rod t kvs)) turn xs [] (sput s l (.rod t kvs))).calm.bind fun vs s => alloc (.lst vs) (sput s l (.dic t kvs))
/-- a comprehension over a dict's keys; the dict is locked meanwhile -/
def lcDic (v : Val) (turn : Val → Store → R (Option Val)) (s : Store) : R Val := match v with
  | .loc l => (match sget s l with
    | some (.dic t kvs) => ((lcR (stands l (.rod t kvs)) turn (kvs.map (·.1)) [] (sput s l (.rod t kvs))).calm.bind fun vs s => alloc (.lst vs) s).bind fun v s => .ok v (sput s l (.dic t kvs))
    | _ => .bad)
  | _ => .bad
def negv (x : Val) (s : Store) : R Val := match x with
  | .int i => .ok (.int (-i)) s
  | _ => .bad
/-- the method m of what stands there -/
def mthOf (G : Gm) (x : Val) (m : Nat) (s : Store) : Option Nat := match x with
  | .loc l => (match sget s l with
    | some (.ins c fs) => (match fs.lookup m with
      | none => G.meth c m
      | some _ => none)
    | _ => none)
  | _ => none
def isNon (v : Val) (a b : R Val) : R Val := match v with
  | .non => a
  | _ => b
def trueB : Val → Option Bool
  | .bl b => some b
  | _ => none
/-- a display's pairs -/
def pairUp : List Val → Option (List (Val × Val))
  | [] => some []
  | x :: y :: r => (pairUp r).map ((x, y) :: ·)
  | _ => none
def dicOfL (t : Bool) (xs : List Val) (s : Store) : R Val := match pairUp xs with
  | some kvs => if kvs.all (fun p => fitKey t p.1) = true ∧ kvs.length < 100 then alloc (.dic t (kvs.foldl (fun acc p => dput acc p.1 p.2) [])) s else .bad
  | none => .bad
def E.isNil : E → Bool
  | .nil => true
  | _ => false
/-- what is walked: it by its own value, or by a built-in's arguments -/
def wkOf (it : E) (val : R Val) (args : R (List Val)) : R Wk := match it with
  | .bi .range _ => args.bind Wk.rangeOf
  | .bi .enum _ => args.bind Wk.enumOf
  | .bi .rev _ => args.bind Wk.revOf
  | .bi .zip _ => args.bind Wk.zipOf
  | _ => val.bind Wk.ofVal
mutual
def ev (G : Gm) : E → Env → Store → R Val
  | .k v, _, s => .ok v s
  | .g _ v, _, s => .ok v s
  | .gin neg a _ vs, ρ, s => (ev G a ρ s).bind fun x s => inop neg x (.tup vs) s
  | .gix _ vs i, ρ, s => (ev G i ρ s).bind fun y s => getix (.tup vs) y s
  | .gg _ kvs es, ρ, s => (evs G es ρ s).bind fun xs s => ggR kvs xs s
  | .v i, ρ, s => R.opt (eget ρ i) s
  | .bin o a b, ρ, s => (ev G a ρ s).bind fun x s => (ev G b ρ s).bind fun y s => binop o x y s
  | .cmp o a b, ρ, s => (ev G a ρ s).bind fun x s => (ev G b ρ s).bind fun y s => cmpop o x y s
  | .chn o p a b c, ρ, s => (ev G a ρ s).bind fun x s => (ev G b ρ s).bind fun y s => (cmpop o x y s).bind fun r s => R.tb (trueB r) ((ev G c ρ s).bind fun z s => cmpop p y z s) (.ok (.bl false) s)
  | .not a, ρ, s => (ev G a ρ s).bind fun x s => R.ob (truth s x) fun b => .ok (.bl (!b)) s
  | .neg a, ρ, s => (ev G a ρ s).bind fun x s => negv x s
  | .and a b, ρ, s => (ev G a ρ s).bind fun x s => R.tb (truth s x) (ev G b ρ s) (.ok x s)
  | .or a b, ρ, s => (ev G a ρ s).bind fun x s => R.tb (truth s x) (.ok x s) (ev G b ρ s)
  | .ife t a b, ρ, s => (ev G t ρ s).bind fun x s => R.tb (truth s x) (ev G a ρ s) (ev G b ρ s)
  | .tup es, ρ, s => (evs G es ρ s).bind fun xs s => if xs.length ≤ lim then .ok (.tup xs) s else .bad
  | .lst es, ρ, s => (evs G es ρ s).bind fun xs s => newL xs s
  | .dic t es, ρ, s => (evs G es ρ s).bind fun xs s => dicOfL t xs s
  | .ix a i, ρ, s => (ev G a ρ s).bind fun x s => (ev G i ρ s).bind fun y s => getix x y s
  | .sl a lo hi st, ρ, s => (ev G a ρ s).bind fun x s => ((if lo.isNil = true then R.ok .non s else ev G lo ρ s).bind endR).bind fun l s => ((if hi.isNil = true then R.ok .non s else ev G hi ρ s).bind endR).bind fun h s =>
    if st.isNil = true then getslO x l h s else ((if st.isNil = true then R.ok .non s else ev G st ρ s).bind endR).bind fun c s => getsl3 x l h c s
  | .att a f, ρ, s => (ev G a ρ s).bind fun x s => getat x f s
  | .call f es, ρ, s => (evs G es ρ s).bind fun xs s => G.call f xs s
  | .mk c es, ρ, s => (evs G es ρ s).bind fun xs s => R.ob (G.init c) fun f => (G.call f (.loc (slen s) :: xs) (snew s (.ins c []))).bind fun r s' => isNon r (.ok (.loc (slen s)) s') .bad
  | .bi b es, ρ, s => (evs G es ρ s).bind fun xs s => bfn b xs s
  | .isi a ts, ρ, s => (ev G a ρ s).bind fun x s => isi x ts s
  | .ise _ _, _, _ => .bad
  | .ss a, ρ, s => (ev G a ρ s).bind ssR
  | .tr a, ρ, s => (ev G a ρ s).bind trR
  | .bm m o es, ρ, s => (ev G o ρ s).bind fun x s => R.ob (kindFor s x m) fun k => (evs G es ρ s).bind fun xs s => bmf k m x xs s
  | .me m o es, ρ, s => (ev G o ρ s).bind fun x s => R.ob (mthOf G x m s) fun f => (evs G es ρ s).bind fun xs s => G.call f (x :: xs) s
  | .lc g it c e own, ρ, s => (wkOf it (ev G it ρ s) (evs G it ρ s)).bind fun w s => lcW w (fun x s => R.ob (tgSet g x (wipeE ρ own)) fun ρ2 =>
      if c.isNil = true then (ev G e ρ2 s).bind fun v s => R.ok (some v) s else (ev G c ρ2 s).bind fun x s => R.tb (truth s x) ((ev G e ρ2 s).bind fun v s => R.ok (some v) s) (R.ok none s)) s
  | .lcd g d c e own, ρ, s => (ev G d ρ s).bind fun v s => lcDic v (fun x s => R.ob (tgSet g x (wipeE ρ own)) fun ρ2 =>
      if c.isNil = true then (ev G e ρ2 s).bind fun v s => R.ok (some v) s else (ev G c ρ2 s).bind fun x s => R.tb (truth s x) ((ev G e ρ2 s).bind fun v s => R.ok (some v) s) (R.ok none s)) s
  | .nil, _, _ => .bad
  | .cons _ _, _, _ => .bad
def evs (G : Gm) : E → Env → Store → R (List Val)
  | .cons a b, ρ, s => (ev G a ρ s).bind fun x s => (evs G b ρ s).bind fun xs s => .ok (x :: xs) s
  | .nil, _, s => .ok [] s
  | .bi _ es, ρ, s => evs G es ρ s
  | _, _, _ => .bad
end
/-- what a for walks -/
def evw (G : Gm) (it : E) (ρ : Env) (s : Store) : R Wk := wkOf it (ev G it ρ s) (evs G it ρ s)

/-! ### statements -/
inductive Fl where
  | nx (ρ : Env) (s : Store) | ct (ρ : Env) (s : Store) | rt (v : Val) (s : Store) | exc (x : Exc) (ρ : Env) (s : Store) | bad
/-- an expression's end, then a statement's -/
def R.fl {α : Type} (r : R α) (ρ : Env) (f : α → Store → Fl) : Fl := match r with
  | .ok a s => f a s
  | .exc x s => .exc x ρ s
  | .bad => .bad
@[simp] theorem R.fl_ok {α : Type} (a : α) (s : Store) (ρ : Env) (f : α → Store → Fl) : (R.ok a s).fl ρ f = f a s := (rfl)
@[simp] theorem R.fl_exc {α : Type} (x : Exc) (s : Store) (ρ : Env) (f : α → Store → Fl) : (R.exc x s : R α).fl ρ f = .exc x ρ s := (rfl)
@[simp] theorem R.fl_bad {α : Type} (ρ : Env) (f : α → Store → Fl) : (R.bad : R α).fl ρ f = .bad := (rfl)
def Fl.sq (r : Fl) (f : Env → Store → Fl) : Fl := match r with
  | .nx ρ s => f ρ s
  | o => o
@[simp] theorem Fl.sq_nx (ρ : Env) (s : Store) (f : Env → Store → Fl) : (Fl.nx ρ s).sq f = f ρ s := (rfl)
@[simp] theorem Fl.sq_ct (ρ : Env) (s : Store) (f : Env → Store → Fl) : (Fl.ct ρ s).sq f = .ct ρ s := (rfl)
@[simp] theorem Fl.sq_rt (v : Val) (s : Store) (f : Env → Store → Fl) : (Fl.rt v s).sq f = .rt v s := (rfl)
@[simp] theorem Fl.sq_exc (x : Exc) (ρ : Env) (s : Store) (f : Env → Store → Fl) : (Fl.exc x ρ s).sq f = .exc x ρ s := (rfl)
@[simp] theorem Fl.sq_bad (f : Env → Store → Fl) : Fl.bad.sq f = .bad := (rfl)
/-- a turn's end, then the next turn -/
def Fl.lp (r : Fl) (f : Env → Store → Fl) : Fl := match r with
  | .nx ρ s => f ρ s
  | .ct ρ s => f ρ s
  | o => o
@[simp] theorem Fl.lp_nx (ρ : Env) (s : Store) (f : Env → Store → Fl) : (Fl.nx ρ s).lp f = f ρ s := (rfl)
@[simp] theorem Fl.lp_ct (ρ : Env) (s : Store) (f : Env → Store → Fl) : (Fl.ct ρ s).lp f = f ρ s := (rfl)
@[simp] theorem Fl.lp_rt (v : Val) (s : Store) (f : Env → Store → Fl) : (Fl.rt v s).lp f = .rt v s := (rfl)
@[simp] theorem Fl.lp_exc (x : Exc) (ρ : Env) (s : Store) (f : Env → Store → Fl) : (Fl.exc x ρ s).lp f = .exc x ρ s := (rfl)
@[simp] theorem Fl.lp_bad (f : Env → Store → Fl) : Fl.bad.lp f = .bad := (rfl)
theorem R.fl_congr {α : Type} {r r' : R α} (ρ : Env) (f : α → Store → Fl) (h : r = r') : r.fl ρ f = r'.fl ρ f := by rw [h]
theorem Fl.sq_congr {r r' : Fl} (f : Env → Store → Fl) (h : r = r') : r.sq f = r'.sq f := by rw [h]
theorem Fl.lp_congr {r r' : Fl} (f : Env → Store → Fl) (h : r = r') : r.lp f = r'.lp f := by rw [h]
def Fl.tb (o : Option Bool) (a b : Fl) : Fl := match o with
  | some true => a
  | some false => b
  | none => .bad
@[simp] theorem Fl.tb_true (a b : Fl) : Fl.tb (some true) a b = a := (rfl)
@[simp] theorem Fl.tb_false (a b : Fl) : Fl.tb (some false) a b = b := (rfl)
@[simp] theorem Fl.tb_none (a b : Fl) : Fl.tb none a b = .bad := (rfl)
theorem Fl.tb_some (c : Bool) (a b : Fl) : Fl.tb (some c) a b = if c = true then a else b := by cases c <;> rfl
theorem Fl.tb_congr {o o' : Option Bool} (a b : Fl) (h : o = o') : Fl.tb o a b = Fl.tb o' a b := by rw [h]
def Fl.ob {α : Type} (o : Option α) (f : α → Fl) : Fl := match o with
  | some a => f a
  | none => .bad
@[simp] theorem Fl.ob_some {α : Type} (a : α) (f : α → Fl) : Fl.ob (some a) f = f a := (rfl)
@[simp] theorem Fl.ob_none {α : Type} (f : α → Fl) : Fl.ob none f = .bad := (rfl)
theorem Fl.ob_congr {α : Type} {o o' : Option α} (f : α → Fl) (h : o = o') : Fl.ob o f = Fl.ob o' f := by rw [h]
def forR (chk : Store → Bool) (turn : Val → Env → Store → Fl) : List Val → Env → Store → Fl
  | [], ρ, s => if chk s = true then .nx ρ s else .bad
  | x :: xs, ρ, s => if chk s = true then (turn x ρ s).lp (forR chk turn xs) else .bad
def forW (w : Wk) (turn : Val → Env → Store → Fl) (ρ : Env) (s : Store) : Fl := match w with
  | .free xs => forR (fun _ => true) turn xs ρ s
  | .keep l o xs => forR (stands l o) turn xs ρ s
  | .keep2 l o m q xs => forR (stands2 l o m q) turn xs ρ s
  | .lock l t kvs xs => (forR (stands l (.rod t kvs)) turn xs ρ (sput s l (.rod t kvs))).sq fun ρ s => .nx ρ (sput s l (.dic t kvs))
/-- behind a walk over a dict's keys: the dict is unlocked -/
def Fl.nxO (r : Fl) (l : Nat) (t : Bool) (kvs : List (Val × Val)) : Fl := match r with
  | .nx ρ s => .nx ρ (sput s l (.dic t kvs))
  | _ => .bad
/-- a for over a dict's keys; the dict is locked meanwhile -/
def frDic (v : Val) (turn : Val → Env → Store → Fl) (ρ : Env) (s : Store) : Fl := match v with
  | .loc l => (match sget s l with
    | some (.dic t kvs) => (forR (stands l (.rod t kvs)) turn (kvs.map (·.1)) ρ (sput s l (.rod t kvs))).nxO l t kvs
    | _ => .bad)
  | _ => .bad
def whlR (t : Env → Store → R Val) (b : Env → Store → Fl) : Nat → Env → Store → Fl
  | 0, _, _ => .bad
  | n + 1, ρ, s => (t ρ s).fl ρ fun x s => Fl.tb (truth s x) ((b ρ s).lp (whlR t b n)) (.nx ρ s)
def augop (o : Operator) (x y : Val) (s : Store) : R Val := match o, x, y with
  | .Add, .int i, .int j => .ok (.int (i + j)) s
  | .Sub, .int i, .int j => .ok (.int (i - j)) s
  | .Add, .str a, .str b => if a.length + b.length ≤ lim then .ok (.str (a ++ b)) s else .bad
  | _, _, _ => .bad
/-- the class of what stands there -/
def clsAt (x : Val) (s : Store) : Option Nat := match x with
  | .loc l => (match sget s l with
    | some (.ins c _) => some c
    | _ => none)
  | _ => none
def lstV (s : Store) : Val → Option (List Val)
  | .loc l => lstOf s l
  | _ => none
/-- a list's item -/
def getl (x k : Val) (s : Store) : R Val := match x, k with
  | .loc l, .int j => (match lstOf s l with
    | some vs => R.opt (L2.atI vs j) s
    | none => .bad)
  | _, _ => .bad
/-- a truth in an except suite: i the exception's slot, c its class -/
def hv (sub : Nat → Nat → Bool) (i c : Nat) : E → Env → Option Bool
  | .ise j cs, _ => if j = i then some (cs.any fun d => sub c d) else none
  | .v j, ρ => (match eget ρ j with
    | some (.bl b) => some b
    | _ => none)
  | .and a b, ρ => (match hv sub i c a ρ with
    | some true => hv sub i c b ρ
    | some false => some false
    | none => none)
  | .not a, ρ => (match hv sub i c a ρ with
    | some b => some (!b)
    | none => none)
  | _, _ => none
def hvs (sub : Nat → Nat → Bool) (i c : Nat) : E → Env → Option (List Bool)
  | .nil, _ => some []
  | .cons a b, ρ => (match hv sub i c a ρ, hvs sub i c b ρ with
    | some x, some xs => some (x :: xs)
    | _, _ => none)
  | _, _ => none
/-- an except suite -/
def exH (sub : Nat → Nat → Bool) (i c : Nat) : S → Env → Store → Fl
  | .skip, ρ, s => .nx ρ s
  | .sq a b, ρ, s => (exH sub i c a ρ s).sq (exH sub i c b)
  | .asg (.n j) (.lst es), ρ, s => (match hvs sub i c es ρ with
    | some bs => if j = i ∨ lim < bs.length then .bad else .nx (eset ρ j (some (.loc (slen s)))) (snew s (.lst (bs.map .bl)))
    | none => .bad)
  | .asg (.n j) e, ρ, s => (match hv sub i c e ρ with
    | some b => if j = i then .bad else .nx (eset ρ j (some (.bl b))) s
    | none => .bad)
  | .ex (.bm .append (.v j) (.cons e .nil)), ρ, s => (match hv sub i c e ρ, eget ρ j with
    | some b, some (.loc l) => (match sget s l with
      | some (.lst vs) => if vs.length < lim then .nx ρ (sput s l (.lst (vs ++ [.bl b]))) else .bad
      | _ => .bad)
    | _, _ => .bad)
  | _, _, _ => .bad
/-- the name of an except clause goes -/
def Fl.unH (i : Nat) : Fl → Fl
  | .nx ρ s => .nx (eset ρ i none) s
  | _ => .bad
/-- the clause's part -/
def catchR (sub : Nat → Nat → Bool) (c i : Nat) (h : S) (x : Exc) (ρ : Env) (s : Store) : Fl :=
  if sub x.c c = true then (if x.fs.isEmpty = true ∧ i < ρ.length then (exH sub i x.c h (eset ρ i none) s).unH i else .bad) else .exc x ρ s
/-- a try, from its body's end on -/
def Fl.tryR (f : Exc → Env → Store → Fl) : Fl → Fl
  | .exc x ρ s => f x ρ s
  | o => o
def exec (G : Gm) : S → Env → Store → Fl
  | .skip, ρ, s => .nx ρ s
  | .sq a b, ρ, s => (exec G a ρ s).sq (exec G b)
  | .pass, ρ, s => .nx ρ s
  | .cont, ρ, s => .ct ρ s
  | .ex e, ρ, s => (ev G e ρ s).fl ρ fun _ s => .nx ρ s
  | .asg g e, ρ, s => (ev G e ρ s).fl ρ fun v s => Fl.ob (tgSet g v ρ) fun ρ' => .nx ρ' s
  | .asgL is e, ρ, s => (ev G e ρ s).fl ρ fun v s => Fl.ob (lstV s v) fun vs => Fl.ob (esets ρ is vs) fun ρ' => .nx ρ' s
  | .asgA a f e, ρ, s => (ev G e ρ s).fl ρ fun v s => (ev G a ρ s).fl ρ fun x s => (setat x f v s).fl ρ fun _ s => .nx ρ s
  | .asgS a i e, ρ, s => (ev G e ρ s).fl ρ fun v s => (ev G a ρ s).fl ρ fun x s => (ev G i ρ s).fl ρ fun y s => (setix x y v s).fl ρ fun _ s => .nx ρ s
  | .asgX a i b j e f, ρ, s => (ev G e ρ s).fl ρ fun v s => (ev G f ρ s).fl ρ fun w s => (ev G a ρ s).fl ρ fun x s => (ev G i ρ s).fl ρ fun y s => (setix x y v s).fl ρ fun _ s => (ev G b ρ s).fl ρ fun x s => (ev G j ρ s).fl ρ fun y s => (setix x y w s).fl ρ fun _ s => .nx ρ s
  | .aug i o e, ρ, s => Fl.ob (eget ρ i) fun x => (ev G e ρ s).fl ρ fun y s => (augop o x y s).fl ρ fun z s => .nx (eset ρ i (some z)) s
  | .augA a f o e, ρ, s => (ev G a ρ s).fl ρ fun x s => (getat x f s).fl ρ fun v s => (ev G e ρ s).fl ρ fun y s2 => (augop o v y s2).fl ρ fun z s3 => if clsAt x s3 = clsAt x s then (setat x f z s3).fl ρ fun _ s => .nx ρ s else .bad
  | .augS a i o e, ρ, s => (ev G a ρ s).fl ρ fun x s => (ev G i ρ s).fl ρ fun k s => (getl x k s).fl ρ fun v s => (ev G e ρ s).fl ρ fun y s => (augop o v y s).fl ρ fun z s =>
    (setix x k z s).fl ρ fun _ s => .nx ρ s
  | .ret e, ρ, s => (ev G e ρ s).fl ρ fun v s => .rt v s
  | .retN, _, s => .rt .non s
  | .ife t a b, ρ, s => (ev G t ρ s).fl ρ fun x s => Fl.tb (truth s x) (exec G a ρ s) (exec G b ρ s)
  | .whl t b, ρ, s => whlR (ev G t) (exec G b) G.fuel ρ s
  | .fr g it b, ρ, s => (evw G it ρ s).fl ρ fun w s => forW w (fun x ρ s => Fl.ob (tgSet g x ρ) fun ρ' => exec G b ρ' s) ρ s
  | .frd g d b, ρ, s => (ev G d ρ s).fl ρ fun v s => frDic v (fun x ρ s => Fl.ob (tgSet g x ρ) fun ρ' => exec G b ρ' s) ρ s
  | .raise c _, ρ, s => .exc ⟨c, []⟩ ρ s
  | .try_ b c (some i) h, ρ, s => (exec G b ρ s).tryR (catchR G.sub c i h)
  | .try_ _ _ none _, _, _ => .bad
  | .bad, _, _ => .bad

/-! ### defs -/
structure Fn where
  np : Nat
  nn : Nat
  body : S
structure Pg where
  fns : List Fn
  meth : Nat → Nat → Option Nat
  init : Nat → Option Nat
  fuel : Nat
  sub : Nat → Nat → Bool := fun _ _ => false
def startE (nn : Nat) (vs : List Val) : Env := vs.map some ++ List.replicate (nn - vs.length) none
def Fl.res (r : Fl) : R Val := match r with
  | .nx _ s => .ok .non s
  | .rt v s => .ok v s
  | .exc x _ s => .exc x s
  | _ => .bad
@[simp] theorem Fl.res_nx (ρ : Env) (s : Store) : (Fl.nx ρ s).res = .ok .non s := (rfl)
@[simp] theorem Fl.res_rt (v : Val) (s : Store) : (Fl.rt v s).res = .ok v s := (rfl)
@[simp] theorem Fl.res_exc (x : Exc) (ρ : Env) (s : Store) : (Fl.exc x ρ s).res = .exc x s := (rfl)
def gmOf (p : Pg) (c : Nat → List Val → Store → R Val) : Gm := { call := c, meth := p.meth, init := p.init, fuel := p.fuel, sub := p.sub }
/-- a def called, d levels deep at most -/
def callD (p : Pg) : Nat → Nat → List Val → Store → R Val
  | 0, _, _, _ => .bad
  | d + 1, f, vs, s => (match p.fns[f]? with
    | some F => if vs.length = F.np then (exec (gmOf p (callD p d)) F.body (startE F.nn vs) s).res else .bad
    | none => .bad)
abbrev gmD (p : Pg) (d : Nat) : Gm := gmOf p (callD p d)
theorem callD_succ (p : Pg) (d f : Nat) (vs : List Val) (s : Store) {F : Fn} (h : p.fns[f]? = some F) (hl : vs.length = F.np) :
    callD p (d + 1) f vs s = (exec (gmD p d) F.body (startE F.nn vs) s).res := by
  show (match p.fns[f]? with
    | some F => if vs.length = F.np then (exec (gmOf p (callD p d)) F.body (startE F.nn vs) s).res else .bad
    | none => .bad) = _
  rw [h]
  exact if_pos hl
end Ov

/-! What the evaluator's values and store stand for. -/
namespace Ov
open PySem PySem.Spec L2

/-- the program's tables: the written part, attribute names, classes by number -/
structure Tb where
  K : PySem.W.Frag
  names : List Str
  cls : Nat → Option Addr
  exc : Nat → Option Addr

def TupAt (T : Tb) (H : Hp) (a : Addr) (xs : List V) : Prop := H a = some (.tup xs)
theorem TupAt.sqT {T : Tb} {H : Hp} {a : Addr} {xs : List V} (h : TupAt T H a xs) : SqT T.K H a xs := .inl (.inl h)
/-- a written tuple -/
def KtpAt (T : Tb) (a : Addr) (xs : List V) : Prop := ∃ (o : Obj) (its : Array Value) (n : Nat), T.K.lookup a = some o ∧ o.cls = .type "tuple" ∧ o.data = .seq its n ∧ its.size ≤ sizeLine ∧ Vals xs its.toList
theorem KtpAt.sqT {T : Tb} {H : Hp} {a : Addr} {xs : List V} (h : KtpAt T a xs) : SqT T.K H a xs := .inr h
mutual
def RepV (T : Tb) (as : List Addr) (H : Hp) : Val → V → Prop
  | .non, x => x = .non
  | .bl b, x => x = .bl b
  | .int i, x => x = .int i
  | .str z, x => x = .str z
  | .loc l, x => ∃ a, as[l]? = some a ∧ x = .ref a
  | .tup vs, x => ∃ a xs, x = .ref a ∧ TupAt T H a xs ∧ RepVs T as H vs xs
  | .ktp vs, x => ∃ a xs, x = .ref a ∧ KtpAt T a xs ∧ RepVs T as H vs xs
def RepVs (T : Tb) (as : List Addr) (H : Hp) : List Val → List V → Prop
  | [], xs => xs = []
  | v :: vs, xs => ∃ x r, xs = x :: r ∧ RepV T as H v x ∧ RepVs T as H vs r
end
/-- more objects, the old ones' tuples as they were, what is not ours as it was -/
structure Ext (as : List Addr) (H : Hp) (as' : List Addr) (H' : Hp) : Prop where
  pre : ∃ more, as' = as ++ more ∧ ∀ a ∈ more, H a = none
  fr : ∀ a o, a ∉ as → H a = some o → H' a = some o
  st : ∀ a, H a ≠ none → H' a ≠ none
  tp : ∀ a xs, H a = some (.tup xs) → H' a = some (.tup xs)
  fz : ∀ a o u, H a = some (.frz o u) → H' a = some (.frz o u)
theorem Ext.refl (as : List Addr) (H : Hp) : Ext as H as H := ⟨⟨[], by simp, by simp⟩, fun _ _ _ h => h, fun _ h => h, fun _ _ h => h, fun _ _ _ h => h⟩
theorem Ext.trans {as as1 as2 : List Addr} {H H1 H2 : Hp} (a : Ext as H as1 H1) (b : Ext as1 H1 as2 H2) : Ext as H as2 H2 := by
  obtain ⟨m, rfl, hm⟩ := a.pre
  obtain ⟨m2, rfl, hm2⟩ := b.pre
  refine ⟨⟨m ++ m2, by simp, fun x hx => ?_⟩, fun x o n h => ?_, fun x h => b.st x (a.st x h), fun x xs h => b.tp _ _ (a.tp _ _ h), fun x o u h => b.fz _ _ _ (a.fz _ _ _ h)⟩
  · rcases List.mem_append.mp hx with h | h
    · exact hm x h
    · have z := hm2 x h
      cases q : H x with
      | none => rfl
      | some o => exact absurd z (a.st x (by rw [q]; simp))
  · refine b.fr x o (fun hx => ?_) (a.fr x o n h)
    rcases List.mem_append.mp hx with h' | h'
    · exact n h'
    · rw [hm x h'] at h; cases h
theorem Ext.as_get {as as' : List Addr} {H H' : Hp} (e : Ext as H as' H') {l : Nat} {a : Addr} (h : as[l]? = some a) : as'[l]? = some a := by
  obtain ⟨m, rfl, _⟩ := e.pre
  rw [List.getElem?_append_left (List.getElem?_eq_some_iff.mp h).1]
  exact h
theorem TupAt.ext {T : Tb} {as as' : List Addr} {H H' : Hp} (e : Ext as H as' H') {a : Addr} {xs : List V} (h : TupAt T H a xs) : TupAt T H' a xs := e.tp _ _ h
section
variable {T : Tb} {as as' : List Addr} {H H' : Hp}
mutual
theorem RepV.ext (e : Ext as H as' H') : ∀ (v : Val) (x : V), RepV T as H v x → RepV T as' H' v x
  | .non, _, h => h
  | .bl _, _, h => h
  | .int _, _, h => h
  | .str _, _, h => h
  | .loc l, x, h => by
    obtain ⟨a, h1, h2⟩ := h
    exact ⟨a, e.as_get h1, h2⟩
  | .tup vs, x, h => by
    obtain ⟨a, xs, h1, h2, h3⟩ := h
    exact ⟨a, xs, h1, h2.ext e, RepVs.ext e vs xs h3⟩
  | .ktp vs, x, h => by
    obtain ⟨a, xs, h1, h2, h3⟩ := h
    exact ⟨a, xs, h1, h2, RepVs.ext e vs xs h3⟩
theorem RepVs.ext (e : Ext as H as' H') : ∀ (vs : List Val) (xs : List V), RepVs T as H vs xs → RepVs T as' H' vs xs
  | [], _, h => h
  | v :: vs, xs, h => by
    obtain ⟨x, r, h1, h2, h3⟩ := h
    exact ⟨x, r, h1, RepV.ext e v x h2, RepVs.ext e vs r h3⟩
end
theorem RepVs.nil : RepVs T as H [] [] := rfl
theorem RepVs.cons {v : Val} {x : V} {vs : List Val} {xs : List V} (h : RepV T as H v x) (t : RepVs T as H vs xs) : RepVs T as H (v :: vs) (x :: xs) := ⟨x, xs, rfl, h, t⟩
theorem RepVs.length : ∀ {vs : List Val} {xs : List V}, RepVs T as H vs xs → vs.length = xs.length
  | [], _, h => by cases h; rfl
  | _ :: vs, _, h => by
    obtain ⟨x, r, rfl, _, h3⟩ := h
    simp [RepVs.length h3]
theorem RepVs.append : ∀ {vs ws : List Val} {xs ys : List V}, RepVs T as H vs xs → RepVs T as H ws ys → RepVs T as H (vs ++ ws) (xs ++ ys)
  | [], _, _, _, h, g => by cases h; exact g
  | _ :: vs, _, _, _, h, g => by
    obtain ⟨x, r, rfl, h2, h3⟩ := h
    exact ⟨x, _, rfl, h2, RepVs.append h3 g⟩
theorem RepVs.get : ∀ {vs : List Val} {xs : List V} {i : Nat} {v : Val}, RepVs T as H vs xs → vs[i]? = some v → ∃ x, xs[i]? = some x ∧ RepV T as H v x
  | [], _, _, _, _, e => by simp at e
  | w :: vs, _, 0, v, h, e => by
    obtain ⟨x, r, rfl, h2, h3⟩ := h
    simp at e; subst e
    exact ⟨x, rfl, h2⟩
  | w :: vs, _, i + 1, v, h, e => by
    obtain ⟨x, r, rfl, h2, h3⟩ := h
    obtain ⟨y, q1, q2⟩ := RepVs.get (i := i) h3 (by simpa using e)
    exact ⟨y, by simpa using q1, q2⟩
theorem RepVs.drop : ∀ {vs : List Val} {xs : List V} (n : Nat), RepVs T as H vs xs → RepVs T as H (vs.drop n) (xs.drop n)
  | _, _, 0, h => h
  | [], _, _ + 1, h => by cases h; rfl
  | _ :: _, _, n + 1, h => by
    obtain ⟨x, r, rfl, _, h3⟩ := h
    exact RepVs.drop n h3
theorem RepVs.take : ∀ {vs : List Val} {xs : List V} (n : Nat), RepVs T as H vs xs → RepVs T as H (vs.take n) (xs.take n)
  | _, _, 0, _ => rfl
  | [], _, _ + 1, h => by cases h; rfl
  | _ :: _, _, n + 1, h => by
    obtain ⟨x, r, rfl, h2, h3⟩ := h
    exact ⟨x, _, rfl, h2, RepVs.take n h3⟩
theorem RepVs.set {w : Val} {y : V} (hw : RepV T as H w y) : ∀ {vs : List Val} {xs : List V} (n : Nat), RepVs T as H vs xs → RepVs T as H (vs.set n w) (xs.set n y)
  | [], _, _, h => by cases h; exact rfl
  | _ :: _, _, 0, h => by
    obtain ⟨x, r, rfl, _, h3⟩ := h
    exact ⟨y, r, rfl, hw, h3⟩
  | _ :: _, _, n + 1, h => by
    obtain ⟨x, r, rfl, h2, h3⟩ := h
    exact ⟨x, _, rfl, h2, RepVs.set hw n h3⟩
theorem RepVs.eraseIdx : ∀ {vs : List Val} {xs : List V} (n : Nat), RepVs T as H vs xs → RepVs T as H (vs.eraseIdx n) (xs.eraseIdx n)
  | [], _, _, h => by cases h; exact rfl
  | _ :: _, _, 0, h => by
    obtain ⟨x, r, rfl, _, h3⟩ := h
    exact h3
  | _ :: _, _, n + 1, h => by
    obtain ⟨x, r, rfl, h2, h3⟩ := h
    exact ⟨x, _, rfl, h2, RepVs.eraseIdx n h3⟩
theorem RepVs.dropLast {vs : List Val} {xs : List V} (h : RepVs T as H vs xs) : RepVs T as H vs.dropLast xs.dropLast := by
  rw [List.dropLast_eq_take, List.dropLast_eq_take, h.length]
  exact h.take _
theorem RepVs.ints : ∀ {vs : List Val} {ns : List Int} {xs : List V}, intsOf vs = some ns → RepVs T as H vs xs → xs = ns.map V.int
  | [], ns, xs, e, h => by cases e; cases h; rfl
  | .int i :: vs, ns, xs, e, h => by
    obtain ⟨x, r, rfl, h2, h3⟩ := h
    cases q : intsOf vs with
    | none => simp [intsOf, q] at e
    | some ms =>
      simp [intsOf, q] at e
      subst e
      rw [RepVs.ints q h3, show x = .int i from h2]; rfl
  | .non :: _, _, _, e, _ => by cases e
  | .bl _ :: _, _, _, e, _ => by cases e
  | .str _ :: _, _, _, e, _ => by cases e
  | .loc _ :: _, _, _, e, _ => by cases e
  | .tup _ :: _, _, _, e, _ => by cases e
theorem RepVs.ofInts : ∀ (ns : List Int), RepVs T as H (ns.map Val.int) (ns.map V.int)
  | [] => rfl
  | n :: ns => ⟨_, _, rfl, rfl, RepVs.ofInts ns⟩
theorem RepVs.strs : ∀ {vs : List Val} {ns : List Str} {xs : List V}, strsOf vs = some ns → RepVs T as H vs xs → xs = ns.map V.str
  | [], ns, xs, e, h => by cases e; cases h; rfl
  | .str i :: vs, ns, xs, e, h => by
    obtain ⟨x, r, rfl, h2, h3⟩ := h
    cases q : strsOf vs with
    | none => simp [strsOf, q] at e
    | some ms =>
      simp [strsOf, q] at e
      subst e
      rw [RepVs.strs q h3, show x = .str i from h2]; rfl
  | .non :: _, _, _, e, _ => by cases e
  | .bl _ :: _, _, _, e, _ => by cases e
  | .int _ :: _, _, _, e, _ => by cases e
  | .loc _ :: _, _, _, e, _ => by cases e
  | .tup _ :: _, _, _, e, _ => by cases e
theorem RepVs.ofStrs : ∀ (ns : List Str), RepVs T as H (ns.map Val.str) (ns.map V.str)
  | [] => rfl
  | n :: ns => ⟨_, _, rfl, rfl, RepVs.ofStrs ns⟩
end

/-! ### objects -/
def kVal : Key → Val
  | .inl i => .int i
  | .inr z => .str z
def RepK (T : Tb) (as : List Addr) (H : Hp) : List (Val × Val) → List (Key × V) → Prop
  | [], ks => ks = []
  | (k, v) :: r, ks => ∃ q x rs, ks = (q, x) :: rs ∧ k = kVal q ∧ RepV T as H v x ∧ RepK T as H r rs
def RepT (T : Tb) (as : List Addr) (H : Hp) : List (Val × Val) → List (List Key × V) → Prop
  | [], ks => ks = []
  | (k, v) :: r, ks => ∃ q x rs, ks = (q, x) :: rs ∧ k = .tup (q.map kVal) ∧ RepV T as H v x ∧ RepT T as H r rs
def RepF (T : Tb) (as : List Addr) (H : Hp) : List (Nat × Val) → List (Str × V) → Prop
  | [], gs => gs = []
  | (f, v) :: r, gs => ∃ n x rs, gs = (n, x) :: rs ∧ T.names[f]? = some n ∧ RepV T as H v x ∧ RepF T as H r rs
def ObR (T : Tb) (as : List Addr) (H : Hp) (a : Addr) : Ob → Prop
  | .lst vs => ∃ xs, H a = some (.lst xs) ∧ RepVs T as H vs xs
  | .rol vs => ∃ o xs, H a = some (.frz o (.lst xs)) ∧ RepVs T as H vs xs
  | .dic false kvs => ∃ ks, H a = some (.dK ks) ∧ RepK T as H kvs ks
  | .dic true kvs => ∃ ks, H a = some (.dT ks) ∧ RepT T as H kvs ks
  | .rod false kvs => ∃ o ks, H a = some (.frz o (.dK ks)) ∧ RepK T as H kvs ks
  | .rod true kvs => ∃ o ks, H a = some (.frz o (.dT ks)) ∧ RepT T as H kvs ks
  | .ins c fs => ∃ C dx gs, T.cls c = some C ∧ H a = some (.ins C dx gs) ∧ RepF T as H fs gs
section
variable {T : Tb} {as as' : List Addr} {H H' : Hp} {a : Addr}
theorem RepK.ext (e : Ext as H as' H') : ∀ {kvs : List (Val × Val)} {ks : List (Key × V)}, RepK T as H kvs ks → RepK T as' H' kvs ks
  | [], _, h => h
  | (k, v) :: r, _, h => by
    obtain ⟨q, x, rs, h1, h2, h3, h4⟩ := h
    exact ⟨q, x, rs, h1, h2, RepV.ext e _ _ h3, RepK.ext e h4⟩
theorem RepT.ext (e : Ext as H as' H') : ∀ {kvs : List (Val × Val)} {ks : List (List Key × V)}, RepT T as H kvs ks → RepT T as' H' kvs ks
  | [], _, h => h
  | (k, v) :: r, _, h => by
    obtain ⟨q, x, rs, h1, h2, h3, h4⟩ := h
    exact ⟨q, x, rs, h1, h2, RepV.ext e _ _ h3, RepT.ext e h4⟩
theorem RepF.ext (e : Ext as H as' H') : ∀ {fs : List (Nat × Val)} {gs : List (Str × V)}, RepF T as H fs gs → RepF T as' H' fs gs
  | [], _, h => h
  | (k, v) :: r, _, h => by
    obtain ⟨q, x, rs, h1, h2, h3, h4⟩ := h
    exact ⟨q, x, rs, h1, h2, RepV.ext e _ _ h3, RepF.ext e h4⟩
/-- an object whose own place is as it was -/
theorem ObR.ext (e : Ext as H as' H') (ha : H' a = H a) : ∀ {o : Ob}, ObR T as H a o → ObR T as' H' a o
  | .lst vs, h => by
    obtain ⟨xs, h1, h2⟩ := h
    exact ⟨xs, by rw [ha]; exact h1, RepVs.ext e _ _ h2⟩
  | .rol vs, h => by
    obtain ⟨o, xs, h1, h2⟩ := h
    exact ⟨o, xs, by rw [ha]; exact h1, RepVs.ext e _ _ h2⟩
  | .dic false kvs, h => by
    obtain ⟨xs, h1, h2⟩ := h
    exact ⟨xs, by rw [ha]; exact h1, h2.ext e⟩
  | .dic true kvs, h => by
    obtain ⟨xs, h1, h2⟩ := h
    exact ⟨xs, by rw [ha]; exact h1, h2.ext e⟩
  | .rod false kvs, h => by
    obtain ⟨o, xs, h1, h2⟩ := h
    exact ⟨o, xs, by rw [ha]; exact h1, h2.ext e⟩
  | .rod true kvs, h => by
    obtain ⟨o, xs, h1, h2⟩ := h
    exact ⟨o, xs, by rw [ha]; exact h1, h2.ext e⟩
  | .ins c fs, h => by
    obtain ⟨C, dx, gs, h1, h2, h3⟩ := h
    exact ⟨C, dx, gs, h1, by rw [ha]; exact h2, h3.ext e⟩
theorem ObR.some : ∀ {o : Ob}, ObR T as H a o → H a ≠ none
  | .lst vs, h => by
    obtain ⟨xs, h1, h2⟩ := h
    rw [h1]; simp
  | .rol vs, h => by
    obtain ⟨o, xs, h1, h2⟩ := h
    rw [h1]; simp
  | .dic false kvs, h => by
    obtain ⟨xs, h1, h2⟩ := h
    rw [h1]; simp
  | .dic true kvs, h => by
    obtain ⟨xs, h1, h2⟩ := h
    rw [h1]; simp
  | .rod false kvs, h => by
    obtain ⟨o, xs, h1, h2⟩ := h
    rw [h1]; simp
  | .rod true kvs, h => by
    obtain ⟨o, xs, h1, h2⟩ := h
    rw [h1]; simp
  | .ins c fs, h => by
    obtain ⟨C, dx, gs, h1, h2, h3⟩ := h
    rw [h2]; simp
theorem ObR.notup : ∀ {o : Ob} {xs : List V}, ObR T as H a o → H a ≠ Option.some (.tup xs)
  | .lst vs, _, h => by
    obtain ⟨xs, h1, h2⟩ := h
    rw [h1]; intro z; cases z
  | .rol vs, _, h => by
    obtain ⟨o, xs, h1, h2⟩ := h
    rw [h1]; intro z; cases z
  | .dic false kvs, _, h => by
    obtain ⟨xs, h1, h2⟩ := h
    rw [h1]; intro z; cases z
  | .dic true kvs, _, h => by
    obtain ⟨xs, h1, h2⟩ := h
    rw [h1]; intro z; cases z
  | .rod false kvs, _, h => by
    obtain ⟨o, xs, h1, h2⟩ := h
    rw [h1]; intro z; cases z
  | .rod true kvs, _, h => by
    obtain ⟨o, xs, h1, h2⟩ := h
    rw [h1]; intro z; cases z
  | .ins c fs, _, h => by
    obtain ⟨C, dx, gs, h1, h2, h3⟩ := h
    rw [h2]; intro z; cases z
end

/-! ### the store -/
structure Rel (T : Tb) (as : List Addr) (H : Hp) (s : Store) : Prop where
  len : as.length = slen s
  nd : as.Nodup
  ob : ∀ l o, sget s l = some o → ∃ a, as[l]? = some a ∧ ObR T as H a o
section
variable {T : Tb} {as : List Addr} {H : Hp} {s : Store}
theorem Rel.at (r : Rel T as H s) {l : Nat} {a : Addr} (h : as[l]? = some a) : ∃ o, sget s l = some o ∧ ObR T as H a o := by
  have hl : l < slen s := by
    rw [← r.len]
    exact (List.getElem?_eq_some_iff.mp h).1
  have e : sget s l = some (s[l]'hl) := List.getElem?_eq_getElem hl
  obtain ⟨b, hb, ho⟩ := r.ob l _ e
  rw [hb] at h
  cases h
  exact ⟨_, e, ho⟩
theorem Rel.mem (r : Rel T as H s) {a : Addr} (h : a ∈ as) : ∃ l o, as[l]? = some a ∧ sget s l = some o ∧ ObR T as H a o := by
  obtain ⟨l, hl⟩ := List.getElem?_of_mem h
  obtain ⟨o, h1, h2⟩ := r.at hl
  exact ⟨l, o, hl, h1, h2⟩
theorem Rel.fresh (r : Rel T as H s) {p : Addr} (hp : H p = none) : p ∉ as := fun h => by
  obtain ⟨l, o, _, _, h2⟩ := r.mem h
  exact h2.some hp
/-- a thing that is not ours is laid -/
theorem Ext.lay {p : Addr} {o : HO} (hp : H p = none) : Ext as H as (upd H p o) :=
  ⟨⟨[], by simp, by simp⟩, fun a u _ h => by rw [upd_ne (ne_of_none h hp)]; exact h, fun a h => by
    by_cases e : a = p
    · subst e; exact absurd hp h
    · rw [upd_ne e]; exact h, fun a xs h => by rw [upd_ne (ne_of_none h hp)]; exact h, fun a _ _ h => by rw [upd_ne (ne_of_none h hp)]; exact h⟩
theorem Rel.lay (r : Rel T as H s) {p : Addr} {o : HO} (hp : H p = none) : Rel T as (upd H p o) s := by
  refine ⟨r.len, r.nd, fun l o' h => ?_⟩
  obtain ⟨a, h1, h2⟩ := r.ob l o' h
  refine ⟨a, h1, h2.ext (Ext.lay hp) ?_⟩
  have ne : a ≠ p := fun e => r.fresh hp (e ▸ List.mem_of_getElem? h1)
  exact upd_ne ne
/-- more of what is not ours -/
theorem Rel.grow (r : Rel T as H s) {H' : Hp} (e : Ext as H as H') (k : ∀ a ∈ as, H' a = H a) : Rel T as H' s := by
  refine ⟨r.len, r.nd, fun l o' h => ?_⟩
  obtain ⟨a, h1, h2⟩ := r.ob l o' h
  exact ⟨a, h1, h2.ext e (k a (List.mem_of_getElem? h1))⟩
/-- an object of ours is laid -/
theorem Ext.new {p : Addr} {o : HO} (hp : H p = none) : Ext as H (as ++ [p]) (upd H p o) :=
  ⟨⟨[p], rfl, fun a h => by rw [List.mem_singleton.mp h]; exact hp⟩, (Ext.lay (as := as) hp).fr, (Ext.lay (as := as) hp).st, (Ext.lay (as := as) hp).tp, (Ext.lay (as := as) hp).fz⟩
theorem Rel.new (r : Rel T as H s) {p : Addr} {o : HO} {b : Ob} (hp : H p = none) (hb : ObR T (as ++ [p]) (upd H p o) p b) : Rel T (as ++ [p]) (upd H p o) (snew s b) := by
  refine ⟨by rw [List.length_append, r.len]; unfold slen snew; simp, ?_, fun l o' h => ?_⟩
  · rw [List.nodup_append]
    refine ⟨r.nd, by simp, fun a ha b hb => ?_⟩
    rw [List.mem_singleton.mp hb]
    exact fun e => r.fresh hp (e ▸ ha)
  · by_cases e : l < slen s
    · have h' : sget s l = some o' := by
        unfold sget snew at h
        rw [List.getElem?_append_left e] at h
        exact h
      obtain ⟨a, h1, h2⟩ := r.ob l o' h'
      refine ⟨a, (Ext.new (o := o) hp).as_get h1, h2.ext (Ext.new hp) (upd_ne fun e => r.fresh hp (e ▸ List.mem_of_getElem? h1))⟩
    · have e2 : l = slen s := by
        unfold sget snew at h
        have := (List.getElem?_eq_some_iff.mp h).1
        rw [List.length_append, List.length_singleton] at this
        have : l < slen s + 1 := this
        omega
      subst e2
      have e3 : b = o' := by
        unfold sget snew slen at h
        simpa using h
      subst e3
      exact ⟨p, by rw [← r.len]; simp, hb⟩
theorem getElem?_inj {α : Type} {as : List α} (nd : as.Nodup) {i j : Nat} {a : α} (h1 : as[i]? = some a) (h2 : as[j]? = some a) : i = j := by
  obtain ⟨l1, e1⟩ := List.getElem?_eq_some_iff.mp h1
  obtain ⟨l2, e2⟩ := List.getElem?_eq_some_iff.mp h2
  exact (List.getElem_inj nd).mp (e1.trans e2.symm)
/-- an object of ours is changed -/
theorem Ext.put (r : Rel T as H s) {l : Nat} {a : Addr} {o : HO} (h : as[l]? = some a) (hz : ∀ o u, H a ≠ some (.frz o u) := by (intro _ _ z; first | cases (Eq.trans (Eq.symm ‹_ = some (HO.lst _)›) z) | cases (Eq.trans (Eq.symm ‹_ = some (HO.dK _)›) z) | cases (Eq.trans (Eq.symm ‹_ = some (HO.dT _)›) z) | cases (Eq.trans (Eq.symm ‹_ = some (HO.ins _ _ _)›) z))) : Ext as H as (upd H a o) := by
  obtain ⟨b, h1, h2⟩ := r.at h
  refine ⟨⟨[], by simp, by simp⟩, fun x u n h' => ?_, fun x h' => ?_, fun x xs h' => ?_, fun x o u h' => by
    have ne : x ≠ a := fun e => hz o u (by rw [← e]; exact h')
    rw [upd_ne ne]; exact h'⟩
  · have ne : x ≠ a := fun e => n (by rw [e]; exact List.mem_of_getElem? h)
    rw [upd_ne ne]; exact h'
  · by_cases e : x = a
    · subst e; rw [upd_same]; simp
    · rw [upd_ne e]; exact h'
  · have ne : x ≠ a := fun e => h2.notup (xs := xs) (by rw [← e]; exact h')
    rw [upd_ne ne]; exact h'
theorem Rel.put (r : Rel T as H s) {l : Nat} {a : Addr} {o : HO} {b : Ob} (h : as[l]? = some a) (hb : ObR T as (upd H a o) a b) (hz : ∀ o u, H a ≠ some (.frz o u) := by (intro _ _ z; first | cases (Eq.trans (Eq.symm ‹_ = some (HO.lst _)›) z) | cases (Eq.trans (Eq.symm ‹_ = some (HO.dK _)›) z) | cases (Eq.trans (Eq.symm ‹_ = some (HO.dT _)›) z) | cases (Eq.trans (Eq.symm ‹_ = some (HO.ins _ _ _)›) z))) : Rel T as (upd H a o) (sput s l b) := by
  refine ⟨by rw [r.len]; unfold slen sput; simp, r.nd, fun k o' h' => ?_⟩
  by_cases e : k = l
  · subst e
    have e3 : b = o' := by
      unfold sget sput at h'
      have hl : k < s.length := by
        have := (List.getElem?_eq_some_iff.mp h').1
        simpa using this
      rw [List.getElem?_set_self hl] at h'
      exact Option.some.inj h'
    subst e3
    exact ⟨a, h, hb⟩
  · have h'' : sget s k = some o' := by
      unfold sget sput at h'
      rw [List.getElem?_set_ne (fun z => e z.symm)] at h'
      exact h'
    obtain ⟨a', h1, h2⟩ := r.ob k o' h''
    have ne : a' ≠ a := fun z => e (getElem?_inj r.nd h1 (by rw [z]; exact h))
    exact ⟨a', h1, h2.ext (Ext.put r h hz) (upd_ne ne)⟩
end
end Ov

/-! == and in of the evaluator's values. -/
namespace Ov
open PySem PySem.Spec L2
section
variable {X : Cx} {pins : List (Addr × Obj)} {σ : St} {H : Hp} {s : Shared} {T : Tb} {as : List Addr} {st : Store}
/-- a list of ours to be read -/
theorem Rel.lstOf (r : Rel T as H st) {l : Nat} {vs : List Val} {a : Addr} (h : lstOf st l = some vs) (ha : as[l]? = some a) : ∃ xs, SqL T.K H a xs ∧ RepVs T as H vs xs := by
  obtain ⟨o, h1, h2⟩ := r.at ha
  unfold Ov.lstOf at h
  rw [h1] at h
  cases o with
  | lst ws =>
    cases h
    obtain ⟨xs, q1, q2⟩ := h2
    exact ⟨xs, .inl (.inl q1), q2⟩
  | rol ws =>
    cases h
    obtain ⟨o, xs, q1, q2⟩ := h2
    exact ⟨xs, .inl (.inr ⟨o, q1⟩), q2⟩
  | dic t kvs => cases h
  | rod t kvs => cases h
  | ins c fs => cases h
theorem allEq_same {f : Val → Val → Option Bool} {F : Val → V → Prop} (hf : ∀ v w x b, F v x → F w x → f v w = some b → b = true) : ∀ {vs ws : List Val} {xs : List V} {b : Bool}, Paired F vs xs → Paired F ws xs → allEq f vs ws = some b → b = true
  | [], [], _, b, _, _, h => by cases h; rfl
  | [], _ :: _, _, _, h1, h2, _ => by cases h1; cases h2
  | _ :: _, [], _, _, h1, h2, _ => by cases h2; cases h1
  | v :: vs, w :: ws, _, b, h1, h2, h => by
    cases h1 with
    | cons p1 t1 =>
      cases h2 with
      | cons p2 t2 =>
        unfold allEq at h
        cases e1 : f v w with
        | none => rw [e1] at h; cases h
        | some a =>
          cases e2 : allEq f vs ws with
          | none => rw [e1, e2] at h; cases h
          | some c =>
            rw [e1, e2] at h
            cases h
            rw [hf v w _ a p1 p2 e1, allEq_same hf t1 t2 e2]
            rfl
theorem RepVs.paired : ∀ {vs : List Val} {xs : List V}, RepVs T as H vs xs → Paired (RepV T as H) vs xs
  | [], _, h => by cases h; exact .nil
  | _ :: _, _, h => by
    obtain ⟨x, r, rfl, h2, h3⟩ := h
    exact .cons h2 (RepVs.paired h3)
/-- what one thing stands for is equal -/
theorem veq_same (I : Inv X pins σ H s) (hK : X.K = T.K) (r : Rel T as H st) : ∀ (n : Nat) (v w : Val) (x : V) (b : Bool), RepV T as H v x → RepV T as H w x → veq n st v w = some b → b = true := by
  have one : ∀ (f : Val → Val → Option Bool), (∀ v w x b, RepV T as H v x → RepV T as H w x → f v w = some b → b = true) →
      ∀ (v w : Val) (x : V) (b : Bool), RepV T as H v x → RepV T as H w x → veq1 f st v w = some b → b = true := by
    intro f hf v w x b h1 h2 h
    cases v with
    | non => cases h1; cases w <;> first | (obtain ⟨_, _, z⟩ := h2; cases z; done) | (obtain ⟨_, _, z, _⟩ := h2; cases z; done) | (cases h2; done) | (cases h; rfl)
    | bl p =>
      cases h1
      cases w <;> first | (obtain ⟨_, _, z⟩ := h2; cases z; done) | (obtain ⟨_, _, z, _⟩ := h2; cases z; done) | (cases h2; done) | skip
      rename_i q
      have e : V.bl p = V.bl q := h2
      cases e
      have h' : some (p == p) = some b := h
      simp at h'; exact h'
    | int p =>
      cases h1
      cases w <;> first | (obtain ⟨_, _, z⟩ := h2; cases z; done) | (obtain ⟨_, _, z, _⟩ := h2; cases z; done) | (cases h2; done) | skip
      rename_i q
      have e : V.int p = V.int q := h2
      cases e
      have h' : some (decide (p = p)) = some b := h
      simp at h'; exact h'
    | str p =>
      cases h1
      cases w <;> first | (obtain ⟨_, _, z⟩ := h2; cases z; done) | (obtain ⟨_, _, z, _⟩ := h2; cases z; done) | (cases h2; done) | skip
      rename_i q
      have e : V.str p = V.str q := h2
      cases e
      have h' : some (decide (p = p)) = some b := h
      simp at h'; exact h'
    | loc l =>
      obtain ⟨a, ha, rfl⟩ := h1
      cases w with
      | loc m =>
        obtain ⟨a', hb, e⟩ := h2
        cases e
        obtain rfl : l = m := getElem?_inj r.nd ha hb
        have h' : (match Ov.lstOf st l, Ov.lstOf st l with
          | some xs, some ys => if xs.length = ys.length then allEq f xs ys else some false
          | _, _ => none) = some b := h
        cases q : Ov.lstOf st l with
        | none => rw [q] at h'; cases h'
        | some vs =>
          rw [q] at h'
          simp only [if_true] at h'
          obtain ⟨xs, _, rp⟩ := r.lstOf q ha
          exact allEq_same hf rp.paired rp.paired h'
      | tup ws =>
        obtain ⟨a', xs, e, ht, _⟩ := h2
        cases e
        obtain ⟨o, q1, q2⟩ := r.at ha
        have h' : (match Ov.lstOf st l with
          | some _ => some false
          | none => none) = some b := h
        cases q : Ov.lstOf st l with
        | none => rw [q] at h'; cases h'
        | some vs =>
          obtain ⟨ys, hs, _⟩ := r.lstOf q ha
          have hs' : SqL X.K H a ys := by rw [hK]; exact hs
          have ht' : SqT X.K H a xs := by rw [hK]; exact ht.sqT
          obtain ⟨_, _, ⟨o1, n1, e1, c1, _⟩, _⟩ := I.list hs'
          obtain ⟨_, _, ⟨o2, e2, c2, _⟩, _⟩ := I.tuple ht'
          rw [e1] at e2
          cases e2
          rw [c1] at c2
          injection c2 with z
          exact absurd z (by decide)
      | non => cases h2
      | bl _ => cases h2
      | int _ => cases h2
      | str _ => cases h2
      | ktp ws => cases h
    | tup vs =>
      obtain ⟨a, xs, rfl, ht, hp⟩ := h1
      cases w with
      | loc m =>
        obtain ⟨a', hb, e⟩ := h2
        cases e
        have h' : (match Ov.lstOf st m with
          | some _ => some false
          | none => none) = some b := h
        cases q : Ov.lstOf st m with
        | none => rw [q] at h'; cases h'
        | some vs =>
          obtain ⟨ys, hs, _⟩ := r.lstOf q hb
          have hs' : SqL X.K H a ys := by rw [hK]; exact hs
          have ht' : SqT X.K H a xs := by rw [hK]; exact ht.sqT
          obtain ⟨_, _, ⟨o1, n1, e1, c1, _⟩, _⟩ := I.list hs'
          obtain ⟨_, _, ⟨o2, e2, c2, _⟩, _⟩ := I.tuple ht'
          rw [e1] at e2
          cases e2
          rw [c1] at c2
          injection c2 with z
          exact absurd z (by decide)
      | tup ws =>
        obtain ⟨a', ys, e, ht', hp'⟩ := h2
        cases e
        obtain rfl : xs = ys := I.tuple_inj (by rw [hK]; exact ht.sqT) (by rw [hK]; exact ht'.sqT)
        exact allEq_same hf hp.paired hp'.paired h
      | non => cases h2
      | bl _ => cases h2
      | int _ => cases h2
      | str _ => cases h2
      | ktp ws => cases h
    | ktp vs =>
      obtain ⟨a, xs, rfl, ht, hp⟩ := h1
      cases w with
      | tup ws =>
        obtain ⟨a', ys, e, ht', hp'⟩ := h2
        cases e
        obtain rfl : xs = ys := I.tuple_inj (by rw [hK]; exact ht.sqT) (by rw [hK]; exact ht'.sqT)
        exact allEq_same hf hp.paired hp'.paired h
      | _ => cases h
  intro n
  induction n with
  | zero => exact one _ (fun _ _ _ _ _ _ z => by cases z)
  | succ n ih => exact one _ ih

theorem allEq_length {f : Val → Val → Option Bool} : ∀ {vs ws : List Val}, allEq f vs ws = some true → vs.length = ws.length
  | [], [], _ => rfl
  | [], _ :: _, h => by cases h
  | _ :: _, [], h => by cases h
  | v :: vs, w :: ws, h => by
    unfold allEq at h
    cases e1 : f v w with
    | none => rw [e1] at h; cases h
    | some a =>
      cases e2 : allEq f vs ws with
      | none => rw [e1, e2] at h; cases h
      | some c =>
        rw [e1, e2] at h
        simp only [Option.some.injEq, Bool.and_eq_true] at h
        rw [h.2] at e2
        simp [allEq_length e2]
/-- item by item: each pair has its answer; together they are the answer -/
theorem allEq_items {f : Val → Val → Option Bool} : ∀ {vs ws : List Val} {b : Bool}, allEq f vs ws = some b →
    ∃ e : Nat → Bool, (∀ (j : Nat) (v w : Val), vs[j]? = some v → ws[j]? = some w → f v w = some (e j)) ∧ b = ((List.range (min vs.length ws.length)).all e && vs.length == ws.length)
  | [], [], b, h => by cases h; exact ⟨fun _ => true, fun j v w q => by simp at q, rfl⟩
  | [], _ :: _, b, h => by cases h; exact ⟨fun _ => true, fun j v w q => by simp at q, by simp⟩
  | _ :: _, [], b, h => by cases h; exact ⟨fun _ => true, fun j v w _ q => by simp at q, by simp⟩
  | v :: vs, w :: ws, b, h => by
    unfold allEq at h
    cases e1 : f v w with
    | none => rw [e1] at h; cases h
    | some a =>
      cases e2 : allEq f vs ws with
      | none => rw [e1, e2] at h; cases h
      | some c =>
        rw [e1, e2] at h
        cases h
        obtain ⟨e, h1, h2⟩ := allEq_items e2
        refine ⟨fun j => match j with
          | 0 => a
          | j + 1 => e j, fun j x y q1 q2 => ?_, ?_⟩
        · cases j with
          | zero =>
            simp at q1 q2
            subst q1 q2
            exact e1
          | succ j => exact h1 j x y (by simpa using q1) (by simpa using q2)
        · rw [h2]
          simp only [List.length_cons]
          have hm : min (vs.length + 1) (ws.length + 1) = min vs.length ws.length + 1 := by omega
          rw [hm, List.range_succ_eq_map, List.all_cons, List.all_map]
          simp [Bool.and_assoc, Function.comp_def]

theorem isL (I : Inv X pins σ H s) (hK : X.K = T.K) (r : Rel T as H st) {l : Nat} {vs : List Val} {a : Addr} (h : lstOf st l = some vs) (ha : as[l]? = some a) :
    ∃ (xs : List V) (its : List Value), RepVs T as H vs xs ∧ Vals xs its ∧ s.heap.IsList a its.toArray := by
  obtain ⟨xs, hs, hp⟩ := r.lstOf h ha
  have hs' : SqL X.K H a xs := by rw [hK]; exact hs
  obtain ⟨its, rv, p, _⟩ := I.list hs'
  exact ⟨xs, its, hp, rv, p.isList⟩
theorem isT (I : Inv X pins σ H s) (hK : X.K = T.K) {xs : List V} {a : Addr} (h : TupAt T H a xs) :
    ∃ (its : List Value), Vals xs its ∧ s.heap.IsTuple a its.toArray := by
  have hs' : SqT X.K H a xs := by rw [hK]; exact h.sqT
  obtain ⟨its, rv, p, _⟩ := I.tuple hs'
  exact ⟨its, rv, p⟩
theorem isK (I : Inv X pins σ H s) (hK : X.K = T.K) {xs : List V} {a : Addr} (h : KtpAt T a xs) :
    ∃ (its : List Value), Vals xs its ∧ s.heap.IsTuple a its.toArray := by
  have hs' : SqT X.K H a xs := by rw [hK]; exact h.sqT
  obtain ⟨its, rv, p, _⟩ := I.tuple hs'
  exact ⟨its, rv, p⟩
section
open SeqAt
variable {f : Val → Val → Option Bool} {A : Around}
theorem items_eq (hf : ∀ v w x y u u' b, f v w = some b → RepV T as H v x → RepV T as H w y → RelV x u → RelV y u' → EqAt A.in1 s u u' b) {vs ws : List Val} {xs ys : List V} {us us' : List Value}
    (p : RepVs T as H vs xs) (q : RepVs T as H ws ys) (rp : Vals xs us) (rq : Vals ys us') {e : Nat → Bool} (he : ∀ (j : Nat) (v w : Val), vs[j]? = some v → ws[j]? = some w → f v w = some (e j)) :
    ∀ j (h1 : j < us.toArray.size) (h2 : j < us'.toArray.size), EqAt A.in1 s us.toArray[j] us'.toArray[j] (e j) := by
  intro j h1 h2
  have l1 : vs.length = us.length := p.length.trans rp.length
  have l2 : ws.length = us'.length := q.length.trans rq.length
  have h1' : j < vs.length := by rw [l1]; simpa using h1
  have h2' : j < ws.length := by rw [l2]; simpa using h2
  have e1 : vs[j]? = some vs[j] := List.getElem?_eq_getElem h1'
  have e2 : ws[j]? = some ws[j] := List.getElem?_eq_getElem h2'
  obtain ⟨x, hx, rx⟩ := p.get e1
  obtain ⟨y, hy, ry⟩ := q.get e2
  obtain ⟨u, hu, ru⟩ := rp.get hx
  obtain ⟨u', hu', ru'⟩ := rq.get hy
  have z := hf _ _ _ _ _ _ _ (he j _ _ e1 e2) rx ry ru ru'
  have g1 : us.toArray[j] = u := by
    have := (List.getElem?_eq_some_iff.mp hu).2
    simpa using this
  have g2 : us'.toArray[j] = u' := by
    have := (List.getElem?_eq_some_iff.mp hu').2
    simpa using this
  rw [g1, g2]
  exact z
theorem rc_one (I : Inv X pins σ H s) (hK : X.K = T.K) (r : Rel T as H st) (hu : A.units < cLine)
    (hf : ∀ v w x y u u' b, f v w = some b → RepV T as H v x → RepV T as H w y → RelV x u → RelV y u' → EqAt A.in1 s u u' b) :
    ∀ (v w : Val) (x y : V) (u u' : Value) (b : Bool), veq1 f st v w = some b → RepV T as H v x → RepV T as H w y → RelV x u → RelV y u' → RcAt A s u u' b := by
  intro v w x y u u' b h h1 h2 r1 r2
  have seq : ∀ {l : Nat} {a : Addr} {b : Bool}, (match Ov.lstOf st l with
      | some _ => some false
      | none => none) = some b → as[l]? = some a → ∃ its : List Value, s.heap.IsList a its.toArray ∧ b = false := by
    intro l a b h ha
    cases q : Ov.lstOf st l with
    | none => rw [q] at h; cases h
    | some vs =>
      rw [q] at h
      cases h
      obtain ⟨xs, its, _, _, p⟩ := isL I hK r q ha
      exact ⟨its, p, rfl⟩
  cases v with
  | non =>
    cases h1; cases r1
    cases w with
    | non => cases h2; cases r2; cases h; exact RcAt.none_none
    | bl q => cases h2; cases r2; cases h; exact RcAt.none_bool q
    | int q => cases h2; obtain ⟨t, rfl⟩ := r2; cases h; exact RcAt.none_int q t
    | str q => cases h2; obtain ⟨t, rfl⟩ := r2; cases h; exact RcAt.none_str q t
    | loc m => obtain ⟨a, ha, rfl⟩ := h2; cases r2; obtain ⟨its, p, rfl⟩ := seq h ha; exact RcAt.none_list p hu
    | tup ws => obtain ⟨a, ys, rfl, ht, _⟩ := h2; cases r2; cases h; obtain ⟨its, _, p⟩ := isT I hK ht; exact RcAt.none_tuple p hu
    | ktp ws => cases h
  | bl p =>
    cases h1; cases r1
    cases w with
    | non => cases h2; cases r2; cases h; exact RcAt.bool_none p
    | bl q => cases h2; cases r2; cases h; exact RcAt.bool_bool p q
    | int q => cases h2; obtain ⟨t, rfl⟩ := r2; cases h; exact RcAt.bool_int p q t
    | str q => cases h2; obtain ⟨t, rfl⟩ := r2; cases h; exact RcAt.bool_str p q t
    | loc m => obtain ⟨a, ha, rfl⟩ := h2; cases r2; obtain ⟨its, z, rfl⟩ := seq h ha; exact RcAt.bool_list p z hu
    | tup ws => obtain ⟨a, ys, rfl, ht, _⟩ := h2; cases r2; cases h; obtain ⟨its, _, z⟩ := isT I hK ht; exact RcAt.bool_tuple p z hu
    | ktp ws => cases h
  | int p =>
    cases h1; obtain ⟨tp, rfl⟩ := r1
    cases w with
    | non => cases h2; cases r2; cases h; exact RcAt.int_none p tp
    | bl q => cases h2; cases r2; cases h; exact RcAt.int_bool p tp q
    | int q => cases h2; obtain ⟨t, rfl⟩ := r2; cases h; exact RcAt.int_int p tp q t
    | str q => cases h2; obtain ⟨t, rfl⟩ := r2; cases h; exact RcAt.int_str p tp q t
    | loc m => obtain ⟨a, ha, rfl⟩ := h2; cases r2; obtain ⟨its, z, rfl⟩ := seq h ha; exact RcAt.int_list p tp z hu
    | tup ws => obtain ⟨a, ys, rfl, ht, _⟩ := h2; cases r2; cases h; obtain ⟨its, _, z⟩ := isT I hK ht; exact RcAt.int_tuple p tp z hu
    | ktp ws => cases h
  | str p =>
    cases h1; obtain ⟨tp, rfl⟩ := r1
    cases w with
    | non => cases h2; cases r2; cases h; exact RcAt.str_none p tp
    | bl q => cases h2; cases r2; cases h; exact RcAt.str_bool p tp q
    | int q => cases h2; obtain ⟨t, rfl⟩ := r2; cases h; exact RcAt.str_int p tp q t
    | str q => cases h2; obtain ⟨t, rfl⟩ := r2; cases h; exact RcAt.str_str p tp q t
    | loc m => obtain ⟨a, ha, rfl⟩ := h2; cases r2; obtain ⟨its, z, rfl⟩ := seq h ha; exact RcAt.str_list p tp z hu
    | tup ws => obtain ⟨a, ys, rfl, ht, _⟩ := h2; cases r2; cases h; obtain ⟨its, _, z⟩ := isT I hK ht; exact RcAt.str_tuple p tp z hu
    | ktp ws => cases h
  | loc l =>
    obtain ⟨a, ha, rfl⟩ := h1; cases r1
    cases w with
    | non => cases h2; cases r2; obtain ⟨its, z, rfl⟩ := seq h ha; exact RcAt.list_none z hu
    | bl q => cases h2; cases r2; obtain ⟨its, z, rfl⟩ := seq h ha; exact RcAt.list_bool q z hu
    | int q => cases h2; obtain ⟨t, rfl⟩ := r2; obtain ⟨its, z, rfl⟩ := seq h ha; exact RcAt.list_int q t z hu
    | str q => cases h2; obtain ⟨t, rfl⟩ := r2; obtain ⟨its, z, rfl⟩ := seq h ha; exact RcAt.list_str q t z hu
    | loc m =>
      obtain ⟨a', ha', rfl⟩ := h2; cases r2
      have h' : (match Ov.lstOf st l, Ov.lstOf st m with
        | some xs, some ys => if xs.length = ys.length then allEq f xs ys else some false
        | _, _ => none) = some b := h
      cases q1 : Ov.lstOf st l with
      | none => rw [q1] at h'; cases h'
      | some vs =>
        cases q2 : Ov.lstOf st m with
        | none => rw [q1, q2] at h'; cases h'
        | some ws =>
          rw [q1, q2] at h'
          dsimp only at h'
          obtain ⟨xs, us, pv, rv, zl⟩ := isL I hK r q1 ha
          obtain ⟨ys, us', pw, rw', zm⟩ := isL I hK r q2 ha'
          have l1 : vs.length = us.length := pv.length.trans rv.length
          have l2 : ws.length = us'.length := pw.length.trans rw'.length
          by_cases hl : vs.length = ws.length
          · rw [if_pos hl] at h'
            obtain ⟨e, he, eb⟩ := allEq_items h'
            have g := RcAt.lists zl zm (by simp [← l1, ← l2, hl]) hu (items_eq hf pv pw rv rw' he)
            have eb' : b = (List.range us.toArray.size).all e := by
              rw [eb, hl]
              simp [l2, l1.symm.trans (hl.trans l2)]
            rw [eb']
            exact g
          · rw [if_neg hl] at h'
            cases h'
            exact RcAt.lists_lengths zl zm (by simp [← l1, ← l2, hl]) hu
    | tup ws =>
      obtain ⟨a', ys, rfl, ht, _⟩ := h2; cases r2
      obtain ⟨its, z, rfl⟩ := seq h ha
      obtain ⟨_, _, z'⟩ := isT I hK ht
      exact RcAt.list_tuple z z' hu
    | ktp ws => cases h
  | tup vs =>
    obtain ⟨a, xs, rfl, ht, pv⟩ := h1; cases r1
    obtain ⟨us, rv, zt⟩ := isT I hK ht
    cases w with
    | non => cases h2; cases r2; cases h; exact RcAt.tuple_none zt hu
    | bl q => cases h2; cases r2; cases h; exact RcAt.tuple_bool q zt hu
    | int q => cases h2; obtain ⟨t, rfl⟩ := r2; cases h; exact RcAt.tuple_int q t zt hu
    | str q => cases h2; obtain ⟨t, rfl⟩ := r2; cases h; exact RcAt.tuple_str q t zt hu
    | loc m => obtain ⟨a', ha, rfl⟩ := h2; cases r2; obtain ⟨its, z, rfl⟩ := seq h ha; exact RcAt.tuple_list zt z hu
    | tup ws =>
      obtain ⟨a', ys, rfl, ht', pw⟩ := h2; cases r2
      obtain ⟨us', rw', zt'⟩ := isT I hK ht'
      obtain ⟨e, he, eb⟩ := allEq_items (show allEq f vs ws = some b from h)
      have l1 : vs.length = us.length := pv.length.trans rv.length
      have l2 : ws.length = us'.length := pw.length.trans rw'.length
      have g := RcAt.tuples zt zt' hu (items_eq hf pv pw rv rw' he)
      have eb' : b = ((List.range (min us.toArray.size us'.toArray.size)).all e && us.toArray.size == us'.toArray.size) := by
        rw [eb, l1, l2]; simp
      rw [eb']
      exact g
    | ktp ws => cases h
  | ktp vs =>
    obtain ⟨a, xs, rfl, ht, pv⟩ := h1; cases r1
    obtain ⟨us, rv, zt⟩ := isK I hK ht
    cases w with
    | tup ws =>
      obtain ⟨a', ys, rfl, ht', pw⟩ := h2; cases r2
      obtain ⟨us', rw', zt'⟩ := isT I hK ht'
      obtain ⟨e, he, eb⟩ := allEq_items (show allEq f vs ws = some b from h)
      have l1 : vs.length = us.length := pv.length.trans rv.length
      have l2 : ws.length = us'.length := pw.length.trans rw'.length
      have g := RcAt.tuples zt zt' hu (items_eq hf pv pw rv rw' he)
      have eb' : b = ((List.range (min us.toArray.size us'.toArray.size)).all e && us.toArray.size == us'.toArray.size) := by
        rw [eb, l1, l2]; simp
      rw [eb']
      exact g
    | _ => cases h
theorem rcne_one (I : Inv X pins σ H s) (hK : X.K = T.K) (r : Rel T as H st) (hu : A.units < cLine)
    (hf : ∀ v w x y u u' b, f v w = some b → RepV T as H v x → RepV T as H w y → RelV x u → RelV y u' → EqAt A.in1 s u u' b) :
    ∀ (v w : Val) (x y : V) (u u' : Value) (b : Bool), veq1 f st v w = some b → RepV T as H v x → RepV T as H w y → RelV x u → RelV y u' → RcNeAt A s u u' (!b) := by
  intro v w x y u u' b h h1 h2 r1 r2
  have seq : ∀ {l : Nat} {a : Addr} {b : Bool}, (match Ov.lstOf st l with
      | some _ => some false
      | none => none) = some b → as[l]? = some a → ∃ its : List Value, s.heap.IsList a its.toArray ∧ b = false := by
    intro l a b h ha
    cases q : Ov.lstOf st l with
    | none => rw [q] at h; cases h
    | some vs =>
      rw [q] at h
      cases h
      obtain ⟨xs, its, _, _, p⟩ := isL I hK r q ha
      exact ⟨its, p, rfl⟩
  cases v with
  | non =>
    cases h1; cases r1
    cases w with
    | non => cases h2; cases r2; cases h; exact RcNeAt.none_none
    | bl q => cases h2; cases r2; cases h; exact RcNeAt.none_bool q
    | int q => cases h2; obtain ⟨t, rfl⟩ := r2; cases h; exact RcNeAt.none_int q t
    | str q => cases h2; obtain ⟨t, rfl⟩ := r2; cases h; exact RcNeAt.none_str q t
    | loc m => obtain ⟨a, ha, rfl⟩ := h2; cases r2; obtain ⟨its, p, rfl⟩ := seq h ha; exact RcNeAt.none_list p hu
    | tup ws => obtain ⟨a, ys, rfl, ht, _⟩ := h2; cases r2; cases h; obtain ⟨its, _, p⟩ := isT I hK ht; exact RcNeAt.none_tuple p hu
    | ktp ws => cases h
  | bl p =>
    cases h1; cases r1
    cases w with
    | non => cases h2; cases r2; cases h; exact RcNeAt.bool_none p
    | bl q => cases h2; cases r2; cases h; exact RcNeAt.bool_bool p q
    | int q => cases h2; obtain ⟨t, rfl⟩ := r2; cases h; exact RcNeAt.bool_int p q t
    | str q => cases h2; obtain ⟨t, rfl⟩ := r2; cases h; exact RcNeAt.bool_str p q t
    | loc m => obtain ⟨a, ha, rfl⟩ := h2; cases r2; obtain ⟨its, z, rfl⟩ := seq h ha; exact RcNeAt.bool_list p z hu
    | tup ws => obtain ⟨a, ys, rfl, ht, _⟩ := h2; cases r2; cases h; obtain ⟨its, _, z⟩ := isT I hK ht; exact RcNeAt.bool_tuple p z hu
    | ktp ws => cases h
  | int p =>
    cases h1; obtain ⟨tp, rfl⟩ := r1
    cases w with
    | non => cases h2; cases r2; cases h; exact RcNeAt.int_none p tp
    | bl q => cases h2; cases r2; cases h; exact RcNeAt.int_bool p tp q
    | int q => cases h2; obtain ⟨t, rfl⟩ := r2; cases h; exact RcNeAt.int_int p tp q t
    | str q => cases h2; obtain ⟨t, rfl⟩ := r2; cases h; exact RcNeAt.int_str p tp q t
    | loc m => obtain ⟨a, ha, rfl⟩ := h2; cases r2; obtain ⟨its, z, rfl⟩ := seq h ha; exact RcNeAt.int_list p tp z hu
    | tup ws => obtain ⟨a, ys, rfl, ht, _⟩ := h2; cases r2; cases h; obtain ⟨its, _, z⟩ := isT I hK ht; exact RcNeAt.int_tuple p tp z hu
    | ktp ws => cases h
  | str p =>
    cases h1; obtain ⟨tp, rfl⟩ := r1
    cases w with
    | non => cases h2; cases r2; cases h; exact RcNeAt.str_none p tp
    | bl q => cases h2; cases r2; cases h; exact RcNeAt.str_bool p tp q
    | int q => cases h2; obtain ⟨t, rfl⟩ := r2; cases h; exact RcNeAt.str_int p tp q t
    | str q => cases h2; obtain ⟨t, rfl⟩ := r2; cases h; exact RcNeAt.str_str p tp q t
    | loc m => obtain ⟨a, ha, rfl⟩ := h2; cases r2; obtain ⟨its, z, rfl⟩ := seq h ha; exact RcNeAt.str_list p tp z hu
    | tup ws => obtain ⟨a, ys, rfl, ht, _⟩ := h2; cases r2; cases h; obtain ⟨its, _, z⟩ := isT I hK ht; exact RcNeAt.str_tuple p tp z hu
    | ktp ws => cases h
  | loc l =>
    obtain ⟨a, ha, rfl⟩ := h1; cases r1
    cases w with
    | non => cases h2; cases r2; obtain ⟨its, z, rfl⟩ := seq h ha; exact RcNeAt.list_none z hu
    | bl q => cases h2; cases r2; obtain ⟨its, z, rfl⟩ := seq h ha; exact RcNeAt.list_bool q z hu
    | int q => cases h2; obtain ⟨t, rfl⟩ := r2; obtain ⟨its, z, rfl⟩ := seq h ha; exact RcNeAt.list_int q t z hu
    | str q => cases h2; obtain ⟨t, rfl⟩ := r2; obtain ⟨its, z, rfl⟩ := seq h ha; exact RcNeAt.list_str q t z hu
    | loc m =>
      obtain ⟨a', ha', rfl⟩ := h2; cases r2
      have h' : (match Ov.lstOf st l, Ov.lstOf st m with
        | some xs, some ys => if xs.length = ys.length then allEq f xs ys else some false
        | _, _ => none) = some b := h
      cases q1 : Ov.lstOf st l with
      | none => rw [q1] at h'; cases h'
      | some vs =>
        cases q2 : Ov.lstOf st m with
        | none => rw [q1, q2] at h'; cases h'
        | some ws =>
          rw [q1, q2] at h'
          dsimp only at h'
          obtain ⟨xs, us, pv, rv, zl⟩ := isL I hK r q1 ha
          obtain ⟨ys, us', pw, rw', zm⟩ := isL I hK r q2 ha'
          have l1 : vs.length = us.length := pv.length.trans rv.length
          have l2 : ws.length = us'.length := pw.length.trans rw'.length
          by_cases hl : vs.length = ws.length
          · rw [if_pos hl] at h'
            obtain ⟨e, he, eb⟩ := allEq_items h'
            have g := RcNeAt.lists zl zm (by simp [← l1, ← l2, hl]) hu (items_eq hf pv pw rv rw' he)
            have eb' : b = ((List.range us.toArray.size).all e) := by
              rw [eb, hl]
              simp [l2, l1.symm.trans (hl.trans l2)]
            rw [eb']
            exact g
          · rw [if_neg hl] at h'
            cases h'
            exact RcNeAt.lists_lengths zl zm (by simp [← l1, ← l2, hl]) hu
    | tup ws =>
      obtain ⟨a', ys, rfl, ht, _⟩ := h2; cases r2
      obtain ⟨its, z, rfl⟩ := seq h ha
      obtain ⟨_, _, z'⟩ := isT I hK ht
      exact RcNeAt.list_tuple z z' hu
    | ktp ws => cases h
  | tup vs =>
    obtain ⟨a, xs, rfl, ht, pv⟩ := h1; cases r1
    obtain ⟨us, rv, zt⟩ := isT I hK ht
    cases w with
    | non => cases h2; cases r2; cases h; exact RcNeAt.tuple_none zt hu
    | bl q => cases h2; cases r2; cases h; exact RcNeAt.tuple_bool q zt hu
    | int q => cases h2; obtain ⟨t, rfl⟩ := r2; cases h; exact RcNeAt.tuple_int q t zt hu
    | str q => cases h2; obtain ⟨t, rfl⟩ := r2; cases h; exact RcNeAt.tuple_str q t zt hu
    | loc m => obtain ⟨a', ha, rfl⟩ := h2; cases r2; obtain ⟨its, z, rfl⟩ := seq h ha; exact RcNeAt.tuple_list zt z hu
    | tup ws =>
      obtain ⟨a', ys, rfl, ht', pw⟩ := h2; cases r2
      obtain ⟨us', rw', zt'⟩ := isT I hK ht'
      obtain ⟨e, he, eb⟩ := allEq_items (show allEq f vs ws = some b from h)
      have l1 : vs.length = us.length := pv.length.trans rv.length
      have l2 : ws.length = us'.length := pw.length.trans rw'.length
      have g := RcNeAt.tuples zt zt' hu (items_eq hf pv pw rv rw' he)
      have eb' : b = ((List.range (min us.toArray.size us'.toArray.size)).all e && us.toArray.size == us'.toArray.size) := by
        rw [eb, l1, l2]; simp
      rw [eb']
      exact g
    | ktp ws => cases h
  | ktp vs =>
    obtain ⟨a, xs, rfl, ht, pv⟩ := h1; cases r1
    obtain ⟨us, rv, zt⟩ := isK I hK ht
    cases w with
    | tup ws =>
      obtain ⟨a', ys, rfl, ht', pw⟩ := h2; cases r2
      obtain ⟨us', rw', zt'⟩ := isT I hK ht'
      obtain ⟨e, he, eb⟩ := allEq_items (show allEq f vs ws = some b from h)
      have l1 : vs.length = us.length := pv.length.trans rv.length
      have l2 : ws.length = us'.length := pw.length.trans rw'.length
      have g := RcNeAt.tuples zt zt' hu (items_eq hf pv pw rv rw' he)
      have eb' : b = ((List.range (min us.toArray.size us'.toArray.size)).all e && us.toArray.size == us'.toArray.size) := by
        rw [eb, l1, l2]; simp
      rw [eb']
      exact g
    | _ => cases h
theorem eq_of_rc {v w : Val} {x y : V} {u u' : Value} {b : Bool} (hs : ∀ x, RepV T as H v x → RepV T as H w x → b = true) (hv : veq1 f st v w = some b) (h1 : RepV T as H v x) (h2 : RepV T as H w y) (r1 : RelV x u) (r2 : RelV y u') (h : RcAt A s u u' b)
    (hu : A.units < cLine) (I : Inv X pins σ H s) (hK : X.K = T.K) (r : Rel T as H st) : EqAt A s u u' b := by
  have seq : ∀ {l : Nat} {a : Addr} {b : Bool}, (match Ov.lstOf st l with
      | some _ => some false
      | none => none) = some b → as[l]? = some a → ∃ its : List Value, s.heap.IsList a its.toArray ∧ b = false := by
    intro l a b h ha
    cases q : Ov.lstOf st l with
    | none => rw [q] at h; cases h
    | some vs =>
      rw [q] at h
      cases h
      obtain ⟨xs, its, _, _, p⟩ := isL I hK r q ha
      exact ⟨its, p, rfl⟩
  have two : ∀ a a' : Addr, x = .ref a → y = .ref a' → EqAt A s u u' b := by
    intro a a' e1 e2
    subst e1 e2
    cases r1; cases r2
    by_cases e : a = a'
    · subst e
      rw [hs _ h1 h2]
      exact EqAt.same _
    · exact EqAt.of_refs e h
  cases v with
  | non =>
    cases h1; cases r1
    cases w with
    | non => cases h2; cases r2; cases hv; exact EqAt.same _
    | bl q => cases h2; cases r2; cases hv; exact EqAt.none_bool q
    | int q => cases h2; obtain ⟨t, rfl⟩ := r2; cases hv; exact EqAt.none_int q t
    | str q => cases h2; obtain ⟨t, rfl⟩ := r2; cases hv; exact EqAt.none_str q t
    | loc m => obtain ⟨a, ha, rfl⟩ := h2; cases r2; obtain ⟨its, p, rfl⟩ := seq hv ha; exact EqAt.none_list p hu
    | tup ws => obtain ⟨a, ys, rfl, ht, _⟩ := h2; cases r2; cases hv; obtain ⟨its, _, p⟩ := isT I hK ht; exact EqAt.none_tuple p hu
    | ktp ws => cases hv
  | bl p =>
    cases h1; cases r1
    cases w with
    | non => cases h2; cases r2; cases hv; exact EqAt.bool_none p
    | bl q => cases h2; cases r2; cases hv; exact EqAt.bool_bool p q
    | int q => cases h2; obtain ⟨t, rfl⟩ := r2; cases hv; exact EqAt.bool_int p q t
    | str q => cases h2; obtain ⟨t, rfl⟩ := r2; cases hv; exact EqAt.bool_str p q t
    | loc m => obtain ⟨a, ha, rfl⟩ := h2; cases r2; obtain ⟨its, z, rfl⟩ := seq hv ha; exact EqAt.bool_list p z hu
    | tup ws => obtain ⟨a, ys, rfl, ht, _⟩ := h2; cases r2; cases hv; obtain ⟨its, _, z⟩ := isT I hK ht; exact EqAt.bool_tuple p z hu
    | ktp ws => cases hv
  | int p =>
    cases h1; obtain ⟨tp, rfl⟩ := r1
    cases w with
    | non => cases h2; cases r2; cases hv; exact EqAt.int_none p tp
    | bl q => cases h2; cases r2; cases hv; exact EqAt.int_bool p tp q
    | int q => cases h2; obtain ⟨t, rfl⟩ := r2; cases hv; exact EqAt.int_int p tp q t
    | str q => cases h2; obtain ⟨t, rfl⟩ := r2; cases hv; exact EqAt.int_str p tp q t
    | loc m => obtain ⟨a, ha, rfl⟩ := h2; cases r2; obtain ⟨its, z, rfl⟩ := seq hv ha; exact EqAt.int_list p tp z hu
    | tup ws => obtain ⟨a, ys, rfl, ht, _⟩ := h2; cases r2; cases hv; obtain ⟨its, _, z⟩ := isT I hK ht; exact EqAt.int_tuple p tp z hu
    | ktp ws => cases hv
  | str p =>
    cases h1; obtain ⟨tp, rfl⟩ := r1
    cases w with
    | non => cases h2; cases r2; cases hv; exact EqAt.str_none p tp
    | bl q => cases h2; cases r2; cases hv; exact EqAt.str_bool p tp q
    | int q => cases h2; obtain ⟨t, rfl⟩ := r2; cases hv; exact EqAt.str_int p tp q t
    | str q => cases h2; obtain ⟨t, rfl⟩ := r2; cases hv; exact EqAt.str_str p tp q t
    | loc m => obtain ⟨a, ha, rfl⟩ := h2; cases r2; obtain ⟨its, z, rfl⟩ := seq hv ha; exact EqAt.str_list p tp z hu
    | tup ws => obtain ⟨a, ys, rfl, ht, _⟩ := h2; cases r2; cases hv; obtain ⟨its, _, z⟩ := isT I hK ht; exact EqAt.str_tuple p tp z hu
    | ktp ws => cases hv
  | loc l =>
    obtain ⟨a, ha, rfl⟩ := h1
    cases w with
    | non => cases r1; cases h2; cases r2; obtain ⟨its, z, rfl⟩ := seq hv ha; exact EqAt.list_none z hu
    | bl q => cases r1; cases h2; cases r2; obtain ⟨its, z, rfl⟩ := seq hv ha; exact EqAt.list_bool q z hu
    | int q => cases r1; cases h2; obtain ⟨t, rfl⟩ := r2; obtain ⟨its, z, rfl⟩ := seq hv ha; exact EqAt.list_int q t z hu
    | str q => cases r1; cases h2; obtain ⟨t, rfl⟩ := r2; obtain ⟨its, z, rfl⟩ := seq hv ha; exact EqAt.list_str q t z hu
    | loc m => obtain ⟨a', _, e⟩ := id h2; exact two a a' rfl e
    | tup ws => obtain ⟨a', _, e, _⟩ := id h2; exact two a a' rfl e
    | ktp ws => cases hv
  | tup vs =>
    obtain ⟨a, xs, rfl, ht, pv⟩ := id h1
    obtain ⟨us, rv, zt⟩ := isT I hK ht
    cases w with
    | non => cases r1; cases h2; cases r2; cases hv; exact EqAt.tuple_none zt hu
    | bl q => cases r1; cases h2; cases r2; cases hv; exact EqAt.tuple_bool q zt hu
    | int q => cases r1; cases h2; obtain ⟨t, rfl⟩ := r2; cases hv; exact EqAt.tuple_int q t zt hu
    | str q => cases r1; cases h2; obtain ⟨t, rfl⟩ := r2; cases hv; exact EqAt.tuple_str q t zt hu
    | loc m => obtain ⟨a', _, e⟩ := id h2; exact two a a' rfl e
    | tup ws => obtain ⟨a', _, e, _⟩ := id h2; exact two a a' rfl e
    | ktp ws => cases hv
  | ktp vs =>
    obtain ⟨a, xs, rfl, ht, pv⟩ := id h1
    cases w with
    | tup ws => obtain ⟨a', _, e, _⟩ := id h2; exact two a a' rfl e
    | _ => cases hv
end
theorem veq_run (I : Inv X pins σ H s) (hK : X.K = T.K) (r : Rel T as H st) : ∀ (n : Nat) (A : Around), A.units + n < cLine → ∀ (v w : Val) (x y : V) (u u' : Value) (b : Bool), veq n st v w = some b →
    RepV T as H v x → RepV T as H w y → RelV x u → RelV y u' → SeqAt.RcAt A s u u' b ∧ SeqAt.EqAt A s u u' b
  | 0, A, hu, v, w, x, y, u, u', b, h, h1, h2, r1, r2 => by
    have g := rc_one I hK r hu (fun _ _ _ _ _ _ _ z => by cases z) v w x y u u' b h h1 h2 r1 r2
    exact ⟨g, eq_of_rc (fun z q1 q2 => veq_same I hK r 0 v w z b q1 q2 h) h h1 h2 r1 r2 g hu I hK r⟩
  | n + 1, A, hu, v, w, x, y, u, u', b, h, h1, h2, r1, r2 => by
    have hu' : A.units < cLine := by omega
    have hi : A.in1.units + n < cLine := by show A.units + 1 + n < cLine; omega
    have g := rc_one I hK r hu' (fun v w x y u u' b z q1 q2 q3 q4 => (veq_run I hK r n A.in1 hi v w x y u u' b z q1 q2 q3 q4).2) v w x y u u' b h h1 h2 r1 r2
    exact ⟨g, eq_of_rc (fun z q1 q2 => veq_same I hK r (n + 1) v w z b q1 q2 h) h h1 h2 r1 r2 g hu' I hK r⟩
theorem vne_run (I : Inv X pins σ H s) (hK : X.K = T.K) (r : Rel T as H st) (n : Nat) (A : Around) (hu : A.units + n < cLine) (v w : Val) (x y : V) (u u' : Value) (b : Bool) (h : veq n st v w = some b)
    (h1 : RepV T as H v x) (h2 : RepV T as H w y) (r1 : RelV x u) (r2 : RelV y u') : SeqAt.RcNeAt A s u u' (!b) := by
  cases n with
  | zero => exact rcne_one I hK r hu (fun _ _ _ _ _ _ _ z => by cases z) v w x y u u' b h h1 h2 r1 r2
  | succ n => exact rcne_one I hK r (by omega) (fun v w x y u u' b z q1 q2 q3 q4 => (veq_run I hK r n A.in1 (by show A.units + 1 + n < cLine; omega) v w x y u u' b z q1 q2 q3 q4).2) v w x y u u' b h h1 h2 r1 r2
/-- x in a row of values: each item has its answer -/
theorem inL_items {x : Val} : ∀ {ys : List Val} {b : Bool}, inL st x ys = some b → ∃ e : Nat → Bool, (∀ (j : Nat) (y : Val), ys[j]? = some y → eqb st y x = some (e j)) ∧ b = (List.range ys.length).any e
  | [], b, h => by cases h; exact ⟨fun _ => true, fun j y q => by simp at q, rfl⟩
  | y :: ys, b, h => by
    unfold inL at h
    cases e1 : eqb st y x with
    | none => rw [e1] at h; cases h
    | some a =>
      cases e2 : inL st x ys with
      | none => rw [e1, e2] at h; cases h
      | some c =>
        rw [e1, e2] at h
        cases h
        obtain ⟨e, h1, h2⟩ := inL_items e2
        refine ⟨fun j => match j with
          | 0 => a
          | j + 1 => e j, fun j z q => ?_, ?_⟩
        · cases j with
          | zero => simp at q; subst q; exact e1
          | succ j => exact h1 j z (by simpa using q)
        · rw [h2, List.length_cons, List.range_succ_eq_map, List.any_cons, List.any_map]
          simp [Function.comp_def]
/-- the answers as a function of the items -/
theorem in_fun {A : Around} {x : Val} {vx : V} {ux : Value} (I : Inv X pins σ H s) (hK : X.K = T.K) (r : Rel T as H st) (hu : A.units + 1 + deepest < cLine) (px : RepV T as H x vx) (rx : RelV vx ux) {ys : List Val} {xs : List V} {us : List Value} {b : Bool}
    (h : inL st x ys = some b) (p : RepVs T as H ys xs) (rv : Vals xs us) : ∃ e : Value → Bool, (∀ y, y ∈ us.toArray → SeqAt.EqAt A.in1 s y ux (e y)) ∧ us.toArray.any e = b := by
  obtain ⟨e, h1, h2⟩ := inL_items h
  have l1 : ys.length = us.length := p.length.trans rv.length
  have one : ∀ j (hj : j < us.length), SeqAt.EqAt A.in1 s us[j] ux (e j) := fun j hj => by
    have e1 : ys[j]? = some (ys[j]'(by omega)) := List.getElem?_eq_getElem (by omega)
    obtain ⟨y, hy, ry⟩ := p.get e1
    obtain ⟨u, hu', ru⟩ := rv.get hy
    have z := (veq_run I hK r deepest A.in1 (by show A.units + 1 + deepest < cLine; exact hu) _ _ _ _ _ _ _ (h1 j _ e1) ry px ru rx).2
    have g := (List.getElem?_eq_some_iff.mp hu').2
    rw [g]; exact z
  classical
  refine ⟨fun y => decide (∃ j, ∃ hj : j < us.length, us[j] = y ∧ e j = true), fun y hy => ?_, ?_⟩
  · have hy' : y ∈ us := by simpa using hy
    obtain ⟨j, hj, ej⟩ := List.getElem_of_mem hy'
    show SeqAt.EqAt A.in1 s y ux (decide (∃ j, ∃ hj : j < us.length, us[j] = y ∧ e j = true))
    by_cases c : ∃ j, ∃ hj : j < us.length, us[j] = y ∧ e j = true
    · rw [decide_eq_true c]
      obtain ⟨k, hk, ek, et⟩ := c
      have := one k hk
      rw [ek, et] at this
      exact this
    · rw [decide_eq_false c]
      have z := one j hj
      have ef : e j = false := by
        cases q : e j with
        | false => rfl
        | true => exact absurd ⟨j, hj, ej, q⟩ c
      rw [ej, ef] at z
      exact z
  · rw [h2]
    cases q : (List.range ys.length).any e with
    | true =>
      obtain ⟨j, hj, ej⟩ := List.any_eq_true.mp q
      have hj' : j < us.length := by rw [← l1]; exact List.mem_range.mp hj
      rw [List.any_toArray, List.any_eq_true]
      exact ⟨us[j], List.getElem_mem hj', decide_eq_true ⟨j, hj', rfl, ej⟩⟩
    | false =>
      rw [List.any_toArray, List.any_eq_false]
      intro y hy c
      obtain ⟨j, hj, _, et⟩ := of_decide_eq_true c
      have := List.any_eq_false.mp q j (List.mem_range.mpr (by omega))
      exact this et
end
end Ov

/-! != of two lists whose items are equal, for one program and world. -/
namespace Ov
open PySem PySem.Spec L2
open PySem.SeqAt PySem.AutoSeq1 PySem.MeetsSeq PySem.MeetsSeq2 PySem.MeetsSeq3 PySem.SeqRoads2
section
variable {prog : Program} {w : World}
/-- the rest of a walk over two lists that are alike -/
theorem ne_rest (l b : Addr) (xs ys : Array Value) (n m : Nat) (dx dy : Option Addr) (sx sy : Array (Option Value)) (hsz : xs.size = ys.size) (k : Nat) :
    ∀ i : Nat, xs.size - i = k → MeetsIn prog w (Builtin.«list.__eq__.loop» ⟨[.ref l, .ref b, rawInt i, rawInt 3], []⟩)
      (fun A R s => s.heap.get? l = some { cls := .type "list", dict := dx, data := .seq xs n, slots := sx } ∧ s.heap.get? b = some { cls := .type "list", dict := dy, data := .seq ys m, slots := sy } ∧
        (∀ j (h1 : j < xs.size) (h2 : j < ys.size), EqIn prog w A.in1 s xs[j] ys[j] true) ∧ R (.ok (.ret (.bool false))) s) := by
  induction k with
  | zero =>
    intro i hk A R s h
    obtain ⟨hp, g, d, tk, os⟩ := s
    obtain ⟨hl, hb, he, h⟩ := h
    wp_walk using wpAny_loadPart' hl, wpAny_loadPart' hb
    have e1 : xs[((i : Nat) : Int).toNat]? = none := by simp; omega
    have e2 : ys[((i : Nat) : Int).toNat]? = none := by simp; omega
    rw [e1, e2]
    wp_walk using wpAny_loadPart' hl, wpAny_loadPart' hb
    show R (.ok (.ret (.bool (xs.size != ys.size)))) _
    rw [hsz]
    simpa using h
  | succ k ih =>
    intro i hk A R s h
    obtain ⟨hp, g, d, tk, os⟩ := s
    obtain ⟨hl, hb, he, h⟩ := h
    wp_walk using wpAny_loadPart' hl, wpAny_loadPart' hb
    have l1 : i < xs.size := by omega
    have l2 : i < ys.size := by omega
    have e1 : xs[((i : Nat) : Int).toNat]? = some xs[i] := by simp [l1]
    have e2 : ys[((i : Nat) : Int).toNat]? = some ys[i] := by simp [l2]
    have hc : ((i : Int) + 1) = ((i + 1 : Nat) : Int) := by push_cast; rfl
    rw [e1, e2]
    refine wpAny_bind (he i l1 l2 _ _ ?_)
    wp_walk
    rw [hc]
    exact ⟨plainId_quiet plain_eq_loop _, codeAny_builtin entry_eq_loop (by
      rw [Around.under_plainId plain_eq_loop _]
      exact ih (i + 1) (by omega) A R _ ⟨hl, hb, he, h⟩)⟩
theorem ne_whole (l b : Addr) (xs ys : Array Value) (n m : Nat) (dx dy : Option Addr) (sx sy : Array (Option Value)) (hsz : xs.size = ys.size) :
    MeetsIn prog w (Builtin.«list.__ne__» ⟨[.ref l, .ref b], []⟩)
      (fun A R s => s.heap.get? l = some { cls := .type "list", dict := dx, data := .seq xs n, slots := sx } ∧ s.heap.get? b = some { cls := .type "list", dict := dy, data := .seq ys m, slots := sy } ∧
        (∀ j (h1 : j < xs.size) (h2 : j < ys.size), EqIn prog w A.in1 s xs[j] ys[j] true) ∧ R (.ok (.ret (.bool false))) s) := by
  intro A R s h
  obtain ⟨hp, g, d, tk, os⟩ := s
  obtain ⟨hl, hb, he, h⟩ := h
  have f3 := AutoSeq1.sub_list_list
  have hne : ¬ (xs.size != ys.size) = true := by simp [hsz]
  wp_walk using wpAny_loadPart' hl, wpAny_loadPart' hb
  exact ⟨plainId_quiet plain_eq_loop _, codeAny_builtin entry_eq_loop (by
    rw [Around.under_plainId plain_eq_loop _]
    exact ne_rest l b xs ys n m dx dy sx sy hsz _ 0 rfl A R _ ⟨hl, hb, he, h⟩)⟩
/-- xs != ys of two lists whose items are equal -/
theorem ne_same {A : Around} {E : Value → Shared → Prop} {s : Shared} {l b : Addr} {xs ys : Array Value} {Q : Value → Shared → Prop} (hl : s.heap.IsList l xs) (hb : s.heap.IsList b ys) (hsz : xs.size = ys.size) (hu : A.units < cLine)
    (he : ∀ j (h1 : j < xs.size) (h2 : j < ys.size), EqIn prog w A.in1 s xs[j] ys[j] true) (h : Q (.bool false) s) : wpAny (model prog w) A (richCompare .NotEq (.ref l) (.ref b)) Q E s := by
  obtain ⟨⟨cls, dd, data, sl⟩, ho, hc, n, hd⟩ := id hl
  obtain ⟨⟨cls2, dd2, data2, sl2⟩, ho2, hc2, n2, hd2⟩ := id hb
  simp only at hc hd hc2 hd2
  subst hc hd hc2 hd2
  exact wpAny_richCompare_same_room (T := "list") (op := .NotEq) ⟨_, ho, rfl⟩ ⟨_, ho2, rfl⟩ F.slot_list_ne (call_meetsIn F.slot_list_ne ⟨_, ho, rfl⟩ F.entry_list_ne (F.args_list_ne_2 _ _) (ne_whole l b xs ys n n2 dd dd2 sl sl2 hsz)
    ⟨ho, ho2, he, show Value.bool false ≠ Value.notImplemented ∧ Q (.bool false) s from ⟨(fun x => nomatch x), h⟩⟩) hu
end
end Ov

/-! != of two lists of dicts with the very same pairs. -/
namespace Ov
open PySem PySem.Spec L2
open PySem.SeqAt
theorem sameDs_len {st : Store} : ∀ {xs ys : List Val}, sameDs st xs ys = true → xs.length = ys.length
  | [], [], _ => rfl
  | x :: xs, y :: ys, h => by
    unfold sameDs at h
    split at h
    · rename_i e _ ; cases e
    · rename_i e1 e2
      cases e1; cases e2
      rw [Bool.and_eq_true] at h
      rw [List.length_cons, List.length_cons, sameDs_len h.2]
    · cases h
  | [], _ :: _, h => by simp [sameDs] at h
  | _ :: _, [], h => by unfold sameDs at h; split at h <;> first | contradiction | cases h
theorem sameDs_at {st : Store} : ∀ {xs ys : List Val} {j : Nat} {v w : Val}, sameDs st xs ys = true → xs[j]? = some v → ys[j]? = some w →
    ∃ a b k, v = .loc a ∧ w = .loc b ∧ sget st a = some (.dic false k) ∧ sget st b = some (.dic false k) ∧ (∀ p ∈ k, fitKey false p.1 = true ∧ flatB p.2 = true) ∧ (k.map (·.1)).Nodup
  | [], _, _, _, _, _, e, _ => by simp at e
  | x :: xs, [], _, _, _, _, _, e => by simp at e
  | x :: xs, y :: ys, j, v, w, h, e1, e2 => by
    unfold sameDs at h
    split at h
    · rename_i e _; cases e
    · rename_i a xs' b ys' q1 q2
      cases q1; cases q2
      rw [Bool.and_eq_true] at h
      cases j with
      | zero =>
        simp at e1 e2
        subst e1; subst e2
        have h1 := h.1
        split at h1
        · rename_i k1 k2 g1 g2
          simp only [Bool.and_eq_true, decide_eq_true_eq, List.all_eq_true] at h1
          obtain ⟨⟨rfl, h2⟩, h3⟩ := h1
          exact ⟨a, b, k1, rfl, rfl, g1, g2, h2, h3⟩
        · cases h1
      | succ j => exact sameDs_at h.2 (by simpa using e1) (by simpa using e2)
    · cases h
section
variable {T : Tb} {as : List Addr} {H : Hp}
theorem kVal_in {a b : Key} (e : kVal a = kVal b) : a = b := by
  cases a <;> cases b <;> cases e <;> rfl
theorem rep_len : ∀ {kvs : List (Val × Val)} {ks : List (Key × V)}, RepK T as H kvs ks → kvs.length = ks.length
  | [], _, h => by cases h; rfl
  | (k, v) :: r, _, h => by
    obtain ⟨q', x', rs, rfl, rfl, h3, h4⟩ := h
    simp [rep_len h4]
/-- a row of a dict and its pair -/
theorem row_of : ∀ {k : List (Val × Val)} {ks : List (Key × V)} {vs : List (Key × Value)}, RepK T as H k ks → KV ks vs → ∀ {q : Key} {u : Value}, (q, u) ∈ vs → ∃ w x, (kVal q, w) ∈ k ∧ RepV T as H w x ∧ RelV x u
  | [], _, _, h, hv, q, u, hm => by cases h; cases hv; cases hm
  | (kk, w) :: r, _, _, h, hv, q, u, hm => by
    obtain ⟨q1, x, rs, rfl, rfl, h3, h4⟩ := h
    cases hv with
    | cons p t =>
      obtain ⟨e, rx⟩ := p
      rcases List.mem_cons.mp hm with hm | hm
      · rw [← hm] at e rx
        dsimp only at e rx
        exact ⟨w, x, by rw [← e]; exact List.mem_cons_self, h3, rx⟩
      · obtain ⟨w', x', a1, a2, a3⟩ := row_of h4 t hm
        exact ⟨w', x', List.mem_cons_of_mem _ a1, a2, a3⟩
/-- a pair is found -/
theorem row_at : ∀ {k : List (Val × Val)} {ks : List (Key × V)} {vs : List (Key × Value)}, RepK T as H k ks → KV ks vs → (k.map (·.1)).Nodup → ∀ {q : Key} {w : Val}, (kVal q, w) ∈ k → ∃ u x, valueAt vs q = some u ∧ RepV T as H w x ∧ RelV x u
  | [], _, _, _, _, _, _, _, hm => by cases hm
  | (kk, w0) :: r, _, _, h, hv, nd, q, w, hm => by
    obtain ⟨q1, x, rs, rfl, rfl, h3, h4⟩ := h
    rw [List.map_cons, List.nodup_cons] at nd
    cases hv with
    | @cons a b l1 l2 p t =>
      obtain ⟨e, rx⟩ := p
      obtain ⟨b1, b2⟩ := b
      dsimp only at e rx
      subst e
      by_cases c : q1 = q
      · subst c
        rcases List.mem_cons.mp hm with hm | hm
        · cases hm
          exact ⟨b2, x, by simp [valueAt], h3, rx⟩
        · exact absurd (List.mem_map.mpr ⟨_, hm, rfl⟩) nd.1
      · rcases List.mem_cons.mp hm with hm | hm
        · exact absurd (kVal_in (congrArg Prod.fst hm)).symm c
        · obtain ⟨u, x', a1, a2, a3⟩ := row_at h4 t nd.2 hm
          refine ⟨u, x', ?_, a2, a3⟩
          rw [← a1]
          simp [valueAt, c]
theorem flat_same {st : Store} {w : Val} (h : flatB w = true) (n : Nat) : veq n st w w = some true := by
  cases n <;> cases w <;> first | (cases h; done) | rfl | (simp [veq, veq1]; done)
section
variable {X : Cx} {pins : List (Addr × Obj)} {σ : L2.St} {s : Shared} {st : Store}
theorem same_item (I : L2.Inv X pins σ H s) (hK : X.K = T.K) (r : Rel T as H st) {a b : Nat} {k : List (Val × Val)} (ga : sget st a = some (.dic false k)) (gb : sget st b = some (.dic false k)) (hf : ∀ p ∈ k, fitKey false p.1 = true ∧ flatB p.2 = true) (nd : (k.map (·.1)).Nodup)
    {ad bd : Addr} (ha : as[a]? = some ad) (hb : as[b]? = some bd) (A : Around) (hu : A.units + 4 < cLine) : EqIn X.prog X.w A s (.ref ad) (.ref bd) true := by
  by_cases e : ad = bd
  · subst e
    exact (EqAt.same _).inModel _ _
  · obtain ⟨a', ha', ks1, h1, p1⟩ := r.ob a _ ga
    rw [ha] at ha'; cases ha'
    obtain ⟨b', hb', ks2, h2, p2⟩ := r.ob b _ gb
    rw [hb] at hb'; cases hb'
    obtain ⟨_, s1, vs1, kv1, d1⟩ := dk_of I.hok h1
    obtain ⟨_, s2, vs2, kv2, d2⟩ := dk_of I.hok h2
    have t := PySem.W.EqTree.dicts (n := 2) (e := fun _ => true) e s1 s2 d1 d2 (fun q u y hm hy => by
      obtain ⟨w, x, m1, r1, v1⟩ := row_of p1 kv1 hm
      obtain ⟨u', x', e1, r2, v2⟩ := row_at p2 kv2 nd m1
      rw [hy] at e1; cases e1
      exact .leaf fun A hA => (veq_run I hK r 0 A (by omega) w w x x' u y true (flat_same (hf _ m1).2 0) r1 r2 v1 v2).2)
    have hl : (vs1.length == vs2.length && vs1.all fun p => (valueAt vs2 p.1).isSome && true) = true := by
      have l1 : ks1.length = vs1.length := Paired.length kv1
      have l2 : ks2.length = vs2.length := Paired.length kv2
      have l3 := rep_len p1
      have l4 := rep_len p2
      rw [Bool.and_eq_true, beq_iff_eq, List.all_eq_true]
      refine ⟨by omega, fun p hp => ?_⟩
      obtain ⟨w, x, m1, r1, v1⟩ := row_of p1 kv1 (q := p.1) (u := p.2) hp
      obtain ⟨u', x', e1, _, _⟩ := row_at p2 kv2 nd m1
      rw [e1]; rfl
    rw [hl] at t
    exact t.at A (by omega)
theorem same_run (I : L2.Inv X pins σ H s) (hK : X.K = T.K) (r : Rel T as H st) (hu : X.A.units + 64 < cLine) {v w : Val} {x y : V} {vx vy : Value} {Q : Value → Shared → Prop} {E : Value → Shared → Prop} (h : sameD st v w = true) (p : RepV T as H v x) (q : RepV T as H w y) (rx : RelV x vx) (ry : RelV y vy)
    (hQ : Q (.bool false) s) : wpAny (model X.prog X.w) X.A (compareOp .NotEq vx vy) Q E s := by
  unfold sameD at h
  split at h
  · rename_i a b
    split at h
    · rename_i vs ws e1 e2
      obtain ⟨ad, ha, rfl⟩ := p
      obtain ⟨bd, hb, rfl⟩ := q
      cases rx; cases ry
      obtain ⟨xs, us, p1, v1, l1⟩ := isL I hK r e1 ha
      obtain ⟨ys, us', p2, v2, l2⟩ := isL I hK r e2 hb
      have n1 : vs.length = us.length := p1.length.trans v1.length
      have n2 : ws.length = us'.length := p2.length.trans v2.length
      have n3 := sameDs_len h
      refine ne_same l1 l2 (by simp; omega) (by omega) (fun j h1 h2 => ?_) hQ
      have h1' : j < vs.length := by rw [n1]; simpa using h1
      have h2' : j < ws.length := by rw [n2]; simpa using h2
      obtain ⟨a', b', k, ea, eb, ga, gb, hf, nd⟩ := sameDs_at h (List.getElem?_eq_getElem h1') (List.getElem?_eq_getElem h2')
      obtain ⟨x', hx, rx⟩ := p1.get (List.getElem?_eq_getElem h1')
      obtain ⟨y', hy, ry⟩ := p2.get (List.getElem?_eq_getElem h2')
      rw [ea] at rx; rw [eb] at ry
      obtain ⟨ad', ha', rfl⟩ := rx
      obtain ⟨bd', hb', rfl⟩ := ry
      obtain ⟨u, hu1, ru⟩ := v1.get hx
      obtain ⟨u', hu2, ru'⟩ := v2.get hy
      cases ru; cases ru'
      have g1 : us.toArray[j] = .ref ad' := by
        have := (List.getElem?_eq_some_iff.mp hu1).2
        simpa using this
      have g2 : us'.toArray[j] = .ref bd' := by
        have := (List.getElem?_eq_some_iff.mp hu2).2
        simpa using this
      rw [g1, g2]
      exact same_item I hK r ga gb hf nd ha' hb' X.A.in1 (by show X.A.units + 1 + 4 < cLine; omega)
    · cases h
  · cases h
/-- != of two dicts, of which it is known whether their pairs are the same -/
theorem ne_dics {prog : Program} {w : World} {A : Around} {E Q : Value → Shared → Prop} {s : Shared} {a b : Addr} {r : Bool}
    (t1 : s.TypeIs (.ref a) "dict") (t2 : s.TypeIs (.ref b) "dict") (hu : A.units < cLine)
    (same : ∀ {nm : String} {E' : Value → Shared → Prop} {Q' : Bool → Shared → Prop}, Q' (!r) s → wpAny (model prog w) A.in1 (Builtin.Dict.samePairs nm a b) Q' E' s) (hQ : Q (.bool r) s) : wpAny (model prog w) A (compareOp .NotEq (.ref a) (.ref b)) Q E s := by
  refine wpAny_richCompare_same_room (op := .NotEq) t1 t2 PySem.F.slot_dict_ne (wpAny_call_entry PySem.F.slot_dict_ne t1 PySem.F.entry_dict_ne ?_ (PySem.F.args_dict_ne_2 _ _)) hu
  refine wpAny_bind (wpAny_bind (wpAny_notOrdered_dict t1 (wpAny_pure ?_)))
  refine wpAny_bind (wpAny_isInstance (T := "dict") t2 PySem.F.sub_dict_dict ?_)
  rw [if_neg (by decide)]
  refine wpAny_bind (wpAny_pure (wpAny_bind (wpAny_pure (wpAny_bind (same ?_)))))
  refine wpAny_pure ⟨_, rfl, nofun, ?_⟩
  cases r <;> exact hQ
/-- whether the pairs are the same, of unlike sizes or without any -/
theorem pairs_raw {prog : Program} {w : World} {A : Around} {E : Value → Shared → Prop} {Q : Bool → Shared → Prop} {s : Shared} {a b : Addr} {o1 o2 : Obj} {f1 f2 : Array DictEntry} {n1 n2 : Nat} {r : Bool} {nm : String}
    (za : (a == sysModules) = false) (zb : (b == sysModules) = false) (g1 : s.heap.get? a = some o1) (d1 : o1.data = .dict f1 n1) (g2 : s.heap.get? b = some o2) (d2 : o2.data = .dict f2 n2)
    (hr : (f1.size ≠ f2.size ∧ r = true) ∨ (f1 = #[] ∧ f2 = #[] ∧ r = false)) (q : Q (!r) s) : wpAny (model prog w) A (Builtin.Dict.samePairs nm a b) Q E s := by
  unfold Builtin.Dict.samePairs Builtin.Dict.showsAll
  rw [if_neg (fun z => Bool.noConfusion (za.symm.trans z)), if_neg (fun z => Bool.noConfusion (zb.symm.trans z))]
  refine wpAny_bind (wpAny_pure (wpAny_bind (wpAny_pure (wpAny_bind (wpAny_dictEntries g1 d1 ?_)))))
  dsimp only
  refine wpAny_bind (wpAny_dictEntries g2 d2 ?_)
  rcases hr with ⟨hs, rfl⟩ | ⟨rfl, rfl, rfl⟩
  · rw [if_pos (by simpa using hs)]
    exact wpAny_bind (wpAny_rule (wpAny_pure q))
  · rw [if_neg (by simp)]
    refine wpAny_bind (wpAny_dictEpoch g1 d1 (wpAny_bind ?_))
    rw [Std.Legacy.Range.forIn_eq_forIn_range']
    exact wpAny_pure (wpAny_pure q)
theorem repT_len : ∀ {kvs : List (Val × Val)} {ks : List (List Key × V)}, RepT T as H kvs ks → kvs.length = ks.length
  | [], _, h => by cases h; rfl
  | (k, v) :: r, _, h => by
    obtain ⟨_, _, _, rfl, _, _, h4⟩ := h
    simp [repT_len h4]
/-- how a dict of ours lies there -/
theorem dic_raw (I : L2.Inv X pins σ H s) (r : Rel T as H st) {l : Nat} {t : Bool} {k : List (Val × Val)} (g : sget st l = some (.dic t k)) {ad : Addr} (ha : as[l]? = some ad) :
    (ad == sysModules) = false ∧ ∃ o es ep, s.heap.get? ad = some o ∧ o.ExactDict ∧ o.data = .dict es ep ∧ es.size = k.length := by
  obtain ⟨a', ha', q⟩ := r.ob l _ g
  rw [ha] at ha'; cases ha'
  cases t with
  | false =>
    obtain ⟨ks, h1, p1⟩ := q
    obtain ⟨_, s1, vs, kv, o, es, ep, g, x, dd, _, pp, _⟩ := dk_of I.hok h1
    have l1 := rep_len p1
    have l2 : ks.length = vs.length := Paired.length kv
    have l3 : es.toList.length = vs.length := pp.length
    rw [Array.length_toList] at l3
    exact ⟨s1, o, es, ep, g, x, dd, by omega⟩
  | true =>
    obtain ⟨ks, h1, p1⟩ := q
    obtain ⟨_, s1, xs, kt, o, es, ep, g, x, dd, he, _⟩ := dt_of I.hok h1
    have l1 := repT_len p1
    have l2 : ks.length = xs.length := Paired.length kt
    have l3 : es.size = xs.length := size_of_entries he
    exact ⟨s1, o, es, ep, g, x, dd, by omega⟩
theorem neD_ok {v w : Val} {r : R Val} (h : neD st v w = r) (hb : r ≠ .bad) : ∃ b, neD st v w = .ok (.bl b) st := by
  unfold neD at h ⊢
  split at h
  · split at h
    · rename_i t k1 u k2 _ _
      split at h
      · rename_i c; exact ⟨true, by rw [if_pos c]⟩
      · rename_i c
        split at h
        · rename_i c2; exact ⟨false, by rw [if_neg c, if_pos c2]⟩
        · rename_i c2
          split at h
          · rename_i c3; exact ⟨false, by rw [if_neg c, if_neg c2, if_pos c3]⟩
          · exact absurd h.symm hb
    · exact absurd h.symm hb
  · exact absurd h.symm hb
theorem neD_run (I : L2.Inv X pins σ H s) (hK : X.K = T.K) (r : Rel T as H st) (hu : X.A.units + 64 < cLine) {v w : Val} {x y : V} {vx vy : Value} {b : Bool} {Q : Value → Shared → Prop} {E : Value → Shared → Prop} (h : neD st v w = .ok (.bl b) st) (p : RepV T as H v x) (q : RepV T as H w y) (rx : RelV x vx) (ry : RelV y vy)
    (hQ : Q (.bool b) s) : wpAny (model X.prog X.w) X.A (compareOp .NotEq vx vy) Q E s := by
  unfold neD at h
  split at h
  · rename_i la lb
    split at h
    · rename_i t k1 u k2 ga gb
      obtain ⟨ad, ha, rfl⟩ := p
      obtain ⟨bd, hb, rfl⟩ := q
      cases rx; cases ry
      obtain ⟨za, o1, f1, n1, g1, x1, d1, z1⟩ := dic_raw I r ga ha
      obtain ⟨zb, o2, f2, n2, g2, x2, d2, z2⟩ := dic_raw I r gb hb
      split at h
      · rename_i c
        have eb : b = true := by cases h; rfl
        subst eb
        exact ne_dics ⟨o1, g1, x1.1⟩ ⟨o2, g2, x2.1⟩ (by omega) (fun q => pairs_raw za zb g1 d1 g2 d2 (.inl ⟨by omega, rfl⟩) q) hQ
      · rename_i c
        split at h
        · rename_i c2
          have eb : b = false := by cases h; rfl
          subst eb
          have : k1.length = k2.length := Decidable.of_not_not c
          exact ne_dics ⟨o1, g1, x1.1⟩ ⟨o2, g2, x2.1⟩ (by omega) (fun q => pairs_raw za zb g1 d1 g2 d2 (.inr ⟨Array.eq_empty_of_size_eq_zero (by omega), Array.eq_empty_of_size_eq_zero (by omega), rfl⟩) q) hQ
        · split at h
          · rename_i c3
            have eb : b = false := by cases h; rfl
            subst eb
            obtain ⟨rfl, rfl, rfl, hk, nd⟩ := c3
            obtain ⟨_, ha', ks1, h1, p1⟩ := r.ob la _ ga
            rw [ha] at ha'; cases ha'
            obtain ⟨_, hb', ks2, h2, p2⟩ := r.ob lb _ gb
            rw [hb] at hb'; cases hb'
            obtain ⟨_, s1, vs1, kv1, e1⟩ := dk_of I.hok h1
            obtain ⟨_, s2, vs2, kv2, e2⟩ := dk_of I.hok h2
            have l1 : ks1.length = vs1.length := Paired.length kv1
            have l2 : ks2.length = vs2.length := Paired.length kv2
            have l3 := rep_len p1
            have l4 := rep_len p2
            have hl : vs1.length = vs2.length := by omega
            refine ne_dics (r := false) ⟨o1, g1, x1.1⟩ ⟨o2, g2, x2.1⟩ (by omega) (fun {nm E' Q'} z => ?_) hQ
            have hits := PySem.W.KeqHitsIn.of (prog := X.prog) (w := X.w) (A := X.A.in1) (s := s) (kb := vs2) (e := fun _ => true) vs1 fun k v y hm hy => by
              obtain ⟨w, x, m1, r1, v1⟩ := row_of p1 kv1 hm
              obtain ⟨u', x', e1, r2, v2⟩ := row_at p2 kv2 nd m1
              rw [hy] at e1; cases e1
              have hw := List.all_eq_true.mp hk _ m1
              rw [Bool.and_eq_true, decide_eq_true_eq] at hw
              exact (veq_run I hK r 20 X.A.in1 (by show X.A.units + 1 + 20 < cLine; omega) w w x x' v y true hw.2 r1 r2 v1 v2).2.inModel _ _
            have ha : (vs1.all fun p => (valueAt vs2 p.1).isSome && true) = true := by
              rw [List.all_eq_true]
              intro p hp
              obtain ⟨w, x, m1, _, _⟩ := row_of p1 kv1 (q := p.1) (u := p.2) hp
              obtain ⟨u', x', e1, _, _⟩ := row_at p2 kv2 nd m1
              rw [e1]; rfl
            rw [ha] at hits
            exact PySem.W.keq_samePairsIn s1 s2 e1 e2 (fun _ => hits) (by rw [show (vs1.length == vs2.length) = true by rw [beq_iff_eq]; exact hl]; exact z)
          · cases h
    · cases h
  · cases h
end
end
end Ov

/-! A tuple times 0, 1 or more. -/
namespace Ov
open PySem PySem.Spec PyProof.Rows L2
theorem tuple_mul_1 (l : Addr) (items : Array Value) (n : Nat) (dd : Option Addr) (sl : Array (Option Value)) (u : Tok) :
    Meets (Builtin.«tuple.__mul__» ⟨[.ref l, .int 1 u], []⟩) (fun _ R s => s.heap.get? l = some { cls := .type "tuple", dict := dd, data := .seq items n, slots := sl } ∧ R (.ok (.ret (Value.ref l))) s) :=
  .of_wp fun prog w A R s h => by
    obtain ⟨hp, g, d, tk, os⟩ := s
    obtain ⟨hl, h⟩ := h
    have f1 := AutoSeq1.idx_int
    wp_walk using wpAny_loadPart' hl
    repeat (first
      | (refine wpAny_ite_false (by decide) ?_; wp_walk using wpAny_loadPart' hl)
      | (refine wpAny_ite_true (by simp) ?_; wp_walk using wpAny_loadPart' hl))
    exact ⟨_, rfl, h⟩
theorem tuple_mul_0 (l : Addr) (items : Array Value) (n : Nat) (dd : Option Addr) (sl : Array (Option Value)) (u : Tok) (hi : items.isEmpty = false) :
    Meets (Builtin.«tuple.__mul__» ⟨[.ref l, .int 0 u], []⟩) (fun _ R s => s.heap.get? l = some { cls := .type "tuple", dict := dd, data := .seq items n, slots := sl } ∧
      R (.ok (.ret (Value.ref s.heap.objs.size))) { s with heap := s.heap.push { cls := Value.type "tuple", data := Data.seq #[] }, toks := s.toks }) :=
  .of_wp fun prog w A R s h => by
    obtain ⟨hp, g, d, tk, os⟩ := s
    obtain ⟨hl, h⟩ := h
    have f1 := AutoSeq1.idx_int
    wp_walk using wpAny_loadPart' hl
    repeat (first
      | (refine wpAny_ite_false (by first | decide | (rw [hi]; decide)) ?_; wp_walk using wpAny_loadPart' hl)
      | (refine wpAny_ite_true (by simp) ?_; wp_walk using wpAny_loadPart' hl))
    exact ⟨_, rfl, h⟩
def rRepTk (K : PySem.W.Frag) : R2 := fun x y H Q => ∃ l k xs, x = .ref l ∧ y = .int k ∧ SqT K H l xs ∧ xs ≠ [] ∧ 0 ≤ k ∧ k ≤ 1000 ∧ xs.length ≤ 1000 ∧ (k = 1 → Q (.ref l) H) ∧ (k ≠ 1 → ∀ p, H p = none → Q (.ref p) (upd H p (.tup (List.replicate k.toNat xs).flatten)))
section
variable {X : Cx}
theorem op_repTk : OpR X (binaryOp .Mult) (rRepTk X.K) := by
  intro pins s σ H x y v u Q I rx ry h
  obtain ⟨l, k, xs, rfl, rfl, hT, hne, h1, h2, hz, q1, q⟩ := h
  by_cases k2 : 2 ≤ k
  · exact op_repT pins s σ H _ _ v u Q I rx ry ⟨l, k, xs, rfl, rfl, hT, hne, k2, h2, hz, q (by omega)⟩
  · cases rx
    obtain ⟨t, rfl⟩ := ry
    obtain ⟨its, r, ⟨⟨cls, dd, data, sl⟩, ho, hc, n, hd⟩, hs⟩ := I.tuple hT
    simp only at hc hd
    subst hc hd
    have hle : its.length = xs.length := r.length.symm
    have hn : its ≠ [] := fun e => hne (by
      rw [e] at hle
      exact List.eq_nil_of_length_eq_zero hle.symm)
    have hi : its.toArray.isEmpty = false := by
      cases its with
      | nil => exact absurd rfl hn
      | cons a b => rfl
    have hk : k = 0 ∨ k = 1 := by omega
    rcases hk with rfl | rfl
    · refine wpAny_binaryOp_repeat_ref (T := "tuple") (U := "int") (by decide) ⟨_, ho, rfl⟩ (fun s' => typeIs_int s' 0 t) noFill_tuple_mul F.fills_int_mul F.slot_int_rmul repeat_tuple F.slot_int_index.lookup
        (call_meets F.slot_int_rmul (typeIs_int s 0 t) F.entry_int_rmul (F.args_int_rmul_2 _ _) (int_rmul_tuple 0 t l its.toArray n dd sl)
          ⟨ho, rfl, ⟨_, ho, rfl⟩, call_meets F.slot_tuple_mul ⟨_, ho, rfl⟩ F.entry_tuple_mul (F.args_tuple_mul_2 _ _) (tuple_mul_0 l its.toArray n dd sl t hi) ⟨ho, ?_⟩⟩)
      refine ⟨.ref s.heap.objs.size, _, I.laid (t' := s.toks) (o := .tup (List.replicate (0 : Int).toNat xs).flatten) (fun b ob q => Heap.get?_push_of_some _ q) (Nat.le_refl _) ?_, rfl, q (by decide) _ (I.hok.fresh (Nat.le_refl _))⟩
      exact ⟨Nat.zero_le _, [], .nil, IsTup.new _ _⟩
    · refine wpAny_binaryOp_repeat_ref (T := "tuple") (U := "int") (by decide) ⟨_, ho, rfl⟩ (fun s' => typeIs_int s' 1 t) noFill_tuple_mul F.fills_int_mul F.slot_int_rmul repeat_tuple F.slot_int_index.lookup
        (call_meets F.slot_int_rmul (typeIs_int s 1 t) F.entry_int_rmul (F.args_int_rmul_2 _ _) (int_rmul_tuple 1 t l its.toArray n dd sl)
          ⟨ho, rfl, ⟨_, ho, rfl⟩, call_meets F.slot_tuple_mul ⟨_, ho, rfl⟩ F.entry_tuple_mul (F.args_tuple_mul_2 _ _) (tuple_mul_1 l its.toArray n dd sl t) ⟨ho, ?_⟩⟩)
      exact ⟨.ref l, H, I, rfl, q1 rfl⟩
end
end Ov

/-! Operators, comparisons, subscripts of the evaluator's values. -/
namespace Ov
open PySem PySem.Spec L2
/-- what is wanted behind a step by values that raises nothing -/
def PV (T : Tb) (as : List Addr) (H : Hp) (r : R Val) (Q : VK) : Prop := match r with
  | .ok v st => ∀ as' H' x, Ext as H as' H' → Rel T as' H' st → RepV T as' H' v x → Q x H'
  | .exc _ _ => True
  | .bad => False
/-- list + list, also of those that no one changes -/
theorem op_catR {X : Cx} : OpR X (binaryOp .Add) (fun x y H Q => ∃ l b xs zs, x = .ref l ∧ y = .ref b ∧ Rd H l (.lst xs) ∧ Rd H b (.lst zs) ∧ xs.length + zs.length ≤ sizeLine ∧ ∀ p, H p = none → Q (.ref p) (upd H p (.lst (xs ++ zs)))) := by
  intro pins s σ H x y v u Q I rx ry h
  obtain ⟨l, b, xs, zs, rfl, rfl, hH, hB, hz, q⟩ := h
  cases rx
  cases ry
  obtain ⟨z, its, n, r, e⟩ := hH.ok I.hok
  obtain ⟨z2, its2, n2, r2, e2⟩ := hB.ok I.hok
  have l1 := r.length
  have l2 := r2.length
  refine PySem.P.add_list e e2 ?_ (by rw [List.size_toArray, List.size_toArray]; omega)
  have ea : its.toArray ++ its2.toArray = (its ++ its2).toArray := by simp
  rw [ea]
  exact ⟨.ref _, _, I.lnew (t' := s.toks) (r.append r2) (by rw [List.length_append]; omega), rfl, q _ I.fresh⟩
theorem Rel.lstR {T : Tb} {as : List Addr} {H : Hp} {st : Store} (r : Rel T as H st) {l : Nat} {vs : List Val} {a : Addr} (h : Ov.lstOf st l = some vs) (ha : as[l]? = some a) : ∃ xs, Rd H a (.lst xs) ∧ RepVs T as H vs xs := by
  unfold Ov.lstOf at h
  split at h
  · rename_i ws e
    cases h
    obtain ⟨a', ha', ho⟩ := r.ob l _ e
    rw [ha] at ha'; cases ha'
    obtain ⟨xs, h1, h2⟩ := ho
    exact ⟨xs, .inl h1, h2⟩
  · rename_i ws e
    cases h
    obtain ⟨a', ha', ho⟩ := r.ob l _ e
    rw [ha] at ha'; cases ha'
    obtain ⟨o, xs, h1, h2⟩ := ho
    exact ⟨xs, .inr ⟨o, h1⟩, h2⟩
  · cases h
section
variable {T : Tb} {as : List Addr} {H : Hp} {st : Store} {Q : VK} {X : Cx}
theorem PV.here {v : Val} {x : V} (h : PV T as H (.ok v st) Q) (r : Rel T as H st) (p : RepV T as H v x) : Q x H := h as H x (Ext.refl _ _) r p
theorem PV.newL {vs : List Val} {xs : List V} (h : PV T as H (alloc (.lst vs) st) Q) (r : Rel T as H st) (p : RepVs T as H vs xs) : ∀ q, H q = none → Q (.ref q) (upd H q (.lst xs)) := fun q hq => by
  have e : Ext as H (as ++ [q]) (upd H q (.lst xs)) := Ext.new hq
  refine h (as ++ [q]) _ (.ref q) e (r.new hq ⟨xs, upd_same, RepVs.ext e _ _ p⟩) ⟨q, ?_, rfl⟩
  rw [← r.len]; simp
theorem PV.newT {vs : List Val} {xs : List V} (h : PV T as H (.ok (.tup vs) st) Q) (r : Rel T as H st) (p : RepVs T as H vs xs) : ∀ q, H q = none → Q (.ref q) (upd H q (.tup xs)) := fun q hq => by
  have e : Ext as H as (upd H q (.tup xs)) := Ext.lay hq
  exact h as _ (.ref q) e (r.lay hq) ⟨q, xs, rfl, upd_same, RepVs.ext e _ _ p⟩
/-- a list's place, if it may be written -/
theorem Rel.lst (r : Rel T as H st) {l : Nat} {vs : List Val} (h : sget st l = some (.lst vs)) : ∃ a xs, as[l]? = some a ∧ H a = some (.lst xs) ∧ RepVs T as H vs xs := by
  obtain ⟨a, h1, xs, h2, h3⟩ := r.ob l _ h
  exact ⟨a, xs, h1, h2, h3⟩
theorem lstOf_of {l : Nat} {vs : List Val} (h : sget st l = some (.lst vs)) : lstOf st l = some vs := by unfold lstOf; rw [h]
theorem lstOf_of' {l : Nat} {vs : List Val} (h : sget st l = some (.rol vs)) : lstOf st l = some vs := by unfold lstOf; rw [h]
theorem lim_eq : lim = sizeLine := by decide
theorem RepV.loc {l : Nat} {x : V} (h : RepV T as H (.loc l) x) : ∃ a, as[l]? = some a ∧ x = .ref a := h
theorem PV.putL (r : Rel T as H st) {l : Nat} {a : Addr} {vs : List Val} {xs : List V} {v : Val} {x : V} (h : PV T as H (.ok v (sput st l (.lst vs))) Q) (ha : as[l]? = some a) (p : RepVs T as H vs xs) (pv : RepV T as H v x) (hz : ∀ o u, H a ≠ some (.frz o u) := by (intro _ _ z; first | cases (Eq.trans (Eq.symm ‹_ = some (HO.lst _)›) z) | cases (Eq.trans (Eq.symm ‹_ = some (HO.dK _)›) z) | cases (Eq.trans (Eq.symm ‹_ = some (HO.dT _)›) z) | cases (Eq.trans (Eq.symm ‹_ = some (HO.ins _ _ _)›) z))) : Q x (upd H a (.lst xs)) := by
  have e : Ext as H as (upd H a (.lst xs)) := Ext.put r ha hz
  exact h as _ x e (r.put ha ⟨xs, upd_same, RepVs.ext e _ _ p⟩ hz) (RepV.ext e _ _ pv)

def rBin (T : Tb) (o : Operator) : R2 := fun x y H Q => ∃ as st v w, Rel T as H st ∧ RepV T as H v x ∧ RepV T as H w y ∧ PV T as H (binop o v w st) Q
theorem log2_lt {j : Int} (h0 : 0 < j) (h : j < 10 ^ 60) : j.natAbs.log2 < 9000 := by
  have h1 : j.natAbs < 10 ^ 60 := by omega
  have h2 : j.natAbs < 2 ^ 200 := Nat.lt_of_lt_of_le h1 (by decide)
  exact Nat.lt_trans ((Nat.log2_lt (by omega)).mpr h2) (by decide)
theorem opr_bin (hK : X.K = T.K) (o : Operator) : OpR X (binaryOp o) (rBin T o) := by
  intro pins s σ H x y vx vy Q I rx ry h
  obtain ⟨as, st, v, w, r, p, q, h⟩ := h
  cases o with
  | Add =>
    cases v with
    | int i =>
      cases w with
      | int j =>
        cases p; cases q
        exact op_add pins s σ H _ _ vx vy Q I rx ry ⟨i, j, rfl, rfl, h.here r rfl⟩
      | _ => exact h.elim
    | str a =>
      cases w with
      | str b =>
        cases p; cases q
        have h' : PV T as H (if a.length + b.length ≤ lim then .ok (.str (a ++ b)) st else .bad) Q := h
        by_cases c : a.length + b.length ≤ lim
        · rw [if_pos c] at h'
          exact op_add_str pins s σ H _ _ vx vy Q I rx ry ⟨a, b, rfl, rfl, by rw [← lim_eq]; exact c, h'.here r rfl⟩
        · rw [if_neg c] at h'; exact h'.elim
      | _ => exact h.elim
    | tup a =>
      cases w with
      | tup b =>
        obtain ⟨pa, xs, rfl, ta, pva⟩ := id p
        obtain ⟨pb, ys, rfl, tb, pvb⟩ := id q
        have h' : PV T as H (if a.length + b.length ≤ lim then .ok (.tup (a ++ b)) st else .bad) Q := h
        by_cases c : a.length + b.length ≤ lim
        · rw [if_pos c] at h'
          refine op_catA pins s σ H _ _ vx vy Q I rx ry ⟨pa, pb, xs, ys, rfl, rfl, by rw [hK]; exact ta.sqT, by rw [hK]; exact tb.sqT, by rw [← lim_eq, ← pva.length, ← pvb.length]; exact c, fun e => ?_, fun _ e => ?_, fun _ _ => h'.newT r (pva.append pvb)⟩
          · have ea : a = [] := List.length_eq_zero_iff.mp (by rw [pva.length, e]; rfl)
            subst ea
            exact h'.here r q
          · have eb : b = [] := List.length_eq_zero_iff.mp (by rw [pvb.length, e]; rfl)
            subst eb
            rw [List.append_nil] at h'
            exact h'.here r p
        · rw [if_neg c] at h'; exact h'.elim
      | _ => exact h.elim
    | loc l =>
      cases w with
      | loc m =>
        have h' : PV T as H (match Ov.lstOf st l, Ov.lstOf st m with
          | some xs, some ys => newL (xs ++ ys) st
          | _, _ => .bad) Q := h
        split at h'
        · rename_i vs ws h1 h2
          obtain ⟨a, e1, rfl⟩ := p.loc
          obtain ⟨b, e2, rfl⟩ := q.loc
          obtain ⟨xs, a2, a3⟩ := r.lstR h1 e1
          obtain ⟨ys, b2, b3⟩ := r.lstR h2 e2
          unfold newL at h'
          by_cases c : (vs ++ ws).length ≤ lim
          · rw [if_pos c] at h'
            refine op_catR pins s σ H _ _ vx vy Q I rx ry ⟨a, b, xs, ys, rfl, rfl, a2, b2, ?_, h'.newL r (a3.append b3)⟩
            rw [List.length_append, a3.length, b3.length] at c
            rw [← lim_eq]; exact c
          · rw [if_neg c] at h'; exact h'.elim
        · exact h'.elim
      | _ => exact h.elim
    | _ => exact h.elim
  | Sub =>
    cases v with
    | int i =>
      cases w with
      | int j =>
        cases p; cases q
        exact op_sub pins s σ H _ _ vx vy Q I rx ry ⟨i, j, rfl, rfl, h.here r rfl⟩
      | _ => exact h.elim
    | _ => exact h.elim
  | Mult =>
    cases v with
    | int i =>
      cases w with
      | int j =>
        cases p; cases q
        have h' : PV T as H (if (-(2 ^ 64) < i ∧ i < 2 ^ 64) ∨ (-(2 ^ 64) < j ∧ j < 2 ^ 64) then .ok (.int (i * j)) st else .bad) Q := h
        split at h'
        · rename_i c
          exact op_mul pins s σ H _ _ vx vy Q I rx ry ⟨i, j, rfl, rfl, c, h'.here r rfl⟩
        · exact h'.elim
      | _ => exact h.elim
    | str a =>
      cases w with
      | int k =>
        cases p; cases q
        have h' : PV T as H (if 0 ≤ k ∧ k ≤ 1 then .ok (.str (if k = 1 then a else Str.empty)) st else if 2 ≤ k ∧ k ≤ 10000 ∧ a.length ≠ 0 ∧ a.length * k.toNat ≤ 100000 then .ok (.str (strRep a k.toNat)) st else .bad) Q := h
        split at h'
        · rename_i c
          obtain ⟨t, rfl⟩ := (show ∃ t, vx = Value.str a t from rx)
          obtain ⟨t2, rfl⟩ := (show ∃ t, vy = Value.int k t from ry)
          refine PySem.SB.mul ⟨?_, fun h1 h2 => ?_, fun h1 h2 => ?_⟩ fun t' kk => ?_
          · simp only [Bool.or_eq_false_iff, decide_eq_false_iff_not]
            omega
          · have hk : k = 1 := by omega
            rw [hk] at h2
            simp at h2
          · have hk : k = 1 := by omega
            rw [hk] at h2
            simp at h2
          · have e : PySem.Txt.mul a k = if k = 1 then a else Str.empty := by
              unfold PySem.Txt.mul
              by_cases hk : k = 1
              · rw [if_neg (by omega), if_pos hk, hk]
                simp
              · rw [if_pos (by omega), if_neg hk]
            rw [e]
            exact ⟨.str _, H, I.tok _, ⟨t', rfl⟩, h'.here r rfl⟩
        · split at h'
          · rename_i c0 c
            obtain ⟨c1, c2, c3, c4⟩ := c
            obtain ⟨t, rfl⟩ := (show ∃ t, vx = Value.str a t from rx)
            obtain ⟨t2, rfl⟩ := (show ∃ t, vy = Value.int k t from ry)
            refine PySem.SB.mul ⟨?_, fun h1 h2 => ?_, fun h1 h2 => ?_⟩ fun t' kk => ?_
            · simp only [Bool.or_eq_false_iff, decide_eq_false_iff_not]
              omega
            · have hk : (0 : Int) < k := by omega
              have e1 : a.length * k.toNat ≤ 100000 := c4
              have e2 : (a.length : Int) * k ≤ 100000 := by
                have h9 := Int.ofNat_le.mpr e1
                rw [Int.natCast_mul, Int.toNat_of_nonneg (by omega)] at h9
                exact h9
              have e3 : (a.length : Int) ≤ (2 ^ 63 - 1) / k := (Int.le_ediv_iff_mul_le hk).mpr (by omega)
              omega
            · have e1 : a.length * k.toNat ≤ 100000 := c4
              exact decide_eq_false (Nat.not_lt.mpr (Nat.le_trans e1 (by decide)))
            · have e : PySem.Txt.mul a k = strRep a k.toNat := by
                unfold PySem.Txt.mul
                have hb : (k == 1 || a.length == 0) = false := by
                  rw [Bool.or_eq_false_iff]
                  exact ⟨beq_eq_false_iff_ne.mpr (by omega), beq_eq_false_iff_ne.mpr c3⟩
                rw [if_neg (by omega), if_neg (by rw [hb]; decide)]
                rfl
              rw [e]
              exact ⟨.str _, H, I.tok _, ⟨t', rfl⟩, h'.here r rfl⟩
          · exact h'.elim
      | _ => exact h.elim
    | loc l =>
      cases w with
      | int k =>
        cases q
        have h' : PV T as H (match sget st l with
          | some (.lst xs) => if -(2 ^ 63) ≤ k ∧ k < 2 ^ 63 ∧ xs.length * k.toNat ≤ lim then alloc (.lst (List.replicate k.toNat xs).flatten) st else .bad
          | _ => .bad) Q := h
        split at h'
        · rename_i vs h1
          obtain ⟨a, xs, a1, a2, a3⟩ := r.lst h1
          obtain ⟨a', e1, rfl⟩ := p.loc
          rw [a1] at e1; cases e1
          split at h'
          · rename_i c
            refine op_rep pins s σ H _ _ vx vy Q I rx ry ⟨a, k, xs, rfl, rfl, a2, c.1, c.2.1, by rw [← a3.length, ← lim_eq]; exact c.2.2, h'.newL r ?_⟩
            generalize k.toNat = n
            induction n with
            | zero => exact rfl
            | succ n ih =>
              simp only [List.replicate_succ, List.flatten_cons]
              exact a3.append ih
          · exact h'.elim
        · exact h'.elim
      | _ => exact h.elim
    | tup va =>
      cases w with
      | int k =>
        cases q
        obtain ⟨pa, xs, rfl, ta, pva⟩ := id p
        have h' : PV T as H (if va ≠ [] ∧ 0 ≤ k ∧ k ≤ 1000 ∧ va.length ≤ 1000 then .ok (.tup (List.replicate k.toNat va).flatten) st else .bad) Q := h
        split at h'
        · rename_i c
          obtain ⟨c1, c2, c3, c4⟩ := c
          have hne : xs ≠ [] := fun e => c1 (List.length_eq_zero_iff.mp (by rw [pva.length, e]; rfl))
          have rep : ∀ n : Nat, RepVs T as H (List.replicate n va).flatten (List.replicate n xs).flatten := fun n => by
            induction n with
            | zero => exact rfl
            | succ n ih =>
              simp only [List.replicate_succ, List.flatten_cons]
              exact pva.append ih
          refine op_repTk pins s σ H _ _ vx vy Q I rx ry ⟨pa, k, xs, rfl, rfl, by rw [hK]; exact ta.sqT, hne, c2, c3, by rw [← pva.length]; exact c4, fun e => ?_, fun _ => h'.newT r (rep _)⟩
          subst e
          have e1 : (List.replicate (1 : Int).toNat va).flatten = va := by simp
          rw [e1] at h'
          exact h'.here r p
        · exact h'.elim
      | _ => exact h.elim
    | _ => exact h.elim
  | BitAnd =>
    cases v with
    | int i =>
      cases w with
      | int j =>
        cases p; cases q
        exact op_and pins s σ H _ _ vx vy Q I rx ry ⟨i, j, rfl, rfl, h.here r rfl⟩
      | _ => exact h.elim
    | _ => exact h.elim
  | LShift =>
    cases v with
    | int i =>
      cases w with
      | int j =>
        cases p; cases q
        have h' : PV T as H (if 0 ≤ j ∧ j ≤ 1000000 ∧ i.natAbs < 2 ^ 64 then .ok (.int (i * 2 ^ j.toNat)) st else .bad) Q := h
        split at h'
        · rename_i c
          exact op_shl pins s σ H _ _ vx vy Q I rx ry ⟨i, j, rfl, rfl, c, h'.here r rfl⟩
        · exact h'.elim
      | _ => exact h.elim
    | _ => exact h.elim
  | RShift =>
    cases v with
    | int i =>
      cases w with
      | int j =>
        cases p; cases q
        have h' : PV T as H (if 0 ≤ j then .ok (.int (i / 2 ^ j.toNat)) st else .bad) Q := h
        split at h'
        · rename_i c
          exact op_shr pins s σ H _ _ vx vy Q I rx ry ⟨i, j, rfl, rfl, c, h'.here r rfl⟩
        · exact h'.elim
      | _ => exact h.elim
    | _ => exact h.elim
  | FloorDiv =>
    cases v with
    | int i =>
      cases w with
      | int j =>
        cases p; cases q
        have h' : PV T as H (if 0 < j ∧ j < 10 ^ 60 then .ok (.int (i / j)) st else .bad) Q := h
        split at h'
        · rename_i c
          exact op_fdivW pins s σ H _ _ vx vy Q I rx ry ⟨i, j, rfl, rfl, ⟨c.1, log2_lt c.1 c.2⟩, h'.here r rfl⟩
        · exact h'.elim
      | _ => exact h.elim
    | _ => exact h.elim
  | Mod =>
    cases v with
    | int i =>
      cases w with
      | int j =>
        cases p; cases q
        have h' : PV T as H (if 0 < j then .ok (.int (i % j)) st else .bad) Q := h
        split at h'
        · rename_i c
          exact op_mod pins s σ H _ _ vx vy Q I rx ry ⟨i, j, rfl, rfl, c, h'.here r rfl⟩
        · exact h'.elim
      | _ => exact h.elim
    | _ => exact h.elim
  | Pow =>
    cases v with
    | int i =>
      cases w with
      | int j =>
        cases p; cases q
        have h' : PV T as H (if 0 ≤ j ∧ j ≤ 1000000 ∧ i.natAbs < 2 ^ 64 then .ok (.int (i ^ j.toNat)) st else .bad) Q := h
        split at h'
        · rename_i c
          exact op_pow pins s σ H _ _ vx vy Q I rx ry ⟨i, j, rfl, rfl, c, h'.here r rfl⟩
        · exact h'.elim
      | _ => exact h.elim
    | _ => exact h.elim
  | _ => exact h.elim

/-! ### truth -/
theorem truV_ok (hK : X.K = T.K) (r : Rel T as H st) {v : Val} {x : V} {b : Bool} (p : RepV T as H v x) (h : truth st v = some b) : TruV X.K x H b := by
  cases v with
  | ktp vs => cases h
  | non => cases p; cases h; rfl
  | bl c => cases p; cases h; rfl
  | int i =>
    cases p; cases h
    show decide (i ≠ 0) = (i != 0)
    by_cases e : i = 0
    · subst e; rfl
    · rw [decide_eq_true e]; simp [e]
  | str z =>
    cases p
    have h' : (if z.length ≤ lim then some (decide (z.length ≠ 0)) else none) = some b := h
    split at h'
    · rename_i c
      cases h'
      refine ⟨by rw [← lim_eq]; exact c, ?_⟩
      by_cases e : z.length = 0
      · simp [e]
      · have e2 : (z.length : Int) ≠ 0 := by omega
        simp [e]
    · cases h'
  | tup vs =>
    obtain ⟨a, xs, rfl, ht, q⟩ := p
    cases h
    refine .inr (.inl ⟨xs, by rw [hK]; exact ht.sqT, ?_⟩)
    have := q.length
    cases vs <;> cases xs <;> first | rfl | cases this
  | loc l =>
    obtain ⟨a, ha, rfl⟩ := p
    have h' : (match sget st l with
      | some (.lst vs) => some (!vs.isEmpty)
      | some (.rol vs) => some (!vs.isEmpty)
      | some (.dic false kvs) => some (!kvs.isEmpty)
      | _ => none) = some b := h
    have emp : ∀ {vs : List Val} {xs : List V}, RepVs T as H vs xs → (!vs.isEmpty) = !xs.isEmpty := fun {vs xs} q => by
      have := q.length
      cases vs <;> cases xs <;> first | rfl | cases this
    split at h'
    · rename_i vs e
      cases h'
      obtain ⟨xs, q1, q2⟩ := r.lstOf (lstOf_of e) ha
      exact .inl ⟨xs, by rw [hK]; exact q1, emp q2⟩
    · rename_i vs e
      cases h'
      obtain ⟨xs, q1, q2⟩ := r.lstOf (lstOf_of' e) ha
      exact .inl ⟨xs, by rw [hK]; exact q1, emp q2⟩
    · rename_i kvs e
      cases h'
      obtain ⟨a', ha', ks, q1, q2⟩ := r.ob l _ e
      rw [ha] at ha'; cases ha'
      refine .inr (.inr ⟨ks, q1, ?_⟩)
      cases kvs with
      | nil => cases q2; rfl
      | cons p kvs =>
        obtain ⟨_, _, _, e2, _⟩ := q2
        rw [e2]; rfl
    · cases h'

/-! ### dicts -/
theorem kVal_inj {a b : Key} (h : kVal a = kVal b) : a = b := by
  cases a <;> cases b <;> first | (injection h with h; rw [h]) | cases h
theorem kVals_inj : ∀ {a b : List Key}, a.map kVal = b.map kVal → a = b
  | [], [], _ => rfl
  | [], _ :: _, h => by cases h
  | _ :: _, [], h => by cases h
  | x :: a, y :: b, h => by
    simp only [List.map_cons, List.cons.injEq] at h
    rw [kVal_inj h.1, kVals_inj h.2]
def RO (T : Tb) (as : List Addr) (H : Hp) : Option Val → Option V → Prop
  | some v, some x => RepV T as H v x
  | none, none => True
  | _, _ => False
theorem RepK.get : ∀ {kvs : List (Val × Val)} {ks : List (Key × V)}, RepK T as H kvs ks → ∀ q : Key, RO T as H (dget kvs (kVal q)) (valV ks q)
  | [], _, h, q => by cases h; exact True.intro
  | (k, v) :: r, _, h, q => by
    obtain ⟨q', x, rs, rfl, rfl, h3, h4⟩ := h
    have ih := RepK.get h4 q
    unfold dget valV at ih ⊢
    rw [List.find?_cons, List.find?_cons]
    by_cases e : q' = q
    · subst e
      simp only [decide_true]
      exact h3
    · have e' : kVal q' ≠ kVal q := fun z => e (kVal_inj z)
      simp only [decide_eq_false e, decide_eq_false e']
      exact ih
theorem RepT.get : ∀ {kvs : List (Val × Val)} {ks : List (List Key × V)}, RepT T as H kvs ks → ∀ q : List Key, RO T as H (dget kvs (.tup (q.map kVal))) (valV ks q)
  | [], _, h, q => by cases h; exact True.intro
  | (k, v) :: r, _, h, q => by
    obtain ⟨q', x, rs, rfl, rfl, h3, h4⟩ := h
    have ih := RepT.get h4 q
    unfold dget valV at ih ⊢
    rw [List.find?_cons, List.find?_cons]
    by_cases e : q' = q
    · subst e
      simp only [decide_true]
      exact h3
    · have e' : Val.tup (q'.map kVal) ≠ Val.tup (q.map kVal) := fun z => e (kVals_inj (Val.tup.inj z))
      simp only [decide_eq_false e, decide_eq_false e']
      exact ih
/-- a key of a dict whose keys are ints and texts -/
theorem key1 {k : Val} {x : V} (h : fitKey false k = true) (p : RepV T as H k x) : ∃ q : Key, k = kVal q ∧ x = kV q := by
  cases k with
  | int i => cases p; exact ⟨.inl i, rfl, rfl⟩
  | str z => cases p; exact ⟨.inr z, rfl, rfl⟩
  | tup ks => cases h
  | ktp ks => cases h
  | non => cases h
  | bl b => cases h
  | loc l => cases h
theorem keys_of : ∀ {ks : List Val} {xs : List V}, ks.all leafKey = true → RepVs T as H ks xs → ∃ q : List Key, ks = q.map kVal ∧ xs = q.map kV
  | [], _, _, h => by cases h; exact ⟨[], rfl, rfl⟩
  | k :: ks, _, hk, h => by
    obtain ⟨x, r, rfl, h2, h3⟩ := h
    rw [List.all_cons, Bool.and_eq_true] at hk
    obtain ⟨q, rfl, rfl⟩ := keys_of hk.2 h3
    cases k with
    | int i => cases h2; exact ⟨.inl i :: q, rfl, rfl⟩
    | str z => cases h2; exact ⟨.inr z :: q, rfl, rfl⟩
    | _ => cases hk.1
/-- a dict's place: what it answers to a key -/
theorem Rel.dget (r : Rel T as H st) {l : Nat} {t : Bool} {kvs : List (Val × Val)} {k : Val} {y : V} {a : Addr} (h : sget st l = some (.dic t kvs) ∨ sget st l = some (.rod t kvs)) (ha : as[l]? = some a) (hk : fitKey t k = true) (p : RepV T as H k y) : ∃ o, DGet H a y o ∧ RO T as H (Ov.dget kvs k) o := by
  have key : ∀ ks : List (Key × V), Rd H a (.dK ks) → t = false → RepK T as H kvs ks → ∃ o, DGet H a y o ∧ RO T as H (Ov.dget kvs k) o := by
    intro ks h1 et h2
    subst et
    obtain ⟨q, rfl, rfl⟩ := key1 hk p
    exact ⟨_, .inl ⟨ks, q, h1, rfl, rfl⟩, h2.get q⟩
  have keyT : ∀ ks : List (List Key × V), Rd H a (.dT ks) → t = true → RepT T as H kvs ks → ∃ o, DGet H a y o ∧ RO T as H (Ov.dget kvs k) o := by
    intro ks h1 et h2
    subst et
    cases k with
    | tup kk =>
      obtain ⟨b, xs, rfl, ht, hp⟩ := p
      obtain ⟨q, rfl, rfl⟩ := keys_of (by simpa [fitKey] using hk) hp
      exact ⟨_, .inr ⟨ks, q, b, h1, rfl, ht, rfl⟩, h2.get q⟩
    | _ => cases hk
  rcases h with h | h
  · obtain ⟨a', ha', ho⟩ := r.ob l _ h
    rw [ha] at ha'; cases ha'
    cases t with
    | false => obtain ⟨ks, h1, h2⟩ := ho; exact key ks (.inl h1) rfl h2
    | true => obtain ⟨ks, h1, h2⟩ := ho; exact keyT ks (.inl h1) rfl h2
  · obtain ⟨a', ha', ho⟩ := r.ob l _ h
    rw [ha] at ha'; cases ha'
    cases t with
    | false => obtain ⟨o, ks, h1, h2⟩ := ho; exact key ks (.inr ⟨o, h1⟩) rfl h2
    | true => obtain ⟨o, ks, h1, h2⟩ := ho; exact keyT ks (.inr ⟨o, h1⟩) rfl h2

/-! ### comparisons -/
theorem beq_notb (neg r : Bool) : (if neg = true then !r else r) = (neg != r) := by cases neg <;> cases r <;> rfl
/-- in, not in -/
theorem in_run {pins : List (Addr × Obj)} {σ : L2.St} {s : Shared} {x y : V} {vx vy : Value} {v w : Val} (hK : X.K = T.K) (hu : X.A.units + 64 < cLine) (neg : Bool) (I : L2.Inv X pins σ H s) (rx : RelV x vx) (ry : RelV y vy) (r : Rel T as H st)
    (p : RepV T as H v x) (q : RepV T as H w y) (h : PV T as H (inop neg v w st) Q) : wpAny (model X.prog X.w) X.A (compareOp (if neg = true then .NotIn else .In) vx vy) (EP X pins σ Q) X.xe s := by
  have hd : X.A.units + 1 + deepest < cLine := by show X.A.units + 1 + 40 < cLine; omega
  have seqL : ∀ {ws : List Val} {l : Nat}, lstOf st l = some ws → PV T as H (match inL st v ws with
      | some r => R.ok (.bl (neg != r)) st
      | none => .bad) Q → w = .loc l → wpAny (model X.prog X.w) X.A (compareOp (if neg = true then .NotIn else .In) vx vy) (EP X pins σ Q) X.xe s := by
    intro ws l hl h2 ew
    subst ew
    cases c : inL st v ws with
    | none => rw [c] at h2; exact h2.elim
    | some b =>
      rw [c] at h2
      obtain ⟨a, ha, rfl⟩ := q.loc
      cases ry
      obtain ⟨xs, its, p1, p2, p3⟩ := isL I hK r hl ha
      obtain ⟨g, e1, e2⟩ := in_fun I hK r hd p rx c p1 p2
      cases neg with
      | false => exact SeqAt.in_listAt g p3 e1 ⟨.bl b, H, I, by rw [e2]; rfl, by have := h2.here r rfl; simpa using this⟩
      | true => exact SeqAt.notIn_listAt g p3 e1 ⟨.bl (!b), H, I, by rw [e2]; rfl, by have := h2.here r rfl; simpa using this⟩
  have dic : ∀ {t : Bool} {kvs : List (Val × Val)} {l : Nat}, (sget st l = some (.dic t kvs) ∨ sget st l = some (.rod t kvs)) → PV T as H (if fitKey t v then .ok (.bl (neg != (dget kvs v).isSome)) st else .bad) Q → w = .loc l →
      wpAny (model X.prog X.w) X.A (compareOp (if neg = true then .NotIn else .In) vx vy) (EP X pins σ Q) X.xe s := by
    intro t kvs l hl h' ew
    subst ew
    by_cases c : fitKey t v = true
    · rw [if_pos c] at h'
      obtain ⟨a, ha, rfl⟩ := q.loc
      cases ry
      obtain ⟨o, g, ro⟩ := r.dget hl ha c p
      have eo : (dget kvs v).isSome = o.isSome := by
        cases e1 : dget kvs v <;> cases o <;> first | rfl | (rw [e1] at ro; cases ro)
      rw [eo] at h'
      have hu' : X.A.units + 1 < cLine := by omega
      cases neg with
      | false => exact d_in hu' I g rx fun s3 I3 => ⟨.bl o.isSome, H, I3, rfl, by have := h'.here r rfl; simpa using this⟩
      | true => exact d_notIn hu' I g rx fun s3 I3 => ⟨.bl (!o.isSome), H, I3, rfl, by have := h'.here r rfl; simpa using this⟩
    · rw [if_neg c] at h'; exact h'.elim
  cases w with
  | ktp ws => exact h.elim
  | str b =>
    cases q
    cases v with
    | str a =>
      cases p
      have h' : PV T as H (match a.cps.toList with
        | [c] => .ok (.bl (neg != decide (c ∈ b.cps.toList))) st
        | _ => .ok (.bl (neg != isSub a b)) st) Q := h
      split at h'
      · rename_i c ec
        have ea : a = ⟨#[c]⟩ := by
          obtain ⟨⟨l⟩⟩ := a
          simp at ec
          rw [ec]
        subst ea
        cases neg with
        | false => exact op_in_sign pins s σ H _ _ vx vy Q I rx ry ⟨c, b, rfl, rfl, by have := h'.here r rfl; simpa using this⟩
        | true => exact op_notIn_sign pins s σ H _ _ vx vy Q I rx ry ⟨c, b, rfl, rfl, by have := h'.here r rfl; simpa using this⟩
      · cases neg with
        | false => exact op_in_str pins s σ H _ _ vx vy Q I rx ry ⟨a, b, rfl, rfl, by have := h'.here r rfl; simpa [isSub] using this⟩
        | true => exact op_notin_str pins s σ H _ _ vx vy Q I rx ry ⟨a, b, rfl, rfl, by have := h'.here r rfl; simpa [isSub] using this⟩
    | _ => exact h.elim
  | tup ws =>
    obtain ⟨a, xs, rfl, ht, pw⟩ := q
    cases ry
    have h' : PV T as H (match inL st v ws with
      | some r => R.ok (.bl (neg != r)) st
      | none => .bad) Q := h
    cases c : inL st v ws with
    | none => rw [c] at h'; exact h'.elim
    | some b =>
      rw [c] at h'
      obtain ⟨its, p2, p3⟩ := isT I hK ht
      obtain ⟨e, e1, e2⟩ := in_fun I hK r hd p rx c pw p2
      cases neg with
      | false => exact SeqAt.in_tupleAt e p3 e1 ⟨.bl b, H, I, by rw [e2]; rfl, by have := h'.here r rfl; simpa using this⟩
      | true => exact SeqAt.notIn_tupleAt e p3 e1 ⟨.bl (!b), H, I, by rw [e2]; rfl, by have := h'.here r rfl; simpa using this⟩
  | loc l =>
    have h' := h
    unfold inop at h'
    dsimp only at h'
    split at h'
    · rename_i vs e
      exact seqL (lstOf_of e) h' rfl
    · rename_i vs e
      exact seqL (lstOf_of' e) h' rfl
    · rename_i t kvs e
      exact dic (.inl e) h' rfl
    · rename_i t kvs e
      exact dic (.inr e) h' rfl
    · exact h'.elim
  | non => exact h.elim
  | bl _ => exact h.elim
  | int _ => exact h.elim
def rCmp (T : Tb) (o : CmpOp) : R2 := fun x y H Q => ∃ as st v w, Rel T as H st ∧ RepV T as H v x ∧ RepV T as H w y ∧ PV T as H (cmpop o v w st) Q
theorem opr_cmp (hK : X.K = T.K) (hu : X.A.units + 64 < cLine) (o : CmpOp) : OpR X (compareOp o) (rCmp T o) := by
  intro pins s σ H x y vx vy Q I rx ry h
  obtain ⟨as, st, v, w, r, p, q, h⟩ := h
  have ord : ∀ {P : Int → Int → Bool} {S : List Nat → List Nat → Bool}, PV T as H (ordop P S v w st) Q → (∃ i j, x = .int i ∧ y = .int j ∧ Q (.bl (P i j)) H) ∨ (∃ a b : Str, x = .str a ∧ y = .str b ∧ Q (.bl (S a.cps.toList b.cps.toList)) H) := by
    intro P S h
    cases v with
    | int i =>
      cases w with
      | int j => cases p; cases q; exact .inl ⟨i, j, rfl, rfl, h.here r rfl⟩
      | _ => exact h.elim
    | str a =>
      cases w with
      | str b => cases p; cases q; exact .inr ⟨a, b, rfl, rfl, h.here r rfl⟩
      | _ => exact h.elim
    | _ => exact h.elim
  cases o with
  | Eq =>
    have h' : PV T as H (match eqb st v w with
      | some r => .ok (.bl r) st
      | none => .bad) Q := h
    cases c : eqb st v w with
    | none => rw [c] at h'; exact h'.elim
    | some b =>
      rw [c] at h'
      exact (veq_run I hK r deepest X.A (by show X.A.units + 40 < cLine; omega) _ _ _ _ _ _ _ c p q rx ry).1 _ _ _ _ ⟨.bl b, H, I, rfl, h'.here r rfl⟩
  | NotEq =>
    have h' : PV T as H (match eqb st v w with
      | some r => .ok (.bl (!r)) st
      | none => if sameD st v w = true then .ok (.bl false) st else neD st v w) Q := h
    cases c : eqb st v w with
    | none =>
      rw [c] at h'
      dsimp only at h'
      split at h'
      · rename_i hs
        exact same_run I hK r (by show X.A.units + 64 < cLine; omega) hs p q rx ry ⟨.bl false, H, I, rfl, h'.here r rfl⟩
      · by_cases hb : neD st v w = .bad
        · rw [hb] at h'; exact h'.elim
        obtain ⟨b, eb⟩ := neD_ok rfl hb
        rw [eb] at h'
        exact neD_run I hK r (by show X.A.units + 64 < cLine; omega) eb p q rx ry ⟨.bl b, H, I, rfl, h'.here r rfl⟩
    | some b =>
      rw [c] at h'
      exact vne_run I hK r deepest X.A (by show X.A.units + 40 < cLine; omega) _ _ _ _ _ _ _ c p q rx ry _ _ _ _ ⟨.bl (!b), H, I, rfl, h'.here r rfl⟩
  | Lt =>
    rcases ord (P := fun i j => decide (i < j)) (S := fun a b => decide (a < b)) h with ⟨i, j, rfl, rfl, h⟩ | ⟨a, b, rfl, rfl, h⟩
    · exact op_lt pins s σ H _ _ vx vy Q I rx ry ⟨i, j, rfl, rfl, h⟩
    · exact op_lt_str pins s σ H _ _ vx vy Q I rx ry ⟨a, b, rfl, rfl, h⟩
  | LtE =>
    rcases ord (P := fun i j => decide (i ≤ j)) (S := fun a b => !decide (b < a)) h with ⟨i, j, rfl, rfl, h⟩ | ⟨a, b, rfl, rfl, h⟩
    · exact op_le pins s σ H _ _ vx vy Q I rx ry ⟨i, j, rfl, rfl, h⟩
    · exact op_le_str pins s σ H _ _ vx vy Q I rx ry ⟨a, b, rfl, rfl, h⟩
  | Gt =>
    rcases ord (P := fun i j => decide (j < i)) (S := fun a b => decide (b < a)) h with ⟨i, j, rfl, rfl, h⟩ | ⟨a, b, rfl, rfl, h⟩
    · exact op_gt pins s σ H _ _ vx vy Q I rx ry ⟨i, j, rfl, rfl, h⟩
    · exact op_gt_str pins s σ H _ _ vx vy Q I rx ry ⟨a, b, rfl, rfl, h⟩
  | GtE =>
    rcases ord (P := fun i j => decide (j ≤ i)) (S := fun a b => !decide (a < b)) h with ⟨i, j, rfl, rfl, h⟩ | ⟨a, b, rfl, rfl, h⟩
    · exact op_ge pins s σ H _ _ vx vy Q I rx ry ⟨i, j, rfl, rfl, h⟩
    · exact op_ge_str pins s σ H _ _ vx vy Q I rx ry ⟨a, b, rfl, rfl, h⟩
  | Is =>
    cases w with
    | non =>
      cases q
      have h' : PV T as H (.ok (.bl (decide (v = .non))) st) Q := h
      have e : decide (v = Val.non) = decide (x = V.non) := by
        cases v <;> first | (cases p; rfl) | (obtain ⟨_, _, rfl⟩ := p; rfl) | (obtain ⟨_, _, rfl, _⟩ := p; rfl)
      refine op_isN pins s σ H _ _ vx vy Q I rx ry ⟨rfl, ?_⟩
      rw [← e]
      exact h'.here r rfl
    | bl b =>
      cases q
      cases v with
      | bl c => cases p; exact op_is_bl pins s σ H _ _ vx vy Q I rx ry ⟨c, b, rfl, rfl, PV.here (T := T) (as := as) h r rfl⟩
      | _ => exact h.elim
    | _ => exact h.elim
  | IsNot =>
    cases w with
    | non =>
      cases q
      have h' : PV T as H (.ok (.bl (!decide (v = .non))) st) Q := h
      have e : decide (v = Val.non) = decide (x = V.non) := by
        cases v <;> first | (cases p; rfl) | (obtain ⟨_, _, rfl⟩ := p; rfl) | (obtain ⟨_, _, rfl, _⟩ := p; rfl)
      refine op_notN pins s σ H _ _ vx vy Q I rx ry ⟨rfl, ?_⟩
      rw [← e]
      exact h'.here r rfl
    | bl b =>
      cases q
      cases v with
      | bl c => cases p; exact op_isnot_bl pins s σ H _ _ vx vy Q I rx ry ⟨c, b, rfl, rfl, PV.here (T := T) (as := as) h r rfl⟩
      | _ => exact h.elim
    | _ => exact h.elim
  | In => exact in_run hK hu false I rx ry r p q h
  | NotIn => exact in_run hK hu true I rx ry r p q h
end
end Ov

/-! Subscripts, slices, stores, built-in functions and methods of the evaluator's values. -/
namespace Ov
open PySem PySem.Spec L2
open PyProof.Rows (subscriptTail)
section
variable {T : Tb} {as : List Addr} {H : Hp} {st : Store} {Q : VK} {X : Cx}

/-! ### x[i] -/
theorem ix_dict (hu : X.A.units + 1 < cLine) : IxR X (fun x y H Q => ∃ a z, x = .ref a ∧ DGet H a y (some z) ∧ Q z H) := by
  intro value slice pins s σ H x y o i Q I rx ry h hs
  obtain ⟨a, z, rfl, g, q⟩ := h
  cases rx
  have hT := dict_typeIs I g
  unfold subscriptTail
  refine wpAny_bind ?_
  rw [getitemInPython_of_ne hT.not_modules]
  refine wpAny_bind (wpAny_specialOf hT PySem.F.slot_dict_getitem.lookup ?_)
  have fin : wpAny (model X.prog X.w) X.A (subscripted slice false (.ref a) i) (fun r s₃ => wpAny (model X.prog X.w) X.A (letTemporaryGo value (.ref a) r >>= fun _ => pure r) (EP X pins σ Q) X.xe s₃) X.xe s := by
    rw [hs]
    exact wpAny_operating (wpAny_mono (d_getItem hu I g ry fun w' s3 I3 rw' => (⟨z, H, I3, rw', q⟩ : EP X pins σ Q w' s3)) (fun r s₃ h₃ => wpAny_bind (wpAny_letTemporaryGo (wpAny_pure h₃))) fun _ _ x => x)
  first
    | exact wpAny_pure (wpAny_bind fin)
    | exact wpAny_bind (wpAny_pure (wpAny_bind fin))
    | exact wpAny_bind fin
theorem atI_rep {vs : List Val} {xs : List V} (p : RepVs T as H vs xs) {i : Int} {v : Val} (h : atI vs i = some v) : ∃ x, atI xs i = some x ∧ RepV T as H v x := by
  unfold atI at h ⊢
  rw [← p.length]
  cases e : ixN vs.length i with
  | none => rw [e] at h; cases h
  | some j =>
    rw [e] at h
    exact p.get h
def rIxE (T : Tb) : R2 := fun x y H Q => ∃ as st v w, Rel T as H st ∧ RepV T as H v x ∧ RepV T as H w y ∧ PV T as H (getix v w st) Q
theorem ixr (hK : X.K = T.K) (hu : X.A.units + 64 < cLine) : IxR X (rIxE T) := by
  intro value slice pins s σ H x y vx vy Q I rx ry h hs
  obtain ⟨as, st, v, w, r, p, q, h⟩ := h
  have hu' : X.A.units + 1 < cLine := by omega
  have lis : ∀ {l : Nat} {vs : List Val}, lstOf st l = some vs → v = .loc l → ∀ i : Int, w = .int i → PV T as H (R.opt (atI vs i) st) Q → wpAny (model X.prog X.w) X.A (subscriptTail value slice vx vy) (EP X pins σ Q) X.xe s := by
    intro l vs hl ev i ew h2
    subst ev ew
    cases q
    cases e : atI vs i with
    | none => rw [e] at h2; exact h2.elim
    | some z =>
      rw [e] at h2
      obtain ⟨a, ha, rfl⟩ := p.loc
      obtain ⟨xs, hs', hp⟩ := r.lstOf hl ha
      obtain ⟨u, hu2, pu⟩ := atI_rep hp e
      exact ix_list value slice pins s σ H _ _ vx vy Q I rx ry ⟨a, xs, i, u, rfl, rfl, by rw [hK]; exact hs', hu2, h2.here r pu⟩ hs
  have dic : ∀ {l : Nat} {t : Bool} {kvs : List (Val × Val)}, (sget st l = some (.dic t kvs) ∨ sget st l = some (.rod t kvs)) → v = .loc l → PV T as H (if fitKey t w then R.opt (dget kvs w) st else .bad) Q →
      wpAny (model X.prog X.w) X.A (subscriptTail value slice vx vy) (EP X pins σ Q) X.xe s := by
    intro l t kvs hl ev h2
    subst ev
    by_cases c : fitKey t w = true
    · rw [if_pos c] at h2
      cases e : dget kvs w with
      | none => rw [e] at h2; exact h2.elim
      | some z =>
        rw [e] at h2
        obtain ⟨a, ha, rfl⟩ := p.loc
        obtain ⟨o, g, ro⟩ := r.dget hl ha c q
        rw [e] at ro
        cases o with
        | none => cases ro
        | some u => exact ix_dict hu' value slice pins s σ H _ _ vx vy Q I rx ry ⟨a, u, rfl, g, h2.here r ro⟩ hs
    · rw [if_neg c] at h2; exact h2.elim
  cases v with
  | ktp vs => exact h.elim
  | tup vs =>
    cases w with
    | int i =>
      cases q
      have h' : PV T as H (R.opt (atI vs i) st) Q := h
      cases e : atI vs i with
      | none => rw [e] at h'; exact h'.elim
      | some z =>
        rw [e] at h'
        obtain ⟨a, xs, rfl, ht, hp⟩ := p
        obtain ⟨u, hu2, pu⟩ := atI_rep hp e
        exact ix_tup value slice pins s σ H _ _ vx vy Q I rx ry ⟨a, xs, i, u, rfl, rfl, by rw [hK]; exact ht.sqT, hu2, h'.here r pu⟩ hs
    | _ => exact h.elim
  | str z =>
    cases w with
    | int i =>
      cases p; cases q
      have h' : PV T as H (if z.length ≤ lim then (match atI z.cps.toList i with
        | some c => .ok (.str ⟨#[c]⟩) st
        | none => .bad) else .bad) Q := h
      split at h'
      · rename_i c
        split at h'
        · rename_i d e
          exact ix_str value slice pins s σ H _ _ vx vy Q I rx ry ⟨z, i, d, rfl, rfl, by rw [← lim_eq]; exact c, e, h'.here r rfl⟩ hs
        · exact h'.elim
      · exact h'.elim
    | _ => exact h.elim
  | loc l =>
    have h' := h
    unfold getix at h'
    dsimp only at h'
    split at h'
    · rename_i vs e
      cases w with
      | int i => exact lis (lstOf_of e) rfl i rfl h'
      | _ => exact h'.elim
    · rename_i vs e
      cases w with
      | int i => exact lis (lstOf_of' e) rfl i rfl h'
      | _ => exact h'.elim
    · rename_i t kvs e
      exact dic (.inl e) rfl h'
    · rename_i t kvs e
      exact dic (.inr e) rfl h'
    · exact h'.elim
  | non => exact h.elim
  | bl _ => exact h.elim
  | int _ => exact h.elim

/-! ### x[lo:hi] -/
theorem cut_rep {vs : List Val} {xs : List V} (p : RepVs T as H vs xs) (lo hi : Option Int) : RepVs T as H (cut vs lo hi) (cutV xs lo hi) := by
  unfold cut cutV
  rw [← p.length]
  exact (p.drop _).take _
def rSlE (T : Tb) : V → Option Int → Option Int → Hp → VK → Prop := fun x lo hi H Q => ∃ as st v, Rel T as H st ∧ RepV T as H v x ∧ PV T as H (getslO v lo hi st) Q
theorem slr (hK : X.K = T.K) : SlR X (rSlE T) := by
  intro pins s σ H x vx vl vu lo hi sl Q I rx hs pl pu h
  obtain ⟨as, st, v, r, p, h⟩ := h
  cases v with
  | ktp vs => exact h.elim
  | tup vs =>
    have h' : PV T as H (.ok (.tup (cut vs lo hi)) st) Q := h
    obtain ⟨a, xs, rfl, ht, hp⟩ := id p
    refine sl_tupA pins s σ H _ vx vl vu lo hi sl Q I rx hs pl pu ⟨a, xs, rfl, by rw [hK]; exact ht.sqT, fun c => ?_, fun _ => h'.newT r (cut_rep hp lo hi)⟩
    have e : cut vs lo hi = vs := by
      unfold cut
      rw [hp.length, c.1, c.2]
      simp [← hp.length]
    rw [e] at h'
    exact h'.here r p
  | str z =>
    cases p
    have h' : PV T as H (if z.length ≤ lim then .ok (.str (L2.cutS z lo hi)) st else .bad) Q := h
    split at h'
    · rename_i c
      exact sl_str pins s σ H _ vx vl vu lo hi sl Q I rx hs pl pu ⟨z, rfl, by rw [← lim_eq]; exact c, h'.here r rfl⟩
    · exact h'.elim
  | loc l =>
    have h' : PV T as H (match lstOf st l with
      | some vs => alloc (.lst (cut vs lo hi)) st
      | none => .bad) Q := h
    split at h'
    · rename_i vs e
      obtain ⟨a, ha, rfl⟩ := p.loc
      obtain ⟨xs, q1, q2⟩ := r.lstOf e ha
      exact sl_list pins s σ H _ vx vl vu lo hi sl Q I rx hs pl pu ⟨a, xs, rfl, by rw [hK]; exact q1, h'.newL r (cut_rep q2 lo hi)⟩
    · exact h'.elim
  | non => exact h.elim
  | bl _ => exact h.elim
  | int _ => exact h.elim

/-! ### x[i] = v -/
/-- what is wanted behind a step that hands back nothing -/
def PU (T : Tb) (as : List Addr) (H : Hp) (r : R Unit) (Q : Hp → Prop) : Prop := match r with
  | .ok _ st => ∀ as' H', Ext as H as' H' → Rel T as' H' st → Q H'
  | .exc _ _ => True
  | .bad => False
theorem RepK.put {v : Val} {x : V} (pv : RepV T as H v x) : ∀ {kvs : List (Val × Val)} {ks : List (Key × V)}, RepK T as H kvs ks → ∀ q : Key, RepK T as H (dput kvs (kVal q) v) (putK ks q x) := by
  have any_eq : ∀ {kvs : List (Val × Val)} {ks : List (Key × V)}, RepK T as H kvs ks → ∀ q : Key, (kvs.any fun kv => decide (kv.1 = kVal q)) = ks.any fun kv => decide (kv.1 = q) := by
    intro kvs
    induction kvs with
    | nil => intro ks h q; cases h; rfl
    | cons p kvs ih =>
      intro ks h q
      obtain ⟨k, v'⟩ := p
      obtain ⟨q', x', rs, rfl, rfl, h3, h4⟩ := h
      rw [List.any_cons, List.any_cons, ih h4 q]
      congr 1
      by_cases e : q' = q
      · subst e; simp
      · have e' : kVal q' ≠ kVal q := fun z => e (kVal_inj z)
        simp [e, e']
  have map_eq : ∀ {kvs : List (Val × Val)} {ks : List (Key × V)}, RepK T as H kvs ks → ∀ q : Key, RepK T as H (kvs.map fun kv => if kv.1 = kVal q then (kv.1, v) else kv) (ks.map fun kv => if kv.1 = q then (kv.1, x) else kv) := by
    intro kvs
    induction kvs with
    | nil => intro ks h q; cases h; exact rfl
    | cons p kvs ih =>
      intro ks h q
      obtain ⟨k, v'⟩ := p
      obtain ⟨q', x', rs, rfl, rfl, h3, h4⟩ := h
      rw [List.map_cons, List.map_cons]
      dsimp only
      by_cases e : q' = q
      · subst e
        rw [if_pos rfl, if_pos rfl]
        exact ⟨q', x, _, rfl, rfl, pv, ih h4 _⟩
      · have e' : kVal q' ≠ kVal q := fun z => e (kVal_inj z)
        rw [if_neg e, if_neg e']
        exact ⟨q', x', _, rfl, rfl, h3, ih h4 _⟩
  have app : ∀ {kvs : List (Val × Val)} {ks : List (Key × V)}, RepK T as H kvs ks → ∀ q : Key, RepK T as H (kvs ++ [(kVal q, v)]) (ks ++ [(q, x)]) := by
    intro kvs
    induction kvs with
    | nil => intro ks h q; cases h; exact ⟨q, x, [], rfl, rfl, pv, rfl⟩
    | cons p kvs ih =>
      intro ks h q
      obtain ⟨k, v'⟩ := p
      obtain ⟨q', x', rs, rfl, rfl, h3, h4⟩ := h
      exact ⟨q', x', _, rfl, rfl, h3, ih h4 q⟩
  intro kvs ks h q
  unfold dput putK
  rw [any_eq h q]
  split
  · exact map_eq h q
  · exact app h q
theorem RepT.put {v : Val} {x : V} (pv : RepV T as H v x) : ∀ {kvs : List (Val × Val)} {ks : List (List Key × V)}, RepT T as H kvs ks → ∀ q : List Key, RepT T as H (dput kvs (.tup (q.map kVal)) v) (putK ks q x) := by
  have inj : ∀ {a b : List Key}, Val.tup (a.map kVal) = Val.tup (b.map kVal) → a = b := fun h => kVals_inj (Val.tup.inj h)
  have any_eq : ∀ {kvs : List (Val × Val)} {ks : List (List Key × V)}, RepT T as H kvs ks → ∀ q : List Key, (kvs.any fun kv => decide (kv.1 = .tup (q.map kVal))) = ks.any fun kv => decide (kv.1 = q) := by
    intro kvs
    induction kvs with
    | nil => intro ks h q; cases h; rfl
    | cons p kvs ih =>
      intro ks h q
      obtain ⟨k, v'⟩ := p
      obtain ⟨q', x', rs, rfl, rfl, h3, h4⟩ := h
      rw [List.any_cons, List.any_cons, ih h4 q]
      congr 1
      by_cases e : q' = q
      · subst e; simp
      · have e' : Val.tup (q'.map kVal) ≠ .tup (q.map kVal) := fun z => e (inj z)
        rw [decide_eq_false e, decide_eq_false e']
  have map_eq : ∀ {kvs : List (Val × Val)} {ks : List (List Key × V)}, RepT T as H kvs ks → ∀ q : List Key, RepT T as H (kvs.map fun kv => if kv.1 = .tup (q.map kVal) then (kv.1, v) else kv) (ks.map fun kv => if kv.1 = q then (kv.1, x) else kv) := by
    intro kvs
    induction kvs with
    | nil => intro ks h q; cases h; exact rfl
    | cons p kvs ih =>
      intro ks h q
      obtain ⟨k, v'⟩ := p
      obtain ⟨q', x', rs, rfl, rfl, h3, h4⟩ := h
      rw [List.map_cons, List.map_cons]
      dsimp only
      by_cases e : q' = q
      · subst e
        rw [if_pos rfl, if_pos rfl]
        exact ⟨q', x, _, rfl, rfl, pv, ih h4 _⟩
      · have e' : Val.tup (q'.map kVal) ≠ .tup (q.map kVal) := fun z => e (inj z)
        rw [if_neg e, if_neg e']
        exact ⟨q', x', _, rfl, rfl, h3, ih h4 _⟩
  have app : ∀ {kvs : List (Val × Val)} {ks : List (List Key × V)}, RepT T as H kvs ks → ∀ q : List Key, RepT T as H (kvs ++ [(.tup (q.map kVal), v)]) (ks ++ [(q, x)]) := by
    intro kvs
    induction kvs with
    | nil => intro ks h q; cases h; exact ⟨q, x, [], rfl, rfl, pv, rfl⟩
    | cons p kvs ih =>
      intro ks h q
      obtain ⟨k, v'⟩ := p
      obtain ⟨q', x', rs, rfl, rfl, h3, h4⟩ := h
      exact ⟨q', x', _, rfl, rfl, h3, ih h4 q⟩
  intro kvs ks h q
  unfold dput putK
  rw [any_eq h q]
  split
  · exact map_eq h q
  · exact app h q
theorem RepK.length : ∀ {kvs : List (Val × Val)} {ks : List (Key × V)}, RepK T as H kvs ks → kvs.length = ks.length
  | [], _, h => by cases h; rfl
  | (k, v) :: r, _, h => by
    obtain ⟨q', x', rs, rfl, rfl, h3, h4⟩ := h
    simp [RepK.length h4]
theorem RepT.length : ∀ {kvs : List (Val × Val)} {ks : List (List Key × V)}, RepT T as H kvs ks → kvs.length = ks.length
  | [], _, h => by cases h; rfl
  | (k, v) :: r, _, h => by
    obtain ⟨q', x', rs, rfl, rfl, h3, h4⟩ := h
    simp [RepT.length h4]
def rSetE (T : Tb) : TSet := fun o i v H Q => ∃ as st vo vi vv, Rel T as H st ∧ RepV T as H vo o ∧ RepV T as H vi i ∧ RepV T as H vv v ∧ PU T as H (setix vo vi vv st) Q
theorem setr (hK : X.K = T.K) (hu : X.A.units + 64 < cLine) : PSet X (rSetE T) := by
  intro pins s σ H o i v ov iv u Q I ro ri rv h
  obtain ⟨as, st, vo, vi, vv, r, po, pi, pv, h⟩ := h
  have hu' : X.A.units + 1 < cLine := by omega
  cases vo with
  | loc l =>
    have h' := h
    unfold setix at h'
    dsimp only at h'
    obtain ⟨a, ha, rfl⟩ := po.loc
    split at h'
    · rename_i vs e
      cases vi with
      | int j =>
        cases pi
        dsimp only at h'
        split at h'
        · rename_i n en
          obtain ⟨a', xs, a1, a2, a3⟩ := r.lst e
          rw [ha] at a1; cases a1
          refine set_list pins s σ H _ _ v ov iv u Q I ro ri rv ⟨a, xs, j, n, rfl, rfl, a2, by rw [← a3.length]; exact en, ?_⟩
          have ex : Ext as H as (upd H a (.lst (xs.set n v))) := Ext.put r ha
          exact h' as _ ex (r.put ha ⟨_, upd_same, RepVs.ext ex _ _ (a3.set pv n)⟩)
        · exact h'.elim
      | _ => exact h'.elim
    · rename_i t kvs e
      split at h'
      · rename_i c
        obtain ⟨a', ha', ho⟩ := r.ob l _ e
        rw [ha] at ha'; cases ha'
        cases t with
        | false =>
          obtain ⟨ks, h1, h2⟩ := ho
          obtain ⟨q, rfl, rfl⟩ := key1 c.1 pi
          have hz : ks.length < sizeLine := by rw [← h2.length, ← lim_eq]; exact c.2
          refine set_dict hu' pins s σ H _ _ v ov iv u Q I ro ri rv ⟨a, _, rfl, .inl ⟨ks, q, h1, rfl, hz, rfl⟩, ?_⟩
          have ex : Ext as H as (upd H a (.dK (putK ks q v))) := Ext.put r ha
          exact h' as _ ex (r.put ha ⟨_, upd_same, (h2.put pv q).ext ex⟩)
        | true =>
          obtain ⟨ks, h1, h2⟩ := ho
          cases vi with
          | tup kk =>
            obtain ⟨b, xs, rfl, ht, hp⟩ := pi
            obtain ⟨q, rfl, rfl⟩ := keys_of (by simpa [fitKey] using c.1) hp
            have hz : ks.length < sizeLine := by rw [← h2.length, ← lim_eq]; exact c.2
            refine set_dict hu' pins s σ H _ _ v ov iv u Q I ro ri rv ⟨a, _, rfl, .inr ⟨ks, q, b, h1, rfl, ht, hz, rfl⟩, ?_⟩
            have ex : Ext as H as (upd H a (.dT (putK ks q v))) := Ext.put r ha
            exact h' as _ ex (r.put ha ⟨_, upd_same, (h2.put pv q).ext ex⟩)
          | int _ => exact absurd c.1 (by simp [fitKey])
          | ktp _ => exact absurd c.1 (by simp [fitKey])
          | str _ => exact absurd c.1 (by simp [fitKey])
          | non => exact absurd c.1 (by simp [fitKey])
          | bl _ => exact absurd c.1 (by simp [fitKey])
          | loc _ => exact absurd c.1 (by simp [fitKey])
      · exact h'.elim
    · exact h'.elim
  | _ => exact h.elim
end
end Ov

/-! sorted: tuples of ints and texts, dicts' keys. -/
namespace Ov
open PySem PySem.Spec L2 PyProof.Rows
/-! ### sorting by an order -/
section
variable {α : Type} {lt : α → α → Bool}
theorem insBy_perm (lt : α → α → Bool) (x : α) : ∀ l : List α, (insBy lt x l).Perm (x :: l)
  | [] => List.Perm.refl _
  | y :: r => by
    unfold insBy
    split
    · exact (List.Perm.cons y (insBy_perm lt x r)).trans (List.Perm.swap x y r)
    · exact List.Perm.refl _
theorem sortBy_perm (lt : α → α → Bool) : ∀ l : List α, (sortBy lt l).Perm l
  | [] => List.Perm.refl _
  | x :: r => (insBy_perm lt x (sortBy lt r)).trans (List.Perm.cons x (sortBy_perm lt r))
theorem insBy_sorted (O : SrtO.Swo lt) (x : α) : ∀ {l : List α}, SrtO.Srtd lt l → SrtO.Srtd lt (insBy lt x l)
  | [], _ => List.pairwise_singleton _ _
  | y :: r, h => by
    unfold insBy
    have h' := List.pairwise_cons.mp h
    split
    · rename_i c
      refine List.pairwise_cons.mpr ⟨fun z hz => ?_, insBy_sorted O x h'.2⟩
      rcases List.mem_cons.mp ((insBy_perm lt x r).mem_iff.mp hz) with e | e
      · rw [e]; exact O.asym _ _ c
      · exact h'.1 z e
    · rename_i c
      have c' : lt y x = false := by simpa using c
      refine List.pairwise_cons.mpr ⟨fun z hz => ?_, h⟩
      rcases List.mem_cons.mp hz with e | e
      · rw [e]; exact c'
      · exact O.tr x y z c' (h'.1 z e)
theorem sortBy_sorted (O : SrtO.Swo lt) : ∀ l : List α, SrtO.Srtd lt (sortBy lt l)
  | [] => List.Pairwise.nil
  | x :: r => insBy_sorted O x (sortBy_sorted O r)
theorem sorted_uni {lt : α → α → Bool} : ∀ {a b : List α}, (∀ x ∈ a, ∀ y ∈ a, lt x y = false → lt y x = false → x = y) → a.Perm b → SrtO.Srtd lt a → SrtO.Srtd lt b → a = b
  | [], b, _, p, _, _ => by rw [List.nil_perm.mp p]
  | x :: a, [], _, p, _, _ => by have := p.length_eq; simp at this
  | x :: a, y :: b, T, p, h1, h2 => by
    have h1 := List.pairwise_cons.mp h1
    have h2 := List.pairwise_cons.mp h2
    have e : x = y := by
      have m1 : x ∈ y :: b := p.mem_iff.mp List.mem_cons_self
      have m2 : y ∈ x :: a := p.mem_iff.mpr List.mem_cons_self
      rcases List.mem_cons.mp m1 with q | q
      · exact q
      · rcases List.mem_cons.mp m2 with q2 | q2
        · exact q2.symm
        · exact T x List.mem_cons_self y m2 (h2.1 x q) (h1.1 y q2)
    subst e
    rw [sorted_uni (fun u hu v hv => T u (List.mem_cons_of_mem _ hu) v (List.mem_cons_of_mem _ hv)) (List.Perm.cons_inv p) h1.2 h2.2]
end
theorem swo_of (K : KeyOrd) {α : Type} (f : α → K.α) : SrtO.Swo fun x y => K.blt (f x) (f y) := by
  refine ⟨fun x y h => ?_, fun x y z h1 h2 => ?_⟩
  · cases e : K.blt (f y) (f x) with
    | false => rfl
    | true =>
      have := K.trans _ _ _ h e
      rw [K.irrefl] at this
      cases this
  · cases e : K.blt (f z) (f x) with
    | false => rfl
    | true =>
      rcases K.negTrans _ (f y) _ e with h | h
      · rw [h2] at h; cases h
      · rw [h1] at h; cases h
theorem swo_lexV : SrtO.Swo lexV := swo_of (listOrd itemOrd) (fun a : List Val => a.map vItem)
theorem swo_strLt : SrtO.Swo strLt := swo_of PyProof.Rows.strKind.toKeyOrd (fun a : Str => a.cps.toList)
theorem vItem_inj : ∀ {x y : Val}, leafKey x = true → leafKey y = true → vItem x = vItem y → x = y
  | .int i, .int j, _, _, h => by cases h; rfl
  | .int _, .str _, _, _, h => by cases h
  | .str _, .int _, _, _, h => by cases h
  | .str a, .str b, _, _, h => by
    have e : a.cps.toList = b.cps.toList := Sum.inr.inj h
    obtain ⟨a⟩ := a
    obtain ⟨b⟩ := b
    have : a = b := Array.toList_inj.mp e
    rw [this]
  | .non, _, h, _, _ => by cases h
  | .bl _, _, h, _, _ => by cases h
  | .loc _, _, h, _, _ => by cases h
  | .tup _, _, h, _, _ => by cases h
  | .int _, .non, _, h, _ => by cases h
  | .int _, .bl _, _, h, _ => by cases h
  | .int _, .loc _, _, h, _ => by cases h
  | .int _, .tup _, _, h, _ => by cases h
  | .str _, .non, _, h, _ => by cases h
  | .str _, .bl _, _, h, _ => by cases h
  | .str _, .loc _, _, h, _ => by cases h
  | .str _, .tup _, _, h, _ => by cases h
theorem vItems_inj : ∀ {a b : List Val}, (∀ x ∈ a, leafKey x = true) → (∀ x ∈ b, leafKey x = true) → a.map vItem = b.map vItem → a = b
  | [], [], _, _, _ => rfl
  | [], _ :: _, _, _, h => by cases h
  | _ :: _, [], _, _, h => by cases h
  | x :: a, y :: b, h1, h2, h => by
    rw [List.map_cons, List.map_cons] at h
    injection h with e1 e2
    rw [vItem_inj (h1 _ List.mem_cons_self) (h2 _ List.mem_cons_self) e1, vItems_inj (fun z hz => h1 z (List.mem_cons_of_mem _ hz)) (fun z hz => h2 z (List.mem_cons_of_mem _ hz)) e2]
/-! ### the rule: tuples of ints and texts -/
def kItem : L2.Key → Int ⊕ List Nat
  | .inl i => .inl i
  | .inr z => .inr z.cps.toList
def kSh : L2.Key → Bool
  | .inl _ => false
  | .inr _ => true
abbrev ltK (k : V → List L2.Key) (x y : V) : Bool := (listOrd itemOrd).blt ((k x).map kItem) ((k y).map kItem)
def rSortedTp (K : PySem.W.Frag) : List V → Hp → VK → Prop := fun vs H Q => ∃ (a : Addr) (xs : List V) (k : V → List L2.Key) (sh : List Bool), vs = [V.ref a] ∧ SqL K H a xs ∧ sh ≠ [] ∧ (∀ x ∈ xs, ∃ t, x = V.ref t ∧ H t = some (.tup ((k x).map kV)) ∧ (k x).map kSh = sh) ∧
  ∀ ys p, SrtO.Srtd (ltK k) ys → ys.Perm xs → H p = none → Q (.ref p) (upd H p (.lst ys))
theorem tupItems_of (sh : Nat → Bool) : ∀ {ks : List L2.Key} {us : List Value} (i : Nat), Vals (ks.map kV) us → (∀ j (hj : j < ks.length), kSh ks[j] = sh (i + j)) → tupItems sh i us = some (ks.map kItem)
  | [], _, i, r, _ => by cases r; rfl
  | k :: ks, _, i, r, h => by
    cases r with
    | cons r1 r2 =>
      have h0 := h 0 (by simp)
      have ih := tupItems_of sh (i + 1) r2 fun j hj => by
        have := h (j + 1) (by simpa using hj)
        rw [show i + 1 + j = i + (j + 1) by omega]
        simpa using this
      rw [Nat.add_zero] at h0
      cases k with
      | inl n =>
        obtain ⟨t, rfl⟩ := r1
        have hs : sh i = false := h0.symm
        simp only [tupItems, hs, ih]; rfl
      | inr z =>
        obtain ⟨t, rfl⟩ := r1
        have hs : sh i = true := h0.symm
        simp only [tupItems, hs, ih]; rfl
def TpAt (h : Heap) (sh : Nat → Bool) (v : Value) (ks : List L2.Key) : Prop := ∃ a o us n, v = .ref a ∧ h.get? a = some o ∧ o.cls = .type "tuple" ∧ o.data = .seq (List.toArray us) n ∧ Vals (ks.map kV) us ∧ ks ≠ [] ∧ ∀ j (hj : j < ks.length), kSh ks[j] = sh j
theorem TpAt.key {h : Heap} {sh : Nat → Bool} {v : Value} {ks : List L2.Key} (p : TpAt h sh v ks) : (tupKind h sh).keyOf v = some (ks.map kItem) := by
  obtain ⟨a, o, us, n, rfl, ho, hc, hd, r, _, hs⟩ := p
  show tupKey h sh (.ref a) = _
  unfold tupKey
  simp only [ho, hd]
  exact tupItems_of sh 0 r fun j hj => by rw [Nat.zero_add]; exact hs j hj
theorem TpAt.keeps {h h' : Heap} {sh : Nat → Bool} {v : Value} {ks : List L2.Key} (p : TpAt h sh v ks) (k : ∀ b o, h.get? b = some o → o.cls = .type "tuple" → h'.get? b = some o) : TpAt h' sh v ks := by
  obtain ⟨a, o, us, n, e, ho, hc, hd, r⟩ := p
  exact ⟨a, o, us, n, e, k a o ho hc, hc, hd, r⟩
theorem TpAt.first {h : Heap} {sh : Nat → Bool} {v : Value} {ks : List L2.Key} (p : TpAt h sh v ks) : ∃ f, TupOf h sh v f := by
  obtain ⟨a, o, us, n, rfl, ho, hc, hd, r, hne, hs⟩ := p
  cases ks with
  | nil => exact absurd rfl hne
  | cons k ks =>
    cases r with
    | cons r1 r2 =>
      rename_i u us
      have h0 : kSh k = sh 0 := hs 0 (by simp)
      refine ⟨u, a, o, _, n, rfl, ho, hc, hd, by simp, fun e => ?_, fun e => ?_⟩
      · cases k with
        | inl i => obtain ⟨t, rfl⟩ := r1; exact ⟨i, t, rfl⟩
        | inr z => rw [e] at h0; cases h0
      · cases k with
        | inl i => rw [e] at h0; cases h0
        | inr z => obtain ⟨t, rfl⟩ := r1; exact ⟨z, t, rfl⟩
theorem firstsT {h : Heap} {sh : Nat → Bool} {k : Value → List L2.Key} : ∀ {vs : List Value}, (∀ v ∈ vs, TpAt h sh v (k v)) → ∃ fs, TupsOf h sh vs fs ∧ fs.length = vs.length
  | [], _ => ⟨[], .nil, rfl⟩
  | v :: vs, p => by
    obtain ⟨f, hf⟩ := (p v List.mem_cons_self).first
    obtain ⟨fs, h1, h2⟩ := firstsT (vs := vs) fun u hu => p u (List.mem_cons_of_mem _ hu)
    exact ⟨f :: fs, .cons hf h1, by rw [List.length_cons, List.length_cons, h2]⟩
section
variable {prog : Program} {w : World} {A : Around} {E : Value → Shared → Prop} {s : Shared}
abbrev ltKv (k : Value → List L2.Key) (v u : Value) : Bool := (listOrd itemOrd).blt ((k v).map kItem) ((k u).map kItem)
theorem tps_sortable {a : Addr} {sh : Nat → Bool} {vs : List Value} {k : Value → List L2.Key} (h0 : 0 < vs.length) (hp : ∀ v ∈ vs, TpAt s.heap sh v (k v)) (ha : ∀ o, s.heap.get? a = some o → o.cls ≠ .type "tuple") :
    SrtO.SortableO prog w A s a vs (ltKv k) := by
  intro h' keep
  have hp' : ∀ v ∈ vs, TpAt h' sh v (k v) := fun v hm => (hp v hm).keeps fun b o e c => keep b o (fun z => by subst z; exact ha o e c) e
  obtain ⟨fs, h1, h2⟩ := firstsT hp'
  refine ⟨tuples' true, fun Q E hq => tup_kind (by omega) h1 hq, fun p q hm hm' => ?_⟩
  show wpAny (model prog w) A (keyLt' (tuples' true) p.1 q.1) (fun r s' => s' = { s with heap := h' } ∧ r = ltKv k p.1 q.1) (fun _ _ => False) { s with heap := h' }
  exact tup_ltAt (s := { s with heap := h' }) (shape := sh) true A _ _ _ _ _ (hp' _ hm).key (hp' _ hm').key ⟨rfl, rfl⟩
end
theorem sh_at {ks : List L2.Key} {sh : List Bool} (h : ks.map kSh = sh) (j : Nat) (hj : j < ks.length) : kSh ks[j] = sh.getD j false := by
  rw [← h]
  simp [List.getD, hj]
section
variable {X : Cx}
theorem cr_sortedTp : CallR X (.builtin "sorted") (rSortedTp X.K) := by
  intro pins s σ H vs us Q I r h
  obtain ⟨a, xs, k, sh, rfl, hs, hne, hx, q⟩ := h
  obtain ⟨its, rv, hl, hz⟩ := I.list hs
  obtain ⟨u, rfl, ru⟩ := vals1 r
  obtain rfl : u = Value.ref a := ru
  obtain ⟨e1, e2⟩ := refs_back rv fun x m => by
    obtain ⟨t, e, _⟩ := hx x m
    exact ⟨t, e⟩
  have hT : ∀ v ∈ its, TpAt s.heap (fun j => sh.getD j false) v (k (backV v)) := fun v hv => by
    obtain ⟨t, rfl⟩ := e2 v hv
    have hm : V.ref t ∈ xs := by rw [e1]; exact List.mem_map.mpr ⟨_, hv, rfl⟩
    obtain ⟨t', e, ht, hk⟩ := hx _ hm
    cases e
    obtain ⟨_, its2, r2, o, ho, hc, n, hd⟩ := I.hok _ _ ht
    exact ⟨t, o, its2, n, rfl, ho, hc, hd, r2, fun z => hne (by rw [← hk, show k (V.ref t) = [] from z]; rfl), sh_at hk⟩
  refine SrtO.sorted_ord (ltv := ltKv fun v => k (backV v)) (swo_of (listOrd itemOrd) fun v => (k (backV v)).map kItem) hl.isList (by rw [← rv.length]; exact hz) (fun h2 h₁ a ha kk => ?_) fun out h1 h2 => ?_
  · refine tps_sortable (s := { s with heap := h₁ }) (sh := fun j => sh.getD j false) (by omega) (fun v hm => (hT v hm).keeps fun b o e _ => (kk b o e).2) fun o e => ?_
    have e' := e.symm.trans ha
    cases e'
    intro c
    exact absurd (Value.type.inj c) (by decide)
  · have h3 : ∀ u ∈ out, ∃ a, u = Value.ref a := fun u hu => e2 u (h2.perm.mem_iff.mp hu)
    have hb : (out.map backV).Perm xs := by rw [e1]; exact h2.perm.map backV
    obtain ⟨n, hn⟩ := PyProof.Rows.sortedAll_at s.heap its out.toArray
    refine ⟨.ref _, upd H (s.heap.objs.size + 1) (.lst (out.map backV)), I.laid (t' := s.toks) (fun b o e => PyProof.Rows.sortedAll_old e) (Nat.le_succ _) ⟨?_, out, n, vals_back h3, hn⟩, rfl, q _ _ (SrtO.srtd_map h1) hb (I.hok.fresh (Nat.le_succ _))⟩
    rw [hb.length_eq]
    exact hz
end
end Ov

/-! sorted: a dict whose keys are tuples of ints and texts. -/
namespace Ov
open PySem PySem.Spec L2 PyProof.Rows
section
variable {prog : Program} {w : World} {A : Around} {E : Value → Shared → Prop} {s : Shared} {d : Addr} {es : Array DictEntry} {ep : Nat}
theorem walksRaw (hh : A.handled = none) (I : Addr) (hne : d ≠ I) :
    Walks prog w A I [I, d] [I] es.size (fun i v => ∃ en, es[i]? = some en ∧ v = en.key) (fun i h => h.IsKeyIter I d i es.size ep ∧ DT.Raw h d es ep) where
  sub := fun b hb => by simp at hb; simp [hb]
  frame := fun _ _ _ st hk => ⟨st.1.at fun o e => hk I (by simp) o e, st.2.at' fun o e => hk d (by simp) o e⟩
  item := fun i s Q E hi st hQ => by
    obtain ⟨o, ho, hx, hd⟩ := id st.2
    have he : es[i]? = some es[i] := by simp [hi]
    refine next_key_item st.1 ho hd rfl he fun h' hit' hs' => ?_
    exact hQ _ h' s.toks ⟨_, he, rfl⟩ ⟨hit', st.2.at' fun o e => (hs'.2 d hne).trans e⟩ fun b o hb e => (hs'.2 b (fun h => hb (by simp [h]))).trans e
  done := fun s Q E st hQ => by
    obtain ⟨o, ho, hx, hd⟩ := id st.2
    exact next_key_end hh st.1 ho hd rfl (Nat.le_refl _) fun h' eb => hQ h' s.toks fun b o hb e => eb b o (fun h => hb (by simp [h])) e
  self := fun _ _ _ _ st hQ => wpAny_pyIter_keyiter st.1 hQ
theorem kdl_raw (lo : (d == sysModules) = false) : PySem.W.KdlSrc prog w "dict" d d es.size (fun i v => ∃ en, es[i]? = some en ∧ v = en.key) (fun h => DT.Raw h d es ep) where
  type := fun _ hm => hm.typeIs
  there := fun _ hm => ⟨hm.lt, hm.lt⟩
  keep := fun _ _ hm hk => hm.at' fun o e => hk d (.inl rfl) o e
  notList := by decide
  notTuple := by decide
  hint := fun _ _ _ _ hm hq => PySem.W.kdl_hint_dict hm.typeIs hq
  iter := fun A s hh hm => by
    obtain ⟨o, ho, hx, hd⟩ := id hm
    exact ⟨_, _, (fun _ _ hq => iter_keys lo ho hx hd hq), walksRaw hh _ (Nat.ne_of_lt hm.lt), ⟨⟨_, Heap.get?_push_size _ rfl, rfl, rfl⟩, hm.push _⟩⟩
end
/-- the keys' own tuples -/
def KeysAt (H : Hp) : List (List L2.Key × V) → List V → Prop
  | [], xs => xs = []
  | kv :: r, xs => ∃ t rs, xs = .ref t :: rs ∧ H t = some (.tup (kv.1.map kV)) ∧ KeysAt H r rs
def rSortedDT : List V → Hp → VK → Prop := fun vs H Q => ∃ (a : Addr) (kvs : List (List L2.Key × V)), vs = [V.ref a] ∧ H a = some (.dT kvs) ∧ ∀ xs, KeysAt H kvs xs → ∃ (k : V → List L2.Key) (sh : List Bool),
  sh ≠ [] ∧ (∀ x ∈ xs, ∃ t, x = V.ref t ∧ H t = some (.tup ((k x).map kV)) ∧ (k x).map kSh = sh) ∧ ∀ ys p, SrtO.Srtd (ltK k) ys → ys.Perm xs → H p = none → Q (.ref p) (upd H p (.lst ys))
theorem keys_laid {P : Program} {w : World} {H : Hp} : ∀ {kvs : List (List L2.Key × V)} {xs : List (List L2.Key × Addr × Value)} {acc : List Value},
    Paired (fun (p : List L2.Key × V) (q : List L2.Key × Addr × Value) => p.1 = q.1 ∧ H q.2.1 = some (.tup (p.1.map kV)) ∧ RelV p.2 q.2.2) kvs xs → acc.length = xs.length →
    (∀ (j : Nat) (v : Value), acc[j]? = some v → ∃ q, xs[j]? = some q ∧ v = .ref q.2.1) → ∃ zs, KeysAt H kvs zs ∧ Vals zs acc
  | [], _, acc, pr, hl, _ => by
    cases pr
    cases acc with
    | nil => exact ⟨[], rfl, .nil⟩
    | cons _ _ => simp at hl
  | kv :: r, _, acc, pr, hl, h => by
    cases pr with
    | cons p1 p2 =>
      rename_i q xs
      cases acc with
      | nil => simp at hl
      | cons v acc =>
        obtain ⟨q', e1, e2⟩ := h 0 v rfl
        cases e1
        subst e2
        obtain ⟨zs, z1, z2⟩ := keys_laid (w := w) (P := P) (acc := acc) p2 (by simpa using hl) fun j v e => by
          obtain ⟨q', e1, e2⟩ := h (j + 1) v (by simpa using e)
          exact ⟨q', by simpa using e1, e2⟩
        exact ⟨.ref q.2.1 :: zs, ⟨_, _, rfl, p1.2.1, z1⟩, .cons rfl z2⟩
section
variable {X : Cx}
theorem cr_sortedDT (hc : X.calm = true) : CallR X (.builtin "sorted") rSortedDT := by
  intro pins s σ H vs us Q I r h
  obtain ⟨a, kvs, rfl, hH, q⟩ := h
  obtain ⟨u, rfl, ru⟩ := vals1 r
  obtain rfl : u = Value.ref a := ru
  obtain ⟨z, lo, xs, pr, o, es, ep, ho, hx, hdt, he, _⟩ := I.hok a _ hH
  have hraw : DT.Raw s.heap a es ep := ⟨o, ho, hx, hdt⟩
  have lx : xs.length = kvs.length := (Paired.length pr).symm
  have ls : es.size = kvs.length := (size_of_entries he).trans lx
  refine Calls.call_function_entry kind_sorted plain_sorted entry_sorted (args_sorted1 _) ?_
  unfold Builtin.«sorted»
  refine wpAny_bind (m := checkCount "sorted" 1 1 _) (wpAny_pure ?_)
  refine wpAny_bind (PySem.W.kdu_collect (A := X.A.in1) (kdl_raw (es := es) (ep := ep) lo) (I.ok.hd hc) hraw (by rw [ls]; exact z) fun h' tk acc hk hacc => ?_)
  have hal : acc.toList.length = kvs.length := by rw [Array.length_toList, hacc.1, ls]
  obtain ⟨zs, hz1, hz2⟩ := keys_laid (P := X.prog) (w := X.w) (acc := acc.toList) pr (hal.trans lx.symm) fun j v e => by
    obtain ⟨en, e1, e2⟩ := hacc.2 j v (by rw [← Array.getElem?_toList]; exact e)
    have e3 := entry_at he j
    rw [e1] at e3
    cases e4 : xs[j]? with
    | none => rw [e4] at e3; cases e3
    | some q =>
      rw [e4] at e3
      have e5 := Option.some.inj e3
      exact ⟨q, rfl, by rw [e2, e5]; rfl⟩
  obtain ⟨k, sh, hne, hkx, q⟩ := q zs hz1
  have I1 : Inv X pins σ H { s with heap := h', toks := tk } := I.kept hk
  obtain ⟨e1, e2⟩ := refs_back hz2 fun x m => by
    obtain ⟨t, e, _⟩ := hkx x m
    exact ⟨t, e⟩
  have hT : ∀ v ∈ acc.toList, TpAt h' (fun j => sh.getD j false) v (k (backV v)) := fun v hv => by
    obtain ⟨t, rfl⟩ := e2 v hv
    have hm : V.ref t ∈ zs := by rw [e1]; exact List.mem_map.mpr ⟨_, hv, rfl⟩
    obtain ⟨t', e, ht, hk'⟩ := hkx _ hm
    cases e
    obtain ⟨_, its2, r2, o, ho, hc, n, hd⟩ := I1.hok _ _ ht
    exact ⟨t, o, its2, n, rfl, ho, hc, hd, r2, fun z => hne (by rw [← hk', show k (V.ref t) = [] from z]; rfl), sh_at hk'⟩
  refine wpAny_bind (wpAny_newList ?_ (by rw [hal]; exact z))
  have hoL : (h'.push (seqObj "list" acc.toList.toArray 0)).get? h'.objs.size = some (seqObj "list" acc.toList.toArray 0) := Heap.get?_push_size _ rfl
  show wpAny _ _ _ _ _ { s with heap := h'.push (seqObj "list" acc.toList.toArray 0), toks := tk }
  refine wpAny_bind (wpAny_holding (wpAny_call_entry slot_list_sort ⟨_, hoL, rfl⟩ entry_list_sort
    (SrtO.list_sort_ord (s := { s with heap := h'.push (seqObj "list" acc.toList.toArray 0), toks := tk }) (ltv := ltKv fun v => k (backV v)) (swo_of (listOrd itemOrd) fun v => (k (backV v)).map kItem) hoL (by rw [hal]; exact z) (fun h2 => ?_) fun out h1 h2 => ⟨_, rfl, ?_⟩) (args_list_sort _)))
  · refine tps_sortable (sh := fun j => sh.getD j false) (by omega) (fun v hm => (hT v hm).keeps fun b o e _ => Heap.get?_push_of_some _ e) fun o e => ?_
    have e' := e.symm.trans hoL
    cases e'
    intro c
    exact absurd (Value.type.inj c) (by decide)
  · have h3 : ∀ u ∈ out, ∃ a, u = Value.ref a := fun u hu => e2 u (h2.perm.mem_iff.mp hu)
    have hb : (out.map backV).Perm zs := by rw [e1]; exact h2.perm.map backV
    obtain ⟨n, hn⟩ := PyProof.Rows.sortedHeap_at (vs := acc.toList) (out := out.toArray) hoL
    refine wpAny_pure ⟨_, rfl, .ref h'.objs.size, upd H h'.objs.size (.lst (out.map backV)), I1.laid (t' := tk) (fun b u e => ?_) (Nat.le_refl _) ⟨?_, out, n, vals_back h3, hn⟩, rfl, q _ _ (SrtO.srtd_map h1) hb (I1.hok.fresh (Nat.le_refl _))⟩
    · have hb : b < h'.objs.size := Heap.lt_size e
      rw [PyProof.Rows.sortedHeap_old (Nat.ne_of_lt hb) (by rw [size_push']; exact Nat.lt_succ_of_lt hb)]
      exact Heap.get?_push_of_some _ e
    · rw [hb.length_eq]
      have : zs.length = acc.toList.length := hz2.length
      rw [this, hal]; exact z
end
end Ov

/-! Built-in functions and methods. -/
namespace Ov
open PySem PySem.Spec L2

/-! ### the sorted list is one -/
theorem insSort_perm (x : Int) : ∀ ns : List Int, (insSort x ns).Perm (x :: ns)
  | [] => List.Perm.refl _
  | y :: r => by
    unfold insSort
    split
    · exact List.Perm.refl _
    · exact (List.Perm.cons y (insSort_perm x r)).trans (List.Perm.swap x y r)
theorem sortI_perm : ∀ ns : List Int, (sortI ns).Perm ns
  | [] => List.Perm.refl _
  | x :: r => (insSort_perm x (sortI r)).trans (List.Perm.cons x (sortI_perm r))
theorem insSort_sorted (x : Int) : ∀ {ns : List Int}, ns.Pairwise (· ≤ ·) → (insSort x ns).Pairwise (· ≤ ·)
  | [], _ => by unfold insSort; simp
  | y :: r, h => by
    unfold insSort
    rw [List.pairwise_cons] at h
    split
    · rename_i c
      rw [List.pairwise_cons]
      refine ⟨fun z hz => ?_, List.pairwise_cons.mpr h⟩
      rcases List.mem_cons.mp hz with e | e
      · rw [e]; exact c
      · exact Int.le_trans c (h.1 z e)
    · rename_i c
      rw [List.pairwise_cons]
      refine ⟨fun z hz => ?_, insSort_sorted x h.2⟩
      rcases List.mem_cons.mp ((insSort_perm x r).mem_iff.mp hz) with e | e
      · rw [e]; omega
      · exact h.1 z e
theorem sortI_sorted : ∀ ns : List Int, (sortI ns).Pairwise (· ≤ ·)
  | [] => by unfold sortI; simp
  | x :: r => insSort_sorted x (sortI_sorted r)
theorem sorted_one : ∀ {a b : List Int}, a.Perm b → a.Pairwise (· ≤ ·) → b.Pairwise (· ≤ ·) → a = b
  | [], b, p, _, _ => by rw [List.nil_perm.mp p]
  | x :: a, [], p, _, _ => by have := p.length_eq; simp at this
  | x :: a, y :: b, p, h1, h2 => by
    rw [List.pairwise_cons] at h1 h2
    have e : x = y := by
      have m1 : x ∈ y :: b := p.mem_iff.mp List.mem_cons_self
      have m2 : y ∈ x :: a := p.mem_iff.mpr List.mem_cons_self
      rcases List.mem_cons.mp m1 with q | q
      · exact q
      · rcases List.mem_cons.mp m2 with q2 | q2
        · exact q2.symm
        · have := h2.1 x q
          have := h1.1 y q2
          omega
    subst e
    rw [sorted_one (List.Perm.cons_inv p) h1.2 h2.2]

section
variable {T : Tb} {as : List Addr} {H : Hp} {st : Store} {Q : VK} {X : Cx}
def Bi.val : Bi → Value
  | .len => .builtin "len" | .int => .type "int" | .str => .type "str" | .abs => .builtin "abs" | .min => .builtin "min" | .max => .builtin "max" | .sum => .builtin "sum" | .sorted => .builtin "sorted"
  | .range => .type "range" | .enum => .type "enumerate" | .zip => .type "zip" | .rev => .type "reversed" | .list => .type "list" | .tuple => .type "tuple" | .dict => .type "dict" | .set => .type "set"
  | .all => .builtin "all" | .repr => .builtin "repr" | .isi => .builtin "isinstance"
theorem call_str_non : CallR X (.type "str") (fun xs H Q => xs = [.non] ∧ Q (.str "None") H) := by
  intro pins s σ H xs us Q I r h
  obtain ⟨rfl, q⟩ := h
  obtain ⟨u, rfl, rfl⟩ := vals1 r
  exact PySem.P.str_of_none ⟨.str _, H, I.tok _, ⟨_, rfl⟩, q⟩
def rBi (T : Tb) (b : Bi) : List V → Hp → VK → Prop := fun xs H Q => ∃ as st vs, Rel T as H st ∧ RepVs T as H vs xs ∧ PV T as H (bfn b vs st) Q
theorem RepVs.bls : ∀ {vs : List Val} {ns : List Bool} {xs : List V}, blsOf vs = some ns → RepVs T as H vs xs → xs = ns.map V.bl
  | [], ns, xs, e, h => by cases e; cases h; rfl
  | .bl i :: vs, ns, xs, e, h => by
    obtain ⟨x, r, rfl, h2, h3⟩ := h
    cases q : blsOf vs with
    | none => simp [blsOf, q] at e
    | some ms =>
      simp [blsOf, q] at e
      subst e
      rw [RepVs.bls q h3, show x = .bl i from h2]; rfl
  | .non :: _, _, _, e, _ => by cases e
  | .int _ :: _, _, _, e, _ => by cases e
  | .str _ :: _, _, _, e, _ => by cases e
  | .loc _ :: _, _, _, e, _ => by cases e
  | .tup _ :: _, _, _, e, _ => by cases e
theorem RepVs.one {v : Val} {xs : List V} (h : RepVs T as H [v] xs) : ∃ x, xs = [x] ∧ RepV T as H v x := by
  obtain ⟨x, r, rfl, h2, h3⟩ := h
  cases h3
  exact ⟨x, rfl, h2⟩
theorem RepVs.two {v w : Val} {xs : List V} (h : RepVs T as H [v, w] xs) : ∃ x y, xs = [x, y] ∧ RepV T as H v x ∧ RepV T as H w y := by
  obtain ⟨x, r, rfl, h2, h3⟩ := h
  obtain ⟨y, rfl, h4⟩ := h3.one
  exact ⟨x, y, rfl, h2, h4⟩
/-- a dict's place (int and text keys) -/
theorem Rel.dicK (r : Rel T as H st) {l : Nat} {kvs : List (Val × Val)} {a : Addr} (h : sget st l = some (.dic false kvs)) (ha : as[l]? = some a) : ∃ ks, H a = some (.dK ks) ∧ RepK T as H kvs ks := by
  obtain ⟨a', ha', ho⟩ := r.ob l _ h
  rw [ha] at ha'; cases ha'
  exact ho
theorem Rel.dicT (r : Rel T as H st) {l : Nat} {kvs : List (Val × Val)} {a : Addr} (h : sget st l = some (.dic true kvs)) (ha : as[l]? = some a) : ∃ ks, H a = some (.dT ks) ∧ RepT T as H kvs ks := by
  obtain ⟨a', ha', ho⟩ := r.ob l _ h
  rw [ha] at ha'; cases ha'
  exact ho
theorem RepK.keys : ∀ {kvs : List (Val × Val)} {ks : List (Key × V)}, RepK T as H kvs ks → RepVs T as H (kvs.map (·.1)) (ks.map fun kv => kV kv.1)
  | [], _, h => by cases h; exact rfl
  | (k, v) :: r, _, h => by
    obtain ⟨q, x, rs, rfl, rfl, h3, h4⟩ := h
    refine ⟨kV q, _, rfl, ?_, RepK.keys h4⟩
    cases q <;> exact rfl
theorem PV.newD {kvs : List (Val × Val)} {ks : List (Key × V)} (h : PV T as H (alloc (.dic false kvs) st) Q) (r : Rel T as H st) (p : RepK T as H kvs ks) : ∀ q, H q = none → Q (.ref q) (upd H q (.dK ks)) := fun q hq => by
  have e : Ext as H (as ++ [q]) (upd H q (.dK ks)) := Ext.new hq
  refine h (as ++ [q]) _ (.ref q) e (r.new hq ⟨ks, upd_same, p.ext e⟩) ⟨q, ?_, rfl⟩
  rw [← r.len]; simp
theorem twos_rep : ∀ {vs : List Val} {xs : List V} {kvs : List (Val × Val)}, RepVs T as H vs xs → twos vs = some kvs → (kvs.all fun p => fitKey false p.1) = true →
    ∃ (ps : List Addr) (ks : List (Key × V)), xs = ps.map V.ref ∧ Paired (fun p kv => SqT T.K H p [kV kv.1, kv.2]) ps ks ∧ ∀ (acc : List (Val × Val)) (ac : List (Key × V)), RepK T as H acc ac → RepK T as H (kvs.foldl (fun acc p => dput acc p.1 p.2) acc) (mergeK ac ks)
  | [], xs, kvs, h, e, hf => by cases h; cases e; exact ⟨[], [], rfl, .nil, fun _ _ z => z⟩
  | v :: vs, xs, kvs, h, e, hf => by
    obtain ⟨x, r, rfl, p1, p2⟩ := h
    unfold twos at e
    split at e
    · rename_i e1; cases e1
    · rename_i k w r' e1
      cases e1
      cases q : twos vs with
      | none => rw [q] at e; cases e
      | some kvs' =>
        rw [q] at e
        cases e
        rw [List.all_cons, Bool.and_eq_true] at hf
        obtain ⟨ps, ks, rfl, hp, hm⟩ := twos_rep p2 q hf.2
        obtain ⟨a, zs, rfl, ht, hz⟩ := p1
        obtain ⟨x1, x2, rfl, r1, r2⟩ := hz.two
        obtain ⟨key, rfl, rfl⟩ : ∃ key : Key, k = kVal key ∧ x1 = kV key := by
          have hk : fitKey false k = true := hf.1
          cases k with
          | int i => exact ⟨.inl i, rfl, r1⟩
          | str z => exact ⟨.inr z, rfl, r1⟩
          | _ => cases hk
        exact ⟨a :: ps, (key, x2) :: ks, rfl, .cons ht.sqT hp, fun acc ac h => hm _ _ (RepK.put r2 h key)⟩
    · cases e
/-! ### sorted of tuples, of dicts -/
def contV (H : Hp) : V → List Val
  | .ref a => match H a with
    | some (.tup zs) => zs.map fun z => match z with
      | .int i => Val.int i
      | .str z => .str z
      | _ => .non
    | _ => []
  | _ => []
def keyV : Val → L2.Key
  | .int i => .inl i
  | .str z => .inr z
  | _ => .inl 0
theorem leaf_rep : ∀ {vs : List Val} {xs : List V}, (∀ v ∈ vs, leafKey v = true) → RepVs T as H vs xs → xs = (vs.map keyV).map kV ∧ (xs.map fun z => (match z with
      | .int i => Val.int i
      | .str z => .str z
      | _ => .non)) = vs
  | [], _, _, h => by cases h; exact ⟨rfl, rfl⟩
  | v :: vs, _, hl, h => by
    obtain ⟨x, r, rfl, h2, h3⟩ := h
    obtain ⟨e1, e2⟩ := leaf_rep (fun u hu => hl u (List.mem_cons_of_mem _ hu)) h3
    have h0 := hl v List.mem_cons_self
    cases v with
    | int i =>
      rw [show x = V.int i from h2]
      exact ⟨by rw [e1]; simp [keyV, kV], by rw [List.map_cons, e2]⟩
    | str z =>
      rw [show x = V.str z from h2]
      exact ⟨by rw [e1]; simp [keyV, kV], by rw [List.map_cons, e2]⟩
    | _ => cases h0
theorem contV_of {vs : List Val} {x : V} (hl : ∀ v ∈ vs, leafKey v = true) (h : RepV T as H (.tup vs) x) : contV H x = vs ∧ ∃ t, x = .ref t ∧ H t = some (.tup ((vs.map keyV).map kV)) := by
  obtain ⟨a, xs, rfl, ht, hp⟩ := h
  obtain ⟨e1, e2⟩ := leaf_rep hl hp
  have ht' : H a = some (.tup xs) := ht
  refine ⟨?_, a, rfl, by rw [← e1]; exact ht'⟩
  show (match H a with
    | some (.tup zs) => zs.map _
    | _ => []) = vs
  rw [ht']
  exact e2
theorem tups_cont : ∀ {ts : List (List Val)} {xs : List V}, (∀ t ∈ ts, ∀ v ∈ t, leafKey v = true) → RepVs T as H (ts.map .tup) xs → xs.map (contV H) = ts
  | [], _, _, h => by cases h; rfl
  | t :: ts, _, hl, h => by
    obtain ⟨x, r, rfl, h2, h3⟩ := h
    rw [List.map_cons, (contV_of (hl t List.mem_cons_self) h2).1, tups_cont (fun u hu => hl u (List.mem_cons_of_mem _ hu)) h3]
theorem tupsOf_some : ∀ {vs : List Val} {ts : List (List Val)}, tupsOf vs = some ts → vs = ts.map .tup
  | [], ts, h => by cases h; rfl
  | v :: vs, ts, h => by
    unfold tupsOf at h
    split at h
    · rename_i e; cases e
    · rename_i t r e
      cases e
      cases q : tupsOf vs with
      | none => rw [q] at h; cases h
      | some us =>
        rw [q] at h
        cases h
        rw [tupsOf_some q]; rfl
    · cases h
theorem mem_rep {v : Val} : ∀ {vs : List Val} {xs : List V} {x : V}, RepVs T as H vs xs → x ∈ xs → ∃ v ∈ vs, RepV T as H v x
  | [], _, _, h, hx => by cases h; cases hx
  | v :: vs, _, x, h, hx => by
    obtain ⟨y, r, rfl, h2, h3⟩ := h
    rcases List.mem_cons.mp hx with e | e
    · exact ⟨v, List.mem_cons_self, e ▸ h2⟩
    · obtain ⟨u, hu, hr⟩ := mem_rep (v := v) h3 e
      exact ⟨u, List.mem_cons_of_mem _ hu, hr⟩
theorem rep_cont : ∀ {ts : List (List Val)} {ys : List V}, ys.map (contV H) = ts → (∀ y ∈ ys, RepV T as H (.tup (contV H y)) y) → RepVs T as H (ts.map .tup) ys
  | [], [], _, _ => rfl
  | _ :: _, [], h, _ => by cases h
  | [], _ :: _, h, _ => by cases h
  | t :: ts, y :: ys, h, p => by
    injection h with h1 h2
    subst h1
    exact ⟨y, ys, rfl, p y List.mem_cons_self, rep_cont h2 fun z hz => p z (List.mem_cons_of_mem _ hz)⟩
theorem unif_all : ∀ {ts : List (List Val)}, unif ts = true → ts = [] ∨ ∃ sh : List Bool, sh ≠ [] ∧ ∀ t ∈ ts, (∀ v ∈ t, leafKey v = true) ∧ t.map isStrB = sh
  | [], _ => .inl rfl
  | t :: ts, h => by
    simp only [unif, Bool.and_eq_true, Bool.not_eq_true', List.all_eq_true, decide_eq_true_eq] at h
    obtain ⟨⟨h1, h2⟩, h3⟩ := h
    refine .inr ⟨t.map isStrB, fun e => ?_, fun u hu => ?_⟩
    · rw [List.map_eq_nil_iff] at e
      subst e
      cases h1
    · rcases List.mem_cons.mp hu with rfl | z
      · exact ⟨h2, rfl⟩
      · exact h3 u z
theorem sh_key : ∀ {t : List Val}, (∀ v ∈ t, leafKey v = true) → (t.map keyV).map kSh = t.map isStrB
  | [], _ => rfl
  | v :: t, h => by
    have h0 := h v List.mem_cons_self
    rw [List.map_cons, List.map_cons, List.map_cons, sh_key fun u hu => h u (List.mem_cons_of_mem _ hu)]
    cases v <;> first | rfl | cases h0
theorem kItem_key : ∀ {t : List Val}, (∀ v ∈ t, leafKey v = true) → (t.map keyV).map kItem = t.map vItem
  | [], _ => rfl
  | v :: t, h => by
    have h0 := h v List.mem_cons_self
    rw [List.map_cons, List.map_cons, List.map_cons, kItem_key fun u hu => h u (List.mem_cons_of_mem _ hu)]
    cases v <;> first | rfl | cases h0
theorem risingS_pw : ∀ (p : Str) (l : List Str), PyProof.Rows.risingS p l = true → (p :: l).Pairwise fun a b => strLt b a = false
  | p, [], _ => List.pairwise_singleton _ _
  | p, x :: r, h => by
    have h' : (!PySem.Spec.ltCps x.cps.toList p.cps.toList && PyProof.Rows.risingS x r) = true := h
    rw [Bool.and_eq_true, Bool.not_eq_true'] at h'
    have ih := risingS_pw x r h'.2
    have h1 : strLt x p = false := by
      have := h'.1
      rw [PyProof.Rows.ltCps_eq] at this
      exact this
    refine List.pairwise_cons.mpr ⟨fun z hz => ?_, ih⟩
    rcases List.mem_cons.mp hz with rfl | hz
    · exact h1
    · exact swo_strLt.tr p x z h1 ((List.pairwise_cons.mp ih).1 z hz)
theorem sortedS_pw : ∀ (l : List Str), PyProof.Rows.sortedS l = true → l.Pairwise fun a b => strLt b a = false
  | [], _ => List.Pairwise.nil
  | x :: r, h => risingS_pw x r h
theorem strLt_tot {a b : Str} (h1 : strLt a b = false) (h2 : strLt b a = false) : a = b := by
  have e := PyProof.Rows.strKind.total a.cps.toList b.cps.toList h1 h2
  obtain ⟨a⟩ := a
  obtain ⟨b⟩ := b
  have : a = b := Array.toList_inj.mp e
  rw [this]
theorem RepK.strKeys : ∀ {kvs : List (Val × Val)} {ks : List (Key × V)} {zs : List Str}, RepK T as H kvs ks → strsOf (kvs.map (·.1)) = some zs → ks.map (·.1) = zs.map Sum.inr
  | [], _, _, h, e => by cases h; cases e; rfl
  | (k, v) :: r, _, zs, h, e => by
    obtain ⟨q, x, rs, rfl, rfl, h3, h4⟩ := h
    cases q with
    | inl i => cases e
    | inr z =>
      have e' : (strsOf (r.map (·.1))).map (z :: ·) = some zs := e
      cases q2 : strsOf (r.map (·.1)) with
      | none => rw [q2] at e'; cases e'
      | some us =>
        rw [q2] at e'
        cases e'
        rw [List.map_cons, RepK.strKeys h4 q2]; rfl
theorem RepK.intKeys : ∀ {kvs : List (Val × Val)} {ks : List (Key × V)} {ns : List Int}, RepK T as H kvs ks → intsOf (kvs.map (·.1)) = some ns → ks.map (·.1) = ns.map Sum.inl
  | [], _, _, h, e => by cases h; cases e; rfl
  | (k, v) :: r, _, ns, h, e => by
    obtain ⟨q, x, rs, rfl, rfl, h3, h4⟩ := h
    cases q with
    | inr z => cases e
    | inl i =>
      have e' : (intsOf (r.map (·.1))).map (i :: ·) = some ns := e
      cases q2 : intsOf (r.map (·.1)) with
      | none => rw [q2] at e'; cases e'
      | some us =>
        rw [q2] at e'
        cases e'
        rw [List.map_cons, RepK.intKeys h4 q2]; rfl
theorem kVals_rep : ∀ q : List Key, RepVs T as H (q.map kVal) (q.map kV)
  | [] => rfl
  | k :: q => ⟨kV k, q.map kV, rfl, by cases k <;> exact rfl, kVals_rep q⟩
theorem keyTup_rep {q : List Key} {b : Addr} (h : H b = some (.tup (q.map kV))) : RepV T as H (.tup (q.map kVal)) (.ref b) := ⟨b, q.map kV, rfl, h, kVals_rep q⟩
theorem keysAt_rep : ∀ {kvs : List (Val × Val)} {ks : List (List Key × V)} {xs : List V}, RepT T as H kvs ks → KeysAt H ks xs → RepVs T as H (kvs.map (·.1)) xs
  | [], _, xs, h, k => by
    cases h
    cases k
    exact rfl
  | (kk, v) :: r, _, xs, h, k => by
    obtain ⟨q, x, rs, rfl, rfl, _, h4⟩ := h
    obtain ⟨t, rs', rfl, ht, k4⟩ := k
    exact ⟨.ref t, rs', rfl, keyTup_rep ht, keysAt_rep h4 k4⟩
def rS2 (T : Tb) : List V → Hp → VK → Prop := fun xs H Q => ∃ as st l x, xs = [x] ∧ Rel T as H st ∧ RepV T as H (.loc l) x ∧ PV T as H (sorted2 l st) Q
theorem cr_sorted2 (hK : X.K = T.K) (hc : X.calm = true) : CallR X (.builtin "sorted") (rS2 T) := by
  intro pins s σ H xs us Q I rx h
  obtain ⟨as, st, l, x, rfl, r, px, h⟩ := h
  obtain ⟨a, ha, rfl⟩ := px.loc
  unfold sorted2 at h
  split at h
  · rename_i kvs e
    split at h
    · rename_i zs ez
      split at h
      · rename_i hz
        obtain ⟨ks, q1, q2⟩ := r.dicK e ha
        refine call_sortedD hc pins s σ H _ us Q I rx ⟨a, ks, zs, rfl, .inl q1, q2.strKeys ez, hz, fun ys p hp hs hq => ?_⟩
        have eu := sorted_uni (lt := strLt) (a := ys) (b := sortBy strLt zs) (fun x _ y _ h1 h2 => strLt_tot h1 h2) (hp.trans (sortBy_perm strLt zs).symm) (sortedS_pw ys hs) (sortBy_sorted swo_strLt zs)
        rw [eu]
        exact PV.newL h r (RepVs.ofStrs _) p hq
      · exact h.elim
    · split at h
      · rename_i ns en
        split at h
        · rename_i hz
          obtain ⟨ks, q1, q2⟩ := r.dicK e ha
          refine call_sortedDI hc pins s σ H _ us Q I rx ⟨a, ks, ns, rfl, .inl q1, q2.intKeys en, hz, fun ys p hp hs hq => ?_⟩
          rw [sorted_one (hp.trans (sortI_perm ns).symm) hs (sortI_sorted ns)]
          exact PV.newL h r (RepVs.ofInts _) p hq
        · exact h.elim
      · exact h.elim
  · rename_i kvs e
    split at h
    · rename_i ts et
      split at h
      · rename_i hu
        obtain ⟨ks, q1, q2⟩ := r.dicT e ha
        have ev := tupsOf_some et
        refine cr_sortedDT hc pins s σ H _ us Q I rx ⟨a, ks, rfl, q1, fun zs hzs => ?_⟩
        have q2 := keysAt_rep q2 hzs
        rw [ev] at q2
        rcases unif_all hu with rfl | ⟨sh, hne, hsh⟩
        · cases q2
          refine ⟨fun _ => [], [true], by simp, by simp, fun ys p _ hp hq => ?_⟩
          rw [List.perm_nil.mp hp]
          exact PV.newL h r RepVs.nil p hq
        · have hcont := tups_cont (fun t ht => (hsh t ht).1) q2
          have hall : ∀ x ∈ zs, RepV T as H (.tup (contV H x)) x ∧ contV H x ∈ ts := fun x hx => by
            obtain ⟨v, hv, hr⟩ := mem_rep (v := .non) q2 hx
            obtain ⟨t, ht, rfl⟩ := List.mem_map.mp hv
            have := (contV_of (hsh t ht).1 hr).1
            rw [this]
            exact ⟨hr, ht⟩
          refine ⟨fun x => (contV H x).map keyV, sh, hne, fun x hx => ?_, fun ys p hs hp hq => ?_⟩
          · obtain ⟨hr, ht⟩ := hall x hx
            obtain ⟨_, t, rfl, e2⟩ := contV_of (hsh _ ht).1 hr
            exact ⟨t, rfl, e2, by rw [sh_key (hsh _ ht).1]; exact (hsh _ ht).2⟩
          · have hall' : ∀ y ∈ ys, RepV T as H (.tup (contV H y)) y ∧ contV H y ∈ ts := fun y hy => hall y (hp.mem_iff.mp hy)
            have s1 : SrtO.Srtd lexV (ys.map (contV H)) := by
              refine List.pairwise_map.mpr ?_
              refine List.Pairwise.imp_of_mem (fun {u v} hu hv h => ?_) hs
              have h' : PyProof.Rows.lexLt PyProof.Rows.itemOrd (((contV H v).map keyV).map kItem) (((contV H u).map keyV).map kItem) = false := h
              rw [kItem_key (hsh _ (hall' v hv).2).1, kItem_key (hsh _ (hall' u hu).2).1] at h'
              exact h'
            have s2 : (ys.map (contV H)).Perm ts := by rw [← hcont]; exact hp.map _
            have eu := sorted_uni (lt := lexV) (a := ys.map (contV H)) (b := sortBy lexV ts) (fun x hx y hy h1 h2 => ?_) (s2.trans (sortBy_perm lexV ts).symm) s1 (sortBy_sorted swo_lexV ts)
            · exact PV.newL h r (rep_cont eu fun y hy => (hall' y hy).1) p hq
            · exact vItems_inj (hsh x (s2.mem_iff.mp hx)).1 (hsh y (s2.mem_iff.mp hy)).1 ((PyProof.Rows.listOrd PyProof.Rows.itemOrd).total _ _ h1 h2)
      · exact h.elim
    · exact h.elim
  · rename_i vs e
    split at h
    · rename_i ts et
      split at h
      · rename_i hu
        obtain ⟨zs, q1, q2⟩ := r.lstOf (lstOf_of e) ha
        rw [← hK] at q1
        have ev := tupsOf_some et
        subst ev
        rcases unif_all hu with rfl | ⟨sh, hne, hsh⟩
        · cases q2
          refine cr_sortedI pins s σ H _ us Q I rx ⟨a, [], rfl, q1, fun ns' q hp _ hq => ?_⟩
          rw [List.perm_nil.mp hp]
          exact PV.newL h r (RepVs.ofInts []) q hq
        · have hcont := tups_cont (fun t ht => (hsh t ht).1) q2
          have hall : ∀ x ∈ zs, RepV T as H (.tup (contV H x)) x ∧ contV H x ∈ ts := fun x hx => by
            obtain ⟨v, hv, hr⟩ := mem_rep (v := .non) q2 hx
            obtain ⟨t, ht, rfl⟩ := List.mem_map.mp hv
            have := (contV_of (hsh t ht).1 hr).1
            rw [this]
            exact ⟨hr, ht⟩
          refine cr_sortedTp pins s σ H _ us Q I rx ⟨a, zs, fun x => (contV H x).map keyV, sh, rfl, q1, hne, fun x hx => ?_, fun ys p hs hp hq => ?_⟩
          · obtain ⟨hr, ht⟩ := hall x hx
            obtain ⟨_, t, rfl, e2⟩ := contV_of (hsh _ ht).1 hr
            exact ⟨t, rfl, e2, by rw [sh_key (hsh _ ht).1]; exact (hsh _ ht).2⟩
          · have hall' : ∀ y ∈ ys, RepV T as H (.tup (contV H y)) y ∧ contV H y ∈ ts := fun y hy => hall y (hp.mem_iff.mp hy)
            have s1 : SrtO.Srtd lexV (ys.map (contV H)) := by
              refine List.pairwise_map.mpr ?_
              refine List.Pairwise.imp_of_mem (fun {u v} hu hv h => ?_) hs
              have h' : PyProof.Rows.lexLt PyProof.Rows.itemOrd (((contV H v).map keyV).map kItem) (((contV H u).map keyV).map kItem) = false := h
              rw [kItem_key (hsh _ (hall' v hv).2).1, kItem_key (hsh _ (hall' u hu).2).1] at h'
              exact h'
            have s2 : (ys.map (contV H)).Perm ts := by rw [← hcont]; exact hp.map _
            have eu := sorted_uni (lt := lexV) (a := ys.map (contV H)) (b := sortBy lexV ts) (fun x hx y hy h1 h2 => ?_) (s2.trans (sortBy_perm lexV ts).symm) s1 (sortBy_sorted swo_lexV ts)
            · exact PV.newL h r (rep_cont eu fun y hy => (hall' y hy).1) p hq
            · exact vItems_inj (hsh x (s2.mem_iff.mp hx)).1 (hsh y (s2.mem_iff.mp hy)).1 ((PyProof.Rows.listOrd PyProof.Rows.itemOrd).total _ _ h1 h2)
      · exact h.elim
    · exact h.elim
  · exact h.elim
theorem bir (hK : X.K = T.K) (hc : X.calm = true) (b : Bi) : CallR X b.val (rBi T b) := by
  intro pins s σ H xs us Q I rx h
  obtain ⟨as, st, vs, r, p, h⟩ := h
  have lis : ∀ {l : Nat} {ws : List Val} {x : V}, lstOf st l = some ws → RepV T as H (.loc l) x → ∃ a zs, x = .ref a ∧ SqL X.K H a zs ∧ RepVs T as H ws zs := by
    intro l ws x hl px
    obtain ⟨a, ha, rfl⟩ := px.loc
    obtain ⟨zs, q1, q2⟩ := r.lstOf hl ha
    exact ⟨a, zs, rfl, by rw [hK]; exact q1, q2⟩
  cases b with
  | len =>
    have h' := h
    unfold bfn at h'
    dsimp only at h'
    split at h'
    · obtain ⟨x, rfl, px⟩ := p.one
      obtain ⟨a, zs, rfl, ht, hp⟩ := px
      rw [hp.length] at h'
      exact call_len_seq pins s σ H _ us Q I rx ⟨a, zs, rfl, .inr (by rw [hK]; exact ht.sqT), h'.here r rfl⟩
    · obtain ⟨x, rfl, px⟩ := p.one
      obtain ⟨a, zs, rfl, ht, hp⟩ := px
      rw [hp.length] at h'
      exact call_len_seq pins s σ H _ us Q I rx ⟨a, zs, rfl, .inr (by rw [hK]; exact ht.sqT), h'.here r rfl⟩
    · obtain ⟨x, rfl, px⟩ := p.one
      cases px
      split at h'
      · rename_i c
        exact call_len_str pins s σ H _ us Q I rx ⟨_, rfl, by rw [← lim_eq]; exact c, h'.here r rfl⟩
      · exact h'.elim
    · obtain ⟨x, rfl, px⟩ := p.one
      split at h'
      · rename_i ws e
        obtain ⟨a, zs, rfl, q1, q2⟩ := lis (lstOf_of e) px
        rw [q2.length] at h'
        exact call_len_seq pins s σ H _ us Q I rx ⟨a, zs, rfl, .inl q1, h'.here r rfl⟩
      · rename_i ws e
        obtain ⟨a, zs, rfl, q1, q2⟩ := lis (lstOf_of' e) px
        rw [q2.length] at h'
        exact call_len_seq pins s σ H _ us Q I rx ⟨a, zs, rfl, .inl q1, h'.here r rfl⟩
      · rename_i kvs e
        obtain ⟨a, ha, rfl⟩ := px.loc
        obtain ⟨ks, q1, q2⟩ := r.dicK e ha
        rw [q2.length] at h'
        exact call_lenD pins s σ H _ us Q I rx ⟨a, ks, rfl, q1, h'.here r rfl⟩
      · rename_i kvs e
        obtain ⟨a, ha, rfl⟩ := px.loc
        obtain ⟨ks, q1, q2⟩ := r.dicT e ha
        rw [q2.length] at h'
        exact call_len_dT pins s σ H _ us Q I rx ⟨a, ks, rfl, q1, h'.here r rfl⟩
      · exact h'.elim
    · exact h'.elim
  | int =>
    have h' := h
    unfold bfn at h'
    dsimp only at h'
    split at h'
    · obtain ⟨x, rfl, px⟩ := p.one
      cases px
      exact call_int1 pins s σ H _ us Q I rx (.inl ⟨_, rfl, h'.here r rfl⟩)
    · obtain ⟨x, rfl, px⟩ := p.one
      cases px
      exact call_int1 pins s σ H _ us Q I rx (.inr ⟨_, rfl, h'.here r rfl⟩)
    · obtain ⟨x, rfl, px⟩ := p.one
      cases px
      split at h'
      · rename_i c
        split at h'
        · rename_i n e
          exact call_int_str pins s σ H _ us Q I rx ⟨_, n, rfl, e, c, h'.here r rfl⟩
        · exact h'.elim
      · exact h'.elim
    · exact h'.elim
  | str =>
    have h' := h
    unfold bfn at h'
    dsimp only at h'
    split at h'
    · obtain ⟨x, rfl, px⟩ := p.one
      cases px
      split at h'
      · rename_i c
        exact call_str_int pins s σ H _ us Q I rx ⟨_, rfl, c, h'.here r rfl⟩
      · exact h'.elim
    · obtain ⟨x, rfl, px⟩ := p.one
      cases px
      exact SkE.call_str_str pins s σ H _ us Q I rx ⟨_, rfl, h'.here r rfl⟩
    · obtain ⟨x, rfl, px⟩ := p.one
      cases px
      exact call_str_non pins s σ H _ us Q I rx ⟨rfl, h'.here r rfl⟩
    · exact h'.elim
  | abs =>
    have h' := h
    unfold bfn at h'
    dsimp only at h'
    split at h'
    · obtain ⟨x, rfl, px⟩ := p.one
      cases px
      exact call_abs pins s σ H _ us Q I rx ⟨_, rfl, h'.here r rfl⟩
    · exact h'.elim
  | max =>
    have h' := h
    unfold bfn at h'
    dsimp only at h'
    split at h'
    · obtain ⟨x, y, rfl, px, py⟩ := p.two
      cases px; cases py
      exact call_max2 hc pins s σ H _ us Q I rx ⟨_, _, rfl, h'.here r rfl⟩
    · exact h'.elim
  | min =>
    have h' := h
    unfold bfn at h'
    dsimp only at h'
    split at h'
    · obtain ⟨x, y, rfl, px, py⟩ := p.two
      cases px; cases py
      exact call_min2 hc pins s σ H _ us Q I rx ⟨_, _, rfl, h'.here r rfl⟩
    · exact h'.elim
  | sum =>
    have h' := h
    unfold bfn at h'
    dsimp only at h'
    split at h'
    · obtain ⟨x, rfl, px⟩ := p.one
      split at h'
      · rename_i ws e
        split at h'
        · rename_i ns en
          obtain ⟨a, zs, rfl, q1, q2⟩ := lis e px
          rw [q2.ints en] at q1
          exact cr_sum hc pins s σ H _ us Q I rx ⟨a, ns, rfl, q1, h'.here r rfl⟩
        · exact h'.elim
      · exact h'.elim
    · exact h'.elim
  | sorted =>
    have h' := h
    unfold bfn at h'
    dsimp only at h'
    split at h'
    · obtain ⟨x, rfl, px⟩ := p.one
      split at h'
      · rename_i ws e
        split at h'
        · rename_i ns en
          obtain ⟨a, zs, rfl, q1, q2⟩ := lis e px
          rw [q2.ints en] at q1
          refine cr_sortedI pins s σ H _ us Q I rx ⟨a, ns, rfl, q1, fun ns' q hp hs hq => ?_⟩
          rw [sorted_one (hp.trans (sortI_perm ns).symm) hs (sortI_sorted ns)]
          exact h'.newL r (RepVs.ofInts _) q hq
        · exact cr_sorted2 hK hc pins s σ H _ us Q I rx ⟨as, st, _, _, rfl, r, px, h'⟩
      · exact cr_sorted2 hK hc pins s σ H _ us Q I rx ⟨as, st, _, _, rfl, r, px, h'⟩
    · exact h'.elim
  | list =>
    have h' := h
    unfold bfn at h'
    dsimp only at h'
    split at h'
    · obtain ⟨x, rfl, px⟩ := p.one
      obtain ⟨a, zs, rfl, ht, hp⟩ := px
      exact call_list_of pins s σ H _ us Q I rx ⟨a, zs, rfl, .inr (by rw [hK]; exact ht.sqT), h'.newL r hp⟩
    · obtain ⟨x, rfl, px⟩ := p.one
      split at h'
      · rename_i ws e
        obtain ⟨a, zs, rfl, q1, q2⟩ := lis (lstOf_of e) px
        exact call_list_of pins s σ H _ us Q I rx ⟨a, zs, rfl, .inl q1, h'.newL r q2⟩
      · rename_i ws e
        obtain ⟨a, zs, rfl, q1, q2⟩ := lis (lstOf_of' e) px
        exact call_list_of pins s σ H _ us Q I rx ⟨a, zs, rfl, .inl q1, h'.newL r q2⟩
      · rename_i kvs e
        obtain ⟨a, ha, rfl⟩ := px.loc
        obtain ⟨ks, q1, q2⟩ := r.dicK e ha
        exact call_list_dK hc pins s σ H _ us Q I rx ⟨a, ks, rfl, q1, h'.newL r q2.keys⟩
      · exact h'.elim
    · exact h'.elim
  | tuple =>
    have h' := h
    unfold bfn at h'
    dsimp only at h'
    split at h'
    · obtain ⟨x, rfl, px⟩ := p.one
      obtain ⟨a, zs, rfl, ht, hp⟩ := id px
      exact call_tuple_of pins s σ H _ us Q I rx ⟨a, zs, rfl, .inr ⟨by rw [hK]; exact ht.sqT, h'.here r px⟩⟩
    · obtain ⟨x, rfl, px⟩ := p.one
      split at h'
      · rename_i ws e
        obtain ⟨a, zs, rfl, q1, q2⟩ := lis e px
        exact call_tuple_of pins s σ H _ us Q I rx ⟨a, zs, rfl, .inl ⟨q1, h'.newT r q2⟩⟩
      · exact h'.elim
    · exact h'.elim
  | dict =>
    have h' := h
    unfold bfn at h'
    dsimp only at h'
    split at h'
    · obtain ⟨x, rfl, px⟩ := p.one
      split at h'
      · rename_i kvs e
        obtain ⟨a, ha, rfl⟩ := px.loc
        obtain ⟨ks, q1, q2⟩ := r.dicK e ha
        exact call_dictD pins s σ H _ us Q I rx ⟨a, ks, rfl, .inl q1, h'.newD r q2⟩
      · rename_i ws e
        split at h'
        · rename_i kvs ek
          split at h'
          · rename_i hf
            obtain ⟨a, zs, rfl, q1, q2⟩ := lis (lstOf_of e) px
            obtain ⟨ps, ks, rfl, hp, hm⟩ := twos_rep q2 ek hf
            rw [← hK] at hp
            exact call_dictP hc pins s σ H _ us Q I rx ⟨a, ps, ks, rfl, q1, hp, h'.newD r (hm [] [] rfl)⟩
          · exact h'.elim
        · exact h'.elim
      · exact h'.elim
    · exact h'.elim
  | all =>
    have h' := h
    unfold bfn at h'
    dsimp only at h'
    split at h'
    · obtain ⟨x, rfl, px⟩ := p.one
      split at h'
      · rename_i ws e
        split at h'
        · rename_i ns en
          obtain ⟨a, zs, rfl, q1, q2⟩ := lis e px
          rw [q2.bls en] at q1
          exact cr_all hc pins s σ H _ us Q I rx ⟨a, ns, rfl, q1, h'.here r rfl⟩
        · exact h'.elim
      · exact h'.elim
    · exact h'.elim
  | _ => exact h.elim
end
end Ov

/-! Methods of built-in types, isinstance. -/
namespace Ov
open PySem PySem.Spec L2
section
variable {T : Tb} {as : List Addr} {H : Hp} {st : Store} {Q : VK} {X : Cx}
def Kd.ty : Kd → String
  | .str => "str"
  | .lst => "list"
  | .dic => "dict"
theorem kind_ty (hK : X.K = T.K) (r : Rel T as H st) {v : Val} {x : V} {k : Kd} (p : RepV T as H v x) (h : kindOf st v = some k) : tyV X.K k.ty x H := by
  cases v with
  | ktp vs => cases h
  | str z => cases p; cases h; rfl
  | loc l =>
    obtain ⟨a, ha, rfl⟩ := p.loc
    unfold kindOf at h
    dsimp only at h
    split at h
    · rename_i vs e
      cases h
      obtain ⟨xs, q, _⟩ := r.lstOf (lstOf_of e) ha
      exact .inl ⟨rfl, xs, by rw [hK]; exact q⟩
    · rename_i vs e
      cases h
      obtain ⟨xs, q, _⟩ := r.lstOf (lstOf_of' e) ha
      exact .inl ⟨rfl, xs, by rw [hK]; exact q⟩
    · rename_i t kvs e
      cases h
      obtain ⟨a', ha', ho⟩ := r.ob l _ e
      rw [ha] at ha'; cases ha'
      cases t with
      | false => obtain ⟨ks, q, _⟩ := ho; exact .inr (.inr (.inl ⟨rfl, .inl ⟨ks, q⟩⟩))
      | true => obtain ⟨ks, q, _⟩ := ho; exact .inr (.inr (.inl ⟨rfl, .inr ⟨ks, q⟩⟩))
    · cases h
  | non => cases h
  | bl _ => cases h
  | int _ => cases h
  | tup _ => cases h
def Bm.nm : Bm → String
  | .append => "append" | .extend => "extend" | .pop => "pop" | .insert => "insert" | .remove => "remove" | .clear => "clear" | .get => "get" | .setdefault => "setdefault" | .items => "items" | .join => "join"
  | .split => "split" | .startswith => "startswith" | .partition => "partition" | .index => "index" | .count => "count" | .find => "find" | .replace => "replace" | .upper => "upper"
def rBm (T : Tb) (k : Kd) (m : Bm) : V → List V → Hp → VK → Prop := fun x xs H Q => ∃ as st v vs, Rel T as H st ∧ RepV T as H v x ∧ RepVs T as H vs xs ∧ PV T as H (bmf k m v vs st) Q
/-- a method that is served: its facts and its rule -/
structure BmOk (X : Cx) (T : Tb) (k : Kd) (m : Bm) (name : Str) : Prop where
  ok : ∃ id, PlainAttrs k.ty ∧ Slot k.ty name id ∧ typeOf (.builtin id) = pure (.type "method_descriptor") ∧ MtR X id (rBm T k m)
theorem RepK.drop : ∀ {kvs : List (Val × Val)} {ks : List (Key × V)}, RepK T as H kvs ks → ∀ q : Key, RepK T as H (ddrop kvs (kVal q)) (dropK ks q)
  | [], _, h, q => by cases h; exact rfl
  | (k, v) :: r, _, h, q => by
    obtain ⟨q', x', rs, rfl, rfl, h3, h4⟩ := h
    have ih := RepK.drop h4 q
    unfold ddrop dropK at ih ⊢
    rw [List.filter_cons, List.filter_cons]
    by_cases e : q' = q
    · subst e
      simpa using ih
    · have e' : kVal q' ≠ kVal q := fun z => e (kVal_inj z)
      rw [if_pos (by simpa using e'), if_pos (by simpa using e)]
      exact ⟨q', x', _, rfl, rfl, h3, ih⟩
theorem PV.putD (r : Rel T as H st) {l : Nat} {a : Addr} {kvs : List (Val × Val)} {ks : List (Key × V)} {v : Val} {x : V} (h : PV T as H (.ok v (sput st l (.dic false kvs))) Q) (ha : as[l]? = some a) (p : RepK T as H kvs ks) (pv : RepV T as H v x) (hz : ∀ o u, H a ≠ some (.frz o u) := by (intro _ _ z; first | cases (Eq.trans (Eq.symm ‹_ = some (HO.lst _)›) z) | cases (Eq.trans (Eq.symm ‹_ = some (HO.dK _)›) z) | cases (Eq.trans (Eq.symm ‹_ = some (HO.dT _)›) z) | cases (Eq.trans (Eq.symm ‹_ = some (HO.ins _ _ _)›) z))) : Q x (upd H a (.dK ks)) := by
  have e : Ext as H as (upd H a (.dK ks)) := Ext.put r ha hz
  exact h as _ x e (r.put ha ⟨ks, upd_same, p.ext e⟩ hz) (RepV.ext e _ _ pv)
theorem bm_append : BmOk X T .lst .append "append" := ⟨_, PySem.F.plainAttrs_list, PySem.F.slot_list_append, PySem.F.type_list_append, by
  intro pins s σ H x xs v us Q I rx rs h
  obtain ⟨as, st, vo, ws, r, p, q, h⟩ := h
  cases vo with
  | loc l =>
    have h' := h
    unfold bmf at h'
    dsimp only at h'
    split at h'
    · obtain ⟨y, rfl, py⟩ := q.one
      split at h'
      · rename_i vs e
        split at h'
        · rename_i c
          obtain ⟨a, zs, a1, a2, a3⟩ := r.lst e
          obtain ⟨a', e1, rfl⟩ := p.loc
          rw [a1] at e1; cases e1
          exact mt_append pins s σ H _ _ v us Q I rx rs ⟨a, zs, y, rfl, rfl, a2, by rw [← a3.length, ← lim_eq]; exact c, h'.putL r a1 (a3.append ⟨y, [], rfl, py, rfl⟩) rfl⟩
        · exact h'.elim
      · exact h'.elim
    · exact h'.elim
  | _ => exact h.elim⟩
theorem bm_extend : BmOk X T .lst .extend "extend" := ⟨_, PySem.F.plainAttrs_list, PySem.F.slot_list_extend, PySem.F.type_list_extend, by
  intro pins s σ H x xs v us Q I rx rs h
  obtain ⟨as, st, vo, ws, r, p, q, h⟩ := h
  cases vo with
  | loc l =>
    have h' := h
    unfold bmf at h'
    dsimp only at h'
    split at h'
    · obtain ⟨y, rfl, py⟩ := q.one
      split at h'
      · rename_i vs ws e e2
        split at h'
        · rename_i c
          obtain ⟨a, zs, a1, a2, a3⟩ := r.lst e
          obtain ⟨b, ys, b1, b2, b3⟩ := r.lst e2
          obtain ⟨a', q1, rfl⟩ := p.loc
          obtain ⟨b', q2, rfl⟩ := py.loc
          rw [a1] at q1; cases q1
          rw [b1] at q2; cases q2
          exact mt_extend pins s σ H _ _ v us Q I rx rs ⟨a, b, zs, ys, rfl, rfl, a2, b2, by rw [← a3.length, ← b3.length, ← lim_eq]; exact c, h'.putL r a1 (a3.append b3) rfl⟩
        · exact h'.elim
      · exact h'.elim
    · exact h'.elim
  | _ => exact h.elim⟩
theorem bm_popL : BmOk X T .lst .pop "pop" := ⟨_, PySem.F.plainAttrs_list, PySem.F.slot_list_pop, PySem.F.type_list_pop, by
  intro pins s σ H x xs v us Q I rx rs h
  obtain ⟨as, st, vo, ws, r, p, q, h⟩ := h
  cases vo with
  | loc l =>
    have h' := h
    unfold bmf at h'
    dsimp only at h'
    split at h'
    · rename_i vs e
      obtain ⟨a, zs, a1, a2, a3⟩ := r.lst e
      obtain ⟨a', e1, rfl⟩ := p.loc
      rw [a1] at e1; cases e1
      split at h'
      · cases q
        split at h'
        · rename_i y ey
          obtain ⟨z, hz, pz⟩ := a3.get ey
          rw [a3.length] at hz
          exact mt_pop pins s σ H _ _ v us Q I rx rs ⟨a, zs, z, rfl, rfl, a2, hz, h'.putL r a1 a3.dropLast pz⟩
        · exact h'.elim
      · obtain ⟨y, rfl, py⟩ := q.one
        cases py
        split at h'
        · rename_i i c
          split at h'
          · rename_i n en
            split at h'
            · rename_i y ey
              obtain ⟨z, hz, pz⟩ := a3.get ey
              rw [a3.length] at en
              exact mt_popAt pins s σ H _ _ v us Q I rx rs ⟨a, zs, i, n, z, rfl, rfl, a2, c.1, c.2, (ixN_seq en).1, hz, h'.putL r a1 (a3.eraseIdx n) pz⟩
            · exact h'.elim
          · exact h'.elim
        · exact h'.elim
      · exact h'.elim
    · exact h'.elim
  | _ => exact h.elim⟩
theorem bm_clearL : BmOk X T .lst .clear "clear" := ⟨_, PySem.F.plainAttrs_list, PySem.F.slot_list_clear, PySem.F.type_list_clear, by
  intro pins s σ H x xs v us Q I rx rs h
  obtain ⟨as, st, vo, ws, r, p, q, h⟩ := h
  cases vo with
  | loc l =>
    have h' := h
    unfold bmf at h'
    dsimp only at h'
    split at h'
    · cases q
      split at h'
      · rename_i vs e
        obtain ⟨a, zs, a1, a2, a3⟩ := r.lst e
        obtain ⟨a', e1, rfl⟩ := p.loc
        rw [a1] at e1; cases e1
        exact mt_clear pins s σ H _ _ v us Q I rx rs ⟨a, zs, rfl, rfl, a2, h'.putL r a1 (rfl : RepVs T as H [] []) rfl⟩
      · exact h'.elim
    · exact h'.elim
  | _ => exact h.elim⟩
theorem bm_remove : BmOk X T .lst .remove "remove" := ⟨_, PySem.F.plainAttrs_list, PySem.F.slot_list_remove, PySem.F.type_list_remove, by
  intro pins s σ H x xs v us Q I rx rs h
  obtain ⟨as, st, vo, ws, r, p, q, h⟩ := h
  cases vo with
  | loc l =>
    have h' := h
    unfold bmf at h'
    dsimp only at h'
    split at h'
    · rename_i k
      obtain ⟨y, rfl, py⟩ := q.one
      cases py
      split at h'
      · rename_i vs e
        split at h'
        · rename_i ns en
          split at h'
          · rename_i c
            obtain ⟨a, zs, a1, a2, a3⟩ := r.lst e
            obtain ⟨a', e1, rfl⟩ := p.loc
            rw [a1] at e1; cases e1
            rw [a3.ints en] at a2
            obtain ⟨j, h1, h2, h3, h4⟩ := first_at c
            refine mt_remove pins s σ H _ _ v us Q I rx rs ⟨a, ns, k, j, rfl, rfl, a2, h2, h3, ?_⟩
            rw [h4]
            exact h'.putL r a1 (RepVs.ofInts _) rfl
          · exact h'.elim
        · exact h'.elim
      · exact h'.elim
    · exact h'.elim
  | _ => exact h.elim⟩
theorem idx_at {ys : List PySem.Str} {k : PySem.Str} (h : k ∈ ys) : ys[ys.idxOf k]? = some k := by
  rw [List.getElem?_eq_getElem (List.idxOf_lt_length_of_mem h), List.getElem_idxOf]
theorem bm_index (hK : X.K = T.K) : BmOk X T .lst .index "index" := ⟨_, PySem.F.plainAttrs_list, PySem.F.slot_list_index, PySem.F.type_list_index, by
  intro pins s σ H x xs v us Q I rx rs h
  obtain ⟨as, st, vo, ws, r, p, q, h⟩ := h
  cases vo with
  | loc l =>
    have h' := h
    unfold bmf at h'
    dsimp only at h'
    split at h'
    · rename_i kk
      split at h'
      · rename_i vs e
        split at h'
        · rename_i ys ey
          split at h'
          · rename_i hk
            obtain ⟨a, ha, rfl⟩ := p.loc
            obtain ⟨zs, q1, q2⟩ := r.lstOf e ha
            obtain ⟨y, rfl, py⟩ := q.one
            cases py
            obtain rfl := RepVs.strs ey q2
            have nb : ∀ a b : PySem.Str, eqV (V.str a) (V.str b) = decide (a = b) := fun a b => by
              show (a == b) = _
              by_cases c : a = b
              · rw [decide_eq_true c, c]; exact beq_self_eq_true b
              · rw [decide_eq_false c]; exact beq_eq_false_iff_ne.mpr c
            refine mt_index pins s σ H _ _ v us Q I rx rs ⟨a, _, _, ys.idxOf kk, .str kk, rfl, rfl, by rw [hK]; exact q1, rfl, ?_, ?_, ?_, fun m z' hm hz => ?_, h'.here r rfl⟩
            · rw [List.all_map]; exact List.all_eq_true.mpr fun _ _ => rfl
            · rw [List.getElem?_map, idx_at hk]; rfl
            · rw [nb]; exact decide_eq_true rfl
            · rw [List.getElem?_map] at hz
              obtain ⟨w, hw, rfl⟩ := Option.map_eq_some_iff.mp hz
              rw [nb]
              refine decide_eq_false fun c => ?_
              subst c
              obtain ⟨h1, h2⟩ := List.getElem?_eq_some_iff.mp hw
              have := List.not_of_lt_findIdx hm
              rw [h2, beq_self_eq_true] at this
              cases this
          · exact h'.elim
        · exact h'.elim
      · exact h'.elim
    · exact h'.elim
  | _ => exact h.elim⟩
/-- d.get(None), where the keys are ints and texts -/
theorem d_get1N {X : Cx} {pins : List (Addr × Obj)} {σ : L2.St} {H : Hp} {s : Shared} {a : Addr} {kvs : List (Key × V)} {A : Around} {E : Value → Shared → Prop} {Q : Value → Shared → Prop} (I : Inv X pins σ H s) (e : Rd H a (.dK kvs)) (h : ∀ s', Inv X pins σ H s' → Q .none s') :
    wpAny (model X.prog X.w) A (call (.builtin "dict.get") [.ref a, .none]) Q E s := by
  obtain ⟨_, hd, vs, _, dd⟩ := dk_rd I.hok e
  obtain ⟨f, hm, hf⟩ := none_map dd
  refine call_meetsIn PySem.F.slot_dict_get dd.typeIs PySem.F.entry_dict_get (PySem.F.args_dict_get_2 _ _) (meets_dict_get (noneKind X.prog X.w) a (k := none) rfl hd) ⟨_, hm, ?_⟩
  rw [hf]
  exact h _ (I.tok _)
theorem bm_get (hu : X.A.units + 64 < cLine) : BmOk X T .dic .get "get" := ⟨_, PySem.F.plainAttrs_dict, PySem.F.slot_dict_get, PySem.F.type_dict_get, by
  intro pins s σ H x xs v us Q I rx rs h
  obtain ⟨as, st, vo, ws, r, p, q, h⟩ := h
  have hu' : X.A.units + 1 < cLine := by omega
  cases vo with
  | loc l =>
    have h' := h
    unfold bmf at h'
    dsimp only at h'
    split at h'
    · rename_i t kvs e
      obtain ⟨a, ha, rfl⟩ := p.loc
      cases rx
      split at h'
      · obtain ⟨y, rfl, py⟩ := q.one
        split at h'
        · rename_i c
          obtain ⟨o, g, ro⟩ := r.dget (.inl e) ha c py
          obtain ⟨u, rfl, ry⟩ := Vals.one rs
          refine d_get1 hu' I g ry fun w' s3 I3 rw' => ⟨o.getD .non, H, I3, rw', h'.here r ?_⟩
          cases e1 : dget kvs _ <;> cases o <;> first | (rw [e1] at ro; cases ro; done) | exact rfl | (rw [e1] at ro; exact ro)
        · split at h'
          · rename_i c
            obtain ⟨rfl, rfl⟩ := c
            cases py
            obtain ⟨u, rfl, ry⟩ := Vals.one rs
            cases ry
            obtain ⟨ks, q1, q2⟩ := r.dicK e ha
            exact d_get1N I (.inl q1) fun s3 I3 => ⟨.non, H, I3, rfl, h'.here r rfl⟩
          · exact h'.elim
      · obtain ⟨y, z, rfl, py, pz⟩ := q.two
        split at h'
        · rename_i c
          obtain ⟨o, g, ro⟩ := r.dget (.inl e) ha c py
          cases rs with
          | cons ry rs =>
            cases rs with
            | cons rz rs =>
              cases rs
              refine d_get2 hu' I g ry rz fun w' s3 I3 rw' => ⟨o.getD z, H, I3, rw', h'.here r ?_⟩
              cases e1 : dget kvs _ <;> cases o <;> first | (rw [e1] at ro; cases ro; done) | exact pz | (rw [e1] at ro; exact ro)
        · exact h'.elim
      · exact h'.elim
    · exact h'.elim
  | _ => exact h.elim⟩
theorem bm_popD : BmOk X T .dic .pop "pop" := ⟨_, PySem.F.plainAttrs_dict, PySem.F.slot_dict_pop, PySem.F.type_dict_pop, by
  intro pins s σ H x xs v us Q I rx rs h
  obtain ⟨as, st, vo, ws, r, p, q, h⟩ := h
  cases vo with
  | loc l =>
    have h' := h
    unfold bmf at h'
    dsimp only at h'
    split at h'
    · rename_i kvs e
      obtain ⟨a, ha, rfl⟩ := p.loc
      cases rx
      split at h'
      · obtain ⟨y, rfl, py⟩ := q.one
        split at h'
        · rename_i c
          split at h'
          · rename_i z ez
            obtain ⟨k, rfl, rfl⟩ := key1 c py
            obtain ⟨ks, q1, q2⟩ := r.dicK e ha
            have ro := q2.get k
            rw [ez] at ro
            obtain ⟨u, rfl, ry⟩ := Vals.one rs
            cases ev : valV ks k with
            | none => rw [ev] at ro; cases ro
            | some w =>
              rw [ev] at ro
              exact d_pop I q1 ry ev (.inl rfl) fun w' s3 I3 rw' => ⟨w, _, I3, rw', h'.putD r ha (q2.drop k) ro⟩
          · exact h'.elim
        · exact h'.elim
      · obtain ⟨y, z0, rfl, py, pz⟩ := q.two
        split at h'
        · rename_i c
          obtain ⟨k, rfl, rfl⟩ := key1 c py
          obtain ⟨ks, q1, q2⟩ := r.dicK e ha
          have ro := q2.get k
          obtain ⟨u, u2, rfl, ry, rz⟩ := Vals.two rs
          split at h'
          · rename_i z ez
            rw [ez] at ro
            cases ev : valV ks k with
            | none => rw [ev] at ro; cases ro
            | some w =>
              rw [ev] at ro
              exact d_pop I q1 ry ev (.inr ⟨_, rfl⟩) fun w' s3 I3 rw' => ⟨w, _, I3, rw', h'.putD r ha (q2.drop k) ro⟩
          · rename_i ez
            rw [ez] at ro
            cases ev : valV ks k with
            | none => exact d_popD I q1 ry ev fun s3 I3 => ⟨z0, H, I3, rz, h'.here r pz⟩
            | some w => rw [ev] at ro; cases ro
        · exact h'.elim
      · exact h'.elim
    · exact h'.elim
  | _ => exact h.elim⟩
theorem bm_clearD : BmOk X T .dic .clear "clear" := ⟨_, PySem.F.plainAttrs_dict, PySem.F.slot_dict_clear, PySem.F.type_dict_clear, by
  intro pins s σ H x xs v us Q I rx rs h
  obtain ⟨as, st, vo, ws, r, p, q, h⟩ := h
  cases vo with
  | loc l =>
    have h' := h
    unfold bmf at h'
    dsimp only at h'
    split at h'
    · rename_i kvs e
      obtain ⟨a, ha, rfl⟩ := p.loc
      obtain ⟨ks, q1, q2⟩ := r.dicK e ha
      split at h'
      · cases q
        exact mtd_clear pins s σ H _ _ v us Q I rx rs ⟨a, ks, rfl, rfl, q1, h'.putD r ha (rfl : RepK T as H [] []) rfl⟩
      · exact h'.elim
    · exact h'.elim
  | _ => exact h.elim⟩
theorem bm_split : BmOk X T .str .split "split" := ⟨_, PySem.F.plainAttrs_str, PySem.F.slot_str_split, PySem.F.type_str_split, by
  intro pins s σ H x xs v us Q I rx rs h
  obtain ⟨as, st, vo, ws, r, p, q, h⟩ := h
  cases vo with
  | str z =>
    have h' := h
    unfold bmf at h'
    dsimp only at h'
    split at h'
    · obtain ⟨y, rfl, py⟩ := q.one
      cases py; cases p
      split at h'
      · rename_i c
        exact mt_split pins s σ H _ _ v us Q I rx rs ⟨z, _, rfl, rfl, c.1, by rw [← lim_eq]; exact c.2, h'.newL r (RepVs.ofStrs _)⟩
      · exact h'.elim
    · exact h'.elim
  | _ => exact h.elim⟩
theorem bm_startswith : BmOk X T .str .startswith "startswith" := ⟨_, PySem.F.plainAttrs_str, PySem.F.slot_str_startswith, PySem.F.type_str_startswith, by
  intro pins s σ H x xs v us Q I rx rs h
  obtain ⟨as, st, vo, ws, r, p, q, h⟩ := h
  cases vo with
  | str z =>
    have h' := h
    unfold bmf at h'
    dsimp only at h'
    split at h'
    · obtain ⟨y, rfl, py⟩ := q.one
      cases py; cases p
      exact mt_startswith pins s σ H _ _ v us Q I rx rs ⟨z, _, rfl, rfl, h'.here r rfl⟩
    · exact h'.elim
  | _ => exact h.elim⟩
theorem bm_find : BmOk X T .str .find "find" := ⟨_, PySem.F.plainAttrs_str, PySem.F.slot_str_find, PySem.F.type_str_find, by
  intro pins s σ H x xs v us Q I rx rs h
  obtain ⟨as, st, vo, ws, r, p, q, h⟩ := h
  cases vo with
  | str z =>
    have h' := h
    unfold bmf at h'
    dsimp only at h'
    split at h'
    · obtain ⟨y, y2, rfl, py, py2⟩ := q.two
      cases py; cases py2; cases p
      exact mt_find3 pins s σ H _ _ v us Q I rx rs ⟨z, _, _, rfl, rfl, h'.here r rfl⟩
    · exact h'.elim
  | _ => exact h.elim⟩
theorem bm_count : BmOk X T .str .count "count" := ⟨_, PySem.F.plainAttrs_str, PySem.F.slot_str_count, PySem.F.type_str_count, by
  intro pins s σ H x xs v us Q I rx rs h
  obtain ⟨as, st, vo, ws, r, p, q, h⟩ := h
  cases vo with
  | str z =>
    have h' := h
    unfold bmf at h'
    dsimp only at h'
    split at h'
    · obtain ⟨y, rfl, py⟩ := q.one
      cases py; cases p
      exact mt_count pins s σ H _ _ v us Q I rx rs ⟨z, _, rfl, rfl, h'.here r rfl⟩
    · exact h'.elim
  | _ => exact h.elim⟩
theorem bm_join (hK : X.K = T.K) : BmOk X T .str .join "join" := ⟨_, PySem.F.plainAttrs_str, PySem.F.slot_str_join, PySem.F.type_str_join, by
  intro pins s σ H x xs v us Q I rx rs h
  obtain ⟨as, st, vo, ws, r, p, q, h⟩ := h
  cases vo with
  | str z =>
    have h' := h
    unfold bmf at h'
    dsimp only at h'
    split at h'
    · rename_i y0
      obtain ⟨y, rfl, py⟩ := q.one
      cases p
      split at h'
      · rename_i vs e
        split at h'
        · rename_i ys ey
          split at h'
          · rename_i c
            cases y0 with
            | tup vs' =>
              cases e
              obtain ⟨a, zs, rfl, ht, hp⟩ := py
              have e2 := hp.strs ey
              subst e2
              exact mt_join pins s σ H _ _ v us Q I rx rs ⟨z, a, ys, rfl, rfl, .inr (by rw [hK]; exact ht.sqT), c, h'.here r rfl⟩
            | loc l =>
              obtain ⟨a, ha, rfl⟩ := py.loc
              obtain ⟨zs, q1, q2⟩ := r.lstOf e ha
              have e2 := q2.strs ey
              subst e2
              exact mt_join pins s σ H _ _ v us Q I rx rs ⟨z, a, ys, rfl, rfl, .inl (by rw [hK]; exact q1), c, h'.here r rfl⟩
            | _ => cases e
          · exact h'.elim
        · exact h'.elim
      · exact h'.elim
    · exact h'.elim
  | _ => exact h.elim⟩
theorem bm_ok (hK : X.K = T.K) (hu : X.A.units + 64 < cLine) (k : Kd) (m : Bm) (h : bmServed k m = true) : BmOk X T k m m.nm := by
  cases k <;> cases m <;> first
    | (cases h; done)
    | exact bm_append
    | exact bm_extend
    | exact bm_popL
    | exact bm_clearL
    | exact bm_remove
    | exact bm_index hK
    | exact bm_get hu
    | exact bm_popD
    | exact bm_clearD
    | exact bm_split
    | exact bm_startswith
    | exact bm_find
    | exact bm_count
    | exact bm_join hK
/-! ### isinstance -/
def Ty.nm : Ty → String
  | .int => "int" | .bool => "bool" | .str => "str" | .tuple => "tuple" | .list => "list" | .dict => "dict"
def rIs1 (T : Tb) (t : Ty) : List V → Hp → VK → Prop := fun xs H Q => ∃ as st v x, Rel T as H st ∧ xs = [x, .ty t.nm] ∧ RepV T as H v x ∧ PV T as H (isi v [t] st) Q
theorem is1_ok (hK : X.K = T.K) (t : Ty) : CallR X (.builtin "isinstance") (rIs1 T t) := by
  intro pins s σ H xs us Q I rx h
  obtain ⟨as, st, v, x, r, rfl, p, h⟩ := h
  have go : ∀ (n : String) (b : Bool), L2.TyOf X.K H x (.type n) → PySem.W.kitOne X.K (.type n) (.type t.nm) = some b → tyIs t v st = some b → wpAny (model X.prog X.w) X.A (call (.builtin "isinstance") us) (EP X pins σ Q) X.xe s := by
    intro n b h1 h2 h3
    have h' : PV T as H (match tyIs t v st with
      | some b => R.ok (.bl b) st
      | none => .bad) Q := h
    rw [h3] at h'
    exact call_isi pins s σ H _ us Q I rx ⟨x, .ty t.nm, .type n, .type t.nm, b, rfl, .ty _, .base h1, h2, h'.here r rfl⟩
  cases v with
  | ktp vs => exact h.elim
  | non => cases p; cases t <;> exact go "NoneType" _ .non (kit_ty (by decide +kernel)) rfl
  | bl b => cases p; cases t <;> exact go "bool" _ (.bl b) (kit_ty (by decide +kernel)) rfl
  | int i => cases p; cases t <;> exact go "int" _ (.int i) (kit_ty (by decide +kernel)) rfl
  | str z => cases p; cases t <;> exact go "str" _ (.str z) (kit_ty (by decide +kernel)) rfl
  | tup vs =>
    obtain ⟨a, zs, rfl, ht, _⟩ := p
    cases t <;> exact go "tuple" _ (.tup ht) (kit_ty (by decide +kernel)) rfl
  | loc l =>
    obtain ⟨a, ha, rfl⟩ := p.loc
    have h' : PV T as H (match tyIs t (.loc l) st with
      | some b => R.ok (.bl b) st
      | none => .bad) Q := h
    cases e : tyIs t (.loc l) st with
    | none => rw [e] at h'; exact h'.elim
    | some b =>
      have e' := e
      unfold tyIs at e'
      dsimp only at e'
      split at e'
      · rename_i vs q
        obtain ⟨a', xs, a1, a2, a3⟩ := r.lst q
        rw [ha] at a1; cases a1
        cases e'
        cases t <;> exact go "list" _ (.lst a2) (kit_ty (by decide +kernel)) e
      · rename_i tt kvs q
        obtain ⟨a', ha', ho⟩ := r.ob l _ q
        rw [ha] at ha'; cases ha'
        cases e'
        cases tt with
        | false =>
          obtain ⟨ks, q1, _⟩ := ho
          cases t <;> exact go "dict" _ (.dK q1) (kit_ty (by decide +kernel)) e
        | true =>
          obtain ⟨ks, q1, _⟩ := ho
          cases t <;> exact go "dict" _ (.dT q1) (kit_ty (by decide +kernel)) e
      · cases e'
def rIsT (T : Tb) (ts : List Ty) : List V → Hp → VK → Prop := fun xs H Q => ∃ as st v x tp, Rel T as H st ∧ xs = [x, .ref tp] ∧ H tp = some (.tup (ts.map fun t => V.ty t.nm)) ∧ RepV T as H v x ∧ PV T as H (match isiAny v st ts with
    | some b => R.ok (.bl b) st
    | none => .bad) Q
theorem tys_cls : ∀ ts : List Ty, Paired ClsV (ts.map fun t => V.ty t.nm) (ts.map fun t => Value.type t.nm)
  | [] => .nil
  | t :: ts => .cons (.ty _) (tys_cls ts)
theorem kit_any {K : PySem.W.Frag} {n : String} {v : Val} {st : Store} (h1 : ∀ t b, tyIs t v st = some b → PySem.W.kitOne K (.type n) (.type (Ty.nm t)) = some b) : ∀ {ts : List Ty} {b : Bool}, isiAny v st ts = some b → PySem.W.kitAny K (.type n) (ts.map fun t => Value.type t.nm) = some b
  | [], _, e => by cases e; rfl
  | t :: ts, b, e => by
    unfold isiAny at e
    cases e1 : tyIs t v st with
    | none => rw [e1] at e; cases e
    | some c =>
      cases e2 : isiAny v st ts with
      | none => rw [e1, e2] at e; cases e
      | some d =>
        rw [e1, e2] at e
        cases e
        refine kitAny_cons (h1 t c e1) (fun hc => ?_) (fun hc => by rw [hc]; rfl)
        subst hc
        exact kit_any h1 e2
theorem isT_ok (hK : X.K = T.K) (ts : List Ty) (hne : ts ≠ []) : CallR X (.builtin "isinstance") (rIsT T ts) := by
  intro pins s σ H xs us Q I rx h
  obtain ⟨as, st, v, x, tp, r, rfl, ht, p, h⟩ := h
  cases e : isiAny v st ts with
  | none => rw [e] at h; exact h.elim
  | some b =>
    rw [e] at h
    have go : ∀ (n : String), L2.TyOf X.K H x (.type n) → (∀ t b, tyIs t v st = some b → PySem.W.kitOne X.K (.type n) (.type (Ty.nm t)) = some b) → wpAny (model X.prog X.w) X.A (call (.builtin "isinstance") us) (EP X pins σ Q) X.xe s := by
      intro n h1 h2
      exact call_isiT pins s σ H _ us Q I rx ⟨x, tp, _, .type n, _, b, rfl, ht, tys_cls ts, .base h1, kit_any h2 e, h.here r rfl⟩
    cases v with
    | ktp vs =>
      cases ts with
      | nil => exact absurd rfl hne
      | cons t0 ts0 => unfold isiAny at e; cases e
    | non => cases p; exact go "NoneType" .non (fun t b h => by cases t <;> cases h <;> exact kit_ty (by decide +kernel))
    | bl c => cases p; exact go "bool" (.bl c) (fun t b h => by cases t <;> cases h <;> exact kit_ty (by decide +kernel))
    | int i => cases p; exact go "int" (.int i) (fun t b h => by cases t <;> cases h <;> exact kit_ty (by decide +kernel))
    | str z => cases p; exact go "str" (.str z) (fun t b h => by cases t <;> cases h <;> exact kit_ty (by decide +kernel))
    | tup vs =>
      obtain ⟨a, zs, rfl, hta, _⟩ := p
      exact go "tuple" (.tup hta) (fun t b h => by cases t <;> cases h <;> exact kit_ty (by decide +kernel))
    | loc l =>
      obtain ⟨a, ha, rfl⟩ := p.loc
      cases ts with
      | nil => exact absurd rfl hne
      | cons t0 ts0 =>
        have e' : ∃ c, tyIs t0 (.loc l) st = some c := by
          unfold isiAny at e
          cases e1 : tyIs t0 (.loc l) st with
          | none => rw [e1] at e; cases e
          | some c => exact ⟨c, rfl⟩
        obtain ⟨c, e'⟩ := e'
        unfold tyIs at e'
        dsimp only at e'
        split at e'
        · rename_i vs q
          obtain ⟨a', xs, a1, a2, a3⟩ := r.lst q
          rw [ha] at a1; cases a1
          exact go "list" (.lst a2) (fun t b h => by
            unfold tyIs at h
            simp only [q] at h
            cases t <;> cases h <;> exact kit_ty (by decide +kernel))
        · rename_i tt kvs q
          obtain ⟨a', ha', ho⟩ := r.ob l _ q
          rw [ha] at ha'; cases ha'
          have hh : ∀ t b, tyIs t (.loc l) st = some b → PySem.W.kitOne X.K (.type "dict") (.type (Ty.nm t)) = some b := fun t b h => by
            unfold tyIs at h
            simp only [q] at h
            cases t <;> cases h <;> exact kit_ty (by decide +kernel)
          cases tt with
          | false =>
            obtain ⟨ks, q1, _⟩ := ho
            exact go "dict" (.dK q1) hh
          | true =>
            obtain ⟨ks, q1, _⟩ := ho
            exact go "dict" (.dT q1) hh
        · cases e'
end
end Ov

/-! What holds where a def's body runs; what is wanted of exceptions; the evaluator's readings. -/
namespace Ov
open PySem PySem.Spec L2

/-! ### exceptions -/
/-- what the surroundings take of an exception -/
def Tk (X : Cx) : WX := fun cls d σ H => ∀ u s', XE X (fun c' d' σ' H' => c' = cls ∧ d' = d ∧ σ' = σ ∧ H' = H) u s' → X.xe u s'
theorem takesTk {X : Cx} : Takes X (Tk X) := fun u s' ⟨a, B, sI, pins, σ, H, cls, d, e, I, nb, up, sky, na, os, ag, w⟩ => w u s' ⟨a, B, sI, pins, σ, H, cls, d, e, I, nb, up, sky, na, os, ag, rfl, rfl, rfl, rfl⟩
def XRep (T : Tb) (as : List Addr) (H : Hp) (fs : List (Nat × Val)) : Option Addr → Prop
  | none => fs = []
  | some d => fs ≠ [] ∧ ∃ gs, H d = some (.xd gs) ∧ RepF T as H fs gs
/-- an end: a result and the heap, or an exception -/
def PC {α β : Type} (T : Tb) (rep : List Addr → Hp → α → β → Prop) (as : List Addr) (H : Hp) (r : R α) (Q : β → Hp → Prop) (E : XK) : Prop := match r with
  | .ok v st => ∀ as' H' x, Ext as H as' H' → Rel T as' H' st → rep as' H' v x → Q x H'
  | .exc e st => ∀ as' H' d C, Ext as H as' H' → Rel T as' H' st → T.exc e.c = some C → XRep T as' H' e.fs d → E (.ref C) d H'
  | .bad => False
section
variable {α β γ δ : Type} {T : Tb} {rep : List Addr → Hp → α → β → Prop} {rep2 : List Addr → Hp → γ → δ → Prop} {as as' : List Addr} {H H' : Hp} {r : R α} {Q : β → Hp → Prop} {E : XK} {st : Store}
theorem PC.mono {Q' : β → Hp → Prop} {E' : XK} (h : PC T rep as H r Q E) (hQ : ∀ x H', Q x H' → Q' x H') (hE : ∀ c d H', E c d H' → E' c d H') : PC T rep as H r Q' E' := by
  cases r with
  | ok v st => exact fun as' H' x e k p => hQ _ _ (h as' H' x e k p)
  | exc e st => exact fun as' H' d C e k p q => hE _ _ _ (h as' H' d C e k p q)
  | bad => exact h
theorem PC.ext (h : PC T rep as H r Q E) (e : Ext as H as' H') : PC T rep as' H' r Q E := by
  cases r with
  | ok v st => exact fun as2 H2 x e2 k p => h as2 H2 x (e.trans e2) k p
  | exc y st => exact fun as2 H2 d C e2 k p q => h as2 H2 d C (e.trans e2) k p q
  | bad => exact h
/-- one step after another -/
theorem PC.bind {f : α → Store → R γ} {Q : δ → Hp → Prop} (h : PC T rep2 as H (r.bind f) Q E) :
    PC T rep as H r (fun x H1 => ∃ as1 st1 v, Ext as H as1 H1 ∧ Rel T as1 H1 st1 ∧ rep as1 H1 v x ∧ PC T rep2 as1 H1 (f v st1) Q E) E := by
  cases r with
  | ok v st => exact fun as1 H1 x e k p => ⟨as1, st, v, e, k, p, PC.ext (r := f v st) h e⟩
  | exc e st => exact h
  | bad => exact h
theorem PC.pv {r : R Val} {Q : VK} (h : PC T (RepV T) as H r Q E) : PV T as H r Q := by
  cases r with
  | ok v st => exact h
  | exc e st => exact True.intro
  | bad => exact h
theorem PC.here {v : α} {x : β} (h : PC T rep as H (.ok v st) Q E) (k : Rel T as H st) (p : rep as H v x) : Q x H := h as H x (Ext.refl _ _) k p
end
/-- the environment -/
def RepE (T : Tb) (as : List Addr) (H : Hp) : Env → L2.St → Prop
  | [], σ => σ = []
  | none :: r, σ => ∃ y s, σ = y :: s ∧ RepE T as H r s
  | some v :: r, σ => ∃ x s, σ = some x :: s ∧ RepV T as H v x ∧ RepE T as H r s
section
variable {T : Tb} {as as' : List Addr} {H H' : Hp}
theorem RepE.ext (e : Ext as H as' H') : ∀ {ρ : Env} {σ : L2.St}, RepE T as H ρ σ → RepE T as' H' ρ σ
  | [], _, h => h
  | none :: r, _, h => by
    obtain ⟨y, s, rfl, h⟩ := h
    exact ⟨y, s, rfl, RepE.ext e h⟩
  | some v :: r, _, h => by
    obtain ⟨x, s, rfl, h1, h2⟩ := h
    exact ⟨x, s, rfl, RepV.ext e _ _ h1, RepE.ext e h2⟩
theorem RepE.get : ∀ {ρ : Env} {σ : L2.St} {i : Nat} {v : Val}, RepE T as H ρ σ → eget ρ i = some v → ∃ x, σ[i]? = some (some x) ∧ RepV T as H v x
  | [], _, _, _, _, h => by cases h
  | none :: r, _, 0, _, _, h => by cases h
  | none :: r, _, i + 1, _, h, g => by
    obtain ⟨y, s, rfl, h⟩ := h
    obtain ⟨x, q1, q2⟩ := RepE.get (i := i) h g
    exact ⟨x, by simpa using q1, q2⟩
  | some v :: r, _, 0, _, h, g => by
    obtain ⟨x, s, rfl, h1, h2⟩ := h
    cases g
    exact ⟨x, rfl, h1⟩
  | some v :: r, _, i + 1, _, h, g => by
    obtain ⟨x, s, rfl, h1, h2⟩ := h
    obtain ⟨y, q1, q2⟩ := RepE.get (i := i) h2 g
    exact ⟨y, by simpa using q1, q2⟩
theorem RepE.set {v : Val} {x : V} (p : RepV T as H v x) : ∀ {ρ : Env} {σ : L2.St} (i : Nat), RepE T as H ρ σ → RepE T as H (eset ρ i (some v)) (σ.set i (some x))
  | [], _, _, h => by cases h; exact rfl
  | none :: r, _, 0, h => by
    obtain ⟨y, s, rfl, h⟩ := h
    exact ⟨x, s, rfl, p, h⟩
  | none :: r, _, i + 1, h => by
    obtain ⟨y, s, rfl, h⟩ := h
    exact ⟨y, _, rfl, RepE.set p i h⟩
  | some w :: r, _, 0, h => by
    obtain ⟨y, s, rfl, h1, h⟩ := h
    exact ⟨x, s, rfl, p, h⟩
  | some w :: r, _, i + 1, h => by
    obtain ⟨y, s, rfl, h1, h⟩ := h
    exact ⟨y, _, rfl, h1, RepE.set p i h⟩
theorem RepE.unset {y : Option V} : ∀ {ρ : Env} {σ : L2.St} (i : Nat), RepE T as H ρ σ → RepE T as H (eset ρ i none) (σ.set i y)
  | [], _, _, h => by cases h; exact rfl
  | none :: r, _, 0, h => by
    obtain ⟨z, s, rfl, h⟩ := h
    exact ⟨y, s, rfl, h⟩
  | none :: r, _, i + 1, h => by
    obtain ⟨z, s, rfl, h⟩ := h
    exact ⟨z, _, rfl, RepE.unset i h⟩
  | some w :: r, _, 0, h => by
    obtain ⟨z, s, rfl, h1, h⟩ := h
    exact ⟨y, s, rfl, h⟩
  | some w :: r, _, i + 1, h => by
    obtain ⟨z, s, rfl, h1, h⟩ := h
    exact ⟨z, _, rfl, h1, RepE.unset i h⟩
theorem RepE.wipe {ρ : Env} {σ : L2.St} (h : RepE T as H ρ σ) : ∀ (vs : List Nat), RepE T as H (wipeE ρ vs) (wipe σ vs)
  | [] => h
  | v :: vs => (RepE.wipe h vs).unset v
theorem RepE.start {vs : List Val} {xs : List V} (N : List Str) (h : RepVs T as H vs xs) : RepE T as H (startE N.length vs) (L2.start N xs) := by
  unfold startE L2.start
  rw [h.length]
  have pad : ∀ k : Nat, RepE T as H (List.replicate k none) (List.replicate k none) := fun k => by
    induction k with
    | zero => exact rfl
    | succ k ih => exact ⟨none, _, rfl, ih⟩
  generalize N.length - xs.length = k
  induction vs generalizing xs with
  | nil => cases h; exact pad k
  | cons v vs ih =>
    obtain ⟨x, r, rfl, h2, h3⟩ := h
    exact ⟨x, _, rfl, h2, ih h3⟩
end
/-! ### what the program's tables say -/
structure Tbl where
  fns : List (Str × Nat × Nat)
  consts : List (Str × Val)
  tups : List (Str × List Val)
  clss : List (Str × Nat)
  meths : List Nat
  frees : List Str
  excs : List (Str × Nat)
  cats : List (Str × Nat)
  cths : List (Str × Nat)
  dics : List (Str × List (Str × List Val)) := []
/-- a def's promise: as the evaluator says -/
def spC (T : Tb) (c : List Val → Store → R Val) (np : Nat) : Sp := fun vs H Q E => vs.length = np ∧ ∃ as st args, Rel T as H st ∧ RepVs T as H args vs ∧ PC T (RepV T) as H (c args st) Q E
/-- a scalar as it stands in the written part -/
def scalV : Val → Option V
  | .non => some .non
  | .bl b => some (.bl b)
  | .int i => some (.int i)
  | .str x => some (.str x)
  | _ => none
theorem scalV_rep {T : Tb} {as : List Addr} {H : Hp} {v : Val} {x : V} (h : scalV v = some x) : RepV T as H v x := by
  cases v <;> first | (cases h; rfl) | cases h
def scalVs : List Val → Option (List V)
  | [] => some []
  | v :: vs => match scalV v, scalVs vs with
    | some x, some xs => some (x :: xs)
    | _, _ => none
theorem scalVs_rep {T : Tb} {as : List Addr} {H : Hp} : ∀ {vs : List Val} {xs : List V}, scalVs vs = some xs → RepVs T as H vs xs
  | [], _, h => by cases h; exact rfl
  | v :: vs, _, h => by
    unfold scalVs at h
    cases e1 : scalV v with
    | none => rw [e1] at h; cases h
    | some x =>
      cases e2 : scalVs vs with
      | none => rw [e1, e2] at h; cases h
      | some xs =>
        rw [e1, e2] at h
        cases h
        exact ⟨x, xs, rfl, scalV_rep e1, scalVs_rep e2⟩
/-- how many arguments it takes -/
def Ar (c : List Val → Store → R Val) (np : Nat) : Prop := ∀ vs s, vs.length ≠ np → c vs s = .bad
/-- an own exception class that a def raises -/
structure XcOk (K : PySem.W.Frag) (C : Addr) : Prop where
  kp : PySem.W.keepIn K (.ref C) = true
  ex : ∃ bmB B newId initId, ExcBaseFacts B newId initId bmB ∧ PySem.W.excIn K C bmB newId = true
  sb : PySem.W.subIn K (.ref C) (.type "BaseException") = some true
  ty : PySem.W.typeIn K (.ref C) = some (.type "type")
/-- a class that isinstance asks for (q = kitOne), that an except clause names (q = exmOne) -/
def CtOk (q : PySem.W.Frag → Value → Value → Option Bool) (T : Tb) (sub : Nat → Nat → Bool) (mg : Str → Option Value) (x : Str) (c : Nat) : Prop :=
  ∃ D : Value, ((∃ A, D = .ref A ∧ mg x = some D) ∨ (mg x = none ∧ bootBuiltins x = some D ∧ ∃ n, D = .type n)) ∧ ∀ r C, T.exc r = some C → q T.K (.ref C) D = some (sub r c)
/-- what holds of the program (its written part, its module), k levels below -/
structure Wd (T : Tb) (G : Gm) (tb : Tbl) (k : Nat) (P : Program) (w : World) (mg : Str → Option Value) (base : Heap) : Prop where
  call : ∀ x f np, tb.fns.lookup x = some (f, np) → ∃ a fd ps, mg x = some (.ref a) ∧ PySem.W.keepIn T.K (.ref a) = true ∧ Binds T.K fd ps [] ∧ FnOk P w T.K mg base (L2.CX P w) k a fd ps (spC T (G.call f) np) ∧ Ar (G.call f) np
  meth : ∀ c C m n f, T.cls c = some C → T.names[m]? = some n → G.meth c m = some f → ∃ a fd ps np, Meth T.K C n a ∧ Binds T.K fd ps [] ∧ FnOk P w T.K mg base (L2.CX P w) k a fd ps (spC T (G.call f) np) ∧ Ar (G.call f) np
  make : ∀ x c, tb.clss.lookup x = some c → ∃ C a fi fd ps np, mg x = some (.ref C) ∧ T.cls c = some C ∧ G.init c = some fi ∧ Mk T.K C a ∧ Binds T.K fd ps [] ∧ FnOk P w T.K mg base (L2.CX P w) k a fd ps (spC T (G.call fi) np) ∧ Ar (G.call fi) np
  mths : ∀ c f m, G.meth c f = some m → f ∈ tb.meths
  cls : ∀ c C, T.cls c = some C → Cls T.K C
  noat : ∀ c C f n, T.cls c = some C → T.names[f]? = some n → (∀ m, G.meth c f ≠ some m) → NoAttr T.K C n
  consts : ∀ x v, tb.consts.lookup x = some v → ∃ y u, scalV v = some y ∧ mg x = some u ∧ RelV y u
  tups : ∀ x vs, tb.tups.lookup x = some vs → ∃ ys a, scalVs vs = some ys ∧ mg x = some (.ref a) ∧ SqT T.K (fun _ => none) a ys
  dics : ∀ x kvs, tb.dics.lookup x = some kvs → ∃ a es n, mg x = some (.ref a) ∧ KDict T.K w a es n ∧ (∀ z, kvs.lookup z = none → PySem.W.nsIn T.K a z = some none) ∧ (∀ z vs, kvs.lookup z = some vs → ∃ b ys, PySem.W.nsIn T.K a z = some (some (.ref b)) ∧ KtpAt T b ys ∧ scalVs vs = some ys)
  frees : ∀ x ∈ tb.frees, mg x = none
  nnd : T.names.Nodup
  excs : ∀ x c, tb.excs.lookup x = some c → ∃ C, mg x = some (.ref C) ∧ T.exc c = some C ∧ XcOk T.K C
  cats : ∀ x c, tb.cats.lookup x = some c → CtOk PySem.W.kitOne T G.sub mg x c
  cths : ∀ x c, tb.cths.lookup x = some c → CtOk PySem.W.exmOne T G.sub mg x c
  excc : ∀ r C, T.exc r = some C → ExcC T.K C
/-- where a body runs -/
structure Cn (T : Tb) (G : Gm) (tb : Tbl) (k : Nat) (X : Cx) : Prop where
  wd : Wd T G tb k X.prog X.w X.mg X.base
  hK : X.K = T.K
  calm : X.calm = true
  nd : X.N.Nodup
  room : Room (k + 1) X.A
  own : PassesOwn (model X.prog X.w) X.A X.env X.xe
theorem Cn.hu {T : Tb} {G : Gm} {tb : Tbl} {k : Nat} {X : Cx} (c : Cn T G tb k X) : X.A.units + 64 < cLine := c.room.units
theorem Cn.blk {T : Tb} {G : Gm} {tb : Tbl} {k : Nat} {X : Cx} (c : Cn T G tb k X) (s : Shared) (H : Hp) (scope : Scope) (cenv : PySem.Env) (fp : List Addr) : Cn T G tb k (X.blk s H scope cenv fp) :=
  ⟨c.wd, c.hK, c.calm, c.nd, c.room, PassesOwn.never⟩

/-! ### the readings -/
def EK (X : Cx) (σ : L2.St) : XK := fun c d H => Tk X c d σ H
abbrev repB : List Addr → Hp → Bool → Bool → Prop := fun _ _ a b => a = b
def tE (X : Cx) (T : Tb) (G : Gm) (e : E) : TE := fun σ H Q => ∃ as st ρ, Rel T as H st ∧ RepE T as H ρ σ ∧ PC T (RepV T) as H (ev G e ρ st) Q (EK X σ)
def tA (X : Cx) (T : Tb) (G : Gm) (e : E) : TA := fun σ H Q => ∃ as st ρ, Rel T as H st ∧ RepE T as H ρ σ ∧ PC T (RepVs T) as H (evs G e ρ st) Q (EK X σ)
/-- a test's answer -/
def evt (G : Gm) (e : E) (ρ : Env) (s : Store) : R Bool := (ev G e ρ s).bind fun x s => R.opt (truth s x) s
def tT (X : Cx) (T : Tb) (G : Gm) (e : E) : TT := fun σ H Q => ∃ as st ρ, Rel T as H st ∧ RepE T as H ρ σ ∧ PC T repB as H (evt G e ρ st) Q (EK X σ)
theorem _root_.L2.PE.le {X : Cx} {e : Expr} {t t' : TE} (h : PE X e t) (k : ∀ σ H Q, t' σ H Q → t σ H Q) : PE X e t' := ⟨fun pins s σ H Q I q => h.run pins s σ H Q I (k _ _ _ q)⟩
theorem _root_.L2.PT.le {X : Cx} {e : Expr} {t t' : TT} (h : PT X e t) (k : ∀ σ H Q, t' σ H Q → t σ H Q) : PT X e t' := ⟨fun pins s σ H Q I q => h.run pins s σ H Q I (k _ _ _ q)⟩
theorem _root_.L2.PW.le {X : Cx} {e : Expr} {t t' : TT} (h : PW X e t) (k : ∀ σ H Q, t' σ H Q → t σ H Q) : PW X e t' := ⟨fun wh pins s σ H Q I q => h.run wh pins s σ H Q I (k _ _ _ q)⟩
theorem _root_.L2.PA.le {X : Cx} {es : List Expr} {t t' : TA} (h : PA X es t) (k : ∀ σ H Q, t' σ H Q → t σ H Q) : PA X es t' := ⟨fun pos pins s σ H Q I q => h.run pos pins s σ H Q I (k _ _ _ q)⟩
theorem _root_.L2.PS.le {X : Cx} {e : Stmt} {t t' : TS} (h : PS X e t) (k : ∀ D σ H, t' D σ H → t D σ H) : PS X e t' := ⟨fun pins s σ H D I q => h.run pins s σ H D I (k _ _ _ q)⟩
theorem _root_.L2.PSs.le {X : Cx} {e : List Stmt} {t t' : TS} (h : PSs X e t) (k : ∀ D σ H, t' D σ H → t D σ H) : PSs X e t' := ⟨fun pins s σ H D I q => h.run pins s σ H D I (k _ _ _ q)⟩
end Ov

/-! Whether an evaluator's term is what a text says. -/
namespace Ov
open PySem PySem.Spec L2
def okn (x : Str) : Bool := !(x == "__debug__") && !(x == "__classdict__") && !(x == "__name__")
theorem okn1 {x : Str} (h : okn x = true) : (x == ("__debug__" : Str)) = false := by
  unfold okn at h
  simp only [Bool.and_eq_true, Bool.not_eq_true'] at h
  exact h.1.1
theorem okn2 {x : Str} (h : okn x = true) : (x == ("__classdict__" : Str)) = false := by
  unfold okn at h
  simp only [Bool.and_eq_true, Bool.not_eq_true'] at h
  exact h.1.2
theorem okn3 {x : Str} (h : okn x = true) : x ≠ ("__name__" : Str) := by
  unfold okn at h
  simp only [Bool.and_eq_true, Bool.not_eq_true'] at h
  exact fun e => by
    have := h.2
    rw [e] at this
    exact absurd this (by decide)
def visB (sc : Scope) (x : Str) : Bool := match sc.names.lookup x with
  | some .local => true
  | some .cell => true
  | some .free => true
  | _ => false
theorem visB_ok {sc : Scope} {x : Str} (h : visB sc x = true) : Vis sc x := by
  unfold visB at h
  split at h
  · rename_i e; exact .inl e
  · rename_i e; exact .inr (.inl e)
  · rename_i e; exact .inr (.inr e)
  · cases h
def locB (sc : Scope) (x : Str) : Bool := match sc.names.lookup x with
  | some .local => true
  | some .cell => true
  | _ => false
theorem locB_ok {sc : Scope} {x : Str} (h : locB sc x = true) : Loc sc x := by
  unfold locB at h
  split at h
  · rename_i e; exact .inl e
  · rename_i e; exact .inr e
  · cases h
def glbB (sc : Scope) (x : Str) : Bool := match sc.names.lookup x with
  | some .globalImplicit => true
  | _ => false
theorem glbB_ok {X : Cx} {x : Str} (h : glbB X.env.scope x = true) : Gl X x := by
  unfold glbB at h
  split at h
  · rename_i e; exact e
  · cases h
/-- what sc says of a name is so in the scope where the body runs -/
structure Sc (X : Cx) (sc : Scope) : Prop where
  glb : ∀ x, glbB sc x = true → glbB X.env.scope x = true
  vis : ∀ x, visB sc x = true → visB X.env.scope x = true
  loc : ∀ x, locB sc x = true → Loc X.env.scope x ∧ (X.fn x = true ∨ X.env.scope.names.lookup x = some .local)
  frc : ∀ x, sc.names.lookup x = some .cell ∨ sc.names.lookup x = some .free → X.env.scope.names.lookup x = some .cell ∨ X.env.scope.names.lookup x = some .free
theorem lookup_relabel {env : PySem.Env} : ∀ {names : List (Str × NameKind)} {x : Str},
    (names.map fun (n, k) => if (k == NameKind.free && env.scope.kind == .function && env.kindOf n == some .cell) then (n, NameKind.cell) else (n, k)).lookup x =
      (names.lookup x).map fun k => if (k == NameKind.free && env.scope.kind == .function && env.kindOf x == some .cell) then NameKind.cell else k
  | [], x => rfl
  | (n, k) :: r, x => by
    have ih := @lookup_relabel env r x
    show List.lookup x ((if (k == NameKind.free && env.scope.kind == .function && env.kindOf n == some .cell) = true then (n, NameKind.cell) else (n, k)) :: _) = _
    cases hx : x == n with
    | true =>
      have e : x = n := eq_of_beq hx
      subst e
      by_cases hc : (k == NameKind.free && env.scope.kind == .function && env.kindOf x == some .cell) = true
      · rw [if_pos hc]; simp only [List.lookup_cons, hx, Option.map_some, if_pos hc]
      · rw [if_neg hc]; simp only [List.lookup_cons, hx, Option.map_some, if_neg hc]
    | false =>
      by_cases hc : (k == NameKind.free && env.scope.kind == .function && env.kindOf n == some .cell) = true
      · rw [if_pos hc]; simp only [List.lookup_cons, hx]; exact ih
      · rw [if_neg hc]; simp only [List.lookup_cons, hx]; exact ih
theorem Sc.blk {X : Cx} (s : Shared) (H : Hp) (scope : Scope) (C : Addr) (cl : List (Str × Addr)) (fp : List Addr) : Sc (X.blk s H scope (compEnvC scope cl C X.env) fp) scope := by
  have key : ∀ x, (compEnvC scope cl C X.env).scope.names.lookup x = (scope.names.lookup x).map fun k => if (k == NameKind.free && X.env.scope.kind == .function && X.env.kindOf x == some .cell) then NameKind.cell else k := fun x => lookup_relabel
  refine ⟨fun x h => ?_, fun x h => ?_, fun x h => ?_, fun x h => ?_⟩
  · unfold glbB at h ⊢
    show (match (compEnvC scope cl C X.env).scope.names.lookup x with
      | some .globalImplicit => true
      | _ => false) = true
    rw [key]
    split at h
    · rename_i e; rw [e]; rfl
    · cases h
  · unfold visB at h ⊢
    show (match (compEnvC scope cl C X.env).scope.names.lookup x with
      | some .local => true
      | some .cell => true
      | some .free => true
      | _ => false) = true
    rw [key]
    split at h
    · rename_i e; rw [e]; rfl
    · rename_i e; rw [e]; rfl
    · rename_i e; rw [e]
      simp only [Option.map_some]
      generalize (NameKind.free == NameKind.free && X.env.scope.kind == .function && X.env.kindOf x == some .cell) = bb
      cases bb <;> rfl
    · cases h
  · unfold locB at h
    split at h
    · rename_i e
      have z : (compEnvC scope cl C X.env).scope.names.lookup x = some .local := by rw [key, e]; rfl
      exact ⟨.inl z, .inr z⟩
    · rename_i e
      have z : (compEnvC scope cl C X.env).scope.names.lookup x = some .cell := by rw [key, e]; rfl
      refine ⟨.inr z, .inl ?_⟩
      show (scope.names.lookup x == some NameKind.cell) = true
      rw [e]; rfl
    · cases h
  · show (compEnvC scope cl C X.env).scope.names.lookup x = _ ∨ (compEnvC scope cl C X.env).scope.names.lookup x = _
    rw [key]
    rcases h with e | e
    · rw [e]; exact .inl rfl
    · rw [e]
      simp only [Option.map_some]
      split
      · exact .inl rfl
      · exact .inr rfl
def constB (v : Val) (c : Const) : Bool := match v, c with
  | .non, .none => true
  | .bl a, .bool b => a == b
  | .int i, .int j => decide (i = j)
  | .str x, .str y => decide (x = y)
  | _, _ => false
/-- no super(..) -/
def noSup : Expr → Bool
  | .Call (.Name x _) [] [] _ => !(x == "super")
  | _ => true
theorem noSup_ok {o : Expr} {n : Str} {env : PySem.Env} {w : Sem Value} (h : noSup o = true) : attributeBase o n env w = w := by
  unfold attributeBase
  split
  · rename_i x p q
    have hx : (x == ("super" : Str)) = false := by
      simpa [noSup] using h
    have hx2 : (x != ("super" : Str)) = true := by
      unfold bne; rw [hx]; rfl
    simp [hx2]
  · rfl
def Bi.nm : Bi → Str
  | .len => "len" | .int => "int" | .str => "str" | .abs => "abs" | .min => "min" | .max => "max" | .sum => "sum" | .sorted => "sorted" | .range => "range" | .enum => "enumerate" | .zip => "zip" | .rev => "reversed"
  | .list => "list" | .tuple => "tuple" | .dict => "dict" | .set => "set" | .all => "all" | .repr => "repr" | .isi => "isinstance"
def tgB (N : List Str) (sc : Scope) (own : List Nat) : Tg → Expr → Bool
  | .n i, .Name x _ => decide (N[i]? = some x) && locB sc x && (own.contains i || own.isEmpty)
  | .t is, .Tuple xs _ _ => is.length == xs.length && (is.zip xs).all fun p => match p.2 with
    | .Name x _ => decide (N[p.1]? = some x) && locB sc x && (own.contains p.1 || own.isEmpty)
    | _ => false
  | _, _ => false
/-- a plain item of a row -/
def nstar : Expr → Bool
  | .Starred _ _ => false
  | .Slice _ _ _ _ => false
  | _ => true
/-- a name, a name's field -/
def dSimple : E → Bool
  | .v _ => true
  | .att (.v _) _ => true
  | .ix (.v _) (.k (.str _)) => true
  | _ => false
/-- a walk whose form we know -/
def itB : E → Expr → Expr → Bool
  | .bi .range _, .Call _ [_] _ _, _ => true
  | .bi .range _, .Call _ [_, _] _ _, _ => true
  | .bi .range _, .Call _ [_, _, _] _ _, _ => true
  | .bi .range _, _, _ => false
  | .bi .enum _, .Call _ [_] _ _, .Tuple _ _ _ => true
  | .bi .enum _, _, _ => false
  | .bi .zip _, .Call _ [_, _] _ _, .Tuple _ _ _ => true
  | .bi .zip _, _, _ => false
  | .bi .rev _, .Call _ [_] _ _, _ => true
  | .bi .rev _, _, _ => false
  | _, _, _ => true
/-- names of built-in types -/
def isTys (tb : Tbl) (sc : Scope) : List Ty → List Expr → Bool
  | [], [] => true
  | t :: ts, .Name y _ :: ys => okn y && glbB sc y && tb.frees.contains y && decide (y = Str.ofString t.nm) && isTys tb sc ts ys
  | _, _ => false
mutual
def chkE (tb : Tbl) (names N : List Str) : E → Scope → Expr → Bool
  | .k v, _, .Constant c _ _ => constB v c
  | .v i, sc, .Name x _ => okn x && decide (N[i]? = some x) && visB sc x
  | .g _ v, sc, .Name x _ => okn x && glbB sc x && decide (tb.consts.lookup x = some v)
  | .gin neg a _ vs, sc, .Compare l [op] [.Name x _] _ => okn x && glbB sc x && decide (tb.tups.lookup x = some vs) && decide (op = if neg then .NotIn else .In) && chkE tb names N a sc l
  | .gix _ vs a, sc, .Subscript (.Name x _) i _ => okn x && glbB sc x && decide (tb.tups.lookup x = some vs) && nstar i && chkE tb names N a sc i
  | .bin o a b, sc, .BinOp l op r _ => decide (o = op) && chkE tb names N a sc l && chkE tb names N b sc r
  | .cmp o a b, sc, .Compare l [op] [r] _ => decide (o = op) && chkE tb names N a sc l && chkE tb names N b sc r && !behindInMarks op r
  | .chn o p a b c, sc, .Compare l [op, op'] [r, r'] _ => decide (o = op) && decide (p = op') && chkE tb names N a sc l && chkE tb names N b sc r && chkE tb names N c sc r' && !lastMarks [op, op'] [r, r']
  | .not a, sc, .UnaryOp .Not x _ => chkE tb names N a sc x
  | .neg a, sc, .UnaryOp .USub x _ => chkE tb names N a sc x
  | .and a b, sc, .BoolOp .And (x :: y :: []) _ => chkE tb names N a sc x && chkE tb names N b sc y
  | .and a b, sc, .BoolOp .And (x :: y :: z :: r) p => chkE tb names N a sc x && chkE tb names N b sc (.BoolOp .And (y :: z :: r) p)
  | .or a b, sc, .BoolOp .Or (x :: y :: []) _ => chkE tb names N a sc x && chkE tb names N b sc y
  | .or a b, sc, .BoolOp .Or (x :: y :: z :: r) p => chkE tb names N a sc x && chkE tb names N b sc (.BoolOp .Or (y :: z :: r) p)
  | .ife t a b, sc, .IfExp x y z _ => chkE tb names N t sc x && chkE tb names N a sc y && chkE tb names N b sc z
  | .tup es, sc, .Tuple xs _ _ => chkL tb names N es sc xs
  | .lst es, sc, .List xs _ => chkL tb names N es sc xs
  | .dic _ es, _, .Dict [] [] _ => es.isNil
  | .dic t es, sc, .Dict (q :: qs) vs _ => !t && (q :: qs).all (·.isSome) && decide ((q :: qs).length = vs.length) && decide ((q :: qs).length ≤ 15) && chkD tb names N es sc (q :: qs) vs
  | .ix a i, sc, .Subscript x y _ => nstar y && chkE tb names N a sc x && chkE tb names N i sc y
  | .sl a lo hi st, sc, .Subscript x (.Slice l h none _) _ => st.isNil && chkE tb names N a sc x &&
    (match l with
      | none => lo.isNil
      | some l => chkE tb names N lo sc l) &&
    (match h with
      | none => hi.isNil
      | some h => chkE tb names N hi sc h)
  | .sl a lo hi st, sc, .Subscript x (.Slice l h (some q) _) _ => !st.isNil && chkE tb names N a sc x && chkE tb names N st sc q &&
    (match l with
      | none => lo.isNil
      | some l => chkE tb names N lo sc l) &&
    (match h with
      | none => hi.isNil
      | some h => chkE tb names N hi sc h)
  | .att a f, sc, .Attribute x n _ => chkE tb names N a sc x && decide (names[f]? = some n) && noSup x && !tb.meths.contains f
  | .call f es, sc, .Call (.Name x _) args [] _ => okn x && glbB sc x && (match tb.fns.lookup x with
    | some (g, _) => decide (f = g)
    | none => false) && chkL tb names N es sc args
  | .mk c es, sc, .Call (.Name x _) args [] _ => okn x && glbB sc x && decide (tb.clss.lookup x = some c) && chkL tb names N es sc args
  | .bi b es, sc, .Call (.Name x _) args [] _ => okn x && glbB sc x && tb.frees.contains x && decide (b.nm = x) && !args.isEmpty && chkL tb names N es sc args
  | .isi a [t], sc, .Call (.Name x _) [e, .Name y _] [] _ => decide (x = "isinstance") && glbB sc x && tb.frees.contains x && okn y && glbB sc y && tb.frees.contains y && decide (y = Str.ofString t.nm) && chkE tb names N a sc e
  | .isi a ts, sc, .Call (.Name x _) [e, .Tuple ys _ _] [] _ => decide (x = "isinstance") && glbB sc x && tb.frees.contains x && decide (2 ≤ ts.length) && decide (ts.length ≤ 6) && isTys tb sc ts ys && chkE tb names N a sc e
  | .ss a, sc, .Call (.Name x _) [.Call (.Name y _) [e] [] _] [] _ => decide (x = "sorted") && glbB sc x && tb.frees.contains x && decide (y = "set") && glbB sc y && tb.frees.contains y && nstar e && chkE tb names N a sc e
  | .tr a, sc, .Call (.Name x _) [.Call (.Name y _) [e] [] _] [] _ => decide (x = "tuple") && glbB sc x && tb.frees.contains x && decide (y = "reversed") && glbB sc y && tb.frees.contains y && nstar e && chkE tb names N a sc e
  | .gg _ kvs es, sc, .Call (.Attribute (.Name x q) n ap) args [] p => okn x && glbB sc x && decide (tb.dics.lookup x = some kvs) && noSup (.Name x q) && decide (n = "get") && (ap.endLine == p.line) && decide (args.length < 20) && !args.isEmpty && chkL tb names N es sc args
  | .bm m o es, sc, .Call (.Attribute x n ap) args [] p => chkE tb names N o sc x && noSup x && decide (n = Str.ofString m.nm) && (ap.endLine == p.line) && decide (args.length < 20) && chkL tb names N es sc args
  | .me m o es, sc, .Call (.Attribute x n ap) args [] p => chkE tb names N o sc x && noSup x && decide (names[m]? = some n) && (ap.endLine == p.line) && decide (args.length < 20) && chkL tb names N es sc args
  | .lc g it c e own, sc, .ListComp elt [⟨tg, iter, ifs, 0⟩] scope _ => chkE tb names N it sc iter && itB it iter tg && chkE tb names N e scope elt && tgB N scope own g tg && !own.isEmpty && blkC N sc scope (own.map fun i => (N.getD i Str.empty, i)) &&
    (match ifs with
      | [] => c.isNil
      | [x] => chkE tb names N c scope x
      | _ => false)
  | .lcd g it c e own, sc, .ListComp elt [⟨tg, iter, ifs, 0⟩] scope _ => chkE tb names N it sc iter && dSimple it && chkE tb names N e scope elt && tgB N scope own g tg && !own.isEmpty && blkC N sc scope (own.map fun i => (N.getD i Str.empty, i)) &&
    (match ifs with
      | [] => c.isNil
      | [x] => chkE tb names N c scope x
      | _ => false)
  | _, _, _ => false
def chkL (tb : Tbl) (names N : List Str) : E → Scope → List Expr → Bool
  | .nil, _, [] => true
  | .cons a b, sc, x :: xs => nstar x && chkE tb names N a sc x && chkL tb names N b sc xs
  | _, _, _ => false
def chkD (tb : Tbl) (names N : List Str) : E → Scope → List (Option Expr) → List Expr → Bool
  | .nil, _, [], [] => true
  | .cons a (.cons b r), sc, some q :: qs, v :: vs => chkE tb names N a sc q && chkE tb names N b sc v && chkD tb names N r sc qs vs
  | _, _, _, _ => false
end
theorem nstar_star {e : Expr} (h : nstar e = true) (es : List Expr) (env : PySem.Env) : starEach (e :: es) env = (false, eval e env) :: starEach es env := by
  cases e <;> first
    | rfl
    | cases h
theorem nstar_ix {e : Expr} (h : nstar e = true) : PlainIx e := by
  cases e <;> first
    | exact fun _ _ => rfl
    | cases h
theorem chkL_plain {tb : Tbl} {names N : List Str} : ∀ {es : List Expr} {L : E} {sc : Scope}, chkL tb names N L sc es = true → ∀ (pos : Pos) (env : PySem.Env), (backTo pos (starEach es env)).all (fun x => !x.1) = true ∧ (backTo pos (starEach es env)).any (·.1) = false
  | [], _, _, _, _, _ => ⟨rfl, rfl⟩
  | e :: es, L, sc, h, pos, env => by
    cases L with
    | cons a b =>
      simp only [chkL, Bool.and_eq_true] at h
      obtain ⟨h1, h2⟩ := chkL_plain h.2 pos env
      rw [nstar_star h.1.1]
      refine ⟨?_, ?_⟩
      · show (!false && (backTo pos (starEach es env)).all (fun x => !x.1)) = true
        rw [h1]; rfl
      · show (false || (backTo pos (starEach es env)).any (·.1)) = false
        rw [h2]; rfl
    | _ => simp [chkL] at h
theorem chkL_few {tb : Tbl} {names N : List Str} {es : List Expr} {L : E} {sc : Scope} (h : chkL tb names N L sc es = true) (hn : es.length < 20) (pos : Pos) (env : PySem.Env) :
    methodCallForm (es.length + ([] : List Keyword).length) (backTo pos (starEach es env)) (backToKw pos (keywordEach [] env)) = true := by
  unfold methodCallForm
  rw [(chkL_plain h pos env).1]
  simp [keywordEach, backToKw]
  omega
theorem meth_form {o : Expr} {m : Str} {apos pos : Pos} {es : List Expr} {env : PySem.Env} (h : attributeBase o m env (eval o env) = eval o env)
   (few : methodCallForm (es.length + ([]: List Keyword).length) (backTo pos (starEach es env)) (backToKw pos (keywordEach [] env)) = true) (line : (apos.endLine == pos.line) = true) : eval (.Call (.Attribute o m apos) es [] pos) env = (do
      let ov ← eval o env
      standAt apos.atName
      let (f, first) ← holding [ov] (getMethod ov m (do return (← importBound o env).getD true))
      callWith pos f first (backTo pos (starEach es env)) (backToKw pos (keywordEach [] env))) := by
  have e : eval (.Call (.Attribute o m apos) es [] pos) env = (do
    let ov ← attributeBase o m env (eval o env)
    standAt apos.atName
    methodCall o m apos pos env ov (es.length + ([]: List Keyword).length) (backTo pos (starEach es env)) (backToKw pos (keywordEach [] env))) := by
    first | rfl | (rw [eval])
  rw [e, h]
  have e2 : ∀ ov, methodCall o m apos pos env ov (es.length + ([]: List Keyword).length) (backTo pos (starEach es env)) (backToKw pos (keywordEach [] env)) = (do
      let (f, first) ← holding [ov] (getMethod ov m (do return (← importBound o env).getD true))
      callWith pos f first (backTo pos (starEach es env)) (backToKw pos (keywordEach [] env))) := by
    intro ov
    unfold methodCall calleeOf methodCallPos
    rw [few, line]
    rfl
  simp only [e2]
end Ov

/-! The evaluator's expressions: each is what the text computes. -/
namespace Ov
open PySem PySem.Spec L2
section
variable {X : Cx} {T : Tb} {G : Gm} {tb : Tbl} {k : Nat} {σ : L2.St} {H : Hp} {as : List Addr} {st : Store} {ρ : Env}
/-- one part, then a step -/
theorem pc1 {β δ : Type} {rep : List Addr → Hp → β → δ → Prop} {a : E} {f : Val → Store → R β} {Q : δ → Hp → Prop} (r : Rel T as H st) (p : RepE T as H ρ σ) (h : PC T rep as H ((ev G a ρ st).bind f) Q (EK X σ)) :
    tE X T G a σ H fun x H1 => ∃ as1 st1 v, Ext as H as1 H1 ∧ Rel T as1 H1 st1 ∧ RepV T as1 H1 v x ∧ RepE T as1 H1 ρ σ ∧ PC T rep as1 H1 (f v st1) Q (EK X σ) := by
  refine ⟨as, st, ρ, r, p, (PC.bind (rep := RepV T) h).mono (fun x H1 q => ?_) fun _ _ _ z => z⟩
  obtain ⟨as1, st1, v, e1, r1, p1, q⟩ := q
  exact ⟨as1, st1, v, e1, r1, p1, p.ext e1, q⟩
theorem pcA {β δ : Type} {rep : List Addr → Hp → β → δ → Prop} {a : E} {f : List Val → Store → R β} {Q : δ → Hp → Prop} (r : Rel T as H st) (p : RepE T as H ρ σ) (h : PC T rep as H ((evs G a ρ st).bind f) Q (EK X σ)) :
    tA X T G a σ H fun x H1 => ∃ as1 st1 v, Ext as H as1 H1 ∧ Rel T as1 H1 st1 ∧ RepVs T as1 H1 v x ∧ RepE T as1 H1 ρ σ ∧ PC T rep as1 H1 (f v st1) Q (EK X σ) := by
  refine ⟨as, st, ρ, r, p, (PC.bind (rep := RepVs T) h).mono (fun x H1 q => ?_) fun _ _ _ z => z⟩
  obtain ⟨as1, st1, v, e1, r1, p1, q⟩ := q
  exact ⟨as1, st1, v, e1, r1, p1, p.ext e1, q⟩
/-- two parts, then a step -/
theorem pc2 {β δ : Type} {rep : List Addr → Hp → β → δ → Prop} {a b : E} {f : Val → Val → Store → R β} {Q : δ → Hp → Prop} (r : Rel T as H st) (p : RepE T as H ρ σ) (h : PC T rep as H ((ev G a ρ st).bind fun x s => (ev G b ρ s).bind fun y s => f x y s) Q (EK X σ)) :
    tE X T G a σ H fun x H1 => tE X T G b σ H1 fun y H2 => ∃ as2 st2 v w, Ext as H as2 H2 ∧ Rel T as2 H2 st2 ∧ RepV T as2 H2 v x ∧ RepV T as2 H2 w y ∧ RepE T as2 H2 ρ σ ∧ PC T rep as2 H2 (f v w st2) Q (EK X σ) := by
  obtain ⟨as0, st0, ρ0, r0, p0, h0⟩ := pc1 r p h
  refine ⟨as0, st0, ρ0, r0, p0, h0.mono (fun x H1 q => ?_) fun _ _ _ z => z⟩
  obtain ⟨as1, st1, v, e1, r1, p1, p2, q⟩ := q
  obtain ⟨as5, st5, ρ5, r5, p5, h5⟩ := pc1 r1 p2 q
  refine ⟨as5, st5, ρ5, r5, p5, h5.mono (fun y H2 q2 => ?_) fun _ _ _ z => z⟩
  obtain ⟨as3, st3, w, e3, r3, p3, p4, q2⟩ := q2
  exact ⟨as3, st3, v, w, e1.trans e3, r3, RepV.ext e3 _ _ p1, p3, p4, q2⟩
theorem tE.mono {a : E} {Q Q' : VK} (h : tE X T G a σ H Q) (k : ∀ x H', Q x H' → Q' x H') : tE X T G a σ H Q' := by
  obtain ⟨as, st, ρ, r, p, h⟩ := h
  exact ⟨as, st, ρ, r, p, h.mono k fun _ _ _ z => z⟩
theorem tA.mono {a : E} {Q Q' : List V → Hp → Prop} (h : tA X T G a σ H Q) (k : ∀ x H', Q x H' → Q' x H') : tA X T G a σ H Q' := by
  obtain ⟨as, st, ρ, r, p, h⟩ := h
  exact ⟨as, st, ρ, r, p, h.mono k fun _ _ _ z => z⟩

variable {a b c e : Expr} {ea eb ec : E} {pos : Pos} {es : List Expr} {eL : E}
theorem sx_k {v : Val} {co : Const} {j : Nat} (h : constB v co = true) : PE X (.Constant co j pos) (tE X T G (.k v)) := by
  have go : ∀ x : V, PE X (.Constant co j pos) (tC x) → (∀ as H, RepV T as H v x) → PE X (.Constant co j pos) (tE X T G (.k v)) := fun x hx hr => hx.le fun σ H Q h => by
    obtain ⟨as, st, ρ, r, p, h⟩ := h
    exact PC.here h r (hr _ _)
  cases v <;> cases co <;> first
    | (cases h; done)
    | exact go _ pe_non fun _ _ => rfl
    | (obtain rfl := eq_of_beq (show (_ == _) = true from h); exact go _ pe_bl fun _ _ => rfl)
    | (obtain rfl := of_decide_eq_true h; first | exact go _ pe_int fun _ _ => rfl | exact go _ pe_str fun _ _ => rfl)
theorem sx_v {i : Nat} {x : Str} (h1 : okn x = true) (h2 : X.N[i]? = some x) (h3 : visB X.env.scope x = true) : PE X (.Name x pos) (tE X T G (.v i)) :=
  (pe_var h2 (visB_ok h3) (okn1 h1) (okn2 h1)).le fun σ H Q h => by
    obtain ⟨as, st, ρ, r, p, h⟩ := h
    have h' : PC T (RepV T) as H (R.opt (eget ρ i) st) Q (EK X σ) := by rw [ev] at h; exact h
    cases e : eget ρ i with
    | none => rw [e] at h'; exact h'.elim
    | some v =>
      rw [e] at h'
      obtain ⟨y, q1, q2⟩ := p.get e
      exact ⟨y, q1, PC.here h' r q2⟩
theorem sx_g (cn : Cn T G tb k X) {i : Nat} {x : Str} {v : Val} (h1 : okn x = true) (h2 : glbB X.env.scope x = true) (h3 : tb.consts.lookup x = some v) : PE X (.Name x pos) (tE X T G (.g i v)) := by
  obtain ⟨y, u, hs, hm, hr⟩ := cn.wd.consts x v h3
  exact (pe_glob (glbB_ok h2) hm hr (okn1 h1)).le fun σ H Q h => by
    obtain ⟨as, st, ρ, r, p, h⟩ := h
    exact PC.here h r (scalV_rep hs)
theorem sx_bin (cn : Cn T G tb k X) {o : Operator} (ha : PE X a (tE X T G ea)) (hb : PE X b (tE X T G eb)) : PE X (.BinOp a o b pos) (tE X T G (.bin o ea eb)) :=
  (pe_op (opr_bin cn.hK o) ha hb).le fun σ H Q h => by
    obtain ⟨as, st, ρ, r, p, h⟩ := h
    rw [ev] at h
    refine (pc2 r p h).mono fun x H1 q => q.mono fun y H2 q => ?_
    obtain ⟨as2, st2, v, w, _, r2, p1, p2, _, q2⟩ := q
    exact ⟨as2, st2, v, w, r2, p1, p2, q2.pv⟩
theorem sx_cmp (cn : Cn T G tb k X) {o : CmpOp} (ha : PE X a (tE X T G ea)) (hb : PE X b (tE X T G eb)) (hm : behindInMarks o b = false) :
    PE X (.Compare a [o] [b] pos) (tE X T G (.cmp o ea eb)) ∧ PT X (.Compare a [o] [b] pos) (tT X T G (.cmp o ea eb)) := by
  refine ⟨(pe_cmpR (opr_cmp cn.hK cn.hu o) ha hb hm).le fun σ H Q h => ?_, (pt_cmpR (opr_cmp cn.hK cn.hu o) ha hb hm).le fun σ H Q h => ?_⟩
  · obtain ⟨as, st, ρ, r, p, h⟩ := h
    rw [ev] at h
    refine (pc2 r p h).mono fun x H1 q => q.mono fun y H2 q => ?_
    obtain ⟨as2, st2, v, w, _, r2, p1, p2, _, q2⟩ := q
    exact ⟨as2, st2, v, w, r2, p1, p2, q2.pv⟩
  · obtain ⟨as, st, ρ, r, p, h⟩ := h
    have h' : PC T repB as H ((ev G ea ρ st).bind fun x s => (ev G eb ρ s).bind fun y s => (cmpop o x y s).bind fun x s => R.opt (truth s x) s) Q (EK X σ) := by
      unfold evt at h
      rw [ev] at h
      have e : ∀ r : R Val, ((r.bind fun x s => (ev G eb ρ s).bind fun y s => cmpop o x y s).bind fun x s => R.opt (truth s x) s) = r.bind fun x s => (ev G eb ρ s).bind fun y s => (cmpop o x y s).bind fun x s => R.opt (truth s x) s := fun r => by
        cases r with
        | ok v s =>
          show ((ev G eb ρ s).bind _).bind _ = (ev G eb ρ s).bind _
          cases ev G eb ρ s <;> rfl
        | exc _ _ => rfl
        | bad => rfl
      rw [e] at h
      exact h
    refine (pc2 r p h').mono fun x H1 q => q.mono fun y H2 q => ?_
    obtain ⟨as2, st2, v, w, _, r2, p1, p2, _, q2⟩ := q
    refine ⟨as2, st2, v, w, r2, p1, p2, ?_⟩
    cases e : cmpop o v w st2 with
    | ok z s3 =>
      intro as3 H3 u e3 r3 p3
      rw [e] at q2
      have q3 : PC T repB as2 H2 (R.opt (truth s3 z) s3) Q (EK X σ) := q2
      cases et : truth s3 z with
      | none => rw [et] at q3; exact q3.elim
      | some bb =>
        rw [et] at q3
        have nb : ∃ c, z = .bl c := by
          have := e
          unfold cmpop inop ordop isB neD at this
          split at this <;> (repeat' split at this) <;> first | (cases this; exact ⟨_, rfl⟩) | cases this
        obtain ⟨c, rfl⟩ := nb
        cases et
        cases p3
        exact ⟨_, rfl, q3 as3 H3 _ e3 r3 rfl⟩
    | exc _ _ => exact True.intro
    | bad => rw [e] at q2; exact q2.elim

/-! chains -/
theorem bind_bind {α β γ : Type} (r : R α) (f : α → Store → R β) (g : β → Store → R γ) : (r.bind f).bind g = r.bind fun x s => (f x s).bind g := by cases r <;> rfl
theorem cmp_bl {o : CmpOp} {v w z : Val} {s s' : Store} (h : cmpop o v w s = .ok z s') : ∃ b, z = .bl b := by
  unfold cmpop inop ordop isB neD at h
  split at h <;> (repeat' split at h) <;> first | (cases h; exact ⟨_, rfl⟩) | cases h
/-- a comparison's answer -/
theorem PC.cmp {β δ : Type} {rep : List Addr → Hp → β → δ → Prop} {o : CmpOp} {v w : Val} {x y : V} {f : Val → Store → R β} {Q : δ → Hp → Prop} {E : XK} (r : Rel T as H st) (p : RepV T as H v x) (q : RepV T as H w y) (h : PC T rep as H ((cmpop o v w st).bind f) Q E)
    {Q' : VK} (hq : ∀ (b : Bool) as' H' st', Ext as H as' H' → Rel T as' H' st' → PC T rep as' H' (f (.bl b) st') Q E → Q' (.bl b) H') : rCmp T o x y H Q' := by
  refine ⟨as, st, v, w, r, p, q, ?_⟩
  cases e : cmpop o v w st with
  | ok z s3 =>
    rw [e] at h
    obtain ⟨b, rfl⟩ := cmp_bl e
    intro as3 H3 u e3 r3 p3
    cases p3
    exact hq b as3 H3 s3 e3 r3 (PC.ext (r := f (.bl b) s3) h e3)
  | exc _ _ => exact True.intro
  | bad => rw [e] at h; exact h.elim
theorem tbT {β δ : Type} {rep : List Addr → Hp → β → δ → Prop} {b : Bool} {p q : R β} {Q : δ → Hp → Prop} {E : XK} (h : PC T rep as H (R.tb (some b) p q) Q E) : (if b = true then PC T rep as H p Q E else PC T rep as H q Q E) := by
  cases b with
  | true => exact h
  | false => exact h
theorem sx_chn (cn : Cn T G tb k X) {o o' : CmpOp} (ha : PE X a (tE X T G ea)) (hb : PE X b (tE X T G eb)) (hc : PE X c (tE X T G ec)) (hm : lastMarks [o, o'] [b, c] = false) :
    PE X (.Compare a [o, o'] [b, c] pos) (tE X T G (.chn o o' ea eb ec)) ∧ PT X (.Compare a [o, o'] [b, c] pos) (tT X T G (.chn o o' ea eb ec)) := by
  refine ⟨(pe_chain (opr_cmp cn.hK cn.hu o) (opr_cmp cn.hK cn.hu o') ha hb hc hm).le fun σ H Q h => ?_, (pt_chain (opr_cmp cn.hK cn.hu o) (opr_cmp cn.hK cn.hu o') ha hb hc hm).le fun σ H Q h => ?_⟩
  · obtain ⟨as, st, ρ, r, p, h⟩ := h
    rw [ev] at h
    refine (pc2 r p h).mono fun x H1 q => q.mono fun y H2 q => ?_
    obtain ⟨as2, st2, v, w, _, r2, p1, p2, p3, q2⟩ := q
    refine PC.cmp r2 p1 p2 q2 fun bb as3 H3 st3 e3 r3 q3 => ⟨bb, rfl, ?_⟩
    have q4 := tbT q3
    cases bb with
    | true =>
      refine (pc1 r3 (p3.ext e3) q4).mono fun z H4 q5 => ?_
      obtain ⟨as5, st5, u, e5, r5, p5, _, q5⟩ := q5
      exact ⟨as5, st5, w, u, r5, RepV.ext (e3.trans e5) _ _ p2, p5, q5.pv⟩
    | false => exact PC.here (show PC T (RepV T) as3 H3 (.ok (.bl false) st3) Q (EK X σ) from q3) r3 rfl
  · obtain ⟨as, st, ρ, r, p, h⟩ := h
    have h' : PC T repB as H ((ev G ea ρ st).bind fun x s => (ev G eb ρ s).bind fun y s => (cmpop o x y s).bind fun x s => (R.tb (trueB x) ((ev G ec ρ s).bind fun z s => cmpop o' y z s) (.ok (.bl false) s)).bind fun x s => R.opt (truth s x) s) Q (EK X σ) := by
      unfold evt at h
      rw [ev] at h
      simp only [bind_bind] at h
      exact h
    refine (pc2 r p h').mono fun x H1 q => q.mono fun y H2 q => ?_
    obtain ⟨as2, st2, v, w, _, r2, p1, p2, p3, q2⟩ := q
    refine PC.cmp r2 p1 p2 q2 fun bb as3 H3 st3 e3 r3 q3 => ⟨bb, rfl, ?_⟩
    cases bb with
    | true =>
      have q4 : PC T repB as3 H3 ((ev G ec ρ st3).bind fun z s => (cmpop o' w z s).bind fun x s => R.opt (truth s x) s) Q (EK X σ) := by
        rw [← bind_bind]; exact q3
      refine (pc1 r3 (p3.ext e3) q4).mono fun z H4 q5 => ?_
      obtain ⟨as5, st5, u, e5, r5, p5, _, q5⟩ := q5
      refine PC.cmp r5 (RepV.ext (e3.trans e5) _ _ p2) p5 q5 fun b6 as6 H6 st6 e6 r6 q6 => ⟨b6, rfl, PC.here (show PC T repB as6 H6 (.ok b6 st6) Q (EK X σ) from q6) r6 rfl⟩
    | false => exact ⟨false, rfl, PC.here (show PC T repB as3 H3 (.ok false st3) Q (EK X σ) from q3) r3 rfl⟩
/-! not, and, or, if -/
theorem pc_tru {β δ : Type} {rep : List Addr → Hp → β → δ → Prop} (hK : X.K = T.K) {v : Val} {x : V} {f : Bool → R β} {Q : δ → Hp → Prop} {E : XK} (r : Rel T as H st) (p : RepV T as H v x) (h : PC T rep as H (R.ob (truth st v) f) Q E) : ∃ b, TruV X.K x H b ∧ PC T rep as H (f b) Q E := by
  cases e : truth st v with
  | none => rw [e] at h; exact h.elim
  | some b => rw [e] at h; exact ⟨b, truV_ok hK r p e, h⟩
theorem pc_tru2 {β δ : Type} {rep : List Addr → Hp → β → δ → Prop} (hK : X.K = T.K) {v : Val} {x : V} {g h' : R β} {Q : δ → Hp → Prop} {E : XK} (r : Rel T as H st) (p : RepV T as H v x) (h : PC T rep as H (R.tb (truth st v) g h') Q E) :
    ∃ b, TruV X.K x H b ∧ if b = true then PC T rep as H g Q E else PC T rep as H h' Q E := by
  cases e : truth st v with
  | none => rw [e] at h; exact h.elim
  | some b => rw [e] at h; exact ⟨b, truV_ok hK r p e, tbT h⟩
theorem sx_not (cn : Cn T G tb k X) (ha : PE X a (tE X T G ea)) (ta : PT X a (tT X T G ea)) : PE X (.UnaryOp .Not a pos) (tE X T G (.not ea)) ∧ PT X (.UnaryOp .Not a pos) (tT X T G (.not ea)) := by
  refine ⟨(pe_notT ha).le fun σ H Q h => ?_, (pt_not ta).le fun σ H Q h => ?_⟩
  · obtain ⟨as, st, ρ, r, p, h⟩ := h
    rw [ev] at h
    refine (pc1 r p h).mono fun x H1 q => ?_
    obtain ⟨as1, st1, v, e1, r1, p1, _, q⟩ := q
    obtain ⟨b, hb, q2⟩ := pc_tru cn.hK r1 p1 q
    exact ⟨b, hb, PC.here q2 r1 rfl⟩
  · obtain ⟨as, st, ρ, r, p, h⟩ := h
    refine ⟨as, st, ρ, r, p, ?_⟩
    unfold evt at h ⊢
    rw [ev] at h
    cases q : ev G ea ρ st with
    | ok v s =>
      rw [q] at h
      have h' : PC T repB as H ((R.ob (truth s v) fun b => R.ok (Val.bl (!b)) s).bind fun x s => R.opt (truth s x) s) Q (EK X σ) := h
      show PC T repB as H (R.opt (truth s v) s) _ _
      cases et : truth s v with
      | none => rw [et] at h'; exact h'
      | some b =>
        rw [et] at h'
        intro as' H' c e k' rb
        cases rb
        exact h' as' H' _ e k' rfl
    | exc _ _ => rw [q] at h; exact h
    | bad => rw [q] at h; exact h
theorem sx_and (cn : Cn T G tb k X) {rest : List Expr} (ha : PE X a (tE X T G ea)) (hb : PE X (.BoolOp .And (b :: rest) pos) (tE X T G eb)) : PE X (.BoolOp .And (a :: b :: rest) pos) (tE X T G (.and ea eb)) :=
  (pe_andT ha hb).le fun σ H Q h => by
    obtain ⟨as, st, ρ, r, p, h⟩ := h
    rw [ev] at h
    refine (pc1 r p h).mono fun x H1 q => ?_
    obtain ⟨as1, st1, v, e1, r1, p1, p2, q⟩ := q
    obtain ⟨bb, hb, q2⟩ := pc_tru2 cn.hK r1 p1 q
    refine ⟨bb, hb, ?_⟩
    cases bb with
    | true => exact ⟨as1, st1, ρ, r1, p2, q2⟩
    | false => exact PC.here (show PC T (RepV T) as1 H1 (.ok v st1) Q (EK X σ) from q2) r1 p1
theorem sx_or (cn : Cn T G tb k X) {rest : List Expr} (ha : PE X a (tE X T G ea)) (hb : PE X (.BoolOp .Or (b :: rest) pos) (tE X T G eb)) : PE X (.BoolOp .Or (a :: b :: rest) pos) (tE X T G (.or ea eb)) :=
  (pe_orT ha hb).le fun σ H Q h => by
    obtain ⟨as, st, ρ, r, p, h⟩ := h
    rw [ev] at h
    refine (pc1 r p h).mono fun x H1 q => ?_
    obtain ⟨as1, st1, v, e1, r1, p1, p2, q⟩ := q
    obtain ⟨bb, hb, q2⟩ := pc_tru2 cn.hK r1 p1 q
    refine ⟨bb, hb, ?_⟩
    cases bb with
    | true => exact PC.here (show PC T (RepV T) as1 H1 (.ok v st1) Q (EK X σ) from q2) r1 p1
    | false => exact ⟨as1, st1, ρ, r1, p2, q2⟩
/-- a test of and, of or, by the tests of its parts -/
theorem evt_and (ρ : Env) (st : Store) : evt G (.and ea eb) ρ st = (evt G ea ρ st).bind fun b s => R.tb (some b) (evt G eb ρ s) (.ok false s) := by
  unfold evt
  rw [ev]
  cases ev G ea ρ st with
  | ok v s =>
    show (R.tb (truth s v) (ev G eb ρ s) (R.ok v s)).bind _ = (R.opt (truth s v) s).bind _
    cases e : truth s v with
    | none => rfl
    | some b =>
      cases b with
      | true => rfl
      | false => show R.opt (truth s v) s = _; rw [e]; rfl
  | exc _ _ => rfl
  | bad => rfl
theorem evt_or (ρ : Env) (st : Store) : evt G (.or ea eb) ρ st = (evt G ea ρ st).bind fun b s => R.tb (some b) (.ok true s) (evt G eb ρ s) := by
  unfold evt
  rw [ev]
  cases ev G ea ρ st with
  | ok v s =>
    show (R.tb (truth s v) (R.ok v s) (ev G eb ρ s)).bind _ = (R.opt (truth s v) s).bind _
    cases e : truth s v with
    | none => rfl
    | some b =>
      cases b with
      | false => rfl
      | true => show R.opt (truth s v) s = _; rw [e]; rfl
  | exc _ _ => rfl
  | bad => rfl
theorem sw_and {rest : List Expr} (ha : PT X a (tT X T G ea)) (hb : PW X (.BoolOp .And (b :: rest) pos) (tT X T G eb)) : PW X (.BoolOp .And (a :: b :: rest) pos) (tT X T G (.and ea eb)) :=
  (pw_and ha hb).le fun σ H Q h => by
    obtain ⟨as, st, ρ, r, p, h⟩ := h
    rw [evt_and] at h
    refine ⟨as, st, ρ, r, p, (PC.bind (rep := repB) h).mono (fun bb H1 q => ?_) fun _ _ _ z => z⟩
    obtain ⟨as1, st1, v, e1, r1, p1, q⟩ := q
    cases p1
    have q2 := tbT q
    cases bb with
    | true => exact ⟨as1, st1, ρ, r1, p.ext e1, q2⟩
    | false => exact PC.here (show PC T repB as1 H1 (.ok false st1) Q (EK X σ) from q2) r1 rfl
theorem sw_or {rest : List Expr} (ha : PT X a (tT X T G ea)) (hb : PW X (.BoolOp .Or (b :: rest) pos) (tT X T G eb)) : PW X (.BoolOp .Or (a :: b :: rest) pos) (tT X T G (.or ea eb)) :=
  (pw_or ha hb).le fun σ H Q h => by
    obtain ⟨as, st, ρ, r, p, h⟩ := h
    rw [evt_or] at h
    refine ⟨as, st, ρ, r, p, (PC.bind (rep := repB) h).mono (fun bb H1 q => ?_) fun _ _ _ z => z⟩
    obtain ⟨as1, st1, v, e1, r1, p1, q⟩ := q
    cases p1
    have q2 := tbT q
    cases bb with
    | true => exact PC.here (show PC T repB as1 H1 (.ok true st1) Q (EK X σ) from q2) r1 rfl
    | false => exact ⟨as1, st1, ρ, r1, p.ext e1, q2⟩
/-- a plain value as a test -/
theorem st_plain (cn : Cn T G tb k X) (ha : PE X a (tE X T G ea)) (he : ∀ whole, isTrue a X.env whole = (do let v ← whole; standAt a.pos; holding [v] (truthy v))) : PT X a (tT X T G ea) :=
  (pt_truth ha he).le fun σ H Q h => by
    obtain ⟨as, st, ρ, r, p, h⟩ := h
    refine (pc1 r p h).mono fun x H1 q => ?_
    obtain ⟨as1, st1, v, e1, r1, p1, _, q⟩ := q
    cases e : truth st1 v with
    | none => rw [e] at q; exact q.elim
    | some bb => rw [e] at q; exact ⟨bb, truV_ok cn.hK r1 p1 e, PC.here q r1 rfl⟩
theorem evt_ife (ρ : Env) (st : Store) : ev G (.ife ea eb ec) ρ st = (evt G ea ρ st).bind fun b s => R.tb (some b) (ev G eb ρ s) (ev G ec ρ s) := by
  unfold evt
  rw [ev]
  cases ev G ea ρ st with
  | ok v s =>
    show R.tb (truth s v) _ _ = (R.opt (truth s v) s).bind _
    cases truth s v with
    | none => rfl
    | some b => rfl
  | exc _ _ => rfl
  | bad => rfl
theorem sx_ife {d : Expr} {ed : E} (ta : PT X a (tT X T G ea)) (hb : PE X b (tE X T G eb)) (hd : PE X d (tE X T G ed)) : PE X (.IfExp a b d pos) (tE X T G (.ife ea eb ed)) :=
  (pe_ifExp ta hb hd).le fun σ H Q h => by
    obtain ⟨as, st, ρ, r, p, h⟩ := h
    rw [evt_ife] at h
    refine ⟨as, st, ρ, r, p, (PC.bind (rep := repB) h).mono (fun bb H1 q => ?_) fun _ _ _ z => z⟩
    obtain ⟨as1, st1, v, e1, r1, p1, q⟩ := q
    cases p1
    have q2 := tbT q
    cases bb with
    | true => exact ⟨as1, st1, ρ, r1, p.ext e1, q2⟩
    | false => exact ⟨as1, st1, ρ, r1, p.ext e1, q2⟩
theorem st_ife {d : Expr} {ed : E} (ta : PT X a (tT X T G ea)) (hb : PT X b (tT X T G eb)) (hd : PT X d (tT X T G ed)) : PT X (.IfExp a b d pos) (tT X T G (.ife ea eb ed)) := by
  refine ⟨fun pins s σ H Q I h => ?_⟩
  obtain ⟨as, st, ρ, r, p, h⟩ := h
  have h2 : PC T repB as H ((evt G ea ρ st).bind fun b s => R.tb (some b) (evt G eb ρ s) (evt G ed ρ s)) Q (EK X σ) := by
    unfold evt at h
    rw [evt_ife, bind_bind] at h
    have e : (fun (x : Bool) s => (R.tb (some x) (ev G eb ρ s) (ev G ed ρ s)).bind fun x s => R.opt (truth s x) s) = fun b s => R.tb (some b) (evt G eb ρ s) (evt G ed ρ s) := by
      funext x s
      cases x <;> rfl
    rw [e] at h
    exact h
  have run : wpAny (model X.prog X.w) X.A (do if ← isTrue a X.env (eval a X.env) then isTrue b X.env (eval b X.env) else isTrue d X.env (eval d X.env)) (TP X pins σ Q) X.xe s := by
    refine wpAny_bind (thn (ta.run pins s σ H _ I ⟨as, st, ρ, r, p, (PC.bind (rep := repB) h2).mono (fun bb H1 q => q) fun _ _ _ z => z⟩) fun bb s1 q => ?_)
    obtain ⟨H1, I1, as1, st1, v, e1, r1, p1, q⟩ := q
    cases p1
    have q2 := tbT q
    cases bb with
    | true => exact hb.run pins s1 σ H1 Q I1 ⟨as1, st1, ρ, r1, p.ext e1, q2⟩
    | false => exact hd.run pins s1 σ H1 Q I1 ⟨as1, st1, ρ, r1, p.ext e1, q2⟩
  exact run
/-! rows of parts -/
theorem sa_nil : PA X [] (tA X T G .nil) := pa_nil.le fun σ H Q h => by
  obtain ⟨as, st, ρ, r, p, h⟩ := h
  exact PC.here h r rfl
theorem sa_cons (ha : PE X a (tE X T G ea)) (hr : PA X es (tA X T G eL)) (hs : starEach (a :: es) X.env = (false, eval a X.env) :: starEach es X.env) : PA X (a :: es) (tA X T G (.cons ea eL)) :=
  (pa_cons ha hr hs).le fun σ H Q h => by
    obtain ⟨as, st, ρ, r, p, h⟩ := h
    rw [evs] at h
    refine (pc1 r p h).mono fun x H1 q => ?_
    obtain ⟨as1, st1, v, e1, r1, p1, p2, q⟩ := q
    refine (pcA r1 p2 q).mono fun xs H2 q2 => ?_
    obtain ⟨as2, st2, vs, e2, r2, p3, _, q2⟩ := q2
    exact PC.here q2 r2 ⟨x, xs, rfl, RepV.ext e2 _ _ p1, p3⟩
theorem sx_tup {j : Nat} (h : PA X es (tA X T G eL)) : PE X (.Tuple es j pos) (tE X T G (.tup eL)) := (pe_tup h).le fun σ H Q h => by
  obtain ⟨as, st, ρ, r, p, h⟩ := h
  rw [ev] at h
  refine (pcA r p h).mono fun xs H1 q => ?_
  obtain ⟨as1, st1, vs, e1, r1, p1, p2, q⟩ := q
  by_cases c : vs.length ≤ lim
  · rw [if_pos c] at q
    exact ⟨by rw [← p1.length, ← lim_eq]; exact c, fun pp hp => q.pv.newT r1 p1 pp hp⟩
  · rw [if_neg c] at q; exact q.elim
theorem sx_lst (h : PA X es (tA X T G eL)) : PE X (.List es pos) (tE X T G (.lst eL)) := (pe_lst h).le fun σ H Q h => by
  obtain ⟨as, st, ρ, r, p, h⟩ := h
  rw [ev] at h
  refine (pcA r p h).mono fun xs H1 q => ?_
  obtain ⟨as1, st1, vs, e1, r1, p1, p2, q⟩ := q
  unfold newL at q
  by_cases c : vs.length ≤ lim
  · rw [if_pos c] at q
    exact ⟨by rw [← p1.length, ← lim_eq]; exact c, fun pp hp => q.pv.newL r1 p1 pp hp⟩
  · rw [if_neg c] at q; exact q.elim
theorem sx_neg (ha : PE X a (tE X T G ea)) : PE X (.UnaryOp .USub a pos) (tE X T G (.neg ea)) := (pe_un un_neg ha).le fun σ H Q h => by
  obtain ⟨as, st, ρ, r, p, h⟩ := h
  rw [ev] at h
  refine (pc1 r p h).mono fun x H1 q => ?_
  obtain ⟨as1, st1, v, e1, r1, p1, p2, q⟩ := q
  cases v with
  | int i => cases p1; exact ⟨i, rfl, PC.here q r1 rfl⟩
  | _ => exact q.elim
theorem sx_ix (cn : Cn T G tb k X) (ha : PE X a (tE X T G ea)) (hb : PE X b (tE X T G eb)) (hs : PlainIx b) : PE X (.Subscript a b pos) (tE X T G (.ix ea eb)) :=
  (pe_ix (ixr cn.hK cn.hu) ha hb hs).le fun σ H Q h => by
    obtain ⟨as, st, ρ, r, p, h⟩ := h
    rw [ev] at h
    refine (pc2 r p h).mono fun x H1 q => q.mono fun y H2 q => ?_
    obtain ⟨as2, st2, v, w, _, r2, p1, p2, _, q2⟩ := q
    exact ⟨as2, st2, v, w, r2, p1, p2, q2.pv⟩
end
end Ov

/-! Calls, attributes, slices, methods. -/
namespace Ov
open PySem PySem.Spec L2
section
variable {X : Cx} {T : Tb} {G : Gm} {tb : Tbl} {k : Nat} {σ : L2.St} {H : Hp} {as : List Addr} {st : Store} {ρ : Env} {a b c e : Expr} {ea eb ec : E} {pos p p2 : Pos} {es : List Expr} {eL : E}
theorem boot_bi (b : Bi) : bootBuiltins b.nm = some b.val := by cases b <;> decide +kernel
theorem boot_ty (t : Ty) : bootBuiltins (Str.ofString t.nm) = some (.type t.nm) := by cases t <;> decide +kernel
/-- names in, against a table of the module -/
theorem sx_gin (cn : Cn T G tb k X) {neg : Bool} {i : Nat} {x : Str} {vs : List Val} (h1 : okn x = true) (h2 : glbB X.env.scope x = true) (h3 : tb.tups.lookup x = some vs) (ha : PE X a (tE X T G ea)) :
    PE X (.Compare a [if neg then .NotIn else .In] [.Name x p] pos) (tE X T G (.gin neg ea i vs)) ∧ PT X (.Compare a [if neg then .NotIn else .In] [.Name x p] pos) (tT X T G (.gin neg ea i vs)) := by
  obtain ⟨ys, ad, hs, hm, hq⟩ := cn.wd.tups x vs h3
  have hb : PE X (.Name x p) (tC (.ref ad)) := pe_glob (glbB_ok h2) hm rfl (okn1 h1)
  have hmk : behindInMarks (if neg then CmpOp.NotIn else CmpOp.In) (.Name x p) = false := rfl
  have op : OpR X (compareOp (if neg then .NotIn else .In)) (fun vx vy H Q => vy = .ref ad ∧ ∃ as st v, Rel T as H st ∧ RepV T as H v vx ∧ PV T as H (inop neg v (.tup vs) st) Q) := by
    intro pins s σ H x y vx vy Q I rx ry h
    obtain ⟨rfl, as, st, v, r, q, h⟩ := h
    cases ry
    have h' : PV T as H (match inL st v vs with
      | some r => R.ok (.bl (neg != r)) st
      | none => .bad) Q := h
    have hd : X.A.units + 1 + deepest < cLine := by have := cn.hu; show X.A.units + 1 + 40 < cLine; omega
    cases c : inL st v vs with
    | none => rw [c] at h'; exact h'.elim
    | some b =>
      rw [c] at h'
      have hq' : SqT X.K H ad ys := by
        rw [cn.hK]
        rcases hq with (z | ⟨o, z⟩) | z
        · cases z
        · cases z
        · exact .inr z
      obtain ⟨its, p2, p3, _⟩ := I.tuple hq'
      obtain ⟨g, e1, e2⟩ := in_fun I cn.hK r hd q rx c (scalVs_rep hs) p2
      cases neg with
      | false => exact SeqAt.in_tupleAt g p3 e1 ⟨.bl b, H, I, by rw [e2]; rfl, by have := h'.here r rfl; simpa using this⟩
      | true => exact SeqAt.notIn_tupleAt g p3 e1 ⟨.bl (!b), H, I, by rw [e2]; rfl, by have := h'.here r rfl; simpa using this⟩
  refine ⟨(pe_cmpR op ha hb hmk).le fun σ H Q h => ?_, (pt_cmpR op ha hb hmk).le fun σ H Q h => ?_⟩
  · obtain ⟨as, st, ρ, r, q, h⟩ := h
    rw [ev] at h
    refine (pc1 r q h).mono fun x H1 q => ?_
    obtain ⟨as1, st1, v, e1, r1, p1, _, q⟩ := q
    exact ⟨rfl, as1, st1, v, r1, p1, q.pv⟩
  · obtain ⟨as, st, ρ, r, q, h⟩ := h
    unfold evt at h
    rw [ev, bind_bind] at h
    refine (pc1 r q h).mono fun x H1 q => ?_
    obtain ⟨as1, st1, v, e1, r1, p1, _, q⟩ := q
    refine ⟨rfl, as1, st1, v, r1, p1, ?_⟩
    have q' : PC T repB as1 H1 ((cmpop (if neg then .NotIn else .In) v (.tup vs) st1).bind fun x s => R.opt (truth s x) s) Q (EK X σ) := by
      cases neg <;> exact q
    have e : inop neg v (.tup vs) st1 = cmpop (if neg then .NotIn else .In) v (.tup vs) st1 := by cases neg <;> rfl
    rw [e]
    cases e2 : cmpop (if neg then .NotIn else .In) v (.tup vs) st1 with
    | ok z s3 =>
      rw [e2] at q'
      obtain ⟨bb, rfl⟩ := cmp_bl e2
      intro as3 H3 u e3 r3 p3
      cases p3
      exact ⟨bb, rfl, (show PC T repB as1 H1 (.ok bb s3) Q (EK X σ) from q') as3 H3 bb e3 r3 rfl⟩
    | exc _ _ => exact True.intro
    | bad => rw [e2] at q'; exact q'.elim
theorem sx_gix (cn : Cn T G tb k X) {i : Nat} {x : Str} {vs : List Val} (h1 : okn x = true) (h2 : glbB X.env.scope x = true) (h3 : tb.tups.lookup x = some vs) (ha : PE X a (tE X T G ea)) (hs' : PlainIx a) :
    PE X (.Subscript (.Name x p) a pos) (tE X T G (.gix i vs ea)) := by
  obtain ⟨ys, ad, hs, hm, hq⟩ := cn.wd.tups x vs h3
  have hb : PE X (.Name x p) (tC (.ref ad)) := pe_glob (glbB_ok h2) hm rfl (okn1 h1)
  refine (pe_ix (ix_tup (X := X)) hb ha hs').le fun σ H Q h => ?_
  obtain ⟨as, st, ρ, r, q, h⟩ := h
  rw [ev] at h
  refine (pc1 r q h).mono fun y H1 q => ?_
  obtain ⟨as1, st1, w, e1, r1, p1, _, q⟩ := q
  cases w with
  | int j =>
    cases p1
    have q' : PC T (RepV T) as1 H1 (R.opt (atI vs j) st1) Q (EK X σ) := q
    cases e : atI vs j with
    | none => rw [e] at q'; exact q'.elim
    | some z =>
      rw [e] at q'
      obtain ⟨u, hu2, pu⟩ := atI_rep (scalVs_rep (T := T) (as := as1) (H := H1) hs) e
      have hq' : SqT X.K H1 ad ys := by
        rw [cn.hK]
        rcases hq with (z | ⟨o, z⟩) | z
        · cases z
        · cases z
        · exact .inr z
      exact ⟨ad, ys, j, u, rfl, rfl, hq', hu2, PC.here q' r1 pu⟩
  | _ => exact q.elim
/-- a part of a slice -/
abbrev repO : List Addr → Hp → Option Int → Option Int → Prop := fun _ _ a b => a = b
def tP (X : Cx) (T : Tb) (G : Gm) (el : E) : TO := fun σ H Q => ∃ as st ρ, Rel T as H st ∧ RepE T as H ρ σ ∧ PC T repO as H ((if el.isNil = true then R.ok Val.non st else ev G el ρ st).bind endR) Q (EK X σ)
theorem so_none (hn : ea.isNil = true) : PO X none (tP X T G ea) := ⟨fun pins s σ H Q I h => po_none.run pins s σ H Q I (by
  obtain ⟨as, st, ρ, r, p, h⟩ := h
  rw [if_pos hn] at h
  exact PC.here (show PC T repO as H (.ok none st) Q (EK X σ) from h) r rfl)⟩
/-- a part that is None or a number -/
theorem so_some {el : E} (hn : el.isNil = false) (ha : PE X a (tE X T G el)) : PO X (some a) (tP X T G el) := by
  refine ⟨fun pins s σ H Q I hw => ?_⟩
  show wpAny _ _ (eval a X.env) _ _ s
  obtain ⟨as, st, ρ, r, p, h⟩ := hw
  rw [if_neg (by rw [hn]; exact Bool.false_ne_true)] at h
  refine thn (ha.run pins s σ H _ I (pc1 r p h)) fun u s1 ⟨x, H1, I1, r1, as1, st1, v, e1, k1, p1, _, q⟩ => ?_
  cases v with
  | non => cases p1; cases r1; exact ⟨none, H1, I1, .none, PC.here (show PC T repO as1 H1 (.ok none st1) Q (EK X σ) from q) k1 rfl⟩
  | int i => cases p1; obtain ⟨t, rfl⟩ := r1; exact ⟨some i, H1, I1, .int i t, PC.here (show PC T repO as1 H1 (.ok (some i) st1) Q (EK X σ) from q) k1 rfl⟩
  | bl _ => exact q.elim
  | str _ => exact q.elim
  | loc _ => exact q.elim
  | tup _ => exact q.elim
  | ktp _ => exact q.elim
theorem tP.mono {el : E} {Q Q' : Option Int → Hp → Prop} (h : tP X T G el σ H Q) (k : ∀ x H', Q x H' → Q' x H') : tP X T G el σ H Q' := by
  obtain ⟨as, st, ρ, r, p, h⟩ := h
  exact ⟨as, st, ρ, r, p, h.mono k fun _ _ _ z => z⟩
theorem pcP {el : E} {f : Option Int → Store → R Val} {Q : VK} (r : Rel T as H st) (p : RepE T as H ρ σ) (h : PC T (RepV T) as H (((if el.isNil = true then R.ok Val.non st else ev G el ρ st).bind endR).bind f) Q (EK X σ)) :
    tP X T G el σ H fun o H1 => ∃ as1 st1, Ext as H as1 H1 ∧ Rel T as1 H1 st1 ∧ RepE T as1 H1 ρ σ ∧ PC T (RepV T) as1 H1 (f o st1) Q (EK X σ) := by
  refine ⟨as, st, ρ, r, p, (PC.bind (rep := repO) h).mono (fun x H1 q => ?_) fun _ _ _ z => z⟩
  obtain ⟨as1, st1, v, e1, r1, p1, q⟩ := q
  cases p1
  exact ⟨as1, st1, e1, r1, p.ext e1, q⟩
theorem sx_sl (cn : Cn T G tb k X) {lo hi : Option Expr} {el eh et : E} (hn : et.isNil = true) (ha : PE X a (tE X T G ea)) (hl : PO X lo (tP X T G el)) (hh : PO X hi (tP X T G eh)) : PE X (.Subscript a (.Slice lo hi none p2) pos) (tE X T G (.sl ea el eh et)) :=
  (pe_slice (slr cn.hK) ha hl hh).le fun σ H Q h => by
    obtain ⟨as, st, ρ, r, p, h⟩ := h
    rw [ev] at h
    simp only [hn, if_true] at h
    refine (pc1 r p h).mono fun x H1 q => ?_
    obtain ⟨as1, st1, v, e1, r1, p1, q1, q⟩ := q
    refine (pcP r1 q1 q).mono fun o H2 q => ?_
    obtain ⟨as2, st2, e2, r2, q2, q⟩ := q
    refine (pcP r2 q2 q).mono fun o' H3 q => ?_
    obtain ⟨as3, st3, e3, r3, q3, q⟩ := q
    exact ⟨as3, st3, v, r3, RepV.ext (e2.trans e3) _ _ p1, q.pv⟩
theorem pick_rep {vs : List Val} {xs : List V} (p : RepVs T as H vs xs) (lo hi : Option Int) (c : Int) : RepVs T as H (pick vs lo hi c) (pick xs lo hi c) := by
  unfold pick
  rw [← p.length]
  generalize sliceRange (sliceBounds lo hi (some c) vs.length).1 (sliceBounds lo hi (some c) vs.length).2.1 (sliceBounds lo hi (some c) vs.length).2.2 = is
  induction is with
  | nil => exact rfl
  | cons i is ih =>
    cases e : vs[i]? with
    | none =>
      have e2 : xs[i]? = none := by
        rw [List.getElem?_eq_none_iff] at e ⊢
        rw [← p.length]; exact e
      rw [List.filterMap_cons_none e, List.filterMap_cons_none e2]
      exact ih
    | some v =>
      obtain ⟨x, hx, px⟩ := p.get e
      rw [List.filterMap_cons_some e, List.filterMap_cons_some hx]
      exact ⟨x, _, rfl, px, ih⟩
theorem pick_vals {xs : List V} {us : List Value} (p : Vals xs us) (lo hi : Option Int) (c : Int) : Vals (pick xs lo hi c) (slicePick us.toArray lo hi (some c)).toList := by
  unfold pick slicePick
  rw [p.length]
  simp only [List.size_toArray, List.getElem?_toArray]
  generalize sliceRange (sliceBounds lo hi (some c) us.length).1 (sliceBounds lo hi (some c) us.length).2.1 (sliceBounds lo hi (some c) us.length).2.2 = is
  induction is with
  | nil => exact .nil
  | cons i is ih =>
    cases e : xs[i]? with
    | none =>
      have e2 := p.none_of e
      rw [List.filterMap_cons_none e, List.filterMap_cons_none e2]
      exact ih
    | some x =>
      obtain ⟨u, hu, pu⟩ := p.get e
      rw [List.filterMap_cons_some e, List.filterMap_cons_some hu]
      exact .cons pu ih
/-! t[::-1] -/
section
variable {prog : Program} {w : World} {A : Around} {E' : Value → Shared → Prop} {s : Shared}
theorem sliceApplied_rev {sl : Addr} {vl vu vk : Value} {n : Nat} {Q : Int × Int × Nat → Shared → Prop} (hs : s.heap.IsSliceOf sl vl vu vk) (pl : IsPart vl none) (pu : IsPart vu none) (pk : IsPart vk (some (-1)))
    (h : Q ((n : Int) - 1, -1, n) s) : wpAny (model prog w) A (Builtin.Slice.sliceApplied (.ref sl) (pure (n : Int))) Q E' s := by
  obtain ⟨os, hos, hcs, hds⟩ := id hs
  unfold Builtin.Slice.sliceApplied Builtin.Slice.sliceFields
  refine wpAny_bind (wpAny_bind (wpAny_field hos hds (x := vl) rfl (wpAny_bind (wpAny_field hos hds (x := vu) rfl (wpAny_bind (wpAny_field hos hds (x := vk) rfl (wpAny_pure ?_)))))))
  refine wpAny_bind (HT.slicePart_ pk ?_)
  show wpAny _ _ (if ((-1 : Int) == 0) = true then _ else _) _ _ s
  rw [if_neg (by decide)]
  refine wpAny_bind (HT.slicePart_ pl (wpAny_bind (HT.slicePart_ pu (wpAny_bind (wpAny_pure ?_)))))
  show wpAny _ _ (match Builtin.Slice.sliceAdjust none none (-1) (n : Int) with | (lo, hi) => pure (lo, (-1 : Int), Builtin.Slice.slicePlaces lo hi (-1))) _ _ s
  have e : Builtin.Slice.sliceAdjust none none (-1) (n : Int) = ((n : Int) - 1, -1) := by
    unfold Builtin.Slice.sliceAdjust
    simp
  rw [e]
  have e2 : Builtin.Slice.slicePlaces ((n : Int) - 1) (-1) (-1) = n := by
    unfold Builtin.Slice.slicePlaces
    rw [if_neg (by decide)]
    by_cases hn : (n : Int) - 1 > -1
    · rw [if_pos hn]
      show (((n : Int) - 1 - -1 - 1) / 1 + 1).toNat = n
      rw [Int.ediv_one]; omega
    · rw [if_neg hn]; omega
  show wpAny _ _ (pure ((n : Int) - 1, (-1 : Int), Builtin.Slice.slicePlaces ((n : Int) - 1) (-1) (-1))) _ _ s
  rw [e2]
  exact wpAny_pure h
theorem rev_places (xs : Array Value) : ((List.range xs.size).filterMap fun (m : Nat) => xs[(((xs.size : Int) - 1) + (m : Int) * (-1)).toNat]?).toArray = xs.toList.reverse.toArray := by
  congr 1
  obtain ⟨l⟩ := xs
  simp only [List.size_toArray, List.getElem?_toArray]
  have h : ∀ m ∈ List.range l.length, l[((l.length : Int) - 1 + (m : Int) * -1).toNat]? = some (l.reverse.getD m .none) := fun m hm => by
    have hm' : m < l.length := List.mem_range.mp hm
    have e : ((l.length : Int) - 1 + (m : Int) * -1).toNat = l.length - 1 - m := by omega
    rw [e, List.getD_eq_getElem?_getD, List.getElem?_reverse hm', List.getElem?_eq_getElem (by omega)]
    rfl
  have e : (List.range l.length).filterMap (fun (m : Nat) => l[((l.length : Int) - 1 + (m : Int) * -1).toNat]?) = (List.range l.length).map fun m => l.reverse.getD m .none := by
    have go : ∀ ms : List Nat, (∀ m ∈ ms, m ∈ List.range l.length) → ms.filterMap (fun (m : Nat) => l[((l.length : Int) - 1 + (m : Int) * -1).toNat]?) = ms.map fun m => l.reverse.getD m .none := fun ms => by
      induction ms with
      | nil => exact fun _ => rfl
      | cons m ms ih =>
        intro hm
        rw [List.filterMap_cons_some (f := fun (m : Nat) => l[((l.length : Int) - 1 + (m : Int) * -1).toNat]?) (h m (hm m List.mem_cons_self)), List.map_cons, ih fun x hx => hm x (List.mem_cons_of_mem _ hx)]
    exact go _ fun m hm => hm
  rw [e]
  refine List.ext_getElem? fun i => ?_
  rw [List.getElem?_map]
  by_cases hi : i < l.length
  · have hl : i < l.reverse.length := by rw [List.length_reverse]; exact hi
    rw [List.getElem?_range hi, List.getElem?_eq_getElem hl]
    show some (l.reverse.getD i .none) = some (l.reverse[i])
    rw [List.getD_eq_getElem?_getD, List.getElem?_eq_getElem hl]
    rfl
  · rw [List.getElem?_eq_none (by rw [List.length_range]; omega), List.getElem?_eq_none (by rw [List.length_reverse]; omega)]
    rfl
open PyProof.Rows HT in
theorem getItem_tuple_rev {t sl : Addr} {items : Array Value} {vl vu vk : Value} {Q : Value → Shared → Prop} (ht : PyProof.Rows.IsTup s.heap t items) (hs : s.heap.IsSliceOf sl vl vu vk) (pl : IsPart vl none) (pu : IsPart vu none) (pk : IsPart vk (some (-1)))
    (h : Q (.ref s.heap.objs.size) { s with heap := s.heap.push { cls := .type "tuple", data := .seq items.toList.reverse.toArray } })
    (hsz : items.size ≤ sizeLine) : wpAny (model prog w) A (getItem (.ref t) (.ref sl)) Q E' s := by
  have htake : sizeOk (.seq items.toList.reverse.toArray) := by
    show items.toList.reverse.toArray.size ≤ sizeLine
    rw [List.size_toArray, List.length_reverse, Array.length_toList]
    exact hsz
  obtain ⟨os, hos, hcs, hds⟩ := id hs
  have hTs : s.TypeIs (.ref sl) "slice" := ⟨os, hos, hcs⟩
  unfold getItem
  try with_reducible refine wpAny_holding ?_
  first | refine wpAny_bind (wpAny_pure ?_) | skip
  refine wpAny_bind (wpAny_sequenceKey ht.typeIs (by decide) ?_)
  refine wpAny_bind (wpAny_callSpecial?_slot (name := Str.ofString "__getitem__") ht.typeIs PyProof.Rows.slot_tuple_getitem
    (wpAny_call_entry PyProof.Rows.slot_tuple_getitem ht.typeIs entry_tuple_getitem ?_ (args_tuple_getitem _ _)))
  show wpAny _ _ (Builtin.Tuple.tupleItemsOf (.ref t) >>= _) _ _ s
  refine wpAny_bind (tupleItemsOf_ ht ?_)
  refine wpAny_bind (wpAny_typeOf hTs ?_)
  rw [if_pos (by decide)]
  refine wpAny_bind (sliceApplied_rev hs pl pu pk ?_)
  have hno : ¬ ((((items.size : Int) - 1) == 0 && (-1 : Int) == 1 && items.size == items.size) = true) := by
    intro q
    rw [Bool.and_eq_true, Bool.and_eq_true] at q
    exact absurd q.1.2 (by decide)
  show wpAny _ _ (if (((items.size : Int) - 1) == 0 && (-1 : Int) == 1 && items.size == items.size) = true then _ else _) _ _ s
  rw [if_neg hno, rev_places]
  first
    | exact wpAny_bind (m := Builtin.Tuple.tupleExact _) (wpAny_newObj_type (wpAny_pure ⟨_, rfl, wpAny_pure h⟩) htake)
    | exact wpAny_bind (m := Builtin.Tuple.tupleExact _) (wpAny_newObj_type (wpAny_bind (wpAny_pure (wpAny_pure ⟨_, rfl, wpAny_pure h⟩))) htake)
    | exact wpAny_bind (wpAny_bind (m := Builtin.Tuple.tupleExact _) (wpAny_newObj_type (wpAny_pure (wpAny_pure ⟨_, rfl, wpAny_pure h⟩)) htake))
    | exact wpAny_bind (wpAny_bind (m := Builtin.Tuple.tupleExact _) (wpAny_newObj_type (wpAny_pure ⟨_, rfl, wpAny_pure h⟩) htake))
end
theorem RepVs.revs {as : List Addr} {H : Hp} : ∀ {vs : List Val} {xs : List V}, RepVs T as H vs xs → RepVs T as H vs.reverse xs.reverse
  | [], _, h => by cases h; exact rfl
  | v :: vs, _, h => by
    obtain ⟨x, r, rfl, h1, h2⟩ := h
    rw [List.reverse_cons, List.reverse_cons]
    exact RepVs.append (RepVs.revs h2) ⟨x, [], rfl, h1, rfl⟩
theorem vals_app : ∀ {xs ys : List V} {us vs : List Value}, Vals xs us → Vals ys vs → Vals (xs ++ ys) (us ++ vs)
  | _, _, _, _, .nil, h => h
  | _, _, _, _, .cons r t, h => .cons r (vals_app t h)
theorem vals_rev : ∀ {xs : List V} {us : List Value}, Vals xs us → Vals xs.reverse us.reverse
  | _, _, .nil => .nil
  | _, _, .cons r t => by
    rw [List.reverse_cons, List.reverse_cons]
    exact vals_app (vals_rev t) (.cons r .nil)
/-- xs[lo:hi:c] of a list -/
theorem pe_slice3 {e k : Expr} {lo hi : Option Expr} {te : TE} {tl th tk : TO} (he : PE X e te) (hl : PO X lo tl) (hu : PO X hi th) (hk : PO X (some k) tk) :
    PE X (.Subscript e (.Slice lo hi (some k) p2) pos) (fun σ H Q => te σ H fun x H1 => tl σ H1 fun l H2 => th σ H2 fun u H3 => tk σ H3 fun c H4 => (∃ a xs c', x = .ref a ∧ c = some c' ∧ c' ≠ 0 ∧ SqL X.K H4 a xs ∧ ∀ p, H4 p = none → Q (.ref p) (upd H4 p (.lst (pick xs l u c')))) ∨
      (∃ a xs, x = .ref a ∧ l = none ∧ u = none ∧ c = some (-1) ∧ SqT X.K H4 a xs ∧ ∀ p, H4 p = none → Q (.ref p) (upd H4 p (.tup xs.reverse)))) := by
  refine ⟨fun pins s σ H Q I h => ?_⟩
  refine PyProof.Rows.Subscript_ (thn (he.run pins s σ H _ I h) fun v s1 ⟨x, H1, I1, r1, q1⟩ => ?_)
  refine wpAny_Slice (thn (hl.run pins s1 σ H1 _ I1 q1) fun vl s2 ⟨l, H2, I2, pl, q2⟩ => thn (hu.run pins s2 σ H2 _ I2 q2) fun vu s3 ⟨u, H3, I3, pu, q3⟩ => ?_)
  refine thn (hk.run pins s3 σ H3 _ I3 q3) fun vk s4 ⟨c, H4, I4, pk, q4⟩ => ?_
  rcases q4 with ⟨a, xs, c', rfl, rfl, h0, hx, q⟩ | ⟨a, xs, rfl, rfl, rfl, rfl, hx, q⟩
  rotate_left
  · cases r1
    have I5 : Inv X pins σ H4 { s4 with heap := s4.heap.push { cls := .type "slice", data := .fields #[vl, vu, vk] } } := I4.kept (t' := s4.toks) fun b ob q => Heap.get?_push_of_some _ q
    obtain ⟨its, r, ht, hz⟩ := I5.tuple hx
    have hlen := r.length
    show wpAny (model X.prog X.w) X.A (PyProof.Rows.subscriptTail e (.Slice lo hi (some k) p2) (.ref a) (.ref s4.heap.objs.size)) (EP X pins σ Q) X.xe { s4 with heap := s4.heap.push { cls := .type "slice", data := .fields #[vl, vu, vk] } }
    refine PyProof.Rows.tail_any (ops := [.ref a, .ref s4.heap.objs.size]) ht.typeIs PyProof.Rows.slot_tuple_getitem.lookup ?_ (by with_unfolding_all rfl)
    refine getItem_tuple_rev ht (Heap.IsSliceOf.new ..) pl pu pk ?_ (by rw [List.size_toArray, ← hlen]; exact hz)
    refine ⟨.ref (s4.heap.push { cls := .type "slice", data := .fields #[vl, vu, vk] }).objs.size, _, I5.laid (t' := s4.toks) (o := .tup xs.reverse) (fun b ob q => Heap.get?_push_of_some _ q) (Nat.le_refl _) ?_, rfl, q _ (I5.hok.fresh (Nat.le_refl _))⟩
    refine ⟨by rw [List.length_reverse]; exact hz, its.reverse, vals_rev r, ⟨_, Heap.get?_push_size _ rfl, rfl, _, rfl⟩⟩
  cases r1
  have I5 : Inv X pins σ H4 { s4 with heap := s4.heap.push { cls := .type "slice", data := .fields #[vl, vu, vk] } } := I4.kept (t' := s4.toks) fun b ob q => Heap.get?_push_of_some _ q
  obtain ⟨its, r, ht, hz⟩ := I5.list hx
  have hlen := r.length
  show wpAny (model X.prog X.w) X.A (PyProof.Rows.subscriptTail e (.Slice lo hi (some k) p2) (.ref a) (.ref s4.heap.objs.size)) (EP X pins σ Q) X.xe { s4 with heap := s4.heap.push { cls := .type "slice", data := .fields #[vl, vu, vk] } }
  refine PyProof.Rows.tail_any (ops := [.ref a, .ref s4.heap.objs.size]) ht.isList.typeIs PySem.list_getitem_lookup ?_ (by with_unfolding_all rfl)
  refine wpAny_getItem_list_slice ht.isList (Heap.IsSliceOf.new ..) pl pu pk (by intro z; exact h0 (Option.some.inj z)) ?_ (by rw [List.size_toArray] <;> omega)
  refine ⟨.ref (s4.heap.push { cls := .type "slice", data := .fields #[vl, vu, vk] }).objs.size, _, I5.laid (t' := s4.toks) (o := .lst (pick xs l u c')) (fun b ob q => Heap.get?_push_of_some _ q) (Nat.le_refl _) ?_, rfl, q _ (I5.hok.fresh (Nat.le_refl _))⟩
  have pv := pick_vals r l u c'
  refine ⟨?_, _, 0, pv, Heap.get?_push_size _ rfl⟩
  rw [pv.length]
  have h1 := slicePick_size_le its.toArray l u (some c')
  have h2 : its.toArray.size = its.length := by simp
  have h3 : (slicePick its.toArray l u (some c')).toList.length = (slicePick its.toArray l u (some c')).size := Array.length_toList
  omega
theorem sx_sl3 (cn : Cn T G tb k X) {lo hi : Option Expr} {q : Expr} {el eh et : E} (hn : et.isNil = false) (ha : PE X a (tE X T G ea)) (hl : PO X lo (tP X T G el)) (hh : PO X hi (tP X T G eh)) (hk : PO X (some q) (tP X T G et)) : PE X (.Subscript a (.Slice lo hi (some q) p2) pos) (tE X T G (.sl ea el eh et)) :=
  (pe_slice3 ha hl hh hk).le fun σ H Q h => by
    obtain ⟨as, st, ρ, r, p, h⟩ := h
    rw [ev] at h
    simp only [hn, Bool.false_eq_true, if_false] at h
    refine (pc1 r p h).mono fun x H1 q => ?_
    obtain ⟨as1, st1, v, e1, r1, p1, q1, q⟩ := q
    refine (pcP r1 q1 q).mono fun o H2 q => ?_
    obtain ⟨as2, st2, e2, r2, q2, q⟩ := q
    refine (pcP r2 q2 q).mono fun o' H3 q => ?_
    obtain ⟨as3, st3, e3, r3, q3, q⟩ := q
    have q' : PC T (RepV T) as3 H3 (((if et.isNil = true then R.ok Val.non st3 else ev G et ρ st3).bind endR).bind fun c s => getsl3 v o o' c s) Q (EK X σ) := by
      rw [hn]
      simp only [Bool.false_eq_true, if_false]
      exact q
    refine (pcP r3 q3 q').mono fun o'' H4 q => ?_
    obtain ⟨as4, st4, e4, r4, q4, q⟩ := q
    cases v with
    | loc l =>
      obtain ⟨ad, had, rfl⟩ := p1.loc
      have had4 := e4.as_get (e3.as_get (e2.as_get had))
      cases o'' with
      | none => exact q.elim
      | some c =>
        have q5 : PC T (RepV T) as4 H4 (match lstOf st4 l with
          | some vs => if c ≠ 0 then alloc (.lst (pick vs o o' c)) st4 else .bad
          | none => .bad) Q (EK X σ) := q
        split at q5
        · rename_i vs e
          split at q5
          · rename_i hc
            obtain ⟨xs, g1, g2⟩ := r4.lstOf e had4
            exact .inl ⟨ad, xs, c, rfl, rfl, hc, by rw [cn.hK]; exact g1, q5.pv.newL r4 (pick_rep g2 _ _ _)⟩
          · exact q5.elim
        · exact q5.elim
    | tup vs =>
      cases o'' with
      | none => exact q.elim
      | some c =>
        have q5 : PC T (RepV T) as4 H4 (if o = none ∧ o' = none ∧ c = -1 then R.ok (.tup vs.reverse) st4 else .bad) Q (EK X σ) := q
        split at q5
        · rename_i hc
          obtain ⟨rfl, rfl, rfl⟩ := hc
          obtain ⟨ad, xs, rfl, ht, hv⟩ := RepV.ext (e2.trans (e3.trans e4)) _ _ p1
          refine .inr ⟨ad, xs, rfl, rfl, rfl, rfl, by rw [cn.hK]; exact ht.sqT, fun pp hp => ?_⟩
          have ex : Ext as4 H4 as4 (upd H4 pp (.tup xs.reverse)) := Ext.lay hp
          exact q5.pv as4 _ (.ref pp) ex (r4.lay hp) ⟨pp, xs.reverse, rfl, upd_same, RepVs.revs (RepVs.ext ex _ _ hv)⟩
        · exact q5.elim
    | _ => exact q.elim
/-! attributes -/
theorem RepF.get (nd : T.names.Nodup) {f : Nat} {n : Str} (hn : T.names[f]? = some n) : ∀ {fs : List (Nat × Val)} {gs : List (Str × V)} {v : Val}, RepF T as H fs gs → fs.lookup f = some v → ∃ x, gs.lookup n = some x ∧ RepV T as H v x
  | [], _, _, _, h => by cases h
  | (g, w) :: r, _, v, h, e => by
    obtain ⟨m, x, rs, rfl, h2, h3, h4⟩ := h
    by_cases c : f = g
    · subst c
      rw [h2] at hn; cases hn
      simp only [List.lookup_cons, beq_self_eq_true] at e ⊢
      cases e
      exact ⟨x, rfl, h3⟩
    · have c' : n ≠ m := fun z => c (getElem?_inj nd hn (by rw [z]; exact h2))
      have e1 : (f == g) = false := by simpa using c
      have e2 : (n == m) = false := by simpa using c'
      simp only [List.lookup_cons, e1] at e
      simp only [List.lookup_cons, e2]
      exact RepF.get nd hn h4 e
theorem RepF.none (nd : T.names.Nodup) {f : Nat} {n : Str} (hn : T.names[f]? = some n) : ∀ {fs : List (Nat × Val)} {gs : List (Str × V)}, RepF T as H fs gs → fs.lookup f = Option.none → gs.lookup n = Option.none
  | [], _, h, _ => by cases h; rfl
  | (g, w) :: r, _, h, e => by
    obtain ⟨m, x, rs, rfl, h2, h3, h4⟩ := h
    by_cases c : f = g
    · subst c
      simp at e
    · have c' : n ≠ m := fun z => c (getElem?_inj nd hn (by rw [z]; exact h2))
      have e1 : (f == g) = false := by simpa using c
      have e2 : (n == m) = false := by simpa using c'
      simp only [List.lookup_cons, e1] at e
      simp only [List.lookup_cons, e2]
      exact RepF.none nd hn h4 e
theorem RepF.put (nd : T.names.Nodup) {f : Nat} {n : Str} (hn : T.names[f]? = some n) {v : Val} {x : V} (p : RepV T as H v x) : ∀ {fs : List (Nat × Val)} {gs : List (Str × V)}, RepF T as H fs gs → RepF T as H (Ov.putF f v fs) (L2.putF n x gs)
  | [], _, h => by cases h; exact ⟨n, x, [], rfl, hn, p, rfl⟩
  | (g, w) :: r, _, h => by
    obtain ⟨m, y, rs, rfl, h2, h3, h4⟩ := h
    by_cases c : g = f
    · subst c
      rw [h2] at hn; cases hn
      have e1 : Ov.putF g v ((g, w) :: r) = (g, v) :: r := if_pos rfl
      have e2 : L2.putF n x ((n, y) :: rs) = (n, x) :: rs := if_pos rfl
      rw [e1, e2]
      exact ⟨n, x, rs, rfl, h2, p, h4⟩
    · have c' : m ≠ n := fun z => c (getElem?_inj nd h2 (by rw [z]; exact hn))
      have e1 : Ov.putF f v ((g, w) :: r) = (g, w) :: Ov.putF f v r := if_neg c
      have e2 : L2.putF n x ((m, y) :: rs) = (m, y) :: L2.putF n x rs := if_neg c'
      rw [e1, e2]
      exact ⟨m, y, _, rfl, h2, h3, RepF.put nd hn p h4⟩
theorem RepF.length : ∀ {fs : List (Nat × Val)} {gs : List (Str × V)}, RepF T as H fs gs → fs.length = gs.length
  | [], _, h => by cases h; rfl
  | (g, w) :: r, _, h => by
    obtain ⟨m, y, rs, rfl, h2, h3, h4⟩ := h
    simp [RepF.length h4]
/-- an instance's place -/
theorem Rel.ins (r : Rel T as H st) {l : Nat} {cl : Nat} {fs : List (Nat × Val)} {ad : Addr} (h : sget st l = some (.ins cl fs)) (ha : as[l]? = some ad) : ∃ C dx gs, T.cls cl = some C ∧ H ad = some (.ins C dx gs) ∧ RepF T as H fs gs := by
  obtain ⟨a', ha', ho⟩ := r.ob l _ h
  rw [ha] at ha'; cases ha'
  exact ho
theorem sx_att (cn : Cn T G tb k X) {f : Nat} {n : Str} (ha : PE X a (tE X T G ea)) (hn : T.names[f]? = some n) (hs : noSup a = true) (hm : ∀ cl m, G.meth cl f ≠ some m) : PE X (.Attribute a n pos) (tE X T G (.att ea f)) :=
  (pe_fld ha (noSup_ok hs)).le fun σ H Q h => by
    obtain ⟨as, st, ρ, r, p, h⟩ := h
    rw [ev] at h
    refine (pc1 r p h).mono fun x H1 q => ?_
    obtain ⟨as1, st1, v, e1, r1, p1, q1, q⟩ := q
    cases v with
    | loc l =>
      have q' : PC T (RepV T) as1 H1 (match sget st1 l with
        | some (.ins _ fs) => R.opt (fs.lookup f) st1
        | _ => .bad) Q (EK X σ) := q
      split at q'
      · rename_i cl fs e
        obtain ⟨ad, had, rfl⟩ := p1.loc
        obtain ⟨C, dx, gs, hc, hi, hf⟩ := r1.ins e had
        cases ef : fs.lookup f with
        | none => rw [ef] at q'; exact q'.elim
        | some w =>
          rw [ef] at q'
          obtain ⟨y, hy, py⟩ := hf.get cn.wd.nnd hn ef
          have hcl : Cls X.K C := by rw [cn.hK]; exact cn.wd.cls _ _ hc
          have hna : NoAttr X.K C n := by rw [cn.hK]; exact cn.wd.noat _ _ _ _ hc hn (hm cl)
          exact ⟨ad, C, dx, gs, y, rfl, hi, hcl, hna, hy, PC.here q' r1 py⟩
      · exact q'.elim
    | _ => exact q.elim
/-! calls -/
theorem PC.callE {c : List Val → Store → R Val} {np : Nat} {vs : List Val} {xs : List V} {Q : VK} (hl : vs.length = np) (r : Rel T as H st) (p : RepVs T as H vs xs) (h : PC T (RepV T) as H (c vs st) Q (EK X σ)) : spC T c np xs H Q (EK X σ) :=
  ⟨by rw [← p.length]; exact hl, as, st, vs, r, p, h⟩
theorem sx_call (cn : Cn T G tb k X) {f np : Nat} {x : Str} (h1 : okn x = true) (h2 : glbB X.env.scope x = true) (h3 : tb.fns.lookup x = some (f, np)) (ha : PA X es (tA X T G eL)) (hp : ∀ pos env, (backTo pos (starEach es env)).any (·.1) = false)
    (hnil : es = [] → eL = .nil) (hne : ∀ e rest, es = e :: rest → nstar e = true) (hp2 : ∀ e rest, es = e :: rest → ∀ pos env, (backTo pos (starEach rest env)).any (·.1) = false) : PE X (.Call (.Name x p) es [] pos) (tE X T G (.call f eL)) := by
  obtain ⟨ad, fd, ps, hm, hk, hb, hF, hnp⟩ := cn.wd.call x f np h3
  have hk' : PySem.W.keepIn X.K (.ref ad) = true := by rw [cn.hK]; exact hk
  have hb' : Binds X.K fd ps [] := by rw [cn.hK]; exact hb
  have hF' : FnOk X.prog X.w X.K X.mg X.base (L2.CX X.prog X.w) k ad fd ps (spC T (G.call f) np) := by rw [cn.hK]; exact hF
  have go : ∀ σ H Q, tE X T G (.call f eL) σ H Q → tA X T G eL σ H fun vs H1 => spC T (G.call f) np vs H1 Q (EK X σ) := fun σ H Q h => by
    obtain ⟨as, st, ρ, r, q, h⟩ := h
    rw [ev] at h
    refine (pcA r q h).mono fun xs H1 q => ?_
    obtain ⟨as1, st1, vs, e1, r1, p1, q1, q⟩ := q
    by_cases c : vs.length = np
    · exact PC.callE c r1 p1 q
    · rw [hnp vs st1 c] at q; exact q.elim
  cases es with
  | nil =>
    refine ⟨fun pins s σ H Q I h => ?_⟩
    refine PySem.wpAny_Call_Name_kw (ld_glob I (glbB_ok h2) hm ?_ (okn1 h1))
    have q := go σ H Q h
    rw [hnil rfl] at q
    obtain ⟨as, st, ρ, r, p, q⟩ := q
    have q' := PC.here (show PC T (RepVs T) as H (.ok [] st) _ (EK X σ) from q) r (x := []) rfl
    exact PySem.W.callWith_K0 I.kIn hk' (run_fnS (us := []) (E := fun σ => EK X σ) hF' (cn.room.mono (Nat.le_succ _)) hb' (passAt takesTk σ) I .nil q')
  | cons e rest =>
    refine (pe_callS (E := fun σ => EK X σ) hF' (cn.room.mono (Nat.le_succ _)) (glbB_ok h2) hm hk' hb' (fun σ => passAt takesTk σ) ha (okn1 h1) (nstar_star (hne e rest rfl) _ _) (hp2 e rest rfl _ _)).le fun σ H Q h => go σ H Q h
end
end Ov

/-! Methods, new instances, built-ins. -/
namespace Ov
open PySem PySem.Spec L2
section
variable {X : Cx} {T : Tb} {G : Gm} {tb : Tbl} {k : Nat} {σ : L2.St} {H : Hp} {as : List Addr} {st : Store} {ρ : Env} {a b c e : Expr} {ea eb ec : E} {pos p p2 apos : Pos} {es : List Expr} {eL : E}
/-- what a row of arguments must be -/
structure Row (es : List Expr) (eL : E) : Prop where
  nil : es = [] → eL = .nil
  star : ∀ e rest, es = e :: rest → ∀ env, starEach (e :: rest) env = (false, eval e env) :: starEach rest env
  plain : ∀ e rest, es = e :: rest → ∀ pos env, (backTo pos (starEach rest env)).any (·.1) = false
theorem Row.of {tb : Tbl} {names N : List Str} {sc : Scope} (h : chkL tb names N eL sc es = true) : Row es eL := by
  cases es with
  | nil =>
    refine ⟨fun _ => ?_, fun _ _ z => (by cases z), fun _ _ z => (by cases z)⟩
    cases eL <;> first | rfl | simp [chkL] at h
  | cons x xs =>
    cases eL with
    | cons ea eb =>
      simp only [chkL, Bool.and_eq_true] at h
      refine ⟨fun z => (by cases z), fun e rest z env => ?_, fun e rest z pos env => ?_⟩
      · cases z; exact nstar_star h.1.1 _ _
      · cases z; exact (chkL_plain h.2 pos env).2
    | _ => simp [chkL] at h
theorem tA_nil {Q : List V → Hp → Prop} (h : tA X T G .nil σ H Q) : Q [] H := by
  obtain ⟨as, st, ρ, r, p, q⟩ := h
  exact PC.here (show PC T (RepVs T) as H (.ok [] st) Q (EK X σ) from q) r rfl
/-- o.m(..) of an own class -/
theorem pe_methS {C f : Addr} {kk : Nat} {fd : FuncData} {ps : List Str} {m : Str} {o : Expr} {pl : Sem Bool} {to : TE} {t : TA} {Y : V → List V → Hp → VK → XK → Prop} (ho : PE X o to) (ha : PA X es t) (rw_ : Row es eL) (ht0 : es = [] → ∀ σ H Q, t σ H Q → Q [] H)
    (ht : eval (.Call (.Attribute o m apos) es [] pos) X.env = (do
      let ov ← eval o X.env
      standAt apos.atName
      let (f, first) ← holding [ov] (getMethod ov m pl)
      callWith pos f first (backTo pos (starEach es X.env)) (backToKw pos (keywordEach [] X.env)))) :
    PE X (.Call (.Attribute o m apos) es [] pos) (fun σ H Q => to σ H fun x H1 => ∃ a C dx fs f kk fd ps sp, x = .ref a ∧ H1 a = some (.ins C dx fs) ∧ Cls X.K C ∧ Meth X.K C m f ∧ fs.lookup m = none ∧ FnOk X.prog X.w X.K X.mg X.base (L2.CX X.prog X.w) kk f fd ps sp ∧ Room kk X.A ∧ Binds X.K fd ps [] ∧
      t σ H1 fun vs H2 => sp (x :: vs) H2 Q (EK X σ)) := by
  refine ⟨fun pins s σ H Q I h => ?_⟩
  refine PySem.W.methodCall_KW (pl := pl) (thn (ho.run pins s σ H _ I h) fun u s1 ⟨x, H1, I1, rx, ad, C, dx, fs, f, kk, fd, ps, sp, ex, ea, cl, hm, l, F, hr, hb, q⟩ => ?_) ht
  subst ex
  obtain rfl : u = Value.ref ad := rx
  refine getmeth_ok I1 ea cl hm l ?_
  cases es with
  | nil =>
    exact PySem.W.callWith_K0 (first := [.ref ad]) I1.kIn hm.kp (run_fnS (E := fun σ => EK X σ) (us := [.ref ad]) (vs := [.ref ad]) F hr hb (passAt takesTk σ) I1 (.cons rfl .nil) (ht0 rfl _ _ _ q))
  | cons e rest =>
    refine PySem.W.callWith_K (first := [.ref ad]) (h₀ := X.base) I.ok.mod.kin hm.kp (thn (ha.run pos pins s1 σ H1 _ I1 q) fun us s2 ⟨vs, H2, I2, r, q2⟩ => ⟨I2.kIn, ?_⟩) (rw_.star e rest rfl _) (rw_.plain e rest rfl _ _)
    exact run_fnS (E := fun σ => EK X σ) (us := .ref ad :: us) (vs := .ref ad :: vs) F hr hb (passAt takesTk σ) I2 (.cons rfl r) q2
theorem sx_me (cn : Cn T G tb k X) {m : Nat} {n : Str} {o : Expr} {eo : E} (ho : PE X o (tE X T G eo)) (ha : PA X es (tA X T G eL)) (rw_ : Row es eL) (hn : T.names[m]? = some n) (hs : noSup o = true) (line : (apos.endLine == pos.line) = true)
    (few : methodCallForm (es.length + ([] : List Keyword).length) (backTo pos (starEach es X.env)) (backToKw pos (keywordEach [] X.env)) = true) :
    PE X (.Call (.Attribute o n apos) es [] pos) (tE X T G (.me m eo eL)) := by
  refine (pe_methS (C := 0) (f := 0) (kk := 0) (fd := default) (ps := []) (Y := fun _ _ _ _ _ => True) ho ha rw_ (fun e σ H Q q => tA_nil (by rw [rw_.nil e] at q; exact q)) (meth_form (noSup_ok hs) few line)).le fun σ H Q h => ?_
  obtain ⟨as, st, ρ, r, q, h⟩ := h
  rw [ev] at h
  refine (pc1 r q h).mono fun x H1 q => ?_
  obtain ⟨as1, st1, v, e1, r1, p1, q1, q⟩ := q
  cases em : mthOf G v m st1 with
  | none => rw [em] at q; exact q.elim
  | some f =>
    rw [em] at q
    have q' : PC T (RepV T) as1 H1 ((evs G eL ρ st1).bind fun xs s => G.call f (v :: xs) s) Q (EK X σ) := q
    cases v with
    | loc l =>
      have em' := em
      unfold mthOf at em'
      dsimp only at em'
      split at em'
      · rename_i cl fs e
        split at em'
        · rename_i el
          obtain ⟨ad, had, rfl⟩ := p1.loc
          obtain ⟨C, dx, gs, hc, hi, hf⟩ := r1.ins e had
          obtain ⟨fa, fd, ps, np, hm, hb, hF, hnp⟩ := cn.wd.meth cl C m n f hc hn em'
          refine ⟨ad, C, dx, gs, fa, k, fd, ps, _, rfl, hi, by rw [cn.hK]; exact cn.wd.cls _ _ hc, by rw [cn.hK]; exact hm, hf.none cn.wd.nnd hn el, by rw [cn.hK]; exact hF, cn.room.mono (Nat.le_succ _), by rw [cn.hK]; exact hb, ?_⟩
          refine (pcA r1 q1 q').mono fun xs H2 q2 => ?_
          obtain ⟨as2, st2, vs, e2, r2, p2, _, q2⟩ := q2
          by_cases c : (Val.loc l :: vs).length = np
          · exact ⟨by rw [List.length_cons, ← p2.length]; exact c, as2, st2, .loc l :: vs, r2, ⟨_, _, rfl, RepV.ext e2 _ _ p1, p2⟩, q2⟩
          · rw [hnp _ st2 c] at q2; exact q2.elim
        · cases em'
      · cases em'
    | _ => cases em
/-- a new instance, its __init__ run; what that raises is wished for here -/
theorem makeS {C fa : Addr} {fd : FuncData} {ps : List Str} {sp : Sp} {pins : List (Addr × Obj)} {s : Shared} {Q : VK} {us : List Value} {vs : List V} (M : Mk X.K C fa) (hF : FnOk X.prog X.w X.K X.mg X.base (L2.CX X.prog X.w) k fa fd ps sp)
    (hr : Room (k + 1) X.A) (hb : Binds X.K fd ps []) (I : Inv X pins σ H s) (rv : Vals vs us) (hh : ∀ y dy, H y = none → H dy = none → dy ≠ y → sp (.ref y :: vs) (upd (upd H dy (.own y)) y (.ins C dy [])) (fun v H2 => v = .non ∧ Q (.ref y) H2) (EK X σ)) :
    wpAny (model X.prog X.w) X.A (call (.ref C) us) (EP X pins σ Q) X.xe s := by
  have n1 : H (s.heap.objs.size + 1) = none := I.hok.fresh (Nat.le_succ _)
  have n2 : H s.heap.objs.size = none := I.hok.fresh (Nat.le_refl _)
  have hq := hh _ _ n1 n2 (Nat.ne_of_lt (Nat.lt_succ_self _))
  have J := Inv.made (C := C) I
  have rv2 : Vals (V.ref (s.heap.objs.size + 1) :: vs) (Value.ref (s.heap.objs.size + 1) :: us) := .cons rfl rv
  have hlen : (Value.ref (s.heap.objs.size + 1) :: us).length = ps.length := rv2.length.symm.trans (hF.len _ _ _ _ hq)
  have bnd := hb { s with heap := (s.heap.push PySem.W.emptyDict).push (PySem.W.instObj C s.heap.objs.size) } (Value.ref (s.heap.objs.size + 1) :: us) J.kIn (by rw [List.append_nil]; exact hlen)
  rw [List.append_nil] at bnd
  have run := hF.run _ X.stack _ _ ⟨Value.ref (s.heap.objs.size + 1) :: us, []⟩ (Value.ref (s.heap.objs.size + 1) :: us) _ _ (EK X σ) (hr.make C us []) (J.env0.make C us []) bnd rv2 hq
  refine wpAny_call (make_map (f := fa) I.kIn M.makes M.init (beq_iff_eq.mp M.fn) (codeAny_mono run fun res s' ends => ?_))
  cases res with
  | error ex => exact passAt takesTk σ pins _ _ ex s' J ends
  | ok fl =>
    cases fl with
    | ret ru =>
      obtain ⟨v, H', J', rvu, ev, q3⟩ := J.after ends
      subst ev
      exact ⟨rvu, ⟨V.ref (s.heap.objs.size + 1), H', J', rfl, q3⟩⟩
    | _ => exact False.elim ends
/-- C(..) -/
theorem sx_mk (cn : Cn T G tb k X) {cl : Nat} {x : Str} (h1 : okn x = true) (h2 : glbB X.env.scope x = true) (h3 : tb.clss.lookup x = some cl) (ha : PA X es (tA X T G eL)) (rw_ : Row es eL) : PE X (.Call (.Name x p) es [] pos) (tE X T G (.mk cl eL)) := by
  obtain ⟨C, fa, fi, fd, ps, np, hm, hc, hi, M, hb, hF, hnp⟩ := cn.wd.make x cl h3
  have M' : Mk X.K C fa := by rw [cn.hK]; exact M
  have hb' : Binds X.K fd ps [] := by rw [cn.hK]; exact hb
  have hF' : FnOk X.prog X.w X.K X.mg X.base (L2.CX X.prog X.w) k fa fd ps (spC T (G.call fi) np) := by rw [cn.hK]; exact hF
  -- what the arguments lead to
  have go : ∀ σ H Q, tE X T G (.mk cl eL) σ H Q → tA X T G eL σ H fun vs H1 => ∀ x dx, H1 x = none → H1 dx = none → dx ≠ x →
      spC T (G.call fi) np (.ref x :: vs) (upd (upd H1 dx (.own x)) x (.ins C dx [])) (fun v H2 => v = .non ∧ Q (.ref x) H2) (EK X σ) := fun σ H Q h => by
    obtain ⟨as, st, ρ, r, q, h⟩ := h
    rw [ev] at h
    refine (pcA r q h).mono fun xs H1 q => ?_
    obtain ⟨as1, st1, vs, e1, r1, p1, _, q⟩ := q
    intro y dy hy hdy hne
    have q' : PC T (RepV T) as1 H1 ((G.call fi (.loc (slen st1) :: vs) (snew st1 (.ins cl []))).bind fun r s' => isNon r (.ok (.loc (slen st1)) s') .bad) Q (EK X σ) := by
      rw [hi] at q; exact q
    have hy2 : upd H1 dy (.own y) y = none := by rw [upd_ne hne.symm]; exact hy
    have x1 : Ext as1 H1 as1 (upd H1 dy (.own y)) := Ext.lay hdy
    have r2 : Rel T as1 (upd H1 dy (.own y)) st1 := r1.lay hdy
    have x2 : Ext as1 (upd H1 dy (.own y)) (as1 ++ [y]) (upd (upd H1 dy (.own y)) y (.ins C dy [])) := Ext.new hy2
    have r3 : Rel T (as1 ++ [y]) (upd (upd H1 dy (.own y)) y (.ins C dy [])) (snew st1 (.ins cl [])) := r2.new hy2 ⟨C, dy, [], hc, upd_same, rfl⟩
    have hloc : (as1 ++ [y])[slen st1]? = some y := by rw [← r1.len]; simp
    have x3 := x1.trans x2
    by_cases c : (Val.loc (slen st1) :: vs).length = np
    · refine ⟨by rw [List.length_cons, ← p1.length]; exact c, as1 ++ [y], _, .loc (slen st1) :: vs, r3, ⟨_, _, rfl, ⟨y, hloc, rfl⟩, RepVs.ext x3 _ _ p1⟩, ?_⟩
      refine (PC.bind (rep := RepV T) (PC.ext (r := (G.call fi (.loc (slen st1) :: vs) (snew st1 (.ins cl []))).bind fun r s' => isNon r (.ok (.loc (slen st1)) s') .bad) q' x3)).mono (fun v H2 q2 => ?_) fun _ _ _ z => z
      obtain ⟨as3, st3, w, e3, r4, p4, q2⟩ := q2
      cases w with
      | non => cases p4; exact ⟨rfl, PC.here (show PC T (RepV T) as3 H2 (.ok (.loc (slen st1)) st3) Q (EK X σ) from q2) r4 ⟨y, e3.as_get hloc, rfl⟩⟩
      | _ => exact q2.elim
    · have := hnp _ (snew st1 (.ins cl [])) c
      rw [this] at q'; exact q'.elim
  refine ⟨fun pins s σ H Q I h => ?_⟩
  have q := go σ H Q h
  have kC : PySem.W.keepIn X.K (.ref C) = true := M'.kp
  refine wpAny_Call_Name_kw (ld_glob I (glbB_ok h2) hm ?_ (okn1 h1))
  cases es with
  | nil =>
    rw [rw_.nil rfl] at q
    exact PySem.W.callWith_K0 I.kIn kC (makeS (us := []) M' hF' cn.room hb' I .nil (tA_nil q))
  | cons e1 rest =>
    refine PySem.W.callWith_K (h₀ := X.base) I.ok.mod.kin kC (thn (ha.run pos pins s σ H _ I q) fun us s1 ⟨vs, H1, I1, rv, q1⟩ => ⟨I1.kIn, ?_⟩) (rw_.star e1 rest rfl _) (rw_.plain e1 rest rfl _ _)
    exact makeS M' hF' cn.room hb' I1 rv q1
/-! built-ins -/
theorem bi_fn {b : Bi} : ∃ id, b.val = .builtin id ∨ b.val = .type id := by cases b <;> first | exact ⟨_, .inl rfl⟩ | exact ⟨_, .inr rfl⟩
theorem sx_bi (cn : Cn T G tb k X) {b : Bi} {x : Str} (h1 : okn x = true) (h2 : glbB X.env.scope x = true) (h3 : x ∈ tb.frees) (hx : b.nm = x) (ha : PA X (e :: es) (tA X T G eL)) (hs : nstar e = true) (hp : ∀ pos env, (backTo pos (starEach es env)).any (·.1) = false) :
    PE X (.Call (.Name x p) (e :: es) [] pos) (tE X T G (.bi b eL)) := by
  have hm := cn.wd.frees x h3
  have hv : bootBuiltins x = some b.val := by rw [← hx]; exact boot_bi b
  have go : PE X (.Call (.Name x p) (e :: es) [] pos) (tCB (rBi T b) (tA X T G eL)) := by
    obtain ⟨id, h | h⟩ := bi_fn (b := b)
    · exact pe_callB (h ▸ bir cn.hK cn.calm b) (glbB_ok h2) hm (by rw [hv, h]) ha (okn3 h1) (okn1 h1) (nstar_star hs _ _) (hp _ _)
    · exact pe_callTy (h ▸ bir cn.hK cn.calm b) (glbB_ok h2) hm (by rw [hv, h]) ha (okn3 h1) (okn1 h1) (nstar_star hs _ _) (hp _ _)
  refine go.le fun σ H Q h => ?_
  obtain ⟨as, st, ρ, r, q, h⟩ := h
  rw [ev] at h
  refine (pcA r q h).mono fun xs H1 q => ?_
  obtain ⟨as1, st1, vs, e1, r1, p1, _, q⟩ := q
  exact ⟨as1, st1, vs, r1, p1, q.pv⟩
theorem sx_isi (cn : Cn T G tb k X) {t : Ty} {x y : Str} (h1 : x = "isinstance") (h2 : glbB X.env.scope x = true) (h3 : x ∈ tb.frees) (g1 : okn y = true) (g2 : glbB X.env.scope y = true) (g3 : y ∈ tb.frees) (gy : y = Str.ofString t.nm) (ha : PE X a (tE X T G ea)) (hs : nstar a = true) :
    PE X (.Call (.Name x p) [a, .Name y p2] [] pos) (tE X T G (.isi ea [t])) := by
  have hm := cn.wd.frees x h3
  have hmy := cn.wd.frees y g3
  have hb : PE X (.Name y p2) (tC (.ty t.nm)) := pe_bltn (glbB_ok g2) hmy (by rw [gy]; exact boot_ty t) rfl (okn3 g1) (okn1 g1)
  have hA : PA X [a, .Name y p2] (tCons (tE X T G ea) (tCons (tC (.ty t.nm)) tNil)) := pa_cons ha (pa_cons hb pa_nil) (nstar_star hs _ _)
  subst h1
  refine (pe_callB (is1_ok cn.hK t) (glbB_ok h2) hm (by decide +kernel) hA (by decide) (by decide) (nstar_star hs _ _) rfl).le fun σ H Q h => ?_
  obtain ⟨as, st, ρ, r, q, h⟩ := h
  rw [ev] at h
  refine (pc1 r q h).mono fun z H1 q => ?_
  obtain ⟨as1, st1, v, e1, r1, p1, _, q⟩ := q
  exact ⟨as1, st1, v, z, r1, rfl, p1, q.pv⟩
theorem pa_tys (cn : Cn T G tb k X) : ∀ {ts : List Ty} {ys : List Expr}, isTys tb X.env.scope ts ys = true → PA X ys (fun _ H Q => Q (ts.map fun t => V.ty t.nm) H)
  | [], [], _ => pa_nil.le fun _ _ _ h => h
  | t :: ts, .Name y p :: ys, h => by
    simp only [isTys, Bool.and_eq_true, decide_eq_true_eq] at h
    obtain ⟨⟨⟨⟨g1, g2⟩, g3⟩, gy⟩, h⟩ := h
    have hmy := cn.wd.frees y (by simpa using g3)
    have hb : PE X (.Name y p) (tC (.ty t.nm)) := pe_bltn (glbB_ok g2) hmy (by rw [gy]; exact boot_ty t) rfl (okn3 g1) (okn1 g1)
    exact (pa_cons hb (pa_tys cn h) rfl).le fun _ _ _ h => h
theorem sx_isT (cn : Cn T G tb k X) {ts : List Ty} {x : Str} {ys : List Expr} {kk : Nat} {tp : Pos} (h1 : x = "isinstance") (h2 : glbB X.env.scope x = true) (h3 : x ∈ tb.frees) (n2 : 2 ≤ ts.length) (n6 : ts.length ≤ 6) (hy : isTys tb X.env.scope ts ys = true) (ha : PE X a (tE X T G ea)) (hs : nstar a = true) :
    PE X (.Call (.Name x p) [a, .Tuple ys kk tp] [] pos) (tE X T G (.isi ea ts)) := by
  have hm := cn.wd.frees x h3
  have hA := pa_cons ha (pa_cons (pe_tup (x1 := kk) (pos := tp) (pa_tys cn hy)) pa_nil (nstar_star (e := .Tuple ys kk tp) rfl _ _)) (nstar_star hs (.Tuple ys kk tp :: []) X.env)
  subst h1
  refine (pe_callB (isT_ok cn.hK ts (by intro e; rw [e] at n2; cases n2)) (glbB_ok h2) hm (by decide +kernel) hA (by decide) (by decide) (nstar_star hs _ _) rfl).le fun σ H Q h => ?_
  obtain ⟨as, st, ρ, r, q, h⟩ := h
  rw [ev] at h
  refine (pc1 r q h).mono fun z H1 q => ?_
  obtain ⟨as1, st1, v, e1, r1, p1, _, q⟩ := q
  refine ⟨by rw [List.length_map, ← lim_eq]; show _ ≤ 16777216; omega, fun tq hq => ?_⟩
  have ex : Ext as1 H1 as1 (upd H1 tq (.tup (ts.map fun t => V.ty t.nm))) := Ext.lay hq
  refine ⟨as1, st1, v, z, tq, r1.lay hq, rfl, upd_same, RepV.ext ex _ _ p1, ?_⟩
  have e : isi v ts st1 = (match isiAny v st1 ts with
    | some b => Ov.R.ok (.bl b) st1
    | none => .bad) := by
    unfold isi
    split
    · rename_i t; exact absurd n2 (by simp)
    · rfl
  have hq := (PC.ext (r := isi v ts st1) q ex).pv
  rw [e] at hq
  exact hq
/-! sorted(set(..)) -/
theorem ddI_mem {k : Int} : ∀ {ns : List Int}, k ∈ ddI ns ↔ k ∈ ns
  | [] => Iff.rfl
  | x :: r => by
    unfold ddI
    split
    · rename_i h
      rw [ddI_mem, List.mem_cons]
      exact ⟨.inr, fun z => z.elim (fun e => e ▸ h) id⟩
    · rw [List.mem_cons, ddI_mem, List.mem_cons]
theorem ddI_nd : ∀ ns : List Int, (ddI ns).Nodup
  | [] => List.nodup_nil
  | x :: r => by
    unfold ddI
    split
    · exact ddI_nd r
    · rename_i h
      exact List.nodup_cons.mpr ⟨fun z => h (ddI_mem.mp z), ddI_nd r⟩
theorem lt_uni : ∀ {a b : List Int}, a.Pairwise (· < ·) → b.Pairwise (· < ·) → (∀ k, k ∈ a ↔ k ∈ b) → a = b
  | [], [], _, _, _ => rfl
  | [], y :: b, _, _, h => absurd ((h y).mpr List.mem_cons_self) (by simp)
  | x :: a, [], _, _, h => absurd ((h x).mp List.mem_cons_self) (by simp)
  | x :: a, y :: b, p, q, h => by
    obtain ⟨p1, p2⟩ := List.pairwise_cons.mp p
    obtain ⟨q1, q2⟩ := List.pairwise_cons.mp q
    have e : x = y := by
      have hx := (h x).mp List.mem_cons_self
      have hy := (h y).mpr List.mem_cons_self
      rcases List.mem_cons.mp hx with e | e
      · exact e
      · rcases List.mem_cons.mp hy with e2 | e2
        · exact e2.symm
        · have := p1 _ e2
          have := q1 _ e
          omega
    subst e
    rw [lt_uni p2 q2 fun k => ?_]
    constructor
    · intro hk
      rcases List.mem_cons.mp ((h k).mp (List.mem_cons_of_mem _ hk)) with e | e
      · have := p1 _ hk
        omega
      · exact e
    · intro hk
      rcases List.mem_cons.mp ((h k).mpr (List.mem_cons_of_mem _ hk)) with e | e
      · have := q1 _ hk
        omega
      · exact e
theorem srt_ddI (ns : List Int) : (sortI (ddI ns)).Pairwise (· < ·) := by
  have h1 := sortI_sorted (ddI ns)
  have h2 : (sortI (ddI ns)).Nodup := (sortI_perm (ddI ns)).nodup_iff.mpr (ddI_nd ns)
  exact h1.imp₂ (fun a b h k => by omega) h2
theorem ints_of (vs : List Val) (ns : List Int) (h : intsOf vs = some ns) {as : List Addr} {xs : List V} (r : RepVs T as H vs xs) : xs = ns.map V.int := RepVs.ints h r
/-- set(t), t a tuple of ints -/
def rSetT (K : PySem.W.Frag) (w : World) : List V → Hp → VK → Prop := fun xs H Q => ∃ (l : Addr) (ns : List Int), xs = [V.ref l] ∧ SqT K H l (ns.map V.int) ∧ ns.length < 63 ∧ ∀ p c, H p = none → c ≤ ns.length → Q (.ref p) (upd H p (SetO w p (fun j => decide (j ∈ ns)) c))
theorem cr_setT (hc : X.calm = true) : CallR X (.type "set") (rSetT X.K X.w) := by
  intro pins s σ H xs us Q I r h
  obtain ⟨l, ns, rfl, hq, hl, q⟩ := h
  cases r with
  | cons r rr =>
    cases rr
    cases r
    obtain ⟨its, rv, pt, hz⟩ := I.tuple hq
    have hi : PyProof.Rows.IntsAre its.toArray.toList ns := ints_of_vals rv
    have hd := I.ok.hd hc
    refine call_set_tupI ns hd (show s.heap.IsTuple l its.toArray from pt) hi (by unfold scanBound; omega) fun h' tk c R1 hcn k => ?_
    exact ⟨.ref s.heap.objs.size, upd H s.heap.objs.size (SetO X.w s.heap.objs.size (fun j => decide (j ∈ ns)) c), I.laid (t' := tk) k (Nat.le_refl _) (setO_new R1), rfl, q _ _ (I.hok.fresh (Nat.le_refl _)) hcn⟩
theorem sx_ss (cn : Cn T G tb k X) {x y : Str} (h1 : x = "sorted") (h2 : glbB X.env.scope x = true) (h3 : x ∈ tb.frees) (g1 : y = "set") (g2 : glbB X.env.scope y = true) (g3 : y ∈ tb.frees) (ha : PE X a (tE X T G ea)) (hs : nstar a = true) :
    PE X (.Call (.Name x p) [.Call (.Name y p2) [a] [] pos2] [] pos) (tE X T G (.ss ea)) := by
  have hm := cn.wd.frees x h3
  have hmy := cn.wd.frees y g3
  subst h1 g1
  have hA : PA X [a] (tCons (tE X T G ea) tNil) := pa_cons ha pa_nil (nstar_star hs _ _)
  have hS := pe_callTy (p := p2) (pos := pos2) (cr_setT (X := X) cn.calm) (glbB_ok g2) hmy PyProof.Rows.boot_set hA (by decide) (by decide) (nstar_star hs _ _) rfl
  refine (pe_callB (cr_sortedSet cn.calm) (glbB_ok h2) hm (by decide +kernel) (pa_cons hS pa_nil) (by decide) (by decide) rfl rfl).le fun σ H Q h => ?_
  obtain ⟨as, st, ρ, r, q, h⟩ := h
  rw [ev] at h
  refine (pc1 r q h).mono fun z H1 q => ?_
  obtain ⟨as1, st1, v, e1, r1, p1, _, q⟩ := q
  have q := q.pv
  cases v with
  | tup vs =>
    obtain ⟨l, xs, rfl, ht, hv⟩ := p1
    unfold ssR at q
    dsimp only at q
    split at q
    · rename_i ns en
      split at q
      · rename_i hl
        have ex := ints_of vs ns en hv
        subst ex
        refine ⟨l, ns, rfl, (by rw [cn.hK]; exact ht.sqT), hl, fun p0 c hp hc => ?_⟩
        refine ⟨p0, _, c, rfl, upd_same, by omega, fun ms p9 h5 h6 h7 hp9 => ?_⟩
        have e : ms = sortI (ddI ns) := lt_uni h5 (srt_ddI ns) fun k => by
          rw [h6, decide_eq_true_eq, (sortI_perm (ddI ns)).mem_iff, ddI_mem]
        subst e
        have hs0 : H1 p0 = none := hp
        have x1 : Ext as1 H1 as1 (upd H1 p0 (SetO X.w p0 (fun j => decide (j ∈ ns)) c)) := Ext.lay hp
        have r2 : Rel T as1 (upd H1 p0 (SetO X.w p0 (fun j => decide (j ∈ ns)) c)) st1 := r1.lay hp
        have q2 : PV T as1 H1 (.ok (.loc (slen st1)) (snew st1 (.lst ((sortI (ddI ns)).map Val.int)))) Q := q
        exact q2 _ _ _ (x1.trans (Ext.new hp9)) (r2.new hp9 ⟨_, upd_same, RepVs.ofInts _⟩) ⟨p9, (by have z : as1.length = slen st1 := r1.len; rw [← z]; simp), rfl⟩
      · exact q.elim
    · exact q.elim
  | _ => exact q.elim
/-- a built-in type's method, the type found at the receiver -/
theorem pe_bmS {o : Expr} {to : TE} {t : TA} {name : Str} (ho : PE X o to) (ha : PA X es t) (rw_ : Row es eL) (ht0 : es = [] → ∀ σ H Q, t σ H Q → Q [] H) (hbase : attributeBase o name X.env (eval o X.env) = eval o X.env) (hline : (apos.endLine == pos.line) = true)
    (few : methodCallForm (es.length + ([] : List Keyword).length) (backTo pos (starEach es X.env)) (backToKw pos (keywordEach [] X.env)) = true) :
    PE X (.Call (.Attribute o name apos) es [] pos) (fun σ H Q => to σ H fun x H1 => ∃ TT id r, PlainAttrs TT ∧ Slot TT name id ∧ typeOf (.builtin id) = pure (.type "method_descriptor") ∧ MtR X id r ∧ tyV X.K TT x H1 ∧ t σ H1 fun xs H2 => r x xs H2 Q) := by
  refine ⟨fun pins s σ H Q I h => ?_⟩
  cases es with
  | nil =>
    refine wpAny_Call_method0_late hbase hline (thn (ho.run pins s σ H _ I h) fun v s1 ⟨x, H1, I1, r1, TT, id, r, f1, f2, f3, f4, ty, q⟩ => ?_)
    obtain ⟨g1, g2⟩ := tyV_is I1 r1 ty
    exact ⟨TT, id, f1, f2, f3, g1, g2, Calls.callWith_builtin rfl (PySem.evalArgs_none (f4 pins s1 σ H1 x [] v [] Q I1 r1 .nil (ht0 rfl _ _ _ q)))⟩
  | cons e1 rest =>
    refine wpAny_Call_method_late hbase few hline rfl (thn (ho.run pins s σ H _ I h) fun v s1 ⟨x, H1, I1, r1, TT, id, r, f1, f2, f3, f4, ty, q⟩ => ?_)
    obtain ⟨g1, g2⟩ := tyV_is I1 r1 ty
    refine ⟨TT, id, f1, f2, f3, g1, g2, ?_⟩
    have hA := ha.run pos pins s1 σ H1 _ I1 q
    have st1 := rw_.star e1 rest rfl X.env
    have pl1 := rw_.plain e1 rest rfl pos X.env
    rw [st1] at hA ⊢
    refine Calls.callWith_builtin ?_ (Calls.evalArgs_plain ?_)
    · show (false || (backTo pos (starEach rest X.env)).any (·.1)) = false
      rw [pl1]; rfl
    · exact thn hA fun us s2 ⟨vs, H2, I2, r2, q2⟩ => f4 pins s2 σ H2 x vs v us Q I2 r1 r2 q2
theorem sx_bm (cn : Cn T G tb k X) {m : Bm} {n : Str} {o : Expr} {eo : E} (hm : n = Str.ofString m.nm) (ho : PE X o (tE X T G eo)) (ha : PA X es (tA X T G eL)) (rw_ : Row es eL) (hs : noSup o = true) (line : (apos.endLine == pos.line) = true)
    (few : methodCallForm (es.length + ([] : List Keyword).length) (backTo pos (starEach es X.env)) (backToKw pos (keywordEach [] X.env)) = true) :
    PE X (.Call (.Attribute o n apos) es [] pos) (tE X T G (.bm m eo eL)) := by
  refine (pe_bmS ho ha rw_ (fun e σ H Q q => tA_nil (by rw [rw_.nil e] at q; exact q)) (noSup_ok hs) line few).le fun σ H Q h => ?_
  obtain ⟨as, st, ρ, r, q, h⟩ := h
  rw [ev] at h
  refine (pc1 r q h).mono fun x H1 q => ?_
  obtain ⟨as1, st1, v, e1, r1, p1, q1, q⟩ := q
  cases ek : kindFor st1 v m with
  | none => rw [ek] at q; exact q.elim
  | some kd =>
    rw [ek] at q
    have q' : PC T (RepV T) as1 H1 ((evs G eL ρ st1).bind fun xs s => bmf kd m v xs s) Q (EK X σ) := q
    unfold kindFor at ek
    split at ek
    · rename_i kd' ek'
      split at ek
      · rename_i sv
        cases ek
        obtain ⟨id, f1, f2, f3, f4⟩ := (bm_ok cn.hK cn.hu kd m sv).ok
        have ty := kind_ty cn.hK r1 p1 ek'
        subst hm
        have slot : Slot kd.ty (Str.ofString m.nm) id := f2
        refine ⟨kd.ty, id, _, f1, slot, f3, f4, ty, ?_⟩
        refine (pcA r1 q1 q').mono fun xs H2 q2 => ?_
        obtain ⟨as2, st2, vs, e2, r2, p2, _, q2⟩ := q2
        exact ⟨as2, st2, v, vs, r2, RepV.ext e2 _ _ p1, p2, q2.pv⟩
      · cases ek
    · cases ek
end
end Ov

set_option maxHeartbeats 1000000
/-! tuple(reversed(a tuple)): the walk of the new object, gone through. -/
namespace Ov
open PySem PySem.Spec L2 PyProof.Rows
theorem nolen_rt : typeLookup (.type "reversed") "__len__" = pure none := by rw [typeLookup_type, builtinLookup_eq_fast]; kernel_rfl
theorem hint_rt : typeLookup (.type "reversed") "__length_hint__" = pure (some (.builtin "reversed.__length_hint__")) := by rw [typeLookup_type, builtinLookup_eq_fast]; kernel_rfl
theorem slot_rt_hint : Slot "reversed" "__length_hint__" "reversed.__length_hint__" :=
  .of (owner := "reversed") (n := "__length_hint__") (by rw [typeLookup_type, builtinLookup_eq_fast]; kernel_rfl) (by decide +kernel) (by decide +kernel) (by decide +kernel)
    (by first | exact .inl (by decide +kernel) | exact .inr (by decide +kernel)) (by rw [isSubtype_type]; kernel_rfl)
theorem entry_rt_hint : entryFor table "reversed.__length_hint__" = some Builtin.«reversed.__length_hint__» := entryFor_of_tree (by kernel_rfl)
theorem args_rt_hint (a : Value) : argsOk "reversed.__length_hint__" ⟨[a], []⟩ := by
  unfold argsOk; rw [signature?_of (id := "reversed.__length_hint__") (n := ['_', '_', 't', 'n', 'i', 'h', '_', 'h', 't', 'g', 'n', 'e', 'l', '_', '_']) (o := ['d', 'e', 's', 'r', 'e', 'v', 'e', 'r']) (by kernel_rfl) RT.owner_rt]; kernel_rfl
section
variable {prog : Program} {w : World} {A : Around} {E : Value → Shared → Prop} {s : Shared}
theorem hint_rt_ok {it t : Addr} {items : Array Value} {Q : Bool → Shared → Prop} (hit : RT.IsRt s.heap it t ((items.size : Int) - 1)) (ht : IsTup s.heap t items) (hsz : items.size ≤ sizeLine)
    (h : ∀ tk, Q (((items.size : Nat) : Int) != 0) { s with toks := tk }) : wpAny (model prog w) A (Builtin.List.listLengthHint (.ref it)) Q E s := by
  have hT := hit.typeIs
  unfold Builtin.List.listLengthHint
  refine wpAny_bind (wpAny_specialOf hT nolen_rt ?_)
  show wpAny _ _ (specialOf (Value.ref it) (Str.ofString "__length_hint__") >>= _) _ _ _
  refine wpAny_bind (wpAny_specialOf hT hint_rt ?_)
  generalize hid : ("reversed.__length_hint__" : String) = id0
  wp_delta
  rw [show splitId id0 = some ("reversed", "__length_hint__") from by subst hid; decide +kernel]
  subst hid
  refine wpAny_bind (wpAny_isInstance (b := true) hT (by rw [isSubtype_type]; kernel_rfl) ?_)
  rw [if_neg (by decide)]
  dsimp only
  rw [if_neg (by decide +kernel)]
  refine wpAny_bind (wpAny_rule ?_)
  refine wpAny_bind (wpAny_of_eq (slot_rt_hint.bind (.ref it)) ?_)
  dsimp only
  refine wpAny_bind (wpAny_attempt (wpAny_call_entry slot_rt_hint hit.typeIs entry_rt_hint ?_ (args_rt_hint _)))
  unfold Builtin.«reversed.__length_hint__»
  refine wpAny_bind (wpAny_of_eq (a := Value.ref it) rfl ?_)
  obtain ⟨o, ho, hc, hd⟩ := id hit
  dsimp only
  refine wpAny_bind (wpAny_field ho hd (x := .ref t) rfl ?_)
  have hl : items.size ≤ 16777216 := by rw [sizeLine_eq] at hsz; exact hsz
  rw [if_neg (show ¬ (Value.ref t == Value.none) = true from Bool.false_ne_true)]
  refine wpAny_bind (len_tuple ht (by omega) ?_)
  refine wpAny_bind (wpAny_of_eq (a := some ((items.size : Nat) : Int)) rfl ?_)
  dsimp only
  refine wpAny_bind (wpAny_field (s := { s with toks := s.toks + 1 + 1 }) ho hd (x := rawInt ((items.size : Int) - 1)) rfl ?_)
  show wpAny _ _ (if ((items.size : Nat) : Int) < (items.size : Int) - 1 + 1 then _ else _) _ _ _
  rw [if_neg (by omega)]
  refine wpAny_bind (wpAny_mkInt ?_)
  refine wpAny_pure ⟨_, rfl, ?_⟩
  dsimp only
  have e1 : (items.size : Int) - 1 + 1 = ((items.size : Nat) : Int) := by omega
  rw [e1]
  have ea : ∀ (n : Int) (k : Nat), asInt? (Value.int n k) = pure (some n) := fun _ _ => rfl
  refine wpAny_bind ?_
  rw [ea]
  refine wpAny_pure ?_
  dsimp only
  have f1 : Builtin.List.listFitsIndex ((items.size : Nat) : Int) = true := by
    unfold Builtin.List.listFitsIndex
    rw [Bool.and_eq_true]
    exact ⟨decide_eq_true (by omega), decide_eq_true (by omega)⟩
  rw [f1, if_neg (show ¬ (!true) = true by decide), if_neg (show ¬ ((items.size : Nat) : Int) < 0 by omega)]
  have f2 : Builtin.List.listTooLong ((items.size : Nat) : Int).toNat = false := decide_eq_false (by rw [sizeLine_eq]; omega)
  rw [f2, if_neg Bool.false_ne_true]
  exact wpAny_pure (h _)
end
/-- what stands as it stood -/
theorem isTup_at {h h' : Heap} {t : Addr} {items : Array Value} (x : IsTup h t items) (e : ∀ o, h.get? t = some o → h'.get? t = some o) : IsTup h' t items := let ⟨o, ho, r⟩ := x; ⟨o, e _ ho, r⟩
theorem walks_rt {prog : Program} {w : World} {A : Around} (hh : A.handled = none) (I t : Addr) (hne : t ≠ I) (items : Array Value) (hsz : items.size ≤ sizeLine) :
    Walks prog w A I [I, t] [I] items.size (fun i v => items[items.size - 1 - i]? = some v) (fun i h => i ≤ items.size ∧ RT.IsRt h I t ((items.size : Int) - 1 - (i : Int)) ∧ IsTup h t items) where
  sub := fun b hb => by simp at hb; simp [hb]
  frame := fun _ _ _ x hk => ⟨x.1, x.2.1.at fun o e => hk I (by simp) o e, isTup_at x.2.2 fun o e => hk t (by simp) o e⟩
  item := fun i s Q E hi x hQ => by
    have e : (items.size : Int) - 1 - (i : Int) = ((items.size - 1 - i : Nat) : Int) := by omega
    have hit := x.2.1
    rw [e] at hit
    have hx : items[items.size - 1 - i]? = some (items[items.size - 1 - i]'(by omega)) := Array.getElem?_eq_getElem (by omega)
    refine RT.next_rt_item hit x.2.2 hx hsz fun h' hit' hs' => ?_
    have e2 : ((items.size - 1 - i : Nat) : Int) - 1 = (items.size : Int) - 1 - ((i + 1 : Nat) : Int) := by omega
    rw [e2] at hit'
    exact hQ _ h' _ hx ⟨hi, hit', isTup_at x.2.2 fun o eo => (hs'.2 t hne).trans eo⟩ fun b o hb eo => hs'.extBut b o (fun h => hb (by simp [h])) eo
  done := fun s Q E x hQ => by
    have e : (items.size : Int) - 1 - (items.size : Int) = -1 := by omega
    have hit := x.2.1
    rw [e] at hit
    exact RT.next_rt_end hh hit fun h' he' => hQ h' s.toks fun b o hb eo => he' b o (fun h => hb (by simp [h])) eo
  self := fun _ _ _ _ x hQ => RT.iter_rt x.2.1 hQ
section
variable {prog : Program} {w : World} {A : Around} {E : Value → Shared → Prop} {s : Shared}
theorem collect_rt {it l : Addr} {items : Array Value} {Q : List Value → Shared → Prop} (hh : A.handled = none) (hit : RT.IsRt s.heap it l ((items.size : Int) - 1)) (hl : IsTup s.heap l items) (hne : l ≠ it) (hn : items.size ≤ sizeLine)
    (hQ : ∀ (h' : Heap) (tk : Nat) (acc : Array Value), (∀ b o, b ≠ it → s.heap.get? b = some o → h'.get? b = some o) → ItemsOf (fun i v => items[items.size - 1 - i]? = some v) acc items.size → Q acc.toList { s with heap := h', toks := tk }) :
    wpAny (model prog w) A (collect (.ref it)) Q E s := by
  have W := (walks_rt (prog := prog) (w := w) (A := A.in1) hh it l hne items hn).toS
  obtain ⟨oi, hoi, _⟩ := id hit
  obtain ⟨ol, hol, _⟩ := id hl
  have hSi : s.heap.objs.size ≠ it := Nat.ne_of_gt (Heap.lt_size hoi)
  have hSl : s.heap.objs.size ≠ l := Nat.ne_of_gt (Heap.lt_size hol)
  have hSf : s.heap.objs.size ∉ [it, l] := by simp only [List.mem_cons, List.not_mem_nil, or_false, not_or]; exact ⟨hSi, hSl⟩
  unfold collect
  refine wpAny_bind (wpAny_runValue (codeAny_builtin F.entry_proto_collect ?_))
  rw [Around.under_plainId F.plain_proto_collect _]
  show wpAny _ A.in1 (newList [] >>= fun l' => again (.builtin "list.__iadd__" ⟨[l', .ref it], []⟩)) _ _ s
  refine wpAny_bind (wpAny_newObj_type ?_)
  refine wpAny_pure ⟨plainId_quiet F.plain_list_iadd _, codeAny_builtin F.entry_list_iadd ?_⟩
  rw [Around.under_plainId F.plain_list_iadd _]
  have hS₁ : (s.heap.push { cls := .type "list", data := .seq ([] : List Value).toArray }).get? s.heap.objs.size = some { cls := .type "list", data := .seq ([] : List Value).toArray } := Heap.get?_push_size _ rfl
  have hit1 : RT.IsRt (s.heap.push { cls := .type "list", data := .seq ([] : List Value).toArray }) it l ((items.size : Int) - 1) := hit.at fun o e => Heap.get?_push_of_some _ e
  have hl1 : IsTup (s.heap.push { cls := .type "list", data := .seq ([] : List Value).toArray }) l items := isTup_at hl fun o e => Heap.get?_push_of_some _ e
  have hT : ({ s with heap := s.heap.push { cls := .type "list", data := .seq ([] : List Value).toArray } } : Shared).TypeIs (.ref it) "reversed" := RT.IsRt.typeIs (s := { s with heap := s.heap.push { cls := .type "list", data := .seq ([] : List Value).toArray } }) hit1
  have h1 : Builtin.List.listSameRef (.ref s.heap.objs.size) (.ref it) = false := by simp [Builtin.List.listSameRef, hSi]
  show wpAny _ A.in1 (Builtin.List.listExtendWith (.ref s.heap.objs.size) (.ref it) (.ref s.heap.objs.size)) _ _ _
  unfold Builtin.List.listExtendWith
  refine wpAny_bind (wpAny_typeOf hT ?_)
  rw [if_neg (by rw [h1]; decide)]
  refine wpAny_bind (RT.iter_rt (s := { s with heap := s.heap.push { cls := .type "list", data := .seq ([] : List Value).toArray } }) hit1 ?_)
  refine wpAny_bind (wpAny_holding ?_)
  refine hint_rt_ok (s := { s with heap := s.heap.push { cls := .type "list", data := .seq ([] : List Value).toArray } }) hit1 hl1 hn fun tk0 => ?_
  have e0 : ((items.size : Nat) : Int) - 1 - ((0 : Nat) : Int) = (items.size : Int) - 1 := by omega
  -- the loop, whatever was done to the new list
  have go : ∀ (h1 : Heap) (tk c : Nat), (∀ b o, b ≠ s.heap.objs.size → (s.heap.push { cls := .type "list", data := .seq ([] : List Value).toArray }).get? b = some o → h1.get? b = some o) → h1.get? s.heap.objs.size = some { cls := .type "list", dict := none, data := .seq #[] c, slots := #[] } →
      codeAny (model prog w) A (.builtin "list.extend.loop" ⟨[.ref s.heap.objs.size, .ref it, .ref s.heap.objs.size], []⟩) (fun r s' => match r with
        | .ok (.ret v) => wpAny (model prog w) A (match v with
          | .ref a => do
            match (← load a).data with
            | .seq xs epoch => pure xs.toList
            | _ => unsupported "internal:collect"
          | _ => unsupported "internal:collect") Q E s'
        | .ok _ => False
        | .error e => E e s') { s with heap := h1, toks := tk } := by
    intro h1 tk c k1 k2
    refine codeAny_extend_loopS W hn _ hSf _ items.size 0 _ _ _ rfl (Nat.zero_le _) ⟨Nat.zero_le _, by rw [e0]; exact hit1.at fun o e => k1 _ _ (Ne.symm hSi) e, isTup_at hl1 fun o e => k1 _ _ (Ne.symm hSl) e⟩ k2 (ItemsOf.nil _) fun s' acc' c' hm hS' hacc => ?_
    show wpAny _ A (load s.heap.objs.size >>= _) _ _ s'
    refine wpAny_bind (wpAny_load hS' ?_)
    refine wpAny_pure ?_
    rw [Moved.eq_with hm]
    refine hQ s'.heap s'.toks acc' (fun b o hb e => hm.heap b o (fun hmem => ?_) (k1 b o (Nat.ne_of_lt (Heap.lt_size e)) (Heap.get?_push_of_some _ e))) hacc
    rcases List.mem_cons.mp hmem with e' | hmem
    · exact absurd (Heap.lt_size e) (by rw [e']; exact Nat.lt_irrefl _)
    · exact hb (List.mem_singleton.mp hmem)
  dsimp only
  split
  · refine wpAny_bind (wpAny_rule ?_)
    refine wpAny_bind ?_
    show wpAny _ A.in1 (updateSeq s.heap.objs.size (·.push .none) >>= fun _ => updateSeq s.heap.objs.size (·.pop)) _ _ _
    refine wpAny_bind (wpAny_updateSeq hS₁ rfl ?_)
    have hS₂ := Heap.get?_update_self (Obj.mapSeq (·.push Value.none)) hS₁ rfl
    refine wpAny_updateSeq hS₂ rfl ?_
    have hS₃ := Heap.get?_update_self (Obj.mapSeq (·.pop)) hS₂ rfl
    exact wpAny_pure ⟨plainId_quiet F.plain_extend_loop _, go _ _ _ (fun b o hb e => (Heap.get?_update_other _ _ (Ne.symm hb)).trans ((Heap.get?_update_other _ _ (Ne.symm hb)).trans e)) hS₃⟩
  · exact wpAny_pure ⟨plainId_quiet F.plain_extend_loop _, go _ _ _ (fun b o hb e => e) hS₁⟩
theorem code_tuple_rt {it l : Addr} {items : Array Value} {Q₁ : Value → Shared → Prop} (hh : A.handled = none) (hit : RT.IsRt s.heap it l ((items.size : Int) - 1)) (hl : IsTup s.heap l items) (hne : l ≠ it) (hn : items.size ≤ sizeLine)
    (h : ∀ (h' : Heap) (tk : Nat) (acc : Array Value), (∀ b o, b ≠ it → s.heap.get? b = some o → h'.get? b = some o) → ItemsOf (fun i v => items[items.size - 1 - i]? = some v) acc items.size →
      Q₁ (.ref h'.objs.size) { s with heap := h'.push { cls := .type "tuple", data := .seq acc }, toks := tk }) :
    codeAny (model prog w) A (.call (.builtin "tuple.__new__") ⟨[.type "tuple", .ref it], []⟩) (wants Q₁ E) s := by
  refine codeAny_of_tree ?_
  show wpAny _ A.in1 (do checkBuiltinCall "tuple.__new__" ⟨[.type "tuple", .ref it], []⟩; again (.builtin "tuple.__new__" ⟨[.type "tuple", .ref it], []⟩)) _ _ s
  refine wpAny_bind (wpAny_of_eq (F.newCall_tuple_1 _) (wpAny_pure ⟨plainId_quiet F.plain_tuple_new _, codeAny_builtin F.entry_tuple_new ?_⟩))
  rw [Around.under_plainId F.plain_tuple_new _]
  have hsub := sub_tuple_self
  have hinit := init_tuple_lookup
  have hmh := madeHere_tuple
  have hTI : s.TypeIs (.ref it) "reversed" := hit.typeIs
  have hh1 : A.in1.handled = none := hh
  wp_walk using wpAny_typeOf hTI, collect_rt (A := A.in1) hh1 hit hl hne hn
  intro h' tk acc hk hacc
  show wpAny _ _ (Builtin.Tuple.tupleExact acc.toList.toArray >>= fun v => ret v) _ _ _
  unfold Builtin.Tuple.tupleExact
  refine wpAny_bind (wpAny_newObj_type ?_ (by show acc.toList.toArray.size ≤ sizeLine; simp only [Array.toArray_toList]; rw [hacc.1]; exact hn))
  refine wpAny_pure ?_
  have e : acc.toList.toArray = acc := by simp
  rw [e]
  exact h h' tk acc hk hacc
theorem call_tuple_rt {it l : Addr} {items : Array Value} {Q : Value → Shared → Prop} (hh : A.handled = none) (hit : RT.IsRt s.heap it l ((items.size : Int) - 1)) (hl : IsTup s.heap l items) (hne : l ≠ it) (hn : items.size ≤ sizeLine)
    (hQ : ∀ (h' : Heap) (tk : Nat) (acc : Array Value), (∀ b o, b ≠ it → s.heap.get? b = some o → h'.get? b = some o) → ItemsOf (fun i v => items[items.size - 1 - i]? = some v) acc items.size →
      Q (.ref h'.objs.size) { s with heap := h'.push { cls := .type "tuple", data := .seq acc }, toks := tk }) :
    wpAny (model prog w) A (call (.type "tuple") [.ref it]) Q E s := by
  refine callType_codes (Q₁ := fun obj s₁ => s₁.TypeIs obj "tuple" ∧ Q obj s₁) F.called_tuple (F.typeCall_tuple_1 _) F.entry_object_init
    (code_tuple_rt (A := A.in1) hh hit hl hne hn fun h' tk acc hk hacc => ⟨⟨_, Heap.get?_push_size _ rfl, rfl⟩, hQ h' tk acc hk hacc⟩) fun obj s₁ h₁ => ?_
  exact ⟨h₁.1, F.args_object_init_2 obj _, object_init_meets F.called_tuple.init.lookup F.called_tuple.made (by decide) prog w A.in1 _ s₁ ⟨h₁.1, rfl, h₁.2⟩⟩
end
section
variable {X : Cx} {T : Tb} {G : Gm} {tb : Tbl} {k : Nat} {pos p p2 pos2 : Pos} {ea : E}
/-- tuple(reversed(x)), x a tuple -/
theorem pe_tr {e : Expr} {te : TE} (hc : X.calm = true) (hg : Gl X "tuple") (hm : X.mg "tuple" = none) (hg2 : Gl X "reversed") (hm2 : X.mg "reversed" = none) (he : PE X e te)
    (hs : starEach [e] X.env = (false, eval e X.env) :: starEach [] X.env := by rfl)
    (hs2 : starEach [.Call (.Name "reversed" p2) [e] [] pos2] X.env = (false, eval (.Call (.Name "reversed" p2) [e] [] pos2) X.env) :: starEach [] X.env := by rfl) :
    PE X (.Call (.Name "tuple" p) [.Call (.Name "reversed" p2) [e] [] pos2] [] pos) (fun σ H Q => te σ H fun v H1 => ∃ (a : Addr) (xs : List V), v = .ref a ∧ SqT X.K H1 a xs ∧ ∀ q, H1 q = none → Q (.ref q) (upd H1 q (.tup xs.reverse))) := by
  refine ⟨fun pins s σ H Q I h => ?_⟩
  refine Call_ (ld_blt I hg hm boot_tuple (PyProof.Rows.callWith_type1 (args_cons (Call_ (ld_blt I hg2 hm2 PyProof.Rows.boot_reversed (PyProof.Rows.callWith_type1 (args_cons (thn (he.run pins s σ H _ I h) fun u s1 ⟨v, H1, I1, r1, q1⟩ => args_nil ?_) hs) hs rfl))) hs2) hs2 rfl))
  obtain ⟨a, xs, ev, hq, q⟩ := q1
  subst ev
  obtain rfl : u = Value.ref a := r1
  obtain ⟨its, rv, p', hz⟩ := I1.tuple hq
  have hl63 := rv.length
  have hn63 := line63
  refine RT.call_reversed_tup p' (fun A E Q k => len_tuple p' (by simp only [List.size_toArray] <;> omega) k) (args_nil ?_)
  have k0 : ∀ b o, s1.heap.get? b = some o → (s1.heap.push (RT.rtObj a ((its.toArray.size : Int) - 1))).get? b = some o := fun b o e => Heap.get?_push_of_some _ e
  have I2 : Inv X pins σ H1 { s1 with heap := s1.heap.push (RT.rtObj a ((its.toArray.size : Int) - 1)), toks := s1.toks + 1 + 1 } := I1.kept (t' := s1.toks + 1 + 1) k0
  obtain ⟨f0, f1, f2, f3, f4, f5⟩ := I1.fpOk (H' := H1) (b := s1.heap.objs.size) (Nat.le_refl _) (I1.hok.fresh (Nat.le_refl _))
  obtain ⟨ol, hol, _⟩ := id p'
  have hne : a ≠ s1.heap.objs.size := Nat.ne_of_lt (Heap.lt_size hol)
  have hn : its.toArray.size ≤ sizeLine := by rw [List.size_toArray, ← rv.length]; exact hz
  refine call_tuple_rt (s := { s1 with heap := s1.heap.push (RT.rtObj a ((its.toArray.size : Int) - 1)), toks := s1.toks + 1 + 1 }) (I1.ok.hd hc) ⟨_, Heap.get?_push_size _ rfl, rfl, rfl⟩ (isTup_at p' fun o e => k0 _ _ e) hne hn fun h' tk acc hk hi => ?_
  have I3 : Inv X pins σ H1 { s1 with heap := h', toks := tk } := I2.turned (t' := tk) (fun b o hb e => hk b o hb e) f0 f1 f3 f4 f5
  refine ⟨.ref h'.objs.size, upd H1 h'.objs.size (.tup xs.reverse), I3.laid (t' := tk) (fun c o e => Heap.get?_push_of_some _ e) (Nat.le_refl _) (show ObjOk X.prog X.w _ _ _ (.tup xs.reverse) from ⟨by rw [List.length_reverse]; exact hz, acc.toList, RT.vals_rev rv hi, ?_⟩), rfl, q _ (I3.hok.fresh (Nat.le_refl _))⟩
  rw [Array.toArray_toList]
  exact IsTup.new _ _
theorem sx_tr (cn : Cn T G tb k X) {e : Expr} {x y : Str} (h1 : x = "tuple") (h2 : glbB X.env.scope x = true) (h3 : x ∈ tb.frees) (g1 : y = "reversed") (g2 : glbB X.env.scope y = true) (g3 : y ∈ tb.frees) (ha : PE X e (tE X T G ea)) (hs : nstar e = true) :
    PE X (.Call (.Name x p) [.Call (.Name y p2) [e] [] pos2] [] pos) (tE X T G (.tr ea)) := by
  have hm := cn.wd.frees x h3
  have hmy := cn.wd.frees y g3
  subst h1 g1
  refine (pe_tr cn.calm (glbB_ok h2) hm (glbB_ok g2) hmy ha (nstar_star hs _ _) rfl).le fun σ H Q h => ?_
  obtain ⟨as, st, ρ, r, q, h⟩ := h
  rw [ev] at h
  refine (pc1 r q h).mono fun z H1 q => ?_
  obtain ⟨as1, st1, v, e1, r1, p1, _, q⟩ := q
  have q := q.pv
  cases v with
  | tup vs =>
    obtain ⟨l, xs, rfl, ht, hv⟩ := p1
    refine ⟨l, xs, rfl, (by rw [cn.hK]; exact ht.sqT), fun p0 hp => ?_⟩
    have q2 : PV T as1 H1 (.ok (.tup vs.reverse) st1) Q := q
    exact q2 _ _ _ (Ext.lay hp) (r1.lay hp) ⟨p0, xs.reverse, rfl, upd_same, RepVs.ext (Ext.lay hp) _ _ hv.revs⟩
  | _ => exact q.elim
end
end Ov

set_option maxHeartbeats 1000000
/-! zip of a list and a tuple: two rows of unlike kinds, walked beside one another. -/
namespace Ov
open PySem PySem.Spec L2 PyProof.Rows
/-- a kind of standing rows, with its iterators -/
structure Kz where
  it : Heap → Addr → Addr → Nat → Prop
  row : Heap → Addr → Array Value → Prop
  itAt : ∀ {h h' : Heap} {i l : Addr} {k : Nat}, it h i l k → (∀ o, h.get? i = some o → h'.get? i = some o) → it h' i l k
  rowAt : ∀ {h h' : Heap} {l : Addr} {xs : Array Value}, row h l xs → (∀ o, h.get? l = some o → h'.get? l = some o) → row h' l xs
  got : ∀ {h : Heap} {i l : Addr} {k : Nat}, it h i l k → ∃ o fs, h.get? i = some o ∧ o.data = .fields fs
  item : ∀ {prog : Program} {w : World} {A : Around} {E : Value → Shared → Prop} {s : Shared} {i l : Addr} {k : Nat} {xs : Array Value} {x : Value} {Q : Value → Shared → Prop}, it s.heap i l k → row s.heap l xs → xs[k]? = some x →
    (∀ h', it h' i l (k + 1) → Heap.SameBut i s.heap h' → Q x { s with heap := h' }) → wpAny (model prog w) A (Builtin.SmallTypes.nextOf (.ref i)) Q E s
  stop : ∀ {prog : Program} {w : World} {A : Around} {E : Value → Shared → Prop} {s : Shared} {i l : Addr} {k : Nat} {xs : Array Value} {Q : Value → Shared → Prop}, A.handled = none → it s.heap i l k → row s.heap l xs → xs[k]? = none →
    (∀ h' e, Heap.ExtBut i s.heap h' → (∃ o, h'.get? e = some o ∧ o.cls = .type "StopIteration") → E (.ref e) { s with heap := h' }) → wpAny (model prog w) A (Builtin.SmallTypes.nextOf (.ref i)) Q E s
def kzL : Kz := ⟨fun h i l k => h.IsListIter i l k, fun h l xs => h.IsList l xs, fun h e => h.at e, fun h e => h.at e, fun ⟨o, e, _, d⟩ => ⟨o, _, e, d⟩, fun a b c q => wpAny_nextOf_list_item a b c q, fun a b c e q => wpAny_nextOf_list_end a b c e q⟩
def kzT : Kz := ⟨fun h i l k => h.IsTupleIter i l k, fun h l xs => h.IsTuple l xs, fun h e => h.at e, fun h e => h.at e, fun ⟨o, e, _, d⟩ => ⟨o, _, e, d⟩, fun a b c q => RZ.nextOf_tuple_item a b c q, fun a b c e q => RZ.nextOf_tuple_end a b c e q⟩
section
variable {prog : Program} {w : World} {A : Around} {E : Value → Shared → Prop} {s : Shared} (K1 K2 : Kz)
theorem zk_item {z TI TO i1 i2 l1 l2 : Addr} {k1 k2 : Nat} {xs ys : Array Value} {x y a b : Value} {Q : Value → Shared → Prop} (D : ZipApart z TI TO i1 i2 l1 l2)
    (hz : IsZip s.heap z TI TO .none) (hTI : IsPair s.heap TI (.ref i1) (.ref i2)) (hTO : IsPair s.heap TO a b)
    (h1 : K1.it s.heap i1 l1 k1) (h2 : K2.it s.heap i2 l2 k2) (hl1 : K1.row s.heap l1 xs) (hl2 : K2.row s.heap l2 ys) (hx : xs[k1]? = some x) (hy : ys[k2]? = some y)
    (hQ : ∀ h', IsZip h' z TI TO (rawInt s.heap.objs.size) → IsPair h' TO x y → K1.it h' i1 l1 (k1 + 1) → K2.it h' i2 l2 (k2 + 1) → IsPair h' s.heap.objs.size x y → h'.objs.size = s.heap.objs.size + 1 →
      (∀ c o, c ≠ z → c ≠ TO → c ≠ i1 → c ≠ i2 → s.heap.get? c = some o → h'.get? c = some o) → Q (.ref s.heap.objs.size) { s with heap := h' }) :
    wpAny (model prog w) A (Builtin.«zip.__next__» ⟨[.ref z], []⟩) (fun fin s' => ∃ v, fin = .done (.ret v) ∧ Q v s') E s := by
  show wpAny _ _ (field (.ref z) 2 >>= _) _ _ _
  refine wpAny_bind (wpAny_field hz rfl (x := .bool false) rfl ?_)
  show wpAny _ _ (field (.ref z) 3 >>= _) _ _ _
  refine wpAny_bind (wpAny_field hz rfl (x := .ref TI) rfl ?_)
  refine wpAny_bind (wpAny_seqItems hTI rfl ?_)
  show wpAny _ _ (Builtin.SmallTypes.ownedTupleIsFree (.ref z) >>= _) _ _ _
  refine wpAny_bind ?_
  unfold Builtin.SmallTypes.ownedTupleIsFree
  refine wpAny_bind (wpAny_field hz rfl (x := .none) rfl (wpAny_pure ?_))
  simp only [if_true]
  refine wpAny_bind (wpAny_rule ?_)
  refine wpAny_bind (wpAny_field hz rfl (x := .ref TO) rfl ?_)
  refine wpAny_bind (wpAny_setField_rec hz (by simp) fun g1 z1 e1 => ?_)
  replace z1 : IsZip g1 z TI TO .ellipsis := z1
  have a1 : K1.it g1 i1 l1 k1 := K1.itAt h1 fun o q => e1.extBut _ _ D.i1z q
  have b1 : K1.row g1 l1 xs := K1.rowAt hl1 fun o q => e1.extBut _ _ D.l1z q
  refine wpAny_bind ?_
  simp only [List.zipIdx_cons, List.zipIdx_nil, List.forIn_cons, List.forIn_nil]
  refine wpAny_bind (wpAny_bind (wpAny_onRaise ?_))
  show wpAny _ _ (Builtin.SmallTypes.nextOf (.ref i1) >>= _) _ _ _
  refine wpAny_bind (K1.item a1 b1 hx fun g2 a2 e2 => wpAny_pure ?_)
  have p2 : IsPair g2 TO a b := e2.extBut _ _ D.TOi1 (e1.extBut _ _ D.TOz hTO)
  refine wpAny_bind (wpAny_seqItems p2 rfl ?_)
  refine wpAny_bind (wpAny_updateSeq_pair p2 fun g3 p3 e3 => ?_)
  replace p3 : IsPair g3 TO x b := p3
  have up3 : ∀ c o, c ≠ z → c ≠ i1 → c ≠ TO → s.heap.get? c = some o → g3.get? c = some o := fun c o c1 c2 c3 q => e3.extBut _ _ c3 (e2.extBut _ _ c2 (e1.extBut _ _ c1 q))
  refine wpAny_bind (wpAny_letGo (wpAny_pure ?_))
  refine wpAny_bind (wpAny_bind (wpAny_onRaise ?_))
  show wpAny _ _ (Builtin.SmallTypes.nextOf (.ref i2) >>= _) _ _ _
  refine wpAny_bind (K2.item (K2.itAt h2 fun o q => up3 _ o D.i2z D.i12.symm D.TOi2.symm q) (K2.rowAt hl2 fun o q => up3 _ o D.l2z D.l2i1 D.l2TO q) hy fun g4 a4 e4 => wpAny_pure ?_)
  have p4 : IsPair g4 TO x b := e4.extBut _ _ D.TOi2 p3
  refine wpAny_bind (wpAny_seqItems p4 rfl ?_)
  refine wpAny_bind (wpAny_updateSeq_pair p4 fun g5 p5 e5 => ?_)
  replace p5 : IsPair g5 TO x y := p5
  refine wpAny_bind (wpAny_letGo (wpAny_pure (wpAny_pure ?_)))
  refine wpAny_bind (wpAny_seqItems p5 rfl ?_)
  refine wpAny_bind (wpAny_newTuple ?_)
  have hsz : g5.objs.size = s.heap.objs.size := by rw [e5.1, e4.1, e3.1, e2.1, e1.1]
  have up5 : ∀ c o, c ≠ i2 → c ≠ TO → g3.get? c = some o → g5.get? c = some o := fun c o c1 c2 q => e5.extBut _ _ c2 (e4.extBut _ _ c1 q)
  have z5 : IsZip g5 z TI TO .ellipsis := up5 _ _ D.i2z.symm D.TOz.symm (e3.extBut _ _ D.TOz.symm (e2.extBut _ _ D.i1z.symm z1))
  have u1 : K1.it g5 i1 l1 (k1 + 1) := K1.itAt a2 fun o q => up5 _ o D.i12 D.TOi1.symm (e3.extBut _ _ D.TOi1.symm q)
  have u2 : K2.it g5 i2 l2 (k2 + 1) := K2.itAt a4 fun o q => e5.extBut _ _ D.TOi2.symm q
  have zlt : z < g5.objs.size := Heap.lt_size z5
  show wpAny _ _ (Builtin.SmallTypes.ownedTupleHandOut (.ref z) (.ref g5.objs.size) >>= _) _ _ _
  refine wpAny_bind ?_
  unfold Builtin.SmallTypes.ownedTupleHandOut
  have z6 : IsZip (g5.push { cls := .type "tuple", data := .seq #[x, y] }) z TI TO .ellipsis := Heap.get?_push_of_some _ z5
  refine wpAny_bind (wpAny_setField_rec z6 (by simp) fun g7 z7 e7 => ?_)
  replace z7 : IsZip g7 z TI TO (rawInt g5.objs.size) := z7
  refine wpAny_setField_rec z7 (by simp) fun g8 z8 e8 => ?_
  replace z8 : IsZip g8 z TI TO (rawInt g5.objs.size) := z8
  have up8 : ∀ c o, c ≠ z → g5.get? c = some o → g8.get? c = some o := fun c o c1 q => e8.extBut _ _ c1 (e7.extBut _ _ c1 (Heap.get?_push_of_some _ q))
  have t8 : IsPair g8 g5.objs.size x y := e8.extBut _ _ (Nat.ne_of_gt zlt) (e7.extBut _ _ (Nat.ne_of_gt zlt) (Heap.get?_push_size _ rfl))
  have s8 : g8.objs.size = g5.objs.size + 1 := by rw [e8.1, e7.1, Heap.size_push]
  rw [hsz] at z8 t8 s8
  refine wpAny_pure ⟨_, rfl, ?_⟩
  show Q (.ref g5.objs.size) _
  rw [hsz]
  exact hQ g8 z8 (up8 _ _ D.TOz p5) (K1.itAt u1 fun o q => up8 _ o D.i1z q) (K2.itAt u2 fun o q => up8 _ o D.i2z q) t8 s8 fun c o c1 c2 c3 c4 q => up8 c o c1 (up5 c o c4 c2 (up3 c o c1 c3 c2 q))
theorem zk_end {z TI TO i1 i2 l1 l2 : Addr} {k1 k2 : Nat} {xs ys : Array Value} {a b : Value} {Q : Fin → Shared → Prop} (hh : A.handled = none) (D : ZipApart z TI TO i1 i2 l1 l2)
    (hz : IsZip s.heap z TI TO .none) (hTI : IsPair s.heap TI (.ref i1) (.ref i2)) (hTO : IsPair s.heap TO a b)
    (h1 : K1.it s.heap i1 l1 k1) (h2 : K2.it s.heap i2 l2 k2) (hl1 : K1.row s.heap l1 xs) (hl2 : K2.row s.heap l2 ys) (hend : xs[k1]? = none ∨ ys[k2]? = none)
    (hE : ∀ h' e, (∀ c o, c ≠ z → c ≠ TO → c ≠ i1 → c ≠ i2 → s.heap.get? c = some o → h'.get? c = some o) → (∃ o, h'.get? e = some o ∧ o.cls = .type "StopIteration") → E (.ref e) { s with heap := h' }) :
    wpAny (model prog w) A (Builtin.«zip.__next__» ⟨[.ref z], []⟩) Q E s := by
  show wpAny _ _ (field (.ref z) 2 >>= _) _ _ _
  refine wpAny_bind (wpAny_field hz rfl (x := .bool false) rfl ?_)
  show wpAny _ _ (field (.ref z) 3 >>= _) _ _ _
  refine wpAny_bind (wpAny_field hz rfl (x := .ref TI) rfl ?_)
  refine wpAny_bind (wpAny_seqItems hTI rfl ?_)
  show wpAny _ _ (Builtin.SmallTypes.ownedTupleIsFree (.ref z) >>= _) _ _ _
  refine wpAny_bind ?_
  unfold Builtin.SmallTypes.ownedTupleIsFree
  refine wpAny_bind (wpAny_field hz rfl (x := .none) rfl (wpAny_pure ?_))
  simp only [if_true]
  refine wpAny_bind (wpAny_rule ?_)
  refine wpAny_bind (wpAny_field hz rfl (x := .ref TO) rfl ?_)
  refine wpAny_bind (wpAny_setField_rec hz (by simp) fun g1 z1 e1 => ?_)
  replace z1 : IsZip g1 z TI TO .ellipsis := z1
  have a1 : K1.it g1 i1 l1 k1 := K1.itAt h1 fun o q => e1.extBut _ _ D.i1z q
  have b1 : K1.row g1 l1 xs := K1.rowAt hl1 fun o q => e1.extBut _ _ D.l1z q
  refine wpAny_bind ?_
  simp only [List.zipIdx_cons, List.zipIdx_nil, List.forIn_cons, List.forIn_nil]
  refine wpAny_bind (wpAny_bind (wpAny_onRaise ?_))
  show wpAny _ _ (Builtin.SmallTypes.nextOf (.ref i1) >>= _) _ _ _
  cases hx : xs[k1]? with
  | none =>
    refine wpAny_bind (K1.stop hh a1 b1 hx fun g2 e e2 he => ?_)
    obtain ⟨oe, hoe, hce⟩ := he
    have z2 : IsZip g2 z TI TO .ellipsis := e2 _ _ D.i1z.symm z1
    have hez : e ≠ z := fun x => by subst x; rw [z2] at hoe; cases hoe; simp at hce
    refine wpAny_setField_rec z2 (by simp) fun g3 _ e3 => hE g3 e (fun c o c1 _ c3 _ x => e3.extBut _ _ c1 (e2 _ _ c3 (e1.extBut _ _ c1 x))) ⟨oe, e3.extBut _ _ hez hoe, hce⟩
  | some x =>
    have hy : ys[k2]? = none := by rcases hend with h | h; rw [hx] at h; cases h; exact h
    refine wpAny_bind (K1.item a1 b1 hx fun g2 a2 e2 => wpAny_pure ?_)
    have p2 : IsPair g2 TO a b := e2.extBut _ _ D.TOi1 (e1.extBut _ _ D.TOz hTO)
    refine wpAny_bind (wpAny_seqItems p2 rfl ?_)
    refine wpAny_bind (wpAny_updateSeq_pair p2 fun g3 p3 e3 => ?_)
    have up3 : ∀ c o, c ≠ z → c ≠ i1 → c ≠ TO → s.heap.get? c = some o → g3.get? c = some o := fun c o c1 c2 c3 q => e3.extBut _ _ c3 (e2.extBut _ _ c2 (e1.extBut _ _ c1 q))
    refine wpAny_bind (wpAny_letGo (wpAny_pure ?_))
    refine wpAny_bind (wpAny_bind (wpAny_onRaise ?_))
    show wpAny _ _ (Builtin.SmallTypes.nextOf (.ref i2) >>= _) _ _ _
    refine wpAny_bind (K2.stop hh (K2.itAt h2 fun o q => up3 _ o D.i2z D.i12.symm D.TOi2.symm q) (K2.rowAt hl2 fun o q => up3 _ o D.l2z D.l2i1 D.l2TO q) hy fun g4 e e4 he => ?_)
    obtain ⟨oe, hoe, hce⟩ := he
    have z4 : IsZip g4 z TI TO .ellipsis := e4 _ _ D.i2z.symm (e3.extBut _ _ D.TOz.symm (e2.extBut _ _ D.i1z.symm z1))
    have hez : e ≠ z := fun x => by subst x; rw [z4] at hoe; cases hoe; simp at hce
    refine wpAny_setField_rec z4 (by simp) fun g5 _ e5 => hE g5 e (fun c o c1 c2 c3 c4 x => e5.extBut _ _ c1 (e4 _ _ c4 (up3 c o c1 c3 c2 x))) ⟨oe, e5.extBut _ _ hez hoe, hce⟩
theorem zk_next {z TI TO i1 i2 l1 l2 : Addr} {k1 k2 : Nat} {xs ys : Array Value} {x y a b : Value} {Q : Option Value → Shared → Prop} (D : ZipApart z TI TO i1 i2 l1 l2)
    (hz : IsZip s.heap z TI TO .none) (hTI : IsPair s.heap TI (.ref i1) (.ref i2)) (hTO : IsPair s.heap TO a b)
    (h1 : K1.it s.heap i1 l1 k1) (h2 : K2.it s.heap i2 l2 k2) (hl1 : K1.row s.heap l1 xs) (hl2 : K2.row s.heap l2 ys) (hx : xs[k1]? = some x) (hy : ys[k2]? = some y)
    (hQ : ∀ h', IsZip h' z TI TO (rawInt s.heap.objs.size) → IsPair h' TO x y → K1.it h' i1 l1 (k1 + 1) → K2.it h' i2 l2 (k2 + 1) → IsPair h' s.heap.objs.size x y → h'.objs.size = s.heap.objs.size + 1 →
      (∀ c o, c ≠ z → c ≠ TO → c ≠ i1 → c ≠ i2 → s.heap.get? c = some o → h'.get? c = some o) → Q (some (.ref s.heap.objs.size)) { s with heap := h' }) :
    wpAny (model prog w) A (pyNext (.ref z)) Q E s := by
  have hT : s.TypeIs (.ref z) "zip" := ⟨_, hz, rfl⟩
  unfold pyNext
  exact wpAny_bind (wpAny_attempt (wpAny_callSpecial?_slot (name := Str.ofString "__next__") hT F.slot_zip_next
    (wpAny_call_entry F.slot_zip_next hT F.entry_zip_next
      (zk_item K1 K2 D hz hTI hTO h1 h2 hl1 hl2 hx hy fun h' a1 a2 a3 a4 a5 a6 a7 => wpAny_pure (hQ h' a1 a2 a3 a4 a5 a6 a7)) (F.args_zip_next_1 _))))
theorem zk_over {z TI TO i1 i2 l1 l2 : Addr} {k1 k2 : Nat} {xs ys : Array Value} {a b : Value} {Q : Option Value → Shared → Prop} (hh : A.handled = none) (D : ZipApart z TI TO i1 i2 l1 l2)
    (hz : IsZip s.heap z TI TO .none) (hTI : IsPair s.heap TI (.ref i1) (.ref i2)) (hTO : IsPair s.heap TO a b)
    (h1 : K1.it s.heap i1 l1 k1) (h2 : K2.it s.heap i2 l2 k2) (hl1 : K1.row s.heap l1 xs) (hl2 : K2.row s.heap l2 ys) (hend : xs[k1]? = none ∨ ys[k2]? = none)
    (hQ : ∀ h', (∀ c o, c ≠ z → c ≠ TO → c ≠ i1 → c ≠ i2 → s.heap.get? c = some o → h'.get? c = some o) → Q none { s with heap := h' }) : wpAny (model prog w) A (pyNext (.ref z)) Q E s := by
  have hT : s.TypeIs (.ref z) "zip" := ⟨_, hz, rfl⟩
  unfold pyNext
  refine wpAny_bind (wpAny_attempt (wpAny_callSpecial?_slot (name := Str.ofString "__next__") hT F.slot_zip_next
    (wpAny_call_entry F.slot_zip_next hT F.entry_zip_next (zk_end K1 K2 hh D hz hTI hTO h1 h2 hl1 hl2 hend fun h' e hk he => ?_) (F.args_zip_next_1 _))))
  obtain ⟨o, ho, hc⟩ := he
  refine wpAny_bind (wpAny_isInstance (T := "StopIteration") (b := true) ⟨o, ho, hc⟩ isSubtype_stop ?_)
  exact wpAny_pure (hQ _ hk)
end
abbrev zm1 (h : Heap) (l1 : Addr) : Heap := h.push { cls := .type "list_iterator", data := .fields #[.ref l1, .int 0 0] }
abbrev zm2 (h : Heap) (l1 l2 : Addr) : Heap := (zm1 h l1).push { cls := .type "tuple_iterator", data := .fields #[.ref l2, .int 0 0] }
abbrev zm3 (h : Heap) (l1 l2 : Addr) : Heap := (zm2 h l1 l2).push { cls := .type "tuple", data := .seq #[.ref h.objs.size, .ref (zm1 h l1).objs.size] }
abbrev zm4 (h : Heap) (l1 l2 : Addr) : Heap := (zm3 h l1 l2).push { cls := .type "tuple", data := .seq #[.none, .none] }
abbrev zm5 (h : Heap) (l1 l2 : Addr) : Heap := (zm4 h l1 l2).push { cls := .type "zip", data := .fields #[.none, .bool false, .bool false, .ref (zm2 h l1 l2).objs.size, .ref (zm3 h l1 l2).objs.size] }
theorem zm_meets (l1 l2 : Addr) (xs ys : Array Value) :
    Meets (Builtin.«zip.__new__» ⟨[.type "zip", .ref l1, .ref l2], []⟩) (fun _ R s => s.heap.IsList l1 xs ∧ s.heap.IsTuple l2 ys ∧
      R (.ok (.ret (.ref (zm4 s.heap l1 l2).objs.size))) { s with heap := zm5 s.heap l1 l2 }) :=
  .of_wp fun prog w A R s h => by
    obtain ⟨hp, g, d, tk, os⟩ := s; obtain ⟨hl1, hl2, h⟩ := h
    have hsub := sub_zip
    have hL1 : Heap.IsList (Shared.heap ⟨hp, g, d, tk, os⟩) l1 xs := hl1
    have hL2 : Heap.IsTuple (Shared.heap ⟨hp.push { cls := .type "list_iterator", data := .fields #[.ref l1, .int 0 0] }, g, d, tk, os⟩) l2 ys := Heap.IsTuple.push hl2 _
    wp_walk using wpAny_pyIter_list hL1, wpAny_pyIter_tuple hL2
    exact ⟨_, rfl, h⟩
section
variable {prog : Program} {w : World} {A : Around} {E : Value → Shared → Prop} {s : Shared}
theorem zm_call {l1 l2 : Addr} {xs ys : Array Value} {Q : Value → Shared → Prop} (hl1 : s.heap.IsList l1 xs) (hl2 : s.heap.IsTuple l2 ys)
    (h : ∀ h', IsZip h' (s.heap.objs.size + 4) (s.heap.objs.size + 2) (s.heap.objs.size + 3) .none → IsPair h' (s.heap.objs.size + 2) (.ref s.heap.objs.size) (.ref (s.heap.objs.size + 1)) →
      IsPair h' (s.heap.objs.size + 3) .none .none → h'.IsListIter s.heap.objs.size l1 0 → h'.IsTupleIter (s.heap.objs.size + 1) l2 0 → h'.objs.size = s.heap.objs.size + 5 →
      (∀ c o, s.heap.get? c = some o → h'.get? c = some o) → Q (.ref (s.heap.objs.size + 4)) { s with heap := h' }) :
    wpAny (model prog w) A (call (.type "zip") [.ref l1, .ref l2]) Q E s := by
  refine callType_new F.called_zip (by decide) (F.typeCall_zip_2 _ _) (F.newCall_zip_2 _ _) (fun obj => F.args_object_init_3 obj _ _) F.entry_zip_new
    (zm_meets l1 l2 xs ys) ⟨hl1, hl2, ?_⟩
  have z1 : (zm1 s.heap l1).objs.size = s.heap.objs.size + 1 := Heap.size_push ..
  have z2 : (zm2 s.heap l1 l2).objs.size = s.heap.objs.size + 2 := by rw [Heap.size_push, z1]
  have z3 : (zm3 s.heap l1 l2).objs.size = s.heap.objs.size + 3 := by rw [Heap.size_push, z2]
  have z4 : (zm4 s.heap l1 l2).objs.size = s.heap.objs.size + 4 := by rw [Heap.size_push, z3]
  have z5 : (zm5 s.heap l1 l2).objs.size = s.heap.objs.size + 5 := by rw [Heap.size_push, z4]
  have up {h : Heap} {o o' : Obj} {c : Addr} (e : h.get? c = some o) : (h.push o').get? c = some o := Heap.get?_push_of_some _ e
  have g5 : (zm5 s.heap l1 l2).get? (zm4 s.heap l1 l2).objs.size = some _ := Heap.get?_push_size _ rfl
  have g4 : (zm5 s.heap l1 l2).get? (zm3 s.heap l1 l2).objs.size = some _ := up (Heap.get?_push_size _ rfl)
  have g3 : (zm5 s.heap l1 l2).get? (zm2 s.heap l1 l2).objs.size = some _ := up (up (Heap.get?_push_size _ rfl))
  have g2 : (zm5 s.heap l1 l2).get? (zm1 s.heap l1).objs.size = some _ := up (up (up (Heap.get?_push_size _ rfl)))
  have g1 : (zm5 s.heap l1 l2).get? s.heap.objs.size = some _ := up (up (up (up (Heap.get?_push_size _ rfl))))
  show _ ∧ _
  rw [z2, z3, z4] at g5
  rw [z1, z2] at g3
  rw [z3] at g4
  rw [z1] at g2
  rw [z4]
  exact ⟨⟨_, g5, rfl⟩, h _ g5 g3 g4 ⟨_, g1, rfl, rfl⟩ ⟨_, g2, rfl, rfl⟩ z5 fun c o x => up (up (up (up (up x))))⟩
end
/-- the list at a and the tuple at b as they stand at each turn -/
def ItzM (K : PySem.W.Frag) (a b : Addr) : It :=
  ⟨fun i H => ∃ (xs ys : List V) (x y : V), SqL K H a xs ∧ SqT K H b ys ∧ xs[i]? = some x ∧ ys[i]? = some y,
    fun i H v H' => ∃ T x y, v = .ref T ∧ H T = none ∧ H' = upd H T (.tup [x, y]) ∧ (∀ xs, SqL K H a xs → xs[i]? = some x) ∧ ∀ ys, SqT K H b ys → ys[i]? = some y,
    fun i H => ∃ xs ys : List V, SqL K H a xs ∧ SqT K H b ys ∧ (xs.length ≤ i ∨ ys.length ≤ i)⟩
theorem zm_turn {P : Program} {w : World} {K : PySem.W.Frag} {elts : List Expr} {kk : Nat} {tpos : Pos} {a b z TI TO i1 i2 : Addr} (D : ZipApart z TI TO i1 i2 a b) :
    Turn P w K (.Tuple elts kk tpos) (ItzM K a b) [z, TI, TO, i1, i2] z (fun i h => IsZip h z TI TO .none ∧ IsPair h TI (.ref i1) (.ref i2) ∧ (∃ x y, IsPair h TO x y) ∧ kzL.it h i1 a i ∧ kzT.it h i2 b i) where
  mem := by simp
  obj := fun i h st c hc => by
    obtain ⟨hz, hTI, ⟨x, y, hTO⟩, h1, h2⟩ := st
    obtain ⟨o1, f1, e1, d1⟩ := kzL.got h1
    obtain ⟨o2, f2, e2, d2⟩ := kzT.got h2
    have e' : c = z ∨ c = TI ∨ c = TO ∨ c = i1 ∨ c = i2 := by simpa using hc
    rcases e' with q | q | q | q | q
    · rw [q]; exact ⟨_, hz, fun v q => nomatch q⟩
    · rw [q]; exact ⟨_, hTI, fun v q => nomatch q⟩
    · rw [q]; exact ⟨_, hTO, fun v q => nomatch q⟩
    · rw [q]; exact ⟨o1, e1, fun v q => by rw [d1] at q; cases q⟩
    · rw [q]; exact ⟨o2, e2, fun v q => by rw [d2] at q; cases q⟩
  keep := fun i h h' st k => by
    obtain ⟨hz, hTI, ⟨x, y, hTO⟩, h1, h2⟩ := st
    exact ⟨k z (by simp) _ hz, k TI (by simp) _ hTI, ⟨x, y, k TO (by simp) _ hTO⟩, kzL.itAt h1 fun o q => k i1 (by simp) o q, kzT.itAt h2 fun o q => k i2 (by simp) o q⟩
  item := by
    intro X hP hw hK hc i pins s σ H E I hf st hg
    subst hP hw hK
    obtain ⟨hz, hTI, ⟨x0, y0, hTO⟩, h1, h2⟩ := st
    obtain ⟨xs, ys, x, y, hqx, hqy, hx, hy⟩ := hg
    obtain ⟨its, rv, p, _⟩ := I.list hqx
    obtain ⟨its2, rv2, p2, _⟩ := I.tuple hqy
    obtain ⟨u, hu, ru⟩ := rv.get hx
    obtain ⟨u2, hu2, ru2⟩ := rv2.get hy
    have hzl : z < s.heap.objs.size := Heap.lt_size hz
    refine zk_next kzL kzT D hz hTI hTO h1 h2 p.isList p2 (x := u) (y := u2) (by simpa using hu) (by simpa using hu2) fun h' z' TO' h1' h2' hT hsz hk => ?_
    refine ⟨_, rfl, wpAny_letOwnedTupleGo_zip (s := { s with heap := h' }) z' fun h'' z'' sb => ?_⟩
    have hT2 : h''.get? s.heap.objs.size = some { cls := .type "tuple", data := .seq #[u, u2] } := (sb.2 _ (Nat.ne_of_gt hzl)).trans hT
    have new : ObjOk X.prog X.w (upd H s.heap.objs.size (.tup [x, y])) h'' s.heap.objs.size (.tup [x, y]) :=
      ⟨by show 2 ≤ sizeLine; decide, [u, u2], .cons ru (.cons ru2 .nil), ⟨_, hT2, rfl, _, rfl⟩⟩
    have I1 : Inv X pins σ (upd H s.heap.objs.size (.tup [x, y])) { s with heap := h'' } :=
      I.turnedNew (t' := s.toks) (ch := [z, TI, TO, i1, i2]) (fun c o hb q => (sb.2 c (fun q' => hb (by simp [q']))).trans (hk c o (fun q' => hb (by simp [q'])) (fun q' => hb (by simp [q'])) (fun q' => hb (by simp [q'])) (fun q' => hb (by simp [q'])) q)) hf (Nat.le_refl _) new
    refine ⟨.ref s.heap.objs.size, _, I1, rfl, ⟨_, x, y, rfl, I.hok.fresh (Nat.le_refl _), rfl, fun l hl => by rw [I.list_inj hl hqx]; exact hx, fun l hl => by rw [I.tuple_inj hl hqy]; exact hy⟩, ⟨z'', ?_, ⟨u, u2, ?_⟩, ?_, ?_⟩, fun c hcm => ?_⟩
    · exact (sb.2 _ D.TIz).trans (hk _ _ D.TIz D.TITO D.TIi1 D.TIi2 hTI)
    · exact (sb.2 _ D.TOz).trans TO'
    · exact kzL.itAt h1' fun o q => (sb.2 _ D.i1z).trans q
    · exact kzT.itAt h2' fun o q => (sb.2 _ D.i2z).trans q
    · have hlt : c < s.heap.objs.size := by
        have e' : c = z ∨ c = TI ∨ c = TO ∨ c = i1 ∨ c = i2 := by simpa using hcm
        rcases e' with q | q | q | q | q
        · rw [q]; exact hzl
        · rw [q]; exact Heap.lt_size hTI
        · rw [q]; exact Heap.lt_size hTO
        · rw [q]; obtain ⟨_, _, e1, _⟩ := kzL.got h1; exact Heap.lt_size e1
        · rw [q]; obtain ⟨_, _, e2, _⟩ := kzT.got h2; exact Heap.lt_size e2
      rw [upd_ne (Nat.ne_of_lt hlt)]
      exact (hf c hcm).1
  done := by
    intro X hP hw hK hc i pins s σ H E I hf st hg
    subst hP hw hK
    obtain ⟨hz, hTI, ⟨x0, y0, hTO⟩, h1, h2⟩ := st
    obtain ⟨xs, ys, hqx, hqy, hend⟩ := hg
    obtain ⟨its, rv, p, _⟩ := I.list hqx
    obtain ⟨its2, rv2, p2, _⟩ := I.tuple hqy
    have l1 := rv.length
    have l2 := rv2.length
    have he : its.toArray[i]? = none ∨ its2.toArray[i]? = none := by
      rcases hend with q | q
      · exact .inl (by simp; omega)
      · exact .inr (by simp; omega)
    exact zk_over kzL kzT (I.ok.hd hc) D hz hTI hTO h1 h2 p.isList p2 he fun h' hk => ⟨rfl, I.turnedL (t' := s.toks) (ch := [z, TI, TO, i1, i2]) (fun c o hb q =>
      hk c o (fun q' => hb (by simp [q'])) (fun q' => hb (by simp [q'])) (fun q' => hb (by simp [q'])) (fun q' => hb (by simp [q'])) q) hf⟩
  self := fun A i s Q E st h => wpAny_pyIter_zip st.1 h
/-- zip of lists, of tuples, of a list and a tuple -/
def iZm (K : PySem.W.Frag) (ta : TA) : TI := fun σ H R => ta σ H fun vs H1 => ∃ a b xs ys, vs = [.ref a, .ref b] ∧
  ((SqL K H1 a xs ∧ SqL K H1 b ys ∧ R (Itz K a b) H1) ∨ (SqT K H1 a xs ∧ SqT K H1 b ys ∧ R (RZ.ItzT K a b) H1) ∨ (SqL K H1 a xs ∧ SqT K H1 b ys ∧ R (ItzM K a b) H1))
theorem pi_zm {X : Cx} {e e2 : Expr} {ta : TA} {p pos tpos : Pos} {elts : List Expr} {kk : Nat} (hg : Gl X "zip") (hm : X.mg "zip" = none) (ha : PA X [e, e2] ta)
    (hs : starEach [e, e2] X.env = (false, eval e X.env) :: starEach [e2] X.env := by rfl) (hpl : (backTo pos (starEach [e2] X.env)).any (·.1) = false := by rfl) :
    PI X (.Tuple elts kk tpos) (.Call (.Name "zip" p) [e, e2] [] pos) (iZm X.K ta) := by
  refine ⟨fun pins s σ H R I h => ?_⟩
  refine Call_ (ld_blt I hg hm PyProof.Rows.boot_zip (PyProof.Rows.callWith_type1 (thn (ha.run pos pins s σ H _ I h) fun us s1 ⟨vs, H1, I1, r1, q1⟩ => ?_) hs hpl))
  obtain ⟨a, b, xs, ys, ex, q1⟩ := q1
  subst ex
  cases r1 with
  | cons r rr =>
    cases rr with
    | cons r' rr =>
      cases rr
      cases r
      cases r'
      have fresh5 : ∀ c, c ∈ [s1.heap.objs.size + 4, s1.heap.objs.size + 2, s1.heap.objs.size + 3, s1.heap.objs.size, s1.heap.objs.size + 1] → FpOk X pins H1 c := fun c hcm => by
        have hle : s1.heap.objs.size ≤ c := by
          simp only [List.mem_cons, List.not_mem_nil, or_false] at hcm
          omega
        exact I1.fpOk hle (I1.hok.fresh hle)
      rcases q1 with ⟨hqx, hqy, q⟩ | ⟨hqx, hqy, q⟩ | ⟨hqx, hqy, q⟩
      · obtain ⟨its, rv, p1, _⟩ := I1.list hqx
        obtain ⟨its2, rv2, p2, _⟩ := I1.list hqy
        refine call_zip_2 p1.isList p2.isList fun h' hz hTI hTO h1 h2 hsz hk => wpAny_pyIter_zip hz ?_
        have I2 : Inv X pins σ H1 { s1 with heap := h' } := I1.kept (t' := s1.toks) hk
        exact ⟨s1.heap.objs.size + 4, [s1.heap.objs.size + 4, s1.heap.objs.size + 2, s1.heap.objs.size + 3, s1.heap.objs.size, s1.heap.objs.size + 1], _, _, H1, rfl, I2, turn_zip (PySem.W.ktu_apart s1.heap.objs.size a b p1.lt p2.lt), ⟨hz, hTI, ⟨_, _, hTO⟩, h1, h2⟩, fresh5, q⟩
      · obtain ⟨its, rv, p1, _⟩ := I1.tuple hqx
        obtain ⟨its2, rv2, p2, _⟩ := I1.tuple hqy
        obtain ⟨o1, ho1, _⟩ := id p1
        obtain ⟨o2, ho2, _⟩ := id p2
        refine RZ.call_zipT (show s1.heap.IsTuple a its.toArray from p1) (show s1.heap.IsTuple b its2.toArray from p2) fun h' hz hTI hTO h1 h2 hsz hk => wpAny_pyIter_zip hz ?_
        have I2 : Inv X pins σ H1 { s1 with heap := h' } := I1.kept (t' := s1.toks) hk
        exact ⟨s1.heap.objs.size + 4, [s1.heap.objs.size + 4, s1.heap.objs.size + 2, s1.heap.objs.size + 3, s1.heap.objs.size, s1.heap.objs.size + 1], _, _, H1, rfl, I2, RZ.turn_zipT (PySem.W.ktu_apart s1.heap.objs.size a b (Heap.lt_size ho1) (Heap.lt_size ho2)), ⟨hz, hTI, ⟨_, _, hTO⟩, h1, h2⟩, fresh5, q⟩
      · obtain ⟨its, rv, p1, _⟩ := I1.list hqx
        obtain ⟨its2, rv2, p2, _⟩ := I1.tuple hqy
        obtain ⟨o2, ho2, _⟩ := id p2
        refine zm_call p1.isList (show s1.heap.IsTuple b its2.toArray from p2) fun h' hz hTI hTO h1 h2 hsz hk => wpAny_pyIter_zip hz ?_
        have I2 : Inv X pins σ H1 { s1 with heap := h' } := I1.kept (t' := s1.toks) hk
        exact ⟨s1.heap.objs.size + 4, [s1.heap.objs.size + 4, s1.heap.objs.size + 2, s1.heap.objs.size + 3, s1.heap.objs.size, s1.heap.objs.size + 1], _, _, H1, rfl, I2, zm_turn (PySem.W.ktu_apart s1.heap.objs.size a b p1.lt (Heap.lt_size ho2)), ⟨hz, hTI, ⟨_, _, hTO⟩, h1, h2⟩, fresh5, q⟩
end Ov

/-! What is walked. -/
namespace Ov
open PySem PySem.Spec L2
section
variable {X : Cx} {T : Tb} {G : Gm} {tb : Tbl} {k : Nat} {σ : L2.St} {H : Hp} {as : List Addr} {st : Store} {ρ : Env} {a b c e tg : Expr} {ea eb ec : E} {pos p p2 apos : Pos} {es : List Expr} {eL : E}
/-- the walk J gives these items, as long as ok holds of the store -/
def Gives (T : Tb) (as : List Addr) (H : Hp) (ok : Store → Bool) (xs : List Val) (J : It) : Prop := ∀ as' H' st', Ext as H as' H' → Rel T as' H' st' → ok st' = true →
  (∀ i v, xs[i]? = some v → J.go i H' ∧ ∀ x H'', J.yld i H' x H'' → ∃ as'', Ext as' H' as'' H'' ∧ Rel T as'' H'' st' ∧ RepV T as'' H'' v x) ∧ J.stop xs.length H'
def repW (T : Tb) (as : List Addr) (H : Hp) (w : Wk) (J : It) : Prop := match w with
  | .free xs => Gives T as H (fun _ => true) xs J
  | .keep l o xs => Gives T as H (stands l o) xs J
  | .lock _ _ _ _ => False
  | .keep2 l o m q xs => Gives T as H (stands2 l o m q) xs J
def tW (X : Cx) (T : Tb) (G : Gm) (it : E) : TI := fun σ H R => ∃ as st ρ, Rel T as H st ∧ RepE T as H ρ σ ∧ PC T (repW T) as H (evw G it ρ st) (fun J H' => R J H') (EK X σ)
theorem PI.le {iter : Expr} {t t' : TI} (h : PI X tg iter t) (m : ∀ σ H R, t' σ H R → t σ H R) : PI X tg iter t' := ⟨fun pins s σ H R I q => h.run pins s σ H R I (m _ _ _ q)⟩
/-- a value is walked: a list, a tuple, a text -/
theorem pi_val {iter : Expr} {t : TE} (h : PE X iter t) : PI X tg iter (fun σ H R => t σ H fun x H1 => (∃ a xs, x = .ref a ∧ SqL X.K H1 a xs ∧ R (Itl X.K a) H1) ∨ (∃ a xs, x = .ref a ∧ SqT X.K H1 a xs ∧ R (Itt X.K a) H1) ∨ ∃ z, x = .str z ∧ R (Its z) H1) := by
  refine ⟨fun pins s σ H R I hw => thn (h.run pins s σ H _ I hw) fun v s1 ⟨x, H1, I1, r1, q⟩ => ?_⟩
  rcases q with ⟨a, xs, rfl, hs, q⟩ | ⟨a, xs, rfl, hs, q⟩ | ⟨z, rfl, q⟩
  · cases r1
    obtain ⟨its, _, pl, _⟩ := I1.list hs
    exact wpAny_pyIter_list pl.isList (pi_one (tk := s1.toks) I1 _ (turn_list a _) ⟨_, Heap.get?_push_size _ rfl, rfl, rfl⟩ q)
  · cases r1
    obtain ⟨its, _, pl, _⟩ := I1.tuple hs
    exact wpAny_pyIter_tuple (show s1.heap.IsTuple a its.toArray from pl) (pi_one (tk := s1.toks) I1 _ (turn_tuple a _) ⟨_, Heap.get?_push_size _ rfl, rfl, rfl⟩ q)
  · obtain ⟨t, rfl⟩ := r1
    cases ha : z.cps.all (· < 128)
    · exact wpAny_pyIter_wide ha (pi_one (tk := s1.toks) I1 _ (turn_str _ z t "str_iterator" (.inr rfl)) ⟨_, Heap.get?_push_size _ rfl, rfl, rfl⟩ q)
    · exact wpAny_pyIter_ascii ha (pi_one (tk := s1.toks) I1 _ (turn_str _ z t "str_ascii_iterator" (.inl rfl)) ⟨_, Heap.get?_push_size _ rfl, rfl, rfl⟩ q)
theorem gives_list (hK : X.K = T.K) {l : Nat} {o : Ob} {vs : List Val} {ad : Addr} (hl : ∀ st', sget st' l = some o → lstOf st' l = some vs) (ha : as[l]? = some ad) : Gives T as H (stands l o) vs (Itl X.K ad) := by
  intro as' H' st' e r ok
  have hs : sget st' l = some o := of_decide_eq_true ok
  obtain ⟨xs, hq, hp⟩ := r.lstOf (hl st' hs) (e.as_get ha)
  rw [← hK] at hq
  refine ⟨fun i v hi => ?_, xs, hq, by rw [hp.length]; exact Nat.le_refl _⟩
  obtain ⟨x, hx, px⟩ := hp.get hi
  refine ⟨⟨xs, x, hq, hx⟩, fun y H'' hy => ?_⟩
  obtain ⟨rfl, hy⟩ := hy
  have := hy xs hq
  rw [hx] at this
  cases this
  exact ⟨as', Ext.refl _ _, r, px⟩
theorem gives_tup (hK : X.K = T.K) {vs : List Val} {zs : List V} {ad : Addr} (ht : TupAt T H ad zs) (hp : RepVs T as H vs zs) : Gives T as H (fun _ => true) vs (Itt X.K ad) := by
  intro as' H' st' e r _
  have hq : SqT X.K H' ad zs := by rw [hK]; exact (ht.ext e).sqT
  have hp' := RepVs.ext e _ _ hp
  refine ⟨fun i v hi => ?_, zs, hq, by rw [hp.length]; exact Nat.le_refl _⟩
  obtain ⟨x, hx, px⟩ := hp'.get hi
  refine ⟨⟨zs, x, hq, hx⟩, fun y H'' hy => ?_⟩
  obtain ⟨rfl, hy⟩ := hy
  have := hy zs hq
  rw [hx] at this
  cases this
  exact ⟨as', Ext.refl _ _, r, px⟩
theorem gives_str {z : Str} : Gives T as H (fun _ => true) (z.cps.toList.map fun c => Val.str ⟨#[c]⟩) (Its z) := by
  intro as' H' st' e r _
  refine ⟨fun i v hi => ?_, ?_⟩
  · rw [List.getElem?_map] at hi
    cases q : z.cps.toList[i]? with
    | none => rw [q] at hi; cases hi
    | some c =>
      rw [q] at hi
      cases hi
      have hlt : i < z.cps.size := by
        have := (List.getElem?_eq_some_iff.mp q).1
        simpa using this
      refine ⟨hlt, fun y H'' hy => ?_⟩
      obtain ⟨rfl, c', hc, rfl⟩ := hy
      have : z.cps[i]? = some c := by simpa using q
      rw [this] at hc
      cases hc
      exact ⟨as', Ext.refl _ _, r, rfl⟩
  · show z.cps.size ≤ _
    simp
theorem upTo_get : ∀ (n : Nat) (a : Int) (i : Nat) (v : Val), (upTo a n)[i]? = some v → i < n ∧ v = .int (a + i)
  | 0, _, _, _, h => by simp [upTo] at h
  | n + 1, a, 0, v, h => by simp [upTo] at h; exact ⟨by omega, by rw [← h]; simp⟩
  | n + 1, a, i + 1, v, h => by
    simp only [upTo, List.getElem?_cons_succ] at h
    obtain ⟨h1, h2⟩ := upTo_get n (a + 1) i v h
    refine ⟨by omega, ?_⟩
    rw [h2]
    congr 1
    omega
theorem upTo_len : ∀ (n : Nat) (a : Int), (upTo a n).length = n
  | 0, _ => rfl
  | n + 1, a => by simp [upTo, upTo_len n]
theorem gives_range {lo : Int} {n : Nat} : Gives T as H (fun _ => true) (upTo lo n) (Itr lo n) := by
  intro as' H' st' e r _
  refine ⟨fun i v hi => ?_, by show n ≤ _; rw [upTo_len]; exact Nat.le_refl _⟩
  obtain ⟨h1, rfl⟩ := upTo_get _ _ _ _ hi
  refine ⟨h1, fun y H'' hy => ?_⟩
  obtain ⟨rfl, rfl⟩ := hy
  exact ⟨as', Ext.refl _ _, r, rfl⟩
theorem numbered_get : ∀ (vs : List Val) (a : Int) (i : Nat) (v : Val), (numbered a vs)[i]? = some v → ∃ w, vs[i]? = some w ∧ v = .tup [.int (a + i), w]
  | [], _, _, _, h => by simp [numbered] at h
  | w :: vs, a, 0, v, h => by simp [numbered] at h; exact ⟨w, rfl, by rw [← h]; simp⟩
  | w :: vs, a, i + 1, v, h => by
    simp only [numbered, List.getElem?_cons_succ] at h
    obtain ⟨u, h1, h2⟩ := numbered_get vs (a + 1) i v h
    refine ⟨u, by simpa using h1, ?_⟩
    rw [h2]
    congr 3
    omega
theorem numbered_len : ∀ (vs : List Val) (a : Int), (numbered a vs).length = vs.length
  | [], _ => rfl
  | v :: vs, a => by simp [numbered, numbered_len vs]
theorem gives_enum (hK : X.K = T.K) {l : Nat} {o : Ob} {vs : List Val} {ad : Addr} (hl : ∀ st', sget st' l = some o → lstOf st' l = some vs) (ha : as[l]? = some ad) : Gives T as H (stands l o) (numbered 0 vs) (Ite X.K ad) := by
  intro as' H' st' e r ok
  have hs : sget st' l = some o := of_decide_eq_true ok
  obtain ⟨xs, hq, hp⟩ := r.lstOf (hl st' hs) (e.as_get ha)
  rw [← hK] at hq
  refine ⟨fun i v hi => ?_, xs, hq, by rw [numbered_len, hp.length]; exact Nat.le_refl _⟩
  obtain ⟨w, hw, rfl⟩ := numbered_get _ _ _ _ hi
  obtain ⟨x, hx, px⟩ := hp.get hw
  refine ⟨⟨xs, x, hq, hx⟩, fun y H'' hy => ?_⟩
  obtain ⟨P, x', rfl, hP, rfl, hy⟩ := hy
  have := hy xs hq
  rw [hx] at this
  cases this
  have ex : Ext as' H' as' (upd H' P (.tup [.int (i : Nat), x])) := Ext.lay hP
  refine ⟨as', ex, r.lay hP, P, _, rfl, upd_same, ⟨_, _, rfl, ?_, _, _, rfl, RepV.ext ex _ _ px, rfl⟩⟩
  show V.int _ = V.int _
  rw [Int.zero_add]
theorem si_val (cn : Cn T G tb k X) (ha : PE X a (tE X T G ea)) (hn : ∀ v ar, wkOf ea v ar = v.bind Wk.ofVal) : PI X tg a (tW X T G ea) := by
  refine PI.le (pi_val ha) fun σ H R h => ?_
  obtain ⟨as, st, ρ, r, q, h⟩ := h
  have h' : PC T (repW T) as H ((ev G ea ρ st).bind Wk.ofVal) (fun J H' => R J H') (EK X σ) := by
    unfold evw at h
    rw [hn] at h
    exact h
  refine (pc1 r q h').mono fun x H1 q => ?_
  obtain ⟨as1, st1, v, e1, r1, p1, _, q⟩ := q
  cases v with
  | ktp vs => exact q.elim
  | tup vs =>
    obtain ⟨ad, zs, rfl, ht, hp⟩ := p1
    exact .inr (.inl ⟨ad, zs, rfl, by rw [cn.hK]; exact ht.sqT, PC.here (show PC T (repW T) as1 H1 (.ok (.free vs) st1) _ (EK X σ) from q) r1 (gives_tup cn.hK ht hp)⟩)
  | str z =>
    cases p1
    have q' : PC T (repW T) as1 H1 (if z.length ≤ lim then .ok (.free (z.cps.toList.map fun c => .str ⟨#[c]⟩)) st1 else .bad) (fun J H' => R J H') (EK X σ) := q
    split at q'
    · exact .inr (.inr ⟨z, rfl, PC.here q' r1 gives_str⟩)
    · exact q'.elim
  | loc l =>
    obtain ⟨ad, had, rfl⟩ := p1.loc
    have q' : PC T (repW T) as1 H1 (match sget st1 l with
      | some (.lst vs) => .ok (.keep l (.lst vs) vs) st1
      | some (.rol vs) => .ok (.keep l (.rol vs) vs) st1
      | _ => .bad) (fun J H' => R J H') (EK X σ) := q
    split at q'
    · rename_i vs e
      obtain ⟨xs, q1, _⟩ := r1.lstOf (lstOf_of e) had
      exact .inl ⟨ad, xs, rfl, by rw [cn.hK]; exact q1, PC.here q' r1 (gives_list cn.hK (fun _ => lstOf_of) had)⟩
    · rename_i vs e
      obtain ⟨xs, q1, _⟩ := r1.lstOf (lstOf_of' e) had
      exact .inl ⟨ad, xs, rfl, by rw [cn.hK]; exact q1, PC.here q' r1 (gives_list cn.hK (fun _ => lstOf_of') had)⟩
    · exact q'.elim
  | non => exact q.elim
  | bl _ => exact q.elim
  | int _ => exact q.elim
theorem evs1 (ρ : Env) (s : Store) : evs G (.cons ea .nil) ρ s = (ev G ea ρ s).bind fun x s => .ok [x] s := by
  rw [evs]
  congr 1
theorem evs2 (ρ : Env) (s : Store) : evs G (.cons ea (.cons eb .nil)) ρ s = (ev G ea ρ s).bind fun x s => (ev G eb ρ s).bind fun y s => .ok [x, y] s := by
  rw [evs]
  congr 1
  funext x s
  rw [evs1, bind_bind]
  congr 1
theorem si_range1 (cn : Cn T G tb k X) (h2 : glbB X.env.scope "range" = true) (h3 : ("range" : Str) ∈ tb.frees) (ha : PE X a (tE X T G ea)) (hs : nstar a = true) : PI X tg (.Call (.Name "range" p) [a] [] pos) (tW X T G (.bi .range (.cons ea .nil))) := by
  refine PI.le (pi_range1 (glbB_ok h2) (cn.wd.frees _ h3) (pa_cons ha pa_nil (nstar_star hs _ _)) (nstar_star hs _ _)) fun σ H R h => ?_
  obtain ⟨as, st, ρ, r, q, h⟩ := h
  have h' : PC T (repW T) as H ((ev G ea ρ st).bind fun x s => Wk.rangeOf [x] s) (fun J H' => R J H') (EK X σ) := by
    unfold evw at h
    rw [evs] at h
    have h2 : PC T (repW T) as H ((evs G (.cons ea .nil) ρ st).bind Wk.rangeOf) (fun J H' => R J H') (EK X σ) := h
    rw [evs1, bind_bind] at h2
    exact h2
  refine (pc1 r q h').mono fun x H1 q => ?_
  obtain ⟨as1, st1, v, e1, r1, p1, _, q⟩ := q
  cases v with
  | int j =>
    cases p1
    have q' : PC T (repW T) as1 H1 (if -(2 ^ 62) ≤ j ∧ j < 2 ^ 62 then .ok (.free (upTo 0 j.toNat)) st1 else .bad) (fun J H' => R J H') (EK X σ) := q
    split at q'
    · rename_i cc
      exact ⟨j, rfl, cc.1, cc.2, PC.here q' r1 gives_range⟩
    · exact q'.elim
  | _ => exact q.elim
theorem si_range2 (cn : Cn T G tb k X) (h2 : glbB X.env.scope "range" = true) (h3 : ("range" : Str) ∈ tb.frees) (ha : PE X a (tE X T G ea)) (hs : nstar a = true) (hb : PE X b (tE X T G eb)) (hs' : nstar b = true) :
    PI X tg (.Call (.Name "range" p) [a, b] [] pos) (tW X T G (.bi .range (.cons ea (.cons eb .nil)))) := by
  refine PI.le (pi_range2 (glbB_ok h2) (cn.wd.frees _ h3) (pa_cons ha (pa_cons hb pa_nil (nstar_star hs' _ _)) (nstar_star hs _ _)) (by rw [nstar_star hs, nstar_star hs']; rfl) (nstar_star hs' _ _)) fun σ H R h => ?_
  obtain ⟨as, st, ρ, r, q, h⟩ := h
  have h' : PC T (repW T) as H ((ev G ea ρ st).bind fun x s => (ev G eb ρ s).bind fun y s => Wk.rangeOf [x, y] s) (fun J H' => R J H') (EK X σ) := by
    unfold evw at h
    rw [evs] at h
    have h2 : PC T (repW T) as H ((evs G (.cons ea (.cons eb .nil)) ρ st).bind Wk.rangeOf) (fun J H' => R J H') (EK X σ) := h
    rw [evs2, bind_bind] at h2
    have e : (fun (x : Val) s => ((ev G eb ρ s).bind fun y s => Ov.R.ok [x, y] s).bind Wk.rangeOf) = fun x s => (ev G eb ρ s).bind fun y s => Wk.rangeOf [x, y] s := by
      funext x s; rw [bind_bind]; rfl
    rw [e] at h2
    exact h2
  refine (pc2 r q h').mono fun x H1 q1 => q1.mono fun y H2 q2 => ?_
  obtain ⟨as2, st2, v, w, _, r2, p1, p2, _, q⟩ := q2
  cases v with
  | int i =>
    cases w with
    | int j =>
      cases p1; cases p2
      have q' : PC T (repW T) as2 H2 (if -(2 ^ 62) ≤ i ∧ i < 2 ^ 62 ∧ -(2 ^ 62) ≤ j ∧ j < 2 ^ 62 then .ok (.free (upTo i (j - i).toNat)) st2 else .bad) (fun J H' => R J H') (EK X σ) := q
      split at q'
      · rename_i cc
        exact ⟨i, j, rfl, cc, PC.here q' r2 gives_range⟩
      · exact q'.elim
    | _ => exact q.elim
  | _ => exact q.elim
theorem evs3 (ρ : Env) (s : Store) : evs G (.cons ea (.cons eb (.cons ec .nil))) ρ s = (ev G ea ρ s).bind fun x s => (ev G eb ρ s).bind fun y s => (ev G ec ρ s).bind fun z s => .ok [x, y, z] s := by
  rw [evs]
  congr 1
  funext x s
  rw [evs2, bind_bind]
  congr 1
  funext y s
  rw [bind_bind]
  congr 1
theorem stepTo_get : ∀ (n : Nat) (a c : Int) (i : Nat) (v : Val), (stepTo a c n)[i]? = some v → i < n ∧ v = .int (a + i * c)
  | 0, _, _, _, _, h => by simp [stepTo] at h
  | n + 1, a, c, 0, v, h => by simp [stepTo] at h; exact ⟨by omega, by rw [← h]; simp⟩
  | n + 1, a, c, i + 1, v, h => by
    simp only [stepTo, List.getElem?_cons_succ] at h
    obtain ⟨h1, h2⟩ := stepTo_get n (a + c) c i v h
    refine ⟨by omega, ?_⟩
    rw [h2]
    congr 1
    rw [show ((i + 1 : Nat) : Int) = (i : Int) + 1 from rfl, Int.add_mul, Int.one_mul]
    omega
theorem stepTo_len : ∀ (n : Nat) (a c : Int), (stepTo a c n).length = n
  | 0, _, _ => rfl
  | n + 1, a, c => by simp [stepTo, stepTo_len n]
theorem gives_rangeC {lo c : Int} {n : Nat} : Gives T as H (fun _ => true) (stepTo lo c n) (Itc lo c n) := by
  intro as' H' st' e r _
  refine ⟨fun i v hi => ?_, by show n ≤ _; rw [stepTo_len]; exact Nat.le_refl _⟩
  obtain ⟨h1, rfl⟩ := stepTo_get _ _ _ _ _ hi
  refine ⟨h1, fun y H'' hy => ?_⟩
  obtain ⟨rfl, rfl⟩ := hy
  exact ⟨as', Ext.refl _ _, r, rfl⟩
theorem si_range3 (cn : Cn T G tb k X) {a b c : Expr} (h2 : glbB X.env.scope "range" = true) (h3 : ("range" : Str) ∈ tb.frees) (ha : PE X a (tE X T G ea)) (hs : nstar a = true) (hb : PE X b (tE X T G eb)) (hs' : nstar b = true) (hc : PE X c (tE X T G ec)) (hs2 : nstar c = true) :
    PI X tg (.Call (.Name "range" p) [a, b, c] [] pos) (tW X T G (.bi .range (.cons ea (.cons eb (.cons ec .nil))))) := by
  refine PI.le (pi_range3 (glbB_ok h2) (cn.wd.frees _ h3) (pa_cons ha (pa_cons hb (pa_cons hc pa_nil (nstar_star hs2 _ _)) (nstar_star hs' _ _)) (nstar_star hs _ _)) (nstar_star hs _ _) (by rw [nstar_star hs', nstar_star hs2]; rfl)) fun σ H R h => ?_
  obtain ⟨as, st, ρ, r, q, h⟩ := h
  have h' : PC T (repW T) as H ((ev G ea ρ st).bind fun x s => (ev G eb ρ s).bind fun y s => (ev G ec ρ s).bind fun z s => Wk.rangeOf [x, y, z] s) (fun J H' => R J H') (EK X σ) := by
    unfold evw at h
    rw [evs] at h
    have h2 : PC T (repW T) as H ((evs G (.cons ea (.cons eb (.cons ec .nil))) ρ st).bind Wk.rangeOf) (fun J H' => R J H') (EK X σ) := h
    rw [evs3, bind_bind] at h2
    have e : (fun (x : Val) s => ((ev G eb ρ s).bind fun y s => (ev G ec ρ s).bind fun z s => Ov.R.ok [x, y, z] s).bind Wk.rangeOf) = fun x s => (ev G eb ρ s).bind fun y s => (ev G ec ρ s).bind fun z s => Wk.rangeOf [x, y, z] s := by
      funext x s; rw [bind_bind]
      congr 1
      funext y s; rw [bind_bind]; rfl
    rw [e] at h2
    exact h2
  refine (pc1 r q h').mono fun x H1 q1 => ?_
  obtain ⟨as1, st1, v, e1, r1, p1, q1, h1⟩ := q1
  refine (pc2 r1 q1 h1).mono fun y H2 q2 => q2.mono fun z H3 q3 => ?_
  obtain ⟨as2, st2, w, u, e2, r2, p2, p3, _, q⟩ := q3
  have p1 := RepV.ext e2 _ _ p1
  cases v with
  | int i =>
    cases w with
    | int j =>
      cases u with
      | int c =>
        cases p1; cases p2; cases p3
        have q' : PC T (repW T) as2 H3 (if c ≠ 0 ∧ c.natAbs < 1073741824 ∧ Builtin.Range.small i j c = true ∧ 0 ≤ Builtin.Range.rangeSize i j c then .ok (.free (stepTo i c (Builtin.Range.rangeSize i j c).toNat)) st2 else .bad) (fun J H' => R J H') (EK X σ) := q
        split at q'
        · rename_i cc
          exact ⟨i, j, c, _, rfl, ⟨cc.1, cc.2.1, cc.2.2.1, (Int.toNat_of_nonneg cc.2.2.2).symm⟩, PC.here q' r2 gives_rangeC⟩
        · exact q'.elim
      | _ => exact q.elim
    | _ => exact q.elim
  | _ => exact q.elim
/-! ### a text numbered -/
theorem draws_sign {prog : Program} {w : World} {A : Around} (no : A.handled = none) (it : Addr) (x : Str) (t : Tok) : Draws prog w A it [it] x.cps.size (fun j v => ∃ c u, x.cps[j]? = some c ∧ v = .str ⟨#[c]⟩ u) (fun j h => h.IsStrIter it (strIterType x) x t j) := by
  cases q : x.cps.all (· < 128)
  · have z : strIterType x = "str_iterator" := by unfold strIterType; rw [q]; rfl
    rw [z]; exact Draws.strWide no it x t
  · have z : strIterType x = "str_ascii_iterator" := by unfold strIterType; rw [q]; rfl
    rw [z]; exact Draws.strAscii no it x t
/-- its signs, each in a pair that is laid anew -/
def Ites (x : Str) : It :=
  ⟨fun i _ => i < x.cps.size, fun i H v J => ∃ q c, x.cps[i]? = some c ∧ v = .ref q ∧ H q = none ∧ J = upd H q (.tup [.int (i : Nat), .str ⟨#[c]⟩]), fun i _ => x.cps.size ≤ i⟩
theorem turn_enumS {P : Program} {w : World} {K : PySem.W.Frag} {els : List Expr} {n : Nat} {tp : Pos} (e it : Addr) (x : Str) (t : Tok) :
    Turn P w K (.Tuple els n tp) (Ites x) [e, it] e (fun i h => (i ≤ x.cps.size ∧ ∃ old, IsEnum h e it ((i : Nat) : Int) old) ∧ h.IsStrIter it (strIterType x) x t i ∧ e ≠ it) where
  mem := List.mem_cons_self
  obj := fun i h st b hb => by
    obtain ⟨⟨_, old, he⟩, ⟨o, ho, hc, hd⟩, _⟩ := st
    rcases List.mem_cons.mp hb with z | z
    · rw [z]; exact ⟨_, he, nofun⟩
    · rw [List.mem_singleton.mp z]; exact ⟨o, ho, fun v q => by rw [hd] at q; cases q⟩
  keep := fun i h h' st k => by
    obtain ⟨⟨b, old, he⟩, ⟨o, ho, r⟩, ne⟩ := st
    exact ⟨⟨b, old, k e List.mem_cons_self _ he⟩, ⟨o, k it (List.mem_cons_of_mem _ List.mem_cons_self) o ho, r⟩, ne⟩
  item := by
    intro X a1 a2 a3 hc i pins s σ H E I hf st hg
    subst a1 a2 a3
    obtain ⟨⟨_, old, he⟩, hit, ne⟩ := st
    have D := draws_sign (prog := X.prog) (w := X.w) (A := X.A.in1) (I.ok.hd hc) it x t
    have be : e < s.heap.objs.size := Heap.lt_size he
    have bi : it < s.heap.objs.size := by obtain ⟨_, z⟩ := D.live _ _ hit; exact Heap.lt_size z
    refine wpAny_pyNext_enum_itemD D he hit hg ne (fun z => ne (List.mem_singleton.mp z)) fun v h1 tk hv ho hit1 hT hsz hk => ?_
    obtain ⟨c, u, hx, rfl⟩ := hv
    refine ⟨_, rfl, wpAny_letOwnedTupleGo_enum (s := { s with heap := h1, toks := tk + 1 }) ho fun h2 he2 sb => ?_⟩
    have hT2 := (sb.2 _ (Nat.ne_of_gt be)).trans hT
    have made : ObjOk X.prog X.w (upd H s.heap.objs.size (.tup [.int (i : Nat), .str ⟨#[c]⟩])) h2 s.heap.objs.size (.tup [.int (i : Nat), .str ⟨#[c]⟩]) :=
      ⟨(by decide : 2 ≤ sizeLine), _, .cons ⟨tk, rfl⟩ (.cons ⟨u, rfl⟩ .nil), ⟨_, hT2, rfl, _, rfl⟩⟩
    have out : ∀ {b : Addr}, b ∉ [e, it] → b ≠ e ∧ b ≠ it := fun hb => ⟨fun z => hb (z ▸ List.mem_cons_self), fun z => hb (z ▸ List.mem_cons_of_mem _ List.mem_cons_self)⟩
    have I2 := I.turnedNew (h' := h2) (t' := tk + 1) (ch := [e, it]) (fun b ob hb q => (sb.2 b (out hb).1).trans (hk b ob (out hb).1 (out hb).2 q)) hf (Nat.le_refl _) made
    have en : ((i + 1 : Nat) : Int) = (i : Int) + 1 := Int.natCast_succ i
    obtain ⟨oi, hoi, ri⟩ := hit1
    refine ⟨.ref s.heap.objs.size, _, I2, rfl, ⟨_, c, hx, rfl, I.hok.fresh (Nat.le_refl _), rfl⟩, ⟨⟨hg, _, en ▸ he2⟩, ⟨oi, (sb.2 it fun z => ne z.symm).trans hoi, ri⟩, ne⟩, fun b hb => ?_⟩
    have bl : b < s.heap.objs.size := by
      rcases List.mem_cons.mp hb with z | z
      · rw [z]; exact be
      · rw [List.mem_singleton.mp z]; exact bi
    rw [upd_ne (Nat.ne_of_lt bl)]
    exact (hf b hb).1
  done := by
    intro X a1 a2 a3 hc i pins s σ H E I hf st hg
    subst a1 a2 a3
    obtain ⟨⟨hle, old, he⟩, hit, ne⟩ := st
    have D := draws_sign (prog := X.prog) (w := X.w) (A := X.A.in1) (I.ok.hd hc) it x t
    have ei : i = x.cps.size := Nat.le_antisymm hle hg
    rw [ei] at he hit
    obtain ⟨f0, f1, _, f3, f4, f5⟩ := hf it (List.mem_cons_of_mem _ List.mem_cons_self)
    exact wpAny_pyNext_enum_endD D he hit fun h1 eb => ⟨rfl, I.turned (t' := s.toks) (fun b o hb q => eb b o hb q) f0 f1 f3 f4 f5⟩
  self := fun A i s Q E st h => by
    obtain ⟨⟨_, _, he⟩, _⟩ := st
    exact wpAny_pyIter_enum he h
/-- a list or a text, numbered -/
theorem pi_enum2 {e : Expr} {ta : TA} {p pos tp : Pos} {els : List Expr} {n : Nat} (hg : Gl X "enumerate") (hm : X.mg "enumerate" = none) (ha : PA X [e] ta) (hs : starEach [e] X.env = [(false, eval e X.env)]) :
    PI X (.Tuple els n tp) (.Call (.Name "enumerate" p) [e] [] pos) (fun σ H R => ta σ H fun vs J => (∃ a xs, vs = [.ref a] ∧ SqL X.K J a xs ∧ R (Ite X.K a) J) ∨ ∃ z, vs = [.str z] ∧ R (Ites z) J) := by
  refine ⟨fun pins s σ H R I h => PyProof.Rows.Call_ (ld_blt I hg hm PyProof.Rows.boot_enumerate (PyProof.Rows.callWith_type1 (thn (ha.run pos pins s σ H _ I h) fun us s1 ⟨vs, J, I1, r1, q1⟩ => ?_) hs rfl))⟩
  have fresh : ∀ b ∈ [s1.heap.objs.size + 1, s1.heap.objs.size], FpOk X pins J b := fun b hb => by
    have le : s1.heap.objs.size ≤ b := by
      rcases List.mem_cons.mp hb with z | z
      · exact z ▸ Nat.le_succ _
      · exact (List.mem_singleton.mp z) ▸ Nat.le_refl _
    exact I1.fpOk le (I1.hok.fresh le)
  rcases q1 with ⟨a, xs, ev, hq, q⟩ | ⟨z, ev, q⟩
  · subst ev
    cases r1 with
    | cons r rr =>
      cases rr; cases r
      obtain ⟨its, _, pl, _⟩ := I1.list hq
      refine call_enumerate_list pl.isList fun h1 he hit _ hk => wpAny_pyIter_enum he ⟨_, _, _, _, J, rfl, ?_, turn_enum a _ s1.heap.objs.size, ⟨⟨_, he⟩, hit, Nat.succ_ne_self _⟩, fresh, q⟩
      exact I1.kept (t' := s1.toks) hk
  · subst ev
    cases r1 with
    | cons r rr =>
      cases rr
      obtain ⟨t, rfl⟩ := r
      refine call_enumerate_str fun h1 he hit _ hk => wpAny_pyIter_enum he ⟨_, _, _, _, J, rfl, ?_, turn_enumS _ s1.heap.objs.size z t, ⟨⟨Nat.zero_le _, _, he⟩, hit, Nat.succ_ne_self _⟩, fresh, q⟩
      exact I1.kept (t' := s1.toks) hk
theorem gives_enumS {z : Str} : Gives T as H (fun _ => true) (numbered 0 (z.cps.toList.map fun c => Val.str ⟨#[c]⟩)) (Ites z) := by
  intro as' H' st' e r _
  refine ⟨fun i v hi => ?_, by show z.cps.size ≤ _; rw [numbered_len, List.length_map]; simp⟩
  obtain ⟨w, hw, rfl⟩ := numbered_get _ _ _ _ hi
  rw [List.getElem?_map] at hw
  obtain ⟨c, hc, rfl⟩ := Option.map_eq_some_iff.mp hw
  have hc' : z.cps[i]? = some c := by simpa using hc
  refine ⟨(Array.getElem?_eq_some_iff.mp hc').1, fun y H'' hy => ?_⟩
  obtain ⟨P, c2, hc2, rfl, hP, rfl⟩ := hy
  rw [hc'] at hc2
  cases hc2
  have ex : Ext as' H' as' (upd H' P (.tup [.int (i : Nat), .str ⟨#[c]⟩])) := Ext.lay hP
  refine ⟨as', ex, r.lay hP, P, _, rfl, upd_same, ⟨_, _, rfl, ?_, _, _, rfl, rfl, rfl⟩⟩
  show V.int _ = V.int _
  rw [Int.zero_add]
theorem si_enum (cn : Cn T G tb k X) {elts : List Expr} {kk : Nat} {tpos : Pos} (h2 : glbB X.env.scope "enumerate" = true) (h3 : ("enumerate" : Str) ∈ tb.frees) (ha : PE X a (tE X T G ea)) (hs : nstar a = true) :
    PI X (.Tuple elts kk tpos) (.Call (.Name "enumerate" p) [a] [] pos) (tW X T G (.bi .enum (.cons ea .nil))) := by
  refine PI.le (pi_enum2 (glbB_ok h2) (cn.wd.frees _ h3) (pa_cons ha pa_nil (nstar_star hs _ _)) (nstar_star hs _ _)) fun σ H R h => ?_
  obtain ⟨as, st, ρ, r, q, h⟩ := h
  have h' : PC T (repW T) as H ((ev G ea ρ st).bind fun x s => Wk.enumOf [x] s) (fun J H' => R J H') (EK X σ) := by
    unfold evw at h
    rw [evs] at h
    have h2 : PC T (repW T) as H ((evs G (.cons ea .nil) ρ st).bind Wk.enumOf) (fun J H' => R J H') (EK X σ) := h
    rw [evs1, bind_bind] at h2
    exact h2
  refine (pc1 r q h').mono fun x H1 q => ?_
  obtain ⟨as1, st1, v, e1, r1, p1, _, q⟩ := q
  cases v with
  | loc l =>
    obtain ⟨ad, had, rfl⟩ := p1.loc
    have q' : PC T (repW T) as1 H1 (match sget st1 l with
      | some (.lst vs) => .ok (.keep l (.lst vs) (numbered 0 vs)) st1
      | some (.rol vs) => .ok (.keep l (.rol vs) (numbered 0 vs)) st1
      | _ => .bad) (fun J H' => R J H') (EK X σ) := q
    split at q'
    · rename_i vs e
      obtain ⟨xs, q1, _⟩ := r1.lstOf (lstOf_of e) had
      exact .inl ⟨ad, xs, rfl, by rw [cn.hK]; exact q1, PC.here q' r1 (gives_enum cn.hK (fun _ => lstOf_of) had)⟩
    · rename_i vs e
      obtain ⟨xs, q1, _⟩ := r1.lstOf (lstOf_of' e) had
      exact .inl ⟨ad, xs, rfl, by rw [cn.hK]; exact q1, PC.here q' r1 (gives_enum cn.hK (fun _ => lstOf_of') had)⟩
    · exact q'.elim
  | str z =>
    have q' : PC T (repW T) as1 H1 (if z.length ≤ lim then .ok (.free (numbered 0 (z.cps.toList.map fun c => .str ⟨#[c]⟩))) st1 else .bad) (fun J H' => R J H') (EK X σ) := q
    by_cases hz : z.length ≤ lim
    · rw [if_pos hz] at q'
      cases p1
      exact .inr ⟨z, rfl, PC.here q' r1 gives_enumS⟩
    · rw [if_neg hz] at q'
      exact q'.elim
  | _ => exact q.elim
theorem gives_rev (hK : X.K = T.K) {l : Nat} {o : Ob} {vs : List Val} {ad : Addr} (hl : ∀ st', sget st' l = some o → lstOf st' l = some vs) (ha : as[l]? = some ad) : Gives T as H (stands l o) vs.reverse (Itv X.K ad vs.length) := by
  intro as' H' st' e r ok
  have hs : sget st' l = some o := of_decide_eq_true ok
  obtain ⟨xs, hq, hp⟩ := r.lstOf (hl st' hs) (e.as_get ha)
  rw [← hK] at hq
  refine ⟨fun i v hi => ?_, by show vs.length ≤ _; rw [List.length_reverse]; exact Nat.le_refl _⟩
  have hlt : i < vs.length := by
    have := (List.getElem?_eq_some_iff.mp hi).1
    rwa [List.length_reverse] at this
  rw [List.getElem?_reverse hlt] at hi
  obtain ⟨x, hx, px⟩ := hp.get hi
  refine ⟨⟨hlt, xs, x, hq, hx⟩, fun y H'' hy => ?_⟩
  obtain ⟨rfl, hy⟩ := hy
  have := hy xs hq
  rw [hx] at this
  cases this
  exact ⟨as', Ext.refl _ _, r, px⟩
theorem si_rev (cn : Cn T G tb k X) (h2 : glbB X.env.scope "reversed" = true) (h3 : ("reversed" : Str) ∈ tb.frees) (ha : PE X a (tE X T G ea)) (hs : nstar a = true) :
    PI X tg (.Call (.Name "reversed" p) [a] [] pos) (tW X T G (.bi .rev (.cons ea .nil))) := by
  refine PI.le (pi_reversed (glbB_ok h2) (cn.wd.frees _ h3) (pa_cons ha pa_nil (nstar_star hs _ _)) (nstar_star hs _ _)) fun σ H R h => ?_
  obtain ⟨as, st, ρ, r, q, h⟩ := h
  have h' : PC T (repW T) as H ((ev G ea ρ st).bind fun x s => Wk.revOf [x] s) (fun J H' => R J H') (EK X σ) := by
    unfold evw at h
    rw [evs] at h
    have h2 : PC T (repW T) as H ((evs G (.cons ea .nil) ρ st).bind Wk.revOf) (fun J H' => R J H') (EK X σ) := h
    rw [evs1, bind_bind] at h2
    exact h2
  refine (pc1 r q h').mono fun x H1 q => ?_
  obtain ⟨as1, st1, v, e1, r1, p1, _, q⟩ := q
  cases v with
  | loc l =>
    obtain ⟨ad, had, rfl⟩ := p1.loc
    have q' : PC T (repW T) as1 H1 (match sget st1 l with
      | some (.lst vs) => .ok (.keep l (.lst vs) vs.reverse) st1
      | some (.rol vs) => .ok (.keep l (.rol vs) vs.reverse) st1
      | _ => .bad) (fun J H' => R J H') (EK X σ) := q
    split at q'
    · rename_i vs e
      obtain ⟨xs, q1, q2⟩ := r1.lstOf (lstOf_of e) had
      exact ⟨ad, xs, rfl, by rw [cn.hK]; exact q1, PC.here q' r1 (by rw [← q2.length]; exact gives_rev cn.hK (fun _ => lstOf_of) had)⟩
    · rename_i vs e
      obtain ⟨xs, q1, q2⟩ := r1.lstOf (lstOf_of' e) had
      exact ⟨ad, xs, rfl, by rw [cn.hK]; exact q1, PC.here q' r1 (by rw [← q2.length]; exact gives_rev cn.hK (fun _ => lstOf_of') had)⟩
    · exact q'.elim
  | _ => exact q.elim
theorem zipped_get : ∀ (a b : List Val) (i : Nat) (v : Val), (zipped a b)[i]? = some v → ∃ x y, a[i]? = some x ∧ b[i]? = some y ∧ v = .tup [x, y]
  | [], _, _, _, h => by simp [zipped] at h
  | _ :: _, [], _, _, h => by simp [zipped] at h
  | x :: a, y :: b, 0, v, h => by simp [zipped] at h; exact ⟨x, y, rfl, rfl, h.symm⟩
  | x :: a, y :: b, i + 1, v, h => by
    simp only [zipped, List.getElem?_cons_succ] at h
    obtain ⟨u, w, h1, h2, h3⟩ := zipped_get a b i v h
    exact ⟨u, w, by simpa using h1, by simpa using h2, h3⟩
theorem zipped_len : ∀ (a b : List Val), (zipped a b).length = min a.length b.length
  | [], _ => by simp [zipped]
  | _ :: _, [] => by simp [zipped]
  | x :: a, y :: b => by simp only [zipped, List.length_cons, zipped_len a b]; omega
theorem gives_zipL (hK : X.K = T.K) {l m : Nat} {va vb : List Val} {ad bd : Addr} (ha : as[l]? = some ad) (hb : as[m]? = some bd) : Gives T as H (stands2 l (.lst va) m (.lst vb)) (zipped va vb) (Itz X.K ad bd) := by
  intro as' H' st' e r ok
  have ok' : stands l (.lst va) st' = true ∧ stands m (.lst vb) st' = true := by
    have : (stands l (.lst va) st' && stands m (.lst vb) st') = true := ok
    simpa using this
  have hs1 : sget st' l = some (.lst va) := of_decide_eq_true ok'.1
  have hs2 : sget st' m = some (.lst vb) := of_decide_eq_true ok'.2
  obtain ⟨xs, hq, hp⟩ := r.lstOf (lstOf_of hs1) (e.as_get ha)
  obtain ⟨ys, hq2, hp2⟩ := r.lstOf (lstOf_of hs2) (e.as_get hb)
  rw [← hK] at hq hq2
  refine ⟨fun i v hi => ?_, xs, ys, hq, hq2, by rw [zipped_len, hp.length, hp2.length]; omega⟩
  obtain ⟨u, w, h1, h2, rfl⟩ := zipped_get _ _ _ _ hi
  obtain ⟨x, hx, px⟩ := hp.get h1
  obtain ⟨y, hy, py⟩ := hp2.get h2
  refine ⟨⟨xs, ys, x, y, hq, hq2, hx, hy⟩, fun z H'' hz => ?_⟩
  obtain ⟨P, x', y', rfl, hP, rfl, hx', hy'⟩ := hz
  have e1 := hx' xs hq
  rw [hx] at e1
  cases e1
  have e2 := hy' ys hq2
  rw [hy] at e2
  cases e2
  have ex : Ext as' H' as' (upd H' P (.tup [x, y])) := Ext.lay hP
  exact ⟨as', ex, r.lay hP, P, _, rfl, upd_same, ⟨_, _, rfl, RepV.ext ex _ _ px, _, _, rfl, RepV.ext ex _ _ py, rfl⟩⟩
theorem gives_zipT (hK : X.K = T.K) {va vb : List Val} {zs ws : List V} {ad bd : Addr} (ht : TupAt T H ad zs) (hp0 : RepVs T as H va zs) (ht2 : TupAt T H bd ws) (hp02 : RepVs T as H vb ws) : Gives T as H (fun _ => true) (zipped va vb) (RZ.ItzT X.K ad bd) := by
  intro as' H' st' e r _
  have hq : SqT X.K H' ad zs := by rw [hK]; exact (ht.ext e).sqT
  have hq2 : SqT X.K H' bd ws := by rw [hK]; exact (ht2.ext e).sqT
  have hp := RepVs.ext e _ _ hp0
  have hp2 := RepVs.ext e _ _ hp02
  refine ⟨fun i v hi => ?_, zs, ws, hq, hq2, by rw [zipped_len, hp0.length, hp02.length]; omega⟩
  obtain ⟨u, w, h1, h2, rfl⟩ := zipped_get _ _ _ _ hi
  obtain ⟨x, hx, px⟩ := hp.get h1
  obtain ⟨y, hy, py⟩ := hp2.get h2
  refine ⟨⟨zs, ws, x, y, hq, hq2, hx, hy⟩, fun z H'' hz => ?_⟩
  obtain ⟨P, x', y', rfl, hP, rfl, hx', hy'⟩ := hz
  have e1 := hx' zs hq
  rw [hx] at e1
  cases e1
  have e2 := hy' ws hq2
  rw [hy] at e2
  cases e2
  have ex : Ext as' H' as' (upd H' P (.tup [x, y])) := Ext.lay hP
  exact ⟨as', ex, r.lay hP, P, _, rfl, upd_same, ⟨_, _, rfl, RepV.ext ex _ _ px, _, _, rfl, RepV.ext ex _ _ py, rfl⟩⟩
theorem gives_zipM (hK : X.K = T.K) {l : Nat} {va vb : List Val} {ws : List V} {ad bd : Addr} (ha : as[l]? = some ad) (ht2 : ∀ as' H', Ext as H as' H' → SqT T.K H' bd ws) (hp02 : RepVs T as H vb ws) : Gives T as H (stands l (.lst va)) (zipped va vb) (ItzM X.K ad bd) := by
  intro as' H' st' e r ok
  have hs1 : sget st' l = some (.lst va) := of_decide_eq_true ok
  obtain ⟨xs, hq, hp⟩ := r.lstOf (lstOf_of hs1) (e.as_get ha)
  rw [← hK] at hq
  have hq2 : SqT X.K H' bd ws := by rw [hK]; exact ht2 _ _ e
  have hp2 := RepVs.ext e _ _ hp02
  refine ⟨fun i v hi => ?_, xs, ws, hq, hq2, by rw [zipped_len, hp.length, hp02.length]; omega⟩
  obtain ⟨u, w, h1, h2, rfl⟩ := zipped_get _ _ _ _ hi
  obtain ⟨x, hx, px⟩ := hp.get h1
  obtain ⟨y, hy, py⟩ := hp2.get h2
  refine ⟨⟨xs, ws, x, y, hq, hq2, hx, hy⟩, fun z H'' hz => ?_⟩
  obtain ⟨P, x', y', rfl, hP, rfl, hx', hy'⟩ := hz
  have e1 := hx' xs hq
  rw [hx] at e1
  cases e1
  have e2 := hy' ws hq2
  rw [hy] at e2
  cases e2
  have ex : Ext as' H' as' (upd H' P (.tup [x, y])) := Ext.lay hP
  exact ⟨as', ex, r.lay hP, P, _, rfl, upd_same, ⟨_, _, rfl, RepV.ext ex _ _ px, _, _, rfl, RepV.ext ex _ _ py, rfl⟩⟩
theorem si_zip (cn : Cn T G tb k X) {elts : List Expr} {kk : Nat} {tpos : Pos} (h2 : glbB X.env.scope "zip" = true) (h3 : ("zip" : Str) ∈ tb.frees) (ha : PE X a (tE X T G ea)) (hs : nstar a = true) (hb : PE X b (tE X T G eb)) (hs' : nstar b = true) :
    PI X (.Tuple elts kk tpos) (.Call (.Name "zip" p) [a, b] [] pos) (tW X T G (.bi .zip (.cons ea (.cons eb .nil)))) := by
  refine PI.le (pi_zm (glbB_ok h2) (cn.wd.frees _ h3) (pa_cons ha (pa_cons hb pa_nil (nstar_star hs' _ _)) (nstar_star hs _ _)) (nstar_star hs _ _) (by rw [nstar_star hs']; rfl)) fun σ H R h => ?_
  obtain ⟨as, st, ρ, r, q, h⟩ := h
  have h' : PC T (repW T) as H ((ev G ea ρ st).bind fun x s => (ev G eb ρ s).bind fun y s => Wk.zipOf [x, y] s) (fun J H' => R J H') (EK X σ) := by
    unfold evw at h
    rw [evs] at h
    have h2 : PC T (repW T) as H ((evs G (.cons ea (.cons eb .nil)) ρ st).bind Wk.zipOf) (fun J H' => R J H') (EK X σ) := h
    rw [evs2, bind_bind] at h2
    have e : (fun (x : Val) s => ((ev G eb ρ s).bind fun y s => Ov.R.ok [x, y] s).bind Wk.zipOf) = fun x s => (ev G eb ρ s).bind fun y s => Wk.zipOf [x, y] s := by
      funext x s; rw [bind_bind]; rfl
    rw [e] at h2
    exact h2
  refine (pc2 r q h').mono fun x H1 q1 => q1.mono fun y H2 q2 => ?_
  obtain ⟨as2, st2, v, w, _, r2, p1, p2, _, q⟩ := q2
  cases v with
  | tup va =>
    cases w with
    | tup vb =>
      obtain ⟨ad, zs, rfl, ht, hp⟩ := p1
      obtain ⟨bd, ws, rfl, ht2, hp2⟩ := p2
      exact ⟨ad, bd, zs, ws, rfl, .inr <| .inl ⟨by rw [cn.hK]; exact ht.sqT, by rw [cn.hK]; exact ht2.sqT, PC.here (show PC T (repW T) as2 H2 (.ok (.free (zipped va vb)) st2) _ (EK X σ) from q) r2 (gives_zipT cn.hK ht hp ht2 hp2)⟩⟩
    | _ => exact q.elim
  | loc l =>
    cases w with
    | loc m =>
      obtain ⟨ad, had, rfl⟩ := p1.loc
      obtain ⟨bd, hbd, rfl⟩ := p2.loc
      have q' : PC T (repW T) as2 H2 (match sget st2 l, sget st2 m with
        | some (.lst va), some (.lst vb) => .ok (.keep2 l (.lst va) m (.lst vb) (zipped va vb)) st2
        | _, _ => .bad) (fun J H' => R J H') (EK X σ) := q
      split at q'
      · rename_i va vb e1 e2
        obtain ⟨xs, q1, _⟩ := r2.lstOf (lstOf_of e1) had
        obtain ⟨ys, q2, _⟩ := r2.lstOf (lstOf_of e2) hbd
        exact ⟨ad, bd, xs, ys, rfl, .inl ⟨by rw [cn.hK]; exact q1, by rw [cn.hK]; exact q2, PC.here q' r2 (gives_zipL cn.hK had hbd)⟩⟩
      · exact q'.elim
    | tup vb =>
      obtain ⟨ad, had, rfl⟩ := p1.loc
      obtain ⟨bd, ws, rfl, ht2, hp2⟩ := p2
      have q' : PC T (repW T) as2 H2 (match sget st2 l with
        | some (.lst va) => .ok (.keep l (.lst va) (zipped va vb)) st2
        | _ => .bad) (fun J H' => R J H') (EK X σ) := q
      split at q'
      · rename_i va e1
        obtain ⟨xs, q1, _⟩ := r2.lstOf (lstOf_of e1) had
        exact ⟨ad, bd, xs, ws, rfl, .inr <| .inr ⟨by rw [cn.hK]; exact q1, by rw [cn.hK]; exact ht2.sqT, PC.here q' r2 (gives_zipM cn.hK had (fun _ _ e => (ht2.ext e).sqT) hp2)⟩⟩
      · exact q'.elim
    | ktp vb =>
      obtain ⟨ad, had, rfl⟩ := p1.loc
      obtain ⟨bd, ws, rfl, ht2, hp2⟩ := p2
      have q' : PC T (repW T) as2 H2 (match sget st2 l with
        | some (.lst va) => .ok (.keep l (.lst va) (zipped va vb)) st2
        | _ => .bad) (fun J H' => R J H') (EK X σ) := q
      split at q'
      · rename_i va e1
        obtain ⟨xs, q1, _⟩ := r2.lstOf (lstOf_of e1) had
        exact ⟨ad, bd, xs, ws, rfl, .inr <| .inr ⟨by rw [cn.hK]; exact q1, by rw [cn.hK]; exact ht2.sqT, PC.here q' r2 (gives_zipM cn.hK had (fun _ _ _ => ht2.sqT) hp2)⟩⟩
      · exact q'.elim
    | _ => exact q.elim
  | _ => exact q.elim
/-! targets -/
theorem set_comm_wipe (σ : L2.St) (i : Nat) (y : Option V) : ∀ {vs : List Nat}, i ∈ vs → wipe (σ.set i y) vs = wipe σ vs
  | [], h => absurd h (by simp)
  | v :: vs, h => by
    unfold wipe
    by_cases e : i ∈ vs
    · rw [set_comm_wipe σ i y e]
    · have e2 : i = v := by
        rcases List.mem_cons.mp h with q | q
        · exact q
        · exact absurd q e
      subst e2
      have hc : ∀ (vs : List Nat), i ∉ vs → wipe (σ.set i y) vs = (wipe σ vs).set i y := by
        intro vs
        induction vs with
        | nil => intro _; rfl
        | cons w ws ih =>
          intro hn
          unfold wipe
          rw [ih (fun z => hn (List.mem_cons_of_mem _ z)), List.set_comm]
          exact fun z => hn (by rw [z]; exact List.mem_cons_self)
      rw [hc vs e, List.set_set]
def setAll : L2.St → List Nat → List V → L2.St
  | σ, [], _ => σ
  | σ, i :: is, x :: xs => setAll (σ.set i (some x)) is xs
  | σ, _ :: _, [] => σ
theorem setAll_wipe : ∀ {is : List Nat} {xs : List V} {σ : L2.St} {own : List Nat}, (∀ i ∈ is, i ∈ own) → wipe (setAll σ is xs) own = wipe σ own
  | [], _, _, _, _ => rfl
  | i :: is, [], _, _, _ => rfl
  | i :: is, x :: xs, σ, own, h => by
    show wipe (setAll (σ.set i (some x)) is xs) own = _
    rw [setAll_wipe fun j hj => h j (List.mem_cons_of_mem _ hj), set_comm_wipe σ i _ (h i List.mem_cons_self)]
theorem esets_rep : ∀ {is : List Nat} {vs : List Val} {xs : List V} {ρ ρ' : Env} {σ : L2.St}, RepE T as H ρ σ → RepVs T as H vs xs → esets ρ is vs = some ρ' → RepE T as H ρ' (setAll σ is xs) ∧ is.length = xs.length
  | [], [], _, _, _, _, h, p, e => by cases e; cases p; exact ⟨h, rfl⟩
  | [], _ :: _, _, _, _, _, _, _, e => by cases e
  | _ :: _, [], _, _, _, _, _, _, e => by cases e
  | i :: is, v :: vs, _, ρ, ρ', σ, h, p, e => by
    obtain ⟨x, r, rfl, p1, p2⟩ := p
    obtain ⟨q1, q2⟩ := esets_rep (h.set p1 i) p2 (show esets (eset ρ i (some v)) is vs = some ρ' from e)
    exact ⟨q1, by simp [q2]⟩
/-- names of a target, one after another -/
theorem pgs_names (cn : Cn T G tb k X) {sc : Scope} (hsc : Sc X sc) : ∀ {is : List Nat} {es : List Expr} {own : List Nat}, is.length = es.length → ((is.zip es).all fun p => match p.2 with
      | .Name x _ => decide (X.N[p.1]? = some x) && locB sc x && (own.contains p.1 || own.isEmpty)
      | _ => false) = true →
    PGs X es (fun vs σ H Q => is.length = vs.length ∧ Q (setAll σ is vs) H) ∧ (∀ env, (assignEach es env).length = is.length) ∧ (∀ env, (assignEach es env).findIdx? (·.1) = none)
  | [], [], own, _, _ => ⟨⟨fun pins s σ H vs us Q I r h => pgs_nil.run pins s σ H vs us Q I r ⟨List.length_eq_zero_iff.mp h.1.symm, h.2⟩⟩, fun _ => rfl, fun _ => rfl⟩
  | [], _ :: _, _, h, _ => by cases h
  | _ :: _, [], _, h, _ => by cases h
  | i :: is, e :: es, own, hl, h => by
    rw [List.zip_cons_cons, List.all_cons, Bool.and_eq_true] at h
    obtain ⟨q1, q2, q3⟩ := pgs_names cn hsc (own := own) (Nat.succ.inj hl) h.2
    have h1 := h.1
    cases e with
    | Name x p =>
      simp only [Bool.and_eq_true, decide_eq_true_eq] at h1
      obtain ⟨hloc, hfn⟩ := hsc.loc x h1.1.2
      have g := pg_name (X := X) (pos := p) cn.nd h1.1.1 hloc hfn
      refine ⟨⟨fun pins s σ H vs us Q I r hw => (pgs_cons g q1).run pins s σ H vs us Q I r ?_⟩, fun env => ?_, fun env => ?_⟩
      · cases vs with
        | nil => exact absurd hw.1 (by simp)
        | cons v vs => exact ⟨v, vs, rfl, by simpa using hw.1, hw.2⟩
      · show (assignEach es env).length + 1 = _
        rw [q2]; rfl
      · have e1 : assignEach (.Name x p :: es) env = (false, assign (.Name x p) env) :: assignEach es env := rfl
        rw [e1, List.findIdx?_cons]
        simp [q3]
    | _ => cases h1
/-- a target that a loop or an assignment sets -/
theorem sg (cn : Cn T G tb k X) {sc : Scope} (hsc : Sc X sc) {g : Tg} {own : List Nat} (h : tgB X.N sc own g tg = true) :
    PG X tg (fun v σ H Q => ∃ as st ρ ρ' w, Rel T as H st ∧ RepE T as H ρ σ ∧ RepV T as H w v ∧ tgSet g w ρ = some ρ' ∧ ∀ σ', RepE T as H ρ' σ' → (own ≠ [] → wipe σ' own = wipe σ own) → Q σ' H) := by
  cases g with
  | n i =>
    cases tg with
    | Name x p =>
      simp only [tgB, Bool.and_eq_true, decide_eq_true_eq, Bool.or_eq_true] at h
      obtain ⟨hloc, hfn⟩ := hsc.loc x h.1.2
      refine ⟨fun pins s σ H v u Q I r hw => (pg_name (X := X) (pos := p) cn.nd h.1.1 hloc hfn).run pins s σ H v u Q I r ?_⟩
      obtain ⟨as, st, ρ, ρ', w, k1, k2, k3, k4, q⟩ := hw
      cases k4
      refine q _ (k2.set k3 i) fun hne => set_comm_wipe σ i _ ?_
      rcases h.2 with z | z
      · simpa using z
      · exact absurd (List.isEmpty_iff.mp z) hne
    | _ => simp [tgB] at h
  | t is =>
    cases tg with
    | Tuple es kk tp =>
      simp only [tgB, Bool.and_eq_true, beq_iff_eq] at h
      obtain ⟨q1, q2, q3⟩ := pgs_names cn hsc h.1 h.2
      refine ⟨fun pins s σ H v u Q I r hw => (pg_tup cn.calm q1 (q2 _) (q3 _)).run pins s σ H v u Q I r ?_⟩
      obtain ⟨as, st, ρ, ρ', w, k1, k2, k3, k4, q⟩ := hw
      cases w with
      | tup vs =>
        obtain ⟨ad, xs, rfl, ht, hp⟩ := k3
        obtain ⟨z1, z2⟩ := esets_rep k2 hp k4
        refine ⟨ad, xs, rfl, by rw [cn.hK]; exact ht.sqT, z2.symm, z2, q _ z1 fun hne => setAll_wipe fun j hj => ?_⟩
        obtain ⟨n, hn⟩ := List.getElem?_of_mem hj
        have hl : n < es.length := by rw [← h.1]; exact (List.getElem?_eq_some_iff.mp hn).1
        have hz : (is.zip es)[n]? = some (j, es[n]) := by
          rw [List.getElem?_zip_eq_some]
          exact ⟨hn, List.getElem?_eq_getElem hl⟩
        have := List.all_eq_true.mp h.2 _ (List.mem_of_getElem? hz)
        dsimp only at this
        split at this
        · simp only [Bool.and_eq_true, Bool.or_eq_true] at this
          rcases this.2 with z | z
          · simpa using z
          · exact absurd (List.isEmpty_iff.mp z) hne
        · cases this
      | _ => cases k4
    | _ => simp [tgB] at h
end
end Ov

/-! List comprehensions. -/
namespace Ov
open PySem PySem.Spec L2
section
variable {T : Tb} {as as' : List Addr} {H H' : Hp} {a : Addr} {s : Store}
/-- the tuples as they were, the places too -/
structure Tups (as : List Addr) (H : Hp) (as' : List Addr) (H' : Hp) : Prop where
  pre : ∀ (l : Nat) (a : Addr), as[l]? = some a → as'[l]? = some a
  tp : ∀ a xs, H a = some (.tup xs) → H' a = some (.tup xs)
mutual
theorem RepV.tups (e : Tups as H as' H') : ∀ (v : Val) (x : V), RepV T as H v x → RepV T as' H' v x
  | .non, _, h => h
  | .bl _, _, h => h
  | .int _, _, h => h
  | .str _, _, h => h
  | .loc l, x, h => by
    obtain ⟨a, h1, h2⟩ := h
    exact ⟨a, e.pre _ _ h1, h2⟩
  | .tup vs, x, h => by
    obtain ⟨a, xs, h1, h2, h3⟩ := h
    exact ⟨a, xs, h1, e.tp _ _ h2, RepVs.tups e vs xs h3⟩
  | .ktp vs, x, h => by
    obtain ⟨a, xs, h1, h2, h3⟩ := h
    exact ⟨a, xs, h1, h2, RepVs.tups e vs xs h3⟩
theorem RepVs.tups (e : Tups as H as' H') : ∀ (vs : List Val) (xs : List V), RepVs T as H vs xs → RepVs T as' H' vs xs
  | [], _, h => h
  | v :: vs, xs, h => by
    obtain ⟨x, r, h1, h2, h3⟩ := h
    exact ⟨x, r, h1, RepV.tups e v x h2, RepVs.tups e vs r h3⟩
end
theorem RepK.tups (e : Tups as H as' H') : ∀ {kvs : List (Val × Val)} {ks : List (Key × V)}, RepK T as H kvs ks → RepK T as' H' kvs ks
  | [], _, h => h
  | (k, v) :: r, _, h => by
    obtain ⟨q, x, rs, h1, h2, h3, h4⟩ := h
    exact ⟨q, x, rs, h1, h2, RepV.tups e _ _ h3, RepK.tups e h4⟩
theorem RepT.tups (e : Tups as H as' H') : ∀ {kvs : List (Val × Val)} {ks : List (List Key × V)}, RepT T as H kvs ks → RepT T as' H' kvs ks
  | [], _, h => h
  | (k, v) :: r, _, h => by
    obtain ⟨q, x, rs, h1, h2, h3, h4⟩ := h
    exact ⟨q, x, rs, h1, h2, RepV.tups e _ _ h3, RepT.tups e h4⟩
theorem RepF.tups (e : Tups as H as' H') : ∀ {fs : List (Nat × Val)} {gs : List (Str × V)}, RepF T as H fs gs → RepF T as' H' fs gs
  | [], _, h => h
  | (k, v) :: r, _, h => by
    obtain ⟨q, x, rs, h1, h2, h3, h4⟩ := h
    exact ⟨q, x, rs, h1, h2, RepV.tups e _ _ h3, RepF.tups e h4⟩
theorem ObR.tups (e : Tups as H as' H') (ha : H' a = H a) : ∀ {o : Ob}, ObR T as H a o → ObR T as' H' a o
  | .lst vs, h => by
    obtain ⟨xs, h1, h2⟩ := h
    exact ⟨xs, by rw [ha]; exact h1, RepVs.tups e _ _ h2⟩
  | .rol vs, h => by
    obtain ⟨o, xs, h1, h2⟩ := h
    exact ⟨o, xs, by rw [ha]; exact h1, RepVs.tups e _ _ h2⟩
  | .dic false kvs, h => by
    obtain ⟨xs, h1, h2⟩ := h
    exact ⟨xs, by rw [ha]; exact h1, h2.tups e⟩
  | .dic true kvs, h => by
    obtain ⟨xs, h1, h2⟩ := h
    exact ⟨xs, by rw [ha]; exact h1, h2.tups e⟩
  | .rod false kvs, h => by
    obtain ⟨o, xs, h1, h2⟩ := h
    exact ⟨o, xs, by rw [ha]; exact h1, h2.tups e⟩
  | .rod true kvs, h => by
    obtain ⟨o, xs, h1, h2⟩ := h
    exact ⟨o, xs, by rw [ha]; exact h1, h2.tups e⟩
  | .ins c fs, h => by
    obtain ⟨C, dx, gs, h1, h2, h3⟩ := h
    exact ⟨C, dx, gs, h1, by rw [ha]; exact h2, h3.tups e⟩
theorem Rel.tups (r : Rel T as H s) (e : Tups as H as H') (k : ∀ a ∈ as, H' a = H a) : Rel T as H' s := by
  refine ⟨r.len, r.nd, fun l o' h => ?_⟩
  obtain ⟨a, h1, h2⟩ := r.ob l o' h
  exact ⟨a, h1, h2.tups e (k a (List.mem_of_getElem? h1))⟩
theorem Tups.snoc (as : List Addr) (H : Hp) (p : Addr) : Tups as H (as ++ [p]) H := ⟨fun l a h => by rw [List.getElem?_append_left (List.getElem?_eq_some_iff.mp h).1]; exact h, fun _ _ h => h⟩
/-- what lies there already becomes ours -/
theorem Rel.snoc (r : Rel T as H s) {p : Addr} {b : Ob} (hp : p ∉ as) (hb : ObR T (as ++ [p]) H p b) : Rel T (as ++ [p]) H (snew s b) := by
  refine ⟨by rw [List.length_append, r.len]; unfold slen snew; simp, ?_, fun l o' h => ?_⟩
  · rw [List.nodup_append]
    refine ⟨r.nd, by simp, fun a ha b hb => ?_⟩
    rw [List.mem_singleton.mp hb]
    exact fun e => hp (e ▸ ha)
  · by_cases e : l < slen s
    · have h' : sget s l = some o' := by
        unfold sget snew at h
        rw [List.getElem?_append_left e] at h
        exact h
      obtain ⟨a, h1, h2⟩ := r.ob l o' h'
      exact ⟨a, (Tups.snoc as H p).pre _ _ h1, h2.tups (Tups.snoc as H p) rfl⟩
    · have e2 : l = slen s := by
        unfold sget snew at h
        have := (List.getElem?_eq_some_iff.mp h).1
        rw [List.length_append, List.length_singleton] at this
        have : l < slen s + 1 := this
        omega
      subst e2
      have e3 : b = o' := by
        unfold sget snew slen at h
        simpa using h
      subst e3
      exact ⟨p, by rw [← r.len]; simp, hb⟩
end
theorem calm_bind {α β : Type} (r : R α) (f : α → Store → R β) : (r.bind f).calm = r.calm.bind fun a s => (f a s).calm := by cases r <;> rfl
section
variable {α β γ δ : Type} {T : Tb} {rep : List Addr → Hp → α → β → Prop} {rep2 : List Addr → Hp → γ → δ → Prop} {as as0 as' : List Addr} {H H0 H' : Hp} {r : R α} {Q : β → Hp → Prop} {E : XK} {st : Store}
/-- what follows is read from an earlier place -/
theorem PC.bindF {f : α → Store → R γ} {Q : δ → Hp → Prop} (e0 : Ext as0 H0 as H) (h : PC T rep2 as0 H0 (r.bind f) Q E) :
    PC T rep as H r (fun x H1 => ∃ as1 st1 v, Ext as H as1 H1 ∧ Rel T as1 H1 st1 ∧ rep as1 H1 v x ∧ PC T rep2 as0 H0 (f v st1) Q E) E := by
  cases r with
  | ok v st => exact fun as1 H1 x e k p => ⟨as1, st, v, e, k, p, h⟩
  | exc e st => exact PC.ext (r := (R.exc e st : R γ)) h e0
  | bad => exact h
theorem PC.calm {E' : XK} (h : PC T rep as H r.calm Q E) : PC T rep as H r Q E' := by
  cases r with
  | ok v st => exact h
  | exc e st => exact h.elim
  | bad => exact h
end
section
variable {X : Cx} {T : Tb} {G : Gm} {tb : Tbl} {k : Nat} {σ : L2.St} {H : Hp} {as : List Addr} {st : Store} {ρ : Env} {a b c e tg : Expr} {ea eb ec : E} {pos p p2 apos : Pos} {es : List Expr} {eL : E}
/-- readings from which nothing is raised -/
def tE0 (T : Tb) (G : Gm) (e : E) : TE := fun σ H Q => ∃ as st ρ, Rel T as H st ∧ RepE T as H ρ σ ∧ PC T (RepV T) as H (ev G e ρ st) Q (fun _ _ _ => False)
def tT0 (T : Tb) (G : Gm) (e : E) : TT := fun σ H Q => ∃ as st ρ, Rel T as H st ∧ RepE T as H ρ σ ∧ PC T repB as H (evt G e ρ st) Q (fun _ _ _ => False)
theorem se0 (h : PE X a (tE X T G ea)) : PE X a (tE0 T G ea) := h.le fun σ H Q h => by
  obtain ⟨as, st, ρ, r, p, h⟩ := h
  exact ⟨as, st, ρ, r, p, h.mono (fun _ _ z => z) fun _ _ _ z => z.elim⟩
theorem st0 (h : PT X a (tT X T G ea)) : PT X a (tT0 T G ea) := h.le fun σ H Q h => by
  obtain ⟨as, st, ρ, r, p, h⟩ := h
  exact ⟨as, st, ρ, r, p, h.mono (fun _ _ z => z) fun _ _ _ z => z.elim⟩
/-- a clause's tests -/
def tC (T : Tb) (G : Gm) (c : E) : TT := if c.isNil = true then tYes else tT0 T G c
/-- one turn -/
def lcT (G : Gm) (g : Tg) (c e : E) (own : List Nat) (ρ : Env) (x : Val) (s : Store) : R (Option Val) := R.ob (tgSet g x (wipeE ρ own)) fun ρ2 =>
      if c.isNil = true then (ev G e ρ2 s).bind fun v s => R.ok (some v) s else (ev G c ρ2 s).bind fun x s => R.tb (truth s x) ((ev G e ρ2 s).bind fun v s => R.ok (some v) s) (R.ok none s)
theorem lcT_no {g : Tg} {cc ee : E} {own : List Nat} {x : Val} {s : Store} (h : tgSet g x (wipeE ρ own) = none) : lcT G g cc ee own ρ x s = .bad := by
  unfold lcT
  rw [h]; rfl
theorem lcT_at {g : Tg} {cc ee : E} {own : List Nat} {x : Val} {s : Store} {ρ2 : Env} (h : tgSet g x (wipeE ρ own) = some ρ2) : lcT G g cc ee own ρ x s =
      if cc.isNil = true then (ev G ee ρ2 s).bind fun v s => R.ok (some v) s else (ev G cc ρ2 s).bind fun x s => R.tb (truth s x) ((ev G ee ρ2 s).bind fun v s => R.ok (some v) s) (R.ok none s) := by
  unfold lcT
  rw [h]; rfl
theorem ev_lc {g : Tg} {it cc ee : E} {own : List Nat} (ρ : Env) (s : Store) : ev G (.lc g it cc ee own) ρ s = (evw G it ρ s).bind fun w s => lcW w (lcT G g cc ee own ρ) s := by
  rw [ev]
  rfl
def tgt (T : Tb) (g : Tg) (own : List Nat) : TG := fun v σ H Q => ∃ as st ρ ρ' w, Rel T as H st ∧ RepE T as H ρ σ ∧ RepV T as H w v ∧ tgSet g w ρ = some ρ' ∧ ∀ σ', RepE T as H ρ' σ' → (own ≠ [] → wipe σ' own = wipe σ own) → Q σ' H
theorem wipe_unset (σ : L2.St) (own : List Nat) {i : Nat} (hi : i ∈ own) : (wipe σ own).set i none = wipe σ own := by
  apply List.ext_getElem?
  intro j
  by_cases e : i = j
  · subst e
    by_cases l : i < (wipe σ own).length
    · rw [List.getElem?_set_self l]
      have : (wipe σ own)[i]? = some ((wipe σ own)[i]'l) := List.getElem?_eq_getElem l
      cases q : (wipe σ own)[i]'l with
      | none => rw [this, q]
      | some x =>
        rw [q] at this
        exact absurd hi (wipe_some this).2
    · rw [List.getElem?_eq_none (by simpa using l), List.getElem?_eq_none (by simpa using l)]
  · rw [List.getElem?_set_ne e]
theorem wipe_wipe (σ : L2.St) (own : List Nat) : wipe (wipe σ own) own = wipe σ own := by
  have : ∀ vs : List Nat, (∀ i ∈ vs, i ∈ own) → wipe (wipe σ own) vs = wipe σ own := by
    intro vs
    induction vs with
    | nil => intro _; rfl
    | cons v vs ih =>
      intro h
      show (wipe (wipe σ own) vs).set v none = _
      rw [ih fun i hi => h i (List.mem_cons_of_mem _ hi)]
      exact wipe_unset σ own (h v List.mem_cons_self)
  exact this own fun _ h => h
/-- the turns -/
theorem lc_run {chk : Store → Bool} {xs : List Val} {J : It} {g : Tg} {cc ee : E} {own : List Nat} {Q : VK} {E : XK} (ho : own ≠ []) (hg : Gives T as H chk xs J) (r : Rel T as H st) (hρ : RepE T as H ρ σ)
    (h : PC T (RepV T) as H ((lcR chk (lcT G g cc ee own ρ) xs [] st).calm.bind fun vs s => alloc (.lst vs) s) Q E) (D : Addr) (hD : H D = none) :
    ∃ W : Nat → Nat → Hp → Prop, (∃ m, W 0 m (upd H D (.lst []))) ∧ ∀ i m H, W i m H →
      (J.stop i H ∧ Q (.ref D) H) ∨ (J.go i H ∧ ∃ Nx : Hp → Prop, (∀ H', Nx H' → ∃ m', m' < m ∧ W (i + 1) m' H') ∧ ∀ x H', J.yld i H x H' → tgt T g own x (wipe σ own) H' fun σ2 H2 => wipe σ2 own = wipe σ own ∧ tC T G cc σ2 H2 fun b H3 =>
        if b = true then tE0 T G ee σ2 H3 fun y H4 => ∃ acc, H4 D = some (.lst acc) ∧ acc.length < sizeLine ∧ Nx (upd H4 D (.lst (acc ++ [y]))) else Nx H3) := by
  refine ⟨fun i m H' => ∃ as' st' acc ys, m = xs.length - i ∧ i ≤ xs.length ∧ Ext as H as' H' ∧ Rel T as' H' st' ∧ D ∉ as' ∧ H' D = some (.lst ys) ∧ RepVs T as' H' acc ys ∧
    PC T (RepV T) as H ((lcR chk (lcT G g cc ee own ρ) (xs.drop i) acc st').calm.bind fun vs s => alloc (.lst vs) s) Q E, ⟨_, as, st, [], [], rfl, Nat.zero_le _, Ext.lay hD, r.lay hD, r.fresh hD, upd_same, rfl, h⟩, fun i m H' hW => ?_⟩
  obtain ⟨as', st', acc, ys, hm, hi, e, r', nD, hDy, pys, hq⟩ := hW
  by_cases lt : i < xs.length
  · -- another turn
    have hd : xs.drop i = xs[i] :: xs.drop (i + 1) := List.drop_eq_getElem_cons lt
    rw [hd] at hq
    have hok : chk st' = true := by
      cases q : chk st' with
      | true => rfl
      | false =>
        rw [lcR, q] at hq
        exact hq.elim
    rw [lcR, if_pos hok] at hq
    obtain ⟨hgo, _⟩ := hg as' H' st' e r' hok
    obtain ⟨go, yld⟩ := hgo i _ (List.getElem?_eq_getElem lt)
    refine .inr ⟨go, fun H2 => ∃ as2 st2 acc2 ys2, Ext as H as2 H2 ∧ Rel T as2 H2 st2 ∧ D ∉ as2 ∧ H2 D = some (.lst ys2) ∧ RepVs T as2 H2 acc2 ys2 ∧
      PC T (RepV T) as H ((lcR chk (lcT G g cc ee own ρ) (xs.drop (i + 1)) acc2 st2).calm.bind fun vs s => alloc (.lst vs) s) Q E, fun H2 hN => ?_, fun x H2 hy => ?_⟩
    · obtain ⟨as2, st2, acc2, ys2, k1, k2, k3, k4, k5, k6⟩ := hN
      exact ⟨_, by rw [hm]; omega, as2, st2, acc2, ys2, rfl, lt, k1, k2, k3, k4, k5, k6⟩
    · obtain ⟨as2, e2, r2, px⟩ := yld x H2 hy
      have nD2 : D ∉ as2 ∧ H2 D = some (.lst ys) := by
        refine ⟨?_, e2.fr _ _ nD hDy⟩
        obtain ⟨more, rfl, hmore⟩ := e2.pre
        intro z
        rcases List.mem_append.mp z with z | z
        · exact nD z
        · rw [hmore _ z] at hDy; cases hDy
      -- on with a later place
      have later : ∀ {as3 : List Addr} {H3 : Hp}, Ext as2 H2 as3 H3 → D ∉ as3 ∧ H3 D = some (.lst ys) := fun {as3 H3} e3 => by
        refine ⟨?_, e3.fr _ _ nD2.1 nD2.2⟩
        obtain ⟨more, rfl, hmore⟩ := e3.pre
        intro z
        rcases List.mem_append.mp z with z | z
        · exact nD2.1 z
        · have := nD2.2
          rw [hmore _ z] at this; cases this
      have eall : Ext as H as2 H2 := e.trans e2
      cases et : tgSet g xs[i] (wipeE ρ own) with
      | none =>
        rw [lcT_no et] at hq
        exact hq.elim
      | some ρ2 =>
        refine ⟨as2, st', wipeE ρ own, ρ2, xs[i], r2, (hρ.ext eall).wipe own, px, et, fun σ' hσ' hw => ⟨by rw [hw ho, wipe_wipe], ?_⟩⟩
        -- the turn's value, laid behind
        have fin : ∀ {as3 : List Addr} {H3 : Hp} {st3 : Store}, Ext as2 H2 as3 H3 → Rel T as3 H3 st3 →
            PC T (RepV T) as H (((ev G ee ρ2 st3).calm.bind fun v s => (if acc.length < lim then lcR chk (lcT G g cc ee own ρ) (xs.drop (i + 1)) (acc ++ [v]) s else .bad).calm).bind fun vs s => alloc (.lst vs) s) Q E →
            tE0 T G ee σ' H3 fun y H4 => ∃ acc, H4 D = some (.lst acc) ∧ acc.length < sizeLine ∧ ∃ as2 st2 acc2 ys2, Ext as H as2 (upd H4 D (.lst (acc ++ [y]))) ∧ Rel T as2 (upd H4 D (.lst (acc ++ [y]))) st2 ∧ D ∉ as2 ∧ (upd H4 D (.lst (acc ++ [y]))) D = some (.lst ys2) ∧ RepVs T as2 (upd H4 D (.lst (acc ++ [y]))) acc2 ys2 ∧
              PC T (RepV T) as H ((lcR chk (lcT G g cc ee own ρ) (xs.drop (i + 1)) acc2 st2).calm.bind fun vs s => alloc (.lst vs) s) Q E := fun {as3 H3 st3} e3 r3 hq => by
          refine ⟨as3, st3, ρ2, r3, hσ'.ext e3, ?_⟩
          rw [bind_bind] at hq
          refine ((PC.bindF (rep := RepV T) (eall.trans e3) hq).calm).mono (fun y H4 q => ?_) fun _ _ _ z => z
          obtain ⟨as4, st4, v, e4, r4, p4, q⟩ := q
          obtain ⟨nD4, hD4⟩ := later (e3.trans e4)
          split at q
          · rename_i hl
            have tp : Tups as4 H4 as4 (upd H4 D (.lst (ys ++ [y]))) := ⟨fun _ _ h => h, fun b zs hb => by
              rw [upd_ne (fun z => by rw [z, hD4] at hb; cases hb)]; exact hb⟩
            have kp : ∀ b ∈ as4, (upd H4 D (.lst (ys ++ [y]))) b = H4 b := fun b hb => upd_ne fun z => nD4 (z ▸ hb)
            have e14 : Ext as H as4 H4 := eall.trans (e3.trans e4)
            refine ⟨ys, hD4, ?_, as4, st4, acc ++ [v], ys ++ [y], ⟨e14.pre, fun b o nb hb => ?_, fun b hb => ?_, fun b zs hb => tp.tp _ _ (e14.tp _ _ hb), fun b o u hb => ?_⟩, r4.tups tp kp, nD4, upd_same,
              RepVs.append (RepVs.tups tp _ _ (pys.ext (e2.trans (e3.trans e4)))) (RepVs.cons (RepV.tups tp _ _ p4) rfl), q⟩
            · rw [← pys.length]
              exact hl
            · rw [upd_ne (fun z => by rw [z, hD] at hb; cases hb)]
              exact e14.fr _ _ nb hb
            · rw [upd_ne (fun z => by rw [z] at hb; exact hb hD)]
              exact e14.st _ hb
            · rw [upd_ne (fun z => by rw [z, hD] at hb; cases hb)]
              exact e14.fz _ _ _ hb
          · exact q.elim
        rw [lcT_at et] at hq
        generalize hF : lcT G g cc ee own ρ = F at hq fin ⊢
        unfold tC
        cases hc : cc.isNil with
        | true =>
          simp only [hc, if_true] at hq ⊢
          rw [bind_bind, calm_bind] at hq
          exact fin (Ext.refl _ _) r2 hq
        | false =>
          simp only [hc, Bool.false_eq_true, if_false] at hq ⊢
          refine ⟨as2, st', ρ2, r2, hσ', ?_⟩
          rw [bind_bind, calm_bind, bind_bind] at hq
          have hq2 : PC T (RepV T) as H ((evt G cc ρ2 st').calm.bind fun b s => (((if b = true then (ev G ee ρ2 s).bind fun v s => R.ok (some v) s else R.ok none s).bind fun o s' => (match o with
              | some v => if acc.length < lim then lcR chk F (xs.drop (i + 1)) (acc ++ [v]) s' else .bad
              | none => lcR chk F (xs.drop (i + 1)) acc s')).calm).bind fun vs s => alloc (.lst vs) s) Q E := by
            unfold evt
            cases ec : ev G cc ρ2 st' with
            | ok x s =>
              rw [ec] at hq
              cases ex : truth s x with
              | none =>
                simp only [R.calm_ok, R.bind_ok, ex] at hq
                exact hq.elim
              | some b =>
                simp only [R.calm_ok, R.bind_ok, ex, R.opt_some] at hq ⊢
                cases b <;> exact hq
            | exc _ _ => rw [ec] at hq; exact hq.elim
            | bad => rw [ec] at hq; exact hq.elim
          refine ((PC.bindF (rep := repB) eall hq2).calm).mono (fun b H3 q => ?_) fun _ _ _ z => z
          obtain ⟨as3, st3, v, e3, r3, p3, q⟩ := q
          cases p3
          cases b with
          | true =>
            simp only [if_true] at q ⊢
            rw [bind_bind, calm_bind] at q
            exact fin e3 r3 q
          | false =>
            simp only [Bool.false_eq_true, if_false] at q ⊢
            obtain ⟨nD3, hD3⟩ := later e3
            exact ⟨as3, st3, acc, ys, eall.trans e3, r3, nD3, hD3, pys.ext (e2.trans e3), q⟩
  · have ei : i = xs.length := Nat.le_antisymm hi (Nat.le_of_not_lt lt)
    subst ei
    rw [List.drop_length] at hq
    have hok : chk st' = true := by
      cases q : chk st' with
      | true => rfl
      | false =>
        rw [lcR, q] at hq
        exact hq.elim
    rw [lcR, if_pos hok] at hq
    refine .inl ⟨(hg as' H' st' e r' hok).2, ?_⟩
    have hq : PC T (RepV T) as H (.ok (.loc (slen st')) (snew st' (.lst acc))) Q E := hq
    have e2 : Ext as H (as' ++ [D]) H' := ⟨by
      obtain ⟨more, rfl, hmore⟩ := e.pre
      refine ⟨more ++ [D], by simp, fun b hb => ?_⟩
      rcases List.mem_append.mp hb with z | z
      · exact hmore _ z
      · rw [List.mem_singleton.mp z]; exact hD, e.fr, e.st, e.tp, e.fz⟩
    refine hq (as' ++ [D]) H' (.ref D) e2 ?_ ⟨D, by rw [← r'.len]; simp, rfl⟩
    exact r'.snoc nD ⟨ys, hDy, RepVs.tups (Tups.snoc as' H' D) _ _ pys⟩
theorem tW.mono {Q Q' : It → Hp → Prop} {it : E} (h : tW X T G it σ H Q) (k : ∀ x H', Q x H' → Q' x H') : tW X T G it σ H Q' := by
  obtain ⟨as, st, ρ, r, p, h⟩ := h
  exact ⟨as, st, ρ, r, p, h.mono (fun J H' q => k J H' q) fun _ _ _ z => z⟩
theorem sx_lc {g : Tg} {it cc ee : E} {own : List Nat} {elt iter : Expr} {ifs : List Expr} {scope : Scope} (cn : Cn T G tb k X) {sc : Scope} (hsc : Sc X sc) (hi : PI X tg iter (tW X T G it)) (ho : own.isEmpty = false) (hb : blkC X.N sc scope (own.map fun i => (X.N.getD i Str.empty, i)) = true)
    (hg : tgB X.N scope own g tg = true) (he : ∀ X' : Cx, Cn T G tb k X' → Sc X' scope → X'.N = X.N → PE X' elt (tE X' T G ee))
    (hc : ∀ X' : Cx, Cn T G tb k X' → Sc X' scope → X'.N = X.N → PTs X' ifs (tC T G cc)) (hs : ∀ x, foldedSetIterable iter X.env x = pure x) :
    PE X (.ListComp elt [⟨tg, iter, ifs, 0⟩] scope pos) (tE X T G (.lc g it cc ee own)) := by
  have hcn : ∀ (s : Shared) (H : Hp) (C : Addr) (cl : List (Str × Addr)) (fp : List Addr), Cn T G tb k (X.blk s H scope (compEnvC scope cl C X.env) fp) := fun s H C cl fp => cn.blk s H scope _ fp
  have b0 := blkOk_by hb
  have bo : BlkOk X.N X.env.scope scope (own.map fun i => (X.N.getD i Str.empty, i)) := ⟨b0.kind, b0.uniq, b0.ix, fun y hy e => hsc.frc _ (b0.free y hy e), b0.own⟩
  refine (pe_lc (own := own.map fun i => (X.N.getD i Str.empty, i)) (g := tgt T g own) cn.calm cn.nd hi bo (fun s H C cl fp => sg (hcn s H C cl fp) (Sc.blk s H scope C cl fp) hg) (fun s H C cl fp => hc _ (hcn s H C cl fp) (Sc.blk s H scope C cl fp) rfl) (fun s H C cl fp => se0 (he _ (hcn s H C cl fp) (Sc.blk s H scope C cl fp) rfl)) hs).le fun σ H Q h => ?_
  obtain ⟨as, st, ρ, r, p, h⟩ := h
  rw [ev_lc] at h
  have hv : (own.map fun i => (X.N.getD i Str.empty, i)).map (·.2) = own := by
    rw [List.map_map]
    exact List.map_id' own
  rw [hv]
  refine ⟨as, st, ρ, r, p, (PC.bind (rep := repW T) h).mono (fun J H1 q D hD => ?_) fun _ _ _ z => z⟩
  obtain ⟨as1, st1, w, e1, r1, p1, q⟩ := q
  have ho' : own ≠ [] := fun e => by rw [e] at ho; cases ho
  cases w with
  | free xs => exact lc_run ho' p1 r1 (p.ext e1) q D hD
  | keep l o xs => exact lc_run ho' p1 r1 (p.ext e1) q D hD
  | keep2 l o m z xs => exact lc_run ho' p1 r1 (p.ext e1) q D hD
  | lock _ _ _ _ => exact p1.elim
/-- the store with a thing of ours changed in another way than by writing -/
theorem Rel.putT {s : Store} (r : Rel T as H s) {l : Nat} {a : Addr} {o : HO} {b : Ob} (h : as[l]? = some a) (e : Tups as H as (upd H a o)) (hb : ObR T as (upd H a o) a b) : Rel T as (upd H a o) (sput s l b) := by
  refine ⟨by rw [r.len]; unfold slen sput; simp, r.nd, fun k o' h' => ?_⟩
  by_cases e0 : k = l
  · subst e0
    have e3 : b = o' := by
      unfold sget sput at h'
      have hl : k < s.length := by
        have := (List.getElem?_eq_some_iff.mp h').1
        simpa using this
      rw [List.getElem?_set_self hl] at h'
      exact Option.some.inj h'
    subst e3
    exact ⟨a, h, hb⟩
  · have h'' : sget s k = some o' := by
      unfold sget sput at h'
      rw [List.getElem?_set_ne (fun z => e0 z.symm)] at h'
      exact h'
    obtain ⟨a', h1, h2⟩ := r.ob k o' h''
    have ne : a' ≠ a := fun z => e0 (getElem?_inj r.nd h1 (by rw [z]; exact h))
    exact ⟨a', h1, h2.tups e (upd_ne ne)⟩
theorem RepK.at : ∀ {kvs : List (Val × Val)} {ks : List (Key × V)} {i : Nat} {v : Val}, RepK T as H kvs ks → (kvs.map (·.1))[i]? = some v → ∃ q x, ks[i]? = some (q, x) ∧ v = kVal q
  | [], _, _, _, _, e => by simp at e
  | (k, w) :: r, _, 0, v, h, e => by
    obtain ⟨q, x, rs, rfl, rfl, _, _⟩ := h
    simp at e
    exact ⟨q, x, rfl, e.symm⟩
  | (k, w) :: r, _, i + 1, v, h, e => by
    obtain ⟨q, x, rs, rfl, rfl, _, h4⟩ := h
    obtain ⟨q', x', h1, h2⟩ := RepK.at (i := i) h4 (by simpa using e)
    exact ⟨q', x', by simpa using h1, h2⟩
theorem gives_keys {l : Nat} {kvs : List (Val × Val)} {ks : List (Key × V)} {ad : Addr} {od : Obj} (hf : H ad = some (.frz od (.dK ks))) (hk : RepK T as H kvs ks) : Gives T as H (stands l (.rod false kvs)) (kvs.map (·.1)) (Itk ad od ks) := by
  intro as' H' st' e r ok
  have hf' := e.fz _ _ _ hf
  have hl : kvs.length = ks.length := hk.length
  refine ⟨fun i v hi => ?_, hf', by rw [List.length_map, hl]; exact Nat.le_refl _⟩
  obtain ⟨q, x, h1, rfl⟩ := hk.at hi
  refine ⟨⟨hf', (List.getElem?_eq_some_iff.mp h1).1⟩, fun y H'' hy => ?_⟩
  obtain ⟨rfl, k, v, h2, rfl⟩ := hy
  rw [h1] at h2
  cases h2
  exact ⟨as', Ext.refl _ _, r, by cases q <;> exact rfl⟩
theorem RepT.at : ∀ {kvs : List (Val × Val)} {ks : List (List Key × V)} {i : Nat} {v : Val}, RepT T as H kvs ks → (kvs.map (·.1))[i]? = some v → ∃ q x, ks[i]? = some (q, x) ∧ v = .tup (q.map kVal)
  | [], _, _, _, _, e => by simp at e
  | (k, w) :: r, _, 0, v, h, e => by
    obtain ⟨q, x, rs, rfl, rfl, _, _⟩ := h
    simp at e
    exact ⟨q, x, rfl, e.symm⟩
  | (k, w) :: r, _, i + 1, v, h, e => by
    obtain ⟨q, x, rs, rfl, rfl, _, h4⟩ := h
    obtain ⟨q', x', h1, h2⟩ := RepT.at (i := i) h4 (by simpa using e)
    exact ⟨q', x', by simpa using h1, h2⟩
theorem RepT.len : ∀ {kvs : List (Val × Val)} {ks : List (List Key × V)}, RepT T as H kvs ks → kvs.length = ks.length
  | [], _, h => by rw [h]; rfl
  | (k, v) :: r, _, h => by
    obtain ⟨q, x, rs, rfl, _, _, h4⟩ := h
    rw [List.length_cons, List.length_cons, RepT.len h4]
theorem gives_keysT {l : Nat} {kvs : List (Val × Val)} {ks : List (List Key × V)} {ad : Addr} {od : Obj} (hf : H ad = some (.frz od (.dT ks))) (hk : RepT T as H kvs ks) : Gives T as H (stands l (.rod true kvs)) (kvs.map (·.1)) (Itkt ad od ks) := by
  intro as' H' st' e r ok
  have hf' := e.fz _ _ _ hf
  have hl : kvs.length = ks.length := hk.len
  refine ⟨fun i v hi => ?_, hf', by rw [List.length_map, hl]; exact Nat.le_refl _⟩
  obtain ⟨q, x, h1, rfl⟩ := hk.at hi
  refine ⟨⟨hf', (List.getElem?_eq_some_iff.mp h1).1⟩, fun y H'' hy => ?_⟩
  obtain ⟨rfl, k, v, b, h2, rfl, h3⟩ := hy
  rw [h1] at h2
  cases h2
  exact ⟨as', Ext.refl _ _, r, keyTup_rep h3⟩
theorem opt_ok {o : Option Val} {s s' : Store} {v : Val} (h : R.opt o s = .ok v s') : o = some v ∧ s' = s := by
  cases o with
  | none => cases h
  | some x => cases h; exact ⟨rfl, rfl⟩
def dicAt (o : Option Ob) (z : Str) : Option Val := match o with
  | some (.dic t kvs) => if fitKey t (.str z) then dget kvs (.str z) else none
  | some (.rod t kvs) => if fitKey t (.str z) then dget kvs (.str z) else none
  | _ => none
theorem getix_dic {w : Val} {z : Str} {s s' : Store} {v : Val} : getix w (.str z) s = .ok v s' ↔ ∃ m, w = .loc m ∧ dicAt (sget s m) z = some v ∧ s' = s := by
  cases w with
  | loc m =>
    have e : getix (.loc m) (.str z) s = (match sget s m with
      | some (.dic t kvs) => if fitKey t (.str z) then R.opt (dget kvs (.str z)) s else .bad
      | some (.rod t kvs) => if fitKey t (.str z) then R.opt (dget kvs (.str z)) s else .bad
      | _ => .bad) := by
      show (match sget s m with
        | some (.lst vs) => _
        | some (.rol vs) => _
        | some (.dic t kvs) => _
        | some (.rod t kvs) => _
        | _ => _) = _
      cases sget s m with
      | none => rfl
      | some o => cases o <;> rfl
    rw [e]
    constructor
    · intro h
      refine ⟨m, rfl, ?_⟩
      split at h
      · rename_i t kvs em
        rw [em]
        show (if fitKey t (.str z) then dget kvs (.str z) else none) = some v ∧ _
        split at h
        · rename_i hf
          rw [if_pos hf]
          exact opt_ok h
        · cases h
      · rename_i t kvs em
        rw [em]
        show (if fitKey t (.str z) then dget kvs (.str z) else none) = some v ∧ _
        split at h
        · rename_i hf
          rw [if_pos hf]
          exact opt_ok h
        · cases h
      · cases h
    · rintro ⟨m', e1, h, rfl⟩
      cases e1
      cases em : sget s' m with
      | none => rw [em] at h; cases h
      | some o =>
        rw [em] at h
        cases o with
        | dic t kvs =>
          have h : (if fitKey t (.str z) then dget kvs (.str z) else none) = some v := h
          split at h
          · rename_i hf
            simp only [hf, if_true, h]; rfl
          · cases h
        | rod t kvs =>
          have h : (if fitKey t (.str z) then dget kvs (.str z) else none) = some v := h
          split at h
          · rename_i hf
            simp only [hf, if_true, h]; rfl
          · cases h
        | _ => cases h
  | tup vs => exact ⟨fun h => (by cases (show R.bad = R.ok v s' from h)), fun ⟨_, e, _⟩ => by cases e⟩
  | str y => exact ⟨fun h => (by cases (show R.bad = R.ok v s' from h)), fun ⟨_, e, _⟩ => by cases e⟩
  | _ => exact ⟨fun h => (by cases (show R.bad = R.ok v s' from h)), fun ⟨_, e, _⟩ => by cases e⟩
theorem dicAt_lock {s : Store} {l m : Nat} {t : Bool} {kvs : List (Val × Val)} (h : sget s l = some (.dic t kvs)) (z : Str) : dicAt (sget (sput s l (.rod t kvs)) m) z = dicAt (sget s m) z := by
  by_cases e : l = m
  · subst e
    have hl : l < s.length := (List.getElem?_eq_some_iff.mp h).1
    rw [h]
    unfold sget sput
    rw [List.getElem?_set_self hl]; rfl
  · unfold sget sput
    rw [List.getElem?_set_ne e]
theorem getix_exc {w : Val} {z : Str} {s s' : Store} {x : Exc} (h : getix w (.str z) s = .exc x s') : False := by
  cases w with
  | loc m =>
    have h : (match sget s m with
      | some (.lst vs) => R.bad
      | some (.rol vs) => R.bad
      | some (.dic t kvs) => if fitKey t (.str z) then R.opt (dget kvs (.str z)) s else .bad
      | some (.rod t kvs) => if fitKey t (.str z) then R.opt (dget kvs (.str z)) s else .bad
      | _ => R.bad) = .exc x s' := h
    split at h
    · cases h
    · cases h
    · rename_i t kvs _
      split at h
      · cases e : dget kvs (.str z) <;> rw [e] at h <;> cases h
      · cases h
    · rename_i t kvs _
      split at h
      · cases e : dget kvs (.str z) <;> rw [e] at h <;> cases h
      · cases h
    · cases h
  | _ => cases (show R.bad = R.exc x s' from h)
theorem d_simple {d : E} (hd : dSimple d = true) {ρ : Env} {s s' : Store} {v : Val} (h : ev G d ρ s = .ok v s') : s' = s ∧ ∀ l t kvs, sget s l = some (.dic t kvs) → ev G d ρ (sput s l (.rod t kvs)) = .ok v (sput s l (.rod t kvs)) := by
  cases d with
  | v i =>
    simp only [ev] at h ⊢
    cases e : eget ρ i with
    | none => rw [e] at h; cases h
    | some w => rw [e] at h; cases h; exact ⟨rfl, fun _ _ _ _ => rfl⟩
  | att a f =>
    cases a with
    | v i =>
      simp only [ev] at h ⊢
      cases e : eget ρ i with
      | none => rw [e] at h; cases h
      | some w =>
        rw [e] at h
        have h : getat w f s = .ok v s' := h
        unfold getat at h
        split at h
        · rename_i m _
          split at h
          · rename_i c fs em
            cases el : fs.lookup f with
            | none => rw [el] at h; cases h
            | some y =>
              rw [el] at h
              cases h
              refine ⟨rfl, fun l t kvs hl => ?_⟩
              have ne : l ≠ m := fun z => by rw [z, em] at hl; cases hl
              have g : sget (sput s l (.rod t kvs)) m = some (.ins c fs) := by
                unfold sget sput
                rw [List.getElem?_set_ne ne]
                exact em
              show getat (.loc m) f _ = _
              unfold getat
              simp only [g]
              rw [el]; rfl
          · cases h
        · cases h
    | _ => cases hd
  | ix a b =>
    cases a with
    | v i =>
      cases b with
      | k w0 =>
        cases w0 with
        | str z =>
          simp only [ev] at h ⊢
          cases e : eget ρ i with
          | none => rw [e] at h; cases h
          | some w =>
            rw [e] at h
            have h : getix w (.str z) s = .ok v s' := h
            obtain ⟨m, rfl, h1, h2⟩ := getix_dic.mp h
            refine ⟨h2, fun l t kvs hl => ?_⟩
            show getix (.loc m) (.str z) _ = _
            exact getix_dic.mpr ⟨m, rfl, by rw [dicAt_lock hl]; exact h1, rfl⟩
        | _ => cases hd
      | _ => cases hd
    | _ => cases hd
  | _ => cases hd
theorem d_exc {d : E} (hd : dSimple d = true) {ρ : Env} {s s' : Store} {x : Exc} (h : ev G d ρ s = .exc x s') : False ∧ True := by
  refine ⟨?_, trivial⟩
  cases d with
  | v i =>
    simp only [ev] at h
    cases e : eget ρ i <;> rw [e] at h <;> cases h
  | att a f =>
    cases a with
    | v i =>
      simp only [ev] at h
      cases e : eget ρ i with
      | none => rw [e] at h; cases h
      | some w =>
        rw [e] at h
        have h : getat w f s = .exc x s' := h
        unfold getat at h
        split at h
        · split at h
          · rename_i c fs em
            cases el : fs.lookup f <;> rw [el] at h <;> cases h
          · cases h
        · cases h
    | _ => cases hd
  | ix a b =>
    cases a with
    | v i =>
      cases b with
      | k w0 =>
        cases w0 with
        | str z =>
          simp only [ev] at h
          cases e : eget ρ i with
          | none => rw [e] at h; cases h
          | some w =>
            rw [e] at h
            exact getix_exc (show getix w (.str z) s = .exc x s' from h)
        | _ => cases hd
      | _ => cases hd
    | _ => cases hd
  | _ => cases hd
theorem ev_lcd {g : Tg} {it cc ee : E} {own : List Nat} (ρ : Env) (s : Store) : ev G (.lcd g it cc ee own) ρ s = (ev G it ρ s).bind fun v s => lcDic v (lcT G g cc ee own ρ) s := by
  rw [ev]
  rfl
theorem lcd_le {σ : L2.St} {H : Hp} {Q : VK} {g : Tg} {it cc ee : E} {own : List Nat} (hd : dSimple it = true) (ho : own.isEmpty = false) (h : tE X T G (.lcd g it cc ee own) σ H Q) :
    tLockE (tLc (iKeys (tE X T G it)) (tgt T g own) (tC T G cc) (tE0 T G ee) ((own.map fun i => (X.N.getD i Str.empty, i)).map (·.2))) σ H Q := by
  obtain ⟨as, st, ρ, r, p, h⟩ := h
  rw [ev_lcd] at h
  have hv : (own.map fun i => (X.N.getD i Str.empty, i)).map (·.2) = own := by
    rw [List.map_map]
    exact List.map_id' own
  rw [hv]
  have ho' : own ≠ [] := fun e => by rw [e] at ho; cases ho
  cases ed : ev G it ρ st with
  | bad => rw [ed] at h; exact h.elim
  | exc x s => rw [ed] at h; obtain ⟨z, _⟩ := d_exc hd ed; exact z.elim
  | ok v st' =>
    rw [ed] at h
    obtain ⟨rfl, hst⟩ := d_simple hd ed
    have h : PC T (RepV T) as H (lcDic v (lcT G g cc ee own ρ) st') Q (EK X σ) := h
    unfold lcDic at h
    split at h
    · rename_i l _
      split at h
      · rename_i t kvs el
        cases t with
        | false =>
            obtain ⟨a, ha, ks, hH, hk⟩ := r.ob l _ el
            refine ⟨a, .dK ks, hH, True.intro, fun od => ?_⟩
            have x1 : Ext as H as (upd H a (.frz od (.dK ks))) := Ext.put r ha
            have r1 : Rel T as (upd H a (.frz od (.dK ks))) (sput st' l (.rod false kvs)) := r.put ha ⟨od, ks, upd_same, hk.ext x1⟩
            refine ⟨as, _, ρ, r1, p.ext x1, ?_⟩
            rw [hst l false kvs el]
            intro as2 H2 x e2 r2 px
            obtain ⟨a', ha', rfl⟩ := px.loc
            rw [e2.as_get ha] at ha'
            cases ha'
            have hf2 := e2.fz a od (.dK ks) upd_same
            refine ⟨a, od, rfl, .inl ⟨ks, hf2, fun D hD => ?_⟩⟩
            have hk2 := (hk.ext x1).ext e2
            refine lc_run (Q := fun v H' => H' a = some (.frz od (.dK ks)) ∧ Q v (upd H' a (.dK ks))) ho' (gives_keys hf2 hk2) r2 ((p.ext x1).ext e2) ((PC.bindF (rep := RepV T) (x1.trans e2) h).mono (fun y H3 q => ?_) fun _ _ _ z => z) D hD
            obtain ⟨as3, st3, w, e3, r3, p3, q⟩ := q
            have hf3 := e3.fz _ _ _ hf2
            refine ⟨hf3, ?_⟩
            have e03 := (x1.trans e2).trans e3
            have ha3 := e3.as_get (e2.as_get ha)
            have tp : Tups as3 H3 as3 (upd H3 a (.dK ks)) := ⟨fun _ _ h => h, fun b zs hb => by
              rw [upd_ne (fun z => by rw [z, hf3] at hb; cases hb)]; exact hb⟩
            have hin : a ∈ as := List.mem_of_getElem? ha
            refine q as3 _ y ⟨e03.pre, fun b o nb hb => ?_, fun b hb => ?_, fun b zs hb => tp.tp _ _ (e03.tp _ _ hb), fun b o u hb => ?_⟩ (r3.putT ha3 tp ⟨ks, upd_same, RepK.tups tp (hk2.ext e3)⟩) (RepV.tups tp _ _ p3)
            · rw [upd_ne (fun z => nb (by rw [z]; exact hin))]
              exact e03.fr _ _ nb hb
            · by_cases z : b = a
              · rw [z, upd_same]; simp
              · rw [upd_ne z]; exact e03.st _ hb
            · rw [upd_ne (fun z => by rw [z, hH] at hb; cases hb)]
              exact e03.fz _ _ _ hb
        | true =>
            obtain ⟨a, ha, ks, hH, hk⟩ := r.ob l _ el
            refine ⟨a, .dT ks, hH, True.intro, fun od => ?_⟩
            have x1 : Ext as H as (upd H a (.frz od (.dT ks))) := Ext.put r ha
            have r1 : Rel T as (upd H a (.frz od (.dT ks))) (sput st' l (.rod true kvs)) := r.put ha ⟨od, ks, upd_same, hk.ext x1⟩
            refine ⟨as, _, ρ, r1, p.ext x1, ?_⟩
            rw [hst l true kvs el]
            intro as2 H2 x e2 r2 px
            obtain ⟨a', ha', rfl⟩ := px.loc
            rw [e2.as_get ha] at ha'
            cases ha'
            have hf2 := e2.fz a od (.dT ks) upd_same
            refine ⟨a, od, rfl, .inr ⟨ks, hf2, fun D hD => ?_⟩⟩
            have hk2 := (hk.ext x1).ext e2
            refine lc_run (Q := fun v H' => H' a = some (.frz od (.dT ks)) ∧ Q v (upd H' a (.dT ks))) ho' (gives_keysT hf2 hk2) r2 ((p.ext x1).ext e2) ((PC.bindF (rep := RepV T) (x1.trans e2) h).mono (fun y H3 q => ?_) fun _ _ _ z => z) D hD
            obtain ⟨as3, st3, w, e3, r3, p3, q⟩ := q
            have hf3 := e3.fz _ _ _ hf2
            refine ⟨hf3, ?_⟩
            have e03 := (x1.trans e2).trans e3
            have ha3 := e3.as_get (e2.as_get ha)
            have tp : Tups as3 H3 as3 (upd H3 a (.dT ks)) := ⟨fun _ _ h => h, fun b zs hb => by
              rw [upd_ne (fun z => by rw [z, hf3] at hb; cases hb)]; exact hb⟩
            have hin : a ∈ as := List.mem_of_getElem? ha
            refine q as3 _ y ⟨e03.pre, fun b o nb hb => ?_, fun b hb => ?_, fun b zs hb => tp.tp _ _ (e03.tp _ _ hb), fun b o u hb => ?_⟩ (r3.putT ha3 tp ⟨ks, upd_same, RepT.tups tp (hk2.ext e3)⟩) (RepV.tups tp _ _ p3)
            · rw [upd_ne (fun z => nb (by rw [z]; exact hin))]
              exact e03.fr _ _ nb hb
            · by_cases z : b = a
              · rw [z, upd_same]; simp
              · rw [upd_ne z]; exact e03.st _ hb
            · rw [upd_ne (fun z => by rw [z, hH] at hb; cases hb)]
              exact e03.fz _ _ _ hb
      · exact h.elim
    · exact h.elim
theorem sx_lcd {g : Tg} {it cc ee : E} {own : List Nat} {elt iter : Expr} {ifs : List Expr} {scope : Scope} (cn : Cn T G tb k X) {sc : Scope} (hsc : Sc X sc) (hi : PE X iter (tE X T G it)) (hd : dSimple it = true) (ho : own.isEmpty = false) (hb : blkC X.N sc scope (own.map fun i => (X.N.getD i Str.empty, i)) = true)
    (hg : tgB X.N scope own g tg = true) (he : ∀ X' : Cx, Cn T G tb k X' → Sc X' scope → X'.N = X.N → PE X' elt (tE X' T G ee))
    (hc : ∀ X' : Cx, Cn T G tb k X' → Sc X' scope → X'.N = X.N → PTs X' ifs (tC T G cc)) (hs : ∀ x, foldedSetIterable iter X.env x = pure x) :
    PE X (.ListComp elt [⟨tg, iter, ifs, 0⟩] scope pos) (tE X T G (.lcd g it cc ee own)) := by
  have hcn : ∀ (s : Shared) (H : Hp) (C : Addr) (cl : List (Str × Addr)) (fp : List Addr), Cn T G tb k (X.blk s H scope (compEnvC scope cl C X.env) fp) := fun s H C cl fp => cn.blk s H scope _ fp
  have b0 := blkOk_by hb
  have bo : BlkOk X.N X.env.scope scope (own.map fun i => (X.N.getD i Str.empty, i)) := ⟨b0.kind, b0.uniq, b0.ix, fun y hy e => hsc.frc _ (b0.free y hy e), b0.own⟩
  refine (pe_lock (pe_lc (own := own.map fun i => (X.N.getD i Str.empty, i)) (g := tgt T g own) cn.calm cn.nd (pi_keys hi) bo (fun s H C cl fp => sg (hcn s H C cl fp) (Sc.blk s H scope C cl fp) hg) (fun s H C cl fp => hc _ (hcn s H C cl fp) (Sc.blk s H scope C cl fp) rfl) (fun s H C cl fp => se0 (he _ (hcn s H C cl fp) (Sc.blk s H scope C cl fp) rfl)) hs)).le fun σ H Q h => lcd_le hd ho h
end
end Ov

/-! Displays of dicts. -/
namespace Ov
open PySem PySem.Spec L2
section
variable {X : Cx} {T : Tb} {G : Gm} {tb : Tbl} {k : Nat} {σ : L2.St} {H : Hp} {as : List Addr} {st : Store} {ρ : Env} {pos : Pos} {eL : E}
theorem dicOfL_nil (t : Bool) (s : Store) : dicOfL t [] s = .ok (.loc (slen s)) (snew s (.dic t [])) := by
  unfold dicOfL pairUp
  exact if_pos ⟨rfl, by decide⟩
theorem sx_dic0 {t : Bool} (hn : eL.isNil = true) : PE X (.Dict [] [] pos) (tE X T G (.dic t eL)) := by
  have e : eL = .nil := by cases eL <;> first | rfl | cases hn
  subst e
  have fin : ∀ {σ : L2.St} {H : Hp} {Q : VK} {o : HO} (p : Addr), H p = none → (∀ (as : List Addr) (st : Store), Rel T as H st → ObR T (as ++ [p]) (upd H p o) p (.dic t [])) → tE X T G (.dic t .nil) σ H Q → Q (.ref p) (upd H p o) := fun {σ H Q o} p hp ho h => by
    obtain ⟨as, st, ρ, r, q, h⟩ := h
    have h' : PC T (RepV T) as H (dicOfL t [] st) Q (EK X σ) := h
    rw [dicOfL_nil] at h'
    exact h' (as ++ [p]) _ (.ref p) (Ext.new hp) (r.new hp (ho as st r)) ⟨p, by rw [← r.len]; simp, rfl⟩
  cases t with
  | false => exact pe_dnewK.le fun σ H Q h p hp => fin p hp (fun as st r => ⟨[], upd_same, rfl⟩) h
  | true => exact pe_dnewT.le fun σ H Q h p hp => fin p hp (fun as st r => ⟨[], upd_same, rfl⟩) h
/-- pairs, one behind another -/
def flat : List (V × V) → List V
  | [] => []
  | (x, y) :: r => x :: y :: flat r
def ofL : List (E × E) → E
  | [] => .nil
  | (a, b) :: r => .cons a (.cons b (ofL r))
def trsOf (X : Cx) (T : Tb) (G : Gm) (l : List (E × E)) : List (TE × TE) := l.map fun p => (tE X T G p.1, tE X T G p.2)
theorem pairs_run {as0 : List Addr} {H0 : Hp} {Q : VK} : ∀ (es : List (E × E)) (f : List Val → Store → R Val) {as : List Addr} {H : Hp} {st : Store} {K : List (V × V) → Hp → Prop}, Ext as0 H0 as H → Rel T as H st → RepE T as H ρ σ →
    PC T (RepV T) as0 H0 ((evs G (ofL es) ρ st).bind f) Q (EK X σ) →
    (∀ ps H2, (∃ as2 st2 xs, Ext as H as2 H2 ∧ Rel T as2 H2 st2 ∧ RepVs T as2 H2 xs (flat ps) ∧ ps.length = (trsOf X T G es).length ∧ PC T (RepV T) as0 H0 (f xs st2) Q (EK X σ)) → K ps H2) → tPairs (trsOf X T G es) σ H K
  | [], f, as, H, st, K, e0, r, p, h, hk => hk [] H ⟨as, st, [], Ext.refl _ _, r, rfl, rfl, h⟩
  | (a, b) :: rest, f, as, H, st, K, e0, r, p, h, hk => by
    have h1 : PC T (RepV T) as0 H0 ((ev G a ρ st).bind fun x s => (ev G b ρ s).bind fun y s => (evs G (ofL rest) ρ s).bind fun zs s => f (x :: y :: zs) s) Q (EK X σ) := by
      have e : (evs G (.cons a (.cons b (ofL rest))) ρ st).bind f = (ev G a ρ st).bind fun x s => (ev G b ρ s).bind fun y s => (evs G (ofL rest) ρ s).bind fun zs s => f (x :: y :: zs) s := by
        rw [evs, bind_bind]
        congr 1
        funext x s
        rw [evs, bind_bind, bind_bind]
        congr 1
        funext y s
        rw [bind_bind]
        rfl
      rw [← e]; exact h
    refine ⟨as, st, ρ, r, p, (PC.bindF (rep := RepV T) e0 h1).mono (fun x H1 q => ?_) fun _ _ _ z => z⟩
    obtain ⟨as1, st1, v, e1, r1, p1, q⟩ := q
    refine ⟨as1, st1, ρ, r1, p.ext e1, (PC.bindF (rep := RepV T) (e0.trans e1) q).mono (fun y H2 q => ?_) fun _ _ _ z => z⟩
    obtain ⟨as2, st2, w, e2, r2, p2, q⟩ := q
    refine pairs_run rest (fun zs s => f (v :: w :: zs) s) (e0.trans (e1.trans e2)) r2 ((p.ext e1).ext e2) q fun ps H3 q => hk _ _ ?_
    obtain ⟨as3, st3, xs, e3, r3, p3, hl, q⟩ := q
    exact ⟨as3, st3, v :: w :: xs, e1.trans (e2.trans e3), r3, ⟨x, _, rfl, RepV.ext (e2.trans e3) _ _ p1, y, _, rfl, RepV.ext e3 _ _ p2, p3⟩, by simp [trsOf, hl], q⟩
/-- keys and their values, from a row -/
theorem pairs_rep {as : List Addr} {H : Hp} : ∀ {ps : List (V × V)} {xs : List Val} {kvs : List (Val × Val)}, RepVs T as H xs (flat ps) → pairUp xs = some kvs → (∀ p ∈ kvs, fitKey false p.1 = true) →
    ∃ ks : List (Key × V), ps = ks.map (fun kv => (kV kv.1, kv.2)) ∧ ∀ (acc : List (Val × Val)) (ac : List (Key × V)), RepK T as H acc ac → RepK T as H (kvs.foldl (fun acc p => dput acc p.1 p.2) acc) (mergeK ac ks)
  | [], xs, kvs, h, e, _ => by
    cases xs with
    | nil => cases e; exact ⟨[], rfl, fun _ _ z => z⟩
    | cons v vs => obtain ⟨_, _, z, _⟩ := h; cases z
  | (x, y) :: ps, xs, kvs, h, e, hf => by
    match xs, h, e with
    | [], h, _ => cases h
    | [v], h, e => cases e
    | v :: w :: vs, h, e =>
      obtain ⟨x', r, e1, p1, p2⟩ := h
      obtain ⟨y', r', e2, p3, p4⟩ := p2
      subst e2
      cases e1
      unfold pairUp at e
      cases q : pairUp vs with
      | none => rw [q] at e; cases e
      | some kvs' =>
        rw [q] at e
        cases e
        have hk : fitKey false v = true := hf (v, w) List.mem_cons_self
        obtain ⟨ks, rfl, hks⟩ := pairs_rep p4 q fun p hp => hf p (List.mem_cons_of_mem _ hp)
        obtain ⟨key, rfl, rfl⟩ : ∃ key : Key, v = kVal key ∧ x = kV key := by
          cases v with
          | int i => exact ⟨.inl i, rfl, p1⟩
          | str z => exact ⟨.inr z, rfl, p1⟩
          | _ => cases hk
        exact ⟨(key, y) :: ks, rfl, fun acc ac h => hks _ _ (RepK.put p3 h key)⟩
theorem pps_of {l : List (E × E)} {keys : List (Option Expr)} {vals : List Expr} (h : PPs X pos keys vals (trsOf X T G l)) (hlen : keys.length = (trsOf X T G l).length) (hall : keys.all (·.isSome) = true) (hl : keys.length = vals.length) (h0 : keys ≠ []) (h15 : keys.length ≤ 15) :
    PE X (.Dict keys vals pos) (tE X T G (.dic false (ofL l))) := (pe_disp h hall hl h0 h15).le fun σ H Q q p hp => by
  obtain ⟨as, st, ρ, r, pe, q⟩ := q
  have hpn : p ∉ as := r.fresh hp
  have q' : PC T (RepV T) as H ((evs G (ofL l) ρ st).bind fun xs s => dicOfL false xs s) Q (EK X σ) := q
  have ex : Ext as H as (upd H p (.dK [])) := Ext.lay hp
  refine pairs_run l _ ex (r.lay hp) (pe.ext ex) q' fun ps H2 z => ?_
  obtain ⟨as2, st2, xs, e2, r2, px, hlp, q2⟩ := z
  have hp2 : H2 p = some (.dK []) := e2.fr _ _ hpn upd_same
  have hn2 : p ∉ as2 := by
    obtain ⟨more, rfl, hm⟩ := e2.pre
    intro z
    rcases List.mem_append.mp z with z | z
    · exact hpn z
    · have := hm _ z
      rw [upd_same] at this; cases this
  refine ⟨hp2, ?_⟩
  unfold dicOfL at q2
  cases eu : pairUp xs with
  | none => rw [eu] at q2; exact q2.elim
  | some kvs =>
    rw [eu] at q2
    dsimp only at q2
    split at q2
    · rename_i hc
      obtain ⟨ks, rfl, hks⟩ := pairs_rep px eu (fun p hp => List.all_eq_true.mp hc.1 p hp)
      have tp : Tups as2 H2 as2 (upd H2 p (.dK (mergeK [] ks))) := ⟨fun _ _ h => h, fun b zs hb => by
        rw [upd_ne (fun z => by rw [z, hp2] at hb; cases hb)]; exact hb⟩
      have kp : ∀ b ∈ as2, (upd H2 p (.dK (mergeK [] ks))) b = H2 b := fun b hb => upd_ne fun z => hn2 (z ▸ hb)
      have r3 := r2.tups tp kp
      have e02 := ex.trans e2
      refine ⟨ks, rfl, by rw [← List.length_map (f := fun kv => (kV kv.1, kv.2))]; rw [hlp, ← hlen]; exact h15, ?_⟩
      have q3 : PC T (RepV T) as H (.ok (.loc (slen st2)) (snew st2 (.dic false (kvs.foldl (fun acc p => dput acc p.1 p.2) [])))) Q (EK X σ) := q2
      refine q3 (as2 ++ [p]) _ (.ref p) ⟨?_, fun b o nb hb => ?_, fun b hb => ?_, fun b zs hb => tp.tp _ _ (e02.tp _ _ hb), fun b o u hb => ?_⟩ (r3.snoc hn2 ⟨_, upd_same, ?_⟩) ⟨p, by rw [← r2.len]; simp, rfl⟩
      · obtain ⟨more, rfl, hmore⟩ := e02.pre
        refine ⟨more ++ [p], by simp, fun b hb => ?_⟩
        rcases List.mem_append.mp hb with z | z
        · exact hmore _ z
        · rw [List.mem_singleton.mp z]; exact hp
      · rw [upd_ne (fun z => by rw [z, hp] at hb; cases hb)]
        exact e02.fr _ _ nb hb
      · rw [upd_ne (fun z => by rw [z] at hb; exact hb hp)]
        exact e02.st _ hb
      · rw [upd_ne (fun z => by rw [z, hp] at hb; cases hb)]
        exact e02.fz _ _ _ hb
      · exact RepK.tups (Tups.snoc _ _ _) (RepK.tups tp (hks [] [] rfl))
    · exact q2.elim
end
end Ov

set_option maxHeartbeats 1000000
/-! The module's dict, text keys and tuples of texts, asked by get(k, d). -/
namespace Ov
open PySem PySem.Spec L2 PyProof.Rows
variable {T : Tb} {G : Gm} {tb : Tbl} {k : Nat} {X : Cx}
theorem gg_args {as : List Addr} {H : Hp} {st : Store} {kvs : List (Str × List Val)} {ws : List Val} {Q : VK} {E : XK} (h : PC T (RepV T) as H (ggR kvs ws st) Q E) : ∃ z d, ws = [.str z, d] := by
  cases ws with
  | nil => exact h.elim
  | cons w ws =>
    cases w with
    | str z =>
      cases ws with
      | nil => exact h.elim
      | cons d ws =>
        cases ws with
        | nil => exact ⟨z, d, rfl⟩
        | cons _ _ => exact h.elim
    | _ => exact h.elim
theorem gg_none {kvs : List (Str × List Val)} {z : Str} {d : Val} {st : Store} (h : kvs.lookup z = none) : ggR kvs [.str z, d] st = .ok d st := by
  show (match kvs.lookup z with
    | some vs => R.ok (Val.ktp vs) st
    | none => .ok d st) = _
  rw [h]
theorem gg_some {kvs : List (Str × List Val)} {z : Str} {d : Val} {vs : List Val} {st : Store} (h : kvs.lookup z = some vs) : ggR kvs [.str z, d] st = .ok (.ktp vs) st := by
  show (match kvs.lookup z with
    | some vs => R.ok (Val.ktp vs) st
    | none => .ok d st) = _
  rw [h]
theorem sx_gg (cn : Cn T G tb k X) {i : Nat} {x : Str} {kvs : List (Str × List Val)} {es : List Expr} {eL : E} {p apos pos : Pos} (h1 : okn x = true) (h2 : glbB X.env.scope x = true) (h3 : tb.dics.lookup x = some kvs) (ha : PA X es (tA X T G eL)) (rw_ : Row es eL) (hne : es ≠ [])
    (line : (apos.endLine == pos.line) = true) (hs : noSup (.Name x p) = true)
    (few : methodCallForm (es.length + ([] : List Keyword).length) (backTo pos (starEach es X.env)) (backToKw pos (keywordEach [] X.env)) = true) :
    PE X (.Call (.Attribute (.Name x p) "get" apos) es [] pos) (tE X T G (.gg i kvs eL)) := by
  obtain ⟨a, es0, n, hm, D, miss, hit⟩ := cn.wd.dics x kvs h3
  have hb : PE X (.Name x p) (L2.tC (.ref a)) := pe_glob (glbB_ok h2) hm rfl (okn1 h1)
  refine ⟨fun pins s σ H Q I h => ?_⟩
  cases es with
  | nil => exact absurd rfl hne
  | cons e1 rest =>
    obtain ⟨as, st, ρ, r, q, h⟩ := h
    rw [ev] at h
    refine wpAny_Call_method_late (noSup_ok hs) few line rfl (thn (hb.run pins s σ H (fun y H1 => y = .ref a ∧ H1 = H) I ⟨rfl, rfl⟩) fun v s1 ⟨y, H1, I1, r1, ey, eH⟩ => ?_)
    subst ey eH
    obtain rfl : v = Value.ref a := r1
    have D' : KDict X.K X.w a es0 n := by rw [cn.hK]; exact D
    have kl := I1.kIn _ _ D'.at_
    refine ⟨"dict", "dict.get", PySem.F.plainAttrs_dict, PySem.F.slot_dict_get, PySem.F.type_dict_get, kd_type D' I1, fun b e => ⟨_, by cases e; exact kl, rfl⟩, ?_⟩
    have hA := ha.run pos pins s1 σ H1 (fun vs H2 => ∃ as2 st2 ws, Rel T as2 H2 st2 ∧ RepVs T as2 H2 ws vs ∧ PC T (RepV T) as2 H2 (ggR kvs ws st2) Q (EK X σ)) I1 (by
      refine (pcA r q h).mono fun xs H2 q2 => ?_
      obtain ⟨as2, st2, vs, e2, r2, p2, _, q2⟩ := q2
      exact ⟨as2, st2, vs, r2, p2, q2⟩)
    have st1 := rw_.star e1 rest rfl X.env
    have pl1 := rw_.plain e1 rest rfl pos X.env
    rw [st1] at hA ⊢
    refine Calls.callWith_builtin ?_ (Calls.evalArgs_plain ?_)
    · show (false || (backTo pos (starEach rest X.env)).any (·.1)) = false
      rw [pl1]; rfl
    · refine thn hA fun us s2 ⟨vs, H2, I2, r2, as2, st2, ws, r3, p3, q3⟩ => ?_
      have D2 : KDict X.K X.w a es0 n := D'
      have ews : ∃ z d, ws = [.str z, d] := gg_args q3
      obtain ⟨z, d, ews⟩ := ews
      subst ews
      · obtain ⟨x0, r0, rfl, px, x1, r1, rfl, pd, e9⟩ := p3
        cases (show r1 = [] from e9)
        obtain rfl : x0 = V.str z := px
        cases r2 with
        | cons ra rr =>
          cases rr with
          | cons rd rr =>
            cases rr
            obtain ⟨t, rfl⟩ := ra
            have hm' := PySem.W.mapOf_K (prog := X.prog) (w := X.w) I2.kIn D2.at_ D2.lit
            refine call_meetsIn PySem.F.slot_dict_get hm'.typeIs PySem.F.entry_dict_get (PySem.F.args_dict_get_3 _ _ _) (meets_dict_get_default (strKind X.prog X.w) a (strKind_is X.prog X.w z t) D2.low _) ⟨_, hm', ?_⟩
            cases el : kvs.lookup z with
            | none =>
              rw [gg_none el] at q3
              have ef := PySem.W.find_K D2.at_ (by rw [cn.hK]; exact miss z el)
              rw [ef]
              exact ⟨_, H2, I2.tok _, rd, PC.here q3 r3 pd⟩
            | some vs =>
              obtain ⟨b, ys, en, hb2, hs2⟩ := hit z vs el
              rw [gg_some el] at q3
              have ef := PySem.W.find_K D2.at_ (by rw [cn.hK]; exact en)
              rw [ef]
              exact ⟨.ref b, H2, I2.tok _, rfl, PC.here q3 r3 ⟨b, ys, rfl, hb2, scalVs_rep hs2⟩⟩
end Ov

/-! All expressions. -/
namespace Ov
open PySem PySem.Spec L2
section
variable {T : Tb} {G : Gm} {tb : Tbl} {k : Nat}
/-- a term says what it computes -/
structure Snd (T : Tb) (G : Gm) (tb : Tbl) (k : Nat) (e : E) : Prop where
  x : ∀ {X : Cx} {sc : Scope}, Cn T G tb k X → Sc X sc → ∀ {ex : Expr}, chkE tb T.names X.N e sc ex = true → PE X ex (tE X T G e)
  t : ∀ {X : Cx} {sc : Scope}, Cn T G tb k X → Sc X sc → ∀ {ex : Expr}, chkE tb T.names X.N e sc ex = true → PT X ex (tT X T G e)
  w : ∀ {X : Cx} {sc : Scope}, Cn T G tb k X → Sc X sc → ∀ {op : BoolOp} {vs : List Expr} {p : Pos}, chkE tb T.names X.N e sc (.BoolOp op vs p) = true → PW X (.BoolOp op vs p) (tT X T G e)
theorem inv_nil {ns N : List Str} {sc : Scope} {L : E} (h : chkL tb ns N L sc [] = true) : L = .nil := by
  cases L <;> first | rfl | simp [chkL] at h
theorem inv_cons {ns N : List Str} {sc : Scope} {L : E} {x : Expr} {xs : List Expr} (h : chkL tb ns N L sc (x :: xs) = true) : ∃ a b, L = .cons a b ∧ nstar x = true ∧ chkE tb ns N a sc x = true ∧ chkL tb ns N b sc xs = true := by
  cases L with
  | cons a b =>
    simp only [chkL, Bool.and_eq_true] at h
    exact ⟨a, b, rfl, h.1.1, h.1.2, h.2⟩
  | _ => simp [chkL] at h
theorem sa {X : Cx} {sc : Scope} (cn : Cn T G tb k X) (hsc : Sc X sc) : ∀ {es : List Expr} {L : E}, (∀ a, sizeOf a < sizeOf L → Snd T G tb k a) → chkL tb T.names X.N L sc es = true → PA X es (tA X T G L)
  | [], L, _, h => by
    rw [inv_nil h]
    exact sa_nil
  | x :: xs, L, ih, h => by
    obtain ⟨a, b, rfl, h1, h2, h3⟩ := inv_cons h
    refine sa_cons ((ih a (by simp; omega)).x cn hsc h2) (sa cn hsc (fun c hc => ih c (by simp; omega)) h3) (nstar_star h1 _ _)
/-- a display's pairs -/
theorem sd {X : Cx} {sc : Scope} {pos : Pos} (cn : Cn T G tb k X) (hsc : Sc X sc) : ∀ {keys : List (Option Expr)} {vals : List Expr} {L : E}, (∀ a, sizeOf a < sizeOf L → Snd T G tb k a) → chkD tb T.names X.N L sc keys vals = true →
    ∃ l, L = ofL l ∧ PPs X pos keys vals (trsOf X T G l) ∧ keys.length = (trsOf X T G l).length
  | [], [], L, _, h => by
    have e : L = .nil := by
      unfold chkD at h
      split at h
      · rfl
      · contradiction
      · cases h
    subst e
    exact ⟨[], rfl, pps_nil, rfl⟩
  | some q :: qs, v :: vs, L, ih, h => by
    unfold chkD at h
    split at h
    · contradiction
    · rename_i a b r q' qs' v' vs' e1 e2
      cases e1; cases e2
      simp only [Bool.and_eq_true] at h
      obtain ⟨l, rfl, g1, g2⟩ := sd (pos := pos) cn hsc (L := r) (fun c hc => ih c (by simp; omega)) h.2
      exact ⟨(a, b) :: l, rfl, pps_cons ((ih a (by simp; omega)).x cn hsc h.1.1) ((ih b (by simp; omega)).x cn hsc h.1.2) g1, by simp [trsOf] at g2 ⊢; exact g2⟩
    · cases h
  | none :: qs, vals, L, _, h => by
    unfold chkD at h
    split at h <;> first | contradiction | (cases h; done) | simp_all
  | [], v :: vs, L, _, h => by
    unfold chkD at h
    split at h <;> first | contradiction | (cases h; done) | simp_all
  | some q :: qs, [], L, _, h => by
    unfold chkD at h
    split at h <;> first | contradiction | (cases h; done) | simp_all
theorem isTys_mono {X : Cx} {sc : Scope} (hsc : Sc X sc) : ∀ {ts : List Ty} {ys : List Expr}, isTys tb sc ts ys = true → isTys tb X.env.scope ts ys = true
  | [], [], _ => rfl
  | t :: ts, .Name y p :: ys, h => by
    simp only [isTys, Bool.and_eq_true, decide_eq_true_eq] at h ⊢
    exact ⟨⟨⟨⟨h.1.1.1.1, hsc.glb _ h.1.1.1.2⟩, h.1.1.2⟩, h.1.2⟩, isTys_mono hsc h.2⟩
/-- a walk -/
theorem si {X : Cx} {sc : Scope} (cn : Cn T G tb k X) (hsc : Sc X sc) {e : E} {ex tg : Expr} (hx : Snd T G tb k e) (ih : ∀ a, sizeOf a < sizeOf e → Snd T G tb k a) (h : chkE tb T.names X.N e sc ex = true) (hi : itB e ex tg = true) : PI X tg ex (tW X T G e) := by
  by_cases he : ∃ b es, e = .bi b es ∧ (b = .range ∨ b = .enum ∨ b = .rev ∨ b = .zip)
  · obtain ⟨b, es, rfl, hb⟩ := he
    cases ex with
    | Call f args kws pos =>
      cases f with
      | Name x p =>
        cases kws with
        | cons _ _ => simp [chkE] at h
        | nil =>
          simp only [chkE, Bool.and_eq_true, decide_eq_true_eq] at h
          obtain ⟨⟨⟨⟨⟨h1, h2⟩, h3⟩, h4⟩, h5⟩, h6⟩ := h
          have h2 := hsc.glb _ h2
          have h3 : x ∈ tb.frees := by simpa using h3
          subst h4
          rcases hb with rfl | rfl | rfl | rfl
          · match args, hi, h6 with
            | [a], _, h6 =>
              obtain ⟨ea, eb, rfl, g1, g2, g3⟩ := inv_cons h6
              rw [inv_nil g3] at ih ⊢
              exact si_range1 cn h2 h3 ((ih ea (by simp; omega)).x cn hsc g2) g1
            | [a, b], _, h6 =>
              obtain ⟨ea, eb, rfl, g1, g2, g3⟩ := inv_cons h6
              obtain ⟨eb, ec, rfl, g4, g5, g6⟩ := inv_cons g3
              rw [inv_nil g6] at ih ⊢
              exact si_range2 cn h2 h3 ((ih ea (by simp; omega)).x cn hsc g2) g1 ((ih eb (by simp; omega)).x cn hsc g5) g4
            | [a, b, c], _, h6 =>
              obtain ⟨ea, eb, rfl, g1, g2, g3⟩ := inv_cons h6
              obtain ⟨eb, ec, rfl, g4, g5, g6⟩ := inv_cons g3
              obtain ⟨ec, ed, rfl, g7, g8, g9⟩ := inv_cons g6
              rw [inv_nil g9] at ih ⊢
              exact si_range3 cn h2 h3 ((ih ea (by simp; omega)).x cn hsc g2) g1 ((ih eb (by simp; omega)).x cn hsc g5) g4 ((ih ec (by simp; omega)).x cn hsc g8) g7
            | [], hi, _ => simp [itB] at hi
            | _ :: _ :: _ :: _ :: _, hi, _ => simp [itB] at hi
          · match args, hi, h6 with
            | [a], hi, h6 =>
              cases tg with
              | Tuple elts kk tpos =>
                obtain ⟨ea, eb, rfl, g1, g2, g3⟩ := inv_cons h6
                rw [inv_nil g3] at ih ⊢
                exact si_enum cn h2 h3 ((ih ea (by simp; omega)).x cn hsc g2) g1
              | _ => simp [itB] at hi
            | [], hi, _ => simp [itB] at hi
            | _ :: _ :: _, hi, _ => simp [itB] at hi
          · match args, hi, h6 with
            | [a], hi, h6 =>
              obtain ⟨ea, eb, rfl, g1, g2, g3⟩ := inv_cons h6
              rw [inv_nil g3] at ih ⊢
              exact si_rev cn h2 h3 ((ih ea (by simp; omega)).x cn hsc g2) g1
            | [], hi, _ => simp [itB] at hi
            | _ :: _ :: _, hi, _ => simp [itB] at hi
          · match args, hi, h6 with
            | [a, b], hi, h6 =>
              cases tg with
              | Tuple elts kk tpos =>
                obtain ⟨ea, eb, rfl, g1, g2, g3⟩ := inv_cons h6
                obtain ⟨eb, ec, rfl, g4, g5, g6⟩ := inv_cons g3
                rw [inv_nil g6] at ih ⊢
                exact si_zip cn h2 h3 ((ih ea (by simp; omega)).x cn hsc g2) g1 ((ih eb (by simp; omega)).x cn hsc g5) g4
              | _ => simp [itB] at hi
            | [], hi, _ => simp [itB] at hi
            | [_], hi, _ => simp [itB] at hi
            | _ :: _ :: _ :: _, hi, _ => simp [itB] at hi
      | _ => simp [chkE] at h
    | _ => simp [chkE] at h
  · refine si_val cn (hx.x cn hsc h) fun v ar => ?_
    unfold wkOf
    split
    · exact absurd ⟨_, _, rfl, .inl rfl⟩ he
    · exact absurd ⟨_, _, rfl, .inr (.inl rfl)⟩ he
    · exact absurd ⟨_, _, rfl, .inr (.inr (.inl rfl))⟩ he
    · exact absurd ⟨_, _, rfl, .inr (.inr (.inr rfl))⟩ he
    · rfl
theorem noset {ns N : List Str} {sc : Scope} {e : E} {ex : Expr} {env : PySem.Env} (h : chkE tb ns N e sc ex = true) : ∀ x, foldedSetIterable ex env x = pure x := by
  cases ex with
  | Set es kk p => cases e <;> simp [chkE] at h
  | _ => intro x; rfl
theorem so {X : Cx} {sc : Scope} (cn : Cn T G tb k X) (hsc : Sc X sc) {el : E} {l : Option Expr} (hx : Snd T G tb k el) (h : (match l with
      | none => el.isNil
      | some l => chkE tb T.names X.N el sc l) = true) : PO X l (tP X T G el) := by
  cases l with
  | none => exact so_none h
  | some l =>
    refine so_some ?_ (hx.x cn hsc h)
    cases el <;> first | rfl | (cases l <;> simp [chkE] at h)
theorem nst {ns N : List Str} {sc : Scope} {e : E} {ex : Expr} (h : chkE tb ns N e sc ex = true) : nstar ex = true := by
  cases ex with
  | Starred _ _ => cases e <;> simp [chkE] at h
  | Slice _ _ _ _ => cases e <;> simp [chkE] at h
  | _ => rfl
set_option maxHeartbeats 4000000 in
theorem snd (e : E) : Snd T G tb k e := by
  induction hn : sizeOf e using Nat.strongRecOn generalizing e with
  | _ n ih0 =>
  have ih : ∀ a, sizeOf a < sizeOf e → Snd T G tb k a := fun a h => ih0 _ (hn ▸ h) a rfl
  clear ih0 hn
  have main : ∀ {X : Cx} {sc : Scope}, Cn T G tb k X → Sc X sc → ∀ {ex : Expr}, chkE tb T.names X.N e sc ex = true → PE X ex (tE X T G e) ∧ PT X ex (tT X T G e) ∧ ∀ op vs p, ex = .BoolOp op vs p → PW X ex (tT X T G e) := by
    intro X sc cn hsc ex h
    unfold chkE at h
    split at h
    · rename_i v co j pos
      have z := sx_k (X := X) (T := T) (G := G) (j := j) (pos := pos) h
      exact ⟨z, st_plain cn z (fun _ => rfl), fun _ _ _ e => by cases e⟩
    · rename_i i x pos
      simp only [Bool.and_eq_true, decide_eq_true_eq] at h
      have z := sx_v (X := X) (T := T) (G := G) (pos := pos) h.1.1 h.1.2 (hsc.vis _ h.2)
      exact ⟨z, st_plain cn z (fun _ => rfl), fun _ _ _ e => by cases e⟩
    · rename_i i v x pos
      simp only [Bool.and_eq_true, decide_eq_true_eq] at h
      have z := sx_g (pos := pos) cn (i := i) h.1.1 (hsc.glb _ h.1.2) h.2
      exact ⟨z, st_plain cn z (fun _ => rfl), fun _ _ _ e => by cases e⟩
    · rename_i neg a xi vs l op x p1 p2
      simp only [Bool.and_eq_true, decide_eq_true_eq] at h
      obtain ⟨⟨⟨⟨h1, h2⟩, h3⟩, rfl⟩, h5⟩ := h
      have z := sx_gin (p := p1) (pos := p2) cn (neg := neg) (i := xi) h1 (hsc.glb _ h2) h3 ((ih a (by simp; omega)).x cn hsc h5)
      exact ⟨z.1, z.2, fun _ _ _ e => by cases e⟩
    · rename_i xi vs a x p1 i pos
      simp only [Bool.and_eq_true, decide_eq_true_eq] at h
      obtain ⟨⟨⟨⟨h1, h2⟩, h3⟩, h4⟩, h5⟩ := h
      have z := sx_gix (p := p1) (pos := pos) cn (i := xi) h1 (hsc.glb _ h2) h3 ((ih a (by simp; omega)).x cn hsc h5) (nstar_ix h4)
      exact ⟨z, st_plain cn z (fun _ => rfl), fun _ _ _ e => by cases e⟩
    · rename_i o a b l op r pos
      simp only [Bool.and_eq_true, decide_eq_true_eq] at h
      obtain ⟨⟨rfl, h2⟩, h3⟩ := h
      have z := sx_bin (pos := pos) cn (o := o) ((ih a (by simp; omega)).x cn hsc h2) ((ih b (by simp; omega)).x cn hsc h3)
      exact ⟨z, st_plain cn z (fun _ => rfl), fun _ _ _ e => by cases e⟩
    · rename_i o a b l op r pos
      simp only [Bool.and_eq_true, decide_eq_true_eq, Bool.not_eq_true'] at h
      obtain ⟨⟨⟨rfl, h2⟩, h3⟩, h4⟩ := h
      have z := sx_cmp (pos := pos) cn (o := o) ((ih a (by simp; omega)).x cn hsc h2) ((ih b (by simp; omega)).x cn hsc h3) h4
      exact ⟨z.1, z.2, fun _ _ _ e => by cases e⟩
    · rename_i o p a b c l op op' r r' pos
      simp only [Bool.and_eq_true, decide_eq_true_eq, Bool.not_eq_true'] at h
      obtain ⟨⟨⟨⟨⟨rfl, rfl⟩, h2⟩, h3⟩, h4⟩, h5⟩ := h
      have z := sx_chn (pos := pos) cn (o := o) (o' := p) ((ih a (by simp; omega)).x cn hsc h2) ((ih b (by simp; omega)).x cn hsc h3) ((ih c (by simp; omega)).x cn hsc h4) h5
      exact ⟨z.1, z.2, fun _ _ _ e => by cases e⟩
    · rename_i a x pos
      have z := sx_not (pos := pos) cn ((ih a (by simp)).x cn hsc h) ((ih a (by simp)).t cn hsc h)
      exact ⟨z.1, z.2, fun _ _ _ e => by cases e⟩
    · rename_i a x pos
      have z := sx_neg (pos := pos) ((ih a (by simp)).x cn hsc h)
      exact ⟨z, st_plain cn z (fun _ => rfl), fun _ _ _ e => by cases e⟩
    · rename_i a b x y pos
      simp only [Bool.and_eq_true] at h
      have z := sx_and (pos := pos) cn ((ih a (by simp; omega)).x cn hsc h.1) (pe_one ((ih b (by simp; omega)).x cn hsc h.2))
      have w := sw_and (pos := pos) ((ih a (by simp; omega)).t cn hsc h.1) (pw_and1 ((ih b (by simp; omega)).t cn hsc h.2))
      exact ⟨z, w.pt, fun _ _ _ e => by cases e; exact w⟩
    · rename_i a b x y z r pos
      simp only [Bool.and_eq_true] at h
      have z := sx_and (pos := pos) cn ((ih a (by simp; omega)).x cn hsc h.1) ((ih b (by simp; omega)).x cn hsc h.2)
      have w := sw_and (pos := pos) ((ih a (by simp; omega)).t cn hsc h.1) ((ih b (by simp; omega)).w cn hsc h.2)
      exact ⟨z, w.pt, fun _ _ _ e => by cases e; exact w⟩
    · rename_i a b x y pos
      simp only [Bool.and_eq_true] at h
      have z := sx_or (pos := pos) cn ((ih a (by simp; omega)).x cn hsc h.1) (pe_one ((ih b (by simp; omega)).x cn hsc h.2))
      have w := sw_or (pos := pos) ((ih a (by simp; omega)).t cn hsc h.1) (pw_or1 ((ih b (by simp; omega)).t cn hsc h.2))
      exact ⟨z, w.pt, fun _ _ _ e => by cases e; exact w⟩
    · rename_i a b x y z r pos
      simp only [Bool.and_eq_true] at h
      have z := sx_or (pos := pos) cn ((ih a (by simp; omega)).x cn hsc h.1) ((ih b (by simp; omega)).x cn hsc h.2)
      have w := sw_or (pos := pos) ((ih a (by simp; omega)).t cn hsc h.1) ((ih b (by simp; omega)).w cn hsc h.2)
      exact ⟨z, w.pt, fun _ _ _ e => by cases e; exact w⟩
    · rename_i t a b x y z pos
      simp only [Bool.and_eq_true] at h
      obtain ⟨⟨h1, h2⟩, h3⟩ := h
      have it := ih t (by simp; omega)
      have ia := ih a (by simp; omega)
      have ib := ih b (by simp; omega)
      exact ⟨sx_ife (pos := pos) (it.t cn hsc h1) (ia.x cn hsc h2) (ib.x cn hsc h3), st_ife (pos := pos) (it.t cn hsc h1) (ia.t cn hsc h2) (ib.t cn hsc h3), fun _ _ _ e => by cases e⟩
    · rename_i es xs kk pos
      have z := sx_tup (j := kk) (pos := pos) (sa cn hsc (fun a ha => ih a (by simp; omega)) h)
      exact ⟨z, st_plain cn z (fun _ => rfl), fun _ _ _ e => by cases e⟩
    · rename_i es xs pos
      have z := sx_lst (pos := pos) (sa cn hsc (fun a ha => ih a (by simp; omega)) h)
      exact ⟨z, st_plain cn z (fun _ => rfl), fun _ _ _ e => by cases e⟩
    · rename_i t es pos
      have z := sx_dic0 (X := X) (T := T) (G := G) (t := t) (pos := pos) h
      exact ⟨z, st_plain cn z (fun _ => rfl), fun _ _ _ e => by cases e⟩
    · rename_i t es q qs vs pos
      simp only [Bool.and_eq_true, decide_eq_true_eq, Bool.not_eq_true'] at h
      obtain ⟨⟨⟨⟨rfl, h2⟩, h3⟩, h4⟩, h5⟩ := h
      obtain ⟨l, rfl, g1, g2⟩ := sd (pos := pos) cn hsc (fun a ha => ih a (by simp; omega)) h5
      have z := pps_of g1 g2 h2 h3 (by simp) h4
      exact ⟨z, st_plain cn z (fun _ => rfl), fun _ _ _ e => by cases e⟩
    · rename_i a i x y pos
      simp only [Bool.and_eq_true] at h
      obtain ⟨⟨h1, h2⟩, h3⟩ := h
      have z := sx_ix (pos := pos) cn ((ih a (by simp; omega)).x cn hsc h2) ((ih i (by simp; omega)).x cn hsc h3) (nstar_ix h1)
      exact ⟨z, st_plain cn z (fun _ => rfl), fun _ _ _ e => by cases e⟩
    · rename_i a lo hi st x l hh p1 pos
      simp only [Bool.and_eq_true] at h
      obtain ⟨⟨⟨h1, h2⟩, h3⟩, h4⟩ := h
      have z := sx_sl (p2 := p1) (pos := pos) cn h1 ((ih a (by simp; omega)).x cn hsc h2) (so cn hsc (ih lo (by simp; omega)) h3) (so cn hsc (ih hi (by simp; omega)) h4)
      exact ⟨z, st_plain cn z (fun _ => rfl), fun _ _ _ e => by cases e⟩
    · rename_i a lo hi st x l hh q p1 pos
      simp only [Bool.and_eq_true, Bool.not_eq_true'] at h
      obtain ⟨⟨⟨⟨h1, h2⟩, h5⟩, h3⟩, h4⟩ := h
      have z := sx_sl3 (p2 := p1) (pos := pos) cn h1 ((ih a (by simp; omega)).x cn hsc h2) (so cn hsc (ih lo (by simp; omega)) h3) (so cn hsc (ih hi (by simp; omega)) h4) (so_some h1 ((ih st (by simp; omega)).x cn hsc h5))
      exact ⟨z, st_plain cn z (fun _ => rfl), fun _ _ _ e => by cases e⟩
    · rename_i a f x n pos
      simp only [Bool.and_eq_true, decide_eq_true_eq, Bool.not_eq_true'] at h
      obtain ⟨⟨⟨h1, h2⟩, h3⟩, h4⟩ := h
      have z := sx_att (pos := pos) cn ((ih a (by simp; omega)).x cn hsc h1) h2 h3 (fun cl m e => by
        have := cn.wd.mths _ _ _ e
        rw [← List.contains_iff_mem, h4] at this
        cases this)
      exact ⟨z, st_plain cn z (fun _ => rfl), fun _ _ _ e => by cases e⟩
    · rename_i f es x p1 args pos
      simp only [Bool.and_eq_true] at h
      obtain ⟨⟨⟨h1, h2⟩, h3⟩, h4⟩ := h
      cases q : tb.fns.lookup x with
      | none => rw [q] at h3; cases h3
      | some w =>
        obtain ⟨g, np⟩ := w
        rw [q] at h3
        have e3 : f = g := of_decide_eq_true h3
        subst e3
        have rr := Row.of h4
        have z := sx_call (p := p1) (pos := pos) cn h1 (hsc.glb _ h2) q (sa cn hsc (fun a ha => ih a (by simp; omega)) h4) (fun pos env => (chkL_plain h4 pos env).2) rr.nil (fun e rest he => by
          subst he
          obtain ⟨_, _, _, g1, _⟩ := inv_cons h4
          exact g1) rr.plain
        exact ⟨z, st_plain cn z (fun _ => rfl), fun _ _ _ e => by cases e⟩
    · rename_i c es x p1 args pos
      simp only [Bool.and_eq_true, decide_eq_true_eq] at h
      obtain ⟨⟨⟨h1, h2⟩, h3⟩, h4⟩ := h
      have z := sx_mk (p := p1) (pos := pos) cn h1 (hsc.glb _ h2) h3 (sa cn hsc (fun a ha => ih a (by simp; omega)) h4) (Row.of h4)
      exact ⟨z, st_plain cn z (fun _ => rfl), fun _ _ _ e => by cases e⟩
    · rename_i b es x p1 args pos
      simp only [Bool.and_eq_true, decide_eq_true_eq] at h
      obtain ⟨⟨⟨⟨⟨h1, h2⟩, h3⟩, h4⟩, h5⟩, h6⟩ := h
      cases args with
      | nil => cases h5
      | cons e es' =>
        obtain ⟨_, _, _, g1, _, g3⟩ := inv_cons h6
        have z := sx_bi (p := p1) (pos := pos) cn h1 (hsc.glb _ h2) (by simpa using h3) h4 (sa cn hsc (fun a ha => ih a (by simp; omega)) h6) g1 (fun pos env => (chkL_plain g3 pos env).2)
        exact ⟨z, st_plain cn z (fun _ => rfl), fun _ _ _ e => by cases e⟩
    · rename_i a t x p1 e y p2 pos
      simp only [Bool.and_eq_true, decide_eq_true_eq] at h
      obtain ⟨⟨⟨⟨⟨⟨⟨h1, h2⟩, h3⟩, h4⟩, h5⟩, h6⟩, h7⟩, h8⟩ := h
      have z := sx_isi (p := p1) (p2 := p2) (pos := pos) cn h1 (hsc.glb _ h2) (by simpa using h3) h4 (hsc.glb _ h5) (by simpa using h6) h7 ((ih a (by simp; omega)).x cn hsc h8) (nst h8)
      exact ⟨z, st_plain cn z (fun _ => rfl), fun _ _ _ e => by cases e⟩
    · rename_i a ts x p1 e ys kk tp pos
      simp only [Bool.and_eq_true, decide_eq_true_eq] at h
      obtain ⟨⟨⟨⟨⟨⟨h1, h2⟩, h3⟩, h4⟩, h5⟩, h6⟩, h8⟩ := h
      have z := sx_isT (p := p1) (kk := kk) (tp := tp) (pos := pos) cn h1 (hsc.glb _ h2) (by simpa using h3) h4 h5 (isTys_mono hsc h6) ((ih a (by simp; omega)).x cn hsc h8) (nst h8)
      exact ⟨z, st_plain cn z (fun _ => rfl), fun _ _ _ e => by cases e⟩
    · rename_i a x p1 y p2 e pos2 pos
      simp only [Bool.and_eq_true, decide_eq_true_eq] at h
      obtain ⟨⟨⟨⟨⟨⟨⟨h1, h2⟩, h3⟩, h4⟩, h5⟩, h6⟩, h7⟩, h8⟩ := h
      have z := sx_ss (p := p1) (p2 := p2) (pos := pos) (pos2 := pos2) cn h1 (hsc.glb _ h2) (by simpa using h3) h4 (hsc.glb _ h5) (by simpa using h6) ((ih a (by simp)).x cn hsc h8) h7
      exact ⟨z, st_plain cn z (fun _ => rfl), fun _ _ _ e => by cases e⟩
    · rename_i a x p1 y p2 e pos2 pos
      simp only [Bool.and_eq_true, decide_eq_true_eq] at h
      obtain ⟨⟨⟨⟨⟨⟨⟨h1, h2⟩, h3⟩, h4⟩, h5⟩, h6⟩, h7⟩, h8⟩ := h
      have z := sx_tr (p := p1) (p2 := p2) (pos := pos) (pos2 := pos2) cn h1 (hsc.glb _ h2) (by simpa using h3) h4 (hsc.glb _ h5) (by simpa using h6) ((ih a (by simp)).x cn hsc h8) h7
      exact ⟨z, st_plain cn z (fun _ => rfl), fun _ _ _ e => by cases e⟩
    · rename_i xi kvs es x q n ap args pos
      simp only [Bool.and_eq_true, decide_eq_true_eq, Bool.not_eq_true'] at h
      obtain ⟨⟨⟨⟨⟨⟨⟨⟨h1, h2⟩, h3⟩, h4⟩, rfl⟩, h6⟩, h7⟩, h8⟩, h9⟩ := h
      have z := sx_gg (p := q) (apos := ap) (pos := pos) cn (i := xi) h1 (hsc.glb _ h2) h3 (sa cn hsc (fun a ha => ih a (by simp; omega)) h9) (Row.of h9) (fun e => by rw [e] at h8; cases h8) h6 h4 (chkL_few h9 h7 _ _)
      exact ⟨z, st_plain cn z (fun _ => rfl), fun _ _ _ e => by cases e⟩
    · rename_i m o es x n ap args pos
      simp only [Bool.and_eq_true, decide_eq_true_eq] at h
      obtain ⟨⟨⟨⟨⟨h1, h2⟩, h3⟩, h4⟩, h5⟩, h6⟩ := h
      have z := sx_bm (apos := ap) (pos := pos) cn h3 ((ih o (by simp; omega)).x cn hsc h1) (sa cn hsc (fun a ha => ih a (by simp; omega)) h6) (Row.of h6) h2 h4 (chkL_few h6 h5 _ _)
      exact ⟨z, st_plain cn z (fun _ => rfl), fun _ _ _ e => by cases e⟩
    · rename_i m o es x n ap args pos
      simp only [Bool.and_eq_true, decide_eq_true_eq] at h
      obtain ⟨⟨⟨⟨⟨h1, h2⟩, h3⟩, h4⟩, h5⟩, h6⟩ := h
      have z := sx_me (apos := ap) (pos := pos) cn ((ih o (by simp; omega)).x cn hsc h1) (sa cn hsc (fun a ha => ih a (by simp; omega)) h6) (Row.of h6) h3 h2 h4 (chkL_few h6 h5 _ _)
      exact ⟨z, st_plain cn z (fun _ => rfl), fun _ _ _ e => by cases e⟩
    · rename_i g it c e own elt tg iter ifs scope pos
      simp only [Bool.and_eq_true, Bool.not_eq_true'] at h
      obtain ⟨⟨⟨⟨⟨⟨h1, h2⟩, h3⟩, h4⟩, h5⟩, h6⟩, h7⟩ := h
      have ii := ih it (by simp; omega)
      have ie := ih e (by simp; omega)
      have ic := ih c (by simp; omega)
      have z := sx_lc (ifs := ifs) (pos := pos) cn hsc (si cn hsc ii (fun a ha => ih a (by simp; omega)) h1 h2) h5 h6 h4 (fun X' cn' hs' hN => ie.x cn' hs' (by rw [hN]; exact h3)) (fun X' cn' hs' hN => by
        unfold tC
        split at h7
        · rw [if_pos h7]; exact pts_nil
        · have nn : ¬ c.isNil = true := by
            cases c <;> first | (intro z; cases z; done) | (exact absurd h7 (by simp [chkE]))
          rw [if_neg nn]
          exact pts_one (st0 (ic.t cn' hs' (by rw [hN]; exact h7)))
        · cases h7) (noset h1)
      exact ⟨z, st_plain cn z (fun _ => rfl), fun _ _ _ e => by cases e⟩
    · rename_i g it c e own elt tg iter ifs scope pos
      simp only [Bool.and_eq_true, Bool.not_eq_true'] at h
      obtain ⟨⟨⟨⟨⟨⟨h1, h2⟩, h3⟩, h4⟩, h5⟩, h6⟩, h7⟩ := h
      have ii := ih it (by simp; omega)
      have ie := ih e (by simp; omega)
      have ic := ih c (by simp; omega)
      have z := sx_lcd (ifs := ifs) (pos := pos) cn hsc (ii.x cn hsc h1) h2 h5 h6 h4 (fun X' cn' hs' hN => ie.x cn' hs' (by rw [hN]; exact h3)) (fun X' cn' hs' hN => by
        unfold tC
        split at h7
        · rw [if_pos h7]; exact pts_nil
        · have nn : ¬ c.isNil = true := by
            cases c <;> first | (intro z; cases z; done) | (exact absurd h7 (by simp [chkE]))
          rw [if_neg nn]
          exact pts_one (st0 (ic.t cn' hs' (by rw [hN]; exact h7)))
        · cases h7) (noset h1)
      exact ⟨z, st_plain cn z (fun _ => rfl), fun _ _ _ e => by cases e⟩
    · cases h
  exact ⟨fun cn hsc _ h => (main cn hsc h).1, fun cn hsc _ h => (main cn hsc h).2.1, fun cn hsc _ _ _ h => (main cn hsc h).2.2 _ _ _ rfl⟩
end
end Ov

/-! Statements: the readings, the plain ones. -/
namespace Ov
open PySem PySem.Spec L2
/-- a statement's end -/
def FC (X : Cx) (T : Tb) (as : List Addr) (H : Hp) (r : Fl) (D : Ends) : Prop := match r with
  | .nx ρ s => ∀ as' H' σ', Ext as H as' H' → Rel T as' H' s → RepE T as' H' ρ σ' → D.nx σ' H'
  | .ct ρ s => ∀ as' H' σ', Ext as H as' H' → Rel T as' H' s → RepE T as' H' ρ σ' → D.ct σ' H'
  | .rt v s => ∀ as' H' x, Ext as H as' H' → Rel T as' H' s → RepV T as' H' v x → D.rt x H'
  | .exc e ρ s => ∀ as' H' d C σ', Ext as H as' H' → Rel T as' H' s → RepE T as' H' ρ σ' → T.exc e.c = some C → XRep T as' H' e.fs d → Tk X (.ref C) d σ' H'
  | .bad => False
def tS (X : Cx) (T : Tb) (G : Gm) (b : S) : TS := fun D σ H => ∃ as st ρ, Rel T as H st ∧ RepE T as H ρ σ ∧ FC X T as H (exec G b ρ st) D
section
variable {X : Cx} {T : Tb} {G : Gm} {tb : Tbl} {k : Nat} {σ : L2.St} {H H' : Hp} {as as' : List Addr} {st : Store} {ρ : Env} {D : Ends} {r : Fl}
theorem FC.ext (h : FC X T as H r D) (e : Ext as H as' H') : FC X T as' H' r D := by
  cases r with
  | nx ρ s => exact fun as2 H2 σ' e2 => h as2 H2 σ' (e.trans e2)
  | ct ρ s => exact fun as2 H2 σ' e2 => h as2 H2 σ' (e.trans e2)
  | rt v s => exact fun as2 H2 x e2 => h as2 H2 x (e.trans e2)
  | exc x ρ s => exact fun as2 H2 d C σ' e2 => h as2 H2 d C σ' (e.trans e2)
  | bad => exact h
/-- an expression, then what is done with it -/
theorem FC.fl {α β : Type} {rep : List Addr → Hp → α → β → Prop} {r : R α} {f : α → Store → Fl} (p : RepE T as H ρ σ) (h : FC X T as H (r.fl ρ f) D) :
    PC T rep as H r (fun x H1 => ∃ as1 st1 v, Ext as H as1 H1 ∧ Rel T as1 H1 st1 ∧ rep as1 H1 v x ∧ RepE T as1 H1 ρ σ ∧ FC X T as1 H1 (f v st1) D) (EK X σ) := by
  cases r with
  | ok v s => exact fun as1 H1 x e k q => ⟨as1, s, v, e, k, q, p.ext e, FC.ext (r := f v s) h e⟩
  | exc x s => exact fun as1 H1 d C e k q z => h as1 H1 d C σ e k (p.ext e) q z
  | bad => exact h
theorem fe {a : E} {f : Val → Store → Fl} (r : Rel T as H st) (p : RepE T as H ρ σ) (h : FC X T as H ((ev G a ρ st).fl ρ f) D) :
    tE X T G a σ H fun x H1 => ∃ as1 st1 v, Ext as H as1 H1 ∧ Rel T as1 H1 st1 ∧ RepV T as1 H1 v x ∧ RepE T as1 H1 ρ σ ∧ FC X T as1 H1 (f v st1) D := ⟨as, st, ρ, r, p, FC.fl p h⟩
theorem fok {α β : Type} {rep : List Addr → Hp → α → β → Prop} {r : R α} {f : α → Store → Fl} {Q : β → Hp → Prop} (h : FC X T as H (r.fl ρ f) D) (k : ∀ v s, r = .ok v s → FC X T as H (f v s) D → ∀ as' H' x, Ext as H as' H' → Rel T as' H' s → rep as' H' v x → Q x H') (hx : ∀ x s, r ≠ .exc x s) : PC T rep as H r Q (fun _ _ _ => False) := by
  cases r with
  | ok v s => exact k v s rfl h
  | exc x s => exact absurd rfl (hx x s)
  | bad => exact h
/-- one statement, then the others -/
theorem FC.sq {f : Env → Store → Fl} (h : FC X T as H (r.sq f) D) : FC X T as H r { D with nx := fun σ' H' => ∃ as' st' ρ', Rel T as' H' st' ∧ RepE T as' H' ρ' σ' ∧ FC X T as' H' (f ρ' st') D } := by
  cases r with
  | nx ρ s => exact fun as2 H2 σ' e k p => ⟨as2, s, ρ, k, p, FC.ext (r := f ρ s) h e⟩
  | ct ρ s => exact h
  | rt v s => exact h
  | exc x ρ s => exact h
  | bad => exact h
/-- one turn, then the others -/
theorem FC.lp {f : Env → Store → Fl} {bk : L2.St → Hp → Prop} (h : FC X T as H (r.lp f) D) :
    FC X T as H r { D with nx := (fun σ' H' => ∃ as' st' ρ', Ext as H as' H' ∧ Rel T as' H' st' ∧ RepE T as' H' ρ' σ' ∧ FC X T as' H' (f ρ' st') D), ct := (fun σ' H' => ∃ as' st' ρ', Ext as H as' H' ∧ Rel T as' H' st' ∧ RepE T as' H' ρ' σ' ∧ FC X T as' H' (f ρ' st') D), bk := bk } := by
  cases r with
  | nx ρ s => exact fun as2 H2 σ' e k p => ⟨as2, s, ρ, e, k, p, FC.ext (r := f ρ s) h e⟩
  | ct ρ s => exact fun as2 H2 σ' e k p => ⟨as2, s, ρ, e, k, p, FC.ext (r := f ρ s) h e⟩
  | rt v s => exact h
  | exc x ρ s => exact h
  | bad => exact h
theorem FC.ends {D' : Ends} (h : FC X T as H r D) (h1 : ∀ σ H, D.nx σ H → D'.nx σ H) (h2 : ∀ σ H, D.ct σ H → D'.ct σ H) (h3 : ∀ v H, D.rt v H → D'.rt v H) : FC X T as H r D' := by
  cases r with
  | nx ρ s => exact fun as2 H2 σ' e k p => h1 _ _ (h as2 H2 σ' e k p)
  | ct ρ s => exact fun as2 H2 σ' e k p => h2 _ _ (h as2 H2 σ' e k p)
  | rt v s => exact fun as2 H2 σ' e k p => h3 _ _ (h as2 H2 σ' e k p)
  | exc x ρ s => exact h
  | bad => exact h
theorem FC.tbT {c : Option Bool} {a b : Fl} (h : FC X T as H (Fl.tb c a b) D) : ∃ d, c = some d ∧ if d = true then FC X T as H a D else FC X T as H b D := by
  cases c with
  | none => exact h.elim
  | some d =>
    refine ⟨d, rfl, ?_⟩
    cases d <;> exact h
theorem ft {a : E} {p q : Store → Fl} (r : Rel T as H st) (hp : RepE T as H ρ σ) (h : FC X T as H ((ev G a ρ st).fl ρ fun x s => Fl.tb (truth s x) (p s) (q s)) D) :
    tT X T G a σ H fun b H1 => ∃ as1 st1, Ext as H as1 H1 ∧ Rel T as1 H1 st1 ∧ RepE T as1 H1 ρ σ ∧ FC X T as1 H1 (if b = true then p st1 else q st1) D := by
  refine ⟨as, st, ρ, r, hp, ?_⟩
  have h' : FC X T as H ((evt G a ρ st).fl ρ fun b s => if b = true then p s else q s) D := by
    unfold evt
    cases ez : ev G a ρ st with
    | ok x s =>
      rw [ez] at h
      obtain ⟨d, e, h⟩ := FC.tbT (show FC X T as H (Fl.tb (truth s x) (p s) (q s)) D from h)
      show FC X T as H ((R.opt (truth s x) s).fl ρ fun b s => if b = true then p s else q s) D
      rw [e]
      show FC X T as H (if d = true then p s else q s) D
      cases d <;> exact h
    | exc _ _ => rw [ez] at h; exact h
    | bad => rw [ez] at h; exact h
  refine (FC.fl (rep := repB) hp h').mono (fun b H1 q => ?_) fun _ _ _ z => z
  obtain ⟨as1, st1, v, e1, r1, p1, p2, q⟩ := q
  cases p1
  exact ⟨as1, st1, e1, r1, p2, q⟩

/-! ### the statements -/
variable {a b c e tg : Expr} {ea eb ec : E} {pos p p2 : Pos} {sa sb : S} {x y : Stmt} {xs ys : List Stmt}
theorem ss_nil : PSs X [] (tS X T G .skip) := pss_nil.le fun D σ H h => by
  obtain ⟨as, st, ρ, r, p, h⟩ := h
  exact h as H σ (Ext.refl _ _) r p
theorem ss_cons (h1 : PS X x (tS X T G sa)) (h2 : PSs X xs (tS X T G sb)) : PSs X (x :: xs) (tS X T G (.sq sa sb)) := (pss_cons h1 h2).le fun D σ H h => by
  obtain ⟨as, st, ρ, r, p, h⟩ := h
  exact ⟨as, st, ρ, r, p, (FC.sq h).ends (fun σ' H' z => z) (fun _ _ z => z) fun _ _ z => z⟩
theorem ss_pass : PS X (.Pass pos) (tS X T G .pass) := ps_pass.le fun D σ H h => by
  obtain ⟨as, st, ρ, r, p, h⟩ := h
  exact h as H σ (Ext.refl _ _) r p
theorem ss_cont : PS X (.Continue pos) (tS X T G .cont) := ps_continue.le fun D σ H h => by
  obtain ⟨as, st, ρ, r, p, h⟩ := h
  exact h as H σ (Ext.refl _ _) r p
/-- not a comprehension -/
def nlc : Expr → Bool
  | .ListComp _ _ _ _ => false
  | .SetComp _ _ _ _ => false
  | .DictComp _ _ _ _ _ => false
  | _ => true
theorem nlc_sw {e : Expr} (h : nlc e = true) (t : Option Expr) (l : Nat) (env : PySem.Env) : swapsWith e t l env = pure false := by
  cases e <;> first | rfl | cases h
theorem ss_ex (he : PE X e (tE X T G ea)) (hn : nlc e = true) : PS X (.Expr e pos) (tS X T G (.ex ea)) := (ps_expr he (nlc_sw hn _ _ _)).le fun D σ H h => by
  obtain ⟨as, st, ρ, r, p, h⟩ := h
  refine (fe r p h).mono fun x H1 q => ?_
  obtain ⟨as1, st1, v, e1, r1, p1, p2, q⟩ := q
  exact q as1 H1 σ (Ext.refl _ _) r1 p2
theorem ss_ret (he : PE X e (tE X T G ea)) : PS X (.Return (some e) pos) (tS X T G (.ret ea)) := (ps_ret he).le fun D σ H h => by
  obtain ⟨as, st, ρ, r, p, h⟩ := h
  refine (fe r p h).mono fun x H1 q => ?_
  obtain ⟨as1, st1, v, e1, r1, p1, p2, q⟩ := q
  exact q as1 H1 x (Ext.refl _ _) r1 p1
theorem ss_retN : PS X (.Return none pos) (tS X T G .retN) := ps_retN.le fun D σ H h => by
  obtain ⟨as, st, ρ, r, p, h⟩ := h
  exact h as H .non (Ext.refl _ _) r rfl
theorem ss_if (hc : PT X c (tT X T G ec)) (ha : PSs X xs (tS X T G sa)) (hb : PSs X ys (tS X T G sb)) : PS X (.If c xs ys pos) (tS X T G (.ife ec sa sb)) := (ps_if hc ha hb).le fun D σ H h => by
  obtain ⟨as, st, ρ, r, p, h⟩ := h
  obtain ⟨as0, st0, ρ0, r0, p0, h0⟩ := ft r p h
  refine ⟨as0, st0, ρ0, r0, p0, h0.mono (fun d H1 q => ?_) fun _ _ _ z => z⟩
  obtain ⟨as1, st1, e1, r1, p1, q⟩ := q
  cases d with
  | true => exact ⟨as1, st1, ρ, r1, p1, q⟩
  | false => exact ⟨as1, st1, ρ, r1, p1, q⟩
/-- a target set: in a loop, an assignment -/
theorem ftg {g : Tg} {f : Env → Fl} {v : Val} {x : V} (r : Rel T as H st) (p : RepE T as H ρ σ) (pv : RepV T as H v x) (h : FC X T as H (Fl.ob (tgSet g v ρ) f) D) :
    ∃ as st ρ0 ρ' w, Rel T as H st ∧ RepE T as H ρ0 σ ∧ RepV T as H w x ∧ tgSet g w ρ0 = some ρ' ∧ ∀ σ', RepE T as H ρ' σ' → (([] : List Nat) ≠ [] → wipe σ' [] = wipe σ []) → ∃ as1 st1, Rel T as1 H st1 ∧ RepE T as1 H ρ' σ' ∧ FC X T as1 H (f ρ') D := by
  cases e : tgSet g v ρ with
  | none => rw [e] at h; exact h.elim
  | some ρ' =>
    rw [e] at h
    exact ⟨as, st, ρ, ρ', v, r, p, pv, e, fun σ' hσ _ => ⟨as, st, r, hσ, h⟩⟩
/-- no store is swapped with the dropping of a comprehension's names -/
def swB (sc : Scope) : Expr → Expr → Bool
  | .Name y _, .ListComp _ _ _ _ => !(sc.names.lookup y == some .local)
  | _, x => nlc x
theorem swB_sw {tg e : Expr} (h : swB X.env.scope tg e = true) (l : Nat) : swapsWith e (some tg) l X.env = pure false := by
  cases e with
  | ListComp elt gs scope pos =>
    cases tg with
    | Name y py =>
      have hy : (X.env.kindOf y == some .local) = false := by
        have h' : (!(X.env.scope.names.lookup y == some .local)) = true := h
        rw [Bool.not_eq_true'] at h'
        exact h'
      unfold swapsWith
      simp only [hy, Bool.and_false, Bool.false_and]
    | _ => first | rfl | cases h
  | SetComp _ _ _ _ => cases tg <;> cases h
  | DictComp _ _ _ _ _ => cases tg <;> cases h
  | _ => rfl
theorem ss_asg (cn : Cn T G tb k X) (hsc : Sc X X.env.scope) {g : Tg} (he : PE X e (tE X T G ea)) (hg : tgB X.N X.env.scope [] g tg = true) (hn : swB X.env.scope tg e = true) (hw : swappedStores [tg] e X.env = pure none) : PS X (.Assign [tg] e pos) (tS X T G (.asg g ea)) :=
  (ps_asg he (sg cn hsc hg) (swB_sw hn _) hw (by
    cases g <;> cases tg <;> first | rfl | (simp [tgB] at hg; done))).le fun D σ H h => by
    obtain ⟨as, st, ρ, r, p, h⟩ := h
    refine (fe r p h).mono fun x H1 q => ?_
    obtain ⟨as1, st1, v, e1, r1, p1, p2, q⟩ := q
    cases et : tgSet g v ρ with
    | none => rw [et] at q; exact q.elim
    | some ρ' =>
      rw [et] at q
      exact ⟨as1, st1, ρ, ρ', v, r1, p2, p1, et, fun σ' hσ _ => q as1 H1 σ' (Ext.refl _ _) r1 hσ⟩
/-- (a, b, ..) = a list -/
theorem ss_asgL (cn : Cn T G tb k X) (hsc : Sc X X.env.scope) {is : List Nat} {es : List Expr} {kk : Nat} {tp : Pos} (he : PE X e (tE X T G ea)) (hg : tgB X.N X.env.scope [] (.t is) (.Tuple es kk tp) = true) (hn : nlc e = true) (hw : swappedStores [.Tuple es kk tp] e X.env = pure none) :
    PS X (.Assign [.Tuple es kk tp] e pos) (tS X T G (.asgL is ea)) := by
  simp only [tgB, Bool.and_eq_true, beq_iff_eq] at hg
  obtain ⟨q1, q2, q3⟩ := pgs_names cn hsc (own := []) hg.1 hg.2
  refine (ps_asg he (pg_unl cn.calm q1 (q2 _) (q3 _)) (by cases e <;> first | rfl | cases hn) hw rfl).le fun D σ H h => ?_
  obtain ⟨as, st, ρ, r, p, h⟩ := h
  refine (fe r p h).mono fun x H1 q => ?_
  obtain ⟨as1, st1, v, e1, r1, p1, p2, q⟩ := q
  cases v with
  | loc l =>
    have q' : FC X T as1 H1 (Fl.ob (lstOf st1 l) fun vs => Fl.ob (esets ρ is vs) fun ρ' => .nx ρ' st1) D := q
    cases el : lstOf st1 l with
    | none => rw [el] at q'; exact q'.elim
    | some vs =>
      rw [el] at q'
      have q2' : FC X T as1 H1 (Fl.ob (esets ρ is vs) fun ρ' => .nx ρ' st1) D := q'
      cases es' : esets ρ is vs with
      | none => rw [es'] at q2'; exact q2'.elim
      | some ρ' =>
        rw [es'] at q2'
        obtain ⟨ad, had, rfl⟩ := p1.loc
        obtain ⟨zs, z1, z2⟩ := r1.lstOf el had
        obtain ⟨w1, w2⟩ := esets_rep p2 z2 es'
        exact ⟨ad, zs, rfl, by rw [cn.hK]; exact z1, w2.symm, w2, q2' as1 H1 _ (Ext.refl _ _) r1 w1⟩
  | _ => exact q.elim
theorem ss_while (hp : PassesOwn (model X.prog X.w) X.A X.env X.xe) (hc : PT X c (tT X T G ec)) (hb : PSs X xs (tS X T G sb)) : PS X (.While c xs [] pos) (tS X T G (.whl ec sb)) := (ps_while hp hc hb).le fun D σ H h => by
  obtain ⟨as, st, ρ, r, p, h⟩ := h
  refine ⟨fun m σ' H' => ∃ as' st' ρ', Rel T as' H' st' ∧ RepE T as' H' ρ' σ' ∧ FC X T as' H' (whlR (ev G ec) (exec G sb) m ρ' st') D, ⟨_, as, st, ρ, r, p, h⟩, fun m σ' H' hw => ?_⟩
  obtain ⟨as', st', ρ', r', p', h'⟩ := hw
  cases m with
  | zero => exact h'.elim
  | succ n =>
    obtain ⟨as0, st0, ρ0, r0, p0, h0⟩ := ft r' p' h'
    refine ⟨as0, st0, ρ0, r0, p0, h0.mono (fun d H1 q => ?_) fun _ _ _ z => z⟩
    obtain ⟨as1, st1, e1, r1, p1, q⟩ := q
    cases d with
    | true =>
      refine ⟨fun σ2 H2 => ∃ as2 st2 ρ2, Rel T as2 H2 st2 ∧ RepE T as2 H2 ρ2 σ2 ∧ FC X T as2 H2 (whlR (ev G ec) (exec G sb) n ρ2 st2) D, fun σ2 H2 z => ⟨n, Nat.lt_succ_self n, z⟩, as1, st1, ρ', r1, p1, ?_⟩
      refine (FC.lp (bk := D.nx) (show FC X T as1 H1 ((exec G sb ρ' st1).lp (whlR (ev G ec) (exec G sb) n)) D from q)).ends ?_ ?_ fun _ _ z => z
      · rintro σ2 H2 ⟨as2, st2, ρ2, _, z1, z2, z3⟩
        exact ⟨as2, st2, ρ2, z1, z2, z3⟩
      · rintro σ2 H2 ⟨as2, st2, ρ2, _, z1, z2, z3⟩
        exact ⟨as2, st2, ρ2, z1, z2, z3⟩
    | false => exact (show FC X T as1 H1 (.nx ρ' st1) D from q) as1 H1 σ' (Ext.refl _ _) r1 p1
/-- the turns of a for -/
theorem for_run {g : Tg} {chk : Store → Bool} {vs : List Val} {J : It} (hg : Gives T as H chk vs J) (r : Rel T as H st) (p : RepE T as H ρ σ)
    (h : FC X T as H (forR chk (fun x ρ s => Fl.ob (tgSet g x ρ) fun ρ' => exec G sb ρ' s) vs ρ st) D) :
    ∃ W : Nat → Nat → L2.St → Hp → Prop, (∃ m, W 0 m σ H) ∧ ∀ i m σ H, W i m σ H →
      (J.stop i H ∧ D.nx σ H) ∨ (J.go i H ∧ ∃ N : L2.St → Hp → Prop, (∀ σ' H', N σ' H' → ∃ m', m' < m ∧ W (i + 1) m' σ' H') ∧ ∀ x H', J.yld i H x H' → tgt T g [] x σ H' fun σ2 H2 => tS X T G sb { D with nx := N, ct := N, bk := D.nx } σ2 H2) := by
  refine ⟨fun i m σ' H' => ∃ as' st' ρ', m = vs.length - i ∧ i ≤ vs.length ∧ Ext as H as' H' ∧ Rel T as' H' st' ∧ RepE T as' H' ρ' σ' ∧ FC X T as' H' (forR chk (fun x ρ s => Fl.ob (tgSet g x ρ) fun ρ' => exec G sb ρ' s) (vs.drop i) ρ' st') D,
    ⟨_, as, st, ρ, rfl, Nat.zero_le _, Ext.refl _ _, r, p, h⟩, fun i m σ' H' hw => ?_⟩
  obtain ⟨as', st', ρ', hm, hi, e, r', p', h'⟩ := hw
  by_cases lt : i < vs.length
  · have hd : vs.drop i = vs[i] :: vs.drop (i + 1) := List.drop_eq_getElem_cons lt
    rw [hd] at h'
    have hok : chk st' = true := by
      cases q : chk st' with
      | true => rfl
      | false => rw [forR, q] at h'; exact h'.elim
    rw [forR, if_pos hok] at h'
    obtain ⟨hgo, _⟩ := hg as' H' st' e r' hok
    obtain ⟨go, yld⟩ := hgo i _ (List.getElem?_eq_getElem lt)
    refine .inr ⟨go, fun σ2 H2 => ∃ as2 st2 ρ2, Ext as H as2 H2 ∧ Rel T as2 H2 st2 ∧ RepE T as2 H2 ρ2 σ2 ∧ FC X T as2 H2 (forR chk (fun x ρ s => Fl.ob (tgSet g x ρ) fun ρ' => exec G sb ρ' s) (vs.drop (i + 1)) ρ2 st2) D, fun σ2 H2 hN => ?_, fun x H2 hy => ?_⟩
    · obtain ⟨as2, st2, ρ2, z0, z1, z2, z3⟩ := hN
      exact ⟨_, by rw [hm]; omega, as2, st2, ρ2, rfl, lt, z0, z1, z2, z3⟩
    · obtain ⟨as2, e2, r2, px⟩ := yld x H2 hy
      have h2 := FC.ext h' e2
      cases et : tgSet g vs[i] ρ' with
      | none => rw [et] at h2; exact h2.elim
      | some ρ2 =>
        rw [et] at h2
        refine ⟨as2, st', ρ', ρ2, vs[i], r2, p'.ext e2, px, et, fun σ3 hσ3 _ => ⟨as2, st', ρ2, r2, hσ3, ?_⟩⟩
        have h3 : FC X T as2 H2 ((exec G sb ρ2 st').lp (forR chk (fun x ρ s => Fl.ob (tgSet g x ρ) fun ρ' => exec G sb ρ' s) (vs.drop (i + 1)))) D := h2
        refine (FC.lp (bk := D.nx) h3).ends ?_ ?_ fun _ _ z => z
        · rintro σ4 H4 ⟨as4, st4, ρ4, z0, z1, z2, z3⟩
          exact ⟨as4, st4, ρ4, e.trans (e2.trans z0), z1, z2, z3⟩
        · rintro σ4 H4 ⟨as4, st4, ρ4, z0, z1, z2, z3⟩
          exact ⟨as4, st4, ρ4, e.trans (e2.trans z0), z1, z2, z3⟩
  · have ei : i = vs.length := Nat.le_antisymm hi (Nat.le_of_not_lt lt)
    subst ei
    rw [List.drop_length] at h'
    have hok : chk st' = true := by
      cases q : chk st' with
      | true => rfl
      | false => rw [forR, q] at h'; exact h'.elim
    rw [forR, if_pos hok] at h'
    exact .inl ⟨(hg as' H' st' e r' hok).2, h' as' H' σ' (Ext.refl _ _) r' p'⟩
theorem ss_for (cn : Cn T G tb k X) (hsc : Sc X X.env.scope) {g : Tg} {it : E} {iter : Expr} (hi : PI X tg iter (tW X T G it)) (hg : tgB X.N X.env.scope [] g tg = true) (hb : PSs X xs (tS X T G sb)) (hs : ∀ x, foldedSetIterable iter X.env x = pure x) :
    PS X (.For tg iter xs [] pos) (tS X T G (.fr g it sb)) := (ps_for cn.own cn.calm hi (sg cn hsc hg) hb hs).le fun D σ H h => by
  obtain ⟨as, st, ρ, r, p, h⟩ := h
  refine ⟨as, st, ρ, r, p, (FC.fl (rep := repW T) p h).mono (fun J H1 q => ?_) fun _ _ _ z => z⟩
  obtain ⟨as1, st1, w, e1, r1, p1, p2, q⟩ := q
  cases w with
  | free vs => exact for_run p1 r1 p2 q
  | keep l o vs => exact for_run p1 r1 p2 q
  | keep2 l o m z vs => exact for_run p1 r1 p2 q
  | lock _ _ _ _ => exact p1.elim
theorem RepE.tups (e : Tups as H as' H') : ∀ {ρ : Env} {σ : L2.St}, RepE T as H ρ σ → RepE T as' H' ρ σ
  | [], _, h => h
  | none :: r, _, h => by
    obtain ⟨y, s, rfl, h⟩ := h
    exact ⟨y, s, rfl, RepE.tups e h⟩
  | some v :: r, _, h => by
    obtain ⟨x, s, rfl, h1, h2⟩ := h
    exact ⟨x, s, rfl, RepV.tups e _ _ h1, RepE.tups e h2⟩
theorem FC.nxF {l : Nat} {t : Bool} {kvs : List (Val × Val)} {as2 : List Addr} {H2 : Hp} (h : FC X T as H (r.nxO l t kvs) D) :
    FC X T as2 H2 r { nx := fun σ' H' => ∃ as' s' ρ', Ext as2 H2 as' H' ∧ Rel T as' H' s' ∧ RepE T as' H' ρ' σ' ∧ ∀ as3 H3 σ3, Ext as H as3 H3 → Rel T as3 H3 (sput s' l (.dic t kvs)) → RepE T as3 H3 ρ' σ3 → D.nx σ3 H3, rt := fun _ _ => False } := by
  cases r with
  | nx ρ s => exact fun as' H' σ' e k p => ⟨as', s, ρ, e, k, p, h⟩
  | _ => exact False.elim h
/-- a dict is unlocked again -/
theorem unlocked {ρ' : Env} {σ' : L2.St} {s' : Store} {as1 as3 : List Addr} {H3 : Hp} {l : Nat} {t : Bool} {kvs : List (Val × Val)} {a : Addr} {od : Obj} {u : HO} (ha : as[l]? = some a) (hH : H a = some u) (hm : ∀ o w, u ≠ .frz o w) (ht : ∀ zs, u ≠ .tup zs) (e3 : Ext as (upd H a (.frz od u)) as3 H3) (x1 : Ext as H as (upd H a (.frz od u)))
    (hb : ∀ as' H', Tups as3 H3 as' H' → H' a = some u → ObR T as' H' a (.dic t kvs)) (r3 : Rel T as3 H3 s') (p3 : RepE T as3 H3 ρ' σ')
    (q : ∀ as3 H3 σ3, Ext as H as3 H3 → Rel T as3 H3 (sput s' l (.dic t kvs)) → RepE T as3 H3 ρ' σ3 → D.nx σ3 H3) : H3 a = some (.frz od u) ∧ D.nx σ' (upd H3 a u) := by
  have hf3 := e3.fz a od u upd_same
  refine ⟨hf3, ?_⟩
  have e03 := x1.trans e3
  have ha3 := e3.as_get ha
  have tp : Tups as3 H3 as3 (upd H3 a u) := ⟨fun _ _ h => h, fun b zs hb => by
    rw [upd_ne (fun z => by rw [z, hf3] at hb; cases hb)]; exact hb⟩
  have hin : a ∈ as := List.mem_of_getElem? ha
  refine q as3 _ σ' ⟨e03.pre, fun b o nb hb => ?_, fun b hb => ?_, fun b zs hb => tp.tp _ _ (e03.tp _ _ hb), fun b o w hb => ?_⟩ (r3.putT ha3 tp (hb _ _ tp upd_same)) (p3.tups tp)
  · rw [upd_ne (fun z => nb (by rw [z]; exact hin))]
    exact e03.fr _ _ nb hb
  · by_cases z : b = a
    · rw [z, upd_same]; simp
    · rw [upd_ne z]; exact e03.st _ hb
  · rw [upd_ne (fun z => by rw [z, hH] at hb; exact hm _ _ (Option.some.inj hb))]
    exact e03.fz _ _ _ hb
set_option maxHeartbeats 2000000 in
/-- for .. in a dict -/
theorem ss_frd (cn : Cn T G tb k X) (hsc : Sc X X.env.scope) {g : Tg} {it : E} {iter : Expr} (hi : PE X iter (tE X T G it)) (hd : dSimple it = true) (hg : tgB X.N X.env.scope [] g tg = true) (hb : PSs X xs (tS X T G sb)) (hs : ∀ x, foldedSetIterable iter X.env x = pure x) :
    PS X (.For tg iter xs [] pos) (tS X T G (.frd g it sb)) := (ps_lock (ps_for cn.own cn.calm (pi_keys hi) (sg cn hsc hg) hb hs)).le fun D σ H h => by
  obtain ⟨as, st, ρ, r, p, h0⟩ := h
  have h : FC X T as H ((ev G it ρ st).fl ρ fun v s => frDic v (fun x ρ s => Fl.ob (tgSet g x ρ) fun ρ' => exec G sb ρ' s) ρ s) D := h0
  clear h0
  cases ed : ev G it ρ st with
  | bad => rw [ed] at h; exact h.elim
  | exc x s => rw [ed] at h; obtain ⟨z, _⟩ := d_exc hd ed; exact z.elim
  | ok v st' =>
    rw [ed] at h
    obtain ⟨rfl, hst⟩ := d_simple hd ed
    replace h : FC X T as H (frDic v (fun x ρ s => Fl.ob (tgSet g x ρ) fun ρ' => exec G sb ρ' s) ρ st') D := h
    unfold frDic at h
    split at h
    · rename_i l
      split at h
      · rename_i t kvs el
        cases t with
        | false =>
          obtain ⟨a, ha, ks, hH, hk⟩ := r.ob l _ el
          refine ⟨a, .dK ks, hH, True.intro, fun od => ?_⟩
          have x1 : Ext as H as (upd H a (.frz od (.dK ks))) := Ext.put r ha
          have r1 : Rel T as (upd H a (.frz od (.dK ks))) (sput st' l (.rod false kvs)) := r.put ha ⟨od, ks, upd_same, hk.ext x1⟩
          refine ⟨as, _, ρ, r1, p.ext x1, ?_⟩
          rw [hst l false kvs el]
          intro as2 H2 x e2 r2 px
          obtain ⟨a', ha', rfl⟩ := px.loc
          rw [e2.as_get ha] at ha'
          cases ha'
          have hf2 := e2.fz a od (.dK ks) upd_same
          have hk2 := (hk.ext x1).ext e2
          refine ⟨a, od, rfl, .inl ⟨ks, hf2, for_run (gives_keys hf2 hk2) r2 ((p.ext x1).ext e2) ((FC.nxF h).ends ?_ (fun _ _ z => z.elim) fun _ _ z => z.elim)⟩⟩
          rintro σ3 H3 ⟨as3, s3, ρ3, e3, r3, p3, q⟩
          exact unlocked (D := D) (l := l) (t := false) (kvs := kvs) (a := a) (od := od) (u := .dK ks) (as1 := as) ha hH (fun _ _ e => by cases e) (fun _ e => by cases e) (e2.trans e3) x1 (fun as' H' tp hz => ⟨ks, hz, RepK.tups tp (hk2.ext e3)⟩) r3 p3 q
        | true =>
          obtain ⟨a, ha, ks, hH, hk⟩ := r.ob l _ el
          refine ⟨a, .dT ks, hH, True.intro, fun od => ?_⟩
          have x1 : Ext as H as (upd H a (.frz od (.dT ks))) := Ext.put r ha
          have r1 : Rel T as (upd H a (.frz od (.dT ks))) (sput st' l (.rod true kvs)) := r.put ha ⟨od, ks, upd_same, hk.ext x1⟩
          refine ⟨as, _, ρ, r1, p.ext x1, ?_⟩
          rw [hst l true kvs el]
          intro as2 H2 x e2 r2 px
          obtain ⟨a', ha', rfl⟩ := px.loc
          rw [e2.as_get ha] at ha'
          cases ha'
          have hf2 := e2.fz a od (.dT ks) upd_same
          have hk2 := (hk.ext x1).ext e2
          refine ⟨a, od, rfl, .inr ⟨ks, hf2, for_run (gives_keysT hf2 hk2) r2 ((p.ext x1).ext e2) ((FC.nxF h).ends ?_ (fun _ _ z => z.elim) fun _ _ z => z.elim)⟩⟩
          rintro σ3 H3 ⟨as3, s3, ρ3, e3, r3, p3, q⟩
          exact unlocked (D := D) (l := l) (t := true) (kvs := kvs) (a := a) (od := od) (u := .dT ks) (as1 := as) ha hH (fun _ _ e => by cases e) (fun _ e => by cases e) (e2.trans e3) x1 (fun as' H' tp hz => ⟨ks, hz, RepT.tups tp (hk2.ext e3)⟩) r3 p3 q
      · exact h.elim
    · exact h.elim
end
end Ov

/-! Statements that change objects. -/
namespace Ov
open PySem PySem.Spec L2
section
variable {X : Cx} {T : Tb} {G : Gm} {tb : Tbl} {k : Nat} {σ : L2.St} {H H' : Hp} {as as' : List Addr} {st : Store} {ρ : Env} {D : Ends} {r : Fl}
variable {a b c e tg : Expr} {ea eb ec : E} {pos p p2 : Pos} {sa sb : S} {x y : Stmt} {xs ys : List Stmt}
/-- an operation that raises nothing, then what is done -/
theorem fpv {r : R Val} {f : Val → Store → Fl} {Q : VK} (h : FC X T as H (r.fl ρ f) D) (hx : ∀ x s, r ≠ .exc x s) (k : ∀ v s as' H' y, Ext as H as' H' → Rel T as' H' s → RepV T as' H' v y → FC X T as' H' (f v s) D → Q y H') : PV T as H r Q := by
  cases r with
  | ok v s => exact fun as' H' y e r p => k v s as' H' y e r p (FC.ext (r := f v s) h e)
  | exc x s => exact absurd rfl (hx x s)
  | bad => exact h
theorem fpu {r : R Unit} {f : Unit → Store → Fl} {Q : Hp → Prop} (h : FC X T as H (r.fl ρ f) D) (hx : ∀ x s, r ≠ .exc x s) (k : ∀ s as' H', Ext as H as' H' → Rel T as' H' s → FC X T as' H' (f () s) D → Q H') : PU T as H r Q := by
  cases r with
  | ok v s => exact fun as' H' e r => k s as' H' e r (FC.ext (r := f () s) h e)
  | exc x s => exact absurd rfl (hx x s)
  | bad => exact h
theorem setix_noexc (x i v : Val) (s : Store) : ∀ y s', setix x i v s ≠ .exc y s' := by
  intro y s' h
  unfold setix at h
  repeat' split at h
  all_goals cases h
theorem setat_noexc (x : Val) (f : Nat) (v : Val) (s : Store) : ∀ y s', setat x f v s ≠ .exc y s' := by
  intro y s' h
  unfold setat at h
  repeat' split at h
  all_goals cases h
theorem augop_noexc (o : Operator) (x y : Val) (s : Store) : ∀ e s', augop o x y s ≠ .exc e s' := by
  intro y s' h
  unfold augop at h
  repeat' split at h
  all_goals cases h
theorem getat_noexc (x : Val) (f : Nat) (s : Store) : ∀ e s', getat x f s ≠ .exc e s' := by
  intro y s' h
  unfold getat R.opt at h
  repeat' split at h
  all_goals cases h
theorem FC.congr {r r' : Fl} (h : FC X T as H r D) (e : r = r') : FC X T as H r' D := e ▸ h
/-- op= by values -/
def rAug (T : Tb) (o : Operator) : V → V → Hp → VK → Prop := fun x y H Q => ∃ as st v w, Rel T as H st ∧ RepV T as H v x ∧ RepV T as H w y ∧ PV T as H (augop o v w st) Q
theorem aug_ok {o : Operator} : PIp X o (rAug T o) := by
  intro pins s σ H x y v u Q I rx ry h
  obtain ⟨as, st, vv, vw, r, p, q, h⟩ := h
  unfold augop at h
  split at h
  · cases p; cases q
    exact iop_add pins s σ H _ _ v u Q I rx ry ⟨_, _, rfl, rfl, h as H _ (Ext.refl _ _) r rfl⟩
  · cases p; cases q
    exact iop_sub pins s σ H _ _ v u Q I rx ry ⟨_, _, rfl, rfl, h as H _ (Ext.refl _ _) r rfl⟩
  · cases p; cases q
    split at h
    · rename_i hl
      exact iop_add_str pins s σ H _ _ v u Q I rx ry ⟨_, _, rfl, rfl, hl, h as H _ (Ext.refl _ _) r rfl⟩
    · exact h.elim
  · exact h.elim
theorem ss_aug (cn : Cn T G tb k X) (hsc : Sc X X.env.scope) {i : Nat} {x : Str} {o : Operator} (h1 : X.N[i]? = some x) (h2 : locB X.env.scope x = true) (he : PE X e (tE X T G ea)) : PS X (.AugAssign (.Name x p) o e pos) (tS X T G (.aug i o ea)) :=
  (ps_aug cn.nd h1 (hsc.loc x h2).1 he (aug_ok (T := T)) (hsc.loc x h2).2).le fun D σ H h => by
    obtain ⟨as, st, ρ, r, p, h⟩ := h
    have h' : FC X T as H (Fl.ob (eget ρ i) fun x => (ev G ea ρ st).fl ρ fun y s => (augop o x y s).fl ρ fun z s => .nx (eset ρ i (some z)) s) D := h
    cases eg : eget ρ i with
    | none => rw [eg] at h'; exact h'.elim
    | some v =>
      rw [eg] at h'
      obtain ⟨xv, hx, px⟩ := p.get eg
      refine ⟨xv, hx, (fe r p h').mono fun yv H1 q => ?_⟩
      obtain ⟨as1, st1, w, e1, r1, p1, p2, q⟩ := q
      refine ⟨as1, st1, v, w, r1, RepV.ext e1 _ _ px, p1, fpv q (augop_noexc _ _ _ _) fun z s as2 H2 zv e2 r2 pz q2 => ?_⟩
      exact q2 as2 H2 _ (Ext.refl _ _) r2 ((p2.ext e2).set pz i)
theorem ss_asgS (cn : Cn T G tb k X) {o i : Expr} {eo ei : E} (ho : PE X o (tE X T G eo)) (hi : PE X i (tE X T G ei)) (hp : nstar i = true) (he : PE X e (tE X T G ea)) : PS X (.Assign [.Subscript o i p] e pos) (tS X T G (.asgS eo ei ea)) :=
  (ps_asg he (pg_sub ho hi (setr (T := T) cn.hK cn.hu) (by intro v; cases i <;> first | rfl | cases hp)) (by cases e <;> rfl) (by cases e <;> rfl) rfl).le fun D σ H h => by
    obtain ⟨as, st, ρ, r, p, h⟩ := h
    refine (fe r p h).mono fun yv H1 q => ?_
    obtain ⟨as1, st1, v, e1, r1, p1, p2, q⟩ := q
    refine (fe r1 p2 q).mono fun ov H2 q => ?_
    obtain ⟨as2, st2, vo, e2, r2, po, p3, q⟩ := q
    refine (fe r2 p3 q).mono fun iv H3 q => ?_
    obtain ⟨as3, st3, vi, e3, r3, pi, p4, q⟩ := q
    refine ⟨as3, st3, vo, vi, v, r3, RepV.ext e3 _ _ po, pi, RepV.ext (e2.trans e3) _ _ p1, fpu q (setix_noexc _ _ _ _) fun s as4 H4 e4 r4 q => ?_⟩
    exact q as4 H4 _ (Ext.refl _ _) r4 (p4.ext e4)
/-- o1[i1], o2[i2] = e, f -/
theorem ss_asgX (cn : Cn T G tb k X) {o1 i1 o2 i2 f : Expr} {ef e1 k1 e2 k2 : E} {q1 q2 tp tp2 : Pos} {kk kk2 : Nat} (h1 : PE X o1 (tE X T G e1)) (g1 : PE X i1 (tE X T G k1)) (hp1 : nstar i1 = true) (h2 : PE X o2 (tE X T G e2)) (g2 : PE X i2 (tE X T G k2)) (hp2 : nstar i2 = true) (he : PE X e (tE X T G ea)) (hf : PE X f (tE X T G ef)) (ne : nstar e = true) (nf : nstar f = true) :
    PS X (.Assign [.Tuple [.Subscript o1 i1 q1, .Subscript o2 i2 q2] kk tp] (.Tuple [e, f] kk2 tp2) pos) (tS X T G (.asgX e1 k1 e2 k2 ea ef)) := by
  have G1 := pg_sub (pos := q1) h1 g1 (setr (T := T) cn.hK cn.hu) (by intro v; cases i1 <;> first | rfl | cases hp1)
  have G2 := pg_sub (pos := q2) h2 g2 (setr (T := T) cn.hK cn.hu) (by intro v; cases i2 <;> first | rfl | cases hp2)
  have sw : swappedStores [.Tuple [.Subscript o1 i1 q1, .Subscript o2 i2 q2] kk tp] (.Tuple [e, f] kk2 tp2) X.env = pure none := by
    unfold swappedStores
    dsimp only
    split
    · rfl
    · split <;> rfl
  refine (ps_asg (pe_tup (pa_cons he (pa_cons hf pa_nil (nstar_star nf _ _)) (nstar_star ne _ _))) (pg_tup cn.calm (pgs_cons G1 (pgs_cons G2 pgs_nil))) rfl sw rfl).le fun D σ H h => ?_
  obtain ⟨as, st, ρ, r, p, h⟩ := h
  refine (fe r p h).mono fun xv H1 q => ?_
  obtain ⟨as1, st1, v, e1', r1, p1, p2, q⟩ := q
  refine (fe r1 p2 q).mono fun yv H2 q => ?_
  obtain ⟨as2, st2, w, e2', r2, pw, p3, q⟩ := q
  refine ⟨(show 2 ≤ sizeLine by rw [sizeLine_eq]; decide), fun pp hpp => ?_⟩
  have ex : Ext as2 H2 as2 (upd H2 pp (.tup [xv, yv])) := Ext.lay hpp
  have r2' : Rel T as2 (upd H2 pp (.tup [xv, yv])) st2 := r2.lay hpp
  have q' := FC.ext (r := (ev G e1 ρ st2).fl ρ fun x s => (ev G k1 ρ s).fl ρ fun y s => (setix x y v s).fl ρ fun _ s => (ev G e2 ρ s).fl ρ fun x s => (ev G k2 ρ s).fl ρ fun y s => (setix x y w s).fl ρ fun _ s => .nx ρ s) q ex
  refine ⟨pp, [xv, yv], rfl, .inl (.inl upd_same), rfl, xv, [yv], rfl, ?_⟩
  refine (fe r2' (p3.ext ex) q').mono fun ov H3 q => ?_
  obtain ⟨as3, st3, vo, e3, r3, po, p4, q⟩ := q
  refine (fe r3 p4 q).mono fun iv H4 q => ?_
  obtain ⟨as4, st4, vi, e4, r4, pi, p5, q⟩ := q
  refine ⟨as4, st4, vo, vi, v, r4, RepV.ext e4 _ _ po, pi, RepV.ext (e2'.trans (ex.trans (e3.trans e4))) _ _ p1, fpu q (setix_noexc _ _ _ _) fun s as5 H5 e5 r5 q => ?_⟩
  refine ⟨yv, [], rfl, ?_⟩
  refine (fe r5 (p5.ext e5) q).mono fun ov2 H6 q => ?_
  obtain ⟨as6, st6, vo2, e6, r6, po2, p6, q⟩ := q
  refine (fe r6 p6 q).mono fun iv2 H7 q => ?_
  obtain ⟨as7, st7, vi2, e7, r7, pi2, p7, q⟩ := q
  refine ⟨as7, st7, vo2, vi2, w, r7, RepV.ext e7 _ _ po2, pi2, RepV.ext (ex.trans (e3.trans (e4.trans (e5.trans (e6.trans e7))))) _ _ pw, fpu q (setix_noexc _ _ _ _) fun s as8 H8 e8 r8 q => ?_⟩
  exact ⟨rfl, q as8 H8 _ (Ext.refl _ _) r8 (p7.ext e8)⟩
/-- an attribute set -/
theorem setat_rep (cn : Cn T G tb k X) {f : Nat} {n : Str} {x v : Val} {xo xv : V} {g : Unit → Store → Fl} (hn : T.names[f]? = some n) (hm : ∀ cl m, G.meth cl f ≠ some m) (r : Rel T as H st) (px : RepV T as H x xo) (pv : RepV T as H v xv)
    (h : FC X T as H ((setat x f v st).fl ρ g) D) : ∃ ad C dx gs, xo = .ref ad ∧ H ad = some (.ins C dx gs) ∧ Cls X.K C ∧ NoAttr X.K C n ∧ gs.length < 1000 ∧
      ∃ s, Ext as H as (upd H ad (.ins C dx (L2.putF n xv gs))) ∧ Rel T as (upd H ad (.ins C dx (L2.putF n xv gs))) s ∧ FC X T as (upd H ad (.ins C dx (L2.putF n xv gs))) (g () s) D := by
  cases x with
  | loc l =>
    have h' : FC X T as H ((match sget st l with
      | some (.ins c fs) => if fs.length < 1000 then .ok () (sput st l (.ins c (putF f v fs))) else .bad
      | _ => .bad : R Unit).fl ρ g) D := h
    split at h'
    · rename_i cl fs e
      obtain ⟨ad, had, rfl⟩ := px.loc
      obtain ⟨C, dx, gs, hc, hi, hf⟩ := r.ins e had
      have hcl : Cls X.K C := by rw [cn.hK]; exact cn.wd.cls _ _ hc
      have hna : NoAttr X.K C n := by rw [cn.hK]; exact cn.wd.noat _ _ _ _ hc hn (hm cl)
      split at h'
      · rename_i hl
        have ex : Ext as H as (upd H ad (.ins C dx (L2.putF n xv gs))) := Ext.put r had
        refine ⟨ad, C, dx, gs, rfl, hi, hcl, hna, by rw [← hf.length]; exact hl, sput st l (.ins cl (putF f v fs)), ex, r.put had ⟨C, dx, _, hc, upd_same, (hf.ext ex).put cn.wd.nnd hn (RepV.ext ex _ _ pv)⟩, FC.ext (r := g () _) h' ex⟩
      · exact h'.elim
    · exact h'.elim
  | _ => exact h.elim
theorem ss_asgA (cn : Cn T G tb k X) {o : Expr} {eo : E} {f : Nat} {n : Str} (ho : PE X o (tE X T G eo)) (hn : T.names[f]? = some n) (hm : ∀ cl m, G.meth cl f ≠ some m) (he : PE X e (tE X T G ea)) : PS X (.Assign [.Attribute o n p] e pos) (tS X T G (.asgA eo f ea)) :=
  (ps_fld ho he (by cases e <;> rfl)).le fun D σ H h => by
    obtain ⟨as, st, ρ, r, p, h⟩ := h
    refine (fe r p h).mono fun yv H1 q => ?_
    obtain ⟨as1, st1, v, e1, r1, p1, p2, q⟩ := q
    refine (fe r1 p2 q).mono fun ov H2 q => ?_
    obtain ⟨as2, st2, vo, e2, r2, po, p3, q⟩ := q
    obtain ⟨ad, C, dx, gs, rfl, hi, hc, hna, hlen, s, ex, r4, q⟩ := setat_rep cn hn hm r2 po (RepV.ext e2 _ _ p1) q
    exact ⟨ad, C, dx, gs, rfl, hi, hc, hna, hlen, q as2 _ _ (Ext.refl _ _) r4 (p3.ext ex)⟩
theorem ss_augA (cn : Cn T G tb k X) {o : Expr} {eo : E} {f : Nat} {n : Str} {op : Operator} (ho : PE X o (tE X T G eo)) (hn : T.names[f]? = some n) (hm : ∀ cl m, G.meth cl f ≠ some m) (he : PE X e (tE X T G ea)) : PS X (.AugAssign (.Attribute o n p) op e pos) (tS X T G (.augA eo f op ea)) :=
  (ps_fldaug ho he (aug_ok (T := T) (o := op))).le fun D σ H h => by
    obtain ⟨as, st, ρ, r, p, h⟩ := h
    refine (fe r p h).mono fun ov H1 q => ?_
    obtain ⟨as1, st1, x, e1, r1, p1, p2, q⟩ := q
    cases x with
    | loc l =>
      have q' : FC X T as1 H1 ((match sget st1 l with
        | some (.ins _ fs) => R.opt (fs.lookup f) st1
        | _ => .bad : R Val).fl ρ fun v s => (ev G ea ρ s).fl ρ fun y s2 => (augop op v y s2).fl ρ fun z s3 => if clsAt (.loc l) s3 = clsAt (.loc l) st1 then (setat (.loc l) f z s3).fl ρ fun _ s => .nx ρ s else .bad) D := by
        refine (show FC X T as1 H1 ((getat (.loc l) f st1).fl ρ fun v s => (ev G ea ρ s).fl ρ fun y s2 => (augop op v y s2).fl ρ fun z s3 => if clsAt (.loc l) s3 = clsAt (.loc l) s then (setat (.loc l) f z s3).fl ρ fun _ s => .nx ρ s else .bad) D from q).congr ?_
        show (R.fl (match sget st1 l with
          | some (.ins _ fs) => R.opt (fs.lookup f) st1
          | _ => .bad : R Val) ρ _) = _
        split
        · cases List.lookup f _ <;> rfl
        · rfl
      split at q'
      · rename_i cl fs e
        obtain ⟨ad, had, rfl⟩ := p1.loc
        obtain ⟨C, dx, gs, hc, hi, hf⟩ := r1.ins e had
        cases ef : fs.lookup f with
        | none => rw [ef] at q'; exact q'.elim
        | some w =>
          rw [ef] at q'
          obtain ⟨y, hy, py⟩ := hf.get cn.wd.nnd hn ef
          have hcl : Cls X.K C := by rw [cn.hK]; exact cn.wd.cls _ _ hc
          have hna : NoAttr X.K C n := by rw [cn.hK]; exact cn.wd.noat _ _ _ _ hc hn (hm cl)
          refine ⟨ad, C, dx, gs, y, rfl, hi, hcl, hna, hy, (fe r1 p2 q').mono fun yv H2 q => ?_⟩
          obtain ⟨as2, st2, v2, e2, r2, pv2, p3, q⟩ := q
          refine ⟨as2, st2, w, v2, r2, RepV.ext e2 _ _ py, pv2, fpv q (augop_noexc _ _ _ _) fun z s as3 H3 zv e3 r3 pz q3 => ?_⟩
          split at q3
          · rename_i hcl3
            obtain ⟨ad', C', dx', gs', ead, hi', hc', hna', hlen, s', ex, r4, q4⟩ := setat_rep cn hn hm r3 (RepV.ext (e2.trans e3) (.loc l) _ ⟨ad, had, rfl⟩) pz q3
            cases ead
            -- the same class still
            have hCC : C' = C := by
              obtain ⟨o', ho', hob⟩ := r3.at ((e2.trans e3).as_get had)
              simp only [clsAt, e, ho'] at hcl3
              cases o' with
              | ins c2 fs2 =>
                have : c2 = cl := by simpa using hcl3
                subst this
                obtain ⟨C2, dx2, gs2, z1, z2, z3⟩ := hob
                rw [hi'] at z2
                cases z2
                rw [hc] at z1
                exact (Option.some.inj z1).symm
              | _ => cases hcl3
            subst hCC
            exact ⟨dx', gs', hi', hlen, q4 as3 _ _ (Ext.refl _ _) r4 ((p3.ext e3).ext ex)⟩
          · exact q3.elim
      · exact q'.elim
    | _ => exact q.elim
/-- o[i], a list's item -/
def rGetL (K : PySem.W.Frag) : V → V → Hp → VK → Prop := fun x y H Q => ∃ p xs i z, x = .ref p ∧ y = .int i ∧ SqL K H p xs ∧ atI xs i = some z ∧ Q z H
theorem get_list : PGet X (rGetL X.K) := by
  intro pins s σ H x y v u Q I rx ry h
  obtain ⟨p, xs, i, z, rfl, rfl, hq, he, q⟩ := h
  cases rx
  obtain ⟨t, rfl⟩ := ry
  obtain ⟨its, r, pl, hz⟩ := I.list hq
  obtain ⟨j, h1, h2, h3, h4, h5⟩ := atI_get he
  obtain ⟨w, ew, rw'⟩ := r.get h2
  have hl := r.length
  have hn := line63
  have fin : EP X pins σ Q w s := ⟨z, H, I, rw', q⟩
  by_cases h0 : 0 ≤ i
  · have hj : i.toNat = j := by
      rw [seqIndex_of h0 h5] at h1
      exact Option.some.inj h1
    exact wpAny_getItem_list pl.isList h0 (by omega) (by rw [hj]; simpa using ew) fin
  · have hj : (i + (its.toArray.size : Int)).toNat = j := by
      rw [seqIndex_neg (by omega) h4] at h1
      rw [List.size_toArray, ← hl]
      exact Option.some.inj h1
    exact wpAny_getItem_list_neg pl.isList (by omega) (by rw [List.size_toArray] <;> omega) (by omega) (by rw [hj]; simpa using ew) fin
theorem ss_augS (cn : Cn T G tb k X) {o i : Expr} {eo ei : E} {op : Operator} (ho : PE X o (tE X T G eo)) (hi : PE X i (tE X T G ei)) (hp : nstar i = true) (he : PE X e (tE X T G ea)) : PS X (.AugAssign (.Subscript o i p) op e pos) (tS X T G (.augS eo ei op ea)) :=
  (ps_augS ho hi get_list he (aug_ok (T := T) (o := op)) (setr (T := T) cn.hK cn.hu) (by intros; cases i <;> first | rfl | cases hp)).le fun D σ H h => by
    obtain ⟨as, st, ρ, r, p, h⟩ := h
    refine (fe r p h).mono fun ov H1 q => ?_
    obtain ⟨as1, st1, x, e1, r1, p1, p2, q⟩ := q
    refine (fe r1 p2 q).mono fun iv H2 q => ?_
    obtain ⟨as2, st2, ki, e2, r2, pk, p3, q⟩ := q
    have pxo := RepV.ext e2 _ _ p1
    -- the rest, once the item is read
    have rest : ∀ w : Val, ∀ wv : V, RepV T as2 H2 w wv → FC X T as2 H2 ((ev G ea ρ st2).fl ρ fun y s => (augop op w y s).fl ρ fun z s => (setix x ki z s).fl ρ fun _ s => .nx ρ s) D →
        tE X T G ea σ H2 fun y H4 => rAug T op wv y H4 fun z H5 => rSetE T ov iv z H5 fun H6 => D.nx σ H6 := fun w wv pw q => by
      refine (fe r2 p3 q).mono fun yv H3 q => ?_
      obtain ⟨as3, st3, v3, e3, r3, pv3, p4, q⟩ := q
      refine ⟨as3, st3, w, v3, r3, RepV.ext e3 _ _ pw, pv3, fpv q (augop_noexc _ _ _ _) fun z s as4 H4 zv e4 r4 pz q4 => ?_⟩
      refine ⟨as4, s, x, ki, z, r4, RepV.ext (e3.trans e4) _ _ pxo, RepV.ext (e3.trans e4) _ _ pk, pz, fpu q4 (setix_noexc _ _ _ _) fun s' as5 H5 e5 r5 q5 => ?_⟩
      exact q5 as5 H5 _ (Ext.refl _ _) r5 ((p4.ext e4).ext e5)
    cases x with
    | loc l =>
      cases ki with
      | int j =>
        cases pk
        have q' : FC X T as2 H2 ((match lstOf st2 l with
            | some vs => R.opt (L2.atI vs j) st2
            | none => .bad : R Val).fl ρ fun v s => (ev G ea ρ s).fl ρ fun y s => (augop op v y s).fl ρ fun z s => (setix (.loc l) (.int j) z s).fl ρ fun _ s => .nx ρ s) D := q
        cases hl : lstOf st2 l with
        | none => rw [hl] at q'; exact q'.elim
        | some vs =>
          rw [hl] at q'
          dsimp only at q'
          cases ea' : atI vs j with
          | none => rw [ea'] at q'; exact q'.elim
          | some z =>
            rw [ea'] at q'
            obtain ⟨ad, had, rfl⟩ := pxo.loc
            obtain ⟨zs, hs', hpz⟩ := r2.lstOf hl had
            obtain ⟨u, hu2, pu⟩ := atI_rep hpz ea'
            exact ⟨ad, zs, j, u, rfl, rfl, by rw [cn.hK]; exact hs', hu2, rest z u pu q'⟩
      | _ => exact q.elim
    | _ => exact q.elim
end
end Ov

/-! raise, try .. except X as e. -/
namespace Ov
open PySem PySem.Spec L2
section
variable {T : Tb} {G : Gm} {tb : Tbl} {k : Nat} {X : Cx}
theorem ss_raise (cn : Cn T G tb k X) {x m : Str} {c j : Nat} {p p2 pos pos2 : Pos} {es : E} (h1 : okn x = true) (h2 : glbB X.env.scope x = true) (hx : tb.excs.lookup x = some c) :
    PS X (.Raise (some (.Call (.Name x p) [.Constant (.str m) j p2] [] pos)) none pos2) (tS X T G (.raise c es)) := by
  obtain ⟨C, hm, hT, ok⟩ := cn.wd.excs x c hx
  obtain ⟨bmB, B, nid, iid, F, q⟩ := ok.ex
  have K := cn.hK
  refine (ps_raise cn.calm takesTk (pmk_own F (by rw [K]; exact q) hm (by rw [K]; exact ok.kp) (raises_own (by rw [K]; exact ok.sb) (by rw [K]; exact ok.ty)) (glbB_ok h2) (okn1 h1))).le fun D σ H h => ?_
  obtain ⟨as, st, ρ, r, p, h⟩ := h
  exact h as H none C σ (Ext.refl _ _) r p hT rfl
end
/-! ### an except suite -/
/-- names of classes -/
def isCs (tb : Tbl) (sc : Scope) : List Nat → List Expr → Bool
  | [], [] => true
  | c :: cs, .Name y _ :: ys => okn y && glbB sc y && decide (tb.cats.lookup y = some c) && isCs tb sc cs ys
  | _, _ => false
def chkV (tb : Tbl) (N : List Str) : E → Scope → Expr → Bool
  | .v j, sc, .Name x _ => okn x && decide (N[j]? = some x) && visB sc x
  | .ise j [c], sc, .Call (.Name x _) [.Name e _, .Name y _] [] _ => decide (x = "isinstance") && glbB sc x && tb.frees.contains x && okn e && decide (N[j]? = some e) && visB sc e && okn y && glbB sc y && decide (tb.cats.lookup y = some c)
  | .ise j cs, sc, .Call (.Name x _) [.Name e _, .Tuple ys _ _] [] _ => decide (x = "isinstance") && glbB sc x && tb.frees.contains x && okn e && decide (N[j]? = some e) && visB sc e && decide (cs.length ≤ 16) && isCs tb sc cs ys
  | .and a b, sc, .BoolOp .And (x :: y :: []) _ => chkV tb N a sc x && chkV tb N b sc y
  | .not a, sc, .UnaryOp .Not x _ => chkV tb N a sc x
  | _, _, _ => false
def chkVs (tb : Tbl) (N : List Str) : E → Scope → List Expr → Bool
  | .nil, _, [] => true
  | .cons a b, sc, x :: xs => nstar x && chkV tb N a sc x && chkVs tb N b sc xs
  | _, _, _ => false
def chkH (tb : Tbl) (N : List Str) : S → Scope → Stmt → Bool
  | .asg (.n j) (.lst es), sc, .Assign [.Name y _] (.List xs _) _ => decide (N[j]? = some y) && locB sc y && chkVs tb N es sc xs
  | .asg (.n j) e, sc, .Assign [.Name y _] x _ => nlc x && decide (N[j]? = some y) && locB sc y && chkV tb N e sc x
  | .ex (.bm .append (.v j) (.cons e .nil)), sc, .Expr (.Call (.Attribute (.Name y _) n ap) [x] [] p) _ => nstar x && okn y && decide (N[j]? = some y) && visB sc y && decide (n = "append") && (ap.endLine == p.line) && chkV tb N e sc x
  | _, _, _ => false
def chkHB (tb : Tbl) (N : List Str) : S → Scope → List Stmt → Bool
  | .skip, _, [] => true
  | .sq a b, sc, x :: xs => chkH tb N a sc x && chkHB tb N b sc xs
  | _, _, _ => false
section
variable {T : Tb} {G : Gm} {tb : Tbl} {k : Nat} {X : Cx} {sub : Nat → Nat → Bool} {i r : Nat} {a C : Addr} {oe : Obj} {pn : List (Addr × Obj)}
theorem chkV_nstar {e : E} {sc : Scope} {x : Expr} {N : List Str} (h : chkV tb N e sc x = true) : nstar x = true := by
  unfold chkV at h
  split at h <;> first | rfl | cases h
theorem chkV_nlc {e : E} {sc : Scope} {x : Expr} {N : List Str} (h : chkV tb N e sc x = true) : nlc x = true := by
  unfold chkV at h
  split at h <;> first | rfl | cases h
/-- isinstance(e, (c1, c2, ..)) -/
def rIsET (K : PySem.W.Frag) (D a : Addr) : List V → Hp → VK → Prop := fun xs H Q => ∃ (tp : Addr) (cs : List V) (us : List Value) (b : Bool), xs = [.ref a, .ref tp] ∧ H tp = some (.tup cs) ∧ Paired ClsV cs us ∧ PySem.W.kitAny K (.ref D) us = some b ∧ Q (.bl b) H
theorem call_isET (Z : ExcC X.K C) (hz : Zc (.ref C) none oe) (hf : ∃ vs, oe.data = .fields vs) : CallR (X.suite a ((a, oe) :: pn)) (.builtin "isinstance") (rIsET X.K C a) := by
  intro pins s σ H xs us Q I rr h
  obtain ⟨tp, cs, ws, b, rfl, hT, k, e, q⟩ := h
  obtain ⟨u1, u2, rfl, r1, r2⟩ := vals2 rr
  cases (show u1 = Value.ref a from r1)
  cases (show u2 = Value.ref tp from r2)
  obtain ⟨hget, _⟩ := I.pin (a, oe) (List.mem_append.mpr (.inl List.mem_cons_self))
  obtain ⟨vs, hv⟩ := hf
  have J : PySem.W.InstAt s.heap a oe C none := by
    obtain ⟨oc, od, oda, osl⟩ := oe
    obtain ⟨h1, h2⟩ := hz
    dsimp only at h1 h2 hv
    subst h1 h2 hv
    exact ⟨hget, rfl, rfl, trivial⟩
  obtain ⟨_, its, rv, o, h1, h2, n, h3⟩ := (show ObjOk X.prog X.w H s.heap tp (.tup cs) from I.hok tp _ hT)
  have e3 := ClsV.all k rv
  subst e3
  obtain ⟨oc, od, dt, sl⟩ := o
  simp only at h2 h3
  subst h2 h3
  exact PySem.W.kia_tup (PySem.W.handS_kitx_exc Z.hg Z.hk Z.hs Z.hd Z.ha Z.hn Z.ht Z.hm) I.kIn J h1 e (fun z => nomatch z) fun tk => ⟨.bl b, H, I.kept (t' := tk) fun _ _ z => z, rfl, q⟩
def tHv (T : Tb) (sub : Nat → Nat → Bool) (i r : Nat) (a : Addr) (e : E) : TE := fun σ H Q => ∃ as st ρ b, Rel T as H st ∧ RepE T as H ρ σ ∧ σ[i]? = some (some (.ref a)) ∧ hv sub i r e ρ = some b ∧ ∀ H', Ext as H as H' → Rel T as H' st → Q (.bl b) H'
def tHvs (T : Tb) (sub : Nat → Nat → Bool) (i r : Nat) (a : Addr) (e : E) : TA := fun σ H Q => ∃ as st ρ bs, Rel T as H st ∧ RepE T as H ρ σ ∧ σ[i]? = some (some (.ref a)) ∧ hvs sub i r e ρ = some bs ∧ ∀ H', Ext as H as H' → Rel T as H' st → Q (bs.map V.bl) H'
theorem hx_v (sc : Sc X X.env.scope) {j : Nat} {x : Str} {p : Pos} (h1 : okn x = true) (h2 : X.N[j]? = some x) (h3 : visB X.env.scope x = true) : PE (X.suite a ((a, oe) :: pn)) (.Name x p) (tHv T sub i r a (.v j)) :=
  (pe_var (X := X.suite a ((a, oe) :: pn)) h2 (visB_ok h3) (okn1 h1) (okn2 h1)).le fun σ H Q h => by
    obtain ⟨as, st, ρ, b, r1, p1, hi, hb, q⟩ := h
    unfold hv at hb
    split at hb
    · rename_i b' e
      cases hb
      obtain ⟨x, e1, e2⟩ := p1.get e
      cases e2
      exact ⟨_, e1, q H (Ext.refl _ _) r1⟩
    · cases hb
theorem pe_cat (cn : Cn T G tb k X) {y : Str} {c : Nat} {p : Pos} (h1 : okn y = true) (h2 : glbB X.env.scope y = true) (hc : tb.cats.lookup y = some c) (hT : T.exc r = some C) :
    ∃ (v : V) (D : Value), PE (X.suite a ((a, oe) :: pn)) (.Name y p) (L2.tC v) ∧ ClsV v D ∧ PySem.W.kitOne T.K (.ref C) D = some (G.sub r c) := by
  obtain ⟨D, hD, hk⟩ := cn.wd.cats y c hc
  rcases hD with ⟨A, rfl, hm⟩ | ⟨hm, hb, n, rfl⟩
  · exact ⟨.ref A, .ref A, pe_glob (X := X.suite a ((a, oe) :: pn)) (glbB_ok h2) hm rfl (okn1 h1), .own A, hk r C hT⟩
  · exact ⟨.ty n, .type n, pe_bltn (X := X.suite a ((a, oe) :: pn)) (glbB_ok h2) hm hb rfl (okn3 h1) (okn1 h1), .ty n, hk r C hT⟩
theorem pa_cats (cn : Cn T G tb k X) (hT : T.exc r = some C) : ∀ {cs : List Nat} {ys : List Expr}, isCs tb X.env.scope cs ys = true →
    ∃ (vs : List V) (us : List Value), PA (X.suite a ((a, oe) :: pn)) ys (fun _ H Q => Q vs H) ∧ Paired ClsV vs us ∧ PySem.W.kitAny T.K (.ref C) us = some (cs.any fun d => G.sub r d) ∧ vs.length = cs.length
  | [], [], _ => ⟨[], [], pa_nil.le fun _ _ _ h => h, .nil, rfl, rfl⟩
  | c :: cs, .Name y p :: ys, h => by
    simp only [isCs, Bool.and_eq_true, decide_eq_true_eq] at h
    obtain ⟨⟨⟨h1, h2⟩, h3⟩, h4⟩ := h
    obtain ⟨v, D, q1, q2, q3⟩ := pe_cat (a := a) (oe := oe) (pn := pn) (p := p) cn h1 h2 h3 hT
    obtain ⟨vs, us, k1, k2, k3, k4⟩ := pa_cats cn hT h4
    refine ⟨v :: vs, D :: us, (pa_cons q1 k1 rfl).le fun _ _ _ h => h, .cons q2 k2, ?_, by rw [List.length_cons, k4, List.length_cons]⟩
    refine kitAny_cons q3 (fun e => ?_) fun e => ?_
    · rw [List.any_cons, e, Bool.false_or]; exact k3
    · rw [List.any_cons, e, Bool.true_or]
theorem hx_ise (cn : Cn T G tb k X) (sc : Sc X X.env.scope) (hT : T.exc r = some C) (hz : Zc (.ref C) none oe) (hf : ∃ vs, oe.data = .fields vs) {j c : Nat} {x e y : Str} {p p1 p2 pos : Pos}
    (h1 : x = "isinstance") (h2 : glbB X.env.scope x = true) (h3 : x ∈ tb.frees) (g1 : okn e = true) (g2 : X.N[j]? = some e) (g3 : visB X.env.scope e = true) (l1 : okn y = true) (l2 : glbB X.env.scope y = true) (l3 : tb.cats.lookup y = some c) :
    PE (X.suite a ((a, oe) :: pn)) (.Call (.Name x p) [.Name e p1, .Name y p2] [] pos) (tHv T G.sub i r a (.ise j [c])) := by
  have hm := cn.wd.frees x h3
  subst h1
  obtain ⟨v, D, q1, q2, q3⟩ := pe_cat (a := a) (oe := oe) (pn := pn) (p := p2) cn l1 l2 l3 hT
  have hA : PA (X.suite a ((a, oe) :: pn)) [.Name e p1, .Name y p2] (tCons (tVar j) (tCons (L2.tC v) tNil)) := pa_cons (pe_var (X := X.suite a ((a, oe) :: pn)) g2 (visB_ok g3) (okn1 g1) (okn2 g1)) (pa_cons q1 pa_nil)
  refine (pe_callB (X := X.suite a ((a, oe) :: pn)) (call_isE (X := X) (by rw [cn.hK]; exact cn.wd.excc r C hT) hz hf) (glbB_ok h2) hm (by decide +kernel) hA (by decide) (by decide) rfl rfl).le fun σ H Q h => ?_
  obtain ⟨as, st, ρ, b, r1, p1, hi, hb, q⟩ := h
  unfold hv at hb
  split at hb
  · rename_i e; subst e
    cases hb
    refine ⟨_, hi, v, D, _, rfl, fun u hu => q2.eq hu, by rw [cn.hK]; exact q3, ?_⟩
    have q' := q H (Ext.refl _ _) r1
    rw [List.any_cons, List.any_nil, Bool.or_false] at q'
    exact q'
  · cases hb
theorem hx_iset (cn : Cn T G tb k X) (sc : Sc X X.env.scope) (hT : T.exc r = some C) (hz : Zc (.ref C) none oe) (hf : ∃ vs, oe.data = .fields vs) {j kk : Nat} {cs : List Nat} {ys : List Expr} {x e : Str} {p p1 tp pos : Pos}
    (h1 : x = "isinstance") (h2 : glbB X.env.scope x = true) (h3 : x ∈ tb.frees) (g1 : okn e = true) (g2 : X.N[j]? = some e) (g3 : visB X.env.scope e = true) (l1 : cs.length ≤ 16) (l2 : isCs tb X.env.scope cs ys = true) :
    PE (X.suite a ((a, oe) :: pn)) (.Call (.Name x p) [.Name e p1, .Tuple ys kk tp] [] pos) (tHv T G.sub i r a (.ise j cs)) := by
  have hm := cn.wd.frees x h3
  subst h1
  obtain ⟨vs, us, q1, q2, q3, q4⟩ := pa_cats (a := a) (oe := oe) (pn := pn) cn hT l2
  have hA := pa_cons (pe_var (X := X.suite a ((a, oe) :: pn)) (pos := p1) g2 (visB_ok g3) (okn1 g1) (okn2 g1)) (pa_cons (pe_tup (x1 := kk) (pos := tp) q1) pa_nil (nstar_star (e := .Tuple ys kk tp) rfl _ _))
  refine (pe_callB (X := X.suite a ((a, oe) :: pn)) (call_isET (X := X) (by rw [cn.hK]; exact cn.wd.excc r C hT) hz hf) (glbB_ok h2) hm (by decide +kernel) hA (by decide) (by decide) rfl rfl).le fun σ H Q h => ?_
  obtain ⟨as, st, ρ, b, r1, p1, hi, hb, q⟩ := h
  unfold hv at hb
  split at hb
  · rename_i e; subst e
    cases hb
    refine ⟨_, hi, by rw [q4, ← lim_eq]; show _ ≤ 16777216; omega, fun tq hq => ?_⟩
    have ex : Ext as H as (upd H tq (.tup vs)) := Ext.lay hq
    exact ⟨tq, vs, us, _, rfl, upd_same, q2, by rw [cn.hK]; exact q3, q _ ex (r1.lay hq)⟩
  · cases hb
theorem hx_and {x y : Expr} {ea eb : E} {pos : Pos} (h1 : PE (X.suite a ((a, oe) :: pn)) x (tHv T sub i r a ea)) (h2 : PE (X.suite a ((a, oe) :: pn)) y (tHv T sub i r a eb)) : PE (X.suite a ((a, oe) :: pn)) (.BoolOp .And [x, y] pos) (tHv T sub i r a (.and ea eb)) :=
  (pe_and h1 (pe_one h2)).le fun σ H Q h => by
    obtain ⟨as, st, ρ, b, r1, p1, hi, hb, q⟩ := h
    unfold hv at hb
    split at hb
    · rename_i e1
      refine ⟨as, st, ρ, true, r1, p1, hi, e1, fun H1 x1 r2 => ⟨true, rfl, ?_⟩⟩
      rw [if_pos rfl]
      exact ⟨as, st, ρ, b, r2, p1.ext x1, hi, hb, fun H2 x2 r3 => q H2 (x1.trans x2) r3⟩
    · rename_i e1
      cases hb
      exact ⟨as, st, ρ, false, r1, p1, hi, e1, fun H1 x1 r2 => ⟨false, rfl, q H1 x1 r2⟩⟩
    · cases hb
theorem hx_not {x : Expr} {ea : E} {pos : Pos} (h1 : PE (X.suite a ((a, oe) :: pn)) x (tHv T sub i r a ea)) : PE (X.suite a ((a, oe) :: pn)) (.UnaryOp .Not x pos) (tHv T sub i r a (.not ea)) :=
  (pe_not h1).le fun σ H Q h => by
    obtain ⟨as, st, ρ, b, r1, p1, hi, hb, q⟩ := h
    unfold hv at hb
    split at hb
    · rename_i c e1
      cases hb
      exact ⟨as, st, ρ, c, r1, p1, hi, e1, fun H1 x1 r2 => ⟨c, rfl, q H1 x1 r2⟩⟩
    · cases hb
theorem hx (cn : Cn T G tb k X) (sc : Sc X X.env.scope) (hT : T.exc r = some C) (hz : Zc (.ref C) none oe) (hf : ∃ vs, oe.data = .fields vs) : ∀ (e : E) (x : Expr), chkV tb X.N e X.env.scope x = true → PE (X.suite a ((a, oe) :: pn)) x (tHv T G.sub i r a e) := by
  intro e
  induction e with
  | v j =>
    intro x h
    cases x with
    | Name x p =>
      simp only [chkV, Bool.and_eq_true, decide_eq_true_eq] at h
      exact hx_v sc h.1.1 h.1.2 h.2
    | _ => simp [chkV] at h
  | ise j cs =>
    intro x h
    unfold chkV at h
    split at h
    · rename_i z; cases z
    · rename_i z
      cases z
      simp only [Bool.and_eq_true, decide_eq_true_eq] at h
      obtain ⟨⟨⟨⟨⟨⟨⟨⟨h1, h2⟩, h3⟩, h4⟩, h5⟩, h6⟩, h7⟩, h8⟩, h9⟩ := h
      exact hx_ise cn sc hT hz hf h1 h2 (by simpa using h3) h4 h5 h6 h7 h8 h9
    · rename_i z
      cases z
      simp only [Bool.and_eq_true, decide_eq_true_eq] at h
      obtain ⟨⟨⟨⟨⟨⟨⟨h1, h2⟩, h3⟩, h4⟩, h5⟩, h6⟩, h7⟩, h8⟩ := h
      exact hx_iset cn sc hT hz hf h1 h2 (by simpa using h3) h4 h5 h6 h7 h8
    · rename_i z; cases z
    · rename_i z; cases z
    · cases h
  | and ea eb iha ihb =>
    intro x h
    unfold chkV at h
    split at h
    · rename_i z; cases z
    · rename_i z; cases z
    · rename_i z; cases z
    · rename_i z
      cases z
      simp only [Bool.and_eq_true] at h
      exact hx_and (iha _ h.1) (ihb _ h.2)
    · rename_i z; cases z
    · cases h
  | not ea iha =>
    intro x h
    unfold chkV at h
    split at h
    · rename_i z; cases z
    · rename_i z; cases z
    · rename_i z; cases z
    · rename_i z; cases z
    · rename_i z
      cases z
      exact hx_not (iha _ h)
    · cases h
  | _ => intro x h; simp [chkV] at h
theorem hxs (cn : Cn T G tb k X) (sc : Sc X X.env.scope) (hT : T.exc r = some C) (hz : Zc (.ref C) none oe) (hf : ∃ vs, oe.data = .fields vs) : ∀ (e : E) (xs : List Expr), chkVs tb X.N e X.env.scope xs = true → PA (X.suite a ((a, oe) :: pn)) xs (tHvs T G.sub i r a e) := by
  intro e
  induction e with
  | nil =>
    intro xs h
    cases xs with
    | nil =>
      exact pa_nil.le fun σ H Q h => by
        obtain ⟨as, st, ρ, bs, r1, p1, hi, hb, q⟩ := h
        cases hb
        exact q H (Ext.refl _ _) r1
    | cons x xs => simp [chkVs] at h
  | cons ea eb iha ihb =>
    intro xs h
    cases xs with
    | nil => simp [chkVs] at h
    | cons x xs =>
      simp only [chkVs, Bool.and_eq_true] at h
      exact (pa_cons (hx cn sc hT hz hf ea x h.1.2) (ihb xs h.2) (nstar_star h.1.1 _ _)).le fun σ H Q h => by
        obtain ⟨as, st, ρ, bs, r1, p1, hi, hb, q⟩ := h
        unfold hvs at hb
        split at hb
        · rename_i b bs' e1 e2
          cases hb
          exact ⟨as, st, ρ, b, r1, p1, hi, e1, fun H1 x1 r2 => ⟨as, st, ρ, bs', r2, p1.ext x1, hi, e2, fun H2 x2 r3 => q H2 (x1.trans x2) r3⟩⟩
        · cases hb
  | _ => intro xs h; simp [chkVs] at h
/-- a suite's end -/
def FH (T : Tb) (i : Nat) (a : Addr) (as : List Addr) (H : Hp) (f : Fl) (D : Ends) : Prop := match f with
  | .nx ρ s => ∀ as' H' σ', Ext as H as' H' → Rel T as' H' s → RepE T as' H' ρ σ' → σ'[i]? = some (some (.ref a)) → D.nx σ' H'
  | _ => False
def tH (T : Tb) (sub : Nat → Nat → Bool) (i r : Nat) (a : Addr) (h : S) : TS := fun D σ H => ∃ as st ρ, Rel T as H st ∧ RepE T as H ρ σ ∧ σ[i]? = some (some (.ref a)) ∧ FH T i a as H (exH sub i r h ρ st) D
theorem set_keep {σ : L2.St} {i j : Nat} {u : Option V} {x : V} (h : σ[i]? = some (some x)) (n : j ≠ i) : (σ.set j u)[i]? = some (some x) := by
  rw [List.getElem?_set_ne n]; exact h
theorem RepVs.bls' {as : List Addr} {H : Hp} : ∀ bs : List Bool, RepVs T as H (bs.map Val.bl) (bs.map V.bl)
  | [] => rfl
  | b :: bs => ⟨_, _, rfl, rfl, RepVs.bls' bs⟩
theorem row1 {x : Expr} (h : nstar x = true) : Row [x] (.cons .nil .nil) := ⟨fun z => (by cases z), fun e rest z env => (by cases z; exact nstar_star h _ _), fun e rest z pos env => (by cases z; rfl)⟩
theorem few1 {x : Expr} {pos : Pos} {env : PySem.Env} (h : nstar x = true) : methodCallForm ([x].length + ([] : List Keyword).length) (backTo pos (starEach [x] env)) (backToKw pos (keywordEach [] env)) = true := by
  rw [nstar_star h]; rfl
theorem hs_ok (cn : Cn T G tb k X) (sc : Sc X X.env.scope) (hT : T.exc r = some C) (hz : Zc (.ref C) none oe) (hf : ∃ vs, oe.data = .fields vs) {h : S} {st : Stmt} (hc : chkH tb X.N h X.env.scope st = true) : PS (X.suite a ((a, oe) :: pn)) st (tH T G.sub i r a h) := by
  unfold chkH at hc
  split at hc
  · rename_i j es y py xs p1 p2
    simp only [Bool.and_eq_true, decide_eq_true_eq] at hc
    obtain ⟨⟨h1, h2⟩, h3⟩ := hc
    obtain ⟨l1, l2⟩ := sc.loc y h2
    refine (ps_set (X := X.suite a ((a, oe) :: pn)) cn.nd h1 l1 (pe_lst (pos := p1) (hxs (i := i) cn sc hT hz hf es xs h3)) rfl l2).le fun D σ H h => ?_
    obtain ⟨as, st, ρ, r1, p1, hi, h⟩ := h
    unfold exH at h
    split at h
    · rename_i bs e
      split at h
      · exact h.elim
      · rename_i hn
        rw [not_or] at hn
        refine ⟨as, st, ρ, bs, r1, p1, hi, e, fun H1 x1 r2 => ⟨by rw [List.length_map, ← lim_eq]; omega, fun pp hp => ?_⟩⟩
        have ex := (Ext.new (as := as) (o := .lst (bs.map V.bl)) hp)
        exact h _ _ _ (x1.trans ex) (r2.new hp ⟨_, upd_same, RepVs.bls' bs⟩) ((p1.ext (x1.trans ex)).set (v := .loc (slen st)) (x := .ref pp) ⟨pp, (by have z : as.length = slen st := r2.len; rw [← z]; simp), rfl⟩ j) (set_keep hi hn.1)
    · exact h.elim
  · rename_i j e y py x pp hne
    simp only [Bool.and_eq_true, decide_eq_true_eq] at hc
    obtain ⟨⟨⟨h0, h1⟩, h2⟩, h3⟩ := hc
    obtain ⟨l1, l2⟩ := sc.loc y h2
    refine (ps_set (X := X.suite a ((a, oe) :: pn)) cn.nd h1 l1 (hx (i := i) cn sc hT hz hf e x h3) (nlc_sw h0 _ _ _) l2).le fun D σ H h => ?_
    obtain ⟨as, st, ρ, r1, p1, hi, h⟩ := h
    have e0 : exH G.sub i r (.asg (.n j) e) ρ st = (match hv G.sub i r e ρ with
      | some b => if j = i then .bad else .nx (eset ρ j (some (.bl b))) st
      | none => .bad) := by
      cases e <;> first | rfl | (unfold chkV at h3; cases x <;> cases h3)
    rw [e0] at h
    split at h
    · rename_i b eb
      split at h
      · exact h.elim
      · rename_i hn
        exact ⟨as, st, ρ, b, r1, p1, hi, eb, fun H1 x1 r2 => h _ _ _ x1 r2 ((p1.ext x1).set (v := .bl b) (x := .bl b) rfl j) (set_keep hi hn)⟩
    · exact h.elim
  · rename_i j e y py n ap x p pp
    simp only [Bool.and_eq_true, decide_eq_true_eq] at hc
    obtain ⟨⟨⟨⟨⟨⟨h0, h1⟩, h2⟩, h3⟩, rfl⟩, h5⟩, h6⟩ := hc
    have kB : BmOk (X.suite a ((a, oe) :: pn)) T .lst .append "append" := bm_append
    obtain ⟨id, f1, f2, f3, f4⟩ := kB.ok
    have hP : PA (X.suite a ((a, oe) :: pn)) [x] (tCons (tHv T G.sub i r a e) tNil) := pa_cons (hx cn sc hT hz hf e x h6) pa_nil (nstar_star h0 _ _)
    have hV : PE (X.suite a ((a, oe) :: pn)) (.Name y py) (tVar j) := pe_var h2 (visB_ok h3) (okn1 h1) (okn2 h1)
    refine (ps_expr (pe_bmS (X := X.suite a ((a, oe) :: pn)) hV hP (row1 h0) (fun z => by cases z) rfl h5 (few1 h0)) rfl).le fun D σ H h => ?_
    obtain ⟨as, st, ρ, r1, p1, hi, h⟩ := h
    unfold exH at h
    split at h
    · rename_i b l e1 e2
      split at h
      · rename_i vs e3
        split at h
        · rename_i hl
          obtain ⟨x1, g1, g2⟩ := p1.get e2
          obtain ⟨ad, had, rfl⟩ := g2.loc
          obtain ⟨ad', zs, a1, a2, a3⟩ := r1.lst e3
          rw [had] at a1; cases a1
          refine ⟨_, g1, "list", id, _, f1, f2, f3, f4, .inl ⟨rfl, zs, by rw [cn.hK]; exact .inl (.inl a2)⟩, ?_⟩
          refine ⟨as, st, ρ, b, r1, p1, hi, e1, fun H1 ex r2 => ?_⟩
          have hb : bmf .lst .append (.loc l) [.bl b] st = .ok .non (sput st l (.lst (vs ++ [.bl b]))) := by
            show (match sget st l with
              | some (.lst vs) => if vs.length < lim then R.ok Val.non (sput st l (.lst (vs ++ [Val.bl b]))) else .bad
              | _ => .bad) = _
            rw [e3]
            exact if_pos hl
          refine ⟨as, st, .loc l, [.bl b], r2, ⟨ad, had, rfl⟩, ⟨_, [], rfl, rfl, rfl⟩, ?_⟩
          rw [hb]
          intro as2 H2 z ex2 r3 _
          exact h as2 H2 σ (ex.trans ex2) r3 (p1.ext (ex.trans ex2)) hi
        · exact h.elim
      · exact h.elim
    · exact h.elim
  · cases hc
theorem FH.ext {as as' : List Addr} {H H' : Hp} {f : Fl} {D : Ends} (h : FH T i a as H f D) (e : Ext as H as' H') : FH T i a as' H' f D := by
  cases f with
  | nx ρ s => exact fun as2 H2 σ' e2 => h as2 H2 σ' (e.trans e2)
  | _ => exact h.elim
theorem hb_ok (cn : Cn T G tb k X) (sc : Sc X X.env.scope) (hT : T.exc r = some C) (hz : Zc (.ref C) none oe) (hf : ∃ vs, oe.data = .fields vs) (h : S) : ∀ (sts : List Stmt), chkHB tb X.N h X.env.scope sts = true → PSs (X.suite a ((a, oe) :: pn)) sts (tH T G.sub i r a h) := by
  induction h with
  | skip =>
    intro sts hc
    cases sts with
    | nil =>
      exact pss_nil.le fun D σ H h => by
        obtain ⟨as, st, ρ, r1, p, hi, h⟩ := h
        exact h as H σ (Ext.refl _ _) r1 p hi
    | cons x xs => simp [chkHB] at hc
  | sq sa sb _ ih =>
    intro sts hc
    cases sts with
    | nil => simp [chkHB] at hc
    | cons x xs =>
      simp only [chkHB, Bool.and_eq_true] at hc
      refine (pss_cons (hs_ok (i := i) cn sc hT hz hf hc.1) (ih xs hc.2)).le fun D σ H h => ?_
      obtain ⟨as, st, ρ, r1, p, hi, h⟩ := h
      refine ⟨as, st, ρ, r1, p, hi, ?_⟩
      have h' : FH T i a as H ((exH G.sub i r sa ρ st).sq (exH G.sub i r sb)) D := h
      cases e : exH G.sub i r sa ρ st with
      | nx ρ' s' =>
        rw [e] at h'
        exact fun as2 H2 σ' ex r2 p2 hi2 => ⟨as2, s', ρ', r2, p2, hi2, FH.ext (f := exH G.sub i r sb ρ' s') h' ex⟩
      | _ => rw [e] at h'; exact h'.elim
  | _ => intro sts hc; simp [chkHB] at hc
/-! ### try -/
/-- where an exception may be caught: a def's own frame -/
structure Fm (X : Cx) : Prop where
  st : X.stack = X.env :: X.outer
  fr : X.env.frame = some X.env.locals
/-- a statement's end, exceptions by W -/
def FW (W : WX) (T : Tb) (as : List Addr) (H : Hp) (r : Fl) (D : Ends) : Prop := match r with
  | .nx ρ s => ∀ as' H' σ', Ext as H as' H' → Rel T as' H' s → RepE T as' H' ρ σ' → D.nx σ' H'
  | .ct ρ s => ∀ as' H' σ', Ext as H as' H' → Rel T as' H' s → RepE T as' H' ρ σ' → D.ct σ' H'
  | .rt v s => ∀ as' H' x, Ext as H as' H' → Rel T as' H' s → RepV T as' H' v x → D.rt x H'
  | .exc e ρ s => ∀ as' H' d C σ', Ext as H as' H' → Rel T as' H' s → RepE T as' H' ρ σ' → T.exc e.c = some C → XRep T as' H' e.fs d → W (.ref C) d σ' H'
  | .bad => False
theorem tk_of {X' : Cx} {W : WX} (t : Takes X' W) {cls : Value} {d : Option Addr} {σ : L2.St} {H : Hp} (w : W cls d σ H) : Tk X' cls d σ H := by
  intro u s' hx
  refine t u s' ?_
  obtain ⟨a', B, sI, pins, σ0, H0, cls0, d0, e, I, nb, up, sky, na, os, ag, z1, z2, z3, z4⟩ := hx
  exact ⟨a', B, sI, pins, σ0, H0, cls0, d0, e, I, nb, up, sky, na, os, ag, by rw [z1, z2, z3, z4]; exact w⟩
theorem FW.fc {X' : Cx} {W : WX} (t : Takes X' W) {as : List Addr} {H : Hp} {f : Fl} {D : Ends} (h : FW W T as H f D) : FC X' T as H f D := by
  cases f with
  | exc e ρ s => exact fun as' H' d C σ' e1 r1 p1 hT hx => tk_of t (h as' H' d C σ' e1 r1 p1 hT hx)
  | _ => exact h
theorem RepE.length {as : List Addr} {H : Hp} : ∀ {ρ : Env} {σ : L2.St}, RepE T as H ρ σ → ρ.length = σ.length
  | [], _, h => by cases h; rfl
  | none :: r, _, h => by
    obtain ⟨y, s, rfl, h⟩ := h
    simp [RepE.length h]
  | some v :: r, _, h => by
    obtain ⟨y, s, rfl, _, h⟩ := h
    simp [RepE.length h]
theorem ss_try (cn : Cn T G tb k X) (hsc : Sc X X.env.scope) (hk : X.env.scope.kind = .function) (fm : Fm X) {b h : S} {c i : Nat} {x n : Str} {body suite : List Stmt} {b₀ : Stmt} {np pos pos' : Pos}
    (hb : ∀ {X' : Cx}, Cn T G tb k X' → Sc X' X'.env.scope → X'.env.scope.kind = .function → Fm X' → X'.N = X.N → X'.env = X.env → PSs X' body (tS X' T G b))
    (h1 : okn x = true) (h2 : glbB X.env.scope x = true) (hx : tb.cths.lookup x = some c) (h3 : X.N[i]? = some n) (h4 : X.env.scope.names.lookup n = some .local) (hc : chkHB tb X.N h X.env.scope (b₀ :: suite) = true) :
    PS X (.Try body [.ExceptHandler (some (.Name x np)) (some n) (b₀ :: suite) pos'] [] [] pos) (tS X T G (.try_ b c (some i) h)) := by
  obtain ⟨D0, hD, hq⟩ := cn.wd.cths x c hx
  have nm : Names X x D0 := ⟨glbB_ok h2, okn1 h1, by
    rcases hD with ⟨A, rfl, hm⟩ | ⟨hm, hb, n, rfl⟩
    · exact .inl hm
    · exact .inr ⟨hm, hb, okn3 h1⟩⟩
  refine (ps_try_as (tb := fun W D σ H => ∃ as st ρ, Rel T as H st ∧ RepE T as H ρ σ ∧ FW W T as H (exec G b ρ st) D)
    (ts := fun a cls d D σ H => ∃ r C, cls = .ref C ∧ T.exc r = some C ∧ d = none ∧ tH T G.sub i r a h D σ H) fm.st fm.fr cn.nd h3 h4 nm takesTk (fun W pn xe t own => ?_) fun a oe cls d pn hz hf => ?_).le fun D σ H q => ?_
  · have cn' : Cn T G tb k (X.tr pn xe) := ⟨cn.wd, cn.hK, cn.calm, cn.nd, cn.room, own⟩
    have sc' : Sc (X.tr pn xe) (X.tr pn xe).env.scope := ⟨hsc.glb, hsc.vis, hsc.loc, hsc.frc⟩
    refine (hb cn' sc' hk ⟨fm.st, fm.fr⟩ rfl rfl).le fun D σ H q => ?_
    obtain ⟨as, st, ρ, r1, p1, q⟩ := q
    exact ⟨as, st, ρ, r1, p1, q.fc t⟩
  · refine ⟨fun pins s σ H D I q => ?_⟩
    obtain ⟨r, C, rfl, hT, rfl, q⟩ := q
    exact (hb_ok (i := i) cn hsc hT hz hf h _ hc).run pins s σ H D I q
  · obtain ⟨as, st, ρ, r1, p1, q⟩ := q
    refine ⟨as, st, ρ, r1, p1, ?_⟩
    have q' : FC X T as H ((exec G b ρ st).tryR (catchR G.sub c i h)) D := q
    cases e : exec G b ρ st with
    | exc y ρ' s' =>
      rw [e] at q'
      have q2 : FC X T as H (catchR G.sub c i h y ρ' s') D := q'
      intro as' H' d C σ' ex r2 p2 hT hx
      refine ⟨G.sub y.c c, by rw [cn.hK]; exact hq y.c C hT, fun hs a ha => ?_, fun hs => ?_⟩
      · unfold catchR at q2
        rw [if_pos hs] at q2
        split at q2
        · rename_i hh
          have hd : d = none := by
            cases d with
            | none => rfl
            | some d => exact absurd (List.isEmpty_iff.mp hh.1) hx.1
          refine ⟨y.c, C, rfl, hT, hd, as', s', _, r2, p2.unset (y := some (.ref a)) i, ?_, ?_⟩
          · rw [List.getElem?_set_self]
            rw [← p2.length]; exact hh.2
          · cases e2 : exH G.sub i y.c h (eset ρ' i none) s' with
            | nx ρ2 s2 =>
              rw [e2] at q2
              exact fun as2 H2 σ2 ex2 r3 p3 _ => q2 as2 H2 _ (ex.trans ex2) r3 (p3.unset i)
            | _ => rw [e2] at q2; exact q2.elim
        · exact q2.elim
      · unfold catchR at q2
        rw [if_neg (by rw [hs]; decide)] at q2
        exact q2 as' H' d C σ' ex r2 p2 hT hx
    | _ => rw [e] at q'; exact q'
end
end Ov

/-! All statements. -/
namespace Ov
open PySem PySem.Spec L2
def noTT : Expr → Expr → Bool
  | .Tuple _ _ _, .Tuple _ _ _ => false
  | .List _ _, .Tuple _ _ _ => false
  | _, _ => true
mutual
def chkS (tb : Tbl) (names N : List Str) : S → Scope → Stmt → Bool
  | .bad, _, _ => true
  | .pass, _, .Pass _ => true
  | .cont, _, .Continue _ => true
  | .ex e, sc, .Expr x _ => nlc x && chkE tb names N e sc x
  | .asg (.n i) (.lc g it c e own), sc, .Assign [.Name y py] (.ListComp elt [⟨tg, iter, ifs, 0⟩] scope p) _ =>
    ((decide (N[i]? = some y) && decide (sc.names.lookup y = some .local) && (py.line == p.line) && !(scope.names.any fun (n, k) => n == y && (k == .local || k == .cell))) || (swB sc (.Name y py) (.ListComp elt [⟨tg, iter, ifs, 0⟩] scope p) && tgB N sc [] (.n i) (.Name y py))) &&
    chkE tb names N (.lc g it c e own) sc (.ListComp elt [⟨tg, iter, ifs, 0⟩] scope p)
  | .asg (.n i) (.lcd g it c e own), sc, .Assign [.Name y py] (.ListComp elt [⟨tg, iter, ifs, 0⟩] scope p) _ =>
    ((decide (N[i]? = some y) && decide (sc.names.lookup y = some .local) && (py.line == p.line) && !(scope.names.any fun (n, k) => n == y && (k == .local || k == .cell))) || (swB sc (.Name y py) (.ListComp elt [⟨tg, iter, ifs, 0⟩] scope p) && tgB N sc [] (.n i) (.Name y py))) &&
    chkE tb names N (.lcd g it c e own) sc (.ListComp elt [⟨tg, iter, ifs, 0⟩] scope p)
  | .asg g e, sc, .Assign [tg] x _ => swB sc tg x && noTT tg x && tgB N sc [] g tg && chkE tb names N e sc x
  | .asgL is e, sc, .Assign [.Tuple es kk tp] x _ => nlc x && noTT (.Tuple es kk tp) x && tgB N sc [] (.t is) (.Tuple es kk tp) && chkE tb names N e sc x
  | .asgA a f e, sc, .Assign [.Attribute o n _] x _ => chkE tb names N e sc x && chkE tb names N a sc o && decide (names[f]? = some n) && !tb.meths.contains f
  | .asgS a i e, sc, .Assign [.Subscript o j _] x _ => nstar j && chkE tb names N e sc x && chkE tb names N a sc o && chkE tb names N i sc j
  | .asgX a i b j e f, sc, .Assign [.Tuple [.Subscript o1 k1 _, .Subscript o2 k2 _] _ _] (.Tuple [x, y] _ _) _ => nstar k1 && nstar k2 && nstar x && nstar y && chkE tb names N e sc x && chkE tb names N f sc y && chkE tb names N a sc o1 && chkE tb names N i sc k1 && chkE tb names N b sc o2 && chkE tb names N j sc k2
  | .aug i o e, sc, .AugAssign (.Name x _) op v _ => decide (N[i]? = some x) && locB sc x && decide (o = op) && chkE tb names N e sc v
  | .augA a f o e, sc, .AugAssign (.Attribute ob n _) op v _ => decide (o = op) && chkE tb names N e sc v && chkE tb names N a sc ob && decide (names[f]? = some n) && !tb.meths.contains f
  | .augS a i o e, sc, .AugAssign (.Subscript ob j _) op v _ => decide (o = op) && nstar j && chkE tb names N e sc v && chkE tb names N a sc ob && chkE tb names N i sc j
  | .ret e, sc, .Return (some x) _ => chkE tb names N e sc x
  | .retN, _, .Return none _ => true
  | .ife t a b, sc, .If c xs ys _ => chkE tb names N t sc c && chkB tb names N a sc xs && chkB tb names N b sc ys
  | .whl t b, sc, .While c xs [] _ => chkE tb names N t sc c && chkB tb names N b sc xs
  | .raise c _, sc, .Raise (some (.Call (.Name x _) [.Constant (.str _) _ _] [] _)) none _ => okn x && glbB sc x && decide (tb.excs.lookup x = some c)
  | .try_ b c (some i) h, sc, .Try body [.ExceptHandler (some (.Name x _)) (some n) (b₀ :: suite) _] [] [] _ => okn x && glbB sc x && decide (tb.cths.lookup x = some c) && decide (N[i]? = some n) && decide (sc.names.lookup n = some .local) && chkB tb names N b sc body && chkHB tb N h sc (b₀ :: suite)
  | .frd g it b, sc, .For tg iter xs [] _ => chkE tb names N it sc iter && dSimple it && tgB N sc [] g tg && chkB tb names N b sc xs
  | .fr g it b, sc, .For tg iter xs [] _ => chkE tb names N it sc iter && itB it iter tg && tgB N sc [] g tg && chkB tb names N b sc xs
  | _, _, _ => false
def chkB (tb : Tbl) (names N : List Str) : S → Scope → List Stmt → Bool
  | .skip, _, [] => true
  | .sq a b, sc, x :: xs => chkS tb names N a sc x && chkB tb names N b sc xs
  | _, _, _ => false
end
section
variable {T : Tb} {G : Gm} {tb : Tbl} {k : Nat} {X : Cx}
theorem lc_le {σ : L2.St} {H : Hp} {Q : VK} {g : Tg} {it cc ee : E} {own : List Nat} (ho : own.isEmpty = false) (h : tE X T G (.lc g it cc ee own) σ H Q) :
    tLc (tW X T G it) (tgt T g own) (tC T G cc) (tE0 T G ee) ((own.map fun i => (X.N.getD i Str.empty, i)).map (·.2)) σ H Q := by
  obtain ⟨as, st, ρ, r, p, h⟩ := h
  rw [ev_lc] at h
  have hv : (own.map fun i => (X.N.getD i Str.empty, i)).map (·.2) = own := by
    rw [List.map_map]
    exact List.map_id' own
  rw [hv]
  refine ⟨as, st, ρ, r, p, (PC.bind (rep := repW T) h).mono (fun J H1 q D hD => ?_) fun _ _ _ z => z⟩
  obtain ⟨as1, st1, w, e1, r1, p1, q⟩ := q
  have ho' : own ≠ [] := fun e => by rw [e] at ho; cases ho
  cases w with
  | free xs => exact lc_run ho' p1 r1 (p.ext e1) q D hD
  | keep l o xs => exact lc_run ho' p1 r1 (p.ext e1) q D hD
  | keep2 l o m z xs => exact lc_run ho' p1 r1 (p.ext e1) q D hD
  | lock _ _ _ _ => exact p1.elim
/-- what is not served -/
theorem ss_bad {st : Stmt} : PS X st (tS X T G .bad) := ⟨fun pins s σ H D I q => by
  obtain ⟨as, st, ρ, r, p, h⟩ := q
  exact h.elim⟩
/-- name = [..] -/
theorem ss_setLc (cn : Cn T G tb k X) (hsc : Sc X X.env.scope) (hk : X.env.scope.kind = .function) {i : Nat} {y : Str} {py p sp : Pos} {elt tg iter : Expr} {ifs : List Expr} {scope : Scope} {g : Tg} {it c e : E} {own : List Nat} (h1 : X.N[i]? = some y) (h2 : X.env.scope.names.lookup y = some .local) (h3 : (py.line == p.line) = true)
    (h4 : (scope.names.any fun (n, k) => n == y && (k == .local || k == .cell)) = false) (h : chkE tb T.names X.N (.lc g it c e own) X.env.scope (.ListComp elt [⟨tg, iter, ifs, 0⟩] scope p) = true) :
    PS X (.Assign [.Name y py] (.ListComp elt [⟨tg, iter, ifs, 0⟩] scope p) sp) (tS X T G (.asg (.n i) (.lc g it c e own))) := by
  unfold chkE at h
  simp only [Bool.and_eq_true, Bool.not_eq_true'] at h
  obtain ⟨⟨⟨⟨⟨⟨g1, g2⟩, g3⟩, g4⟩, g5⟩, g6⟩, g7⟩ := h
  have hcn : ∀ (s : Shared) (H : Hp) (C : Addr) (cl : List (Str × Addr)) (fp : List Addr), Cn T G tb k (X.blk s H scope (compEnvC scope cl C X.env) fp) := fun s H C cl fp => cn.blk s H scope _ fp
  have b0 := blkOk_by g6
  have hpt : ∀ X' : Cx, Cn T G tb k X' → Sc X' scope → X'.N = X.N → PTs X' ifs (tC T G c) := fun X' cn' hs' hN => by
    unfold tC
    split at g7
    · rw [if_pos g7]; exact pts_nil
    · have nn : ¬ c.isNil = true := by
        cases c <;> first | (intro z; cases z; done) | (exact absurd g7 (by simp [chkE]))
      rw [if_neg nn]
      exact pts_one (st0 ((snd c).t cn' hs' (by rw [hN]; exact g7)))
    · cases g7
  refine (ps_setLc (own := own.map fun i => (X.N.getD i Str.empty, i)) (g := tgt T g own) cn.calm cn.nd h1 h2 (sw_true hk h2 h3 h4) (si cn hsc (snd it) (fun a _ => snd a) g1 g2) b0 (fun s H C cl fp => sg (hcn s H C cl fp) (Sc.blk s H scope C cl fp) g4)
    (fun s H C cl fp => hpt _ (hcn s H C cl fp) (Sc.blk s H scope C cl fp) rfl) (fun s H C cl fp => se0 ((snd e).x (hcn s H C cl fp) (Sc.blk s H scope C cl fp) g3)) (noset g1)).le fun D σ H h => ?_
  obtain ⟨as, st, ρ, r, pe, h⟩ := h
  refine lc_le g5 ((fe r pe (show FC X T as H ((ev G (.lc g it c e own) ρ st).fl ρ fun v s => Fl.ob (tgSet (.n i) v ρ) fun ρ' => .nx ρ' s) D from h)).mono fun x H1 q => ?_)
  obtain ⟨as1, st1, v, e1, r1, p1, p2, q⟩ := q
  exact q as1 H1 _ (Ext.refl _ _) r1 (p2.set p1 i)
/-- name = [.. of a dict's keys] -/
theorem ss_setLcd (cn : Cn T G tb k X) (hsc : Sc X X.env.scope) (hk : X.env.scope.kind = .function) {i : Nat} {y : Str} {py p sp : Pos} {elt tg iter : Expr} {ifs : List Expr} {scope : Scope} {g : Tg} {it c e : E} {own : List Nat} (h1 : X.N[i]? = some y) (h2 : X.env.scope.names.lookup y = some .local) (h3 : (py.line == p.line) = true)
    (h4 : (scope.names.any fun (n, k) => n == y && (k == .local || k == .cell)) = false) (h : chkE tb T.names X.N (.lcd g it c e own) X.env.scope (.ListComp elt [⟨tg, iter, ifs, 0⟩] scope p) = true) :
    PS X (.Assign [.Name y py] (.ListComp elt [⟨tg, iter, ifs, 0⟩] scope p) sp) (tS X T G (.asg (.n i) (.lcd g it c e own))) := by
  unfold chkE at h
  simp only [Bool.and_eq_true, Bool.not_eq_true'] at h
  obtain ⟨⟨⟨⟨⟨⟨g1, g2⟩, g3⟩, g4⟩, g5⟩, g6⟩, g7⟩ := h
  have hcn : ∀ (s : Shared) (H : Hp) (C : Addr) (cl : List (Str × Addr)) (fp : List Addr), Cn T G tb k (X.blk s H scope (compEnvC scope cl C X.env) fp) := fun s H C cl fp => cn.blk s H scope _ fp
  have b0 := blkOk_by g6
  have hpt : ∀ X' : Cx, Cn T G tb k X' → Sc X' scope → X'.N = X.N → PTs X' ifs (tC T G c) := fun X' cn' hs' hN => by
    unfold tC
    split at g7
    · rw [if_pos g7]; exact pts_nil
    · have nn : ¬ c.isNil = true := by
        cases c <;> first | (intro z; cases z; done) | (exact absurd g7 (by simp [chkE]))
      rw [if_neg nn]
      exact pts_one (st0 ((snd c).t cn' hs' (by rw [hN]; exact g7)))
    · cases g7
  refine (ps_lock (ps_setLc (own := own.map fun i => (X.N.getD i Str.empty, i)) (g := tgt T g own) cn.calm cn.nd h1 h2 (sw_true hk h2 h3 h4) (pi_keys ((snd it).x cn hsc g1)) b0 (fun s H C cl fp => sg (hcn s H C cl fp) (Sc.blk s H scope C cl fp) g4)
    (fun s H C cl fp => hpt _ (hcn s H C cl fp) (Sc.blk s H scope C cl fp) rfl) (fun s H C cl fp => se0 ((snd e).x (hcn s H C cl fp) (Sc.blk s H scope C cl fp) g3)) (noset g1))).le fun D σ H h => ?_
  obtain ⟨as, st, ρ, r, pe, h⟩ := h
  obtain ⟨d, u, hd, mu, hw⟩ := lcd_le (Q := fun x H1 => gName i x σ H1 D.nx) g2 g5 ((fe r pe (show FC X T as H ((ev G (.lcd g it c e own) ρ st).fl ρ fun v s => Fl.ob (tgSet (.n i) v ρ) fun ρ' => .nx ρ' s) D from h)).mono fun x H1 q => (by
    obtain ⟨as1, st1, v, e1, r1, p1, p2, q⟩ := q
    exact q as1 H1 _ (Ext.refl _ _) r1 (p2.set p1 i)))
  exact ⟨d, u, hd, mu, fun od => hw od⟩
/-- a statement, a block do what their terms say -/
structure SndS (T : Tb) (G : Gm) (tb : Tbl) (k : Nat) (s : S) : Prop where
  x : ∀ {X : Cx}, Cn T G tb k X → Sc X X.env.scope → X.env.scope.kind = .function → Fm X → ∀ {st : Stmt}, chkS tb T.names X.N s X.env.scope st = true → PS X st (tS X T G s)
  b : ∀ {X : Cx}, Cn T G tb k X → Sc X X.env.scope → X.env.scope.kind = .function → Fm X → ∀ {sts : List Stmt}, chkB tb T.names X.N s X.env.scope sts = true → PSs X sts (tS X T G s)
theorem meth_no (cn : Cn T G tb k X) {f : Nat} (h : tb.meths.contains f = false) : ∀ cl m, G.meth cl f ≠ some m := fun cl m e => by
  have := cn.wd.mths _ _ _ e
  rw [← List.contains_iff_mem, h] at this
  cases this
set_option maxHeartbeats 4000000 in
theorem sndS (s : S) : SndS T G tb k s := by
  induction hn : sizeOf s using Nat.strongRecOn generalizing s with
  | _ n ih0 =>
  have ih : ∀ a, sizeOf a < sizeOf s → SndS T G tb k a := fun a h => ih0 _ (hn ▸ h) a rfl
  clear ih0 hn
  constructor
  · intro X cn hsc hk fm st h
    unfold chkS at h
    split at h
    · exact ss_bad
    · exact ss_pass
    · exact ss_cont
    · simp only [Bool.and_eq_true] at h
      exact ss_ex ((snd _).x cn hsc h.2) h.1
    · rw [Bool.and_eq_true, Bool.or_eq_true] at h
      obtain ⟨h, h5⟩ := h
      rcases h with h | h
      · simp only [Bool.and_eq_true, decide_eq_true_eq, Bool.not_eq_true'] at h
        obtain ⟨⟨⟨h1, h2⟩, h3⟩, h4⟩ := h
        exact ss_setLc cn hsc hk h1 h2 h3 h4 h5
      · rw [Bool.and_eq_true] at h
        exact ss_asg cn hsc ((snd _).x cn hsc h5) h.2 h.1 rfl
    · rw [Bool.and_eq_true, Bool.or_eq_true] at h
      obtain ⟨h, h5⟩ := h
      rcases h with h | h
      · simp only [Bool.and_eq_true, decide_eq_true_eq, Bool.not_eq_true'] at h
        obtain ⟨⟨⟨h1, h2⟩, h3⟩, h4⟩ := h
        exact ss_setLcd cn hsc hk h1 h2 h3 h4 h5
      · rw [Bool.and_eq_true] at h
        exact ss_asg cn hsc ((snd _).x cn hsc h5) h.2 h.1 rfl
    · rename_i g e tg x pos _ _
      simp only [Bool.and_eq_true] at h
      obtain ⟨⟨⟨h1, h2⟩, h3⟩, h4⟩ := h
      refine ss_asg cn hsc ((snd _).x cn hsc h4) h3 h1 ?_
      cases tg <;> cases x <;> first | rfl | (cases h2; done) | (cases g <;> simp [tgB] at h3; done)
    · rename_i is e es kk tp x pos
      simp only [Bool.and_eq_true] at h
      obtain ⟨⟨⟨h1, h2⟩, h3⟩, h4⟩ := h
      refine ss_asgL cn hsc ((snd _).x cn hsc h4) h3 h1 ?_
      cases x <;> first | rfl | (cases h2; done)
    · simp only [Bool.and_eq_true, decide_eq_true_eq, Bool.not_eq_true'] at h
      obtain ⟨⟨⟨h2, h3⟩, h4⟩, h5⟩ := h
      exact ss_asgA cn ((snd _).x cn hsc h3) h4 (meth_no cn h5) ((snd _).x cn hsc h2)
    · simp only [Bool.and_eq_true] at h
      obtain ⟨⟨⟨h2, h3⟩, h4⟩, h5⟩ := h
      exact ss_asgS cn ((snd _).x cn hsc h4) ((snd _).x cn hsc h5) h2 ((snd _).x cn hsc h3)
    · simp only [Bool.and_eq_true] at h
      obtain ⟨⟨⟨⟨⟨⟨⟨⟨⟨h1, h2⟩, h3⟩, h4⟩, h5⟩, h6⟩, h7⟩, h8⟩, h9⟩, h10⟩ := h
      exact ss_asgX cn ((snd _).x cn hsc h7) ((snd _).x cn hsc h8) h1 ((snd _).x cn hsc h9) ((snd _).x cn hsc h10) h2 ((snd _).x cn hsc h5) ((snd _).x cn hsc h6) h3 h4
    · simp only [Bool.and_eq_true, decide_eq_true_eq] at h
      obtain ⟨⟨⟨h1, h2⟩, rfl⟩, h4⟩ := h
      exact ss_aug cn hsc h1 h2 ((snd _).x cn hsc h4)
    · simp only [Bool.and_eq_true, decide_eq_true_eq, Bool.not_eq_true'] at h
      obtain ⟨⟨⟨⟨rfl, h2⟩, h3⟩, h4⟩, h5⟩ := h
      exact ss_augA cn ((snd _).x cn hsc h3) h4 (meth_no cn h5) ((snd _).x cn hsc h2)
    · simp only [Bool.and_eq_true, decide_eq_true_eq] at h
      obtain ⟨⟨⟨⟨rfl, h2⟩, h3⟩, h4⟩, h5⟩ := h
      exact ss_augS cn ((snd _).x cn hsc h4) ((snd _).x cn hsc h5) h2 ((snd _).x cn hsc h3)
    · exact ss_ret ((snd _).x cn hsc h)
    · exact ss_retN
    · rename_i t a b c xs ys pos
      simp only [Bool.and_eq_true] at h
      obtain ⟨⟨h1, h2⟩, h3⟩ := h
      exact ss_if ((snd _).t cn hsc h1) ((ih a (by simp; omega)).b cn hsc hk fm h2) ((ih b (by simp; omega)).b cn hsc hk fm h3)
    · rename_i t b c xs pos
      simp only [Bool.and_eq_true] at h
      exact ss_while cn.own ((snd _).t cn hsc h.1) ((ih b (by simp; omega)).b cn hsc hk fm h.2)
    · simp only [Bool.and_eq_true, decide_eq_true_eq] at h
      exact ss_raise cn h.1.1 h.1.2 h.2
    · rename_i b c i hh body x np n b₀ suite pos' pos
      simp only [Bool.and_eq_true, decide_eq_true_eq] at h
      obtain ⟨⟨⟨⟨⟨⟨h1, h2⟩, h3⟩, h4⟩, h5⟩, h6⟩, h7⟩ := h
      exact ss_try cn hsc hk fm (fun cn' sc' hk' fm' hN hE => (ih b (by simp; omega)).b cn' sc' hk' fm' (by rw [hN, hE]; exact h6)) h1 h2 h3 h4 h5 h7
    · rename_i g it b tg iter xs pos
      simp only [Bool.and_eq_true] at h
      obtain ⟨⟨⟨h1, h2⟩, h3⟩, h4⟩ := h
      exact ss_frd cn hsc ((snd _).x cn hsc h1) h2 h3 ((ih b (by simp; omega)).b cn hsc hk fm h4) (noset h1)
    · rename_i g it b tg iter xs pos
      simp only [Bool.and_eq_true] at h
      obtain ⟨⟨⟨h1, h2⟩, h3⟩, h4⟩ := h
      exact ss_for cn hsc (si cn hsc (snd _) (fun a _ => snd a) h1 h2) h3 ((ih b (by simp; omega)).b cn hsc hk fm h4) (noset h1)
    · cases h
  · intro X cn hsc hk fm sts h
    unfold chkB at h
    split at h
    · exact ss_nil
    · rename_i a b x xs
      simp only [Bool.and_eq_true] at h
      exact ss_cons ((ih a (by simp; omega)).x cn hsc hk fm h.1) ((ih b (by simp; omega)).b cn hsc hk fm h.2)
    · cases h
end
end Ov

/-! Defs: level by level. -/
namespace Ov
open PySem PySem.Spec L2
/-- a body without its docstring -/
def undoc : List Stmt → List Stmt
  | .Expr (.Constant (.str _) _ _) _ :: r => r
  | l => l
/-- a def of the program is what the evaluator has at f -/
def DefOk (T : Tb) (tb : Tbl) (p : Pg) (f : Nat) (a : Addr) (fd : FuncData) (ps : List Str) : Prop :=
  ∃ (x qual : Str) (params : Arguments) (body : List Stmt) (scope : Scope) (dvs : List V) (kws : List (Str × V)) (N : List Str) (F : Fn), p.fns[f]? = some F ∧ FunD T.K x qual params body scope dvs kws a fd ∧ FnScope N ps scope ∧ N.length = F.nn ∧ ps.length = F.np ∧
    chkB tb T.names N F.body scope (undoc body) = true
/-- what holds of the program, at every level -/
structure St (T : Tb) (tb : Tbl) (p : Pg) (P : Program) (w : World) (mg : Str → Option Value) : Prop where
  call : ∀ x f np, tb.fns.lookup x = some (f, np) → ∃ a fd ps, mg x = some (.ref a) ∧ PySem.W.keepIn T.K (.ref a) = true ∧ Binds T.K fd ps [] ∧ DefOk T tb p f a fd ps ∧ ps.length = np
  meth : ∀ c C m n f, T.cls c = some C → T.names[m]? = some n → p.meth c m = some f → ∃ a fd ps, Meth T.K C n a ∧ Binds T.K fd ps [] ∧ DefOk T tb p f a fd ps
  make : ∀ x c, tb.clss.lookup x = some c → ∃ C a fi fd ps, mg x = some (.ref C) ∧ T.cls c = some C ∧ p.init c = some fi ∧ Mk T.K C a ∧ Binds T.K fd ps [] ∧ DefOk T tb p fi a fd ps
  mths : ∀ c f m, p.meth c f = some m → f ∈ tb.meths
  cls : ∀ c C, T.cls c = some C → Cls T.K C
  noat : ∀ c C f n, T.cls c = some C → T.names[f]? = some n → (∀ m, p.meth c f ≠ some m) → NoAttr T.K C n
  consts : ∀ x v, tb.consts.lookup x = some v → ∃ y u, scalV v = some y ∧ mg x = some u ∧ RelV y u
  tups : ∀ x vs, tb.tups.lookup x = some vs → ∃ ys a, scalVs vs = some ys ∧ mg x = some (.ref a) ∧ SqT T.K (fun _ => none) a ys
  dics : ∀ x kvs, tb.dics.lookup x = some kvs → ∃ a es n, mg x = some (.ref a) ∧ KDict T.K w a es n ∧ (∀ z, kvs.lookup z = none → PySem.W.nsIn T.K a z = some none) ∧ (∀ z vs, kvs.lookup z = some vs → ∃ b ys, PySem.W.nsIn T.K a z = some (some (.ref b)) ∧ KtpAt T b ys ∧ scalVs vs = some ys)
  frees : ∀ x ∈ tb.frees, mg x = none
  nnd : T.names.Nodup
  excs : ∀ x c, tb.excs.lookup x = some c → ∃ C, mg x = some (.ref C) ∧ T.exc c = some C ∧ XcOk T.K C
  cats : ∀ x c, tb.cats.lookup x = some c → CtOk PySem.W.kitOne T p.sub mg x c
  cths : ∀ x c, tb.cths.lookup x = some c → CtOk PySem.W.exmOne T p.sub mg x c
  excc : ∀ r C, T.exc r = some C → ExcC T.K C
section
variable {T : Tb} {tb : Tbl} {p : Pg} {P : Program} {w : World} {mg : Str → Option Value} {base : Heap}
theorem Ar.callD {d f np : Nat} {F : Fn} (h : p.fns[f]? = some F) (hn : F.np = np) : Ar (callD p d f) np := by
  intro vs s hne
  cases d with
  | zero => rfl
  | succ d =>
    show (match p.fns[f]? with
    | some F => if vs.length = F.np then (exec (gmOf p (Ov.callD p d)) F.body (startE F.nn vs) s).res else .bad
    | none => .bad) = _
    rw [h]
    exact if_neg (by rw [hn]; exact hne)
theorem FC.res {X : Cx} {as : List Addr} {H : Hp} {r : Fl} {Q : VK} {E : XK} (hx : ∀ c d σ H, E c d H → Tk X c d σ H) (h : PC T (RepV T) as H r.res Q E) : FC X T as H r { nx := fun _ H' => Q .non H', rt := Q } := by
  cases r with
  | nx ρ s => exact fun as' H' σ' e k _ => h as' H' .non e k rfl
  | ct ρ s => exact h.elim
  | rt v s => exact h
  | exc x ρ s => exact fun as' H' d C σ' e k _ q z => hx _ _ _ _ (h as' H' d C e k q z)
  | bad => exact h.elim
theorem undoc_ok {X : Cx} {body : List Stmt} {t : TS} (h : PSs X (undoc body) t) : PSs X body t := by
  unfold undoc at h
  split at h
  · exact (pss_cons ps_doc h).le fun D σ H q => q
  · exact h
theorem def_ok {d f : Nat} {a : Addr} {fd : FuncData} {ps : List Str} (D : DefOk T tb p f a fd ps) (W : Wd T (gmD p d) tb (2 * d) P w mg base) :
    FnOk P w T.K mg base (L2.CX P w) (2 * d + 2) a fd ps (spC T (callD p (d + 1) f) ps.length) := by
  obtain ⟨x, qual, params, body, scope, dvs, kws, N, F, hF, hfd, S, hnn, hnp, hchk⟩ := D
  refine hfd.ok S (fun vs H Q E h => h.1) fun cdv A outer s H vs Q E hr hsp => ?_
  obtain ⟨hl, as, st, args, r, pa, q⟩ := hsp
  have hla : args.length = F.np := by rw [pa.length, hl, hnp]
  rw [callD_succ p d f args st hF hla] at q
  generalize hX : cxOf (L2.CX P w) P w T.K mg base N qual scope a cdv A outer s H E = X
  have cn : Cn T (gmD p d) tb (2 * d) X := by
    subst hX
    exact ⟨W, rfl, rfl, S.nd, hr, passes_of rfl⟩
  have hscope : X.env.scope = scope := by subst hX; rfl
  have hN : X.N = N := by subst hX; rfl
  have hsc : Sc X X.env.scope := ⟨fun _ h => h, fun _ h => h, fun x h => ⟨locB_ok h, .inl (by subst hX; rfl)⟩, fun _ h => h⟩
  have tk : ∀ c d' σ' H', E c d' H' → Tk X c d' σ' H' := by
    subst hX
    intro c d' σ' H' he u s' hx
    refine takes_of (X := cxOf (L2.CX P w) P w T.K mg base N qual scope a cdv A outer s H E) (E := E) rfl rfl rfl rfl u s' ?_
    obtain ⟨a', B, sI, pins, σ, H0, cls, d0, e, I, nb, up, sky, na, os, ag, z1, z2, z3, z4⟩ := hx
    exact ⟨a', B, sI, pins, σ, H0, cls, d0, e, I, nb, up, sky, na, os, ag, by rw [z1, z2, z4]; exact he⟩
  have body_ok := undoc_ok ((sndS (T := T) (G := gmD p d) (tb := tb) (k := 2 * d) F.body).b cn hsc (by rw [hscope]; exact S.kind) (by subst hX; exact ⟨rfl, rfl⟩) (sts := undoc body) (by rw [hscope, hN]; exact hchk))
  exact ⟨_, body_ok, as, st, startE F.nn args, r, by rw [← hnn]; exact RepE.start N pa, FC.res tk q⟩
/-- at level 0 nothing is promised -/
theorem fn_none {a : Addr} {fd : FuncData} {ps : List Str} {f np : Nat} : FnOk P w T.K mg base (L2.CX P w) 0 a fd ps (spC T (callD p 0 f) np) :=
  ⟨fun vs H Q E h => (by obtain ⟨_, as, st, args, _, _, q⟩ := h; exact q.elim), fun A outer s H args us vs Q E _ _ _ _ h => (by obtain ⟨_, as, st, args, _, _, q⟩ := h; exact q.elim)⟩
/-- every level -/
theorem wd_all (s : St T tb p P w mg) : ∀ d, Wd T (gmD p d) tb (2 * d) P w mg base := by
  intro d
  induction d with
  | zero =>
    refine ⟨fun x f np h => ?_, fun c C m n f h1 h2 h3 => ?_, fun x c h => ?_, s.mths, s.cls, s.noat, s.consts, s.tups, s.dics, s.frees, s.nnd, s.excs, s.cats, s.cths, s.excc⟩
    · obtain ⟨a, fd, ps, k1, k2, k3, k4, k5⟩ := s.call x f np h
      have k4' := k4
      obtain ⟨_, _, _, _, _, _, _, _, F, hF, _, _, _, hnp, _⟩ := k4'
      exact ⟨a, fd, ps, k1, k2, k3, fn_none (p := p) (f := f), Ar.callD hF (hnp.symm.trans k5)⟩
    · obtain ⟨a, fd, ps, k1, k3, k4⟩ := s.meth c C m n f h1 h2 h3
      have k4' := k4
      obtain ⟨_, _, _, _, _, _, _, _, F, hF, _, _, _, hnp, _⟩ := k4'
      exact ⟨a, fd, ps, _, k1, k3, fn_none (p := p) (f := f), Ar.callD hF rfl⟩
    · obtain ⟨C, a, fi, fd, ps, k0, k1, k2, k3, k5, k4⟩ := s.make x c h
      have k4' := k4
      obtain ⟨_, _, _, _, _, _, _, _, F, hF, _, _, _, hnp, _⟩ := k4'
      exact ⟨C, a, fi, fd, ps, _, k0, k1, k2, k3, k5, fn_none (p := p) (f := fi), Ar.callD hF rfl⟩
  | succ d ih =>
    refine ⟨fun x f np h => ?_, fun c C m n f h1 h2 h3 => ?_, fun x c h => ?_, s.mths, s.cls, s.noat, s.consts, s.tups, s.dics, s.frees, s.nnd, s.excs, s.cats, s.cths, s.excc⟩
    · obtain ⟨a, fd, ps, k1, k2, k3, k4, k5⟩ := s.call x f np h
      have k4' := k4
      obtain ⟨_, _, _, _, _, _, _, _, F, hF, _, _, _, hnp, _⟩ := k4'
      subst k5
      exact ⟨a, fd, ps, k1, k2, k3, def_ok k4 ih, Ar.callD hF hnp.symm⟩
    · obtain ⟨a, fd, ps, k1, k3, k4⟩ := s.meth c C m n f h1 h2 h3
      have k4' := k4
      obtain ⟨_, _, _, _, _, _, _, _, F, hF, _, _, _, hnp, _⟩ := k4'
      exact ⟨a, fd, ps, _, k1, k3, def_ok k4 ih, Ar.callD hF hnp.symm⟩
    · obtain ⟨C, a, fi, fd, ps, k0, k1, k2, k3, k5, k4⟩ := s.make x c h
      have k4' := k4
      obtain ⟨_, _, _, _, _, _, _, _, F, hF, _, _, _, hnp, _⟩ := k4'
      exact ⟨C, a, fi, fd, ps, _, k0, k1, k2, k3, k5, def_ok k4 ih, Ar.callD hF hnp.symm⟩
/-- no list is written -/
def noLst (K : PySem.W.Frag) : Bool := K.all fun q => match q.2.cls with
  | .type c => !decide (c = "list")
  | _ => true
theorem lookup_mem' {a : Addr} {o : Obj} : ∀ {l : List (Addr × Obj)}, l.lookup a = some o → (a, o) ∈ l := He.lookup_mem
theorem noLst_ok {K : PySem.W.Frag} (h : noLst K = true) {a : Addr} {o : Obj} (e : K.lookup a = some o) : o.cls ≠ .type "list" := fun z => by
  have := List.all_eq_true.mp h _ (He.lookup_mem e)
  simp only [z] at this
  exact absurd this (by decide)
/-- THE LAW's def: for every script the evaluator answers True -/
theorem law_sp {d f : Nat} {n : Nat} (hl : noLst T.K = true) (hev : ∀ ns : List Int, ns.length ≤ n → ∃ s', callD p d f [.loc 0] [.rol (ns.map .int)] = .ok (.bl true) s') {H : Hp} {a : Addr} {ns : List Int} (hn : ns.length ≤ n) (ho : Only H) (hs : SqL T.K H a (ns.map V.int)) :
    spC T (callD p d f) 1 [.ref a] H (fun v _ => v = .bl true) fun _ _ _ => False := by
  obtain ⟨s', e⟩ := hev ns hn
  have hf : ∃ o, H a = some (.frz o (.lst (ns.map V.int))) := by
    rcases hs with (h | ⟨o, h⟩) | ⟨o, its, m, lk, hc, _⟩
    · rcases ho a with z | ⟨o, xs, z⟩
      · rw [z] at h; cases h
      · rw [z] at h; cases h
    · exact ⟨o, h⟩
    · exact absurd hc (noLst_ok hl lk)
  obtain ⟨o, hf⟩ := hf
  refine ⟨rfl, [a], [.rol (ns.map .int)], [.loc 0], ⟨rfl, by simp, fun l o' h => ?_⟩, ⟨_, _, rfl, ⟨a, rfl, rfl⟩, rfl⟩, ?_⟩
  · cases l with
    | zero =>
      cases h
      exact ⟨a, rfl, o, _, hf, RepVs.ofInts ns⟩
    | succ l => cases h
  · rw [e]
    exact fun as' H' x _ _ hx => hx
end
end Ov

/-! From the head's facts to what holds of the program. -/
namespace Ov
open PySem PySem.Spec L2
theorem al0 {α : Type} {P : α → Prop} : ∀ q ∈ ([] : List α), P q := fun q h => by cases h
theorem al1 {α : Type} {P : α → Prop} {a : α} {l : List α} (h : P a) (t : ∀ q ∈ l, P q) : ∀ q ∈ a :: l, P q := fun q hq => by
  rcases List.mem_cons.mp hq with rfl | z
  · exact h
  · exact t q z
theorem al_lookup {β : Type} {l : List (Str × β)} {P : Str × β → Prop} (h : ∀ q ∈ l, P q) {x : Str} {v : β} (e : l.lookup x = some v) : P (x, v) := by
  induction l with
  | nil => cases e
  | cons q r ih =>
    obtain ⟨k, u⟩ := q
    cases hx : x == k with
    | true =>
      simp only [List.lookup_cons, hx] at e
      cases e
      have : x = k := eq_of_beq hx
      subst this
      exact h _ List.mem_cons_self
    | false =>
      simp only [List.lookup_cons, hx] at e
      exact ih (fun q hq => h q (List.mem_cons_of_mem _ hq)) e
/-- the promise without exceptions -/
theorem calm0 {P : Program} {w : World} {K : PySem.W.Frag} {mg : Str → Option Value} {base : Heap} {k : Nat} {a : Addr} {fd : FuncData} {ps : List Str} {sp : Sp} (F : FnOk P w K mg base (L2.CX P w) k a fd ps sp) : FnOk P w K mg base CX0 k a fd ps (fun vs H Q _ => sp vs H Q fun _ _ _ => False) :=
  ⟨fun vs H Q E h => F.len _ _ _ _ h, fun A outer s H args us vs Q E hr e0 hb hv hs => codeAny_mono (F.run A outer s H args us vs Q (fun _ _ _ => False) hr e0 hb hv hs) fun r s' hq => by
    cases r with
    | ok f => cases f <;> first | exact hq | exact hq.elim
    | error e =>
      obtain ⟨_, _, _, _, _, _, _, _, _, _, _, _, z⟩ := hq
      exact z.elim⟩
/-- a def of the table -/
structure DefE where
  d : He.DefD
  ps : List Str
  N : List Str
  f : Nat
def DefE.chk (names : List Str) (tb : Tbl) (p : Pg) (e : DefE) : Bool := match p.fns[e.f]? with
  | some F => decide (e.N.length = F.nn) && decide (e.ps.length = F.np) && chkB tb names e.N F.body e.d.scope (undoc e.d.body)
  | none => false
theorem DefE.ok {T : Tb} {tb : Tbl} {p : Pg} {e : DefE} {a : Addr} {fd : FuncData} {dvs : List V} {kws : List (Str × V)} (h : e.chk T.names tb p = true) (F : FunD T.K e.d.name e.d.qual e.d.params e.d.body e.d.scope dvs kws a fd) (S : FnScope e.N e.ps e.d.scope) : DefOk T tb p e.f a fd e.ps := by
  unfold DefE.chk at h
  cases q : p.fns[e.f]? with
  | none => rw [q] at h; cases h
  | some G =>
    rw [q] at h
    simp only [Bool.and_eq_true, decide_eq_true_eq] at h
    exact ⟨_, _, _, _, _, _, _, _, G, q, F, S, h.1.1, h.1.2, h.2⟩
/-- what the written part says of the classes that are raised -/
def xcB (K : PySem.W.Frag) (C : Addr) : Bool :=
  PySem.W.keepIn K (.ref C) && (PySem.W.excIn K C [.type "ValueError", .type "Exception", .type "BaseException", .type "object"] "ValueError.__new__" && (PySem.W.subIn K (.ref C) (.type "BaseException") == some true &&
  (PySem.W.typeIn K (.ref C) == some (.type "type") && (PySem.W.findIn K (.ref C) "__getattribute__" == some (some (.builtin "BaseException.__getattribute__")) && (PySem.W.findIn K (.ref C) "__getattr__" == some none &&
  (PySem.W.hasDictIn K C && (PySem.W.findIn K (.ref C) "__class__" == some (some (.builtin "object.__class__")) && (PySem.W.specialIn K (.builtin "object.__class__") "__get__" == some (some (.builtin "getset_descriptor.__get__")) &&
  (PySem.W.takesIn K (.builtin "object.__class__") == some true && PySem.W.mroIn K C (.type "object") == some true)))))))))
theorem xcB_ok {K : PySem.W.Frag} {C : Addr} (h : xcB K C = true) : XcOk K C ∧ ExcC K C := by
  unfold xcB at h
  simp only [Bool.and_eq_true, beq_iff_eq] at h
  obtain ⟨h1, h2, h3, h4, h5, h6, h7, h8, h9, h10, h11⟩ := h
  exact ⟨⟨h1, ⟨_, _, _, _, PySem.F.excBase_ValueError, h2⟩, h3, h4⟩, ⟨h5, h6, h3, h7, h8, h9, h10, h11⟩⟩
theorem mem_of_lk {β : Type} : ∀ {l : List (Nat × β)} {r : Nat} {C : β}, l.lookup r = some C → (r, C) ∈ l
  | (q, D) :: l, r, C, e => by
    cases hx : r == q with
    | true =>
      simp only [List.lookup_cons, hx] at e
      cases e
      have : r = q := eq_of_beq hx
      subst this
      exact List.mem_cons_self
    | false =>
      simp only [List.lookup_cons, hx] at e
      exact List.mem_cons_of_mem _ (mem_of_lk e)
def xsB (K : PySem.W.Frag) (rs : List (Nat × Addr)) : Bool := rs.all fun p => xcB K p.2
theorem xsB_ok {K : PySem.W.Frag} {rs : List (Nat × Addr)} (h : xsB K rs = true) {r : Nat} {C : Addr} (e : rs.lookup r = some C) : XcOk K C ∧ ExcC K C := xcB_ok (List.all_eq_true.mp h _ (mem_of_lk e))
def ctB (q : PySem.W.Frag → Value → Value → Option Bool) (K : PySem.W.Frag) (sub : Nat → Nat → Bool) (rs : List (Nat × Addr)) (D : Value) (c : Nat) : Bool := rs.all fun p => q K (.ref p.2) D == some (sub p.1 c)
theorem ctB_ok {q : PySem.W.Frag → Value → Value → Option Bool} {K : PySem.W.Frag} {sub : Nat → Nat → Bool} {rs : List (Nat × Addr)} {D : Value} {c : Nat} (h : ctB q K sub rs D c = true) : ∀ r C, rs.lookup r = some C → q K (.ref C) D = some (sub r c) := fun r C e => by
  have := List.all_eq_true.mp h _ (mem_of_lk e)
  exact eq_of_beq this
/-! a dict of the module: texts to tuples of texts -/
def ktB (K : PySem.W.Frag) (b : Addr) (vs : List Val) : Bool := match scalVs vs with
  | some ys => (match K.lookup b with
    | some ⟨.type c, _, .seq its _, _⟩ => decide (c = "tuple") && (decide (its.size ≤ sizeLine) && He.relAll ys its.toList)
    | _ => false)
  | none => false
theorem ktB_ok {T : Tb} {b : Addr} {vs : List Val} (h : ktB T.K b vs = true) : ∃ ys, KtpAt T b ys ∧ scalVs vs = some ys := by
  unfold ktB at h
  cases e : scalVs vs with
  | none => rw [e] at h; cases h
  | some ys =>
    rw [e] at h
    cases q : T.K.lookup b with
    | none => rw [q] at h; cases h
    | some o =>
      obtain ⟨oc, od, dt, osl⟩ := o
      rw [q] at h
      cases oc with
      | type c =>
        cases dt with
        | seq its n =>
          have h' : (decide (c = "tuple") && (decide (its.size ≤ sizeLine) && He.relAll ys its.toList)) = true := h
          simp only [Bool.and_eq_true, decide_eq_true_eq] at h'
          exact ⟨ys, ⟨_, its, n, q, by rw [h'.1], rfl, h'.2.1, He.relAll_ok h'.2.2⟩, rfl⟩
        | _ => cases h
      | _ => cases dt <;> cases h
def kgB (K : PySem.W.Frag) (a : Addr) (kvs : List (Str × List Val)) : Bool := kvs.all fun q => match PySem.W.nsIn K a q.1 with
  | some (some (.ref b)) => ktB K b q.2
  | _ => false
theorem kg_miss {K : PySem.W.Frag} {w : World} {a : Addr} {es : Array DictEntry} {n : Nat} {ks : List Str} (D : KDict K w a es n) (h : He.dicW K a = some (He.keysIn w.params ks)) {z : Str} (hz : z ∉ ks) : PySem.W.nsIn K a z = some none := by
  unfold He.dicW at h
  rw [D.at_] at h
  have hl : (a == sysModules) = false := D.low
  have h' : (match decide ("dict" = "dict") && ((#[] : Array (Option Value)).isEmpty && !(a == sysModules)) with
    | true => some (es.toList.map He.keyOf)
    | false => none) = some (He.keysIn w.params ks) := h
  rw [hl] at h'
  have h2 : es.toList.map He.keyOf = He.keysIn w.params ks := Option.some.inj h'
  have key : ∀ e ∈ es.toList, ∃ x t, e.key = .str x t ∧ x ∈ ks := by
    intro e he
    have m : He.keyOf e ∈ He.keysIn w.params ks := by rw [← h2]; exact List.mem_map.mpr ⟨e, he, rfl⟩
    unfold He.keysIn at m
    obtain ⟨x, hx, ex⟩ := List.mem_map.mp m
    unfold He.keyOf at ex
    split at ex
    · rename_i y t q
      have := Option.some.inj ex
      obtain ⟨e1, _⟩ := Prod.mk.inj this
      exact ⟨y, t, q, by rw [← e1]; exact hx⟩
    · cases ex
  unfold PySem.W.nsIn
  rw [D.at_]
  dsimp only
  have f0 : es.toList.find? (·.key.isStr z) = none := List.find?_eq_none.mpr fun e he => by
    obtain ⟨x, t, q, hx⟩ := key e he
    rw [q]
    intro c
    have : z = x := by
      have c' : (x == z) = true := c
      exact (eq_of_beq c').symm
    exact hz (this ▸ hx)
  rw [f0]
  dsimp only
  have f1 : es.toList.any (·.refKey) = false := List.any_eq_false.mpr fun e he => by
    obtain ⟨x, t, q, _⟩ := key e he
    unfold DictEntry.refKey
    rw [q]
    exact Bool.false_ne_true
  rw [f1]
  rfl
theorem lk_none {β : Type} {l : List (Str × β)} {z : Str} (h : l.lookup z = none) : z ∉ l.map (·.1) := by
  induction l with
  | nil => exact nofun
  | cons p l ih =>
    obtain ⟨k, v⟩ := p
    cases hx : z == k with
    | true => simp only [List.lookup_cons, hx] at h; cases h
    | false =>
      simp only [List.lookup_cons, hx] at h
      rw [List.map_cons, List.mem_cons, not_or]
      exact ⟨fun e => by rw [e] at hx; simp at hx, ih h⟩
theorem lk_mem {β : Type} {l : List (Str × β)} {z : Str} {v : β} (h : l.lookup z = some v) : (z, v) ∈ l := by
  induction l with
  | nil => cases h
  | cons p l ih =>
    obtain ⟨k, u⟩ := p
    cases hx : z == k with
    | true =>
      simp only [List.lookup_cons, hx] at h
      cases h
      have : z = k := eq_of_beq hx
      rw [this]
      exact List.mem_cons_self
    | false =>
      simp only [List.lookup_cons, hx] at h
      exact List.mem_cons_of_mem _ (ih h)
theorem kg_ok {T : Tb} {w : World} {mg : Str → Option Value} {x : Str} {a : Addr} {kvs : List (Str × List Val)} (hm : mg x = some (.ref a)) (h : He.dicW T.K a = some (He.keysIn w.params (kvs.map (·.1)))) (hv : kgB T.K a kvs = true) :
    ∃ a es n, mg x = some (.ref a) ∧ KDict T.K w a es n ∧ (∀ z, kvs.lookup z = none → PySem.W.nsIn T.K a z = some none) ∧ (∀ z vs, kvs.lookup z = some vs → ∃ b ys, PySem.W.nsIn T.K a z = some (some (.ref b)) ∧ KtpAt T b ys ∧ scalVs vs = some ys) := by
  obtain ⟨es, n, D⟩ := He.dicW_ok h
  refine ⟨a, es, n, hm, D, fun z hz => kg_miss D h (lk_none hz), fun z vs hz => ?_⟩
  have h2 := List.all_eq_true.mp hv _ (lk_mem hz)
  dsimp only at h2
  split at h2
  · rename_i b e
    obtain ⟨ys, h3, h4⟩ := ktB_ok h2
    exact ⟨b, ys, e, h3, h4⟩
  · cases h2
theorem tab_at {fa : List He.Fa} {fn : List He.DefD} {ts : List He.Tab} {w : World} {K : PySem.W.Frag} (c : He.SaysT fa fn ts w K) (i : Nat) {t : He.Tab} (h : ts[i]? = some t := by rfl) : He.dicW K (t.1 K) = some (He.keysIn w.params t.2) := by
  have e : ts.map (fun t => He.dicW K (t.1 K)) = ts.map fun t => some (He.keysIn w.params t.2) := congrArg (fun z : He.AlT => z.2) c
  have e2 : (ts.map fun t => He.dicW K (t.1 K))[i]? = (ts.map fun t => some (He.keysIn w.params t.2))[i]? := by rw [e]
  rw [List.getElem?_map, List.getElem?_map, h] at e2
  exact Option.some.inj e2
/-! a world in which one text is followed, or not: as it is -/
def setF (w : World) (x : String) (b : Bool) : World := { w with params := { w.params with followText := fun s => if s == x then b else w.params.followText s } }
theorem setF_eq {w : World} {x : String} {b : Bool} (h : w.params.followText x = b) : setF w x b = w := by
  have e : (fun s => if s == x then b else w.params.followText s) = w.params.followText := by
    funext s
    by_cases c : s = x
    · subst c
      rw [← h]
      simp
    · have : (s == x) = false := beq_eq_false_iff_ne.mpr c
      rw [this]
      rfl
  show ({ w with params := { w.params with followText := fun s => if s == x then b else w.params.followText s } } : World) = w
  rw [e]
theorem twoF {Q : World → Prop} (x : String) (h : ∀ w, Q (setF w x true)) (k : ∀ w, Q (setF w x false)) (w : World) : Q w := by
  cases e : w.params.followText x with
  | true => rw [← setF_eq e]; exact h w
  | false => rw [← setF_eq e]; exact k w
end Ov

/-! Equations for walking the evaluator. -/
namespace Ov
theorem slen_snew (s : Store) (o : Ob) : slen (snew s o) = slen s + 1 := by unfold slen snew; simp
theorem slen_sput (s : Store) (l : Nat) (o : Ob) : slen (sput s l o) = slen s := by unfold slen sput; simp
theorem lt_of_sget {s : Store} {l : Nat} {o : Ob} (h : sget s l = some o) : l < slen s := by
  unfold sget at h
  exact (List.getElem?_eq_some_iff.mp h).1
theorem sget_new {s : Store} {o : Ob} : sget (snew s o) (slen s) = some o := by unfold sget snew slen; simp
theorem sget_new' {s : Store} {o : Ob} {l : Nat} (h : l = slen s) : sget (snew s o) l = some o := by rw [h]; exact sget_new
theorem sget_old {s : Store} {o : Ob} {l : Nat} (h : l < slen s) : sget (snew s o) l = sget s l := by
  unfold sget snew
  exact List.getElem?_append_left h
theorem sget_same {s : Store} {o : Ob} {l : Nat} (h : l < slen s) : sget (sput s l o) l = some o := by
  unfold sget sput
  exact List.getElem?_set_self h
theorem sget_ne {s : Store} {o : Ob} {l k : Nat} (h : l ≠ k) : sget (sput s k o) l = sget s l := by
  unfold sget sput
  exact List.getElem?_set_ne (fun e => h e.symm)
theorem sput_sput {s : Store} {l : Nat} {o u : Ob} : sput (sput s l o) l u = sput s l u := by unfold sput; simp
theorem ne_of_sget {s : Store} {l k : Nat} {o u : Ob} (h : sget s l = some o) (h' : sget s k = some u) (d : o ≠ u) : l ≠ k := by
  intro e; subst e; rw [h] at h'; exact d (Option.some.inj h')

/-! ### values -/
section
variable {s : Store} {i j : Int} {a b : PySem.Str} {vs ws : List Val} {l : Nat} {x y : Val} {p q : Bool}
theorem truth_non : truth s .non = some false := (rfl)
theorem truth_bl : truth s (.bl p) = some p := (rfl)
theorem truth_int : truth s (.int i) = some (decide (i ≠ 0)) := (rfl)
theorem truth_str (h : a.length ≤ lim) : truth s (.str a) = some (decide (a.length ≠ 0)) := if_pos h
theorem truth_tup : truth s (.tup vs) = some (!vs.isEmpty) := (rfl)
theorem trueB_bl : trueB (.bl p) = some p := (rfl)
theorem add_int : binop .Add (.int i) (.int j) s = .ok (.int (i + j)) s := (rfl)
theorem sub_int : binop .Sub (.int i) (.int j) s = .ok (.int (i - j)) s := (rfl)
theorem mod_int (h : 0 < j) : binop .Mod (.int i) (.int j) s = .ok (.int (i % j)) s := if_pos h
theorem div_int (h : 0 < j ∧ j < 10 ^ 60) : binop .FloorDiv (.int i) (.int j) s = .ok (.int (i / j)) s := if_pos h
theorem mul_int (h : (-(2 ^ 64) < i ∧ i < 2 ^ 64) ∨ (-(2 ^ 64) < j ∧ j < 2 ^ 64)) : binop .Mult (.int i) (.int j) s = .ok (.int (i * j)) s := if_pos h
theorem pow_int (h : 0 ≤ j ∧ j ≤ 1000000 ∧ i.natAbs < 2 ^ 64) : binop .Pow (.int i) (.int j) s = .ok (.int (i ^ j.toNat)) s := if_pos h
theorem add_str (h : a.length + b.length ≤ lim) : binop .Add (.str a) (.str b) s = .ok (.str (a ++ b)) s := if_pos h
theorem add_tup (h : vs.length + ws.length ≤ lim) : binop .Add (.tup vs) (.tup ws) s = .ok (.tup (vs ++ ws)) s := if_pos h
theorem add_lst {k : Nat} (h1 : sget s l = some (.lst vs)) (h2 : sget s k = some (.lst ws)) (h : (vs ++ ws).length ≤ lim) : binop .Add (.loc l) (.loc k) s = .ok (.loc (slen s)) (snew s (.lst (vs ++ ws))) := by
  unfold binop; simp only [lstOf, h1, h2]; exact if_pos h
theorem neg_int : negv (.int i) s = .ok (.int (-i)) s := (rfl)
theorem newL_ok (h : vs.length ≤ lim) : newL vs s = .ok (.loc (slen s)) (snew s (.lst vs)) := if_pos h
theorem alloc_ok {o : Ob} : alloc o s = .ok (.loc (slen s)) (snew s o) := (rfl)
/-! == of plain things -/
theorem eqb_non : eqb s .non .non = some true := rfl
theorem eqb_bl : eqb s (.bl p) (.bl q) = some (p == q) := rfl
theorem eqb_int : eqb s (.int i) (.int j) = some (decide (i = j)) := rfl
theorem eqb_str : eqb s (.str a) (.str b) = some (decide (a = b)) := rfl
theorem eqb_bi : eqb s (.bl p) (.int j) = some (decide (b2i p = j)) := rfl
theorem eqb_ib : eqb s (.int i) (.bl p) = some (decide (i = b2i p)) := rfl
theorem eqb_ni : eqb s .non (.int j) = some false := rfl
theorem eqb_in : eqb s (.int j) .non = some false := rfl
theorem eqb_si : eqb s (.str a) (.int j) = some false := rfl
theorem eqb_is : eqb s (.int j) (.str a) = some false := rfl
theorem eqb_ns : eqb s .non (.str a) = some false := rfl
theorem eqb_sn : eqb s (.str a) .non = some false := rfl
theorem eqb_nb : eqb s .non (.bl p) = some false := rfl
theorem eqb_bn : eqb s (.bl p) .non = some false := rfl
theorem eqb_tn : eqb s (.tup vs) .non = some false := rfl
theorem eqb_nt : eqb s .non (.tup vs) = some false := rfl
theorem cmp_eq {r : Bool} (h : eqb s x y = some r) : cmpop .Eq x y s = .ok (.bl r) s := by unfold cmpop; simp only [h]
theorem cmp_ne {r : Bool} (h : eqb s x y = some r) : cmpop .NotEq x y s = .ok (.bl (!r)) s := by unfold cmpop; simp only [h]
theorem cmp_eq_int : cmpop .Eq (.int i) (.int j) s = .ok (.bl (decide (i = j))) s := (rfl)
theorem cmp_ne_int : cmpop .NotEq (.int i) (.int j) s = .ok (.bl (!decide (i = j))) s := (rfl)
theorem cmp_eq_str : cmpop .Eq (.str a) (.str b) s = .ok (.bl (decide (a = b))) s := (rfl)
theorem cmp_ne_str : cmpop .NotEq (.str a) (.str b) s = .ok (.bl (!decide (a = b))) s := (rfl)
theorem cmp_lt : cmpop .Lt (.int i) (.int j) s = .ok (.bl (decide (i < j))) s := (rfl)
theorem cmp_le : cmpop .LtE (.int i) (.int j) s = .ok (.bl (decide (i ≤ j))) s := (rfl)
theorem cmp_gt : cmpop .Gt (.int i) (.int j) s = .ok (.bl (decide (j < i))) s := (rfl)
theorem cmp_ge : cmpop .GtE (.int i) (.int j) s = .ok (.bl (decide (j ≤ i))) s := (rfl)
theorem cmp_is : cmpop .Is x .non s = .ok (.bl (decide (x = .non))) s := (rfl)
theorem sl3_tup {vs : List Val} : getsl3 (.tup vs) none none (some (-1)) s = .ok (.tup vs.reverse) s := by
  show (if none = (none : Option Int) ∧ none = (none : Option Int) ∧ (-1 : Int) = -1 then R.ok (Val.tup vs.reverse) s else .bad) = _
  exact if_pos ⟨rfl, rfl, rfl⟩
theorem mul_str {z : PySem.Str} {k : Int} : binop .Mult (.str z) (.int k) s = if 0 ≤ k ∧ k ≤ 1 then .ok (.str (if k = 1 then z else PySem.Str.empty)) s else if 2 ≤ k ∧ k ≤ 10000 ∧ z.length ≠ 0 ∧ z.length * k.toNat ≤ 100000 then .ok (.str (strRep z k.toNat)) s else .bad := (rfl)
theorem cmp_isb {b c : Bool} : cmpop .Is (.bl c) (.bl b) s = .ok (.bl (decide (c = b))) s := (rfl)
theorem cmp_isnotb {b c : Bool} : cmpop .IsNot (.bl c) (.bl b) s = .ok (.bl (!decide (c = b))) s := (rfl)
theorem cmp_isnot : cmpop .IsNot x .non s = .ok (.bl (!decide (x = .non))) s := (rfl)
theorem cmp_in_tup {r : Bool} (h : inL s x vs = some r) : cmpop .In x (.tup vs) s = .ok (.bl r) s := by unfold cmpop inop; simp only [h]; cases r <;> rfl
theorem cmp_notin_tup {r : Bool} (h : inL s x vs = some r) : cmpop .NotIn x (.tup vs) s = .ok (.bl (!r)) s := by unfold cmpop inop; simp only [h]; cases r <;> rfl
theorem ix_tup : getix (.tup vs) (.int i) s = R.opt (L2.atI vs i) s := (rfl)
theorem ix_lst (h : sget s l = some (.lst vs)) : getix (.loc l) (.int i) s = R.opt (L2.atI vs i) s := by unfold getix; simp only [h]
theorem set_lst {n : Nat} (h : sget s l = some (.lst vs)) (hn : L2.ixN vs.length i = some n) : setix (.loc l) (.int i) x s = .ok () (sput s l (.lst (vs.set n x))) := by unfold setix; simp only [h, hn]
theorem len_tup : bfn .len [.tup vs] s = .ok (.int vs.length) s := (rfl)
theorem len_lst (h : sget s l = some (.lst vs)) : bfn .len [.loc l] s = .ok (.int vs.length) s := by unfold bfn; simp only [h]
theorem max_int : bfn .max [.int i, .int j] s = .ok (.int (max i j)) s := by
  show R.ok (Val.int (if j > i then j else i)) s = _
  congr 2; split <;> omega
theorem min_int : bfn .min [.int i, .int j] s = .ok (.int (min i j)) s := by
  show R.ok (Val.int (if j < i then j else i)) s = _
  congr 2; split <;> omega
theorem int_int : bfn .int [.int i] s = .ok (.int i) s := (rfl)
theorem int_bl : bfn .int [.bl p] s = .ok (.int (b2i p)) s := (rfl)
theorem abs_int : bfn .abs [.int i] s = .ok (.int (if i < 0 then -i else i)) s := (rfl)
theorem sorted_ok {ns : List Int} (h : lstOf s l = some vs) (hn : intsOf vs = some ns) : bfn .sorted [.loc l] s = .ok (.loc (slen s)) (snew s (.lst ((sortI ns).map Val.int))) := by unfold bfn; simp only [h, hn]; rfl
theorem append_ok (h : sget s l = some (.lst vs)) (hl : vs.length < lim) : bmf .lst .append (.loc l) [x] s = .ok .non (sput s l (.lst (vs ++ [x]))) := by unfold bmf; simp only [h]; exact if_pos hl
theorem getat_ok {c f : Nat} {fs : List (Nat × Val)} (h : sget s l = some (.ins c fs)) : getat (.loc l) f s = R.opt (fs.lookup f) s := by unfold getat; simp only [h]
end
end Ov

/-! More for walking the evaluator: calls, loops, slices. -/
namespace Ov
theorem gm_call (p : Pg) (c : Nat → List Val → Store → R Val) (f : Nat) (vs : List Val) (s : Store) : (gmOf p c).call f vs s = c f vs s := (rfl)
theorem stands_ok {l : Nat} {o : Ob} {s : Store} (h : sget s l = some o) : stands l o s = true := decide_eq_true h
/-- every turn goes on -/
theorem forR_inv {chk : Store → Bool} {turn : Val → Env → Store → Fl} (I : Env → Store → Prop) (hc : ∀ ρ s, I ρ s → chk s = true) :
    ∀ {xs : List Val} {ρ : Env} {s : Store}, I ρ s → (∀ x ∈ xs, ∀ ρ s, I ρ s → ∃ ρ' s', turn x ρ s = .nx ρ' s' ∧ I ρ' s') → ∃ ρ' s', forR chk turn xs ρ s = .nx ρ' s' ∧ I ρ' s'
  | [], ρ, s, h, _ => ⟨ρ, s, by rw [forR, if_pos (hc _ _ h)], h⟩
  | x :: xs, ρ, s, h, ht => by
    obtain ⟨ρ1, s1, e1, h1⟩ := ht x List.mem_cons_self ρ s h
    obtain ⟨ρ2, s2, e2, h2⟩ := forR_inv I hc (xs := xs) h1 fun y hy => ht y (List.mem_cons_of_mem _ hy)
    exact ⟨ρ2, s2, by rw [forR, if_pos (hc _ _ h), e1, Fl.lp_nx, e2], h2⟩
theorem atI_int {zs : List Int} {i : Int} (h0 : 0 ≤ i) (h1 : i < zs.length) : ∃ z, z ∈ zs ∧ L2.atI (zs.map Val.int) i = some (.int z) := by
  have hl : i.toNat < zs.length := by omega
  refine ⟨zs[i.toNat], List.getElem_mem hl, ?_⟩
  unfold L2.atI L2.ixN
  simp only [List.length_map, h0, if_true, h1, Option.bind_some]
  rw [List.getElem?_map, List.getElem?_eq_getElem hl]; rfl
theorem atI_map {α : Type} {zs : List α} {f : α → Val} {i : Int} (h0 : 0 ≤ i) (h1 : i < zs.length) : ∃ z, z ∈ zs ∧ L2.atI (zs.map f) i = some (f z) := by
  have hl : i.toNat < zs.length := by omega
  refine ⟨zs[i.toNat], List.getElem_mem hl, ?_⟩
  unfold L2.atI L2.ixN
  simp only [List.length_map, h0, if_true, h1, Option.bind_some]
  rw [List.getElem?_map, List.getElem?_eq_getElem hl]; rfl
theorem isi_int_int {i : Int} {s : Store} : isi (.int i) [.int] s = .ok (.bl true) s := (rfl)
theorem isi_int_bool {i : Int} {s : Store} : isi (.int i) [.bool] s = .ok (.bl false) s := (rfl)
theorem endR_int {i : Int} {s : Store} : endR (.int i) s = .ok (some i) s := (rfl)
theorem endR_non {s : Store} : endR .non s = .ok none s := (rfl)
theorem sl_rol {l : Nat} {vs : List Val} {lo hi : Option Int} {s : Store} (h : sget s l = some (.rol vs)) : getslO (.loc l) lo hi s = .ok (.loc (slen s)) (snew s (.lst (cut vs lo hi))) := by
  unfold getslO lstOf; simp only [h]; rfl
theorem sl_lst {l : Nat} {vs : List Val} {lo hi : Option Int} {s : Store} (h : sget s l = some (.lst vs)) : getslO (.loc l) lo hi s = .ok (.loc (slen s)) (snew s (.lst (cut vs lo hi))) := by
  unfold getslO lstOf; simp only [h]; rfl
theorem lstOf_lst {l : Nat} {vs : List Val} {s : Store} (h : sget s l = some (.lst vs)) : lstOf s l = some vs := by unfold lstOf; simp only [h]
theorem lstOf_rol {l : Nat} {vs : List Val} {s : Store} (h : sget s l = some (.rol vs)) : lstOf s l = some vs := by unfold lstOf; simp only [h]
theorem wk_lst {l : Nat} {vs : List Val} {s : Store} (h : sget s l = some (.lst vs)) : Wk.ofVal (.loc l) s = .ok (.keep l (.lst vs) vs) s := by unfold Wk.ofVal; simp only [h]
theorem wk_rol {l : Nat} {vs : List Val} {s : Store} (h : sget s l = some (.rol vs)) : Wk.ofVal (.loc l) s = .ok (.keep l (.rol vs) vs) s := by unfold Wk.ofVal; simp only [h]
theorem wk_tup {vs : List Val} {s : Store} : Wk.ofVal (.tup vs) s = .ok (.free vs) s := (rfl)
theorem cut_mem {vs : List Val} {lo hi : Option Int} {x : Val} (h : x ∈ cut vs lo hi) : x ∈ vs := List.mem_of_mem_drop (List.mem_of_mem_take h)
theorem cut_len {vs : List Val} {lo hi : Option Int} : (cut vs lo hi).length ≤ vs.length := by
  unfold cut; rw [List.length_take, List.length_drop]; omega
theorem nil_isNil : E.nil.isNil = true := (rfl)
theorem k_isNil {v : Val} : (E.k v).isNil = false := (rfl)
theorem ite_tt {α : Type} (a b : α) : (if true = true then a else b) = a := (rfl)
theorem ite_ft {α : Type} (a b : α) : (if false = true then a else b) = b := (rfl)
section
variable {s : Store} {a b c d e f g h : Val}
theorem newL0 : newL [] s = .ok (.loc (slen s)) (snew s (.lst [])) := if_pos (by decide)
theorem newL1 : newL [a] s = .ok (.loc (slen s)) (snew s (.lst [a])) := if_pos (show 1 ≤ 16777216 by decide)
theorem newL2 : newL [a, b] s = .ok (.loc (slen s)) (snew s (.lst [a, b])) := if_pos (show 2 ≤ 16777216 by decide)
theorem newL3 : newL [a, b, c] s = .ok (.loc (slen s)) (snew s (.lst [a, b, c])) := if_pos (show 3 ≤ 16777216 by decide)
theorem newL4 : newL [a, b, c, d] s = .ok (.loc (slen s)) (snew s (.lst [a, b, c, d])) := if_pos (show 4 ≤ 16777216 by decide)
theorem newL5 : newL [a, b, c, d, e] s = .ok (.loc (slen s)) (snew s (.lst [a, b, c, d, e])) := if_pos (show 5 ≤ 16777216 by decide)
theorem newL6 : newL [a, b, c, d, e, f] s = .ok (.loc (slen s)) (snew s (.lst [a, b, c, d, e, f])) := if_pos (show 6 ≤ 16777216 by decide)
end
theorem pow_10_9 {s : Store} : binop .Pow (.int 10) (.int 9) s = .ok (.int 1000000000) s := by rw [pow_int (by decide)]; rfl
theorem pow_10_18 {s : Store} : binop .Pow (.int 10) (.int 18) s = .ok (.int 1000000000000000000) s := by rw [pow_int (by decide)]; rfl
theorem pow_10_40 {s : Store} : binop .Pow (.int 10) (.int 40) s = .ok (.int 10000000000000000000000000000000000000000) s := by rw [pow_int (by decide)]; rfl
theorem slen_le_new {s : Store} {o : Ob} : slen s ≤ slen (snew s o) := by rw [slen_snew]; omega
theorem exec_sq {G : Gm} {a b : S} {ρ : Env} {s : Store} : exec G (.sq a b) ρ s = (exec G a ρ s).sq (exec G b) := rfl
/-- a for over a list that nobody changes, every turn goes on -/
theorem fr_keep {G : Gm} {i : Nat} {it : E} {b : S} {ρ : Env} {s s1 : Store} {l : Nat} {o : Ob} {xs : List Val} (I : Env → Store → Prop) (hw : evw G it ρ s = .ok (.keep l o xs) s1) (h0 : I ρ s1) (hc : ∀ ρ s, I ρ s → sget s l = some o)
    (ht : ∀ x ∈ xs, ∀ ρ s, I ρ s → ∃ ρ' s', exec G b (eset ρ i (some x)) s = .nx ρ' s' ∧ I ρ' s') : ∃ ρ' s', exec G (.fr (.n i) it b) ρ s = .nx ρ' s' ∧ I ρ' s' := by
  obtain ⟨ρ2, s2, e, h2⟩ := forR_inv (chk := stands l o) (turn := fun x ρ s => Fl.ob (tgSet (.n i) x ρ) fun ρ' => exec G b ρ' s) I (fun ρ s h => stands_ok (hc ρ s h)) (xs := xs) h0 ht
  refine ⟨ρ2, s2, ?_, h2⟩
  unfold exec
  rw [hw]
  exact e
theorem fr_free {G : Gm} {i : Nat} {it : E} {b : S} {ρ : Env} {s s1 : Store} {xs : List Val} (I : Env → Store → Prop) (hw : evw G it ρ s = .ok (.free xs) s1) (h0 : I ρ s1)
    (ht : ∀ x ∈ xs, ∀ ρ s, I ρ s → ∃ ρ' s', exec G b (eset ρ i (some x)) s = .nx ρ' s' ∧ I ρ' s') : ∃ ρ' s', exec G (.fr (.n i) it b) ρ s = .nx ρ' s' ∧ I ρ' s' := by
  obtain ⟨ρ2, s2, e, h2⟩ := forR_inv (chk := fun _ => true) (turn := fun x ρ s => Fl.ob (tgSet (.n i) x ρ) fun ρ' => exec G b ρ' s) I (fun _ _ _ => rfl) (xs := xs) h0 ht
  refine ⟨ρ2, s2, ?_, h2⟩
  unfold exec
  rw [hw]
  exact e
/-- some numbers and a script's cells -/
theorem cells_le (as ns : List Int) (n : Int) (h1 : as.length ≤ 100) (h2 : ns.length ≤ 63) : (as.map Val.int ++ cut (ns.map Val.int) none (some n)).length ≤ lim := by
  rw [List.length_append]
  have := cut_len (vs := ns.map Val.int) (lo := none) (hi := some n)
  rw [List.length_map] at this ⊢
  show _ ≤ 16777216
  omega
theorem cells_int (as ns : List Int) (n : Int) {x : Val} (h : x ∈ as.map Val.int ++ cut (ns.map Val.int) none (some n)) : ∃ c : Int, x = .int c := by
  rcases List.mem_append.mp h with h | h
  · obtain ⟨c, _, rfl⟩ := List.mem_map.mp h; exact ⟨c, rfl⟩
  · obtain ⟨c, _, rfl⟩ := List.mem_map.mp (cut_mem h); exact ⟨c, rfl⟩
/-- [a, ..] + script[:n] is walked -/
theorem cells_ev (G : Gm) (e1 : E) (as ns : List Int) (n : Int) (ρ : Env) (s : Store) (h1 : as.length ≤ 100) (h2 : ns.length ≤ 63) (h0 : sget s 0 = some (.rol (ns.map .int))) (hρ : eget ρ 0 = some (.loc 0)) (he : ev G e1 ρ s = .ok (.loc (slen s)) (snew s (.lst (as.map .int)))) :
    ∃ s1, evw G (.bin .Add e1 (.sl (.v 0) .nil (.k (.int n)) .nil)) ρ s = .ok (.keep (slen s + 2) (.lst (as.map Val.int ++ cut (ns.map .int) none (some n))) (as.map Val.int ++ cut (ns.map .int) none (some n))) s1 ∧
      sget s1 (slen s + 2) = some (.lst (as.map Val.int ++ cut (ns.map .int) none (some n))) ∧ slen s1 = slen s + 3 ∧ ∀ l, l < slen s → sget s1 l = sget s l := by
  have l0 : 0 < slen s := lt_of_sget h0
  have g1 : sget (snew s (.lst (as.map .int))) 0 = some (.rol (ns.map .int)) := (sget_old l0).trans h0
  have g2 : sget (snew (snew s (.lst (as.map .int))) (.lst (cut (ns.map .int) none (some n)))) (slen s) = some (.lst (as.map .int)) := (sget_old (by rw [slen_snew]; omega)).trans sget_new
  have g3 : sget (snew (snew s (.lst (as.map .int))) (.lst (cut (ns.map .int) none (some n)))) (slen (snew s (.lst (as.map .int)))) = some (.lst (cut (ns.map .int) none (some n))) := sget_new
  refine ⟨snew (snew (snew s (.lst (as.map .int))) (.lst (cut (ns.map .int) none (some n)))) (.lst (as.map Val.int ++ cut (ns.map .int) none (some n))), ?_, sget_new' (by simp only [slen_snew]), by simp only [slen_snew], fun l hl => ?_⟩
  · show ((ev G (.bin .Add e1 (.sl (.v 0) .nil (.k (.int n)) .nil)) ρ s).bind Wk.ofVal) = _
    simp only [ev, he, R.bind_ok, hρ, R.opt_some, Ov.R.bind_ok, Ov.R.bind_exc, Ov.R.bind_bad, Ov.R.tb_true, Ov.R.tb_false, Ov.R.tb_none, Ov.R.ob_some, Ov.R.ob_none, Ov.R.opt_some, Ov.R.opt_none, Ov.R.calm_ok, Ov.R.fl_ok, Ov.R.fl_exc, Ov.R.fl_bad, Ov.Fl.sq_nx, Ov.Fl.sq_ct, Ov.Fl.sq_rt, Ov.Fl.sq_exc, Ov.Fl.sq_bad, Ov.Fl.lp_nx, Ov.Fl.lp_ct, Ov.Fl.lp_rt, Ov.Fl.lp_exc, Ov.Fl.lp_bad, Ov.Fl.tb_true, Ov.Fl.tb_false, Ov.Fl.tb_none, Ov.Fl.ob_some, Ov.Fl.ob_none, Ov.Fl.res_nx, Ov.Fl.res_rt, Ov.Fl.res_exc, Ov.slen_snew, Ov.slen_sput, Ov.truth_non, Ov.truth_bl, Ov.truth_int, Ov.truth_str, Ov.truth_tup, Ov.trueB_bl, Ov.add_int, Ov.sub_int, Ov.mod_int, Ov.div_int, Ov.mul_int, Ov.pow_int, Ov.add_str, Ov.add_tup, Ov.neg_int, Ov.alloc_ok, Ov.cmp_eq_int, Ov.cmp_ne_int, Ov.cmp_eq_str, Ov.cmp_ne_str, Ov.cmp_lt, Ov.cmp_le, Ov.cmp_gt, Ov.cmp_ge, Ov.cmp_is, Ov.sl3_tup, Ov.mul_str, Ov.cmp_isb, Ov.cmp_isnotb, Ov.cmp_isnot, Ov.ix_tup, Ov.len_tup, Ov.max_int, Ov.min_int, Ov.int_int, Ov.int_bl, Ov.abs_int, Ov.gm_call, Ov.isi_int_int, Ov.isi_int_bool, Ov.endR_int, Ov.endR_non, Ov.wk_tup, Ov.nil_isNil, Ov.k_isNil, Ov.ite_tt, Ov.ite_ft, Ov.newL0, Ov.newL1, Ov.newL2, Ov.newL3, Ov.newL4, Ov.newL5, Ov.newL6, Ov.pow_10_9, Ov.pow_10_18, Ov.pow_10_40, ↓reduceIte, reduceDIte, Nat.reduceAdd, Nat.reduceMul, Nat.reduceSub, Nat.reduceDiv, Nat.reduceMod, Nat.reducePow, Nat.reduceLT, Nat.reduceGT, Nat.reduceBEq, Nat.reduceBNe, Nat.reduceEqDiff, Nat.reduceBeqDiff, Nat.reduceBneDiff, Nat.reduceLeDiff, Nat.reduceSubDiff, Nat.reduceSucc, Int.reduceAdd, Int.reduceMul, Int.reduceSub, Int.reduceNeg, Int.reduceDiv, Int.reduceMod, Int.reducePow, Int.reduceLT, Int.reduceLE, Int.reduceGT, Int.reduceGE, Int.reduceEq, Int.reduceNe, Int.reduceBEq, Int.reduceBNe, Int.reduceAbs, Int.reduceToNat, Int.reduceNegSucc, Int.reduceOfNat, reduceCtorEq, ↓reduceIte, Bool.false_eq_true, if_true, if_false, sl_rol g1]
    rw [slen_snew] at g3
    rw [add_lst g2 g3 (cells_le as ns n h1 h2)]
    simp only [R.bind_ok, slen_snew]
    exact wk_lst (sget_new' (by simp only [slen_snew]))
  · rw [sget_old (by simp only [slen_snew]; omega), sget_old (by simp only [slen_snew]; omega), sget_old hl]
/-- the store grows, what stood stands -/
structure Gr (s s' : Store) : Prop where
  le : slen s ≤ slen s'
  old : ∀ l, l < slen s → sget s' l = sget s l
theorem Gr.refl (s : Store) : Gr s s := ⟨Nat.le_refl _, fun _ _ => rfl⟩
theorem Gr.trans {a b c : Store} (h : Gr a b) (k : Gr b c) : Gr a c := ⟨Nat.le_trans h.le k.le, fun l hl => (k.old l (Nat.lt_of_lt_of_le hl h.le)).trans (h.old l hl)⟩
theorem Gr.new (s : Store) (o : Ob) : Gr s (snew s o) := ⟨slen_le_new, fun _ hl => sget_old hl⟩
theorem Gr.get {s s' : Store} {l : Nat} {o : Ob} (g : Gr s s') (h : sget s l = some o) : sget s' l = some o := (g.old l (lt_of_sget h)).trans h
theorem lcR_map {chk : Store → Bool} {turn : Val → Store → R (Option Val)} {s0 : Store} (f : Val → Val) (hc : ∀ s, Gr s0 s → chk s = true) : ∀ {xs : List Val} {acc : List Val} {s : Store}, Gr s0 s →
    (∀ x ∈ xs, ∀ s, Gr s0 s → ∃ s', turn x s = .ok (some (f x)) s' ∧ Gr s s') → acc.length + xs.length ≤ lim → ∃ s', lcR chk turn xs acc s = .ok (acc ++ xs.map f) s' ∧ Gr s s'
  | [], acc, s, g, _, _ => ⟨s, by rw [lcR, if_pos (hc s g)]; simp, Gr.refl _⟩
  | x :: xs, acc, s, g, ht, hl => by
    obtain ⟨s1, e1, g1⟩ := ht x List.mem_cons_self s g
    have hl' : acc.length < lim := by
      rw [List.length_cons] at hl
      exact Nat.lt_of_lt_of_le (by omega) hl
    obtain ⟨s2, e2, g2⟩ := lcR_map f hc (xs := xs) (acc := acc ++ [f x]) (g.trans g1) (fun y hy => ht y (List.mem_cons_of_mem _ hy)) (by rw [List.length_append, List.length_singleton]; rw [List.length_cons] at hl; omega)
    refine ⟨s2, ?_, g1.trans g2⟩
    rw [lcR, if_pos (hc s g), e1]
    show (if acc.length < lim then lcR chk turn xs (acc ++ [f x]) s1 else .bad) = _
    rw [if_pos hl', e2, List.map_cons, List.append_assoc]; rfl
theorem ev_lc_keep {G : Gm} {i : Nat} {it e : E} {own : List Nat} {ρ : Env} {s s1 : Store} {l : Nat} {o : Ob} {xs : List Val} (f : Val → Val) (hw : evw G it ρ s = .ok (.keep l o xs) s1) (ho : sget s1 l = some o) (hn : xs.length ≤ lim)
    (ht : ∀ x ∈ xs, ∀ s, Gr s1 s → ∃ s', ev G e (eset (wipeE ρ own) i (some x)) s = .ok (f x) s' ∧ Gr s s') : ∃ s', ev G (.lc (.n i) it .nil e own) ρ s = .ok (.loc (slen s')) (snew s' (.lst (xs.map f))) ∧ Gr s1 s' := by
  obtain ⟨s2, e2, g2⟩ := lcR_map (chk := stands l o) (turn := fun x s => R.ob (tgSet (.n i) x (wipeE ρ own)) fun ρ2 => if E.nil.isNil = true then (ev G e ρ2 s).bind fun v s => R.ok (some v) s else (ev G .nil ρ2 s).bind fun x s => R.tb (truth s x) ((ev G e ρ2 s).bind fun v s => R.ok (some v) s) (R.ok none s)) f
    (fun s g => stands_ok (g.get ho)) (xs := xs) (acc := []) (Gr.refl s1) (fun x hx s g => by
      obtain ⟨s', e', g'⟩ := ht x hx s g
      refine ⟨s', ?_, g'⟩
      show (ev G e (eset (wipeE ρ own) i (some x)) s).bind (fun v s => R.ok (some v) s) = _
      rw [e']; rfl) (by simpa using hn)
  refine ⟨s2, ?_, g2⟩
  have h1 : ev G (.lc (.n i) it .nil e own) ρ s = (evw G it ρ s).bind fun w s => lcW w (fun x s => R.ob (tgSet (.n i) x (wipeE ρ own)) fun ρ2 => if E.nil.isNil = true then (ev G e ρ2 s).bind fun v s => R.ok (some v) s else (ev G .nil ρ2 s).bind fun x s => R.tb (truth s x) ((ev G e ρ2 s).bind fun v s => R.ok (some v) s) (R.ok none s)) s := by
    rw [ev]; rfl
  rw [h1, hw]
  show ((lcR (stands l o) _ xs [] s1).calm.bind fun vs s => alloc (.lst vs) s) = _
  rw [e2]; rfl
theorem ev_lc_free {G : Gm} {i : Nat} {it e : E} {own : List Nat} {ρ : Env} {s s1 : Store} {xs : List Val} (f : Val → Val) (hw : evw G it ρ s = .ok (.free xs) s1) (hn : xs.length ≤ lim)
    (ht : ∀ x ∈ xs, ∀ s, Gr s1 s → ∃ s', ev G e (eset (wipeE ρ own) i (some x)) s = .ok (f x) s' ∧ Gr s s') : ∃ s', ev G (.lc (.n i) it .nil e own) ρ s = .ok (.loc (slen s')) (snew s' (.lst (xs.map f))) ∧ Gr s1 s' := by
  obtain ⟨s2, e2, g2⟩ := lcR_map (chk := fun _ => true) (turn := fun x s => R.ob (tgSet (.n i) x (wipeE ρ own)) fun ρ2 => if E.nil.isNil = true then (ev G e ρ2 s).bind fun v s => R.ok (some v) s else (ev G .nil ρ2 s).bind fun x s => R.tb (truth s x) ((ev G e ρ2 s).bind fun v s => R.ok (some v) s) (R.ok none s)) f
    (fun s g => rfl) (xs := xs) (acc := []) (Gr.refl s1) (fun x hx s g => by
      obtain ⟨s', e', g'⟩ := ht x hx s g
      refine ⟨s', ?_, g'⟩
      show (ev G e (eset (wipeE ρ own) i (some x)) s).bind (fun v s => R.ok (some v) s) = _
      rw [e']; rfl) (by simpa using hn)
  refine ⟨s2, ?_, g2⟩
  have h1 : ev G (.lc (.n i) it .nil e own) ρ s = (evw G it ρ s).bind fun w s => lcW w (fun x s => R.ob (tgSet (.n i) x (wipeE ρ own)) fun ρ2 => if E.nil.isNil = true then (ev G e ρ2 s).bind fun v s => R.ok (some v) s else (ev G .nil ρ2 s).bind fun x s => R.tb (truth s x) ((ev G e ρ2 s).bind fun v s => R.ok (some v) s) (R.ok none s)) s := by
    rw [ev]; rfl
  rw [h1, hw]
  show ((lcR (fun _ => true) _ xs [] s1).calm.bind fun vs s => alloc (.lst vs) s) = _
  rw [e2]; rfl
theorem lcR_any {chk : Store → Bool} {turn : Val → Store → R (Option Val)} (I : Store → Prop) (P : Val → Prop) (hc : ∀ s, I s → chk s = true) : ∀ {xs : List Val} {acc : List Val} {s : Store}, I s →
    (∀ x ∈ xs, ∀ s, I s → ∃ v s', turn x s = .ok (some v) s' ∧ P v ∧ I s') → acc.length + xs.length ≤ lim → ∃ ys s', lcR chk turn xs acc s = .ok (acc ++ ys) s' ∧ ys.length = xs.length ∧ (∀ y ∈ ys, P y) ∧ I s'
  | [], acc, s, g, _, _ => ⟨[], s, by rw [lcR, if_pos (hc s g)]; simp, rfl, by simp, g⟩
  | x :: xs, acc, s, g, ht, hl => by
    obtain ⟨v, s1, e1, p1, g1⟩ := ht x List.mem_cons_self s g
    have hl' : acc.length < lim := by
      rw [List.length_cons] at hl
      exact Nat.lt_of_lt_of_le (by omega) hl
    obtain ⟨ys, s2, e2, n2, p2, g2⟩ := lcR_any I P hc (xs := xs) (acc := acc ++ [v]) g1 (fun y hy => ht y (List.mem_cons_of_mem _ hy)) (by rw [List.length_append, List.length_singleton]; rw [List.length_cons] at hl; omega)
    refine ⟨v :: ys, s2, ?_, by simp [n2], ?_, g2⟩
    · rw [lcR, if_pos (hc s g), e1]
      show (if acc.length < lim then lcR chk turn xs (acc ++ [v]) s1 else .bad) = _
      rw [if_pos hl', e2, List.append_assoc]; rfl
    · intro y hy
      rcases List.mem_cons.mp hy with rfl | z
      · exact p1
      · exact p2 y z
/-- a comprehension without test, by an invariant -/
theorem ev_lc_any {G : Gm} {i : Nat} {it e : E} {own : List Nat} {ρ : Env} {s s1 : Store} {w : Wk} {xs : List Val} (I : Store → Prop) (P : Val → Prop) (hw : evw G it ρ s = .ok w s1) (hx : w = .free xs ∨ ∃ l o, w = .keep l o xs ∧ ∀ s, I s → sget s l = some o) (h0 : I s1) (hn : xs.length ≤ lim)
    (ht : ∀ x ∈ xs, ∀ s, I s → ∃ v s', ev G e (eset (wipeE ρ own) i (some x)) s = .ok v s' ∧ P v ∧ I s') :
    ∃ ys s', ev G (.lc (.n i) it .nil e own) ρ s = .ok (.loc (slen s')) (snew s' (.lst ys)) ∧ ys.length = xs.length ∧ (∀ y ∈ ys, P y) ∧ I s' := by
  have h1 : ev G (.lc (.n i) it .nil e own) ρ s = (evw G it ρ s).bind fun w s => lcW w (fun x s => R.ob (tgSet (.n i) x (wipeE ρ own)) fun ρ2 => if E.nil.isNil = true then (ev G e ρ2 s).bind fun v s => R.ok (some v) s else (ev G .nil ρ2 s).bind fun x s => R.tb (truth s x) ((ev G e ρ2 s).bind fun v s => R.ok (some v) s) (R.ok none s)) s := by
    rw [ev]; rfl
  have turn : ∀ x ∈ xs, ∀ s, I s → ∃ v s', (fun (x : Val) s => R.ob (tgSet (.n i) x (wipeE ρ own)) fun ρ2 => if E.nil.isNil = true then (ev G e ρ2 s).bind fun v s => R.ok (some v) s else (ev G .nil ρ2 s).bind fun x s => R.tb (truth s x) ((ev G e ρ2 s).bind fun v s => R.ok (some v) s) (R.ok none s)) x s = .ok (some v) s' ∧ P v ∧ I s' := fun x hx s g => by
    obtain ⟨v, s', e', p', g'⟩ := ht x hx s g
    refine ⟨v, s', ?_, p', g'⟩
    show (ev G e (eset (wipeE ρ own) i (some x)) s).bind (fun v s => R.ok (some v) s) = _
    rw [e']; rfl
  rcases hx with rfl | ⟨l, o, rfl, ho⟩
  · obtain ⟨ys, s2, e2, n2, p2, g2⟩ := lcR_any (chk := fun _ => true) I P (fun _ _ => rfl) (acc := []) h0 turn (by simpa using hn)
    refine ⟨ys, s2, ?_, n2, p2, g2⟩
    rw [h1, hw]
    show ((lcR (fun _ => true) _ xs [] s1).calm.bind fun vs s => alloc (.lst vs) s) = _
    rw [e2]; rfl
  · obtain ⟨ys, s2, e2, n2, p2, g2⟩ := lcR_any (chk := stands l o) I P (fun s g => stands_ok (ho s g)) (acc := []) h0 turn (by simpa using hn)
    refine ⟨ys, s2, ?_, n2, p2, g2⟩
    rw [h1, hw]
    show ((lcR (stands l o) _ xs [] s1).calm.bind fun vs s => alloc (.lst vs) s) = _
    rw [e2]; rfl
theorem atI_mem {α : Type} {vs : List α} {i : Int} (h0 : 0 ≤ i) (h1 : i < vs.length) : ∃ z, z ∈ vs ∧ L2.atI vs i = some z := by
  have hl : i.toNat < vs.length := by omega
  refine ⟨vs[i.toNat], List.getElem_mem hl, ?_⟩
  unfold L2.atI L2.ixN
  simp only [h0, if_true, h1, Option.bind_some]
  exact List.getElem?_eq_getElem hl
section
variable {s : Store} {a b c d e f g h i j : Val}
theorem newL7 : newL [a, b, c, d, e, f, g] s = .ok (.loc (slen s)) (snew s (.lst [a, b, c, d, e, f, g])) := if_pos (show 7 ≤ 16777216 by decide)
theorem newL8 : newL [a, b, c, d, e, f, g, h] s = .ok (.loc (slen s)) (snew s (.lst [a, b, c, d, e, f, g, h])) := if_pos (show 8 ≤ 16777216 by decide)
end
theorem pow_10_12 {s : Store} : binop .Pow (.int 10) (.int 12) s = .ok (.int 1000000000000) s := by rw [pow_int (by decide)]; rfl
theorem pow_10_30 {s : Store} : binop .Pow (.int 10) (.int 30) s = .ok (.int 1000000000000000000000000000000) s := by rw [pow_int (by decide)]; rfl
theorem inL_strs (s : Store) (z : PySem.Str) : ∀ ws : List PySem.Str, inL s (.str z) (ws.map .str) = some (decide (z ∈ ws))
  | [] => rfl
  | w :: ws => by
    rw [List.map_cons, inL, inL_strs s z ws, eqb_str]
    show some (decide (w = z) || decide (z ∈ ws)) = _
    congr 1
    by_cases e : w = z
    · subst e; simp
    · simp [e, Ne.symm e]
/-- a block's first statement, the others -/
def hdS : S → S
  | .sq a _ => a
  | s => s
def tlS : S → S
  | .sq _ b => b
  | s => s
theorem in_strs {s : Store} {l : Nat} {z : PySem.Str} {ws : List PySem.Str} (h : sget s l = some (.lst (ws.map .str))) : cmpop .In (.str z) (.loc l) s = .ok (.bl (decide (z ∈ ws))) s := by
  unfold cmpop inop
  simp only [h, inL_strs]
  cases decide (z ∈ ws) <;> rfl
theorem ix_str {z : PySem.Str} {i : Int} {c : Nat} {s : Store} (hl : z.length ≤ lim) (h : L2.atI z.cps.toList i = some c) : getix (.str z) (.int i) s = .ok (.str ⟨#[c]⟩) s := by
  show (if z.length ≤ lim then (match L2.atI z.cps.toList i with
      | some c => R.ok (Val.str ⟨#[c]⟩) s
      | none => .bad) else .bad) = _
  rw [if_pos hl, h]
/-- a value without parts -/
def Leaf (v : Val) : Prop := v = .non ∨ (∃ b, v = .bl b) ∨ (∃ i, v = .int i) ∨ ∃ z, v = .str z
theorem veq_leaf {v : Val} (h : Leaf v) (s : Store) : ∀ n, veq n s v v = some true := by
  intro n
  rcases h with rfl | ⟨b, rfl⟩ | ⟨i, rfl⟩ | ⟨z, rfl⟩ <;> cases n <;> simp [veq, veq1]
theorem allEq_refl (f : Val → Val → Option Bool) : ∀ {xs : List Val}, (∀ x ∈ xs, f x x = some true) → allEq f xs xs = some true
  | [], _ => rfl
  | x :: xs, h => by
    have e := allEq_refl f (xs := xs) fun y hy => h y (List.mem_cons_of_mem _ hy)
    unfold allEq
    rw [h x List.mem_cons_self, e]; rfl
theorem veq_tup {vs : List Val} (h : ∀ v ∈ vs, Leaf v) (s : Store) (n : Nat) : veq (n + 1) s (.tup vs) (.tup vs) = some true := allEq_refl _ fun x hx => veq_leaf (h x hx) s n
theorem eqb_lists {s : Store} {a b : Nat} {xs : List Val} (h1 : lstOf s a = some xs) (h2 : lstOf s b = some xs) (h : ∀ x ∈ xs, veq 39 s x x = some true) : eqb s (.loc a) (.loc b) = some true := by
  show (match lstOf s a, lstOf s b with
    | some xs, some ys => if xs.length = ys.length then allEq (veq 39 s) xs ys else some false
    | _, _ => none) = _
  rw [h1, h2]
  show (if xs.length = xs.length then _ else _) = _
  rw [if_pos rfl]
  exact allEq_refl _ h
theorem list_lst {s : Store} {l : Nat} {vs : List Val} (h : sget s l = some (.lst vs)) : bfn .list [.loc l] s = .ok (.loc (slen s)) (snew s (.lst vs)) := by unfold bfn; simp only [h]; rfl
theorem isi_str_str {z : PySem.Str} {s : Store} : isi (.str z) [.str] s = .ok (.bl true) s := (rfl)
theorem len_rol {s : Store} {l : Nat} {vs : List Val} (h : sget s l = some (.rol vs)) : bfn .len [.loc l] s = .ok (.int vs.length) s := by unfold bfn; simp only [h]
theorem mul_lst {s : Store} {l : Nat} {vs : List Val} {k : Int} (h : sget s l = some (.lst vs)) (hk : -(2 ^ 63) ≤ k ∧ k < 2 ^ 63 ∧ vs.length * k.toNat ≤ lim) : binop .Mult (.loc l) (.int k) s = .ok (.loc (slen s)) (snew s (.lst (List.replicate k.toNat vs).flatten)) := by
  unfold binop
  simp only [h]
  exact if_pos hk
theorem cut_le {vs : List Val} {k : Int} (hk : 0 ≤ k) : (cut vs none (some k)).length ≤ k.toNat := by
  unfold cut
  rw [List.length_take]
  show min ((if k < 0 then (k + (vs.length : Int)).toNat else min k.toNat vs.length) - 0) _ ≤ _
  rw [if_neg (by omega)]
  omega
end Ov

/-! Walking the evaluator by what is wanted of the end. -/
namespace Ov
/-- it ends with a value of which Q holds, or is raised with X -/
def RQ0 {α : Type} (r : R α) (Q : α → Store → Prop) (X : Exc → Store → Prop) : Prop := match r with
  | .ok a s => Q a s
  | .exc x s => X x s
  | .bad => False
/-- the same, folded -/
structure RQ {α : Type} (r : R α) (Q : α → Store → Prop) (X : Exc → Store → Prop) : Prop where
  h : RQ0 r Q X
/-- a statement's ends -/
def FQ0 (r : Fl) (N C : Env → Store → Prop) (T : Val → Store → Prop) (X : Exc → Env → Store → Prop) : Prop := match r with
  | .nx ρ s => N ρ s
  | .ct ρ s => C ρ s
  | .rt v s => T v s
  | .exc x ρ s => X x ρ s
  | .bad => False
structure FQ (r : Fl) (N C : Env → Store → Prop) (T : Val → Store → Prop) (X : Exc → Env → Store → Prop) : Prop where
  h : FQ0 r N C T X
theorem RQ_iff {α : Type} {r : R α} {Q : α → Store → Prop} {X : Exc → Store → Prop} : RQ r Q X = RQ0 r Q X := propext ⟨RQ.h, RQ.mk⟩
theorem FQ_iff {r : Fl} {N C : Env → Store → Prop} {T : Val → Store → Prop} {X : Exc → Env → Store → Prop} : FQ r N C T X = FQ0 r N C T X := propext ⟨FQ.h, FQ.mk⟩
abbrev NoX : Exc → Store → Prop := fun _ _ => False
abbrev NoF : Exc → Env → Store → Prop := fun _ _ _ => False
section
variable {α β : Type} {r : R α} {Q Q' : α → Store → Prop} {X X' : Exc → Store → Prop} {s : Store} {v : α}
theorem RQ.mono (h : RQ r Q X) (k : ∀ v s, Q v s → Q' v s) (kx : ∀ x s, X x s → X' x s) : RQ r Q' X' := by
  obtain ⟨h⟩ := h
  constructor
  cases r with
  | ok a s => exact k _ _ h
  | exc x s => exact kx _ _ h
  | bad => exact h
/-- a step by what was shown of it -/
theorem RQ.by (h : RQ r Q NoX) (k : ∀ v s, Q v s → Q' v s) : RQ r Q' X' := h.mono k fun _ _ z => z.elim
theorem RQ.ex (h : RQ r Q NoX) : ∃ v s, r = .ok v s ∧ Q v s := by
  obtain ⟨h⟩ := h
  cases r with
  | ok a s => exact ⟨a, s, rfl, h⟩
  | exc x s => exact h.elim
  | bad => exact h.elim
theorem RQ.of {v : α} {s : Store} (h : r = .ok v s) (k : Q v s) : RQ r Q X := by rw [h]; exact ⟨k⟩
theorem RQ_ok : RQ (.ok v s) Q X = Q v s := by rw [RQ_iff]; rfl
theorem RQ_exc {x : Exc} : RQ (.exc x s : R α) Q X = X x s := by rw [RQ_iff]; rfl
theorem RQ_bad : RQ (.bad : R α) Q X = False := by rw [RQ_iff]; rfl
theorem RQ_bind {f : α → Store → R β} {Q : β → Store → Prop} : RQ (r.bind f) Q X = RQ r (fun v s => RQ (f v s) Q X) X := by
  cases r with
  | ok v s => rw [R.bind_ok, RQ_ok]
  | exc x s => rw [R.bind_exc, RQ_exc, RQ_exc]
  | bad => rw [R.bind_bad, RQ_bad, RQ_bad]
theorem RQ_tb {c : Bool} {a b : R α} : RQ (R.tb (some c) a b) Q X = ((c = true → RQ a Q X) ∧ (c = false → RQ b Q X)) := by
  cases c <;> simp [R.tb]
theorem RQ_guard {p : Prop} [Decidable p] {a : R α} : RQ (if p then a else .bad) Q X = (p ∧ RQ a Q X) := by
  by_cases h : p <;> simp [h, RQ_bad]
theorem RQ_calm : RQ r.calm Q X = RQ r Q (fun _ _ => False) := by
  cases r with
  | ok v s => rw [R.calm_ok, RQ_ok, RQ_ok]
  | exc x s => rw [show (R.exc x s : R α).calm = .bad from rfl, RQ_bad, RQ_exc]
  | bad => rw [show (R.bad : R α).calm = .bad from rfl, RQ_bad, RQ_bad]
end
section
variable {r : Fl} {N N' C C' : Env → Store → Prop} {T T' : Val → Store → Prop} {X X' : Exc → Env → Store → Prop} {ρ : Env} {s : Store}
theorem FQ.mono (h : FQ r N C T X) (k1 : ∀ ρ s, N ρ s → N' ρ s) (k2 : ∀ ρ s, C ρ s → C' ρ s) (k3 : ∀ ρ s, T ρ s → T' ρ s) (k4 : ∀ x ρ s, X x ρ s → X' x ρ s) : FQ r N' C' T' X' := by
  obtain ⟨h⟩ := h
  constructor
  cases r with
  | nx a s => exact k1 _ _ h
  | ct a s => exact k2 _ _ h
  | rt a s => exact k3 _ _ h
  | exc x a s => exact k4 _ _ _ h
  | bad => exact h
theorem FQ_nx : FQ (.nx ρ s) N C T X = N ρ s := by rw [FQ_iff]; rfl
theorem FQ_ct : FQ (.ct ρ s) N C T X = C ρ s := by rw [FQ_iff]; rfl
theorem FQ_rt {v : Val} : FQ (.rt v s) N C T X = T v s := by rw [FQ_iff]; rfl
theorem FQ_exc {x : Exc} : FQ (.exc x ρ s) N C T X = X x ρ s := by rw [FQ_iff]; rfl
theorem FQ_bad : FQ .bad N C T X = False := by rw [FQ_iff]; rfl
theorem FQ_sq {f : Env → Store → Fl} : FQ (r.sq f) N C T X = FQ r (fun ρ s => FQ (f ρ s) N C T X) C T X := by
  cases r with
  | nx a s => rw [Fl.sq_nx, FQ_nx]
  | ct a s => rw [Fl.sq_ct, FQ_ct, FQ_ct]
  | rt a s => rw [Fl.sq_rt, FQ_rt, FQ_rt]
  | exc x a s => rw [Fl.sq_exc, FQ_exc, FQ_exc]
  | bad => rw [Fl.sq_bad, FQ_bad, FQ_bad]
theorem FQ_fl {α : Type} {q : R α} {f : α → Store → Fl} : FQ (q.fl ρ f) N C T X = RQ q (fun v s => FQ (f v s) N C T X) (fun x s => X x ρ s) := by
  cases q with
  | ok v s => rw [R.fl_ok, RQ_ok]
  | exc x s => rw [R.fl_exc, FQ_exc, RQ_exc]
  | bad => rw [R.fl_bad, FQ_bad, RQ_bad]
theorem FQ_tb {c : Bool} {a b : Fl} : FQ (Fl.tb (some c) a b) N C T X = ((c = true → FQ a N C T X) ∧ (c = false → FQ b N C T X)) := by
  cases c <;> simp [Fl.tb]
theorem FQ_guard {p : Prop} [Decidable p] {a : Fl} : FQ (if p then a else .bad) N C T X = (p ∧ FQ a N C T X) := by
  by_cases h : p <;> simp [h, FQ_bad]
theorem FQ_lp {f : Env → Store → Fl} : FQ (r.lp f) N C T X = FQ r (fun ρ s => FQ (f ρ s) N C T X) (fun ρ s => FQ (f ρ s) N C T X) T X := by
  cases r with
  | nx a s => rw [Fl.lp_nx, FQ_nx]
  | ct a s => rw [Fl.lp_ct, FQ_ct]
  | rt a s => rw [Fl.lp_rt, FQ_rt, FQ_rt]
  | exc x a s => rw [Fl.lp_exc, FQ_exc, FQ_exc]
  | bad => rw [Fl.lp_bad, FQ_bad, FQ_bad]
theorem RQ_res {Q : Val → Store → Prop} {Y : Exc → Store → Prop} : RQ r.res Q Y = FQ r (fun _ s => Q .non s) (fun _ _ => False) Q (fun x _ s => Y x s) := by
  cases r with
  | nx a s => rw [Fl.res_nx, RQ_ok, FQ_nx]
  | ct a s => rw [show (Fl.ct a s).res = .bad from rfl, RQ_bad, FQ_ct]
  | rt a s => rw [Fl.res_rt, RQ_ok, FQ_rt]
  | exc x a s => rw [Fl.res_exc, RQ_exc, FQ_exc]
  | bad => rw [show Fl.bad.res = .bad from rfl, RQ_bad, FQ_bad]
end
/-- a def's body is gone through -/
theorem RQ_call {p : Pg} {d f : Nat} {vs : List Val} {s : Store} {F : Fn} {Q : Val → Store → Prop} {X : Exc → Store → Prop} (h : p.fns[f]? = some F) (hl : vs.length = F.np) :
    RQ (callD p (d + 1) f vs s) Q X = FQ (exec (gmD p d) F.body (startE F.nn vs) s) (fun _ s => Q .non s) (fun _ _ => False) Q (fun x _ s => X x s) := by
  rw [callD_succ p d f vs s h hl, RQ_res]
/-- nothing or an item of a row -/
theorem RQ_at {vs : List Val} {i : Int} {s : Store} {Q : Val → Store → Prop} {X : Exc → Store → Prop} (h0 : 0 ≤ i) (h1 : i < vs.length) (k : ∀ v, v ∈ vs → L2.atI vs i = some v → Q v s) : RQ (R.opt (L2.atI vs i) s) Q X := by
  obtain ⟨z, hz, e⟩ := atI_mem h0 h1
  rw [e, R.opt_some, RQ_ok]
  exact k z hz e

/-! ### walks -/
section
variable {chk : Store → Bool} {turn : Val → Env → Store → Fl} {N C : Env → Store → Prop} {T : Val → Store → Prop} {X : Exc → Env → Store → Prop}
theorem FQ_forR (I : List Val → Env → Store → Prop) (all : List Val) (hk : ∀ pre ρ s, I pre ρ s → chk s = true)
    (step : ∀ pre x post ρ s, all = pre ++ x :: post → I pre ρ s → FQ (turn x ρ s) (I (pre ++ [x])) (I (pre ++ [x])) T X) (fin : ∀ ρ s, I all ρ s → N ρ s) :
    ∀ (xs pre : List Val) (ρ : Env) (s : Store), all = pre ++ xs → I pre ρ s → FQ (forR chk turn xs ρ s) N C T X
  | [], pre, ρ, s, e, h => by
    rw [forR, if_pos (hk _ _ _ h)]
    rw [List.append_nil] at e
    exact ⟨fin _ _ (e ▸ h)⟩
  | x :: xs, pre, ρ, s, e, h => by
    rw [forR, if_pos (hk _ _ _ h), FQ_lp]
    exact (step pre x xs ρ s e h).mono (fun ρ' s' h' => FQ_forR I all hk step fin xs (pre ++ [x]) ρ' s' (by rw [e]; simp) h') (fun ρ' s' h' => FQ_forR I all hk step fin xs (pre ++ [x]) ρ' s' (by rw [e]; simp) h') (fun _ _ z => z) fun _ _ _ z => z
/-- a for over what nobody changes -/
theorem FQ_keep {l : Nat} {o : Ob} {xs : List Val} {ρ : Env} {s : Store} (I : List Val → Env → Store → Prop) (h0 : I [] ρ s) (hk : ∀ pre ρ s, I pre ρ s → sget s l = some o)
    (step : ∀ pre x post ρ s, xs = pre ++ x :: post → I pre ρ s → FQ (turn x ρ s) (I (pre ++ [x])) (I (pre ++ [x])) T X) (fin : ∀ ρ s, I xs ρ s → N ρ s) : FQ (forW (.keep l o xs) turn ρ s) N C T X :=
  FQ_forR I xs (fun pre ρ s h => stands_ok (hk pre ρ s h)) step fin xs [] ρ s rfl h0
theorem FQ_keep2 {l m : Nat} {o q : Ob} {xs : List Val} {ρ : Env} {s : Store} (I : List Val → Env → Store → Prop) (h0 : I [] ρ s) (hk : ∀ pre ρ s, I pre ρ s → sget s l = some o ∧ sget s m = some q)
    (step : ∀ pre x post ρ s, xs = pre ++ x :: post → I pre ρ s → FQ (turn x ρ s) (I (pre ++ [x])) (I (pre ++ [x])) T X) (fin : ∀ ρ s, I xs ρ s → N ρ s) : FQ (forW (.keep2 l o m q xs) turn ρ s) N C T X :=
  FQ_forR I xs (fun pre ρ s h => by
    show (stands l o s && stands m q s) = true
    rw [stands_ok (hk pre ρ s h).1, stands_ok (hk pre ρ s h).2]; rfl) step fin xs [] ρ s rfl h0
theorem FQ_free {xs : List Val} {ρ : Env} {s : Store} (I : List Val → Env → Store → Prop) (h0 : I [] ρ s)
    (step : ∀ pre x post ρ s, xs = pre ++ x :: post → I pre ρ s → FQ (turn x ρ s) (I (pre ++ [x])) (I (pre ++ [x])) T X) (fin : ∀ ρ s, I xs ρ s → N ρ s) : FQ (forW (.free xs) turn ρ s) N C T X :=
  FQ_forR I xs (fun _ _ _ _ => rfl) step fin xs [] ρ s rfl h0
/-- a while -/
theorem FQ_whl {t : Env → Store → R Val} {b : Env → Store → Fl} (I : Nat → Env → Store → Prop)
    (step : ∀ n ρ s, I n ρ s → RQ (t ρ s) (fun x s' => ∃ c, truth s' x = some c ∧ (c = true → FQ (b ρ s') (fun ρ2 s2 => ∃ m, m < n ∧ I m ρ2 s2) (fun ρ2 s2 => ∃ m, m < n ∧ I m ρ2 s2) T X) ∧ (c = false → N ρ s')) (fun x s => X x ρ s)) :
    ∀ (fuel n : Nat) (ρ : Env) (s : Store), n < fuel → I n ρ s → FQ (whlR t b fuel ρ s) N C T X
  | 0, _, _, _, h, _ => absurd h (Nat.not_lt_zero _)
  | fuel + 1, n, ρ, s, hn, h => by
    rw [whlR, FQ_fl]
    refine (step n ρ s h).mono (fun x s' hx => ?_) fun _ _ z => z
    obtain ⟨c, e, k1, k2⟩ := hx
    rw [e]
    cases c with
    | false => exact ⟨k2 rfl⟩
    | true =>
      rw [Fl.tb_true, FQ_lp]
      refine (k1 rfl).mono ?_ ?_ (fun _ _ z => z) fun _ _ _ z => z
      · rintro ρ2 s2 ⟨m, hm, h2⟩
        exact FQ_whl I step fuel m ρ2 s2 (by omega) h2
      · rintro ρ2 s2 ⟨m, hm, h2⟩
        exact FQ_whl I step fuel m ρ2 s2 (by omega) h2
end
section
variable {chk : Store → Bool} {turn : Val → Store → R (Option Val)} {X : Exc → Store → Prop}
theorem RQ_lcR {Q : List Val → Store → Prop} (I : List Val → List Val → Store → Prop) (all : List Val) (hl : all.length ≤ lim) (hk : ∀ pre acc s, I pre acc s → chk s = true)
    (step : ∀ pre x post acc s, all = pre ++ x :: post → I pre acc s → RQ (turn x s) (fun o s' => match o with
      | some v => I (pre ++ [x]) (acc ++ [v]) s'
      | none => I (pre ++ [x]) acc s') X) (fin : ∀ acc s, I all acc s → Q acc s) :
    ∀ (xs pre acc : List Val) (s : Store), all = pre ++ xs → acc.length ≤ pre.length → I pre acc s → RQ (lcR chk turn xs acc s) Q X
  | [], pre, acc, s, e, _, h => by
    rw [lcR, if_pos (hk _ _ _ h)]
    rw [List.append_nil] at e
    exact ⟨fin _ _ (e ▸ h)⟩
  | x :: xs, pre, acc, s, e, hn, h => by
    rw [lcR, if_pos (hk _ _ _ h), RQ_bind]
    refine (step pre x xs acc s e h).mono (fun o s' h' => ?_) fun _ _ z => z
    have hlt : acc.length < lim := by
      have : all.length = pre.length + (xs.length + 1) := by rw [e]; simp
      exact Nat.lt_of_lt_of_le (by omega) hl
    cases o with
    | none => exact RQ_lcR I all hl hk step fin xs (pre ++ [x]) acc s' (by rw [e]; simp) (by simp; omega) h'
    | some v =>
      show RQ (if acc.length < lim then _ else _) _ _
      rw [if_pos hlt]
      exact RQ_lcR I all hl hk step fin xs (pre ++ [x]) (acc ++ [v]) s' (by rw [e]; simp) (by simp; omega) h'
/-- a comprehension -/
theorem RQ_lc {w : Wk} {xs : List Val} {s : Store} {Q : Val → Store → Prop} {Y : Exc → Store → Prop} (I : List Val → List Val → Store → Prop) (hw : w = .free xs ∨ ∃ l o, w = .keep l o xs ∧ ∀ pre acc s, I pre acc s → sget s l = some o) (hl : xs.length ≤ lim) (h0 : I [] [] s)
    (step : ∀ pre x post acc s, xs = pre ++ x :: post → I pre acc s → RQ (turn x s) (fun o s' => match o with
      | some v => I (pre ++ [x]) (acc ++ [v]) s'
      | none => I (pre ++ [x]) acc s') NoX) (fin : ∀ acc s, I xs acc s → Q (.loc (slen s)) (snew s (.lst acc))) : RQ (lcW w turn s) Q Y := by
  rcases hw with rfl | ⟨l, o, rfl, hk⟩
  · unfold lcW
    simp only
    rw [RQ_bind, RQ_calm]
    exact RQ_lcR (X := NoX) I xs hl (fun _ _ _ _ => rfl) step (fun acc s h => ⟨fin acc s h⟩) xs [] [] s rfl (Nat.le_refl _) h0
  · unfold lcW
    simp only
    rw [RQ_bind, RQ_calm]
    exact RQ_lcR (X := NoX) I xs hl (fun pre acc s h => stands_ok (hk pre acc s h)) step (fun acc s h => ⟨fin acc s h⟩) xs [] [] s rfl (Nat.le_refl _) h0
/-- a comprehension that maps -/
theorem RQ_lcMap {w : Wk} {xs : List Val} {s : Store} {Q : Val → Store → Prop} {Y : Exc → Store → Prop} (f : Val → Val) (J : Store → Prop) (hw : w = .free xs ∨ ∃ l o, w = .keep l o xs ∧ ∀ s, J s → sget s l = some o) (hl : xs.length ≤ lim) (h0 : J s)
    (step : ∀ x ∈ xs, ∀ s, J s → RQ (turn x s) (fun o s' => o = some (f x) ∧ J s') NoX) (fin : ∀ s, J s → Q (.loc (slen s)) (snew s (.lst (xs.map f)))) : RQ (lcW w turn s) Q Y := by
  refine RQ_lc (xs := xs) (fun pre acc s => acc = pre.map f ∧ J s) ?_ hl ⟨rfl, h0⟩ ?_ ?_
  · rcases hw with h | ⟨l, o, h, k⟩
    · exact .inl h
    · exact .inr ⟨l, o, h, fun _ _ _ z => k _ z.2⟩
  · rintro pre x post acc s e ⟨rfl, hj⟩
    refine (step x (by rw [e]; simp) s hj).by ?_
    rintro o s' ⟨rfl, hj'⟩
    exact ⟨by simp, hj'⟩
  · rintro acc s ⟨rfl, hj⟩
    exact fin s hj
/-- a comprehension that maps what it keeps -/
theorem RQ_lcFil {w : Wk} {xs : List Val} {s : Store} {Q : Val → Store → Prop} {Y : Exc → Store → Prop} (p : Val → Bool) (f : Val → Val) (J : Store → Prop) (hw : w = .free xs ∨ ∃ l o, w = .keep l o xs ∧ ∀ s, J s → sget s l = some o) (hl : xs.length ≤ lim) (h0 : J s)
    (step : ∀ x ∈ xs, ∀ s, J s → RQ (turn x s) (fun o s' => o = (if p x = true then some (f x) else none) ∧ J s') NoX) (fin : ∀ s, J s → Q (.loc (slen s)) (snew s (.lst ((xs.filter p).map f)))) : RQ (lcW w turn s) Q Y := by
  refine RQ_lc (xs := xs) (fun pre acc s => acc = (pre.filter p).map f ∧ J s) ?_ hl ⟨rfl, h0⟩ ?_ ?_
  · rcases hw with h | ⟨l, o, h, k⟩
    · exact .inl h
    · exact .inr ⟨l, o, h, fun _ _ _ z => k _ z.2⟩
  · rintro pre x post acc s e ⟨rfl, hj⟩
    refine (step x (by rw [e]; simp) s hj).by ?_
    rintro o s' ⟨rfl, hj'⟩
    by_cases hp : p x = true
    · rw [if_pos hp]; exact ⟨by simp [hp], hj'⟩
    · rw [if_neg hp]; exact ⟨by simp [hp], hj'⟩
  · rintro acc s ⟨rfl, hj⟩
    exact fin s hj
/-- a comprehension of some items, each with P -/
theorem RQ_lcAny {w : Wk} {xs : List Val} {s : Store} {Q : Val → Store → Prop} {Y : Exc → Store → Prop} (P : Val → Prop) (J : Store → Prop) (hw : w = .free xs ∨ ∃ l o, w = .keep l o xs ∧ ∀ s, J s → sget s l = some o) (hl : xs.length ≤ lim) (h0 : J s)
    (step : ∀ x ∈ xs, ∀ s, J s → RQ (turn x s) (fun o s' => (∃ v, o = some v ∧ P v) ∧ J s') NoX) (fin : ∀ s ys, J s → ys.length = xs.length → (∀ y ∈ ys, P y) → Q (.loc (slen s)) (snew s (.lst ys))) : RQ (lcW w turn s) Q Y := by
  refine RQ_lc (xs := xs) (fun pre acc s => acc.length = pre.length ∧ (∀ y ∈ acc, P y) ∧ J s) ?_ hl ⟨rfl, by simp, h0⟩ ?_ ?_
  · rcases hw with h | ⟨l, o, h, k⟩
    · exact .inl h
    · exact .inr ⟨l, o, h, fun _ _ _ z => k _ z.2.2⟩
  · rintro pre x post acc s e ⟨hn, hp, hj⟩
    refine (step x (by rw [e]; simp) s hj).by ?_
    rintro o s' ⟨⟨v, rfl, hv⟩, hj'⟩
    refine ⟨by simp [hn], fun y hy => ?_, hj'⟩
    rcases List.mem_append.mp hy with z | z
    · exact hp y z
    · rw [List.mem_singleton.mp z]; exact hv
  · rintro acc s ⟨hn, hp, hj⟩
    exact fin s acc hj hn hp
end

/-! ### what stands in the store -/
structure Own (s : Store) (L : List (Nat × Ob)) : Prop where
  nd : (L.map (·.1)).Nodup
  has : ∀ p ∈ L, sget s p.1 = some p.2
namespace Own
variable {s s' : Store} {L : List (Nat × Ob)} {l m n : Nat} {o o' u t : Ob} {p q : Nat × Ob}
theorem nil : Own s [] := ⟨List.nodup_nil, fun _ h => by cases h⟩
theorem get (h : Own s ((l, o) :: L)) : sget s l = some o := h.has (l, o) List.mem_cons_self
theorem get1 (h : Own s (p :: (l, o) :: L)) : sget s l = some o := h.has (l, o) (List.mem_cons_of_mem _ List.mem_cons_self)
theorem get2 (h : Own s (p :: q :: (l, o) :: L)) : sget s l = some o := h.has (l, o) (List.mem_cons_of_mem _ (List.mem_cons_of_mem _ List.mem_cons_self))
theorem mem (h : Own s L) (k : (l, o) ∈ L) : sget s l = some o := h.has (l, o) k
theorem tail (h : Own s (p :: L)) : Own s L := ⟨(List.nodup_cons.mp h.nd).2, fun q hq => h.has q (List.mem_cons_of_mem _ hq)⟩
theorem lt (h : Own s L) (k : p ∈ L) : p.1 < slen s := lt_of_sget (h.has p k)
theorem new (h : Own s L) : Own (snew s o) ((slen s, o) :: L) := by
  refine ⟨List.nodup_cons.mpr ⟨fun hm => ?_, h.nd⟩, fun q hq => ?_⟩
  · obtain ⟨q, hq, e⟩ := List.mem_map.mp hm
    have := h.lt hq
    exact absurd (e ▸ this) (Nat.lt_irrefl _)
  · rcases List.mem_cons.mp hq with rfl | hq
    · exact sget_new
    · exact (sget_old (h.lt hq)).trans (h.has q hq)
/-- what is made is let go -/
theorem newx (h : Own s L) : Own (snew s o) L := h.new.tail
theorem ne (h : Own s ((l, o) :: L)) (k : p ∈ L) : p.1 ≠ l := fun e => (List.nodup_cons.mp h.nd).1 (List.mem_map.mpr ⟨p, k, e⟩)
theorem put (h : Own s ((l, o) :: L)) : Own (sput s l u) ((l, u) :: L) := by
  refine ⟨h.nd, fun q hq => ?_⟩
  rcases List.mem_cons.mp hq with rfl | hq
  · exact sget_same (lt_of_sget h.get)
  · rw [sget_ne (h.ne hq)]
    exact h.has q (List.mem_cons_of_mem _ hq)
theorem swap (h : Own s (p :: q :: L)) : Own s (q :: p :: L) := by
  refine ⟨?_, fun x hx => h.has x ?_⟩
  · have := h.nd
    simp only [List.map_cons, List.nodup_cons, List.mem_cons, not_or] at this ⊢
    exact ⟨⟨fun e => this.1.1 e.symm, this.2.1⟩, this.1.2, this.2.2⟩
  · simp only [List.mem_cons] at hx ⊢
    rcases hx with h | h | h
    · exact .inr (.inl h)
    · exact .inl h
    · exact .inr (.inr h)
theorem put1 (h : Own s (p :: (l, o) :: L)) : Own (sput s l u) (p :: (l, u) :: L) := h.swap.put.swap
theorem cons2 {t : Nat × Ob} {M : List (Nat × Ob)} (k : ∀ s, Own s L → Own s M) (h : Own s (t :: L)) (hm : ∀ q ∈ M, q ∈ L) : Own s (t :: M) :=
  ⟨List.nodup_cons.mpr ⟨fun z => by
    obtain ⟨q, hq, e⟩ := List.mem_map.mp z
    exact h.ne (hm q hq) e, (k s h.tail).nd⟩, fun q hq => by
    rcases List.mem_cons.mp hq with rfl | z
    · exact h.get
    · exact h.has q (List.mem_cons_of_mem _ (hm q z))⟩
theorem swap1 {t : Nat × Ob} (h : Own s (t :: p :: q :: L)) : Own s (t :: q :: p :: L) :=
  cons2 (L := p :: q :: L) (fun _ k => k.swap) h (by
    intro x hx
    simp only [List.mem_cons] at hx ⊢
    rcases hx with h | h | h
    · exact .inr (.inl h)
    · exact .inl h
    · exact .inr (.inr h))
/-- the second is let go -/
theorem drop1 (h : Own s (p :: q :: L)) : Own s (p :: L) := h.swap.tail
theorem drop2 {t : Nat × Ob} (h : Own s (p :: t :: q :: L)) : Own s (p :: t :: L) := h.swap1.drop1
theorem put2 (h : Own s (p :: q :: (l, o) :: L)) : Own (sput s l u) (p :: q :: (l, u) :: L) := h.swap1.swap.put.swap.swap1
theorem gr (h : Own s L) (g : Gr s s') : Own s' L := ⟨h.nd, fun q hq => g.get (h.has q hq)⟩
end Own
theorem Own.one {o : Ob} : Own [o] [(0, o)] := ⟨by simp, fun q hq => by rw [List.mem_singleton.mp hq]; rfl⟩

/-! ### equations -/
section
variable {s : Store} {i j : Int} {a b : PySem.Str} {vs ws : List Val} {l : Nat} {x y : Val}
theorem isNon_non {p q : R Val} : isNon .non p q = p := (rfl)
theorem range1 : Wk.rangeOf [.int j] s = if -(2 ^ 62) ≤ j ∧ j < 2 ^ 62 then .ok (.free (upTo 0 j.toNat)) s else .bad := (rfl)
theorem range2 : Wk.rangeOf [.int i, .int j] s = if -(2 ^ 62) ≤ i ∧ i < 2 ^ 62 ∧ -(2 ^ 62) ≤ j ∧ j < 2 ^ 62 then .ok (.free (upTo i (j - i).toNat)) s else .bad := (rfl)
end
theorem upTo_n : ∀ (n : Nat) (a : Int), (upTo a n).length = n
  | 0, _ => rfl
  | n + 1, a => by show (upTo (a + 1) n).length + 1 = _; rw [upTo_n n]
theorem upTo_m : ∀ {n : Nat} {a : Int} {x : Val}, x ∈ upTo a n → ∃ i : Int, x = .int i ∧ a ≤ i ∧ i < a + n
  | n + 1, a, x, h => by
    rcases List.mem_cons.mp h with rfl | h
    · exact ⟨a, rfl, by omega, by omega⟩
    · obtain ⟨i, rfl, h1, h2⟩ := upTo_m h
      exact ⟨i, rfl, by omega, by omega⟩
/-- the turn's number -/
theorem upTo_at : ∀ {n : Nat} {a : Int} {pre post : List Val} {x : Val}, upTo a n = pre ++ x :: post → x = .int (a + pre.length) ∧ pre.length < n
  | 0, a, pre, post, x, h => by cases pre <;> cases h
  | n + 1, a, [], post, x, h => by
    cases h
    exact ⟨by simp, by simp⟩
  | n + 1, a, p :: pre, post, x, h => by
    have h2 : upTo (a + 1) n = pre ++ x :: post := by
      injection h
    obtain ⟨e, hl⟩ := upTo_at h2
    refine ⟨?_, by simp; omega⟩
    rw [e]; congr 1; simp only [List.length_cons]; omega
/-! ### equations by what stands at a place -/
def ixO (o : Option Ob) (y : Val) (s : Store) : R Val := match o with
  | some (.lst vs) => (match y with
    | .int i => R.opt (L2.atI vs i) s
    | _ => .bad)
  | some (.rol vs) => (match y with
    | .int i => R.opt (L2.atI vs i) s
    | _ => .bad)
  | some (.dic t kvs) => if fitKey t y then R.opt (dget kvs y) s else .bad
  | some (.rod t kvs) => if fitKey t y then R.opt (dget kvs y) s else .bad
  | _ => .bad
def setO (o : Option Ob) (l : Nat) (i v : Val) (s : Store) : R Unit := match o with
  | some (.lst vs) => (match i with
      | .int j => (match L2.ixN vs.length j with
        | some n => .ok () (sput s l (.lst (vs.set n v)))
        | none => .bad)
      | _ => .bad)
  | some (.dic t kvs) => if fitKey t i = true ∧ kvs.length < lim then .ok () (sput s l (.dic t (dput kvs i v))) else .bad
  | _ => .bad
def lenO (o : Option Ob) (s : Store) : R Val := match o with
  | some (.lst vs) => .ok (.int vs.length) s
  | some (.rol vs) => .ok (.int vs.length) s
  | some (.dic false kvs) => .ok (.int kvs.length) s
  | some (.dic true kvs) => .ok (.int kvs.length) s
  | _ => .bad
def lstO (o : Option Ob) : Option (List Val) := match o with
  | some (.lst vs) => some vs
  | some (.rol vs) => some vs
  | _ => none
def truthO (o : Option Ob) : Option Bool := match o with
  | some (.lst vs) => some (!vs.isEmpty)
  | some (.rol vs) => some (!vs.isEmpty)
  | some (.dic false kvs) => some (!kvs.isEmpty)
  | _ => none
def addO (a b : Option Ob) (s : Store) : R Val := match lstO a, lstO b with
  | some xs, some ys => newL (xs ++ ys) s
  | _, _ => .bad
def mulO (a : Option Ob) (k : Int) (s : Store) : R Val := match a with
  | some (.lst xs) => if -(2 ^ 63) ≤ k ∧ k < 2 ^ 63 ∧ xs.length * k.toNat ≤ lim then alloc (.lst (List.replicate k.toNat xs).flatten) s else .bad
  | _ => .bad
def kindO (o : Option Ob) (m : Bm) : Option Kd := match (match o with
    | some (.lst _) => some Kd.lst
    | some (.rol _) => some Kd.lst
    | some (.dic _ _) => some Kd.dic
    | _ => none) with
  | some k => if bmServed k m = true then some k else none
  | none => none
def appO (o : Option Ob) (l : Nat) (y : Val) (s : Store) : R Val := match o with
  | some (.lst vs) => if vs.length < lim then .ok .non (sput s l (.lst (vs ++ [y]))) else .bad
  | _ => .bad
def walkO (o : Option Ob) (l : Nat) (s : Store) : R Wk := match o with
  | some (.lst vs) => .ok (.keep l (.lst vs) vs) s
  | some (.rol vs) => .ok (.keep l (.rol vs) vs) s
  | _ => .bad
def enumO (o : Option Ob) (l : Nat) (s : Store) : R Wk := match o with
  | some (.lst vs) => .ok (.keep l (.lst vs) (numbered 0 vs)) s
  | some (.rol vs) => .ok (.keep l (.rol vs) (numbered 0 vs)) s
  | _ => .bad
def getO (o : Option Ob) (k d : Val) (s : Store) : R Val := match o with
  | some (.dic t kvs) => if fitKey t k then .ok ((dget kvs k).getD d) s else .bad
  | _ => .bad
def listO (o : Option Ob) (s : Store) : R Val := match o with
  | some (.lst vs) => alloc (.lst vs) s
  | some (.rol vs) => alloc (.lst vs) s
  | some (.dic false kvs) => alloc (.lst (kvs.map (·.1))) s
  | _ => .bad
def twoO (o : Option (List (Val × Val))) (s : Store) : R Val := match o with
  | some kvs => if (kvs.all fun p => fitKey false p.1) = true then alloc (.dic false (kvs.foldl (fun acc p => dput acc p.1 p.2) [])) s else .bad
  | none => .bad
def dictO (o : Option Ob) (s : Store) : R Val := match o with
  | some (.dic false kvs) => alloc (.dic false kvs) s
  | some (.lst vs) => twoO (twos vs) s
  | _ => .bad
def idxT (o : Option (List PySem.Str)) (a : PySem.Str) (s : Store) : R Val := match o with
  | some ys => if a ∈ ys then .ok (.int (ys.idxOf a : Nat)) s else .bad
  | none => .bad
def idxO (o : Option (List Val)) (a : PySem.Str) (s : Store) : R Val := match o with
  | some vs => idxT (strsOf vs) a s
  | none => .bad
def dpopT (o : Option Val) (kvs : List (Val × Val)) (l : Nat) (k d : Val) (s : Store) : R Val := match o with
  | some y => .ok y (sput s l (.dic false (ddrop kvs k)))
  | none => .ok d s
def dpopO (o : Option Ob) (l : Nat) (k d : Val) (s : Store) : R Val := match o with
  | some (.dic false kvs) => if fitKey false k then dpopT (dget kvs k) kvs l k d s else .bad
  | _ => .bad
def slO (o : Option (List Val)) (lo hi : Option Int) (s : Store) : R Val := match o with
  | some vs => alloc (.lst (cut vs lo hi)) s
  | none => .bad
def inO (neg : Bool) (x : Val) (o : Option Ob) (s : Store) : R Val := match o with
  | some (.lst vs) => (match inL s x vs with
      | some r => .ok (.bl (neg != r)) s
      | none => .bad)
  | some (.rol vs) => (match inL s x vs with
      | some r => .ok (.bl (neg != r)) s
      | none => .bad)
  | some (.dic t kvs) => if fitKey t x then .ok (.bl (neg != (dget kvs x).isSome)) s else .bad
  | some (.rod t kvs) => if fitKey t x then .ok (.bl (neg != (dget kvs x).isSome)) s else .bad
  | _ => .bad
def inT (neg : Bool) (r : Option Bool) (s : Store) : R Val := match r with
  | some r => .ok (.bl (neg != r)) s
  | none => .bad
def popO (o : Option Ob) (l : Nat) (s : Store) : R Val := match o with
  | some (.lst vs) => (match vs[vs.length - 1]? with
        | some y => .ok y (sput s l (.lst vs.dropLast))
        | none => .bad)
  | _ => .bad
def extO (a b : Option Ob) (l : Nat) (s : Store) : R Val := match a, b with
  | some (.lst vs), some (.lst ws) => if vs.length + ws.length ≤ lim then .ok .non (sput s l (.lst (vs ++ ws))) else .bad
  | _, _ => .bad
def clrO (o : Option Ob) (l : Nat) (s : Store) : R Val := match o with
  | some (.lst _) => .ok .non (sput s l (.lst []))
  | _ => .bad
def sumO (o : Option (List Val)) (s : Store) : R Val := match o with
  | some vs => (match intsOf vs with
        | some ns => .ok (.int ns.sum) s
        | none => .bad)
  | none => .bad
def sortO (o : Option (List Val)) (l : Nat) (s : Store) : R Val := match o with
  | some vs => (match intsOf vs with
        | some ns => alloc (.lst ((sortI ns).map Val.int)) s
        | none => sorted2 l s)
  | none => sorted2 l s
def tupO (o : Option (List Val)) (s : Store) : R Val := match o with
  | some vs => .ok (.tup vs) s
  | none => .bad
def joinO (a : PySem.Str) (o : Option (List Val)) (s : Store) : R Val := match o with
  | some vs => (match strsOf vs with
        | some ys => if (ys.map (·.length)).sum + ys.length * a.length ≤ lim then .ok (.str (PySem.Txt.join a ys)) s else .bad
        | none => .bad)
  | none => .bad
def tyO (o : Option Ob) (t : Ty) (s : Store) : R Val := match o with
    | some (.lst _) => .ok (.bl (match t with
      | .list => true
      | _ => false)) s
    | some (.dic _ _) => .ok (.bl (match t with
      | .dict => true
      | _ => false)) s
    | _ => .bad
section
variable {s : Store} {i j k : Int} {a b : PySem.Str} {vs ws : List Val} {l m : Nat} {x y d : Val} {t : Bool} {kvs : List (Val × Val)} {lo hi : Option Int} {neg : Bool} {r : Bool}
theorem ix_loc : getix (.loc l) y s = ixO (sget s l) y s := (rfl)
theorem ixO_lst : ixO (some (.lst vs)) (.int i) s = R.opt (L2.atI vs i) s := (rfl)
theorem ixO_rol : ixO (some (.rol vs)) (.int i) s = R.opt (L2.atI vs i) s := (rfl)
theorem ixO_dic : ixO (some (.dic t kvs)) y s = if fitKey t y then R.opt (dget kvs y) s else .bad := (rfl)
theorem set_loc : setix (.loc l) x y s = setO (sget s l) l x y s := (rfl)
theorem setO_lst : setO (some (.lst vs)) l (.int i) x s = (match L2.ixN vs.length i with
        | some n => .ok () (sput s l (.lst (vs.set n x)))
        | none => .bad) := rfl
theorem setO_dic : setO (some (.dic t kvs)) l x y s = if fitKey t x = true ∧ kvs.length < lim then .ok () (sput s l (.dic t (dput kvs x y))) else .bad := (rfl)
theorem len_loc : bfn .len [.loc l] s = lenO (sget s l) s := (rfl)
theorem lenO_lst : lenO (some (.lst vs)) s = .ok (.int vs.length) s := (rfl)
theorem lenO_rol : lenO (some (.rol vs)) s = .ok (.int vs.length) s := (rfl)
theorem lenO_dicT : lenO (some (.dic true kvs)) s = .ok (.int kvs.length) s := (rfl)
theorem lenO_dic : lenO (some (.dic false kvs)) s = .ok (.int kvs.length) s := (rfl)
theorem len_str : bfn .len [.str a] s = if a.length ≤ lim then .ok (.int a.length) s else .bad := (rfl)
theorem lst_loc : lstOf s l = lstO (sget s l) := (rfl)
theorem lstO_lst : lstO (some (.lst vs)) = some vs := (rfl)
theorem lstO_rol : lstO (some (.rol vs)) = some vs := (rfl)
theorem truth_loc : truth s (.loc l) = truthO (sget s l) := (rfl)
theorem truthO_lst : truthO (some (.lst vs)) = some (!vs.isEmpty) := (rfl)
theorem truthO_dic : truthO (some (.dic false kvs)) = some (!kvs.isEmpty) := (rfl)
theorem add_loc : binop .Add (.loc l) (.loc m) s = addO (sget s l) (sget s m) s := (rfl)
theorem addO_rol : addO (some (.rol vs)) (some (.lst ws)) s = if (vs ++ ws).length ≤ lim then .ok (.loc (slen s)) (snew s (.lst (vs ++ ws))) else .bad := (rfl)
theorem addO_lst : addO (some (.lst vs)) (some (.lst ws)) s = if (vs ++ ws).length ≤ lim then .ok (.loc (slen s)) (snew s (.lst (vs ++ ws))) else .bad := (rfl)
theorem mul_loc : binop .Mult (.loc l) (.int k) s = mulO (sget s l) k s := (rfl)
theorem mulO_lst : mulO (some (.lst vs)) k s = if -(2 ^ 63) ≤ k ∧ k < 2 ^ 63 ∧ vs.length * k.toNat ≤ lim then alloc (.lst (List.replicate k.toNat vs).flatten) s else .bad := (rfl)
theorem kind_loc {q : Bm} : kindFor s (.loc l) q = kindO (sget s l) q := (rfl)
theorem kind_str {q : Bm} : kindFor s (.str a) q = if bmServed .str q = true then some .str else none := (rfl)
theorem kindO_append : kindO (some (.lst vs)) .append = some .lst := (rfl)
theorem kindO_pop : kindO (some (.lst vs)) .pop = some .lst := (rfl)
theorem kindO_extend : kindO (some (.lst vs)) .extend = some .lst := (rfl)
theorem kindO_clear : kindO (some (.lst vs)) .clear = some .lst := (rfl)
theorem kindO_remove : kindO (some (.lst vs)) .remove = some .lst := (rfl)
theorem kindO_get : kindO (some (.dic t kvs)) .get = some .dic := (rfl)
theorem kindO_dpop : kindO (some (.dic t kvs)) .pop = some .dic := (rfl)
theorem kindO_dclear : kindO (some (.dic t kvs)) .clear = some .dic := (rfl)
theorem kind_split : kindFor s (.str a) .split = some .str := (rfl)
theorem kind_join : kindFor s (.str a) .join = some .str := (rfl)
theorem kind_find : kindFor s (.str a) .find = some .str := (rfl)
theorem kind_count : kindFor s (.str a) .count = some .str := (rfl)
theorem kind_startswith : kindFor s (.str a) .startswith = some .str := (rfl)
theorem append_loc : bmf .lst .append (.loc l) [y] s = appO (sget s l) l y s := (rfl)
theorem appO_lst : appO (some (.lst vs)) l y s = if vs.length < lim then .ok .non (sput s l (.lst (vs ++ [y]))) else .bad := (rfl)
theorem pop_loc : bmf .lst .pop (.loc l) [] s = popO (sget s l) l s := by
  show (match sget s l with
    | some (.lst vs) => _
    | _ => R.bad) = _
  unfold popO
  rfl
theorem extend_loc : bmf .lst .extend (.loc l) [.loc m] s = extO (sget s l) (sget s m) l s := (rfl)
theorem extO_lst : extO (some (.lst vs)) (some (.lst ws)) l s = if vs.length + ws.length ≤ lim then .ok .non (sput s l (.lst (vs ++ ws))) else .bad := (rfl)
theorem clear_loc : bmf .lst .clear (.loc l) [] s = clrO (sget s l) l s := (rfl)
theorem clrO_lst : clrO (some (.lst vs)) l s = .ok .non (sput s l (.lst [])) := (rfl)
def get1O (o : Option Ob) (k : Val) (s : Store) : R Val := match o with
  | some (.dic t kvs) => if fitKey t k then .ok ((dget kvs k).getD .non) s else if t = false ∧ k = .non then .ok .non s else .bad
  | _ => .bad
theorem get1_loc : bmf .dic .get (.loc l) [y] s = get1O (sget s l) y s := (rfl)
theorem get1O_int : get1O (some (.dic false kvs)) (.int i) s = .ok ((dget kvs (.int i)).getD .non) s := (rfl)
theorem get1O_str : get1O (some (.dic false kvs)) (.str a) s = .ok ((dget kvs (.str a)).getD .non) s := (rfl)
theorem get1O_non : get1O (some (.dic false kvs)) .non s = .ok .non s := (rfl)
theorem fit_int : fitKey false (.int i) = true := (rfl)
theorem fit_str : fitKey false (.str a) = true := (rfl)
theorem all_loc : bfn .all [.loc l] s = (match lstOf s l with
      | some vs => (match blsOf vs with
        | some bs => .ok (.bl (bs.all id)) s
        | none => .bad)
      | none => .bad) := rfl
theorem get2_loc : bmf .dic .get (.loc l) [y, d] s = getO (sget s l) y d s := (rfl)
theorem getO_dic : getO (some (.dic t kvs)) y d s = if fitKey t y then .ok ((dget kvs y).getD d) s else .bad := (rfl)
theorem list_loc : bfn .list [.loc l] s = listO (sget s l) s := (rfl)
theorem list_tup : bfn .list [.tup vs] s = alloc (.lst vs) s := (rfl)
theorem listO_lst : listO (some (.lst vs)) s = alloc (.lst vs) s := (rfl)
theorem listO_dic : listO (some (.dic false kvs)) s = alloc (.lst (kvs.map (·.1))) s := (rfl)
theorem dict_loc : bfn .dict [.loc l] s = dictO (sget s l) s := (rfl)
theorem dictO_lst : dictO (some (.lst vs)) s = twoO (twos vs) s := (rfl)
theorem twoO_some : twoO (some kvs) s = if (kvs.all fun p => fitKey false p.1) = true then alloc (.dic false (kvs.foldl (fun acc p => dput acc p.1 p.2) [])) s else .bad := (rfl)
theorem kindO_index : kindO (some (.lst vs)) .index = some .lst := (rfl)
theorem index_loc : bmf .lst .index (.loc l) [.str a] s = idxO (lstOf s l) a s := (rfl)
theorem idxO_some : idxO (some vs) a s = idxT (strsOf vs) a s := (rfl)
theorem idxT_some {ys : List PySem.Str} : idxT (some ys) a s = if a ∈ ys then .ok (.int (ys.idxOf a : Nat)) s else .bad := (rfl)
theorem dpop_loc : bmf .dic .pop (.loc l) [y, d] s = dpopO (sget s l) l y d s := (rfl)
theorem dpopO_dic : dpopO (some (.dic false kvs)) l y d s = if fitKey false y then dpopT (dget kvs y) kvs l y d s else .bad := (rfl)
theorem dpopT_some : dpopT (some x) kvs l y d s = .ok x (sput s l (.dic false (ddrop kvs y))) := (rfl)
theorem dpopT_none : dpopT none kvs l y d s = .ok d s := (rfl)
theorem ixO_rod : ixO (some (.rod t kvs)) y s = if fitKey t y then R.opt (dget kvs y) s else .bad := (rfl)
theorem dictO_dic : dictO (some (.dic false kvs)) s = alloc (.dic false kvs) s := (rfl)
theorem sum_loc : bfn .sum [.loc l] s = sumO (lstOf s l) s := (rfl)
theorem sort_loc : bfn .sorted [.loc l] s = sortO (lstOf s l) l s := (rfl)
theorem sort_ints {ns : List Int} (h : sget s l = some (.lst (ns.map .int))) (hn : intsOf (ns.map Val.int) = some ns) : bfn .sorted [.loc l] s = alloc (.lst ((sortI ns).map Val.int)) s := by
  rw [sort_loc, show lstOf s l = some (ns.map Val.int) by unfold lstOf; rw [h]]
  unfold sortO
  simp only [hn]
theorem tupsOf_map : ∀ ts : List (List Val), tupsOf (ts.map .tup) = some ts
  | [] => rfl
  | t :: ts => by
    show (tupsOf (ts.map .tup)).map (t :: ·) = _
    rw [tupsOf_map ts]; rfl
theorem strsOf_map : ∀ ts : List PySem.Str, strsOf (ts.map .str) = some ts
  | [] => rfl
  | t :: ts => by
    show (strsOf (ts.map .str)).map (t :: ·) = _
    rw [strsOf_map ts]; rfl
theorem sort_tups {ts : List (List Val)} (h : sget s l = some (.lst (ts.map .tup))) (hu : unif ts = true) : bfn .sorted [.loc l] s = alloc (.lst ((sortBy lexV ts).map Val.tup)) s := by
  rw [sort_loc, show lstOf s l = some (ts.map Val.tup) by unfold lstOf; rw [h]]
  unfold sortO
  cases ts with
  | nil => rfl
  | cons t ts =>
    show sorted2 l s = _
    unfold sorted2
    rw [h]
    simp only [tupsOf_map, hu, if_true]
theorem sort_keysT {ts : List (List Val)} (h : sget s l = some (.dic true kvs)) (hk : tupsOf (kvs.map (·.1)) = some ts) (hu : unif ts = true) : bfn .sorted [.loc l] s = alloc (.lst ((sortBy lexV ts).map Val.tup)) s := by
  rw [sort_loc, show lstOf s l = none by unfold lstOf; rw [h]]
  unfold sortO sorted2
  rw [h]
  simp only [hk, hu, if_true]
theorem sort_keys {zs : List PySem.Str} (h : sget s l = some (.dic false kvs)) (hk : kvs.map (·.1) = zs.map .str) (hz : zs.length < 64) : bfn .sorted [.loc l] s = alloc (.lst ((sortBy strLt zs).map Val.str)) s := by
  rw [sort_loc, show lstOf s l = none by unfold lstOf; rw [h]]
  unfold sortO sorted2
  rw [h]
  simp only [hk, strsOf_map, if_pos hz]
theorem intsOf_ints : ∀ ns : List Int, intsOf (ns.map .int) = some ns
  | [] => rfl
  | n :: ns => by
    show (intsOf (ns.map .int)).map (n :: ·) = _
    rw [intsOf_ints ns]; rfl
theorem sort_keysI {ns : List Int} (h : sget s l = some (.dic false kvs)) (hk : kvs.map (·.1) = ns.map .int) (h0 : ns ≠ []) (hz : ns.length < 64) : bfn .sorted [.loc l] s = alloc (.lst ((sortI ns).map Val.int)) s := by
  rw [sort_loc, show lstOf s l = none by unfold lstOf; rw [h]]
  unfold sortO sorted2
  rw [h]
  have e : strsOf (ns.map Val.int) = none := by
    cases ns with
    | nil => exact absurd rfl h0
    | cons n ns => rfl
  simp only [hk, e, intsOf_ints, if_pos hz]
theorem tuple_loc : bfn .tuple [.loc l] s = tupO (lstOf s l) s := (rfl)
theorem tupO_some : tupO (some vs) s = .ok (.tup vs) s := (rfl)
theorem walk_loc : Wk.ofVal (.loc l) s = walkO (sget s l) l s := (rfl)
theorem walkO_lst : walkO (some (.lst vs)) l s = .ok (.keep l (.lst vs) vs) s := (rfl)
theorem walkO_rol : walkO (some (.rol vs)) l s = .ok (.keep l (.rol vs) vs) s := (rfl)
theorem walk_str : Wk.ofVal (.str a) s = if a.length ≤ lim then .ok (.free (a.cps.toList.map fun c => .str ⟨#[c]⟩)) s else .bad := (rfl)
def revO (o : Option Ob) (l : Nat) (s : Store) : R Wk := match o with
  | some (.lst vs) => .ok (.keep l (.lst vs) vs.reverse) s
  | some (.rol vs) => .ok (.keep l (.rol vs) vs.reverse) s
  | _ => .bad
theorem rev_loc : Wk.revOf [.loc l] s = revO (sget s l) l s := (rfl)
theorem revO_lst : revO (some (.lst vs)) l s = .ok (.keep l (.lst vs) vs.reverse) s := (rfl)
def sl3O (o : Option (List Val)) (lo hi : Option Int) (c : Int) (s : Store) : R Val := match o with
  | some vs => if c ≠ 0 then alloc (.lst (pick vs lo hi c)) s else .bad
  | none => .bad
theorem sl3_loc {c : Int} : getsl3 (.loc l) lo hi (some c) s = sl3O (lstOf s l) lo hi c s := (rfl)
theorem sl3O_some {c : Int} : sl3O (some vs) lo hi c s = if c ≠ 0 then alloc (.lst (pick vs lo hi c)) s else .bad := (rfl)
def zipO (o p : Option Ob) (l m : Nat) (s : Store) : R Wk := match o, p with
  | some (.lst a), some (.lst b) => .ok (.keep2 l (.lst a) m (.lst b) (zipped a b)) s
  | _, _ => .bad
theorem zip_loc {m : Nat} : Wk.zipOf [.loc l, .loc m] s = zipO (sget s l) (sget s m) l m s := (rfl)
theorem zipO_lst {m : Nat} {as bs : List Val} : zipO (some (.lst as)) (some (.lst bs)) l m s = .ok (.keep2 l (.lst as) m (.lst bs) (zipped as bs)) s := (rfl)
def zipLO (o : Option Ob) (l : Nat) (bs : List Val) (s : Store) : R Wk := match o with
  | some (.lst a) => .ok (.keep l (.lst a) (zipped a bs)) s
  | _ => .bad
theorem zip_lt {bs : List Val} : Wk.zipOf [.loc l, .tup bs] s = zipLO (sget s l) l bs s := (rfl)
theorem zip_lk {bs : List Val} : Wk.zipOf [.loc l, .ktp bs] s = zipLO (sget s l) l bs s := (rfl)
theorem zipLO_lst {as bs : List Val} : zipLO (some (.lst as)) l bs s = .ok (.keep l (.lst as) (zipped as bs)) s := (rfl)
theorem len_ktp : bfn .len [.ktp vs] s = .ok (.int vs.length) s := (rfl)
theorem eqb_ktp0 : eqb s (.ktp vs) (.tup []) = some vs.isEmpty := by
  show allEq (veq 39 s) vs [] = _
  cases vs <;> rfl
theorem zip_tup {as bs : List Val} : Wk.zipOf [.tup as, .tup bs] s = .ok (.free (zipped as bs)) s := (rfl)
theorem enum_str : Wk.enumOf [.str a] s = if a.length ≤ lim then .ok (.free (numbered 0 (a.cps.toList.map fun c => .str ⟨#[c]⟩))) s else .bad := (rfl)
theorem enum_loc : Wk.enumOf [.loc l] s = enumO (sget s l) l s := (rfl)
theorem enumO_lst : enumO (some (.lst vs)) l s = .ok (.keep l (.lst vs) (numbered 0 vs)) s := (rfl)
theorem sl_loc : getslO (.loc l) lo hi s = slO (lstOf s l) lo hi s := (rfl)
theorem slO_some : slO (some vs) lo hi s = .ok (.loc (slen s)) (snew s (.lst (cut vs lo hi))) := (rfl)
theorem dic_nil : dicOfL t [] s = .ok (.loc (slen s)) (snew s (.dic t [])) := (rfl)
theorem sl_tup : getslO (.tup vs) lo hi s = .ok (.tup (cut vs lo hi)) s := (rfl)
theorem sl_str : getslO (.str a) lo hi s = if a.length ≤ lim then .ok (.str (L2.cutS a lo hi)) s else .bad := (rfl)
theorem join_loc : bmf .str .join (.str a) [.loc l] s = joinO a (lstOf s l) s := (rfl)
theorem join_tup : bmf .str .join (.str a) [.tup vs] s = joinO a (some vs) s := (rfl)
theorem find_str {i : Int} : bmf .str .find (.str a) [.str b, .int i] s = .ok (.int (PySem.Txt.find3 a b i)) s := (rfl)
theorem count_str : bmf .str .count (.str a) [.str b] s = .ok (.int (PySem.Txt.count a b)) s := (rfl)
theorem split_str : bmf .str .split (.str a) [.str b] s = if (b.length == 0) = false ∧ a.length + 2 ≤ lim then alloc (.lst ((PySem.Txt.split a b).map Val.str)) s else .bad := (rfl)
theorem in_loc : inop neg x (.loc l) s = inO neg x (sget s l) s := (rfl)
theorem inO_lst : inO neg x (some (.lst vs)) s = inT neg (inL s x vs) s := (rfl)
theorem inO_rol : inO neg x (some (.rol vs)) s = inT neg (inL s x vs) s := (rfl)
theorem inO_dic : inO neg x (some (.dic t kvs)) s = if fitKey t x then .ok (.bl (neg != (dget kvs x).isSome)) s else .bad := (rfl)
theorem in_tup : inop neg x (.tup vs) s = inT neg (inL s x vs) s := (rfl)
theorem inT_some : inT neg (some r) s = .ok (.bl (neg != r)) s := (rfl)
theorem cmp_in : cmpop .In x y s = inop false x y s := (rfl)
theorem cmp_notin : cmpop .NotIn x y s = inop true x y s := (rfl)
theorem mod_i : binop .Mod (.int i) (.int j) s = if 0 < j then .ok (.int (i % j)) s else .bad := (rfl)
theorem div_i : binop .FloorDiv (.int i) (.int j) s = if 0 < j ∧ j < 10 ^ 60 then .ok (.int (i / j)) s else .bad := (rfl)
theorem mul_i : binop .Mult (.int i) (.int j) s = if (-(2 ^ 64) < i ∧ i < 2 ^ 64) ∨ (-(2 ^ 64) < j ∧ j < 2 ^ 64) then .ok (.int (i * j)) s else .bad := (rfl)
theorem pow_i : binop .Pow (.int i) (.int j) s = if 0 ≤ j ∧ j ≤ 1000000 ∧ i.natAbs < 2 ^ 64 then .ok (.int (i ^ j.toNat)) s else .bad := (rfl)
theorem add_s : binop .Add (.str a) (.str b) s = if a.length + b.length ≤ lim then .ok (.str (a ++ b)) s else .bad := (rfl)
theorem add_t : binop .Add (.tup vs) (.tup ws) s = if vs.length + ws.length ≤ lim then .ok (.tup (vs ++ ws)) s else .bad := (rfl)
theorem newL_i : newL vs s = if vs.length ≤ lim then alloc (.lst vs) s else .bad := (rfl)
theorem ix_s : getix (.str a) (.int i) s = if a.length ≤ lim then (match L2.atI a.cps.toList i with
      | some c => .ok (.str ⟨#[c]⟩) s
      | none => .bad) else .bad := rfl
theorem str_i : bfn .str [.int i] s = if i.natAbs.log2 < 1920 then .ok (.str (toString i)) s else .bad := (rfl)
theorem str_s : bfn .str [.str a] s = .ok (.str a) s := (rfl)
theorem str_n : bfn .str [.non] s = .ok (.str "None") s := (rfl)
theorem isi_loc {q : Ty} : isi (.loc l) [q] s = tyO (sget s l) q s := by
  show (match tyIs q (.loc l) s with
    | some b => R.ok (Val.bl b) s
    | none => R.bad) = _
  unfold tyIs tyO
  simp only
  generalize sget s l = o
  cases o with
  | none => rfl
  | some o => cases o <;> rfl
theorem tyO_lst_tuple : tyO (some (.lst vs)) .tuple s = .ok (.bl false) s := (rfl)
theorem tyO_lst_list : tyO (some (.lst vs)) .list s = .ok (.bl true) s := (rfl)
theorem tyO_lst_int : tyO (some (.lst vs)) .int s = .ok (.bl false) s := (rfl)
theorem tyO_lst_str : tyO (some (.lst vs)) .str s = .ok (.bl false) s := (rfl)
theorem tyO_lst_bool : tyO (some (.lst vs)) .bool s = .ok (.bl false) s := (rfl)
theorem tyO_lst_dict : tyO (some (.lst vs)) .dict s = .ok (.bl false) s := (rfl)
theorem tyO_dic {q : Ty} : tyO (some (.dic t kvs)) q s = .ok (.bl (match q with
      | .dict => true
      | _ => false)) s := rfl
theorem isi_non {q : Ty} : isi .non [q] s = .ok (.bl false) s := (rfl)
theorem isi_bl_int : isi (.bl t) [.int] s = .ok (.bl true) s := (rfl)
theorem isi_bl_bool : isi (.bl t) [.bool] s = .ok (.bl true) s := (rfl)
theorem isi_bl_str : isi (.bl t) [.str] s = .ok (.bl false) s := (rfl)
theorem isi_bl_tuple : isi (.bl t) [.tuple] s = .ok (.bl false) s := (rfl)
theorem isi_i_str : isi (.int i) [.str] s = .ok (.bl false) s := (rfl)
theorem isi_i_tuple : isi (.int i) [.tuple] s = .ok (.bl false) s := (rfl)
theorem isi_i_list : isi (.int i) [.list] s = .ok (.bl false) s := (rfl)
theorem isi_i_dict : isi (.int i) [.dict] s = .ok (.bl false) s := (rfl)
theorem isi_s_int : isi (.str a) [.int] s = .ok (.bl false) s := (rfl)
theorem isi_s_bool : isi (.str a) [.bool] s = .ok (.bl false) s := (rfl)
theorem isi_s_tuple : isi (.str a) [.tuple] s = .ok (.bl false) s := (rfl)
theorem isi_t_int : isi (.tup vs) [.int] s = .ok (.bl false) s := (rfl)
theorem isi_t_bool : isi (.tup vs) [.bool] s = .ok (.bl false) s := (rfl)
theorem isi_t_str : isi (.tup vs) [.str] s = .ok (.bl false) s := (rfl)
theorem isi_t_tuple : isi (.tup vs) [.tuple] s = .ok (.bl true) s := (rfl)
theorem aug_i : augop .Add (.int i) (.int j) s = .ok (.int (i + j)) s := (rfl)
theorem aug_sub : augop .Sub (.int i) (.int j) s = .ok (.int (i - j)) s := (rfl)
theorem aug_s : augop .Add (.str a) (.str b) s = if a.length + b.length ≤ lim then .ok (.str (a ++ b)) s else .bad := (rfl)
def eqT (neg : Bool) (r : Option Bool) (s : Store) : R Val := match r with
  | some r => .ok (.bl (neg != r)) s
  | none => .bad
theorem cmp_eqT : cmpop .Eq x y s = eqT false (eqb s x y) s := by
  unfold cmpop eqT
  simp only
  cases eqb s x y with
  | none => rfl
  | some r => cases r <;> rfl
def neT (r : Option Bool) (x y : Val) (s : Store) : R Val := match r with
  | some r => .ok (.bl (!r)) s
  | none => if sameD s x y = true then .ok (.bl false) s else neD s x y
theorem cmp_neT : cmpop .NotEq x y s = neT (eqb s x y) x y s := (rfl)
theorem neT_some {p : Bool} : neT (some p) x y s = .ok (.bl (!p)) s := (rfl)
theorem neT_same (h : sameD s x y = true) : neT none x y s = .ok (.bl false) s := if_pos h
theorem eqT_t {p : Bool} : eqT false (some p) s = .ok (.bl p) s := by cases p <;> rfl
theorem eqT_f {p : Bool} : eqT true (some p) s = .ok (.bl (!p)) s := by cases p <;> rfl
/-- of a tuple and a tuple -/
theorem cmp_eq_tup : cmpop .Eq (.tup vs) (.tup ws) s = eqT false (eqb s (.tup vs) (.tup ws)) s := cmp_eqT
theorem cmp_ne_tup : cmpop .NotEq (.tup vs) (.tup ws) s = neT (eqb s (.tup vs) (.tup ws)) (.tup vs) (.tup ws) s := cmp_neT
theorem cmp_eq_loc : cmpop .Eq (.loc l) y s = eqT false (eqb s (.loc l) y) s := cmp_eqT
theorem cmp_ne_loc : cmpop .NotEq (.loc l) y s = neT (eqb s (.loc l) y) (.loc l) y s := cmp_neT
end
/-- two lists with these items -/
theorem eqb_lst {s : Store} {a b : Nat} {xs ys : List Val} (h1 : lstOf s a = some xs) (h2 : lstOf s b = some ys) : eqb s (.loc a) (.loc b) = if xs.length = ys.length then allEq (veq 39 s) xs ys else some false := by
  show (match lstOf s a, lstOf s b with
    | some xs, some ys => if xs.length = ys.length then allEq (veq 39 s) xs ys else some false
    | _, _ => none) = _
  rw [h1, h2]
theorem atI_nat {α : Type} {vs : List α} {x : α} (k : Nat) (h : vs[k]? = some x) : L2.atI vs (k : Int) = some x := by
  have hl : k < vs.length := (List.getElem?_eq_some_iff.mp h).1
  unfold L2.atI L2.ixN
  rw [if_pos (by omega), if_pos (by omega)]
  simpa using h
/-! ### written numbers -/
theorem cast_0 : ((0 : Nat) : Int) = 0 := rfl
theorem cast_1 : ((1 : Nat) : Int) = 1 := rfl
theorem cast_2 : ((2 : Nat) : Int) = 2 := rfl
theorem cast_3 : ((3 : Nat) : Int) = 3 := rfl
theorem cast_4 : ((4 : Nat) : Int) = 4 := rfl
theorem cast_5 : ((5 : Nat) : Int) = 5 := rfl
theorem cast_6 : ((6 : Nat) : Int) = 6 := rfl
theorem cast_7 : ((7 : Nat) : Int) = 7 := rfl
theorem cast_8 : ((8 : Nat) : Int) = 8 := rfl
theorem cast_9 : ((9 : Nat) : Int) = 9 := rfl
theorem cast_10 : ((10 : Nat) : Int) = 10 := rfl
theorem cast_11 : ((11 : Nat) : Int) = 11 := rfl
theorem cast_12 : ((12 : Nat) : Int) = 12 := rfl
theorem cast_13 : ((13 : Nat) : Int) = 13 := rfl
theorem cast_14 : ((14 : Nat) : Int) = 14 := rfl
theorem cast_15 : ((15 : Nat) : Int) = 15 := rfl
theorem cast_16 : ((16 : Nat) : Int) = 16 := rfl
theorem cast_17 : ((17 : Nat) : Int) = 17 := rfl
theorem cast_18 : ((18 : Nat) : Int) = 18 := rfl
theorem cast_19 : ((19 : Nat) : Int) = 19 := rfl
theorem cast_20 : ((20 : Nat) : Int) = 20 := rfl
theorem cast_21 : ((21 : Nat) : Int) = 21 := rfl
theorem cast_22 : ((22 : Nat) : Int) = 22 := rfl
theorem cast_23 : ((23 : Nat) : Int) = 23 := rfl
theorem cast_24 : ((24 : Nat) : Int) = 24 := rfl
theorem cast_25 : ((25 : Nat) : Int) = 25 := rfl
theorem cast_26 : ((26 : Nat) : Int) = 26 := rfl
theorem cast_27 : ((27 : Nat) : Int) = 27 := rfl
theorem cast_28 : ((28 : Nat) : Int) = 28 := rfl
theorem cast_29 : ((29 : Nat) : Int) = 29 := rfl
theorem cast_30 : ((30 : Nat) : Int) = 30 := rfl
theorem cast_31 : ((31 : Nat) : Int) = 31 := rfl
theorem cast_32 : ((32 : Nat) : Int) = 32 := rfl
/-! ### items by written numbers -/
section
variable {α : Type} {a b c d e f g h : α} {r : List α}
theorem at_0 : L2.atI (a :: r) 0 = some a := atI_nat 0 (by simp)
theorem at_1 : L2.atI (a :: b :: r) 1 = some b := atI_nat 1 (by simp)
theorem at_2 : L2.atI (a :: b :: c :: r) 2 = some c := atI_nat 2 (by simp)
theorem at_3 : L2.atI (a :: b :: c :: d :: r) 3 = some d := atI_nat 3 (by simp)
theorem at_4 : L2.atI (a :: b :: c :: d :: e :: r) 4 = some e := atI_nat 4 (by simp)
theorem at_5 : L2.atI (a :: b :: c :: d :: e :: f :: r) 5 = some f := atI_nat 5 (by simp)
end
section
variable {s : Store} {l : Nat} {x y z w v : Val}
theorem set1_0 : setO (some (.lst [x])) l (.int 0) v s = .ok () (sput s l (.lst [v])) := (rfl)
theorem set2_0 : setO (some (.lst [x, y])) l (.int 0) v s = .ok () (sput s l (.lst [v, y])) := (rfl)
theorem set2_1 : setO (some (.lst [x, y])) l (.int 1) v s = .ok () (sput s l (.lst [x, v])) := (rfl)
theorem set3_0 : setO (some (.lst [x, y, z])) l (.int 0) v s = .ok () (sput s l (.lst [v, y, z])) := (rfl)
theorem set3_1 : setO (some (.lst [x, y, z])) l (.int 1) v s = .ok () (sput s l (.lst [x, v, z])) := (rfl)
theorem set3_2 : setO (some (.lst [x, y, z])) l (.int 2) v s = .ok () (sput s l (.lst [x, y, v])) := (rfl)
end
/-- == of a list and [] -/
theorem eqb_nil {s : Store} {a b : Nat} {xs : List Val} (h1 : lstOf s a = some xs) (h2 : lstOf s b = some []) : eqb s (.loc a) (.loc b) = some xs.isEmpty := by
  rw [eqb_lst h1 h2]
  cases xs with
  | nil => rfl
  | cons x xs => rfl
/-- a list is asked for == [] -/
theorem RQ_eq_nil {s : Store} {a : Nat} {xs : List Val} {Q : Val → Store → Prop} {X : Exc → Store → Prop} (h1 : sget s a = some (.lst xs)) (k : Q (.bl xs.isEmpty) (snew s (.lst []))) : RQ (cmpop .Eq (.loc a) (.loc (slen s)) (snew s (.lst []))) Q X := by
  have e := eqb_nil (s := snew s (.lst [])) (a := a) (b := slen s) (xs := xs) (by rw [lst_loc, sget_old (lt_of_sget h1), h1]; rfl) (by rw [lst_loc, sget_new]; rfl)
  unfold cmpop
  simp only [e]
  exact ⟨k⟩
theorem RQ_ne_nil {s : Store} {a : Nat} {xs : List Val} {Q : Val → Store → Prop} {X : Exc → Store → Prop} (h1 : sget s a = some (.lst xs)) (k : Q (.bl !xs.isEmpty) (snew s (.lst []))) : RQ (cmpop .NotEq (.loc a) (.loc (slen s)) (snew s (.lst []))) Q X := by
  have e := eqb_nil (s := snew s (.lst [])) (a := a) (b := slen s) (xs := xs) (by rw [lst_loc, sget_old (lt_of_sget h1), h1]; rfl) (by rw [lst_loc, sget_new]; rfl)
  unfold cmpop
  simp only [e]
  exact ⟨k⟩
theorem cut_all {vs : List Val} {n : Int} (h : (vs.length : Int) ≤ n) : cut vs none (some n) = vs := by
  unfold cut
  have e1 : HT.sIx vs.length vs.length (some n) = vs.length := by
    show (if n < 0 then (n + (vs.length : Int)).toNat else min n.toNat vs.length) = _
    rw [if_neg (by omega)]
    omega
  have e0 : HT.sIx vs.length 0 none = 0 := rfl
  rw [e1, e0, Nat.sub_zero, List.drop_zero, List.take_length]
theorem intsOf_map : ∀ ns : List Int, intsOf (ns.map .int) = some ns
  | [] => rfl
  | n :: ns => by
    show (intsOf (ns.map .int)).map (n :: ·) = _
    rw [intsOf_map ns]; rfl
theorem RQ_eq0 {s : Store} {a b : Nat} {xs : List Val} {Q : Val → Store → Prop} {X : Exc → Store → Prop} (h1 : sget s a = some (.lst xs)) (h2 : sget s b = some (.lst [])) (k : Q (.bl xs.isEmpty) s) : RQ (cmpop .Eq (.loc a) (.loc b) s) Q X := by
  rw [cmp_eqT, eqb_nil (lstOf_lst h1) (lstOf_lst h2), eqT_t]
  exact ⟨k⟩
theorem RQ_ne0 {s : Store} {a b : Nat} {xs : List Val} {Q : Val → Store → Prop} {X : Exc → Store → Prop} (h1 : sget s a = some (.lst xs)) (h2 : sget s b = some (.lst [])) (k : Q (.bl !xs.isEmpty) s) : RQ (cmpop .NotEq (.loc a) (.loc b) s) Q X := by
  rw [cmp_neT, eqb_nil (lstOf_lst h1) (lstOf_lst h2), neT_some]
  exact ⟨k⟩
theorem pick_mem {α : Type} {vs : List α} {lo hi : Option Int} {c : Int} {x : α} (h : x ∈ pick vs lo hi c) : x ∈ vs := by
  unfold pick at h
  obtain ⟨i, _, e⟩ := List.mem_filterMap.mp h
  exact List.mem_of_getElem? e
theorem map_split {α β : Type} {ys : List α} {g : α → β} {pre post : List β} {x : β} (e : ys.map g = pre ++ x :: post) : ∃ y, y ∈ ys ∧ ys[pre.length]? = some y ∧ x = g y ∧ ys.take (pre.length + 1) = ys.take pre.length ++ [y] := by
  have h1 : (ys.map g)[pre.length]? = some x := by rw [e]; simp
  rw [List.getElem?_map] at h1
  obtain ⟨y, hy, rfl⟩ := Option.map_eq_some_iff.mp h1
  refine ⟨y, List.mem_of_getElem? hy, hy, rfl, ?_⟩
  rw [List.take_add_one, hy]; rfl
/-- a comprehension that maps, over given things -/
theorem RQ_lcOn {α : Type} {turn : Val → Store → R (Option Val)} {w : Wk} {ys : List α} {s : Store} {Q : Val → Store → Prop} {Y : Exc → Store → Prop} (g f : α → Val) (J : Store → Prop) (hw : w = .free (ys.map g) ∨ ∃ l o, w = .keep l o (ys.map g) ∧ ∀ s, J s → sget s l = some o) (hl : ys.length ≤ lim) (h0 : J s)
    (step : ∀ y ∈ ys, ∀ s, J s → RQ (turn (g y) s) (fun o s' => o = some (f y) ∧ J s') NoX) (fin : ∀ s, J s → Q (.loc (slen s)) (snew s (.lst (ys.map f)))) : RQ (lcW w turn s) Q Y := by
  refine RQ_lc (xs := ys.map g) (fun pre acc s => acc = (ys.take pre.length).map f ∧ J s) ?_ (by rw [List.length_map]; exact hl) ⟨by simp, h0⟩ ?_ ?_
  · rcases hw with h | ⟨l, o, h, k⟩
    · exact .inl h
    · exact .inr ⟨l, o, h, fun _ _ _ z => k _ z.2⟩
  · rintro pre x post acc s e ⟨rfl, hj⟩
    obtain ⟨y, hy, _, rfl, ht⟩ := map_split e
    refine (step y hy s hj).by ?_
    rintro o s' ⟨rfl, hj'⟩
    refine ⟨?_, hj'⟩
    rw [List.length_append, List.length_singleton, ht, List.map_append]; rfl
  · rintro acc s ⟨rfl, hj⟩
    rw [List.length_map, List.take_length]
    exact fin s hj
theorem FQ_nxO {r : Fl} {l : Nat} {t : Bool} {kvs : List (Val × Val)} {N C : Env → Store → Prop} {T : Val → Store → Prop} {X : Exc → Env → Store → Prop} (h : FQ r (fun ρ s => N ρ (sput s l (.dic t kvs))) (fun _ _ => False) (fun _ _ => False) (fun _ _ _ => False)) : FQ (r.nxO l t kvs) N C T X := by
  have h := FQ.h h
  refine FQ.mk ?_
  cases r with
  | nx ρ s => exact h
  | _ => exact (show False from h).elim
/-- a for over a dict's keys -/
theorem FQ_frd {turn : Val → Env → Store → Fl} {l : Nat} {t : Bool} {kvs : List (Val × Val)} {ρ : Env} {s : Store} {N C : Env → Store → Prop} {T : Val → Store → Prop} {X : Exc → Env → Store → Prop} (hs : sget s l = some (.dic t kvs)) (I : Nat → Env → Store → Prop)
    (h0 : I 0 ρ (sput s l (.rod t kvs))) (hk : ∀ k ρ s, I k ρ s → sget s l = some (.rod t kvs))
    (step : ∀ k kv ρ s, kvs[k]? = some kv → I k ρ s → FQ (turn kv.1 ρ s) (I (k + 1)) (I (k + 1)) (fun _ _ => False) (fun _ _ _ => False))
    (fin : ∀ ρ s, I kvs.length ρ s → N ρ (sput s l (.dic t kvs))) : FQ (frDic (.loc l) turn ρ s) N C T X := by
  unfold frDic
  simp only [hs]
  refine FQ_nxO (FQ_forR (fun pre ρ s => I pre.length ρ s) (kvs.map (·.1)) (fun pre ρ s h => stands_ok (hk _ ρ s h)) ?_ ?_ _ [] _ _ rfl h0)
  · rintro pre x post ρ s e h
    obtain ⟨kv, hkv, hi, rfl, ht⟩ := map_split e
    refine (step _ kv ρ s hi h).mono ?_ ?_ (fun _ _ z => z) fun _ _ _ z => z
    · intro ρ' s' h; rw [List.length_append, List.length_singleton]; exact h
    · intro ρ' s' h; rw [List.length_append, List.length_singleton]; exact h
  · intro ρ s h
    rw [List.length_map] at h
    exact fin ρ s h
/-- a comprehension over a dict's keys -/
theorem RQ_lcd {turn : Val → Store → R (Option Val)} {l : Nat} {t : Bool} {kvs : List (Val × Val)} {s : Store} {Q : Val → Store → Prop} {Y : Exc → Store → Prop} (hs : sget s l = some (.dic t kvs)) (p : Val × Val → Bool) (f : Val × Val → Val) (J : Store → Prop)
    (hk : ∀ s, J s → sget s l = some (.rod t kvs)) (hl : kvs.length ≤ lim) (h0 : J (sput s l (.rod t kvs)))
    (step : ∀ kv ∈ kvs, ∀ s, J s → RQ (turn kv.1 s) (fun o s' => o = (if p kv = true then some (f kv) else none) ∧ J s') NoX)
    (fin : ∀ s, J s → Q (.loc (slen s)) (sput (snew s (.lst ((kvs.filter p).map f))) l (.dic t kvs))) : RQ (lcDic (.loc l) turn s) Q Y := by
  unfold lcDic
  simp only [hs]
  rw [RQ_bind, RQ_bind, RQ_calm]
  refine RQ_lcR (X := NoX) (fun pre acc s => acc = ((kvs.take pre.length).filter p).map f ∧ J s) (kvs.map (·.1)) (by rw [List.length_map]; exact hl) (fun pre acc s h => stands_ok (hk s h.2)) ?_ ?_ _ [] [] _ rfl (Nat.le_refl _) ⟨rfl, h0⟩
  · rintro pre x post acc s e ⟨rfl, hj⟩
    obtain ⟨kv, hkv, _, rfl, ht⟩ := map_split e
    refine (step kv hkv s hj).by ?_
    rintro o s' ⟨rfl, hj'⟩
    by_cases hp : p kv = true
    · rw [if_pos hp]
      refine ⟨?_, hj'⟩
      rw [List.length_append, List.length_singleton, ht, List.filter_append, List.map_append]
      simp [hp]
    · rw [if_neg hp]
      refine ⟨?_, hj'⟩
      rw [List.length_append, List.length_singleton, ht, List.filter_append, List.map_append]
      simp [hp]
  · rintro acc s ⟨rfl, hj⟩
    rw [List.length_map, List.take_length]
    exact ⟨⟨fin s hj⟩⟩
end Ov

/-! Walking by closures: what is behind stays folded. -/
namespace Ov
abbrev QV := Val → Store → Prop
abbrev QX := Exc → Store → Prop
abbrev QN := Env → Store → Prop
abbrev QF := Exc → Env → Store → Prop
section
variable {G : Gm} {ρ : Env} {s : Store} {Q : QV} {X : QX} {a b c e t : E} {x y z v w : Val} {o p : PySem.Operator} {xs vs : List Val} {i j f n m : Nat}
/-! ### expressions -/
def kApp {α : Type} (f : α → Store → R Val) (Q : QV) (X : QX) (x : α) (s : Store) : Prop := RQ (f x s) Q X
def kBin1 (G : Gm) (o : PySem.Operator) (b : E) (ρ : Env) (Q : QV) (X : QX) (x : Val) (s : Store) : Prop := RQ (ev G b ρ s) (fun y s => RQ (binop o x y s) Q X) X
def kBin2 (o : PySem.Operator) (x : Val) (Q : QV) (X : QX) (y : Val) (s : Store) : Prop := RQ (binop o x y s) Q X
theorem q_bin : RQ (ev G (.bin o a b) ρ s) Q X = RQ (ev G a ρ s) (kBin1 G o b ρ Q X) X := by simp only [ev, RQ_bind]; rfl
theorem q_bin1 : kBin1 G o b ρ Q X x s = RQ (ev G b ρ s) (kBin2 o x Q X) X := (rfl)
theorem q_bin2 : kBin2 o x Q X y s = RQ (binop o x y s) Q X := (rfl)
def kCmp1 (G : Gm) (o : PySem.CmpOp) (b : E) (ρ : Env) (Q : QV) (X : QX) (x : Val) (s : Store) : Prop := RQ (ev G b ρ s) (fun y s => RQ (cmpop o x y s) Q X) X
def kCmp2 (o : PySem.CmpOp) (x : Val) (Q : QV) (X : QX) (y : Val) (s : Store) : Prop := RQ (cmpop o x y s) Q X
theorem q_cmp {o : PySem.CmpOp} : RQ (ev G (.cmp o a b) ρ s) Q X = RQ (ev G a ρ s) (kCmp1 G o b ρ Q X) X := by simp only [ev, RQ_bind]; rfl
theorem q_cmp1 {o : PySem.CmpOp} : kCmp1 G o b ρ Q X x s = RQ (ev G b ρ s) (kCmp2 o x Q X) X := (rfl)
theorem q_cmp2 {o : PySem.CmpOp} : kCmp2 o x Q X y s = RQ (cmpop o x y s) Q X := (rfl)
def kChn1 (G : Gm) (o p : PySem.CmpOp) (b c : E) (ρ : Env) (Q : QV) (X : QX) (x : Val) (s : Store) : Prop :=
  RQ ((ev G b ρ s).bind fun y s => (cmpop o x y s).bind fun r s => R.tb (trueB r) ((ev G c ρ s).bind fun z s => cmpop p y z s) (.ok (.bl false) s)) Q X
def kChn2 (G : Gm) (o p : PySem.CmpOp) (c : E) (ρ : Env) (Q : QV) (X : QX) (x y : Val) (s : Store) : Prop :=
  RQ ((cmpop o x y s).bind fun r s => R.tb (trueB r) ((ev G c ρ s).bind fun z s => cmpop p y z s) (.ok (.bl false) s)) Q X
def kChn3 (G : Gm) (p : PySem.CmpOp) (c : E) (ρ : Env) (Q : QV) (X : QX) (y r : Val) (s : Store) : Prop :=
  RQ (R.tb (trueB r) ((ev G c ρ s).bind fun z s => cmpop p y z s) (.ok (.bl false) s)) Q X
theorem q_chn {o p : PySem.CmpOp} : RQ (ev G (.chn o p a b c) ρ s) Q X = RQ (ev G a ρ s) (kChn1 G o p b c ρ Q X) X := by simp only [ev, RQ_bind]; unfold kChn1; simp only [RQ_bind]
theorem q_chn1 {o p : PySem.CmpOp} : kChn1 G o p b c ρ Q X x s = RQ (ev G b ρ s) (kChn2 G o p c ρ Q X x) X := by unfold kChn1 kChn2; simp only [RQ_bind]
theorem q_chn2 {o p : PySem.CmpOp} : kChn2 G o p c ρ Q X x y s = RQ (cmpop o x y s) (kChn3 G p c ρ Q X y) X := by unfold kChn2 kChn3; simp only [RQ_bind]
theorem q_chn3 {p : PySem.CmpOp} {r : Bool} : kChn3 G p c ρ Q X y (.bl r) s = ((r = true → RQ (ev G c ρ s) (kCmp2 p y Q X) X) ∧ (r = false → Q (.bl false) s)) := by
  unfold kChn3 kCmp2
  rw [trueB_bl, RQ_tb, RQ_bind, RQ_ok]
def kNot (Q : QV) (x : Val) (s : Store) : Prop := match truth s x with
  | some b => Q (.bl (!b)) s
  | none => False
theorem q_not : RQ (ev G (.not a) ρ s) Q X = RQ (ev G a ρ s) (kNot Q) X := by
  simp only [ev, RQ_bind]
  congr 1; funext x s
  unfold kNot
  cases truth s x with
  | none => rw [R.ob_none, RQ_bad]
  | some b => rw [R.ob_some, RQ_ok]
def oNot (Q : QV) (s : Store) : Option Bool → Prop
  | some b => Q (.bl (!b)) s
  | none => False
theorem q_not1 : kNot Q x s = oNot Q s (truth s x) := by unfold kNot oNot; cases truth s x <;> rfl
theorem q_not2 {b : Bool} : oNot Q s (some b) = Q (.bl (!b)) s := (rfl)
theorem q_neg : RQ (ev G (.neg a) ρ s) Q X = RQ (ev G a ρ s) (kApp negv Q X) X := by simp only [ev, RQ_bind]; rfl
theorem q_app {α : Type} {f : α → Store → R Val} {x : α} : kApp f Q X x s = RQ (f x s) Q X := (rfl)
def oTb (P1 P2 : Prop) : Option Bool → Prop
  | some true => P1
  | some false => P2
  | none => False
theorem q_tb {c : Bool} {P1 P2 : Prop} : oTb P1 P2 (some c) = ((c = true → P1) ∧ (c = false → P2)) := by cases c <;> simp [oTb]
theorem q_tbt {P1 P2 : Prop} : oTb P1 P2 (some true) = P1 := (rfl)
theorem q_tbf {P1 P2 : Prop} : oTb P1 P2 (some false) = P2 := (rfl)
def kAnd (G : Gm) (b : E) (ρ : Env) (Q : QV) (X : QX) (x : Val) (s : Store) : Prop := oTb (RQ (ev G b ρ s) Q X) (Q x s) (truth s x)
def kOr (G : Gm) (b : E) (ρ : Env) (Q : QV) (X : QX) (x : Val) (s : Store) : Prop := oTb (Q x s) (RQ (ev G b ρ s) Q X) (truth s x)
def kIfe (G : Gm) (a b : E) (ρ : Env) (Q : QV) (X : QX) (x : Val) (s : Store) : Prop := oTb (RQ (ev G a ρ s) Q X) (RQ (ev G b ρ s) Q X) (truth s x)
theorem RQ_tbo {α : Type} {Q : α → Store → Prop} {c : Option Bool} {a b : R α} : RQ (R.tb c a b) Q X = oTb (RQ a Q X) (RQ b Q X) c := by
  cases c with
  | none => rw [R.tb_none, RQ_bad]; rfl
  | some c => cases c <;> rfl
theorem q_and : RQ (ev G (.and a b) ρ s) Q X = RQ (ev G a ρ s) (kAnd G b ρ Q X) X := by simp only [ev, RQ_bind, RQ_tbo, RQ_ok]; rfl
theorem q_and1 : kAnd G b ρ Q X x s = oTb (RQ (ev G b ρ s) Q X) (Q x s) (truth s x) := (rfl)
theorem q_or : RQ (ev G (.or a b) ρ s) Q X = RQ (ev G a ρ s) (kOr G b ρ Q X) X := by simp only [ev, RQ_bind, RQ_tbo, RQ_ok]; rfl
theorem q_or1 : kOr G b ρ Q X x s = oTb (Q x s) (RQ (ev G b ρ s) Q X) (truth s x) := (rfl)
theorem q_andb {c : Bool} : kAnd G b ρ Q X (.bl c) s = ((c = true → RQ (ev G b ρ s) Q X) ∧ (c = false → Q (.bl false) s)) := by rw [q_and1, truth_bl]; cases c <;> simp [oTb]
theorem q_andi {j : Int} : kAnd G b ρ Q X (.int j) s = oTb (RQ (ev G b ρ s) Q X) (Q (.int j) s) (truth s (.int j)) := (rfl)
theorem q_andn  : kAnd G b ρ Q X .non s = oTb (RQ (ev G b ρ s) Q X) (Q .non s) (truth s .non) := (rfl)
theorem q_ands {j : PySem.Str} : kAnd G b ρ Q X (.str j) s = oTb (RQ (ev G b ρ s) Q X) (Q (.str j) s) (truth s (.str j)) := (rfl)
theorem q_andt  : kAnd G b ρ Q X (.tup vs) s = oTb (RQ (ev G b ρ s) Q X) (Q (.tup vs) s) (truth s (.tup vs)) := (rfl)
theorem q_andl  : kAnd G b ρ Q X (.loc i) s = oTb (RQ (ev G b ρ s) Q X) (Q (.loc i) s) (truth s (.loc i)) := (rfl)
theorem q_orb {c : Bool} : kOr G b ρ Q X (.bl c) s = ((c = true → Q (.bl true) s) ∧ (c = false → RQ (ev G b ρ s) Q X)) := by rw [q_or1, truth_bl]; cases c <;> simp [oTb]
theorem q_ori {j : Int} : kOr G b ρ Q X (.int j) s = oTb (Q (.int j) s) (RQ (ev G b ρ s) Q X) (truth s (.int j)) := (rfl)
theorem q_orn  : kOr G b ρ Q X .non s = oTb (Q .non s) (RQ (ev G b ρ s) Q X) (truth s .non) := (rfl)
theorem q_ors {j : PySem.Str} : kOr G b ρ Q X (.str j) s = oTb (Q (.str j) s) (RQ (ev G b ρ s) Q X) (truth s (.str j)) := (rfl)
theorem q_ort  : kOr G b ρ Q X (.tup vs) s = oTb (Q (.tup vs) s) (RQ (ev G b ρ s) Q X) (truth s (.tup vs)) := (rfl)
theorem q_orl  : kOr G b ρ Q X (.loc i) s = oTb (Q (.loc i) s) (RQ (ev G b ρ s) Q X) (truth s (.loc i)) := (rfl)
theorem q_ife : RQ (ev G (.ife t a b) ρ s) Q X = RQ (ev G t ρ s) (kIfe G a b ρ Q X) X := by simp only [ev, RQ_bind, RQ_tbo, RQ_ok]; rfl
theorem q_ife1 : kIfe G a b ρ Q X x s = oTb (RQ (ev G a ρ s) Q X) (RQ (ev G b ρ s) Q X) (truth s x) := (rfl)
theorem q_k : RQ (ev G (.k v) ρ s) Q X = Q v s := by rw [ev, RQ_ok]
theorem q_v : RQ (ev G (.v i) ρ s) Q X = RQ (R.opt (eget ρ i) s) Q X := (rfl)
theorem q_g : RQ (ev G (.g n v) ρ s) Q X = Q v s := by rw [ev, RQ_ok]
def kGin (neg : Bool) (vs : List Val) (Q : QV) (X : QX) (x : Val) (s : Store) : Prop := RQ (inop neg x (.tup vs) s) Q X
theorem q_gin {neg : Bool} : RQ (ev G (.gin neg a n vs) ρ s) Q X = RQ (ev G a ρ s) (kGin neg vs Q X) X := by simp only [ev, RQ_bind]; rfl
theorem q_gin1 {neg : Bool} : kGin neg vs Q X x s = RQ (inop neg x (.tup vs) s) Q X := (rfl)
def kGix (vs : List Val) (Q : QV) (X : QX) (x : Val) (s : Store) : Prop := RQ (getix (.tup vs) x s) Q X
theorem q_gix : RQ (ev G (.gix n vs a) ρ s) Q X = RQ (ev G a ρ s) (kGix vs Q X) X := by simp only [ev, RQ_bind]; rfl
theorem q_gix1 : kGix vs Q X x s = RQ (getix (.tup vs) x s) Q X := (rfl)
/-! rows of expressions -/
abbrev QL := List Val → Store → Prop
def kA1 (G : Gm) (b : E) (ρ : Env) (Q : QL) (X : QX) (x : Val) (s : Store) : Prop := RQ (evs G b ρ s) (fun xs s => Q (x :: xs) s) X
def kA2 (x : Val) (Q : QL) (xs : List Val) (s : Store) : Prop := Q (x :: xs) s
theorem q_cons {Q : QL} : RQ (evs G (.cons a b) ρ s) Q X = RQ (ev G a ρ s) (kA1 G b ρ Q X) X := by simp only [evs, RQ_bind, RQ_ok]; rfl
theorem q_a1 {Q : QL} : kA1 G b ρ Q X x s = RQ (evs G b ρ s) (kA2 x Q) X := (rfl)
theorem q_a2 {Q : QL} : kA2 x Q xs s = Q (x :: xs) s := (rfl)
theorem q_nil {Q : QL} : RQ (evs G .nil ρ s) Q X = Q [] s := by rw [evs, RQ_ok]
def kTup (Q : QV) (xs : List Val) (s : Store) : Prop := xs.length ≤ lim ∧ Q (.tup xs) s
theorem q_tup {es : E} : RQ (ev G (.tup es) ρ s) Q X = RQ (evs G es ρ s) (kTup Q) X := by simp only [ev, RQ_bind, RQ_guard, RQ_ok]; rfl
theorem q_tup1 : kTup Q xs s = (xs.length ≤ lim ∧ Q (.tup xs) s) := (rfl)
def kLst (Q : QV) (xs : List Val) (s : Store) : Prop := xs.length ≤ lim ∧ Q (.loc (slen s)) (snew s (.lst xs))
theorem q_lst {es : E} : RQ (ev G (.lst es) ρ s) Q X = RQ (evs G es ρ s) (kLst Q) X := by
  simp only [ev, RQ_bind, newL_i, RQ_guard, alloc_ok, RQ_ok]; rfl
theorem q_lst1 : kLst Q xs s = (xs.length ≤ lim ∧ Q (.loc (slen s)) (snew s (.lst xs))) := (rfl)
theorem q_dic {q : Bool} {es : E} : RQ (ev G (.dic q es) ρ s) Q X = RQ (evs G es ρ s) (kApp (dicOfL q) Q X) X := by simp only [ev, RQ_bind]; rfl
theorem q_bi {b : Bi} {es : E} : RQ (ev G (.bi b es) ρ s) Q X = RQ (evs G es ρ s) (kApp (bfn b) Q X) X := by simp only [ev, RQ_bind]; rfl
theorem q_call {es : E} : RQ (ev G (.call f es) ρ s) Q X = RQ (evs G es ρ s) (kApp (G.call f) Q X) X := by simp only [ev, RQ_bind]; rfl
def kMk (G : Gm) (c : Nat) (Q : QV) (X : QX) (xs : List Val) (s : Store) : Prop := RQ (R.ob (G.init c) fun f => (G.call f (.loc (slen s) :: xs) (snew s (.ins c []))).bind fun r s' => isNon r (.ok (.loc (slen s)) s') .bad) Q X
theorem q_mk {es : E} : RQ (ev G (.mk n es) ρ s) Q X = RQ (evs G es ρ s) (kMk G n Q X) X := by simp only [ev, RQ_bind]; rfl
theorem q_mk1 (h : G.init n = some f) : kMk G n Q X xs s = RQ (G.call f (.loc (slen s) :: xs) (snew s (.ins n []))) (fun r s' => r = .non ∧ Q (.loc (slen s)) s') X := by
  unfold kMk
  rw [h, R.ob_some, RQ_bind]
  congr 1; funext r s'
  cases r <;> simp [isNon, RQ_ok, RQ_bad]
def kIx1 (G : Gm) (b : E) (ρ : Env) (Q : QV) (X : QX) (x : Val) (s : Store) : Prop := RQ (ev G b ρ s) (fun y s => RQ (getix x y s) Q X) X
def kIx2 (x : Val) (Q : QV) (X : QX) (y : Val) (s : Store) : Prop := RQ (getix x y s) Q X
theorem q_ix : RQ (ev G (.ix a b) ρ s) Q X = RQ (ev G a ρ s) (kIx1 G b ρ Q X) X := by simp only [ev, RQ_bind]; rfl
theorem q_ix1 : kIx1 G b ρ Q X x s = RQ (ev G b ρ s) (kIx2 x Q X) X := (rfl)
theorem q_ix2 : kIx2 x Q X y s = RQ (getix x y s) Q X := (rfl)
def kSl1 (G : Gm) (lo hi : E) (ρ : Env) (Q : QV) (X : QX) (x : Val) (s : Store) : Prop :=
  RQ (((if lo.isNil = true then R.ok .non s else ev G lo ρ s).bind endR).bind fun l s => ((if hi.isNil = true then R.ok .non s else ev G hi ρ s).bind endR).bind fun h s => getslO x l h s) Q X
def kSl2 (G : Gm) (hi : E) (ρ : Env) (Q : QV) (X : QX) (x : Val) (l : Option Int) (s : Store) : Prop := RQ (((if hi.isNil = true then R.ok .non s else ev G hi ρ s).bind endR).bind fun h s => getslO x l h s) Q X
def kSl3 (x : Val) (l : Option Int) (Q : QV) (X : QX) (h : Option Int) (s : Store) : Prop := RQ (getslO x l h s) Q X
def kEnd (K : Option Int → Store → Prop) (v : Val) (s : Store) : Prop := match slEnd v with
  | some o => K o s
  | none => False
theorem RQ_endR {K : Option Int → Store → Prop} {r : R Val} : RQ (r.bind endR) K X = RQ r (kEnd K) X := by
  rw [RQ_bind]
  congr 1; funext v s
  unfold endR kEnd
  cases slEnd v with
  | none => rw [R.opt_none, RQ_bad]
  | some o => rw [R.opt_some, RQ_ok]
theorem q_sl {lo hi : E} : RQ (ev G (.sl a lo hi .nil) ρ s) Q X = RQ (ev G a ρ s) (kSl1 G lo hi ρ Q X) X := by
  simp only [ev, RQ_bind]
  congr 1; funext x s
  unfold kSl1
  simp only [RQ_bind, nil_isNil, if_true]
theorem q_sl1n {hi : E} : kSl1 G .nil hi ρ Q X x s = kSl2 G hi ρ Q X x none s := by
  unfold kSl1 kSl2
  simp only [nil_isNil, if_true, R.bind_ok, endR_non]
theorem q_sl1 {lo hi : E} (h : lo.isNil = false) : kSl1 G lo hi ρ Q X x s = RQ (ev G lo ρ s) (kEnd (kSl2 G hi ρ Q X x)) X := by
  unfold kSl1
  rw [RQ_bind, h]
  simp only [Bool.false_eq_true, if_false]
  rw [RQ_endR]; rfl
theorem q_sl2n {l : Option Int} : kSl2 G .nil ρ Q X x l s = RQ (getslO x l none s) Q X := by
  unfold kSl2
  simp only [nil_isNil, if_true, R.bind_ok, endR_non]
theorem q_sl2 {hi : E} {l : Option Int} (h : hi.isNil = false) : kSl2 G hi ρ Q X x l s = RQ (ev G hi ρ s) (kEnd (kSl3 x l Q X)) X := by
  unfold kSl2
  rw [RQ_bind, h]
  simp only [Bool.false_eq_true, if_false]
  rw [RQ_endR]; rfl
theorem q_sli {lo hi : E} : kSl1 G lo hi ρ Q X x s = if lo.isNil = true then kSl2 G hi ρ Q X x none s else RQ (ev G lo ρ s) (kEnd (kSl2 G hi ρ Q X x)) X := by
  split
  · rename_i h
    cases lo <;> first | exact q_sl1n | cases h
  · rename_i h
    exact q_sl1 (by simpa using h)
theorem q_slj {hi : E} {l : Option Int} : kSl2 G hi ρ Q X x l s = if hi.isNil = true then RQ (getslO x l none s) Q X else RQ (ev G hi ρ s) (kEnd (kSl3 x l Q X)) X := by
  split
  · rename_i h
    cases hi <;> first | exact q_sl2n | cases h
  · rename_i h
    exact q_sl2 (by simpa using h)
theorem q_sl3 {l h : Option Int} : kSl3 x l Q X h s = RQ (getslO x l h s) Q X := (rfl)
theorem q_end_i {K : Option Int → Store → Prop} {i : Int} : kEnd K (.int i) s = K (some i) s := (rfl)
theorem q_end_n {K : Option Int → Store → Prop} : kEnd K .non s = K none s := (rfl)
def kS1 (G : Gm) (c : E) (ρ : Env) (Q : QV) (X : QX) (x : Val) (s : Store) : Prop := RQ ((ev G c ρ s).bind endR) (fun c s => RQ (getsl3 x none none c s) Q X) X
def kS2 (x : Val) (Q : QV) (X : QX) (c : Option Int) (s : Store) : Prop := RQ (getsl3 x none none c s) Q X
theorem q_slr : RQ (ev G (.sl a .nil .nil (.neg c)) ρ s) Q X = RQ (ev G a ρ s) (kS1 G (.neg c) ρ Q X) X := by
  show RQ ((ev G a ρ s).bind fun x s => ((R.ok Val.non s).bind endR).bind fun l s => ((R.ok Val.non s).bind endR).bind fun h s => ((ev G (.neg c) ρ s).bind endR).bind fun c s => getsl3 x l h c s) Q X = _
  rw [RQ_bind]
  congr 1; funext x s
  show RQ (((ev G (.neg c) ρ s).bind endR).bind fun c s => getsl3 x none none c s) Q X = _
  rw [RQ_bind]; rfl
theorem q_slr1 : kS1 G c ρ Q X x s = RQ (ev G c ρ s) (kEnd (kS2 x Q X)) X := by unfold kS1; rw [RQ_endR]; rfl
theorem q_slr2 {o : Option Int} : kS2 x Q X o s = RQ (getsl3 x none none o s) Q X := (rfl)
def kAtt (f : Nat) (Q : QV) (X : QX) (x : Val) (s : Store) : Prop := RQ (getat x f s) Q X
theorem q_att : RQ (ev G (.att a f) ρ s) Q X = RQ (ev G a ρ s) (kAtt f Q X) X := by simp only [ev, RQ_bind]; rfl
theorem q_att1 : kAtt f Q X x s = RQ (getat x f s) Q X := (rfl)
def kIsi (ts : List Ty) (Q : QV) (X : QX) (x : Val) (s : Store) : Prop := RQ (isi x ts s) Q X
theorem q_isi {ts : List Ty} : RQ (ev G (.isi a ts) ρ s) Q X = RQ (ev G a ρ s) (kIsi ts Q X) X := by simp only [ev, RQ_bind]; rfl
theorem q_isi1 {ts : List Ty} : kIsi ts Q X x s = RQ (isi x ts s) Q X := (rfl)
theorem q_ss : RQ (ev G (.ss a) ρ s) Q X = RQ (ev G a ρ s) (kApp ssR Q X) X := by simp only [ev, RQ_bind]; rfl
def ggO (o : Option (List Val)) (d : Val) (s : Store) : R Val := match o with
  | some vs => .ok (.ktp vs) s
  | none => .ok d s
theorem ggR_str {kvs : List (PySem.Str × List Val)} {z : PySem.Str} {d : Val} : ggR kvs [.str z, d] s = ggO (kvs.lookup z) d s := (rfl)
theorem ggO_some {d : Val} {vs : List Val} : ggO (some vs) d s = .ok (.ktp vs) s := (rfl)
theorem ggO_none {d : Val} : ggO none d s = .ok d s := (rfl)
def kGg (kvs : List (PySem.Str × List Val)) (Q : QV) (X : QX) (xs : List Val) (s : Store) : Prop := RQ (ggR kvs xs s) Q X
theorem q_gg {kvs : List (PySem.Str × List Val)} {es : E} : RQ (ev G (.gg n kvs es) ρ s) Q X = RQ (evs G es ρ s) (kGg kvs Q X) X := by simp only [ev, RQ_bind]; rfl
theorem q_gg1 {kvs : List (PySem.Str × List Val)} {xs : List Val} : kGg kvs Q X xs s = RQ (ggR kvs xs s) Q X := (rfl)
theorem q_tr : RQ (ev G (.tr a) ρ s) Q X = RQ (ev G a ρ s) (kApp trR Q X) X := by simp only [ev, RQ_bind]; rfl
theorem trR_tup {vs : List Val} : trR (.tup vs) s = .ok (.tup vs.reverse) s := (rfl)
def kBm1 (G : Gm) (m : Bm) (es : E) (ρ : Env) (Q : QV) (X : QX) (x : Val) (s : Store) : Prop := RQ (R.ob (kindFor s x m) fun k => (evs G es ρ s).bind fun xs s => bmf k m x xs s) Q X
def oBm (G : Gm) (m : Bm) (es : E) (ρ : Env) (Q : QV) (X : QX) (x : Val) (s : Store) (k : Option Kd) : Prop := RQ (R.ob k fun k => (evs G es ρ s).bind fun xs s => bmf k m x xs s) Q X
def kBm2 (k : Kd) (m : Bm) (x : Val) (Q : QV) (X : QX) (xs : List Val) (s : Store) : Prop := RQ (bmf k m x xs s) Q X
theorem q_bm {m : Bm} {es : E} : RQ (ev G (.bm m a es) ρ s) Q X = RQ (ev G a ρ s) (kBm1 G m es ρ Q X) X := by simp only [ev, RQ_bind]; rfl
theorem q_bm1 {m : Bm} {es : E} : kBm1 G m es ρ Q X x s = oBm G m es ρ Q X x s (kindFor s x m) := (rfl)
theorem q_bmo {m : Bm} {es : E} {k : Kd} : oBm G m es ρ Q X x s (some k) = RQ (evs G es ρ s) (kBm2 k m x Q X) X := by unfold oBm; rw [R.ob_some, RQ_bind]; rfl
theorem q_bm2 {k : Kd} {m : Bm} : kBm2 k m x Q X xs s = RQ (bmf k m x xs s) Q X := (rfl)
def oMe (G : Gm) (es : E) (ρ : Env) (Q : QV) (X : QX) (x : Val) (s : Store) (k : Option Nat) : Prop := RQ (R.ob k fun f => (evs G es ρ s).bind fun xs s => G.call f (x :: xs) s) Q X
def kMe1 (G : Gm) (m : Nat) (es : E) (ρ : Env) (Q : QV) (X : QX) (x : Val) (s : Store) : Prop := oMe G es ρ Q X x s (mthOf G x m s)
def kMe2 (G : Gm) (f : Nat) (x : Val) (Q : QV) (X : QX) (xs : List Val) (s : Store) : Prop := RQ (G.call f (x :: xs) s) Q X
theorem q_me {es : E} : RQ (ev G (.me m a es) ρ s) Q X = RQ (ev G a ρ s) (kMe1 G m es ρ Q X) X := by simp only [ev, RQ_bind]; rfl
theorem q_me1 {es : E} : kMe1 G m es ρ Q X x s = oMe G es ρ Q X x s (mthOf G x m s) := (rfl)
theorem q_meo {es : E} : oMe G es ρ Q X x s (some f) = RQ (evs G es ρ s) (kMe2 G f x Q X) X := by unfold oMe; rw [R.ob_some, RQ_bind]; rfl
theorem q_me2 : kMe2 G f x Q X xs s = RQ (G.call f (x :: xs) s) Q X := (rfl)
/-! comprehensions -/
def lcTurn (G : Gm) (g : Tg) (c e : E) (own : List Nat) (ρ : Env) (x : Val) (s : Store) : R (Option Val) := R.ob (tgSet g x (wipeE ρ own)) fun ρ2 =>
      if c.isNil = true then (ev G e ρ2 s).bind fun v s => R.ok (some v) s else (ev G c ρ2 s).bind fun x s => R.tb (truth s x) ((ev G e ρ2 s).bind fun v s => R.ok (some v) s) (R.ok none s)
def kLc (G : Gm) (g : Tg) (c e : E) (own : List Nat) (ρ : Env) (Q : QV) (X : QX) (w : Wk) (s : Store) : Prop := RQ (lcW w (lcTurn G g c e own ρ) s) Q X
theorem q_lc {g : Tg} {it : E} {own : List Nat} : RQ (ev G (.lc g it c e own) ρ s) Q X = RQ (evw G it ρ s) (kLc G g c e own ρ Q X) X := by
  simp only [ev, RQ_bind]; rfl
theorem q_lc1 {g : Tg} {own : List Nat} {w : Wk} : kLc G g c e own ρ Q X w s = RQ (lcW w (lcTurn G g c e own ρ) s) Q X := (rfl)
def kLcd (G : Gm) (g : Tg) (c e : E) (own : List Nat) (ρ : Env) (Q : QV) (X : QX) (v : Val) (s : Store) : Prop := RQ (lcDic v (lcTurn G g c e own ρ) s) Q X
theorem q_lcd {g : Tg} {it : E} {own : List Nat} : RQ (ev G (.lcd g it c e own) ρ s) Q X = RQ (ev G it ρ s) (kLcd G g c e own ρ Q X) X := by
  simp only [ev, RQ_bind]; rfl
theorem q_lcd1 {g : Tg} {own : List Nat} : kLcd G g c e own ρ Q X v s = RQ (lcDic v (lcTurn G g c e own ρ) s) Q X := (rfl)
abbrev QO := Option Val → Store → Prop
def kSome (Q : QO) (v : Val) (s : Store) : Prop := Q (some v) s
theorem q_some {Q : QO} : kSome Q v s = Q (some v) s := (rfl)
def kTst (G : Gm) (e : E) (ρ : Env) (Q : QO) (X : QX) (x : Val) (s : Store) : Prop := oTb (RQ (ev G e ρ s) (kSome Q) X) (Q none s) (truth s x)
theorem q_tst {Q : QO} : kTst G e ρ Q X x s = oTb (RQ (ev G e ρ s) (kSome Q) X) (Q none s) (truth s x) := (rfl)
theorem q_lct {Q : QO} {g : Tg} {own : List Nat} {ρ2 : Env} (h : tgSet g x (wipeE ρ own) = some ρ2) : RQ (lcTurn G g .nil e own ρ x s) Q X = RQ (ev G e ρ2 s) (kSome Q) X := by
  unfold lcTurn
  rw [h, R.ob_some]
  simp only [nil_isNil, if_true]
  rw [RQ_bind]
  simp only [RQ_ok]; rfl
theorem q_lctn {Q : QO} {own : List Nat} : RQ (lcTurn G (.n i) .nil e own ρ x s) Q X = RQ (ev G e (eset (wipeE ρ own) i (some x)) s) (kSome Q) X := q_lct rfl
theorem q_lcc {Q : QO} {own : List Nat} (h : c.isNil = false) : RQ (lcTurn G (.n i) c e own ρ x s) Q X = RQ (ev G c (eset (wipeE ρ own) i (some x)) s) (kTst G e (eset (wipeE ρ own) i (some x)) Q X) X := by
  unfold lcTurn
  show RQ (R.ob (some (eset (wipeE ρ own) i (some x))) _) _ _ = _
  rw [R.ob_some, h, if_neg (by decide), RQ_bind]
  congr 1; funext v s
  rw [RQ_tbo]
  unfold kTst
  simp only [RQ_bind, RQ_ok]; rfl
theorem q_lci {Q : QO} {own : List Nat} : RQ (lcTurn G (.n i) c e own ρ x s) Q X = if c.isNil = true then RQ (ev G e (eset (wipeE ρ own) i (some x)) s) (kSome Q) X else RQ (ev G c (eset (wipeE ρ own) i (some x)) s) (kTst G e (eset (wipeE ρ own) i (some x)) Q X) X := by
  split
  · rename_i h
    cases c <;> first | exact q_lctn | cases h
  · rename_i h
    exact q_lcc (by simpa using h)
/-! what is walked -/
def kOf (K : Wk → Store → Prop) (X : QX) (f : List Val → Store → R Wk) (xs : List Val) (s : Store) : Prop := RQ (f xs s) K X
def kOf1 (K : Wk → Store → Prop) (X : QX) (v : Val) (s : Store) : Prop := RQ (Wk.ofVal v s) K X
theorem q_wr {K : Wk → Store → Prop} {es : E} : RQ (evw G (.bi .range es) ρ s) K X = RQ (evs G es ρ s) (kOf K X Wk.rangeOf) X := by
  show RQ ((evs G es ρ s).bind Wk.rangeOf) _ _ = _
  rw [RQ_bind]; rfl
theorem q_we {K : Wk → Store → Prop} {es : E} : RQ (evw G (.bi .enum es) ρ s) K X = RQ (evs G es ρ s) (kOf K X Wk.enumOf) X := by
  show RQ ((evs G es ρ s).bind Wk.enumOf) _ _ = _
  rw [RQ_bind]; rfl
theorem q_wrv {K : Wk → Store → Prop} {es : E} : RQ (evw G (.bi .rev es) ρ s) K X = RQ (evs G es ρ s) (kOf K X Wk.revOf) X := by
  show RQ ((evs G es ρ s).bind Wk.revOf) _ _ = _
  rw [RQ_bind]; rfl
theorem q_wz {K : Wk → Store → Prop} {es : E} : RQ (evw G (.bi .zip es) ρ s) K X = RQ (evs G es ρ s) (kOf K X Wk.zipOf) X := by
  show RQ ((evs G es ρ s).bind Wk.zipOf) _ _ = _
  rw [RQ_bind]; rfl
theorem q_of {K : Wk → Store → Prop} {f : List Val → Store → R Wk} : kOf K X f xs s = RQ (f xs s) K X := (rfl)
theorem q_of1 {K : Wk → Store → Prop} : kOf1 K X v s = RQ (Wk.ofVal v s) K X := (rfl)
theorem q_ww {K : Wk → Store → Prop} (h : ∀ (p : R Val) (q : R (List Val)), wkOf a p q = p.bind Wk.ofVal) : RQ (evw G a ρ s) K X = RQ (ev G a ρ s) (kOf1 K X) X := by
  unfold evw
  rw [h, RQ_bind]; rfl
section
variable {K : Wk → Store → Prop}
theorem q_wv : RQ (evw G (.v i) ρ s) K X = RQ (ev G (.v i) ρ s) (kOf1 K X) X := q_ww fun _ _ => rfl
theorem q_wk : RQ (evw G (.k v) ρ s) K X = RQ (ev G (.k v) ρ s) (kOf1 K X) X := q_ww fun _ _ => rfl
theorem q_wbin : RQ (evw G (.bin o a b) ρ s) K X = RQ (ev G (.bin o a b) ρ s) (kOf1 K X) X := q_ww fun _ _ => rfl
theorem q_wlst : RQ (evw G (.lst a) ρ s) K X = RQ (ev G (.lst a) ρ s) (kOf1 K X) X := q_ww fun _ _ => rfl
theorem q_wtup : RQ (evw G (.tup a) ρ s) K X = RQ (ev G (.tup a) ρ s) (kOf1 K X) X := q_ww fun _ _ => rfl
theorem q_wix : RQ (evw G (.ix a b) ρ s) K X = RQ (ev G (.ix a b) ρ s) (kOf1 K X) X := q_ww fun _ _ => rfl
theorem q_wsl {lo hi st : E} : RQ (evw G (.sl a lo hi st) ρ s) K X = RQ (ev G (.sl a lo hi st) ρ s) (kOf1 K X) X := q_ww fun _ _ => rfl
theorem q_watt : RQ (evw G (.att a f) ρ s) K X = RQ (ev G (.att a f) ρ s) (kOf1 K X) X := q_ww fun _ _ => rfl
theorem q_wcall {es : E} : RQ (evw G (.call f es) ρ s) K X = RQ (ev G (.call f es) ρ s) (kOf1 K X) X := q_ww fun _ _ => rfl
theorem q_wme {es : E} : RQ (evw G (.me m a es) ρ s) K X = RQ (ev G (.me m a es) ρ s) (kOf1 K X) X := q_ww fun _ _ => rfl
theorem q_wbm {m : Bm} {es : E} : RQ (evw G (.bm m a es) ρ s) K X = RQ (ev G (.bm m a es) ρ s) (kOf1 K X) X := q_ww fun _ _ => rfl
theorem q_wlc {g : Tg} {it : E} {own : List Nat} : RQ (evw G (.lc g it c e own) ρ s) K X = RQ (ev G (.lc g it c e own) ρ s) (kOf1 K X) X := q_ww fun _ _ => rfl
theorem q_wlist {es : E} : RQ (evw G (.bi .list es) ρ s) K X = RQ (ev G (.bi .list es) ρ s) (kOf1 K X) X := q_ww fun _ _ => rfl
theorem q_wsort {es : E} : RQ (evw G (.bi .sorted es) ρ s) K X = RQ (ev G (.bi .sorted es) ρ s) (kOf1 K X) X := q_ww fun _ _ => rfl
end
end
/-! ### statements -/
section
variable {G : Gm} {ρ ρ2 : Env} {s : Store} {N C : QN} {T : QV} {X : QF} {a b c e t it : E} {x y z v w : Val} {o : PySem.Operator} {xs vs : List Val} {i f n : Nat} {sa sb : S} {g : Tg}
def xAt (X : QF) (ρ : Env) (x : Exc) (s : Store) : Prop := X x ρ s
theorem q_xat {x : Exc} : xAt X ρ x s = X x ρ s := (rfl)
def nxt (G : Gm) (b : S) (N C : QN) (T : QV) (X : QF) (ρ : Env) (s : Store) : Prop := FQ (exec G b ρ s) N C T X
theorem q_nxt : nxt G sb N C T X ρ s = FQ (exec G sb ρ s) N C T X := (rfl)
theorem q_sq : FQ (exec G (.sq sa sb) ρ s) N C T X = FQ (exec G sa ρ s) (nxt G sb N C T X) C T X := by
  show FQ ((exec G sa ρ s).sq (exec G sb)) N C T X = _
  rw [FQ_sq]; rfl
theorem q_skip : FQ (exec G .skip ρ s) N C T X = N ρ s := by rw [exec, FQ_nx]
theorem q_pass : FQ (exec G .pass ρ s) N C T X = N ρ s := by rw [exec, FQ_nx]
theorem q_cont : FQ (exec G .cont ρ s) N C T X = C ρ s := by rw [exec, FQ_ct]
theorem q_retN : FQ (exec G .retN ρ s) N C T X = T .non s := by rw [exec, FQ_rt]
def kNx (N : QN) (ρ : Env) (_ : Val) (s : Store) : Prop := N ρ s
theorem q_knx : kNx N ρ v s = N ρ s := (rfl)
theorem q_ex : FQ (exec G (.ex e) ρ s) N C T X = RQ (ev G e ρ s) (kNx N ρ) (xAt X ρ) := by
  show FQ ((ev G e ρ s).fl ρ fun _ s => .nx ρ s) N C T X = _
  rw [FQ_fl]
  simp only [FQ_nx]; rfl
theorem q_ret : FQ (exec G (.ret e) ρ s) N C T X = RQ (ev G e ρ s) T (xAt X ρ) := by
  show FQ ((ev G e ρ s).fl ρ fun v s => .rt v s) N C T X = _
  rw [FQ_fl]
  simp only [FQ_rt]; rfl
def kAsg (g : Tg) (ρ : Env) (N : QN) (v : Val) (s : Store) : Prop := match tgSet g v ρ with
  | some ρ' => N ρ' s
  | none => False
theorem q_asg : FQ (exec G (.asg g e) ρ s) N C T X = RQ (ev G e ρ s) (kAsg g ρ N) (xAt X ρ) := by
  show FQ ((ev G e ρ s).fl ρ fun v s => Fl.ob (tgSet g v ρ) fun ρ' => .nx ρ' s) N C T X = _
  rw [FQ_fl]
  congr 1; funext v s
  unfold kAsg
  cases tgSet g v ρ with
  | none => rw [Fl.ob_none, FQ_bad]
  | some ρ' => rw [Fl.ob_some, FQ_nx]
theorem q_asg1 : kAsg (.n i) ρ N v s = N (eset ρ i (some v)) s := (rfl)
def oEnv (N : QN) (s : Store) : Option Env → Prop
  | some ρ => N ρ s
  | none => False
theorem q_asg2 {is : List Nat} : kAsg (.t is) ρ N (.tup vs) s = oEnv N s (esets ρ is vs) := by
  unfold kAsg oEnv
  show (match esets ρ is vs with
    | some ρ' => N ρ' s
    | none => False) = _
  cases esets ρ is vs <;> rfl
theorem q_oenv : oEnv N s (some ρ) = N ρ s := (rfl)
def kSa1 (G : Gm) (a : E) (f : Nat) (ρ : Env) (N : QN) (X : QF) (v : Val) (s : Store) : Prop := RQ ((ev G a ρ s).bind fun x s => setat x f v s) (fun _ s => N ρ s) (xAt X ρ)
def kSa2 (f : Nat) (v : Val) (ρ : Env) (N : QN) (X : QF) (x : Val) (s : Store) : Prop := RQ (setat x f v s) (fun _ s => N ρ s) (xAt X ρ)
theorem q_asgA : FQ (exec G (.asgA a f e) ρ s) N C T X = RQ (ev G e ρ s) (kSa1 G a f ρ N X) (xAt X ρ) := by
  show FQ ((ev G e ρ s).fl ρ fun v s => (ev G a ρ s).fl ρ fun x s => (setat x f v s).fl ρ fun _ s => .nx ρ s) N C T X = _
  simp only [FQ_fl, FQ_nx]
  unfold kSa1
  simp only [RQ_bind]; rfl
theorem q_sa1 : kSa1 G a f ρ N X v s = RQ (ev G a ρ s) (kSa2 f v ρ N X) (xAt X ρ) := by unfold kSa1; rw [RQ_bind]; rfl
theorem q_sa2 : kSa2 f v ρ N X x s = RQ (setat x f v s) (fun _ s => N ρ s) (xAt X ρ) := (rfl)
def kSs1 (G : Gm) (a i : E) (ρ : Env) (N : QN) (X : QF) (v : Val) (s : Store) : Prop := RQ ((ev G a ρ s).bind fun x s => (ev G i ρ s).bind fun y s => setix x y v s) (fun _ s => N ρ s) (xAt X ρ)
def kSs2 (G : Gm) (i : E) (v : Val) (ρ : Env) (N : QN) (X : QF) (x : Val) (s : Store) : Prop := RQ ((ev G i ρ s).bind fun y s => setix x y v s) (fun _ s => N ρ s) (xAt X ρ)
def kSs3 (v x : Val) (ρ : Env) (N : QN) (X : QF) (y : Val) (s : Store) : Prop := RQ (setix x y v s) (fun _ s => N ρ s) (xAt X ρ)
theorem q_asgS : FQ (exec G (.asgS a b e) ρ s) N C T X = RQ (ev G e ρ s) (kSs1 G a b ρ N X) (xAt X ρ) := by
  show FQ ((ev G e ρ s).fl ρ fun v s => (ev G a ρ s).fl ρ fun x s => (ev G b ρ s).fl ρ fun y s => (setix x y v s).fl ρ fun _ s => .nx ρ s) N C T X = _
  simp only [FQ_fl, FQ_nx]
  unfold kSs1
  simp only [RQ_bind]; rfl
theorem q_ss1 : kSs1 G a b ρ N X v s = RQ (ev G a ρ s) (kSs2 G b v ρ N X) (xAt X ρ) := by unfold kSs1 kSs2; rw [RQ_bind]
theorem q_ss2 : kSs2 G b v ρ N X x s = RQ (ev G b ρ s) (kSs3 v x ρ N X) (xAt X ρ) := by unfold kSs2 kSs3; rw [RQ_bind]
theorem q_ss3 : kSs3 v x ρ N X y s = RQ (setix x y v s) (fun _ s => N ρ s) (xAt X ρ) := (rfl)
def kX7 (w x : Val) (ρ : Env) (N : QN) (X : QF) (y : Val) (s : Store) : Prop := RQ (setix x y w s) (fun _ s => N ρ s) (xAt X ρ)
def kX6 (G : Gm) (j : E) (w : Val) (ρ : Env) (N : QN) (X : QF) (x : Val) (s : Store) : Prop := RQ (ev G j ρ s) (kX7 w x ρ N X) (xAt X ρ)
def kX5 (G : Gm) (b j : E) (w : Val) (ρ : Env) (N : QN) (X : QF) (s : Store) : Prop := RQ (ev G b ρ s) (kX6 G j w ρ N X) (xAt X ρ)
def kX4 (G : Gm) (b j : E) (v w x : Val) (ρ : Env) (N : QN) (X : QF) (y : Val) (s : Store) : Prop := RQ (setix x y v s) (fun _ s => kX5 G b j w ρ N X s) (xAt X ρ)
def kX3 (G : Gm) (i b j : E) (v w : Val) (ρ : Env) (N : QN) (X : QF) (x : Val) (s : Store) : Prop := RQ (ev G i ρ s) (kX4 G b j v w x ρ N X) (xAt X ρ)
def kX2 (G : Gm) (a i b j : E) (v : Val) (ρ : Env) (N : QN) (X : QF) (w : Val) (s : Store) : Prop := RQ (ev G a ρ s) (kX3 G i b j v w ρ N X) (xAt X ρ)
def kX1 (G : Gm) (a i b j f : E) (ρ : Env) (N : QN) (X : QF) (v : Val) (s : Store) : Prop := RQ (ev G f ρ s) (kX2 G a i b j v ρ N X) (xAt X ρ)
theorem q_asgX {i j f : E} : FQ (exec G (.asgX a i b j e f) ρ s) N C T X = RQ (ev G e ρ s) (kX1 G a i b j f ρ N X) (xAt X ρ) := by
  show FQ ((ev G e ρ s).fl ρ fun v s => (ev G f ρ s).fl ρ fun w s => (ev G a ρ s).fl ρ fun x s => (ev G i ρ s).fl ρ fun y s => (setix x y v s).fl ρ fun _ s => (ev G b ρ s).fl ρ fun x s => (ev G j ρ s).fl ρ fun y s => (setix x y w s).fl ρ fun _ s => .nx ρ s) N C T X = _
  simp only [FQ_fl, FQ_nx]; rfl
theorem q_x1 {i j f : E} : kX1 G a i b j f ρ N X v s = RQ (ev G f ρ s) (kX2 G a i b j v ρ N X) (xAt X ρ) := (rfl)
theorem q_x2 {i j : E} : kX2 G a i b j v ρ N X w s = RQ (ev G a ρ s) (kX3 G i b j v w ρ N X) (xAt X ρ) := (rfl)
theorem q_x3 {i j : E} : kX3 G i b j v w ρ N X x s = RQ (ev G i ρ s) (kX4 G b j v w x ρ N X) (xAt X ρ) := (rfl)
theorem q_x4 {j : E} : kX4 G b j v w x ρ N X y s = RQ (setix x y v s) (fun _ s => kX5 G b j w ρ N X s) (xAt X ρ) := (rfl)
theorem q_x5 {j : E} : kX5 G b j w ρ N X s = RQ (ev G b ρ s) (kX6 G j w ρ N X) (xAt X ρ) := (rfl)
theorem q_x6 {j : E} : kX6 G j w ρ N X x s = RQ (ev G j ρ s) (kX7 w x ρ N X) (xAt X ρ) := (rfl)
theorem q_x7 : kX7 w x ρ N X y s = RQ (setix x y w s) (fun _ s => N ρ s) (xAt X ρ) := (rfl)
def kAug (o : PySem.Operator) (i : Nat) (x : Val) (ρ : Env) (N : QN) (X : QF) (y : Val) (s : Store) : Prop := RQ (augop o x y s) (fun z s => N (eset ρ i (some z)) s) (xAt X ρ)
def oAug (G : Gm) (i : Nat) (o : PySem.Operator) (e : E) (ρ : Env) (N : QN) (X : QF) (s : Store) : Option Val → Prop
  | some x => RQ (ev G e ρ s) (kAug o i x ρ N X) (xAt X ρ)
  | none => False
theorem q_aug : FQ (exec G (.aug i o e) ρ s) N C T X = oAug G i o e ρ N X s (eget ρ i) := by
  show FQ (Fl.ob (eget ρ i) fun x => (ev G e ρ s).fl ρ fun y s => (augop o x y s).fl ρ fun z s => .nx (eset ρ i (some z)) s) N C T X = _
  cases eget ρ i with
  | none => rw [Fl.ob_none, FQ_bad]; rfl
  | some x =>
    rw [Fl.ob_some]
    simp only [FQ_fl, FQ_nx]; rfl
theorem q_aug1 : oAug G i o e ρ N X s (some x) = RQ (ev G e ρ s) (kAug o i x ρ N X) (xAt X ρ) := (rfl)
theorem q_aug2 : kAug o i x ρ N X y s = RQ (augop o x y s) (fun z s => N (eset ρ i (some z)) s) (xAt X ρ) := (rfl)
def kIf (G : Gm) (a b : S) (ρ : Env) (N C : QN) (T : QV) (X : QF) (x : Val) (s : Store) : Prop := oTb (FQ (exec G a ρ s) N C T X) (FQ (exec G b ρ s) N C T X) (truth s x)
theorem FQ_tbo {c : Option Bool} {a b : Fl} : FQ (Fl.tb c a b) N C T X = oTb (FQ a N C T X) (FQ b N C T X) c := by
  cases c with
  | none => rw [Fl.tb_none, FQ_bad]; rfl
  | some c => cases c <;> rfl
theorem q_if : FQ (exec G (.ife t sa sb) ρ s) N C T X = RQ (ev G t ρ s) (kIf G sa sb ρ N C T X) (xAt X ρ) := by
  show FQ ((ev G t ρ s).fl ρ fun x s => Fl.tb (truth s x) (exec G sa ρ s) (exec G sb ρ s)) N C T X = _
  simp only [FQ_fl, FQ_tbo]; rfl
theorem q_if1 : kIf G sa sb ρ N C T X x s = oTb (FQ (exec G sa ρ s) N C T X) (FQ (exec G sb ρ s) N C T X) (truth s x) := (rfl)
def frT (G : Gm) (g : Tg) (b : S) (x : Val) (ρ : Env) (s : Store) : Fl := Fl.ob (tgSet g x ρ) fun ρ' => exec G b ρ' s
def kFr (G : Gm) (g : Tg) (b : S) (ρ : Env) (N C : QN) (T : QV) (X : QF) (w : Wk) (s : Store) : Prop := FQ (forW w (frT G g b) ρ s) N C T X
theorem q_fr : FQ (exec G (.fr g it sb) ρ s) N C T X = RQ (evw G it ρ s) (kFr G g sb ρ N C T X) (xAt X ρ) := by
  show FQ ((evw G it ρ s).fl ρ fun w s => forW w (fun x ρ s => Fl.ob (tgSet g x ρ) fun ρ' => exec G sb ρ' s) ρ s) N C T X = _
  rw [FQ_fl]; rfl
theorem q_fr1 {w : Wk} : kFr G g sb ρ N C T X w s = FQ (forW w (frT G g sb) ρ s) N C T X := (rfl)
theorem q_frt : FQ (frT G (.n i) sb x ρ s) N C T X = FQ (exec G sb (eset ρ i (some x)) s) N C T X := (rfl)
theorem q_frt2 {is : List Nat} (h : esets ρ is vs = some ρ2) : FQ (frT G (.t is) sb (.tup vs) ρ s) N C T X = FQ (exec G sb ρ2 s) N C T X := by
  unfold frT
  show FQ (Fl.ob (esets ρ is vs) _) N C T X = _
  rw [h, Fl.ob_some]
theorem q_frt3 {is : List Nat} : FQ (frT G (.t is) sb (.tup vs) ρ s) N C T X = oEnv (nxt G sb N C T X) s (esets ρ is vs) := by
  unfold frT
  show FQ (Fl.ob (esets ρ is vs) _) N C T X = _
  cases esets ρ is vs with
  | none => rw [Fl.ob_none, FQ_bad]; rfl
  | some ρ' => rfl
def kTn (turn : Val → Env → Store → Fl) (xs : List Val) (N C : QN) (T : QV) (X : QF) (ρ : Env) (s : Store) : Prop := FQ (forW (.free xs) turn ρ s) N C T X
theorem q_tn {turn : Val → Env → Store → Fl} : kTn turn xs N C T X ρ s = FQ (forW (.free xs) turn ρ s) N C T X := (rfl)
theorem q_f0 {turn : Val → Env → Store → Fl} : FQ (forW (.free []) turn ρ s) N C T X = N ρ s := by
  show FQ (if true = true then Fl.nx ρ s else .bad) N C T X = _
  rw [if_pos rfl, FQ_nx]
theorem q_f1 {turn : Val → Env → Store → Fl} : FQ (forW (.free (x :: xs)) turn ρ s) N C T X = FQ (turn x ρ s) (kTn turn xs N C T X) (kTn turn xs N C T X) T X := by
  show FQ (if true = true then (turn x ρ s).lp (forR (fun _ => true) turn xs) else .bad) N C T X = _
  rw [if_pos rfl, FQ_lp]; rfl
def kFrd (G : Gm) (g : Tg) (b : S) (ρ : Env) (N C : QN) (T : QV) (X : QF) (v : Val) (s : Store) : Prop := FQ (frDic v (frT G g b) ρ s) N C T X
theorem q_frd : FQ (exec G (.frd g it sb) ρ s) N C T X = RQ (ev G it ρ s) (kFrd G g sb ρ N C T X) (xAt X ρ) := by
  show FQ ((ev G it ρ s).fl ρ fun v s => frDic v (fun x ρ s => Fl.ob (tgSet g x ρ) fun ρ' => exec G sb ρ' s) ρ s) N C T X = _
  rw [FQ_fl]; rfl
theorem q_frd1 : kFrd G g sb ρ N C T X v s = FQ (frDic v (frT G g sb) ρ s) N C T X := (rfl)
theorem q_whl : FQ (exec G (.whl t sb) ρ s) N C T X = FQ (whlR (ev G t) (exec G sb) G.fuel ρ s) N C T X := (rfl)
theorem q_raise : FQ (exec G (.raise n e) ρ s) N C T X = X ⟨n, []⟩ ρ s := by rw [exec, FQ_exc]
def xTry (G : Gm) (c i : Nat) (h : S) (N C : QN) (T : QV) (X : QF) (x : Exc) (ρ : Env) (s : Store) : Prop := FQ (catchR G.sub c i h x ρ s) N C T X
theorem q_try : FQ (exec G (.try_ sa n (some i) sb) ρ s) N C T X = FQ (exec G sa ρ s) N C T (xTry G n i sb N C T X) := by
  show FQ ((exec G sa ρ s).tryR (catchR G.sub n i sb)) N C T X = _
  cases exec G sa ρ s with
  | exc x ρ s =>
    rw [FQ_exc]; rfl
  | nx ρ s => show FQ (.nx ρ s) _ _ _ _ = _; rw [FQ_nx, FQ_nx]
  | ct ρ s => show FQ (.ct ρ s) _ _ _ _ = _; rw [FQ_ct, FQ_ct]
  | rt v s => show FQ (.rt v s) _ _ _ _ = _; rw [FQ_rt, FQ_rt]
  | bad => show FQ .bad _ _ _ _ = _; rw [FQ_bad, FQ_bad]
theorem q_catch {k : Nat} {s2 : Store} (h : G.sub k n = true) (hl : i < ρ.length) (hh : exH G.sub i k sb (eset ρ i none) s = .nx ρ2 s2) : xTry G n i sb N C T X ⟨k, []⟩ ρ s = N (eset ρ2 i none) s2 := by
  unfold xTry catchR
  rw [if_pos h, if_pos ⟨rfl, hl⟩, hh]
  show FQ (.nx _ _) _ _ _ _ = _
  rw [FQ_nx]
def kRes (Q : QV) (_ : Env) (s : Store) : Prop := Q .non s
def xRes (Y : QX) (x : Exc) (_ : Env) (s : Store) : Prop := Y x s
abbrev noC : QN := fun _ _ => False
theorem q_res {Q : QV} : kRes Q ρ s = Q .non s := (rfl)
theorem q_xres {Y : QX} {x : Exc} : xRes Y x ρ s = Y x s := (rfl)
end
/-- a def's body is gone through -/
theorem q_def {p : Pg} {d f : Nat} {vs : List Val} {s : Store} {F : Fn} {Q : Val → Store → Prop} {X : Exc → Store → Prop} (h : p.fns[f]? = some F) (hl : vs.length = F.np) :
    RQ (callD p (d + 1) f vs s) Q X = FQ (exec (gmD p d) F.body (startE F.nn vs) s) (kRes Q) noC Q (xRes X) := RQ_call h hl
theorem gm_fuel {p : Pg} {c : Nat → List Val → Store → R Val} : (gmOf p c).fuel = p.fuel := rfl
/-- a while, by closures -/
theorem FQ_whlK {G : Gm} {t : E} {b : S} {N C : QN} {T : QV} {X : QF} (I : Nat → Env → Store → Prop)
    (step : ∀ n ρ s, I n ρ s → RQ (ev G t ρ s) (fun x s' => oTb (FQ (exec G b ρ s') (fun ρ2 s2 => ∃ m, m < n ∧ I m ρ2 s2) (fun ρ2 s2 => ∃ m, m < n ∧ I m ρ2 s2) T X) (N ρ s') (truth s' x)) (xAt X ρ))
    (fuel n : Nat) (ρ : Env) (s : Store) (hn : n < fuel) (h : I n ρ s) : FQ (whlR (ev G t) (exec G b) fuel ρ s) N C T X := by
  refine FQ_whl I (fun n ρ s h => (step n ρ s h).mono (fun x s' hx => ?_) fun _ _ z => z) fuel n ρ s hn h
  cases e : truth s' x with
  | none => rw [e] at hx; exact hx.elim
  | some c =>
    rw [e, q_tb] at hx
    exact ⟨c, rfl, hx⟩
end Ov

/-! Walking by closures: instances, more statements, what stands in long rows. -/
namespace Ov
section
variable {G : Gm} {ρ : Env} {s : Store} {l f m n c : Nat} {v x y : Val} {fs : List (Nat × Val)} {vs ws : List Val} {i j k : Int} {a : PySem.Str} {kvs : List (Val × Val)} {t : Bool}
def atO (o : Option Ob) (f : Nat) (s : Store) : R Val := match o with
  | some (.ins _ fs) => R.opt (fs.lookup f) s
  | _ => .bad
theorem at_loc : getat (.loc l) f s = atO (sget s l) f s := (rfl)
theorem atO_ins : atO (some (.ins c fs)) f s = R.opt (fs.lookup f) s := (rfl)
def satO (o : Option Ob) (l f : Nat) (v : Val) (s : Store) : R Unit := match o with
  | some (.ins c fs) => if fs.length < 1000 then .ok () (sput s l (.ins c (putF f v fs))) else .bad
  | _ => .bad
theorem sat_loc : setat (.loc l) f v s = satO (sget s l) l f v s := (rfl)
theorem satO_ins : satO (some (.ins c fs)) l f v s = if fs.length < 1000 then .ok () (sput s l (.ins c (putF f v fs))) else .bad := (rfl)
def mthO (G : Gm) (o : Option Ob) (m : Nat) : Option Nat := match o with
  | some (.ins c fs) => (match fs.lookup m with
      | none => G.meth c m
      | some _ => none)
  | _ => none
theorem mth_loc : mthOf G (.loc l) m s = mthO G (sget s l) m := (rfl)
def clO : Option Ob → Option Nat
  | some (.ins c _) => some c
  | _ => none
theorem cls_loc : clsAt (.loc l) s = clO (sget s l) := (rfl)
theorem clO_ins : clO (some (.ins c fs)) = some c := (rfl)
/-! kinds of values -/
theorem lt_tup : isi (.tup vs) [.list, .tuple] s = .ok (.bl true) s := (rfl)
theorem lt_int : isi (.int i) [.list, .tuple] s = .ok (.bl false) s := (rfl)
theorem lt_str : isi (.str a) [.list, .tuple] s = .ok (.bl false) s := (rfl)
theorem lt_non : isi .non [.list, .tuple] s = .ok (.bl false) s := (rfl)
theorem lt_bl : isi (.bl t) [.list, .tuple] s = .ok (.bl false) s := (rfl)
def ltO (o : Option Ob) (s : Store) : R Val := match o with
  | some (.lst _) => .ok (.bl true) s
  | some (.dic _ _) => .ok (.bl false) s
  | _ => .bad
theorem lt_loc : isi (.loc l) [.list, .tuple] s = ltO (sget s l) s := by
  show (match isiAny (.loc l) s [.list, .tuple] with
    | some b => R.ok (Val.bl b) s
    | none => .bad) = _
  unfold isiAny isiAny isiAny tyIs ltO
  simp only
  generalize sget s l = o
  cases o with
  | none => rfl
  | some o => cases o <;> rfl
theorem ltO_lst : ltO (some (.lst vs)) s = .ok (.bl true) s := (rfl)
theorem ltO_dic : ltO (some (.dic t kvs)) s = .ok (.bl false) s := (rfl)
theorem is_tup : isi (.tup vs) [.int, .str] s = .ok (.bl false) s := (rfl)
theorem is_int : isi (.int i) [.int, .str] s = .ok (.bl true) s := (rfl)
theorem is_str : isi (.str a) [.int, .str] s = .ok (.bl true) s := (rfl)
theorem is_non : isi .non [.int, .str] s = .ok (.bl false) s := (rfl)
theorem isi_t_list : isi (.tup vs) [.list] s = .ok (.bl false) s := (rfl)
theorem isi_s_list : isi (.str a) [.list] s = .ok (.bl false) s := (rfl)
theorem isi_s_str : isi (.str a) [.str] s = .ok (.bl true) s := (rfl)
theorem isi_bl_list : isi (.bl t) [.list] s = .ok (.bl false) s := (rfl)
/-! operators -/
theorem mul_t : binop .Mult (.tup vs) (.int k) s = if vs ≠ [] ∧ 0 ≤ k ∧ k ≤ 1000 ∧ vs.length ≤ 1000 then .ok (.tup (List.replicate k.toNat vs).flatten) s else .bad := (rfl)
theorem and_i : binop .BitAnd (.int i) (.int j) s = .ok (.int (PySem.Builtin.bitAnd i j)) s := (rfl)
theorem shl_i : binop .LShift (.int i) (.int j) s = if 0 ≤ j ∧ j ≤ 1000000 ∧ i.natAbs < 2 ^ 64 then .ok (.int (i * 2 ^ j.toNat)) s else .bad := (rfl)
theorem shr_i : binop .RShift (.int i) (.int j) s = if 0 ≤ j then .ok (.int (i / 2 ^ j.toNat)) s else .bad := (rfl)
theorem range3 : Wk.rangeOf [.int i, .int j, .int k] s = if k ≠ 0 ∧ k.natAbs < 1073741824 ∧ PySem.Builtin.Range.small i j k = true ∧ 0 ≤ PySem.Builtin.Range.rangeSize i j k then .ok (.free (stepTo i k (PySem.Builtin.Range.rangeSize i j k).toNat)) s else .bad := (rfl)
def glO (o : Option (List Val)) (j : Int) (s : Store) : R Val := match o with
  | some vs => R.opt (L2.atI vs j) s
  | none => .bad
theorem gl_loc : getl (.loc l) (.int j) s = glO (lstOf s l) j s := (rfl)
theorem glO_some : glO (some vs) j s = R.opt (L2.atI vs j) s := (rfl)
/-- pop(i) -/
def popiO (o : Option Ob) (l : Nat) (i : Int) (s : Store) : R Val := match o with
  | some (.lst vs) => if -(2 ^ 63) ≤ i ∧ i < 2 ^ 63 then (match L2.ixN vs.length i with
          | some n => (match vs[n]? with
            | some y => .ok y (sput s l (.lst (vs.eraseIdx n)))
            | none => .bad)
          | none => .bad) else .bad
  | _ => .bad
theorem popi_loc : bmf .lst .pop (.loc l) [.int i] s = popiO (sget s l) l i s := by
  show (match sget s l with
    | some (.lst vs) => _
    | _ => R.bad) = _
  unfold popiO
  rfl
theorem popi0 : popiO (some (.lst (v :: vs))) l 0 s = .ok v (sput s l (.lst vs)) := by
  unfold popiO
  simp only
  rw [if_pos (by decide), show L2.ixN (v :: vs).length 0 = some 0 by unfold L2.ixN; simp]
  rfl
/-- dict.pop(k) -/
def dpop1O (o : Option Ob) (l : Nat) (k : Val) (s : Store) : R Val := match o with
  | some (.dic false kvs) => if fitKey false k then (match dget kvs k with
        | some y => .ok y (sput s l (.dic false (ddrop kvs k)))
        | none => .bad) else .bad
  | _ => .bad
theorem dpop1_loc : bmf .dic .pop (.loc l) [v] s = dpop1O (sget s l) l v s := (rfl)
theorem dpop1O_dic (hk : fitKey false v = true) (hg : dget kvs v = some y) : dpop1O (some (.dic false kvs)) l v s = .ok y (sput s l (.dic false (ddrop kvs v))) := by
  unfold dpop1O
  simp only [hk, hg, if_true]
/-- list.remove of a number -/
def remO (o : Option Ob) (l : Nat) (k : Int) (s : Store) : R Val := match o with
  | some (.lst vs) => (match intsOf vs with
        | some ns => if k ∈ ns then .ok .non (sput s l (.lst ((ns.erase k).map Val.int))) else .bad
        | none => .bad)
  | _ => .bad
theorem rem_loc : bmf .lst .remove (.loc l) [.int k] s = remO (sget s l) l k s := by
  show (match sget s l with
    | some (.lst vs) => _
    | _ => R.bad) = _
  unfold remO
  rfl
theorem remO_ints {ns : List Int} (h : k ∈ ns) : remO (some (.lst (ns.map .int))) l k s = .ok .non (sput s l (.lst ((ns.erase k).map Val.int))) := by
  unfold remO
  simp only [intsOf_map, if_pos h]
end
section
variable {G : Gm} {ρ ρ2 : Env} {s : Store} {N C : QN} {T : QV} {X : QF} {a b c e t it : E} {x y z v w : Val} {o : PySem.Operator} {xs vs : List Val} {i f n m l : Nat} {sa sb : S} {g : Tg}
/-! o.f op= e -/
def kAuA4 (f : Nat) (ρ : Env) (N : QN) (X : QF) (x : Val) (s0 : Store) (z : Val) (s : Store) : Prop := clsAt x s = clsAt x s0 ∧ RQ (setat x f z s) (fun _ s => N ρ s) (xAt X ρ)
def kAuA3 (f : Nat) (o : PySem.Operator) (ρ : Env) (N : QN) (X : QF) (x : Val) (s0 : Store) (v y : Val) (s : Store) : Prop := RQ (augop o v y s) (kAuA4 f ρ N X x s0) (xAt X ρ)
def kAuA2 (G : Gm) (f : Nat) (o : PySem.Operator) (e : E) (ρ : Env) (N : QN) (X : QF) (x v : Val) (s : Store) : Prop := RQ (ev G e ρ s) (kAuA3 f o ρ N X x s v) (xAt X ρ)
def kAuA1 (G : Gm) (f : Nat) (o : PySem.Operator) (e : E) (ρ : Env) (N : QN) (X : QF) (x : Val) (s : Store) : Prop := RQ (getat x f s) (kAuA2 G f o e ρ N X x) (xAt X ρ)
theorem q_augA : FQ (exec G (.augA a f o e) ρ s) N C T X = RQ (ev G a ρ s) (kAuA1 G f o e ρ N X) (xAt X ρ) := by
  show FQ ((ev G a ρ s).fl ρ fun x s => (getat x f s).fl ρ fun v s => (ev G e ρ s).fl ρ fun y s2 => (augop o v y s2).fl ρ fun z s3 => if clsAt x s3 = clsAt x s then (setat x f z s3).fl ρ fun _ s => .nx ρ s else .bad) N C T X = _
  simp only [FQ_fl, FQ_guard, FQ_nx]
  rfl
theorem q_aua1 : kAuA1 G f o e ρ N X x s = RQ (getat x f s) (kAuA2 G f o e ρ N X x) (xAt X ρ) := (rfl)
theorem q_aua2 : kAuA2 G f o e ρ N X x v s = RQ (ev G e ρ s) (kAuA3 f o ρ N X x s v) (xAt X ρ) := (rfl)
theorem q_aua3 {s0 : Store} : kAuA3 f o ρ N X x s0 v y s = RQ (augop o v y s) (kAuA4 f ρ N X x s0) (xAt X ρ) := (rfl)
theorem q_aua4 {s0 : Store} : kAuA4 f ρ N X x s0 z s = (clsAt x s = clsAt x s0 ∧ RQ (setat x f z s) (fun _ s => N ρ s) (xAt X ρ)) := (rfl)
/-! o[i] op= e -/
def kAuS5 (ρ : Env) (N : QN) (X : QF) (x k z : Val) (s : Store) : Prop := RQ (setix x k z s) (fun _ s => N ρ s) (xAt X ρ)
def kAuS4 (o : PySem.Operator) (ρ : Env) (N : QN) (X : QF) (x k v y : Val) (s : Store) : Prop := RQ (augop o v y s) (kAuS5 ρ N X x k) (xAt X ρ)
def kAuS3 (G : Gm) (o : PySem.Operator) (e : E) (ρ : Env) (N : QN) (X : QF) (x k v : Val) (s : Store) : Prop := RQ (ev G e ρ s) (kAuS4 o ρ N X x k v) (xAt X ρ)
def kAuS2 (G : Gm) (o : PySem.Operator) (e : E) (ρ : Env) (N : QN) (X : QF) (x k : Val) (s : Store) : Prop := RQ (getl x k s) (kAuS3 G o e ρ N X x k) (xAt X ρ)
def kAuS1 (G : Gm) (b : E) (o : PySem.Operator) (e : E) (ρ : Env) (N : QN) (X : QF) (x : Val) (s : Store) : Prop := RQ (ev G b ρ s) (kAuS2 G o e ρ N X x) (xAt X ρ)
theorem q_augS : FQ (exec G (.augS a b o e) ρ s) N C T X = RQ (ev G a ρ s) (kAuS1 G b o e ρ N X) (xAt X ρ) := by
  show FQ ((ev G a ρ s).fl ρ fun x s => (ev G b ρ s).fl ρ fun k s => (getl x k s).fl ρ fun v s => (ev G e ρ s).fl ρ fun y s => (augop o v y s).fl ρ fun z s => (setix x k z s).fl ρ fun _ s => .nx ρ s) N C T X = _
  simp only [FQ_fl, FQ_nx]
  rfl
theorem q_aus1 : kAuS1 G b o e ρ N X x s = RQ (ev G b ρ s) (kAuS2 G o e ρ N X x) (xAt X ρ) := (rfl)
theorem q_aus2 : kAuS2 G o e ρ N X x y s = RQ (getl x y s) (kAuS3 G o e ρ N X x y) (xAt X ρ) := (rfl)
theorem q_aus3 : kAuS3 G o e ρ N X x y v s = RQ (ev G e ρ s) (kAuS4 o ρ N X x y v) (xAt X ρ) := (rfl)
theorem q_aus4 : kAuS4 o ρ N X x y v z s = RQ (augop o v z s) (kAuS5 ρ N X x y) (xAt X ρ) := (rfl)
theorem q_aus5 : kAuS5 ρ N X x y z s = RQ (setix x y z s) (fun _ s => N ρ s) (xAt X ρ) := (rfl)
/-! (a, b, ..) = a list -/
def oAsgL (is : List Nat) (ρ : Env) (N : QN) (s : Store) : Option (List Val) → Prop
  | some vs => oEnv N s (esets ρ is vs)
  | none => False
def kAsgL (is : List Nat) (ρ : Env) (N : QN) (v : Val) (s : Store) : Prop := oAsgL is ρ N s (lstV s v)
theorem q_asgL {is : List Nat} : FQ (exec G (.asgL is e) ρ s) N C T X = RQ (ev G e ρ s) (kAsgL is ρ N) (xAt X ρ) := by
  show FQ ((ev G e ρ s).fl ρ fun v s => Fl.ob (lstV s v) fun vs => Fl.ob (esets ρ is vs) fun ρ' => .nx ρ' s) N C T X = _
  rw [FQ_fl]
  congr 1; funext v s
  unfold kAsgL
  cases lstV s v with
  | none => rw [Fl.ob_none, FQ_bad]; rfl
  | some vs =>
    rw [Fl.ob_some]
    show FQ (Fl.ob (esets ρ is vs) _) N C T X = oEnv N s (esets ρ is vs)
    cases esets ρ is vs with
    | none => rw [Fl.ob_none, FQ_bad]; rfl
    | some ρ' => rw [Fl.ob_some, FQ_nx]; rfl
theorem q_asgL1 {is : List Nat} : kAsgL is ρ N (.loc l) s = oAsgL is ρ N s (lstOf s l) := (rfl)
theorem q_asgL2 {is : List Nat} : oAsgL is ρ N s (some vs) = oEnv N s (esets ρ is vs) := (rfl)
end
section
variable {G : Gm} {ρ : Env} {s : Store} {Q : QV} {X : QX} {c e : E} {vs xs : List Val} {n f : Nat}
/-! comprehensions whose target is a row of names -/
def oLcT (G : Gm) (c e : E) (Q : QO) (X : QX) (s : Store) : Option Env → Prop
  | some ρ2 => if c.isNil = true then RQ (ev G e ρ2 s) (kSome Q) X else RQ (ev G c ρ2 s) (kTst G e ρ2 Q X) X
  | none => False
theorem q_lcT {Q : QO} {is own : List Nat} : RQ (lcTurn G (.t is) c e own ρ (.tup vs) s) Q X = oLcT G c e Q X s (esets (wipeE ρ own) is vs) := by
  unfold lcTurn
  show RQ (R.ob (esets (wipeE ρ own) is vs) _) _ _ = _
  cases esets (wipeE ρ own) is vs with
  | none => rw [R.ob_none, RQ_bad]; rfl
  | some ρ2 =>
    rw [R.ob_some]
    unfold oLcT
    simp only
    split
    · rw [RQ_bind]
      simp only [RQ_ok]; rfl
    · rw [RQ_bind]
      congr 1; funext v s
      rw [RQ_tbo]
      unfold kTst
      simp only [RQ_bind, RQ_ok]; rfl
theorem q_lcT1 {Q : QO} {ρ2 : Env} : oLcT G c e Q X s (some ρ2) = if c.isNil = true then RQ (ev G e ρ2 s) (kSome Q) X else RQ (ev G c ρ2 s) (kTst G e ρ2 Q X) X := (rfl)
/-! a new instance -/
def oMk (G : Gm) (n : Nat) (Q : QV) (X : QX) (xs : List Val) (s : Store) : Option Nat → Prop
  | some f => RQ (G.call f (.loc (slen s) :: xs) (snew s (.ins n []))) (fun r s' => r = .non ∧ Q (.loc (slen s)) s') X
  | none => False
theorem q_mk2 : kMk G n Q X xs s = oMk G n Q X xs s (G.init n) := by
  cases h : G.init n with
  | none =>
    unfold kMk
    rw [h, R.ob_none, RQ_bad]; rfl
  | some f => rw [q_mk1 h]; rfl
theorem q_mk3 : oMk G n Q X xs s (some f) = RQ (G.call f (.loc (slen s) :: xs) (snew s (.ins n []))) (fun r s' => r = .non ∧ Q (.loc (slen s)) s') X := (rfl)
theorem gm_init {p : Pg} {c : Nat → List Val → Store → R Val} : (gmOf p c).init n = p.init n := (rfl)
end
/-- a comprehension that maps what it keeps, over given things -/
theorem RQ_lcFon {α : Type} {turn : Val → Store → R (Option Val)} {w : Wk} {ys : List α} {s : Store} {Q : Val → Store → Prop} {Y : Exc → Store → Prop} (g f : α → Val) (p : α → Bool) (J : Store → Prop) (hw : w = .free (ys.map g) ∨ ∃ l o, w = .keep l o (ys.map g) ∧ ∀ s, J s → sget s l = some o) (hl : ys.length ≤ lim) (h0 : J s)
    (step : ∀ y ∈ ys, ∀ s, J s → RQ (turn (g y) s) (fun o s' => o = (if p y = true then some (f y) else none) ∧ J s') NoX) (fin : ∀ s, J s → Q (.loc (slen s)) (snew s (.lst ((ys.filter p).map f)))) : RQ (lcW w turn s) Q Y := by
  refine RQ_lc (xs := ys.map g) (fun pre acc s => acc = ((ys.take pre.length).filter p).map f ∧ J s) ?_ (by rw [List.length_map]; exact hl) ⟨by simp, h0⟩ ?_ ?_
  · rcases hw with h | ⟨l, o, h, k⟩
    · exact .inl h
    · exact .inr ⟨l, o, h, fun _ _ _ z => k _ z.2⟩
  · rintro pre x post acc s e ⟨rfl, hj⟩
    obtain ⟨y, hy, _, rfl, ht⟩ := map_split e
    refine (step y hy s hj).by ?_
    rintro o s' ⟨rfl, hj'⟩
    by_cases hp : p y = true
    · rw [if_pos hp]
      refine ⟨?_, hj'⟩
      rw [List.length_append, List.length_singleton, ht, List.filter_append, List.map_append]
      simp [hp]
    · rw [if_neg hp]
      refine ⟨?_, hj'⟩
      rw [List.length_append, List.length_singleton, ht, List.filter_append, List.map_append]
      simp [hp]
  · rintro acc s ⟨rfl, hj⟩
    rw [List.length_map, List.take_length]
    exact fin s hj
/-! ### long rows of what stands in the store -/
theorem nd_inj {α : Type} {as : List α} (nd : as.Nodup) {i j : Nat} {a : α} (h1 : as[i]? = some a) (h2 : as[j]? = some a) : i = j := by
  obtain ⟨l1, e1⟩ := List.getElem?_eq_some_iff.mp h1
  obtain ⟨l2, e2⟩ := List.getElem?_eq_some_iff.mp h2
  exact (List.getElem_inj nd).mp (e1.trans e2.symm)
theorem nd_of_inj {α : Type} : ∀ {as : List α}, (∀ (i j : Nat) (a : α), as[i]? = some a → as[j]? = some a → i = j) → as.Nodup
  | [], _ => List.nodup_nil
  | x :: xs, h => List.nodup_cons.mpr ⟨fun hm => by
      obtain ⟨k, hk⟩ := List.getElem?_of_mem hm
      have := h 0 (k + 1) x rfl (by simpa using hk)
      omega, nd_of_inj fun i j a h1 h2 => by
      have := h (i + 1) (j + 1) a (by simpa using h1) (by simpa using h2)
      omega⟩
namespace Own
variable {s s' : Store} {L M : List (Nat × Ob)} {l : Nat} {o u : Ob} {q : Nat × Ob}
theorem getN (h : Own s L) (n : Nat) (e : L[n]? = some (l, o)) : sget s l = some o := h.has (l, o) (List.mem_of_getElem? e)
theorem putN (h : Own s L) (n : Nat) (e : L[n]? = some (l, o)) : Own (sput s l u) (L.set n (l, u)) := by
  obtain ⟨hn, en⟩ := List.getElem?_eq_some_iff.mp e
  refine ⟨?_, fun q hq => ?_⟩
  · have : (L.set n (l, u)).map (·.1) = L.map (·.1) := by
      rw [List.map_set]
      apply List.ext_getElem?
      intro k
      by_cases hk : n = k
      · subst hk
        rw [List.getElem?_set_self (by rw [List.length_map]; exact hn), List.getElem?_map, e]; rfl
      · rw [List.getElem?_set_ne hk]
    rw [this]; exact h.nd
  · obtain ⟨k, hk⟩ := List.getElem?_of_mem hq
    by_cases hnk : n = k
    · subst hnk
      rw [List.getElem?_set_self hn] at hk
      cases hk
      exact sget_same (lt_of_sget (h.getN n e))
    · rw [List.getElem?_set_ne hnk] at hk
      have hm : q ∈ L := List.mem_of_getElem? hk
      have ne : q.1 ≠ l := fun z => hnk (nd_inj h.nd (i := n) (j := k) (a := l) (by rw [List.getElem?_map, e]; rfl) (by rw [List.getElem?_map, hk]; exact congrArg some z))
      rw [sget_ne ne]
      exact h.has q hm
/-- the first in the place of another -/
theorem repN (h : Own s (q :: L)) (n : Nat) : Own s (L.set n q) := by
  by_cases hn : n < L.length
  · have hnd := List.nodup_cons.mp h.nd
    refine ⟨?_, fun p hp => ?_⟩
    · rw [List.map_set]
      have nm : ∀ k : Nat, (L.map (·.1))[k]? ≠ some q.1 := fun k e => hnd.1 (List.mem_of_getElem? e)
      refine nd_of_inj fun i j a hi hj => ?_
      by_cases h1 : n = i
      · subst h1
        rw [List.getElem?_set_self (by rw [List.length_map]; exact hn)] at hi
        cases hi
        by_cases h2 : n = j
        · exact h2
        · rw [List.getElem?_set_ne h2] at hj
          exact absurd hj (nm _)
      · rw [List.getElem?_set_ne h1] at hi
        by_cases h2 : n = j
        · subst h2
          rw [List.getElem?_set_self (by rw [List.length_map]; exact hn)] at hj
          cases hj
          exact absurd hi (nm _)
        · rw [List.getElem?_set_ne h2] at hj
          exact nd_inj hnd.2 hi hj
    · rcases List.mem_or_eq_of_mem_set hp with z | z
      · exact h.has p (List.mem_cons_of_mem _ z)
      · rw [z]; exact h.has q List.mem_cons_self
  · rw [List.set_eq_of_length_le (by omega)]
    exact h.tail
theorem sub (h : Own s L) (hm : M.Sublist L) : Own s M := ⟨(hm.map _).nodup h.nd, fun p hp => h.has p (hm.subset hp)⟩
theorem perm (h : Own s L) (p : L.Perm M) : Own s M := ⟨(p.map _).nodup_iff.mp h.nd, fun q hq => h.has q (p.mem_iff.mpr hq)⟩
end Own
end Ov

/-! Values without places and truths: == is their equality. -/
namespace Ov
theorem cmp_ne_bl {p q : Bool} {s : Store} : cmpop .NotEq (.bl p) (.bl q) s = .ok (.bl (!decide (p = q))) s := by cases p <;> cases q <;> rfl
theorem cmp_eq_bl {p q : Bool} {s : Store} : cmpop .Eq (.bl p) (.bl q) s = .ok (.bl (decide (p = q))) s := by cases p <;> cases q <;> rfl
mutual
/-- none, whole numbers, texts, tuples of these, at most so deep -/
def pureV : Nat → Val → Bool
  | _, .non => true
  | _, .int _ => true
  | _, .str _ => true
  | 0, .tup _ => false
  | n + 1, .tup vs => pureVs n vs
  | _, .bl _ => false
  | _, .loc _ => false
  | _, .ktp _ => false
def pureVs : Nat → List Val → Bool
  | _, [] => true
  | n, v :: vs => pureV n v && pureVs n vs
end
theorem pureVs_iff {n : Nat} : ∀ {vs : List Val}, pureVs n vs = true ↔ ∀ v ∈ vs, pureV n v = true
  | [] => by simp [pureVs]
  | v :: vs => by
    rw [pureVs, Bool.and_eq_true, pureVs_iff (vs := vs)]
    simp
theorem allEq_dec {f : Val → Val → Option Bool} : ∀ {xs ys : List Val}, (∀ x ∈ xs, ∀ y ∈ ys, f x y = some (decide (x = y))) → allEq f xs ys = some (decide (xs = ys))
  | [], [], _ => by simp [allEq]
  | [], _ :: _, _ => by simp [allEq]
  | _ :: _, [], _ => by simp [allEq]
  | x :: xs, y :: ys, h => by
    have h1 := h x List.mem_cons_self y List.mem_cons_self
    have h2 := allEq_dec (xs := xs) (ys := ys) fun u hu v hv => h u (List.mem_cons_of_mem _ hu) v (List.mem_cons_of_mem _ hv)
    unfold allEq
    rw [h1, h2]
    simp only [List.cons.injEq, Bool.decide_and]
theorem veq_pure (s : Store) : ∀ (n : Nat) {v w : Val}, pureV n v = true → pureV n w = true → ∀ m, n ≤ m → veq m s v w = some (decide (v = w)) := by
  intro n
  induction n with
  | zero =>
    intro v w hv hw m _
    cases m <;> cases v <;> first | (simp [pureV] at hv; done) | (cases w <;> first | (simp [pureV] at hw; done) | simp [veq, veq1])
  | succ n ih =>
    intro v w hv hw m hm
    obtain ⟨m, rfl⟩ : ∃ k, m = k + 1 := ⟨m - 1, by omega⟩
    cases v with
    | tup vs =>
      cases w with
      | tup ws =>
        rw [pureV, pureVs_iff] at hv hw
        show allEq (veq m s) vs ws = _
        rw [allEq_dec fun x hx y hy => ih (hv x hx) (hw y hy) m (by omega)]
        simp
      | non => simp [veq, veq1]
      | int i => simp [veq, veq1]
      | str i => simp [veq, veq1]
      | _ => simp [pureV] at hw
    | _ => first | (simp [pureV] at hv; done) | (cases w <;> first | (simp [pureV] at hw; done) | simp [veq, veq1])
theorem eqb_pure {s : Store} {v w : Val} {n : Nat} (hv : pureV n v = true) (hw : pureV n w = true) (hn : n ≤ 40) : eqb s v w = some (decide (v = w)) := veq_pure s n hv hw 40 hn
/-- of two lists of such -/
theorem eqb_pures {s : Store} {a b : Nat} {xs ys : List Val} {n : Nat} (h1 : lstOf s a = some xs) (h2 : lstOf s b = some ys) (hx : ∀ x ∈ xs, pureV n x = true) (hy : ∀ y ∈ ys, pureV n y = true) (hn : n ≤ 39) : eqb s (.loc a) (.loc b) = some (decide (xs = ys)) := by
  rw [eqb_lst h1 h2]
  split
  · exact allEq_dec fun x hx' y hy' => veq_pure s n (hx x hx') (hy y hy') 39 hn
  · rename_i h
    rw [show decide (xs = ys) = false from decide_eq_false fun e => h (by rw [e])]
theorem pureV_mono {n m : Nat} {v : Val} (h : pureV n v = true) (hm : n ≤ m) : pureV m v = true := by
  induction n generalizing m v with
  | zero => cases v <;> first | (simp [pureV] at h; done) | (cases m <;> rfl)
  | succ n ih =>
    obtain ⟨m, rfl⟩ : ∃ k, m = k + 1 := ⟨m - 1, by omega⟩
    cases v with
    | tup vs =>
      rw [pureV, pureVs_iff] at h ⊢
      exact fun x hx => ih (h x hx) (by omega)
    | _ => first | (simp [pureV] at h; done) | rfl
/-- a list asked for == or != of another, both of such things -/
theorem RQ_eq_pures {s : Store} {a b : Nat} {xs ys : List Val} {n : Nat} {Q : Val → Store → Prop} {X : Exc → Store → Prop} (h1 : sget s a = some (.lst xs)) (h2 : sget s b = some (.lst ys)) (hx : ∀ x ∈ xs, pureV n x = true) (hy : ∀ y ∈ ys, pureV n y = true) (hn : n ≤ 39) (k : Q (.bl (decide (xs = ys))) s) :
    RQ (cmpop .Eq (.loc a) (.loc b) s) Q X := by
  rw [cmp_eqT, eqb_pures (lstOf_lst h1) (lstOf_lst h2) hx hy hn, eqT_t]
  exact ⟨k⟩
theorem RQ_ne_pures {s : Store} {a b : Nat} {xs ys : List Val} {n : Nat} {Q : Val → Store → Prop} {X : Exc → Store → Prop} (h1 : sget s a = some (.lst xs)) (h2 : sget s b = some (.lst ys)) (hx : ∀ x ∈ xs, pureV n x = true) (hy : ∀ y ∈ ys, pureV n y = true) (hn : n ≤ 39) (k : Q (.bl (!decide (xs = ys))) s) :
    RQ (cmpop .NotEq (.loc a) (.loc b) s) Q X := by
  rw [cmp_neT, eqb_pures (lstOf_lst h1) (lstOf_lst h2) hx hy hn, neT_some]
  exact ⟨k⟩
theorem cmp_eq_pure {s : Store} {v w : Val} {n : Nat} (hv : pureV n v = true) (hw : pureV n w = true) (hn : n ≤ 40) : cmpop .Eq v w s = .ok (.bl (decide (v = w))) s := by rw [cmp_eqT, eqb_pure hv hw hn, eqT_t]
theorem cmp_ne_pure {s : Store} {v w : Val} {n : Nat} (hv : pureV n v = true) (hw : pureV n w = true) (hn : n ≤ 40) : cmpop .NotEq v w s = .ok (.bl (!decide (v = w))) s := by rw [cmp_neT, eqb_pure hv hw hn, neT_some]
/-! ### lists of lists -/
def RowsAt (s : Store) : List Nat → List (List Val) → Prop
  | [], [] => True
  | q :: qs, row :: rows => lstOf s q = some row ∧ RowsAt s qs rows
  | _, _ => False
theorem RowsAt.len {s : Store} : ∀ {qs : List Nat} {rows : List (List Val)}, RowsAt s qs rows → qs.length = rows.length
  | [], [], _ => rfl
  | _ :: _, _ :: _, h => by rw [List.length_cons, List.length_cons, RowsAt.len h.2]
  | [], _ :: _, h => h.elim
  | _ :: _, [], h => h.elim
theorem allEq_rows {s : Store} {n m : Nat} (hm : n ≤ m) : ∀ {qs ps : List Nat} {rows rows' : List (List Val)}, RowsAt s qs rows → RowsAt s ps rows' → (∀ r ∈ rows, ∀ v ∈ r, pureV n v = true) → (∀ r ∈ rows', ∀ v ∈ r, pureV n v = true) →
    allEq (veq (m + 1) s) (qs.map .loc) (ps.map .loc) = some (decide (rows = rows'))
  | [], [], [], [], _, _, _, _ => by simp [allEq]
  | [], _ :: _, [], _ :: _, _, _, _, _ => by simp [allEq]
  | _ :: _, [], _ :: _, [], _, _, _, _ => by simp [allEq]
  | q :: qs, p :: ps, row :: rows, row' :: rows', h1, h2, p1, p2 => by
    have ih := allEq_rows hm (qs := qs) (ps := ps) h1.2 h2.2 (fun r hr => p1 r (List.mem_cons_of_mem _ hr)) (fun r hr => p2 r (List.mem_cons_of_mem _ hr))
    have e : veq (m + 1) s (.loc q) (.loc p) = some (decide (row = row')) := by
      show (match lstOf s q, lstOf s p with
        | some xs, some ys => if xs.length = ys.length then allEq (veq m s) xs ys else some false
        | _, _ => none) = _
      rw [h1.1, h2.1]
      simp only
      split
      · exact allEq_dec fun x hx y hy => veq_pure s n (p1 row List.mem_cons_self x hx) (p2 row' List.mem_cons_self y hy) m hm
      · rename_i h
        rw [show decide (row = row') = false from decide_eq_false fun e => h (by rw [e])]
    rw [List.map_cons, List.map_cons]
    unfold allEq
    rw [e, ih]
    simp only [List.cons.injEq, Bool.decide_and]
  | [], _, _ :: _, _, h, _, _, _ => h.elim
  | _ :: _, _, [], _, h, _, _, _ => h.elim
  | _, [], _, _ :: _, _, h, _, _ => h.elim
  | _, _ :: _, _, [], _, h, _, _ => h.elim
theorem eqb_rows {s : Store} {a b n : Nat} {qs ps : List Nat} {rows rows' : List (List Val)} (h1 : lstOf s a = some (qs.map .loc)) (h2 : lstOf s b = some (ps.map .loc)) (r1 : RowsAt s qs rows) (r2 : RowsAt s ps rows') (p1 : ∀ r ∈ rows, ∀ v ∈ r, pureV n v = true) (p2 : ∀ r ∈ rows', ∀ v ∈ r, pureV n v = true) (hn : n ≤ 38) :
    eqb s (.loc a) (.loc b) = some (decide (rows = rows')) := by
  rw [eqb_lst h1 h2]
  split
  · exact allEq_rows hn r1 r2 p1 p2
  · rename_i h
    rw [List.length_map, List.length_map, r1.len, r2.len] at h
    rw [show decide (rows = rows') = false from decide_eq_false fun e => h (by rw [e])]
theorem RQ_ne_rows {s : Store} {a b n : Nat} {qs ps : List Nat} {rows rows' : List (List Val)} {Q : Val → Store → Prop} {X : Exc → Store → Prop} (h1 : sget s a = some (.lst (qs.map .loc))) (h2 : sget s b = some (.lst (ps.map .loc))) (r1 : RowsAt s qs rows) (r2 : RowsAt s ps rows') (p1 : ∀ r ∈ rows, ∀ v ∈ r, pureV n v = true) (p2 : ∀ r ∈ rows', ∀ v ∈ r, pureV n v = true) (hn : n ≤ 38) (k : Q (.bl (!decide (rows = rows'))) s) :
    RQ (cmpop .NotEq (.loc a) (.loc b) s) Q X := by
  rw [cmp_neT, eqb_rows (lstOf_lst h1) (lstOf_lst h2) r1 r2 p1 p2 hn, neT_some]
  exact ⟨k⟩
theorem RQ_eq_rows {s : Store} {a b n : Nat} {qs ps : List Nat} {rows rows' : List (List Val)} {Q : Val → Store → Prop} {X : Exc → Store → Prop} (h1 : sget s a = some (.lst (qs.map .loc))) (h2 : sget s b = some (.lst (ps.map .loc))) (r1 : RowsAt s qs rows) (r2 : RowsAt s ps rows') (p1 : ∀ r ∈ rows, ∀ v ∈ r, pureV n v = true) (p2 : ∀ r ∈ rows', ∀ v ∈ r, pureV n v = true) (hn : n ≤ 38) (k : Q (.bl (decide (rows = rows'))) s) :
    RQ (cmpop .Eq (.loc a) (.loc b) s) Q X := by
  rw [cmp_eqT, eqb_rows (lstOf_lst h1) (lstOf_lst h2) r1 r2 p1 p2 hn, eqT_t]
  exact ⟨k⟩
theorem neT_dic {s : Store} {a b : Nat} {t u : Bool} {k1 k2 : List (Val × Val)} (h1 : sget s a = some (.dic t k1)) (h2 : sget s b = some (.dic u k2)) : cmpop .NotEq (.loc a) (.loc b) s = neD s (.loc a) (.loc b) := by
  have l1 : lstOf s a = none := by unfold lstOf; rw [h1]
  have l2 : lstOf s b = none := by unfold lstOf; rw [h2]
  have e : eqb s (.loc a) (.loc b) = none := by
    show veq1 _ s (.loc a) (.loc b) = none
    unfold veq1
    simp only [l1]
  rw [cmp_neT, e]
  show (if sameD s (.loc a) (.loc b) = true then _ else _) = _
  rw [if_neg (by unfold sameD; simp only [l1]; exact nofun)]
/-- a dict != an empty one -/
theorem RQ_ne_dic0 {s : Store} {a b : Nat} {t u : Bool} {k : List (Val × Val)} {Q : Val → Store → Prop} {X : Exc → Store → Prop} (h1 : sget s a = some (.dic t k)) (h2 : sget s b = some (.dic u [])) (c : Q (.bl !k.isEmpty) s) : RQ (cmpop .NotEq (.loc a) (.loc b) s) Q X := by
  rw [neT_dic h1 h2]
  unfold neD
  simp only [h1, h2]
  cases k with
  | nil => rw [if_neg (by simp), if_pos (by rfl), RQ_ok]; exact c
  | cons p k => rw [if_pos (by simp), RQ_ok]; exact c
/-- a dict != another one of the very same pairs -/
theorem RQ_ne_dsame {s : Store} {a b : Nat} {k : List (Val × Val)} {Q : Val → Store → Prop} {X : Exc → Store → Prop} (h1 : sget s a = some (.dic false k)) (h2 : sget s b = some (.dic false k)) (hk : ∀ p ∈ k, fitKey false p.1 = true ∧ veq 20 s p.2 p.2 = some true) (nd : (k.map (·.1)).Nodup) (c : Q (.bl false) s) : RQ (cmpop .NotEq (.loc a) (.loc b) s) Q X := by
  rw [neT_dic h1 h2]
  unfold neD
  simp only [h1, h2]
  rw [if_neg (by simp)]
  by_cases e : k.length = 0
  · rw [if_pos e, RQ_ok]; exact c
  · rw [if_neg e, if_pos ⟨trivial, trivial, trivial, List.all_eq_true.mpr fun p hp => by rw [(hk p hp).1, (hk p hp).2]; rfl, nd⟩, RQ_ok]; exact c
def rowsO (qs : List Nat) (rows : List (List Val)) : List (Nat × Ob) := List.zipWith (fun q row => (q, Ob.lst row)) qs rows
theorem rowsO_snoc {qs : List Nat} {rows : List (List Val)} (h : qs.length = rows.length) (q : Nat) (row : List Val) : rowsO (qs ++ [q]) (rows ++ [row]) = rowsO qs rows ++ [(q, .lst row)] := by
  unfold rowsO
  rw [List.zipWith_append h]; rfl
theorem RowsAt.of {s : Store} : ∀ {qs : List Nat} {rows : List (List Val)}, qs.length = rows.length → (∀ p ∈ rowsO qs rows, sget s p.1 = some p.2) → RowsAt s qs rows
  | [], [], _, _ => True.intro
  | q :: qs, row :: rows, hl, h => ⟨lstOf_lst (h (q, .lst row) List.mem_cons_self), RowsAt.of (by simpa using hl) fun p hp => h p (List.mem_cons_of_mem _ hp)⟩
  | [], _ :: _, hl, _ => by simp at hl
  | _ :: _, [], hl, _ => by simp at hl
theorem RowsAt.take {s : Store} : ∀ {qs : List Nat} {rows : List (List Val)} (k : Nat), RowsAt s qs rows → RowsAt s (qs.take k) (rows.take k)
  | _, _, 0, _ => True.intro
  | [], [], _ + 1, _ => True.intro
  | _ :: _, _ :: _, k + 1, h => ⟨h.1, RowsAt.take k h.2⟩
  | [], _ :: _, _ + 1, h => h.elim
  | _ :: _, [], _ + 1, h => h.elim
/-! ### walks and comprehensions by numbers -/
theorem split_ix {α : Type} {ys : List α} {g : α → Val} {pre post : List Val} {x : Val} (e : ys.map g = pre ++ x :: post) : ∃ y, ys[pre.length]? = some y ∧ x = g y := by
  obtain ⟨y, _, h, rfl, _⟩ := map_split e
  exact ⟨y, h, rfl⟩
theorem RQ_lcIx {α : Type} {turn : Val → Store → R (Option Val)} {w : Wk} {ys : List α} {s : Store} {Q : Val → Store → Prop} {Y : Exc → Store → Prop} (g : α → Val) (I : Nat → List Val → Store → Prop) (hw : w = .free (ys.map g) ∨ ∃ l o, w = .keep l o (ys.map g) ∧ ∀ k acc s, I k acc s → sget s l = some o) (hl : ys.length ≤ lim) (h0 : I 0 [] s)
    (step : ∀ k y acc s, ys[k]? = some y → I k acc s → RQ (turn (g y) s) (fun o s' => match o with
      | some v => I (k + 1) (acc ++ [v]) s'
      | none => I (k + 1) acc s') NoX) (fin : ∀ acc s, I ys.length acc s → Q (.loc (slen s)) (snew s (.lst acc))) : RQ (lcW w turn s) Q Y := by
  refine RQ_lc (xs := ys.map g) (fun pre acc s => I pre.length acc s) ?_ (by rw [List.length_map]; exact hl) h0 ?_ ?_
  · rcases hw with h | ⟨l, o, h, k⟩
    · exact .inl h
    · exact .inr ⟨l, o, h, fun pre acc s z => k _ _ _ z⟩
  · rintro pre x post acc s e hI
    obtain ⟨y, hy, rfl⟩ := split_ix e
    refine (step _ y acc s hy hI).by ?_
    intro o s' h
    rw [List.length_append, List.length_singleton]
    exact h
  · intro acc s h
    rw [List.length_map] at h
    exact fin acc s h
section
variable {turn : Val → Env → Store → Fl} {N C : Env → Store → Prop} {T : Val → Store → Prop} {X : Exc → Env → Store → Prop}
theorem FQ_keepIx {α : Type} {ys : List α} {l : Nat} {o : Ob} {ρ : Env} {s : Store} (g : α → Val) (I : Nat → Env → Store → Prop) (h0 : I 0 ρ s) (hk : ∀ k ρ s, I k ρ s → sget s l = some o)
    (step : ∀ k y ρ s, ys[k]? = some y → I k ρ s → FQ (turn (g y) ρ s) (I (k + 1)) (I (k + 1)) T X) (fin : ∀ ρ s, I ys.length ρ s → N ρ s) : FQ (forW (.keep l o (ys.map g)) turn ρ s) N C T X := by
  refine FQ_keep (fun pre ρ s => I pre.length ρ s) h0 (fun pre ρ s h => hk _ _ _ h) ?_ ?_
  · rintro pre x post ρ s e hI
    obtain ⟨y, hy, rfl⟩ := split_ix e
    refine (step _ y ρ s hy hI).mono ?_ ?_ (fun _ _ z => z) fun _ _ _ z => z
    · intro ρ' s' h; rw [List.length_append, List.length_singleton]; exact h
    · intro ρ' s' h; rw [List.length_append, List.length_singleton]; exact h
  · intro ρ s h
    rw [List.length_map] at h
    exact fin ρ s h
theorem FQ_freeIx {α : Type} {ys : List α} {ρ : Env} {s : Store} (g : α → Val) (I : Nat → Env → Store → Prop) (h0 : I 0 ρ s)
    (step : ∀ k y ρ s, ys[k]? = some y → I k ρ s → FQ (turn (g y) ρ s) (I (k + 1)) (I (k + 1)) T X) (fin : ∀ ρ s, I ys.length ρ s → N ρ s) : FQ (forW (.free (ys.map g)) turn ρ s) N C T X := by
  refine FQ_free (fun pre ρ s => I pre.length ρ s) h0 ?_ ?_
  · rintro pre x post ρ s e hI
    obtain ⟨y, hy, rfl⟩ := split_ix e
    refine (step _ y ρ s hy hI).mono ?_ ?_ (fun _ _ z => z) fun _ _ _ z => z
    · intro ρ' s' h; rw [List.length_append, List.length_singleton]; exact h
    · intro ρ' s' h; rw [List.length_append, List.length_singleton]; exact h
  · intro ρ s h
    rw [List.length_map] at h
    exact fin ρ s h
end
theorem eqb_bls {s : Store} {a b : Nat} {xs ys : List Bool} (h1 : lstOf s a = some (xs.map .bl)) (h2 : lstOf s b = some (ys.map .bl)) : eqb s (.loc a) (.loc b) = some (decide (xs = ys)) := by
  rw [eqb_lst h1 h2]
  have inj : ∀ {u v : List Bool}, u.map Val.bl = v.map Val.bl ↔ u = v := fun {u v} => ⟨fun e => (List.map_inj_right fun _ _ z => Val.bl.inj z).mp e, fun e => by rw [e]⟩
  have e : allEq (veq 39 s) (xs.map .bl) (ys.map .bl) = some (decide (xs.map Val.bl = ys.map .bl)) := allEq_dec fun x hx y hy => by
    obtain ⟨p, _, rfl⟩ := List.mem_map.mp hx
    obtain ⟨q, _, rfl⟩ := List.mem_map.mp hy
    show some (p == q) = _
    congr 1
    cases p <;> cases q <;> rfl
  split
  · rw [e]
    congr 1
    exact decide_eq_decide.mpr inj
  · rename_i hn
    rw [decide_eq_false]
    intro z
    exact hn (by rw [z])
theorem RQ_ne_bls {s : Store} {a b : Nat} {xs ys : List Bool} {Q : Val → Store → Prop} {X : Exc → Store → Prop} (h1 : sget s a = some (.lst (xs.map .bl))) (h2 : sget s b = some (.lst (ys.map .bl))) (k : Q (.bl (!decide (xs = ys))) s) : RQ (cmpop .NotEq (.loc a) (.loc b) s) Q X := by
  rw [cmp_neT, eqb_bls (lstOf_lst h1) (lstOf_lst h2), neT_some]
  exact ⟨k⟩
theorem RQ_eq_bls {s : Store} {a b : Nat} {xs ys : List Bool} {Q : Val → Store → Prop} {X : Exc → Store → Prop} (h1 : sget s a = some (.lst (xs.map .bl))) (h2 : sget s b = some (.lst (ys.map .bl))) (k : Q (.bl (decide (xs = ys))) s) : RQ (cmpop .Eq (.loc a) (.loc b) s) Q X := by
  rw [cmp_eqT, eqb_bls (lstOf_lst h1) (lstOf_lst h2), eqT_t]
  exact ⟨k⟩
end Ov

namespace K71
open Ov
def s_count : PySem.Str := ⟨#[99, 111, 117, 110, 116]⟩
def s_more : PySem.Str := ⟨#[109, 111, 114, 101]⟩
def s_cnt : PySem.Str := ⟨#[99, 110, 116]⟩
def s_tally : PySem.Str := ⟨#[116, 97, 108, 108, 121]⟩
def s_sum : PySem.Str := ⟨#[115, 117, 109]⟩
def s_vast : PySem.Str := ⟨#[118, 97, 115, 116]⟩
def s_odd : PySem.Str := ⟨#[111, 100, 100]⟩
def c_MOST : Val := .int 1000000000
/-- kept(number) -/
def b_kept : S :=
  (.sq (.ret (.bi .max (.cons (.bin .Sub (.k (.int 0)) (.g 0 c_MOST)) (.cons (.bi .min (.cons (.g 0 c_MOST) (.cons (.v 0) .nil))) .nil))))
  .skip)
/-- Worker___init__(self, trade) -/
def b_Worker___init__ : S :=
  (.sq (.asgA (.v 0) 0 (.bi .dict (.cons (.v 1) .nil)))
  (.sq (.asgA (.v 0) 1 (.lst .nil))
  (.sq (.asgA (.v 0) 2 (.dic true .nil))
  .skip)))
/-- Worker_do(self, run, ticket, work, worth, answer) -/
def b_Worker_do : S :=
  (.sq (.ife (.cmp .NotIn (.tup (.cons (.v 1) (.cons (.v 2) .nil))) (.att (.v 0) 2))
    (.sq (.asg (.n 5) (.me 3 (.v 0) (.cons (.v 3) (.cons (.v 4) .nil))))
    (.sq (.asgS (.att (.v 0) 2) (.tup (.cons (.v 1) (.cons (.v 2) .nil))) (.v 5))
    (.sq (.ex (.bm .append (.att (.v 0) 1) (.cons (.tup (.cons (.v 1) (.cons (.v 2) (.cons (.v 3) (.cons (.v 4) (.cons (.v 5) .nil)))))) .nil)))
    .skip)))
    .skip)
  (.sq (.ret (.ix (.att (.v 0) 2) (.tup (.cons (.v 1) (.cons (.v 2) .nil)))))
  .skip))
/-- Worker_made_of(self, work, worth, deed) -/
def b_Worker_made_of : S :=
  (.sq (.ife (.cmp .NotIn (.v 1) (.att (.v 0) 0))
    (.sq (.ret (.k (.non)))
    .skip)
    .skip)
  (.sq (.ife (.cmp .Eq (.ix (.ix (.att (.v 0) 0) (.v 1)) (.k (.int 0))) (.k (.str s_count)))
    (.sq (.ret (.call 0 (.cons (.bin .Add (.k (.int 1)) (.bi .len (.cons (.lc (.n 3) (.att (.v 0) 1) (.cmp .Eq (.ix (.v 3) (.k (.int 2))) (.v 1)) (.v 3) [3]) .nil))) .nil)))
    .skip)
    .skip)
  (.sq (.ife (.cmp .Is (.v 2) (.k (.non)))
    (.sq (.asg (.n 2) (.k (.int 0)))
    .skip)
    .skip)
  (.sq (.ret (.call 0 (.cons (.bin .Add (.v 2) (.ix (.ix (.att (.v 0) 0) (.v 1)) (.k (.int 1)))) .nil)))
  .skip))))
/-- Worker_deeds(self) -/
def b_Worker_deeds : S :=
  (.sq (.ret (.bi .list (.cons (.att (.v 0) 1) .nil)))
  .skip)
/-- _law_cell_at(script, k) -/
def b__law_cell_at : S :=
  (.sq (.ife (.cmp .Lt (.v 1) (.bi .len (.cons (.v 0) .nil)))
    (.sq (.ret (.ix (.v 0) (.v 1)))
    .skip)
    .skip)
  (.sq (.ret (.k (.int 0)))
  .skip))
/-- _law_take(deck, many, come, number) -/
def b__law_take : S :=
  (.sq (.ife (.cmp .Eq (.ix (.v 0) (.k (.int 1))) (.k (.int 0)))
    (.sq (.asg (.n 2) (.bin .Mod (.ix (.v 0) (.k (.int 0))) (.v 1)))
    (.sq (.asgS (.v 0) (.k (.int 0)) (.bin .FloorDiv (.ix (.v 0) (.k (.int 0))) (.v 1)))
    (.sq (.ret (.v 2))
    .skip)))
    .skip)
  (.sq (.asgS (.v 0) (.k (.int 2)) (.bin .Add (.ix (.v 0) (.k (.int 2))) (.k (.int 1))))
  (.sq (.asg (.n 3) (.bin .Mod (.bin .Add (.bin .Mult (.bin .Mod (.ix (.v 0) (.k (.int 0))) (.k (.int 2147483647))) (.bin .Add (.bin .Mult (.ix (.v 0) (.k (.int 2))) (.ix (.v 0) (.k (.int 2)))) (.k (.int 48271)))) (.ix (.v 0) (.k (.int 2)))) (.k (.int 2147483629))))
  (.sq (.asg (.n 3) (.bin .Mod (.bin .Mult (.v 3) (.v 3)) (.k (.int 2147483587))))
  (.sq (.ret (.bin .Mod (.bin .FloorDiv (.bin .Mod (.bin .Mult (.v 3) (.k (.int 69621))) (.k (.int 2147483563))) (.k (.int 3))) (.v 1)))
  .skip)))))
/-- _law_made(trade, deeds, work, worth, deed) -/
def b__law_made : S :=
  (.sq (.ife (.cmp .NotIn (.v 2) (.v 0))
    (.sq (.ret (.k (.non)))
    .skip)
    .skip)
  (.sq (.ife (.cmp .Eq (.ix (.ix (.v 0) (.v 2)) (.k (.int 0))) (.k (.str s_count)))
    (.sq (.ret (.bin .Add (.k (.int 1)) (.bi .len (.cons (.lc (.n 4) (.v 1) (.cmp .Eq (.ix (.v 4) (.k (.int 2))) (.v 2)) (.v 4) [4]) .nil))))
    .skip)
    .skip)
  (.sq (.ife (.cmp .Is (.v 3) (.k (.non)))
    (.sq (.asg (.n 3) (.k (.int 0)))
    .skip)
    .skip)
  (.sq (.ret (.bi .max (.cons (.bin .Sub (.k (.int 0)) (.bin .Pow (.k (.int 10)) (.k (.int 9)))) (.cons (.bi .min (.cons (.bin .Pow (.k (.int 10)) (.k (.int 9))) (.cons (.bin .Add (.v 3) (.ix (.ix (.v 0) (.v 2)) (.k (.int 1)))) .nil))) .nil))))
  .skip))))
/-- _law_told_right(worker, deeds, told) -/
def b__law_told_right : S :=
  (.sq (.asg (.n 2) (.me 4 (.v 0) .nil))
  (.sq (.ife (.or (.not (.isi (.v 2) [.list])) (.cmp .NotEq (.v 2) (.v 1)))
    (.sq (.ret (.k (.bl false)))
    .skip)
    .skip)
  (.sq (.ex (.bm .append (.v 2) (.cons (.k (.str s_more)) .nil)))
  (.sq (.ret (.cmp .Eq (.me 4 (.v 0) .nil) (.v 1)))
  .skip))))
/-- _law_number(deck, small, far, way) -/
def b__law_number : S :=
  (.sq (.asg (.n 2) (.lst (.cons (.k (.int 0)) (.cons (.k (.int 1)) (.cons (.k (.int 2)) (.cons (.k (.int 10)) (.cons (.k (.int 11)) (.cons (.k (.int 12)) (.cons (.k (.int 64)) (.cons (.k (.int 100)) (.cons (.k (.int 101)) (.cons (.k (.int 110)) (.cons (.k (.int 128)) (.cons (.k (.int 1000)) .nil))))))))))))))
  (.sq (.asg (.n 3) (.call 6 (.cons (.v 0) (.cons (.k (.int 4)) .nil))))
  (.sq (.ret (.ix (.lst (.cons (.ix (.v 2) (.call 6 (.cons (.v 0) (.cons (.k (.int 12)) .nil)))) (.cons (.call 6 (.cons (.v 0) (.cons (.bin .Pow (.k (.int 10)) (.k (.int 6))) .nil))) (.cons (.call 6 (.cons (.v 0) (.cons (.v 1) .nil))) (.cons (.call 6 (.cons (.v 0) (.cons (.v 1) .nil))) .nil))))) (.v 3)))
  .skip)))
def b__law_unlike_orders_b1 : S :=
  (.sq (.ife (.or (.cmp .NotEq (.me 5 (.v 0) (.cons (.ix (.ix (.v 1) (.v 2)) (.k (.int 0))) (.cons (.ix (.ix (.v 1) (.v 2)) (.k (.int 1))) (.cons (.k (.str s_cnt)) (.cons (.v 2) .nil))))) (.bin .Add (.v 2) (.k (.int 1)))) (.cmp .NotEq (.me 5 (.v 0) (.cons (.bin .Add (.k (.int 7777)) (.v 2)) (.cons (.v 2) (.cons (.k (.str s_tally)) (.cons (.v 2) .nil))))) (.bin .Add (.v 2) (.k (.int 1)))))
    (.sq (.ret (.k (.bl false)))
    .skip)
    .skip)
  .skip)
def b__law_unlike_orders_l1 : S := .fr (.n 2) (.bi .range (.cons (.bi .len (.cons (.v 1) .nil)) .nil)) b__law_unlike_orders_b1
def b__law_unlike_orders_b2 : S :=
  (.sq (.ife (.cmp .NotEq (.me 5 (.v 0) (.cons (.bin .Add (.k (.int 2000)) (.bin .FloorDiv (.v 2) (.k (.int 20)))) (.cons (.bin .Add (.k (.int 30)) (.bin .Mod (.v 2) (.k (.int 20)))) (.cons (.k (.str s_sum)) (.cons (.v 2) .nil))))) (.bin .Add (.v 2) (.k (.int 1))))
    (.sq (.ret (.k (.bl false)))
    .skip)
    .skip)
  .skip)
def b__law_unlike_orders_l2 : S := .fr (.n 2) (.bi .range (.cons (.k (.int 320)) .nil)) b__law_unlike_orders_b2
def b__law_unlike_orders_b3 : S :=
  (.sq (.ife (.cmp .NotEq (.me 5 (.v 0) (.cons (.bin .Add (.k (.int 2000)) (.bin .FloorDiv (.v 2) (.k (.int 20)))) (.cons (.bin .Add (.k (.int 30)) (.bin .Mod (.v 2) (.k (.int 20)))) (.cons (.k (.str s_sum)) (.cons (.bin .Add (.bin .Mult (.k (.int 5)) (.v 2)) (.k (.int 1))) .nil))))) (.bin .Add (.v 2) (.k (.int 1))))
    (.sq (.ret (.k (.bl false)))
    .skip)
    .skip)
  .skip)
def b__law_unlike_orders_l3 : S := .fr (.n 2) (.bi .range (.cons (.k (.int 0)) (.cons (.k (.int 320)) (.cons (.k (.int 29)) .nil)))) b__law_unlike_orders_b3
/-- _law_unlike_orders(worker, some, k, both) -/
def b__law_unlike_orders : S :=
  (.sq (.asg (.n 0) (.mk 0 (.cons (.dic false (.cons (.k (.str s_cnt)) (.cons (.tup (.cons (.k (.str s_count)) .nil)) (.cons (.k (.str s_tally)) (.cons (.tup (.cons (.k (.str s_count)) .nil)) (.cons (.k (.str s_sum)) (.cons (.tup (.cons (.k (.str s_sum)) (.cons (.k (.int 1)) .nil))) .nil))))))) .nil)))
  (.sq (.asg (.n 1) (.lst (.cons (.tup (.cons (.k (.int 1)) (.cons (.k (.int 10)) .nil))) (.cons (.tup (.cons (.k (.int 11)) (.cons (.k (.int 0)) .nil))) (.cons (.tup (.cons (.k (.int 110)) (.cons (.k (.int 0)) .nil))) (.cons (.tup (.cons (.k (.int 0)) (.cons (.k (.int 110)) .nil))) (.cons (.tup (.cons (.k (.int 1)) (.cons (.k (.int 0)) .nil))) (.cons (.tup (.cons (.k (.int 0)) (.cons (.k (.int 1)) .nil))) (.cons (.tup (.cons (.k (.int 0)) (.cons (.k (.int 64)) .nil))) (.cons (.tup (.cons (.k (.int 128)) (.cons (.k (.int 0)) .nil))) (.cons (.tup (.cons (.k (.int 10)) (.cons (.k (.int 0)) .nil))) (.cons (.tup (.cons (.k (.int 0)) (.cons (.k (.int 10)) .nil))) (.cons (.tup (.cons (.k (.int 1)) (.cons (.k (.int 100)) .nil))) .nil)))))))))))))
  (.sq (.asg (.n 1) (.bin .Add (.v 1) (.lst (.cons (.tup (.cons (.k (.int 0)) (.cons (.k (.int 1000)) .nil))) (.cons (.tup (.cons (.k (.int 1000)) (.cons (.k (.int 0)) .nil))) (.cons (.tup (.cons (.k (.int 0)) (.cons (.k (.int 256)) .nil))) (.cons (.tup (.cons (.k (.int 2)) (.cons (.k (.int 0)) .nil))) (.cons (.tup (.cons (.k (.int 0)) (.cons (.k (.int 2)) .nil))) (.cons (.tup (.cons (.bin .Pow (.k (.int 10)) (.k (.int 6))) (.cons (.k (.int 0)) .nil))) (.cons (.tup (.cons (.k (.int 0)) (.cons (.bin .Pow (.k (.int 10)) (.k (.int 6))) .nil))) (.cons (.tup (.cons (.k (.int 1)) (.cons (.k (.int 1)) .nil))) (.cons (.tup (.cons (.k (.int 0)) (.cons (.k (.int 0)) .nil))) .nil))))))))))))
  (.sq b__law_unlike_orders_l1
  (.sq b__law_unlike_orders_l2
  (.sq b__law_unlike_orders_l3
  (.sq (.ife (.cmp .NotEq (.lc (.n 3) (.v 1) .nil (.me 5 (.v 0) (.cons (.ix (.v 3) (.k (.int 0))) (.cons (.ix (.v 3) (.k (.int 1))) (.cons (.k (.str s_sum)) (.cons (.k (.int 9)) .nil))))) [3]) (.lc (.n 2) (.bi .range (.cons (.bi .len (.cons (.v 1) .nil)) .nil)) .nil (.bin .Add (.v 2) (.k (.int 1))) [2]))
    (.sq (.ret (.k (.bl false)))
    .skip)
    .skip)
  (.sq (.ret (.and (.cmp .Eq (.bi .len (.cons (.me 4 (.v 0) .nil) .nil)) (.bin .Add (.k (.int 320)) (.bin .Mult (.k (.int 2)) (.bi .len (.cons (.v 1) .nil))))) (.cmp .Is (.me 5 (.mk 0 (.cons (.dic false .nil) .nil)) (.cons (.k (.int 0)) (.cons (.k (.int 0)) (.cons (.k (.str s_sum)) (.cons (.k (.int 5)) .nil))))) (.k (.non)))))
  .skip))))))))
def b_law_b1 : S :=
  (.sq (.asg (.n 10) (.lst (.cons (.v 9) (.cons (.bin .Mod (.v 1) (.k (.int 2))) (.cons (.k (.int 7)) .nil)))))
  (.sq (.asg (.n 11) (.call 6 (.cons (.v 10) (.cons (.k (.int 2)) .nil))))
  (.sq (.asg (.n 12) (.tup (.cons (.call 9 (.cons (.v 10) (.cons (.k (.int 5)) .nil))) (.cons (.call 9 (.cons (.v 10) (.cons (.k (.int 4)) .nil))) .nil))))
  (.sq (.ife (.and (.cmp .NotEq (.ix (.v 7) (.v 11)) (.dic false .nil)) (.cmp .Eq (.call 6 (.cons (.v 10) (.cons (.k (.int 3)) .nil))) (.k (.int 0))))
    (.sq (.asg (.n 12) (.ix (.bi .sorted (.cons (.ix (.v 7) (.v 11)) .nil)) (.call 6 (.cons (.v 10) (.cons (.bi .len (.cons (.ix (.v 7) (.v 11)) .nil)) .nil)))))
    .skip)
    .skip)
  (.sq (.asg (.n 13) (.ix (.lst (.cons (.k (.str s_sum)) (.cons (.k (.str s_vast)) (.cons (.k (.str s_cnt)) (.cons (.k (.str s_tally)) (.cons (.k (.str s_odd)) .nil)))))) (.call 6 (.cons (.v 10) (.cons (.k (.int 5)) .nil)))))
  (.sq (.asg (.n 14) (.ix (.lst (.cons (.k (.non)) (.cons (.k (.int 0)) (.cons (.k (.int 1)) (.cons (.neg (.k (.int 7))) (.cons (.bin .Pow (.k (.int 10)) (.k (.int 9))) (.cons (.neg (.bin .Pow (.k (.int 10)) (.k (.int 9)))) (.cons (.bin .Sub (.bin .Pow (.k (.int 10)) (.k (.int 9))) (.k (.int 3))) (.cons (.call 6 (.cons (.v 10) (.cons (.k (.int 100)) .nil))) .nil))))))))) (.call 6 (.cons (.v 10) (.cons (.k (.int 8)) .nil)))))
  (.sq (.ife (.cmp .NotIn (.v 12) (.ix (.v 7) (.v 11)))
    (.sq (.asgS (.ix (.v 7) (.v 11)) (.v 12) (.call 7 (.cons (.v 3) (.cons (.ix (.v 6) (.v 11)) (.cons (.v 13) (.cons (.v 14) .nil))))))
    (.sq (.ex (.bm .append (.ix (.v 6) (.v 11)) (.cons (.bin .Add (.v 12) (.tup (.cons (.v 13) (.cons (.v 14) (.cons (.ix (.ix (.v 7) (.v 11)) (.v 12)) .nil))))) .nil)))
    .skip))
    .skip)
  (.sq (.asg (.n 15) (.me 5 (.ix (.v 5) (.v 11)) (.cons (.ix (.v 12) (.k (.int 0))) (.cons (.ix (.v 12) (.k (.int 1))) (.cons (.v 13) (.cons (.v 14) .nil))))))
  (.sq (.ife (.or (.cmp .NotEq (.v 15) (.ix (.ix (.v 7) (.v 11)) (.v 12))) (.or (.isi (.v 15) [.bool]) (.not (.call 8 (.cons (.ix (.v 5) (.v 11)) (.cons (.ix (.v 6) (.v 11)) .nil))))))
    (.sq (.ret (.k (.bl false)))
    .skip)
    .skip)
  (.sq (.ex (.bm .append (.v 8) (.cons (.lst (.cons (.me 4 (.ix (.v 5) (.v 11)) .nil) (.cons (.bi .list (.cons (.ix (.v 6) (.v 11)) .nil)) .nil))) .nil)))
  .skip))))))))))
def b_law_l1 : S := .fr (.n 9) (.bin .Add (.lst (.cons (.k (.int 0)) (.cons (.k (.int 5)) .nil))) (.sl (.v 0) .nil (.k (.int 61)) .nil)) b_law_b1
/-- law(script, head, vast, trade, handed, workers, deeds, known, held, cell, deck, who, both, work, worth, come, one) -/
def b_law : S :=
  (.sq (.asg (.n 1) (.call 5 (.cons (.v 0) (.cons (.k (.int 0)) .nil))))
  (.sq (.asg (.n 2) (.ix (.lst (.cons (.bin .Pow (.k (.int 10)) (.k (.int 9))) (.cons (.neg (.bin .Pow (.k (.int 10)) (.k (.int 9)))) .nil))) (.bin .Mod (.bin .FloorDiv (.v 1) (.k (.int 40))) (.k (.int 2)))))
  (.sq (.asg (.n 3) (.dic false (.cons (.k (.str s_sum)) (.cons (.tup (.cons (.k (.str s_sum)) (.cons (.bin .Sub (.bin .Mod (.bin .FloorDiv (.v 1) (.k (.int 2))) (.k (.int 20))) (.k (.int 9))) .nil))) (.cons (.k (.str s_vast)) (.cons (.tup (.cons (.k (.str s_sum)) (.cons (.v 2) .nil))) (.cons (.k (.str s_cnt)) (.cons (.tup (.cons (.k (.str s_count)) .nil)) (.cons (.k (.str s_tally)) (.cons (.tup (.cons (.k (.str s_count)) .nil)) .nil))))))))))
  (.sq (.asg (.n 4) (.bi .dict (.cons (.v 3) .nil)))
  (.sq (.asg (.n 5) (.lst (.cons (.mk 0 (.cons (.v 4) .nil)) (.cons (.mk 0 (.cons (.bi .dict (.cons (.v 3) .nil)) .nil)) .nil))))
  (.sq (.ife (.cmp .NotEq (.v 4) (.v 3))
    (.sq (.ret (.k (.bl false)))
    .skip)
    .skip)
  (.sq (.ex (.bm .clear (.v 4) .nil))
  (.sq (.asg (.n 6) (.lst (.cons (.lst .nil) (.cons (.lst .nil) .nil))))
  (.sq (.asg (.n 7) (.lst (.cons (.dic true .nil) (.cons (.dic true .nil) .nil))))
  (.sq (.asg (.n 8) (.lst .nil))
  (.sq b_law_l1
  (.sq (.ife (.cmp .NotEq (.lc (.n 16) (.v 8) (.cmp .NotEq (.ix (.v 16) (.k (.int 0))) (.ix (.v 16) (.k (.int 1)))) (.v 16) [16]) (.lst .nil))
    (.sq (.ret (.k (.bl false)))
    .skip)
    .skip)
  (.sq (.ife (.or (.not (.call 8 (.cons (.ix (.v 5) (.k (.int 0))) (.cons (.ix (.v 6) (.k (.int 0))) .nil)))) (.not (.call 8 (.cons (.ix (.v 5) (.k (.int 1))) (.cons (.ix (.v 6) (.k (.int 1))) .nil)))))
    (.sq (.ret (.k (.bl false)))
    .skip)
    .skip)
  (.sq (.ret (.call 10 .nil))
  .skip))))))))))))))
def fns : List Fn := [⟨1, 1, b_kept⟩,
  ⟨2, 2, b_Worker___init__⟩,
  ⟨5, 6, b_Worker_do⟩,
  ⟨3, 4, b_Worker_made_of⟩,
  ⟨1, 1, b_Worker_deeds⟩,
  ⟨2, 2, b__law_cell_at⟩,
  ⟨2, 4, b__law_take⟩,
  ⟨4, 5, b__law_made⟩,
  ⟨2, 3, b__law_told_right⟩,
  ⟨2, 4, b__law_number⟩,
  ⟨0, 4, b__law_unlike_orders⟩,
  ⟨1, 17, b_law⟩]
def meth : Nat → Nat → Option Nat
  | 0, 5 => some 2
  | 0, 3 => some 3
  | 0, 4 => some 4
  | _, _ => none
def init : Nat → Option Nat
  | 0 => some 1
  | _ => none
def pg : Pg := { fns := fns, meth := meth, init := init, fuel := 1000000 }
theorem u_kept {d : Nat} {s : Store} {Q : Val → Store → Prop} {X : Exc → Store → Prop} {a0 : Val} : RQ (callD pg (d + 1) 0 [a0] s) Q X = FQ (exec (gmD pg d) b_kept [some a0] s) (fun _ s => Q .non s) (fun _ _ => False) Q (fun x _ s => X x s) := RQ_call (F := ⟨1, 1, b_kept⟩) rfl rfl
theorem w_kept {d : Nat} {s : Store} {Q : Val → Store → Prop} {X : Exc → Store → Prop} {a0 : Val} : RQ (callD pg (d + 1) 0 [a0] s) Q X = FQ (exec (gmD pg d) b_kept [some a0] s) (kRes Q) noC Q (xRes X) := q_def (F := ⟨1, 1, b_kept⟩) rfl rfl
theorem u_Worker___init__ {d : Nat} {s : Store} {Q : Val → Store → Prop} {X : Exc → Store → Prop} {a0 a1 : Val} : RQ (callD pg (d + 1) 1 [a0, a1] s) Q X = FQ (exec (gmD pg d) b_Worker___init__ [some a0, some a1] s) (fun _ s => Q .non s) (fun _ _ => False) Q (fun x _ s => X x s) := RQ_call (F := ⟨2, 2, b_Worker___init__⟩) rfl rfl
theorem w_Worker___init__ {d : Nat} {s : Store} {Q : Val → Store → Prop} {X : Exc → Store → Prop} {a0 a1 : Val} : RQ (callD pg (d + 1) 1 [a0, a1] s) Q X = FQ (exec (gmD pg d) b_Worker___init__ [some a0, some a1] s) (kRes Q) noC Q (xRes X) := q_def (F := ⟨2, 2, b_Worker___init__⟩) rfl rfl
theorem u_Worker_do {d : Nat} {s : Store} {Q : Val → Store → Prop} {X : Exc → Store → Prop} {a0 a1 a2 a3 a4 : Val} : RQ (callD pg (d + 1) 2 [a0, a1, a2, a3, a4] s) Q X = FQ (exec (gmD pg d) b_Worker_do [some a0, some a1, some a2, some a3, some a4, none] s) (fun _ s => Q .non s) (fun _ _ => False) Q (fun x _ s => X x s) := RQ_call (F := ⟨5, 6, b_Worker_do⟩) rfl rfl
theorem w_Worker_do {d : Nat} {s : Store} {Q : Val → Store → Prop} {X : Exc → Store → Prop} {a0 a1 a2 a3 a4 : Val} : RQ (callD pg (d + 1) 2 [a0, a1, a2, a3, a4] s) Q X = FQ (exec (gmD pg d) b_Worker_do [some a0, some a1, some a2, some a3, some a4, none] s) (kRes Q) noC Q (xRes X) := q_def (F := ⟨5, 6, b_Worker_do⟩) rfl rfl
theorem u_Worker_made_of {d : Nat} {s : Store} {Q : Val → Store → Prop} {X : Exc → Store → Prop} {a0 a1 a2 : Val} : RQ (callD pg (d + 1) 3 [a0, a1, a2] s) Q X = FQ (exec (gmD pg d) b_Worker_made_of [some a0, some a1, some a2, none] s) (fun _ s => Q .non s) (fun _ _ => False) Q (fun x _ s => X x s) := RQ_call (F := ⟨3, 4, b_Worker_made_of⟩) rfl rfl
theorem w_Worker_made_of {d : Nat} {s : Store} {Q : Val → Store → Prop} {X : Exc → Store → Prop} {a0 a1 a2 : Val} : RQ (callD pg (d + 1) 3 [a0, a1, a2] s) Q X = FQ (exec (gmD pg d) b_Worker_made_of [some a0, some a1, some a2, none] s) (kRes Q) noC Q (xRes X) := q_def (F := ⟨3, 4, b_Worker_made_of⟩) rfl rfl
theorem u_Worker_deeds {d : Nat} {s : Store} {Q : Val → Store → Prop} {X : Exc → Store → Prop} {a0 : Val} : RQ (callD pg (d + 1) 4 [a0] s) Q X = FQ (exec (gmD pg d) b_Worker_deeds [some a0] s) (fun _ s => Q .non s) (fun _ _ => False) Q (fun x _ s => X x s) := RQ_call (F := ⟨1, 1, b_Worker_deeds⟩) rfl rfl
theorem w_Worker_deeds {d : Nat} {s : Store} {Q : Val → Store → Prop} {X : Exc → Store → Prop} {a0 : Val} : RQ (callD pg (d + 1) 4 [a0] s) Q X = FQ (exec (gmD pg d) b_Worker_deeds [some a0] s) (kRes Q) noC Q (xRes X) := q_def (F := ⟨1, 1, b_Worker_deeds⟩) rfl rfl
theorem u__law_cell_at {d : Nat} {s : Store} {Q : Val → Store → Prop} {X : Exc → Store → Prop} {a0 a1 : Val} : RQ (callD pg (d + 1) 5 [a0, a1] s) Q X = FQ (exec (gmD pg d) b__law_cell_at [some a0, some a1] s) (fun _ s => Q .non s) (fun _ _ => False) Q (fun x _ s => X x s) := RQ_call (F := ⟨2, 2, b__law_cell_at⟩) rfl rfl
theorem w__law_cell_at {d : Nat} {s : Store} {Q : Val → Store → Prop} {X : Exc → Store → Prop} {a0 a1 : Val} : RQ (callD pg (d + 1) 5 [a0, a1] s) Q X = FQ (exec (gmD pg d) b__law_cell_at [some a0, some a1] s) (kRes Q) noC Q (xRes X) := q_def (F := ⟨2, 2, b__law_cell_at⟩) rfl rfl
theorem u__law_take {d : Nat} {s : Store} {Q : Val → Store → Prop} {X : Exc → Store → Prop} {a0 a1 : Val} : RQ (callD pg (d + 1) 6 [a0, a1] s) Q X = FQ (exec (gmD pg d) b__law_take [some a0, some a1, none, none] s) (fun _ s => Q .non s) (fun _ _ => False) Q (fun x _ s => X x s) := RQ_call (F := ⟨2, 4, b__law_take⟩) rfl rfl
theorem w__law_take {d : Nat} {s : Store} {Q : Val → Store → Prop} {X : Exc → Store → Prop} {a0 a1 : Val} : RQ (callD pg (d + 1) 6 [a0, a1] s) Q X = FQ (exec (gmD pg d) b__law_take [some a0, some a1, none, none] s) (kRes Q) noC Q (xRes X) := q_def (F := ⟨2, 4, b__law_take⟩) rfl rfl
theorem u__law_made {d : Nat} {s : Store} {Q : Val → Store → Prop} {X : Exc → Store → Prop} {a0 a1 a2 a3 : Val} : RQ (callD pg (d + 1) 7 [a0, a1, a2, a3] s) Q X = FQ (exec (gmD pg d) b__law_made [some a0, some a1, some a2, some a3, none] s) (fun _ s => Q .non s) (fun _ _ => False) Q (fun x _ s => X x s) := RQ_call (F := ⟨4, 5, b__law_made⟩) rfl rfl
theorem w__law_made {d : Nat} {s : Store} {Q : Val → Store → Prop} {X : Exc → Store → Prop} {a0 a1 a2 a3 : Val} : RQ (callD pg (d + 1) 7 [a0, a1, a2, a3] s) Q X = FQ (exec (gmD pg d) b__law_made [some a0, some a1, some a2, some a3, none] s) (kRes Q) noC Q (xRes X) := q_def (F := ⟨4, 5, b__law_made⟩) rfl rfl
theorem u__law_told_right {d : Nat} {s : Store} {Q : Val → Store → Prop} {X : Exc → Store → Prop} {a0 a1 : Val} : RQ (callD pg (d + 1) 8 [a0, a1] s) Q X = FQ (exec (gmD pg d) b__law_told_right [some a0, some a1, none] s) (fun _ s => Q .non s) (fun _ _ => False) Q (fun x _ s => X x s) := RQ_call (F := ⟨2, 3, b__law_told_right⟩) rfl rfl
theorem w__law_told_right {d : Nat} {s : Store} {Q : Val → Store → Prop} {X : Exc → Store → Prop} {a0 a1 : Val} : RQ (callD pg (d + 1) 8 [a0, a1] s) Q X = FQ (exec (gmD pg d) b__law_told_right [some a0, some a1, none] s) (kRes Q) noC Q (xRes X) := q_def (F := ⟨2, 3, b__law_told_right⟩) rfl rfl
theorem u__law_number {d : Nat} {s : Store} {Q : Val → Store → Prop} {X : Exc → Store → Prop} {a0 a1 : Val} : RQ (callD pg (d + 1) 9 [a0, a1] s) Q X = FQ (exec (gmD pg d) b__law_number [some a0, some a1, none, none] s) (fun _ s => Q .non s) (fun _ _ => False) Q (fun x _ s => X x s) := RQ_call (F := ⟨2, 4, b__law_number⟩) rfl rfl
theorem w__law_number {d : Nat} {s : Store} {Q : Val → Store → Prop} {X : Exc → Store → Prop} {a0 a1 : Val} : RQ (callD pg (d + 1) 9 [a0, a1] s) Q X = FQ (exec (gmD pg d) b__law_number [some a0, some a1, none, none] s) (kRes Q) noC Q (xRes X) := q_def (F := ⟨2, 4, b__law_number⟩) rfl rfl
theorem u__law_unlike_orders {d : Nat} {s : Store} {Q : Val → Store → Prop} {X : Exc → Store → Prop} : RQ (callD pg (d + 1) 10 [] s) Q X = FQ (exec (gmD pg d) b__law_unlike_orders [none, none, none, none] s) (fun _ s => Q .non s) (fun _ _ => False) Q (fun x _ s => X x s) := RQ_call (F := ⟨0, 4, b__law_unlike_orders⟩) rfl rfl
theorem w__law_unlike_orders {d : Nat} {s : Store} {Q : Val → Store → Prop} {X : Exc → Store → Prop} : RQ (callD pg (d + 1) 10 [] s) Q X = FQ (exec (gmD pg d) b__law_unlike_orders [none, none, none, none] s) (kRes Q) noC Q (xRes X) := q_def (F := ⟨0, 4, b__law_unlike_orders⟩) rfl rfl
theorem u_law {d : Nat} {s : Store} {Q : Val → Store → Prop} {X : Exc → Store → Prop} {a0 : Val} : RQ (callD pg (d + 1) 11 [a0] s) Q X = FQ (exec (gmD pg d) b_law [some a0, none, none, none, none, none, none, none, none, none, none, none, none, none, none, none, none] s) (fun _ s => Q .non s) (fun _ _ => False) Q (fun x _ s => X x s) := RQ_call (F := ⟨1, 17, b_law⟩) rfl rfl
theorem w_law {d : Nat} {s : Store} {Q : Val → Store → Prop} {X : Exc → Store → Prop} {a0 : Val} : RQ (callD pg (d + 1) 11 [a0] s) Q X = FQ (exec (gmD pg d) b_law [some a0, none, none, none, none, none, none, none, none, none, none, none, none, none, none, none, none] s) (kRes Q) noC Q (xRes X) := q_def (F := ⟨1, 17, b_law⟩) rfl rfl
/- names: 0 trade, 1 done, 2 answers, 3 made_of, 4 deeds, 5 do -/
end K71

set_option maxHeartbeats 0
namespace K71H
open PySem PySem.Spec PyProof.Rows L2 Ov
def top (i : Nat) : Stmt := PySem.Challenge.pw_outlast_k71_each_order_once.main.body.getD i (.Pass ⟨0, 0, 0, 0⟩)
def sub (i j : Nat) : Stmt := match top i with
  | .ClassDef (body := b) .. => b.getD j (.Pass ⟨0, 0, 0, 0⟩)
  | _ => .Pass ⟨0, 0, 0, 0⟩
def mkD (x : Str) (c : Option Str) (qual : Str) (st : Stmt) : He.DefD := ⟨(x, c), (match c with | some m => m | none => x), qual, defArgs st, defBody st, defScope st, [], []⟩
def e0 : DefE := ⟨mkD "kept" none "kept" (top 2), ["number"], ["number"], 0⟩
def e1 : DefE := ⟨mkD "Worker" (some "__init__") "Worker.__init__" (sub 4 0), ["self", "trade"], ["self", "trade"], 1⟩
def e2 : DefE := ⟨mkD "Worker" (some "do") "Worker.do" (sub 4 1), ["self", "run", "ticket", "work", "worth"], ["self", "run", "ticket", "work", "worth", "answer"], 2⟩
def e3 : DefE := ⟨mkD "Worker" (some "made_of") "Worker.made_of" (sub 4 2), ["self", "work", "worth"], ["self", "work", "worth", "deed"], 3⟩
def e4 : DefE := ⟨mkD "Worker" (some "deeds") "Worker.deeds" (sub 4 3), ["self"], ["self"], 4⟩
def e5 : DefE := ⟨mkD "_law_cell_at" none "_law_cell_at" (top 6), ["script", "k"], ["script", "k"], 5⟩
def e6 : DefE := ⟨mkD "_law_take" none "_law_take" (top 7), ["deck", "many"], ["deck", "many", "come", "number"], 6⟩
def e7 : DefE := ⟨mkD "_law_made" none "_law_made" (top 8), ["trade", "deeds", "work", "worth"], ["trade", "deeds", "work", "worth", "deed"], 7⟩
def e8 : DefE := ⟨mkD "_law_told_right" none "_law_told_right" (top 9), ["worker", "deeds"], ["worker", "deeds", "told"], 8⟩
def e9 : DefE := ⟨mkD "_law_number" none "_law_number" (top 10), ["deck", "small"], ["deck", "small", "far", "way"], 9⟩
def e10 : DefE := ⟨mkD "_law_unlike_orders" none "_law_unlike_orders" (top 11), [], ["worker", "some", "k", "both"], 10⟩
def e11 : DefE := ⟨mkD "law" none "law" (top 12), ["script"], ["script", "head", "vast", "trade", "handed", "workers", "deeds", "known", "held", "cell", "deck", "who", "both", "work", "worth", "come", "one"], 11⟩
def fn : List He.DefD := [e0.d, e1.d, e2.d, e3.d, e4.d, e5.d, e6.d, e7.d, e8.d, e9.d, e10.d, e11.d]
def fa : List He.Fa := [.glo "kept", .glo "_law_cell_at", .glo "_law_take", .glo "_law_made", .glo "_law_told_right", .glo "_law_number", .glo "_law_unlike_orders", .glo "law", .int "MOST" 1000000000, .free "len", .free "min", .free "max", .free "sorted", .free "range", .free "list", .free "dict", .free "isinstance", .free "bool", .glo "Worker", .cls "Worker", .noat "Worker" "trade", .noat "Worker" "done", .noat "Worker" "answers", .meth "Worker" "made_of", .meth "Worker" "deeds", .meth "Worker" "do", .mkr "Worker"]
def rs (K : PySem.W.Frag) : List (Nat × Addr) := []
def names : List Str := ["trade", "done", "answers", "made_of", "deeds", "do"]
def cls (K : PySem.W.Frag) : Nat → Option Addr
  | 0 => some (He.ga K "Worker")
  | _ => none
def tb : Tbl := { fns := [("kept", 0, 1), ("_law_cell_at", 5, 2), ("_law_take", 6, 2), ("_law_made", 7, 4), ("_law_told_right", 8, 2), ("_law_number", 9, 2), ("_law_unlike_orders", 10, 0)], consts := [("MOST", K71.c_MOST)], tups := [], clss := [("Worker", 0)], meths := [3, 4, 5], frees := ["len", "min", "max", "sorted", "range", "list", "dict", "isinstance", "bool"], excs := [], cats := [], cths := [] }
theorem k0 : e0.chk names tb K71.pg = true := by decide +kernel
theorem s0 : FnScope e0.N e0.ps e0.d.scope := ⟨rfl, rfl, rfl, by decide +kernel, rfl, by decide +kernel, by decide +kernel⟩
theorem k1 : e1.chk names tb K71.pg = true := by decide +kernel
theorem s1 : FnScope e1.N e1.ps e1.d.scope := ⟨rfl, rfl, rfl, by decide +kernel, rfl, by decide +kernel, by decide +kernel⟩
theorem k2 : e2.chk names tb K71.pg = true := by decide +kernel
theorem s2 : FnScope e2.N e2.ps e2.d.scope := ⟨rfl, rfl, rfl, by decide +kernel, rfl, by decide +kernel, by decide +kernel⟩
theorem k3 : e3.chk names tb K71.pg = true := by decide +kernel
theorem s3 : FnScope e3.N e3.ps e3.d.scope := ⟨rfl, rfl, rfl, by decide +kernel, rfl, by decide +kernel, by decide +kernel⟩
theorem k4 : e4.chk names tb K71.pg = true := by decide +kernel
theorem s4 : FnScope e4.N e4.ps e4.d.scope := ⟨rfl, rfl, rfl, by decide +kernel, rfl, by decide +kernel, by decide +kernel⟩
theorem k5 : e5.chk names tb K71.pg = true := by decide +kernel
theorem s5 : FnScope e5.N e5.ps e5.d.scope := ⟨rfl, rfl, rfl, by decide +kernel, rfl, by decide +kernel, by decide +kernel⟩
theorem k6 : e6.chk names tb K71.pg = true := by decide +kernel
theorem s6 : FnScope e6.N e6.ps e6.d.scope := ⟨rfl, rfl, rfl, by decide +kernel, rfl, by decide +kernel, by decide +kernel⟩
theorem k7 : e7.chk names tb K71.pg = true := by decide +kernel
theorem s7 : FnScope e7.N e7.ps e7.d.scope := ⟨rfl, rfl, rfl, by decide +kernel, rfl, by decide +kernel, by decide +kernel⟩
theorem k8 : e8.chk names tb K71.pg = true := by decide +kernel
theorem s8 : FnScope e8.N e8.ps e8.d.scope := ⟨rfl, rfl, rfl, by decide +kernel, rfl, by decide +kernel, by decide +kernel⟩
theorem k9 : e9.chk names tb K71.pg = true := by decide +kernel
theorem s9 : FnScope e9.N e9.ps e9.d.scope := ⟨rfl, rfl, rfl, by decide +kernel, rfl, by decide +kernel, by decide +kernel⟩
theorem k10 : e10.chk names tb K71.pg = true := by decide +kernel
theorem s10 : FnScope e10.N e10.ps e10.d.scope := ⟨rfl, rfl, rfl, by decide +kernel, rfl, by decide +kernel, by decide +kernel⟩
theorem k11 : e11.chk names tb K71.pg = true := by decide +kernel
theorem s11 : FnScope e11.N e11.ps e11.d.scope := ⟨rfl, rfl, rfl, by decide +kernel, rfl, by decide +kernel, by decide +kernel⟩
def ex (K : PySem.W.Frag) : Bool := (noLst K) && (xsB K (rs K))
abbrev R : PySem.W.OpenRow := PySem.W.OpenLaw.row PySem.Challenge.rw_outlast_k71_each_order_once
abbrev qv : Program := PySem.W.view R.prog [12]
def loose : List Str := ["__name__", "MOST", "Worker", "kept", "_law_cell_at", "_law_take", "_law_made", "_law_told_right", "_law_number", "_law_unlike_orders"]
def tabs : List He.Tab := []
abbrev hk : PySem.W.Hook := He.hookX 4 fa fn tabs [] ex
def ob (s : PySem.W.SharedT) : He.AlX := He.obsX 4 fa fn tabs [] ex (HandSHeadRun.getT s)
theorem ob_eq (s : PySem.W.SharedT) : ob s = hk.obs s.abs := He.obsX_eq (HandSHeadRun.getT_eq s)
theorem run (w : World) : HandSHeadRun.RunEq R qv hk ob 9000 loose w := by
  intro os
  kernel_rfl
section
variable {P : Program} {w : World} {K : PySem.W.Frag} {h : Heap} {mg : Str → Option Value}
theorem st (X : K.In h) (G : h.Ns mainGlobals mg) (c : He.SaysD fa fn K) (me : ex K = true) : St ⟨K, names, cls K, fun r => (rs K).lookup r⟩ tb K71.pg P w mg := by
  have mo := (He.ba me).1
  have mx := (He.ba me).2
  obtain ⟨f0, F0⟩ := c.def_ 0 (d := e0.d) rfl
  have b0 : Binds K f0 e0.ps [] := F0.bindsN fun _ _ _ _ _ _ us hl => match us, hl with | [_], _ => rfl
  obtain ⟨f1, F1⟩ := c.def_ 1 (d := e1.d) rfl
  have b1 : Binds K f1 e1.ps [] := F1.bindsN fun _ _ _ _ _ _ us hl => match us, hl with | [_, _], _ => rfl
  obtain ⟨f2, F2⟩ := c.def_ 2 (d := e2.d) rfl
  have b2 : Binds K f2 e2.ps [] := F2.bindsN fun _ _ _ _ _ _ us hl => match us, hl with | [_, _, _, _, _], _ => rfl
  obtain ⟨f3, F3⟩ := c.def_ 3 (d := e3.d) rfl
  have b3 : Binds K f3 e3.ps [] := F3.bindsN fun _ _ _ _ _ _ us hl => match us, hl with | [_, _, _], _ => rfl
  obtain ⟨f4, F4⟩ := c.def_ 4 (d := e4.d) rfl
  have b4 : Binds K f4 e4.ps [] := F4.bindsN fun _ _ _ _ _ _ us hl => match us, hl with | [_], _ => rfl
  obtain ⟨f5, F5⟩ := c.def_ 5 (d := e5.d) rfl
  have b5 : Binds K f5 e5.ps [] := F5.bindsN fun _ _ _ _ _ _ us hl => match us, hl with | [_, _], _ => rfl
  obtain ⟨f6, F6⟩ := c.def_ 6 (d := e6.d) rfl
  have b6 : Binds K f6 e6.ps [] := F6.bindsN fun _ _ _ _ _ _ us hl => match us, hl with | [_, _], _ => rfl
  obtain ⟨f7, F7⟩ := c.def_ 7 (d := e7.d) rfl
  have b7 : Binds K f7 e7.ps [] := F7.bindsN fun _ _ _ _ _ _ us hl => match us, hl with | [_, _, _, _], _ => rfl
  obtain ⟨f8, F8⟩ := c.def_ 8 (d := e8.d) rfl
  have b8 : Binds K f8 e8.ps [] := F8.bindsN fun _ _ _ _ _ _ us hl => match us, hl with | [_, _], _ => rfl
  obtain ⟨f9, F9⟩ := c.def_ 9 (d := e9.d) rfl
  have b9 : Binds K f9 e9.ps [] := F9.bindsN fun _ _ _ _ _ _ us hl => match us, hl with | [_, _], _ => rfl
  obtain ⟨f10, F10⟩ := c.def_ 10 (d := e10.d) rfl
  have b10 : Binds K f10 e10.ps [] := F10.bindsN fun _ _ _ _ _ _ us hl => match us, hl with | [], _ => rfl
  refine ⟨fun x f np e => ?_, fun cn C m n f e1 e2 e3 => ?_, fun x cn e => ?_, fun cn f m e => ?_, fun cn C e => ?_, fun cn C f n e1 e2 e3 => ?_, fun x v e => ?_, fun x vs e => ?_, fun x kv e => ?_, ?_, (by decide +kernel : names.Nodup), fun x cc e => ?_, fun x cc e => ?_, fun x cc e => ?_, fun r C e => (xsB_ok (r := r) (C := C) mx e).2⟩
  · exact al_lookup (l := tb.fns) (P := fun q => ∃ a fd ps, mg q.1 = some (.ref a) ∧ PySem.W.keepIn K (.ref a) = true ∧ Binds K fd ps [] ∧ DefOk ⟨K, names, cls K, fun r => (rs K).lookup r⟩ tb K71.pg q.2.1 a fd ps ∧ ps.length = q.2.2)
      (al1 ⟨_, _, _, He.glo_ok X G (c.fact 0 (f := .glo "kept") rfl), F0.kp, b0, DefE.ok (T := ⟨K, names, cls K, fun r => (rs K).lookup r⟩) k0 F0 s0, rfl⟩ <|
       al1 ⟨_, _, _, He.glo_ok X G (c.fact 1 (f := .glo "_law_cell_at") rfl), F5.kp, b5, DefE.ok (T := ⟨K, names, cls K, fun r => (rs K).lookup r⟩) k5 F5 s5, rfl⟩ <|
       al1 ⟨_, _, _, He.glo_ok X G (c.fact 2 (f := .glo "_law_take") rfl), F6.kp, b6, DefE.ok (T := ⟨K, names, cls K, fun r => (rs K).lookup r⟩) k6 F6 s6, rfl⟩ <|
       al1 ⟨_, _, _, He.glo_ok X G (c.fact 3 (f := .glo "_law_made") rfl), F7.kp, b7, DefE.ok (T := ⟨K, names, cls K, fun r => (rs K).lookup r⟩) k7 F7 s7, rfl⟩ <|
       al1 ⟨_, _, _, He.glo_ok X G (c.fact 4 (f := .glo "_law_told_right") rfl), F8.kp, b8, DefE.ok (T := ⟨K, names, cls K, fun r => (rs K).lookup r⟩) k8 F8 s8, rfl⟩ <|
       al1 ⟨_, _, _, He.glo_ok X G (c.fact 5 (f := .glo "_law_number") rfl), F9.kp, b9, DefE.ok (T := ⟨K, names, cls K, fun r => (rs K).lookup r⟩) k9 F9 s9, rfl⟩ <|
       al1 ⟨_, _, _, He.glo_ok X G (c.fact 6 (f := .glo "_law_unlike_orders") rfl), F10.kp, b10, DefE.ok (T := ⟨K, names, cls K, fun r => (rs K).lookup r⟩) k10 F10 s10, rfl⟩ <|
       al0) e
  · unfold K71.pg K71.meth at e3; simp only at e3
    split at e3
    · cases e3; cases e1; cases e2
      exact ⟨_, _, _, He.meth_ok (c.fact 25 (f := .meth "Worker" "do") rfl), b2, DefE.ok (T := ⟨K, names, cls K, fun r => (rs K).lookup r⟩) k2 F2 s2⟩
    · cases e3; cases e1; cases e2
      exact ⟨_, _, _, He.meth_ok (c.fact 23 (f := .meth "Worker" "made_of") rfl), b3, DefE.ok (T := ⟨K, names, cls K, fun r => (rs K).lookup r⟩) k3 F3 s3⟩
    · cases e3; cases e1; cases e2
      exact ⟨_, _, _, He.meth_ok (c.fact 24 (f := .meth "Worker" "deeds") rfl), b4, DefE.ok (T := ⟨K, names, cls K, fun r => (rs K).lookup r⟩) k4 F4 s4⟩
    · cases e3
  · exact al_lookup (l := tb.clss) (P := fun q => ∃ C a fi fd ps, mg q.1 = some (.ref C) ∧ cls K q.2 = some C ∧ K71.pg.init q.2 = some fi ∧ Mk K C a ∧ Binds K fd ps [] ∧ DefOk ⟨K, names, cls K, fun r => (rs K).lookup r⟩ tb K71.pg fi a fd ps)
      (al1 ⟨_, _, 1, _, _, He.glo_ok X G (c.fact 18 (f := .glo "Worker") rfl), rfl, rfl, He.mkr_ok (c.fact 26 (f := .mkr "Worker") rfl), b1, DefE.ok (T := ⟨K, names, cls K, fun r => (rs K).lookup r⟩) k1 F1 s1⟩ <|
       al0) e
  · unfold K71.pg K71.meth at e; simp only at e
    split at e
    · decide
    · decide
    · decide
    · cases e
  · change cls K cn = some C at e; unfold cls at e
    split at e
    · cases e; exact He.cls_ok (c.fact 19 (f := .cls "Worker") rfl)
    · cases e
  · change cls K cn = some C at e1; change names[f]? = some n at e2; unfold cls at e1
    split at e1
    · cases e1
      match f, e2, e3 with
      | 0, e2, _ => cases e2; exact He.noat_ok (c.fact 20 (f := .noat "Worker" "trade") rfl)
      | 1, e2, _ => cases e2; exact He.noat_ok (c.fact 21 (f := .noat "Worker" "done") rfl)
      | 2, e2, _ => cases e2; exact He.noat_ok (c.fact 22 (f := .noat "Worker" "answers") rfl)
      | 3, _, e3 => exact absurd rfl (e3 3)
      | 4, _, e3 => exact absurd rfl (e3 4)
      | 5, _, e3 => exact absurd rfl (e3 2)
      | f + 6, e2, _ => simp [names] at e2
    · cases e1
  · exact al_lookup (l := tb.consts) (P := fun q => ∃ y u, scalV q.2 = some y ∧ mg q.1 = some u ∧ RelV y u) (al1 (by
      obtain ⟨t, ht⟩ := He.int_ok X G (c.fact 8 (f := .int "MOST" 1000000000) rfl)
      exact ⟨_, _, rfl, ht, ⟨t, rfl⟩⟩) <| al0) e
  · cases e
  · cases e
  · exact al1 (He.free_ok X G (c.fact 9 (f := .free "len") rfl)) <| al1 (He.free_ok X G (c.fact 10 (f := .free "min") rfl)) <| al1 (He.free_ok X G (c.fact 11 (f := .free "max") rfl)) <| al1 (He.free_ok X G (c.fact 12 (f := .free "sorted") rfl)) <| al1 (He.free_ok X G (c.fact 13 (f := .free "range") rfl)) <| al1 (He.free_ok X G (c.fact 14 (f := .free "list") rfl)) <| al1 (He.free_ok X G (c.fact 15 (f := .free "dict") rfl)) <| al1 (He.free_ok X G (c.fact 16 (f := .free "isinstance") rfl)) <| al1 (He.free_ok X G (c.fact 17 (f := .free "bool") rfl)) <| al0
  · cases e
  · cases e
  · cases e
theorem facts {f : Addr} (X : K.In h) (G : h.Ns mainGlobals mg) (hfa : mg ("law" : Str) = some (.ref f)) (c : He.SaysD fa fn K) (mo : ex K = true) (d : Nat) :
    ∃ fd : FuncData, (∀ (s : Shared) (v : Value), BindsTo s fd ⟨[v], []⟩ [("script", v)]) ∧ ∀ base : Heap, K.In base → base.Ns mainGlobals mg → FnOk P w K mg base (L2.CX P w) (2 * d + 2) f fd ["script"] (spC ⟨K, names, cls K, fun r => (rs K).lookup r⟩ (callD K71.pg (d + 1) 11) 1) := by
  obtain ⟨fd, F⟩ := c.def_ 11 (d := e11.d) rfl
  have e := hfa.symm.trans (He.glo_ok X G (c.fact 7 (f := .glo "law") rfl))
  cases e
  have b := FunD.bindsA (ps := ["script"]) F fun _ _ _ _ _ _ us hl => match us, hl with | [_], _ => rfl
  exact ⟨fd, fun s v => b s [v] rfl, fun base _ _ => def_ok (T := ⟨K, names, cls K, fun r => (rs K).lookup r⟩) (DefE.ok (T := ⟨K, names, cls K, fun r => (rs K).lookup r⟩) k11 F s11) (wd_all (st X G c mo) d)⟩
end
end K71H

namespace K71
open Ov
set_option maxHeartbeats 400000
theorem ALL0 : (type_of% @Ov.R.bind_ok) ∧ (type_of% @Ov.R.bind_exc) ∧ (type_of% @Ov.R.bind_bad) ∧ (type_of% @Ov.R.tb_true) ∧ (type_of% @Ov.R.tb_false) ∧ (type_of% @Ov.R.tb_none) ∧ (type_of% @Ov.R.ob_some) ∧ (type_of% @Ov.R.ob_none) ∧ (type_of% @Ov.R.opt_some) ∧ (type_of% @Ov.R.opt_none) ∧ (type_of% @Ov.R.calm_ok) ∧ (type_of% @Ov.R.fl_ok) ∧ (type_of% @Ov.R.fl_exc) ∧ (type_of% @Ov.R.fl_bad) ∧ (type_of% @Ov.Fl.sq_nx) ∧ (type_of% @Ov.Fl.sq_ct) ∧ (type_of% @Ov.Fl.sq_rt) ∧ (type_of% @Ov.Fl.sq_exc) ∧ (type_of% @Ov.Fl.sq_bad) ∧ (type_of% @Ov.Fl.lp_nx) ∧ (type_of% @Ov.Fl.lp_ct) ∧ (type_of% @Ov.Fl.lp_rt) ∧ (type_of% @Ov.Fl.lp_exc) ∧ (type_of% @Ov.Fl.lp_bad) ∧ (type_of% @Ov.Fl.tb_true) ∧ (type_of% @Ov.Fl.tb_false) ∧ (type_of% @Ov.Fl.tb_none) ∧ (type_of% @Ov.Fl.ob_some) ∧ (type_of% @Ov.Fl.ob_none) ∧ (type_of% @Ov.Fl.res_nx) := ⟨@Ov.R.bind_ok, @Ov.R.bind_exc, @Ov.R.bind_bad, @Ov.R.tb_true, @Ov.R.tb_false, @Ov.R.tb_none, @Ov.R.ob_some, @Ov.R.ob_none, @Ov.R.opt_some, @Ov.R.opt_none, @Ov.R.calm_ok, @Ov.R.fl_ok, @Ov.R.fl_exc, @Ov.R.fl_bad, @Ov.Fl.sq_nx, @Ov.Fl.sq_ct, @Ov.Fl.sq_rt, @Ov.Fl.sq_exc, @Ov.Fl.sq_bad, @Ov.Fl.lp_nx, @Ov.Fl.lp_ct, @Ov.Fl.lp_rt, @Ov.Fl.lp_exc, @Ov.Fl.lp_bad, @Ov.Fl.tb_true, @Ov.Fl.tb_false, @Ov.Fl.tb_none, @Ov.Fl.ob_some, @Ov.Fl.ob_none, @Ov.Fl.res_nx⟩
theorem ALL1 : (type_of% @Ov.Fl.res_rt) ∧ (type_of% @Ov.Fl.res_exc) ∧ (type_of% @Ov.slen_snew) ∧ (type_of% @Ov.slen_sput) ∧ (type_of% @Ov.truth_non) ∧ (type_of% @Ov.truth_bl) ∧ (type_of% @Ov.truth_int) ∧ (type_of% @Ov.truth_str) ∧ (type_of% @Ov.truth_tup) ∧ (type_of% @Ov.trueB_bl) ∧ (type_of% @Ov.add_int) ∧ (type_of% @Ov.sub_int) ∧ (type_of% @Ov.mod_int) ∧ (type_of% @Ov.div_int) ∧ (type_of% @Ov.mul_int) ∧ (type_of% @Ov.pow_int) ∧ (type_of% @Ov.add_str) ∧ (type_of% @Ov.add_tup) ∧ (type_of% @Ov.neg_int) ∧ (type_of% @Ov.alloc_ok) ∧ (type_of% @Ov.cmp_eq_int) ∧ (type_of% @Ov.cmp_ne_int) ∧ (type_of% @Ov.cmp_eq_str) ∧ (type_of% @Ov.cmp_ne_str) ∧ (type_of% @Ov.cmp_lt) ∧ (type_of% @Ov.cmp_le) ∧ (type_of% @Ov.cmp_gt) ∧ (type_of% @Ov.cmp_ge) ∧ (type_of% @Ov.cmp_is) ∧ (type_of% @Ov.sl3_tup) := ⟨@Ov.Fl.res_rt, @Ov.Fl.res_exc, @Ov.slen_snew, @Ov.slen_sput, @Ov.truth_non, @Ov.truth_bl, @Ov.truth_int, @Ov.truth_str, @Ov.truth_tup, @Ov.trueB_bl, @Ov.add_int, @Ov.sub_int, @Ov.mod_int, @Ov.div_int, @Ov.mul_int, @Ov.pow_int, @Ov.add_str, @Ov.add_tup, @Ov.neg_int, @Ov.alloc_ok, @Ov.cmp_eq_int, @Ov.cmp_ne_int, @Ov.cmp_eq_str, @Ov.cmp_ne_str, @Ov.cmp_lt, @Ov.cmp_le, @Ov.cmp_gt, @Ov.cmp_ge, @Ov.cmp_is, @Ov.sl3_tup⟩
theorem ALL2 : (type_of% @Ov.mul_str) ∧ (type_of% @Ov.cmp_isb) ∧ (type_of% @Ov.cmp_isnotb) ∧ (type_of% @Ov.cmp_isnot) ∧ (type_of% @Ov.ix_tup) ∧ (type_of% @Ov.len_tup) ∧ (type_of% @Ov.max_int) ∧ (type_of% @Ov.min_int) ∧ (type_of% @Ov.int_int) ∧ (type_of% @Ov.int_bl) ∧ (type_of% @Ov.abs_int) ∧ (type_of% @Ov.gm_call) ∧ (type_of% @Ov.isi_int_int) ∧ (type_of% @Ov.isi_int_bool) ∧ (type_of% @Ov.endR_int) ∧ (type_of% @Ov.endR_non) ∧ (type_of% @Ov.wk_tup) ∧ (type_of% @Ov.nil_isNil) ∧ (type_of% @Ov.k_isNil) ∧ (type_of% @Ov.ite_tt) ∧ (type_of% @Ov.ite_ft) ∧ (type_of% @Ov.newL0) ∧ (type_of% @Ov.newL1) ∧ (type_of% @Ov.newL2) ∧ (type_of% @Ov.newL3) ∧ (type_of% @Ov.newL4) ∧ (type_of% @Ov.newL5) ∧ (type_of% @Ov.newL6) ∧ (type_of% @Ov.pow_10_9) ∧ (type_of% @Ov.pow_10_18) := ⟨@Ov.mul_str, @Ov.cmp_isb, @Ov.cmp_isnotb, @Ov.cmp_isnot, @Ov.ix_tup, @Ov.len_tup, @Ov.max_int, @Ov.min_int, @Ov.int_int, @Ov.int_bl, @Ov.abs_int, @Ov.gm_call, @Ov.isi_int_int, @Ov.isi_int_bool, @Ov.endR_int, @Ov.endR_non, @Ov.wk_tup, @Ov.nil_isNil, @Ov.k_isNil, @Ov.ite_tt, @Ov.ite_ft, @Ov.newL0, @Ov.newL1, @Ov.newL2, @Ov.newL3, @Ov.newL4, @Ov.newL5, @Ov.newL6, @Ov.pow_10_9, @Ov.pow_10_18⟩
theorem ALL3 : (type_of% @Ov.pow_10_40) ∧ (type_of% @Ov.newL7) ∧ (type_of% @Ov.newL8) ∧ (type_of% @Ov.pow_10_12) ∧ (type_of% @Ov.pow_10_30) ∧ (type_of% @Ov.isi_str_str) ∧ (type_of% @Ov.RQ_ok) ∧ (type_of% @Ov.RQ_exc) ∧ (type_of% @Ov.RQ_bad) ∧ (type_of% @Ov.RQ_bind) ∧ (type_of% @Ov.RQ_tb) ∧ (type_of% @Ov.RQ_guard) ∧ (type_of% @Ov.RQ_calm) ∧ (type_of% @Ov.FQ_nx) ∧ (type_of% @Ov.FQ_ct) ∧ (type_of% @Ov.FQ_rt) ∧ (type_of% @Ov.FQ_exc) ∧ (type_of% @Ov.FQ_bad) ∧ (type_of% @Ov.FQ_sq) ∧ (type_of% @Ov.FQ_fl) ∧ (type_of% @Ov.FQ_tb) ∧ (type_of% @Ov.FQ_guard) ∧ (type_of% @Ov.RQ_res) ∧ (type_of% @Ov.isNon_non) ∧ (type_of% @Ov.range1) ∧ (type_of% @Ov.range2) ∧ (type_of% @Ov.ix_loc) ∧ (type_of% @Ov.ixO_lst) ∧ (type_of% @Ov.ixO_rol) ∧ (type_of% @Ov.ixO_dic) := ⟨@Ov.pow_10_40, @Ov.newL7, @Ov.newL8, @Ov.pow_10_12, @Ov.pow_10_30, @Ov.isi_str_str, @Ov.RQ_ok, @Ov.RQ_exc, @Ov.RQ_bad, @Ov.RQ_bind, @Ov.RQ_tb, @Ov.RQ_guard, @Ov.RQ_calm, @Ov.FQ_nx, @Ov.FQ_ct, @Ov.FQ_rt, @Ov.FQ_exc, @Ov.FQ_bad, @Ov.FQ_sq, @Ov.FQ_fl, @Ov.FQ_tb, @Ov.FQ_guard, @Ov.RQ_res, @Ov.isNon_non, @Ov.range1, @Ov.range2, @Ov.ix_loc, @Ov.ixO_lst, @Ov.ixO_rol, @Ov.ixO_dic⟩
theorem ALL4 : (type_of% @Ov.set_loc) ∧ (type_of% @Ov.setO_dic) ∧ (type_of% @Ov.len_loc) ∧ (type_of% @Ov.lenO_lst) ∧ (type_of% @Ov.lenO_rol) ∧ (type_of% @Ov.lenO_dicT) ∧ (type_of% @Ov.lenO_dic) ∧ (type_of% @Ov.len_str) ∧ (type_of% @Ov.lst_loc) ∧ (type_of% @Ov.lstO_lst) ∧ (type_of% @Ov.lstO_rol) ∧ (type_of% @Ov.truth_loc) ∧ (type_of% @Ov.truthO_lst) ∧ (type_of% @Ov.truthO_dic) ∧ (type_of% @Ov.add_loc) ∧ (type_of% @Ov.addO_rol) ∧ (type_of% @Ov.addO_lst) ∧ (type_of% @Ov.mul_loc) ∧ (type_of% @Ov.mulO_lst) ∧ (type_of% @Ov.kind_loc) ∧ (type_of% @Ov.kindO_append) ∧ (type_of% @Ov.kindO_pop) ∧ (type_of% @Ov.kindO_extend) ∧ (type_of% @Ov.kindO_clear) ∧ (type_of% @Ov.kindO_remove) ∧ (type_of% @Ov.kindO_get) ∧ (type_of% @Ov.kindO_dpop) ∧ (type_of% @Ov.kindO_dclear) ∧ (type_of% @Ov.kind_split) ∧ (type_of% @Ov.kind_join) := ⟨@Ov.set_loc, @Ov.setO_dic, @Ov.len_loc, @Ov.lenO_lst, @Ov.lenO_rol, @Ov.lenO_dicT, @Ov.lenO_dic, @Ov.len_str, @Ov.lst_loc, @Ov.lstO_lst, @Ov.lstO_rol, @Ov.truth_loc, @Ov.truthO_lst, @Ov.truthO_dic, @Ov.add_loc, @Ov.addO_rol, @Ov.addO_lst, @Ov.mul_loc, @Ov.mulO_lst, @Ov.kind_loc, @Ov.kindO_append, @Ov.kindO_pop, @Ov.kindO_extend, @Ov.kindO_clear, @Ov.kindO_remove, @Ov.kindO_get, @Ov.kindO_dpop, @Ov.kindO_dclear, @Ov.kind_split, @Ov.kind_join⟩
theorem ALL5 : (type_of% @Ov.kind_find) ∧ (type_of% @Ov.kind_count) ∧ (type_of% @Ov.kind_startswith) ∧ (type_of% @Ov.append_loc) ∧ (type_of% @Ov.appO_lst) ∧ (type_of% @Ov.pop_loc) ∧ (type_of% @Ov.extend_loc) ∧ (type_of% @Ov.extO_lst) ∧ (type_of% @Ov.clear_loc) ∧ (type_of% @Ov.clrO_lst) ∧ (type_of% @Ov.get1_loc) ∧ (type_of% @Ov.get1O_int) ∧ (type_of% @Ov.get1O_str) ∧ (type_of% @Ov.get1O_non) ∧ (type_of% @Ov.fit_int) ∧ (type_of% @Ov.fit_str) ∧ (type_of% @Ov.all_loc) ∧ (type_of% @Ov.get2_loc) ∧ (type_of% @Ov.getO_dic) ∧ (type_of% @Ov.list_loc) ∧ (type_of% @Ov.list_tup) ∧ (type_of% @Ov.listO_lst) ∧ (type_of% @Ov.listO_dic) ∧ (type_of% @Ov.dict_loc) ∧ (type_of% @Ov.dictO_lst) ∧ (type_of% @Ov.kindO_index) ∧ (type_of% @Ov.index_loc) ∧ (type_of% @Ov.idxO_some) ∧ (type_of% @Ov.idxT_some) ∧ (type_of% @Ov.dpop_loc) := ⟨@Ov.kind_find, @Ov.kind_count, @Ov.kind_startswith, @Ov.append_loc, @Ov.appO_lst, @Ov.pop_loc, @Ov.extend_loc, @Ov.extO_lst, @Ov.clear_loc, @Ov.clrO_lst, @Ov.get1_loc, @Ov.get1O_int, @Ov.get1O_str, @Ov.get1O_non, @Ov.fit_int, @Ov.fit_str, @Ov.all_loc, @Ov.get2_loc, @Ov.getO_dic, @Ov.list_loc, @Ov.list_tup, @Ov.listO_lst, @Ov.listO_dic, @Ov.dict_loc, @Ov.dictO_lst, @Ov.kindO_index, @Ov.index_loc, @Ov.idxO_some, @Ov.idxT_some, @Ov.dpop_loc⟩
theorem ALL6 : (type_of% @Ov.dpopO_dic) ∧ (type_of% @Ov.dpopT_some) ∧ (type_of% @Ov.dpopT_none) ∧ (type_of% @Ov.ixO_rod) ∧ (type_of% @Ov.dictO_dic) ∧ (type_of% @Ov.sum_loc) ∧ (type_of% @Ov.tuple_loc) ∧ (type_of% @Ov.tupO_some) ∧ (type_of% @Ov.walk_loc) ∧ (type_of% @Ov.walkO_lst) ∧ (type_of% @Ov.walkO_rol) ∧ (type_of% @Ov.walk_str) ∧ (type_of% @Ov.rev_loc) ∧ (type_of% @Ov.revO_lst) ∧ (type_of% @Ov.sl3_loc) ∧ (type_of% @Ov.sl3O_some) ∧ (type_of% @Ov.zip_loc) ∧ (type_of% @Ov.zipO_lst) ∧ (type_of% @Ov.zip_lt) ∧ (type_of% @Ov.zip_lk) ∧ (type_of% @Ov.zipLO_lst) ∧ (type_of% @Ov.len_ktp) ∧ (type_of% @Ov.eqb_ktp0) ∧ (type_of% @Ov.zip_tup) ∧ (type_of% @Ov.enum_str) ∧ (type_of% @Ov.enum_loc) ∧ (type_of% @Ov.enumO_lst) ∧ (type_of% @Ov.sl_loc) ∧ (type_of% @Ov.slO_some) ∧ (type_of% @Ov.dic_nil) := ⟨@Ov.dpopO_dic, @Ov.dpopT_some, @Ov.dpopT_none, @Ov.ixO_rod, @Ov.dictO_dic, @Ov.sum_loc, @Ov.tuple_loc, @Ov.tupO_some, @Ov.walk_loc, @Ov.walkO_lst, @Ov.walkO_rol, @Ov.walk_str, @Ov.rev_loc, @Ov.revO_lst, @Ov.sl3_loc, @Ov.sl3O_some, @Ov.zip_loc, @Ov.zipO_lst, @Ov.zip_lt, @Ov.zip_lk, @Ov.zipLO_lst, @Ov.len_ktp, @Ov.eqb_ktp0, @Ov.zip_tup, @Ov.enum_str, @Ov.enum_loc, @Ov.enumO_lst, @Ov.sl_loc, @Ov.slO_some, @Ov.dic_nil⟩
theorem ALL7 : (type_of% @Ov.sl_tup) ∧ (type_of% @Ov.sl_str) ∧ (type_of% @Ov.join_loc) ∧ (type_of% @Ov.join_tup) ∧ (type_of% @Ov.find_str) ∧ (type_of% @Ov.count_str) ∧ (type_of% @Ov.split_str) ∧ (type_of% @Ov.in_loc) ∧ (type_of% @Ov.inO_lst) ∧ (type_of% @Ov.inO_rol) ∧ (type_of% @Ov.inO_dic) ∧ (type_of% @Ov.in_tup) ∧ (type_of% @Ov.inT_some) ∧ (type_of% @Ov.cmp_in) ∧ (type_of% @Ov.cmp_notin) ∧ (type_of% @Ov.mod_i) ∧ (type_of% @Ov.div_i) ∧ (type_of% @Ov.mul_i) ∧ (type_of% @Ov.pow_i) ∧ (type_of% @Ov.add_s) ∧ (type_of% @Ov.add_t) ∧ (type_of% @Ov.newL_i) ∧ (type_of% @Ov.str_i) ∧ (type_of% @Ov.str_s) ∧ (type_of% @Ov.str_n) ∧ (type_of% @Ov.isi_loc) ∧ (type_of% @Ov.tyO_lst_tuple) ∧ (type_of% @Ov.tyO_lst_list) ∧ (type_of% @Ov.tyO_lst_int) ∧ (type_of% @Ov.tyO_lst_str) := ⟨@Ov.sl_tup, @Ov.sl_str, @Ov.join_loc, @Ov.join_tup, @Ov.find_str, @Ov.count_str, @Ov.split_str, @Ov.in_loc, @Ov.inO_lst, @Ov.inO_rol, @Ov.inO_dic, @Ov.in_tup, @Ov.inT_some, @Ov.cmp_in, @Ov.cmp_notin, @Ov.mod_i, @Ov.div_i, @Ov.mul_i, @Ov.pow_i, @Ov.add_s, @Ov.add_t, @Ov.newL_i, @Ov.str_i, @Ov.str_s, @Ov.str_n, @Ov.isi_loc, @Ov.tyO_lst_tuple, @Ov.tyO_lst_list, @Ov.tyO_lst_int, @Ov.tyO_lst_str⟩
theorem ALL8 : (type_of% @Ov.tyO_lst_bool) ∧ (type_of% @Ov.tyO_lst_dict) ∧ (type_of% @Ov.tyO_dic) ∧ (type_of% @Ov.isi_non) ∧ (type_of% @Ov.isi_bl_int) ∧ (type_of% @Ov.isi_bl_bool) ∧ (type_of% @Ov.isi_bl_str) ∧ (type_of% @Ov.isi_bl_tuple) ∧ (type_of% @Ov.isi_i_str) ∧ (type_of% @Ov.isi_i_tuple) ∧ (type_of% @Ov.isi_i_list) ∧ (type_of% @Ov.isi_i_dict) ∧ (type_of% @Ov.isi_s_int) ∧ (type_of% @Ov.isi_s_bool) ∧ (type_of% @Ov.isi_s_tuple) ∧ (type_of% @Ov.isi_t_int) ∧ (type_of% @Ov.isi_t_bool) ∧ (type_of% @Ov.isi_t_str) ∧ (type_of% @Ov.isi_t_tuple) ∧ (type_of% @Ov.aug_i) ∧ (type_of% @Ov.aug_sub) ∧ (type_of% @Ov.aug_s) ∧ (type_of% @Ov.neT_some) ∧ (type_of% @Ov.eqT_t) ∧ (type_of% @Ov.eqT_f) ∧ (type_of% @Ov.cmp_eq_tup) ∧ (type_of% @Ov.cmp_ne_tup) ∧ (type_of% @Ov.cast_0) ∧ (type_of% @Ov.cast_1) ∧ (type_of% @Ov.cast_2) := ⟨@Ov.tyO_lst_bool, @Ov.tyO_lst_dict, @Ov.tyO_dic, @Ov.isi_non, @Ov.isi_bl_int, @Ov.isi_bl_bool, @Ov.isi_bl_str, @Ov.isi_bl_tuple, @Ov.isi_i_str, @Ov.isi_i_tuple, @Ov.isi_i_list, @Ov.isi_i_dict, @Ov.isi_s_int, @Ov.isi_s_bool, @Ov.isi_s_tuple, @Ov.isi_t_int, @Ov.isi_t_bool, @Ov.isi_t_str, @Ov.isi_t_tuple, @Ov.aug_i, @Ov.aug_sub, @Ov.aug_s, @Ov.neT_some, @Ov.eqT_t, @Ov.eqT_f, @Ov.cmp_eq_tup, @Ov.cmp_ne_tup, @Ov.cast_0, @Ov.cast_1, @Ov.cast_2⟩
theorem ALL9 : (type_of% @Ov.cast_3) ∧ (type_of% @Ov.cast_4) ∧ (type_of% @Ov.cast_5) ∧ (type_of% @Ov.cast_6) ∧ (type_of% @Ov.cast_7) ∧ (type_of% @Ov.cast_8) ∧ (type_of% @Ov.cast_9) ∧ (type_of% @Ov.cast_10) ∧ (type_of% @Ov.cast_11) ∧ (type_of% @Ov.cast_12) ∧ (type_of% @Ov.cast_13) ∧ (type_of% @Ov.cast_14) ∧ (type_of% @Ov.cast_15) ∧ (type_of% @Ov.cast_16) ∧ (type_of% @Ov.cast_17) ∧ (type_of% @Ov.cast_18) ∧ (type_of% @Ov.cast_19) ∧ (type_of% @Ov.cast_20) ∧ (type_of% @Ov.cast_21) ∧ (type_of% @Ov.cast_22) ∧ (type_of% @Ov.cast_23) ∧ (type_of% @Ov.cast_24) ∧ (type_of% @Ov.cast_25) ∧ (type_of% @Ov.cast_26) ∧ (type_of% @Ov.cast_27) ∧ (type_of% @Ov.cast_28) ∧ (type_of% @Ov.cast_29) ∧ (type_of% @Ov.cast_30) ∧ (type_of% @Ov.cast_31) ∧ (type_of% @Ov.cast_32) := ⟨@Ov.cast_3, @Ov.cast_4, @Ov.cast_5, @Ov.cast_6, @Ov.cast_7, @Ov.cast_8, @Ov.cast_9, @Ov.cast_10, @Ov.cast_11, @Ov.cast_12, @Ov.cast_13, @Ov.cast_14, @Ov.cast_15, @Ov.cast_16, @Ov.cast_17, @Ov.cast_18, @Ov.cast_19, @Ov.cast_20, @Ov.cast_21, @Ov.cast_22, @Ov.cast_23, @Ov.cast_24, @Ov.cast_25, @Ov.cast_26, @Ov.cast_27, @Ov.cast_28, @Ov.cast_29, @Ov.cast_30, @Ov.cast_31, @Ov.cast_32⟩
theorem ALL10 : (type_of% @Ov.at_0) ∧ (type_of% @Ov.at_1) ∧ (type_of% @Ov.at_2) ∧ (type_of% @Ov.at_3) ∧ (type_of% @Ov.at_4) ∧ (type_of% @Ov.at_5) ∧ (type_of% @Ov.set1_0) ∧ (type_of% @Ov.set2_0) ∧ (type_of% @Ov.set2_1) ∧ (type_of% @Ov.set3_0) ∧ (type_of% @Ov.set3_1) ∧ (type_of% @Ov.set3_2) ∧ (type_of% @Ov.ggR_str) ∧ (type_of% @Ov.ggO_some) ∧ (type_of% @Ov.ggO_none) ∧ (type_of% @Ov.trR_tup) ∧ (type_of% @Ov.at_loc) ∧ (type_of% @Ov.atO_ins) ∧ (type_of% @Ov.sat_loc) ∧ (type_of% @Ov.satO_ins) ∧ (type_of% @Ov.mth_loc) ∧ (type_of% @Ov.cls_loc) ∧ (type_of% @Ov.clO_ins) ∧ (type_of% @Ov.lt_tup) ∧ (type_of% @Ov.lt_int) ∧ (type_of% @Ov.lt_str) ∧ (type_of% @Ov.lt_non) ∧ (type_of% @Ov.lt_bl) ∧ (type_of% @Ov.lt_loc) ∧ (type_of% @Ov.ltO_lst) := ⟨@Ov.at_0, @Ov.at_1, @Ov.at_2, @Ov.at_3, @Ov.at_4, @Ov.at_5, @Ov.set1_0, @Ov.set2_0, @Ov.set2_1, @Ov.set3_0, @Ov.set3_1, @Ov.set3_2, @Ov.ggR_str, @Ov.ggO_some, @Ov.ggO_none, @Ov.trR_tup, @Ov.at_loc, @Ov.atO_ins, @Ov.sat_loc, @Ov.satO_ins, @Ov.mth_loc, @Ov.cls_loc, @Ov.clO_ins, @Ov.lt_tup, @Ov.lt_int, @Ov.lt_str, @Ov.lt_non, @Ov.lt_bl, @Ov.lt_loc, @Ov.ltO_lst⟩
theorem ALL11 : (type_of% @Ov.ltO_dic) ∧ (type_of% @Ov.is_tup) ∧ (type_of% @Ov.is_int) ∧ (type_of% @Ov.is_str) ∧ (type_of% @Ov.is_non) ∧ (type_of% @Ov.isi_t_list) ∧ (type_of% @Ov.isi_s_list) ∧ (type_of% @Ov.isi_s_str) ∧ (type_of% @Ov.isi_bl_list) ∧ (type_of% @Ov.mul_t) ∧ (type_of% @Ov.and_i) ∧ (type_of% @Ov.shl_i) ∧ (type_of% @Ov.shr_i) ∧ (type_of% @Ov.gl_loc) ∧ (type_of% @Ov.glO_some) ∧ (type_of% @Ov.popi_loc) ∧ (type_of% @Ov.popi0) ∧ (type_of% @Ov.dpop1_loc) ∧ (type_of% @Ov.rem_loc) ∧ (type_of% @Ov.gm_init) ∧ (type_of% @Ov.cmp_ne_bl) ∧ (type_of% @Ov.cmp_eq_bl) := ⟨@Ov.ltO_dic, @Ov.is_tup, @Ov.is_int, @Ov.is_str, @Ov.is_non, @Ov.isi_t_list, @Ov.isi_s_list, @Ov.isi_s_str, @Ov.isi_bl_list, @Ov.mul_t, @Ov.and_i, @Ov.shl_i, @Ov.shr_i, @Ov.gl_loc, @Ov.glO_some, @Ov.popi_loc, @Ov.popi0, @Ov.dpop1_loc, @Ov.rem_loc, @Ov.gm_init, @Ov.cmp_ne_bl, @Ov.cmp_eq_bl⟩
local macro_rules
  | `(tactic| simp_arith) => `(tactic| simp -failIfUnchanged only [ALL0, ALL1, ALL2, ALL3, ALL4, ALL5, ALL6, ALL7, ALL8, ALL9, ALL10, ALL11, ↓reduceIte, reduceDIte, Nat.reduceAdd, Nat.reduceMul, Nat.reduceSub, Nat.reduceDiv, Nat.reduceMod, Nat.reducePow, Nat.reduceLT, Nat.reduceGT, Nat.reduceBEq, Nat.reduceBNe, Nat.reduceEqDiff, Nat.reduceBeqDiff, Nat.reduceBneDiff, Nat.reduceLeDiff, Nat.reduceSubDiff, Nat.reduceSucc, Int.reduceAdd, Int.reduceMul, Int.reduceSub, Int.reduceNeg, Int.reduceDiv, Int.reduceMod, Int.reducePow, Int.reduceLT, Int.reduceLE, Int.reduceGT, Int.reduceGE, Int.reduceEq, Int.reduceNe, Int.reduceBEq, Int.reduceBNe, Int.reduceAbs, Int.reduceToNat, Int.reduceNegSucc, Int.reduceOfNat, reduceCtorEq, lim, Bool.true_bne, Bool.false_bne, E.isNil, exec, ev, evs, evw, wkOf, eget, eset, tgSet, esets, wipeE, decide_eq_true_eq, decide_eq_false_iff_not, true_implies, false_implies, implies_true, true_and, and_true, false_and, and_false, true_or, or_true, Bool.true_and, Bool.and_true, Bool.false_and, Bool.and_false, Bool.true_or, Bool.or_true, Bool.false_or, Bool.or_false, Bool.not_true, Bool.not_false, Bool.not_eq_true', Bool.not_eq_false', Bool.false_eq_true, Bool.true_eq_false, decide_true, decide_false, not_true_eq_false, not_false_eq_true, List.length_cons, List.length_nil, R.bind_ok, R.opt_some, R.opt_none, R.ob_some, R.ob_none, Option.getD_some, Option.getD_none, eq_self, ne_eq, Bool.decide_eq_true])
  | `(tactic| simp_arith [$xs,*]) => `(tactic| simp -failIfUnchanged only [$xs,*, ALL0, ALL1, ALL2, ALL3, ALL4, ALL5, ALL6, ALL7, ALL8, ALL9, ALL10, ALL11, ↓reduceIte, reduceDIte, Nat.reduceAdd, Nat.reduceMul, Nat.reduceSub, Nat.reduceDiv, Nat.reduceMod, Nat.reducePow, Nat.reduceLT, Nat.reduceGT, Nat.reduceBEq, Nat.reduceBNe, Nat.reduceEqDiff, Nat.reduceBeqDiff, Nat.reduceBneDiff, Nat.reduceLeDiff, Nat.reduceSubDiff, Nat.reduceSucc, Int.reduceAdd, Int.reduceMul, Int.reduceSub, Int.reduceNeg, Int.reduceDiv, Int.reduceMod, Int.reducePow, Int.reduceLT, Int.reduceLE, Int.reduceGT, Int.reduceGE, Int.reduceEq, Int.reduceNe, Int.reduceBEq, Int.reduceBNe, Int.reduceAbs, Int.reduceToNat, Int.reduceNegSucc, Int.reduceOfNat, reduceCtorEq, lim, Bool.true_bne, Bool.false_bne, E.isNil, exec, ev, evs, evw, wkOf, eget, eset, tgSet, esets, wipeE, decide_eq_true_eq, decide_eq_false_iff_not, true_implies, false_implies, implies_true, true_and, and_true, false_and, and_false, true_or, or_true, Bool.true_and, Bool.and_true, Bool.false_and, Bool.and_false, Bool.true_or, Bool.or_true, Bool.false_or, Bool.or_false, Bool.not_true, Bool.not_false, Bool.not_eq_true', Bool.not_eq_false', Bool.false_eq_true, Bool.true_eq_false, decide_true, decide_false, not_true_eq_false, not_false_eq_true, List.length_cons, List.length_nil, R.bind_ok, R.opt_some, R.opt_none, R.ob_some, R.ob_none, Option.getD_some, Option.getD_none, eq_self, ne_eq, Bool.decide_eq_true])
  | `(tactic| simp_arith!) => `(tactic| simp -failIfUnchanged (disch := first | omega | rfl | (simp -failIfUnchanged only [Ov.slen_snew, Ov.slen_sput] <;> omega) | fail) only [sget_new', sget_old, sget_same, sget_ne, ALL0, ALL1, ALL2, ALL3, ALL4, ALL5, ALL6, ALL7, ALL8, ALL9, ALL10, ALL11, ↓reduceIte, reduceDIte, Nat.reduceAdd, Nat.reduceMul, Nat.reduceSub, Nat.reduceDiv, Nat.reduceMod, Nat.reducePow, Nat.reduceLT, Nat.reduceGT, Nat.reduceBEq, Nat.reduceBNe, Nat.reduceEqDiff, Nat.reduceBeqDiff, Nat.reduceBneDiff, Nat.reduceLeDiff, Nat.reduceSubDiff, Nat.reduceSucc, Int.reduceAdd, Int.reduceMul, Int.reduceSub, Int.reduceNeg, Int.reduceDiv, Int.reduceMod, Int.reducePow, Int.reduceLT, Int.reduceLE, Int.reduceGT, Int.reduceGE, Int.reduceEq, Int.reduceNe, Int.reduceBEq, Int.reduceBNe, Int.reduceAbs, Int.reduceToNat, Int.reduceNegSucc, Int.reduceOfNat, reduceCtorEq, lim, Bool.true_bne, Bool.false_bne, E.isNil, exec, ev, evs, evw, wkOf, eget, eset, tgSet, esets, wipeE, decide_eq_true_eq, decide_eq_false_iff_not, true_implies, false_implies, implies_true, true_and, and_true, false_and, and_false, true_or, or_true, Bool.true_and, Bool.and_true, Bool.false_and, Bool.and_false, Bool.true_or, Bool.or_true, Bool.false_or, Bool.or_false, Bool.not_true, Bool.not_false, Bool.not_eq_true', Bool.not_eq_false', Bool.false_eq_true, Bool.true_eq_false, decide_true, decide_false, not_true_eq_false, not_false_eq_true, List.length_cons, List.length_nil, R.bind_ok, R.opt_some, R.opt_none, R.ob_some, R.ob_none, Option.getD_some, Option.getD_none, eq_self, ne_eq, Bool.decide_eq_true])
  | `(tactic| simp_arith! [$xs,*]) => `(tactic| simp -failIfUnchanged (disch := first | omega | rfl | (simp -failIfUnchanged only [Ov.slen_snew, Ov.slen_sput] <;> omega) | fail) only [$xs,*, sget_new', sget_old, sget_same, sget_ne, ALL0, ALL1, ALL2, ALL3, ALL4, ALL5, ALL6, ALL7, ALL8, ALL9, ALL10, ALL11, ↓reduceIte, reduceDIte, Nat.reduceAdd, Nat.reduceMul, Nat.reduceSub, Nat.reduceDiv, Nat.reduceMod, Nat.reducePow, Nat.reduceLT, Nat.reduceGT, Nat.reduceBEq, Nat.reduceBNe, Nat.reduceEqDiff, Nat.reduceBeqDiff, Nat.reduceBneDiff, Nat.reduceLeDiff, Nat.reduceSubDiff, Nat.reduceSucc, Int.reduceAdd, Int.reduceMul, Int.reduceSub, Int.reduceNeg, Int.reduceDiv, Int.reduceMod, Int.reducePow, Int.reduceLT, Int.reduceLE, Int.reduceGT, Int.reduceGE, Int.reduceEq, Int.reduceNe, Int.reduceBEq, Int.reduceBNe, Int.reduceAbs, Int.reduceToNat, Int.reduceNegSucc, Int.reduceOfNat, reduceCtorEq, lim, Bool.true_bne, Bool.false_bne, E.isNil, exec, ev, evs, evw, wkOf, eget, eset, tgSet, esets, wipeE, decide_eq_true_eq, decide_eq_false_iff_not, true_implies, false_implies, implies_true, true_and, and_true, false_and, and_false, true_or, or_true, Bool.true_and, Bool.and_true, Bool.false_and, Bool.and_false, Bool.true_or, Bool.or_true, Bool.false_or, Bool.or_false, Bool.not_true, Bool.not_false, Bool.not_eq_true', Bool.not_eq_false', Bool.false_eq_true, Bool.true_eq_false, decide_true, decide_false, not_true_eq_false, not_false_eq_true, List.length_cons, List.length_nil, R.bind_ok, R.opt_some, R.opt_none, R.ob_some, R.ob_none, Option.getD_some, Option.getD_none, eq_self, ne_eq, Bool.decide_eq_true])
  | `(tactic| simp_arith at $h:ident) => `(tactic| simp -failIfUnchanged only [ALL0, ALL1, ALL2, ALL3, ALL4, ALL5, ALL6, ALL7, ALL8, ALL9, ALL10, ALL11, ↓reduceIte, reduceDIte, Nat.reduceAdd, Nat.reduceMul, Nat.reduceSub, Nat.reduceDiv, Nat.reduceMod, Nat.reducePow, Nat.reduceLT, Nat.reduceGT, Nat.reduceBEq, Nat.reduceBNe, Nat.reduceEqDiff, Nat.reduceBeqDiff, Nat.reduceBneDiff, Nat.reduceLeDiff, Nat.reduceSubDiff, Nat.reduceSucc, Int.reduceAdd, Int.reduceMul, Int.reduceSub, Int.reduceNeg, Int.reduceDiv, Int.reduceMod, Int.reducePow, Int.reduceLT, Int.reduceLE, Int.reduceGT, Int.reduceGE, Int.reduceEq, Int.reduceNe, Int.reduceBEq, Int.reduceBNe, Int.reduceAbs, Int.reduceToNat, Int.reduceNegSucc, Int.reduceOfNat, reduceCtorEq, lim, Bool.true_bne, Bool.false_bne, E.isNil, exec, ev, evs, evw, wkOf, eget, eset, tgSet, esets, wipeE, decide_eq_true_eq, decide_eq_false_iff_not, true_implies, false_implies, implies_true, true_and, and_true, false_and, and_false, true_or, or_true, Bool.true_and, Bool.and_true, Bool.false_and, Bool.and_false, Bool.true_or, Bool.or_true, Bool.false_or, Bool.or_false, Bool.not_true, Bool.not_false, Bool.not_eq_true', Bool.not_eq_false', Bool.false_eq_true, Bool.true_eq_false, decide_true, decide_false, not_true_eq_false, not_false_eq_true, List.length_cons, List.length_nil, R.bind_ok, R.opt_some, R.opt_none, R.ob_some, R.ob_none, Option.getD_some, Option.getD_none, eq_self, ne_eq, Bool.decide_eq_true] at $h:ident)
  | `(tactic| simp_arith [$xs,*] at $h:ident) => `(tactic| simp -failIfUnchanged only [$xs,*, ALL0, ALL1, ALL2, ALL3, ALL4, ALL5, ALL6, ALL7, ALL8, ALL9, ALL10, ALL11, ↓reduceIte, reduceDIte, Nat.reduceAdd, Nat.reduceMul, Nat.reduceSub, Nat.reduceDiv, Nat.reduceMod, Nat.reducePow, Nat.reduceLT, Nat.reduceGT, Nat.reduceBEq, Nat.reduceBNe, Nat.reduceEqDiff, Nat.reduceBeqDiff, Nat.reduceBneDiff, Nat.reduceLeDiff, Nat.reduceSubDiff, Nat.reduceSucc, Int.reduceAdd, Int.reduceMul, Int.reduceSub, Int.reduceNeg, Int.reduceDiv, Int.reduceMod, Int.reducePow, Int.reduceLT, Int.reduceLE, Int.reduceGT, Int.reduceGE, Int.reduceEq, Int.reduceNe, Int.reduceBEq, Int.reduceBNe, Int.reduceAbs, Int.reduceToNat, Int.reduceNegSucc, Int.reduceOfNat, reduceCtorEq, lim, Bool.true_bne, Bool.false_bne, E.isNil, exec, ev, evs, evw, wkOf, eget, eset, tgSet, esets, wipeE, decide_eq_true_eq, decide_eq_false_iff_not, true_implies, false_implies, implies_true, true_and, and_true, false_and, and_false, true_or, or_true, Bool.true_and, Bool.and_true, Bool.false_and, Bool.and_false, Bool.true_or, Bool.or_true, Bool.false_or, Bool.or_false, Bool.not_true, Bool.not_false, Bool.not_eq_true', Bool.not_eq_false', Bool.false_eq_true, Bool.true_eq_false, decide_true, decide_false, not_true_eq_false, not_false_eq_true, List.length_cons, List.length_nil, R.bind_ok, R.opt_some, R.opt_none, R.ob_some, R.ob_none, Option.getD_some, Option.getD_none, eq_self, ne_eq, Bool.decide_eq_true] at $h:ident)
  | `(tactic| simp_arith! at $h:ident) => `(tactic| simp -failIfUnchanged (disch := first | omega | rfl | (simp -failIfUnchanged only [Ov.slen_snew, Ov.slen_sput] <;> omega) | fail) only [sget_new', sget_old, sget_same, sget_ne, ALL0, ALL1, ALL2, ALL3, ALL4, ALL5, ALL6, ALL7, ALL8, ALL9, ALL10, ALL11, ↓reduceIte, reduceDIte, Nat.reduceAdd, Nat.reduceMul, Nat.reduceSub, Nat.reduceDiv, Nat.reduceMod, Nat.reducePow, Nat.reduceLT, Nat.reduceGT, Nat.reduceBEq, Nat.reduceBNe, Nat.reduceEqDiff, Nat.reduceBeqDiff, Nat.reduceBneDiff, Nat.reduceLeDiff, Nat.reduceSubDiff, Nat.reduceSucc, Int.reduceAdd, Int.reduceMul, Int.reduceSub, Int.reduceNeg, Int.reduceDiv, Int.reduceMod, Int.reducePow, Int.reduceLT, Int.reduceLE, Int.reduceGT, Int.reduceGE, Int.reduceEq, Int.reduceNe, Int.reduceBEq, Int.reduceBNe, Int.reduceAbs, Int.reduceToNat, Int.reduceNegSucc, Int.reduceOfNat, reduceCtorEq, lim, Bool.true_bne, Bool.false_bne, E.isNil, exec, ev, evs, evw, wkOf, eget, eset, tgSet, esets, wipeE, decide_eq_true_eq, decide_eq_false_iff_not, true_implies, false_implies, implies_true, true_and, and_true, false_and, and_false, true_or, or_true, Bool.true_and, Bool.and_true, Bool.false_and, Bool.and_false, Bool.true_or, Bool.or_true, Bool.false_or, Bool.or_false, Bool.not_true, Bool.not_false, Bool.not_eq_true', Bool.not_eq_false', Bool.false_eq_true, Bool.true_eq_false, decide_true, decide_false, not_true_eq_false, not_false_eq_true, List.length_cons, List.length_nil, R.bind_ok, R.opt_some, R.opt_none, R.ob_some, R.ob_none, Option.getD_some, Option.getD_none, eq_self, ne_eq, Bool.decide_eq_true] at $h:ident)
  | `(tactic| simp_arith! [$xs,*] at $h:ident) => `(tactic| simp -failIfUnchanged (disch := first | omega | rfl | (simp -failIfUnchanged only [Ov.slen_snew, Ov.slen_sput] <;> omega) | fail) only [$xs,*, sget_new', sget_old, sget_same, sget_ne, ALL0, ALL1, ALL2, ALL3, ALL4, ALL5, ALL6, ALL7, ALL8, ALL9, ALL10, ALL11, ↓reduceIte, reduceDIte, Nat.reduceAdd, Nat.reduceMul, Nat.reduceSub, Nat.reduceDiv, Nat.reduceMod, Nat.reducePow, Nat.reduceLT, Nat.reduceGT, Nat.reduceBEq, Nat.reduceBNe, Nat.reduceEqDiff, Nat.reduceBeqDiff, Nat.reduceBneDiff, Nat.reduceLeDiff, Nat.reduceSubDiff, Nat.reduceSucc, Int.reduceAdd, Int.reduceMul, Int.reduceSub, Int.reduceNeg, Int.reduceDiv, Int.reduceMod, Int.reducePow, Int.reduceLT, Int.reduceLE, Int.reduceGT, Int.reduceGE, Int.reduceEq, Int.reduceNe, Int.reduceBEq, Int.reduceBNe, Int.reduceAbs, Int.reduceToNat, Int.reduceNegSucc, Int.reduceOfNat, reduceCtorEq, lim, Bool.true_bne, Bool.false_bne, E.isNil, exec, ev, evs, evw, wkOf, eget, eset, tgSet, esets, wipeE, decide_eq_true_eq, decide_eq_false_iff_not, true_implies, false_implies, implies_true, true_and, and_true, false_and, and_false, true_or, or_true, Bool.true_and, Bool.and_true, Bool.false_and, Bool.and_false, Bool.true_or, Bool.or_true, Bool.false_or, Bool.or_false, Bool.not_true, Bool.not_false, Bool.not_eq_true', Bool.not_eq_false', Bool.false_eq_true, Bool.true_eq_false, decide_true, decide_false, not_true_eq_false, not_false_eq_true, List.length_cons, List.length_nil, R.bind_ok, R.opt_some, R.opt_none, R.ob_some, R.ob_none, Option.getD_some, Option.getD_none, eq_self, ne_eq, Bool.decide_eq_true] at $h:ident)
local macro_rules
  | `(tactic| simp!) => `(tactic| simp -failIfUnchanged only [ALL0, ALL1, ALL2, ALL3, ALL4, ALL5, ALL6, ALL7, ALL8, ALL9, ALL10, ALL11, Ov.q_bin, Ov.q_bin1, Ov.q_bin2, Ov.q_cmp, Ov.q_cmp1, Ov.q_cmp2, Ov.q_chn, Ov.q_chn1, Ov.q_chn2, Ov.q_chn3, Ov.q_not, Ov.q_not1, Ov.q_not2, Ov.q_neg, Ov.q_app, Ov.q_tb, Ov.q_tbt, Ov.q_tbf, Ov.q_and, Ov.q_or, Ov.q_andb, Ov.q_andi, Ov.q_andn, Ov.q_ands, Ov.q_andt, Ov.q_andl, Ov.q_orb, Ov.q_ori, Ov.q_orn, Ov.q_ors, Ov.q_ort, Ov.q_orl, Ov.q_ife, Ov.q_ife1, Ov.q_k, Ov.q_v, Ov.q_g, Ov.q_gin, Ov.q_gin1, Ov.q_gix, Ov.q_gix1, Ov.q_cons, Ov.q_a1, Ov.q_a2, Ov.q_nil, Ov.q_tup, Ov.q_tup1, Ov.q_lst, Ov.q_lst1, Ov.q_dic, Ov.q_bi, Ov.q_call, Ov.q_mk, Ov.q_ix, Ov.q_ix1, Ov.q_ix2, Ov.q_sl, Ov.q_sli, Ov.q_slj, Ov.q_sl3, Ov.q_end_i, Ov.q_end_n, Ov.q_slr, Ov.q_slr1, Ov.q_slr2, Ov.q_att, Ov.q_att1, Ov.q_isi, Ov.q_isi1, Ov.q_ss, Ov.q_gg, Ov.q_gg1, Ov.q_tr, Ov.q_bm, Ov.q_bm1, Ov.q_bmo, Ov.q_bm2, Ov.q_me, Ov.q_me1, Ov.q_meo, Ov.q_me2, Ov.q_lc, Ov.q_lc1, Ov.q_lcd, Ov.q_lcd1, Ov.q_some, Ov.q_tst, Ov.q_lci, Ov.q_wr, Ov.q_we, Ov.q_wrv, Ov.q_wz, Ov.q_of, Ov.q_of1, Ov.q_wv, Ov.q_wk, Ov.q_wbin, Ov.q_wlst, Ov.q_wtup, Ov.q_wix, Ov.q_wsl, Ov.q_watt, Ov.q_wcall, Ov.q_wme, Ov.q_wbm, Ov.q_wlc, Ov.q_wlist, Ov.q_wsort, Ov.q_xat, Ov.q_nxt, Ov.q_sq, Ov.q_skip, Ov.q_pass, Ov.q_cont, Ov.q_retN, Ov.q_knx, Ov.q_ex, Ov.q_ret, Ov.q_asg, Ov.q_asg1, Ov.q_asg2, Ov.q_oenv, Ov.q_asgA, Ov.q_sa1, Ov.q_sa2, Ov.q_asgS, Ov.q_ss1, Ov.q_ss2, Ov.q_ss3, Ov.q_asgX, Ov.q_x1, Ov.q_x2, Ov.q_x3, Ov.q_x4, Ov.q_x5, Ov.q_x6, Ov.q_x7, Ov.q_aug, Ov.q_aug1, Ov.q_aug2, Ov.q_if, Ov.q_if1, Ov.q_fr, Ov.q_fr1, Ov.q_frt, Ov.q_frt3, Ov.q_tn, Ov.q_f0, Ov.q_f1, Ov.q_frd, Ov.q_frd1, Ov.q_whl, Ov.q_raise, Ov.q_try, Ov.q_res, Ov.q_xres, Ov.q_augA, Ov.q_aua1, Ov.q_aua2, Ov.q_aua3, Ov.q_aua4, Ov.q_augS, Ov.q_aus1, Ov.q_aus2, Ov.q_aus3, Ov.q_aus4, Ov.q_aus5, Ov.q_asgL, Ov.q_asgL1, Ov.q_asgL2, Ov.q_lcT, Ov.q_lcT1, Ov.q_mk2, Ov.q_mk3, ↓reduceIte, reduceDIte, Nat.reduceAdd, Nat.reduceMul, Nat.reduceSub, Nat.reduceDiv, Nat.reduceMod, Nat.reducePow, Nat.reduceLT, Nat.reduceGT, Nat.reduceBEq, Nat.reduceBNe, Nat.reduceEqDiff, Nat.reduceBeqDiff, Nat.reduceBneDiff, Nat.reduceLeDiff, Nat.reduceSubDiff, Nat.reduceSucc, Int.reduceAdd, Int.reduceMul, Int.reduceSub, Int.reduceNeg, Int.reduceDiv, Int.reduceMod, Int.reducePow, Int.reduceLT, Int.reduceLE, Int.reduceGT, Int.reduceGE, Int.reduceEq, Int.reduceNe, Int.reduceBEq, Int.reduceBNe, Int.reduceAbs, Int.reduceToNat, Int.reduceNegSucc, Int.reduceOfNat, reduceCtorEq, lim, Bool.true_bne, Bool.false_bne, E.isNil, eget, eset, tgSet, esets, wipeE, decide_eq_true_eq, decide_eq_false_iff_not, true_implies, false_implies, implies_true, true_and, and_true, false_and, and_false, true_or, or_true, Bool.true_and, Bool.and_true, Bool.false_and, Bool.and_false, Bool.true_or, Bool.or_true, Bool.false_or, Bool.or_false, Bool.not_true, Bool.not_false, Bool.not_eq_true', Bool.not_eq_false', Bool.false_eq_true, Bool.true_eq_false, decide_true, decide_false, not_true_eq_false, not_false_eq_true, List.length_cons, List.length_nil, R.bind_ok, R.opt_some, R.opt_none, R.ob_some, R.ob_none, Option.getD_some, Option.getD_none, eq_self, ne_eq, Bool.decide_eq_true])
  | `(tactic| simp! [$xs,*]) => `(tactic| simp -failIfUnchanged only [$xs,*, ALL0, ALL1, ALL2, ALL3, ALL4, ALL5, ALL6, ALL7, ALL8, ALL9, ALL10, ALL11, Ov.q_bin, Ov.q_bin1, Ov.q_bin2, Ov.q_cmp, Ov.q_cmp1, Ov.q_cmp2, Ov.q_chn, Ov.q_chn1, Ov.q_chn2, Ov.q_chn3, Ov.q_not, Ov.q_not1, Ov.q_not2, Ov.q_neg, Ov.q_app, Ov.q_tb, Ov.q_tbt, Ov.q_tbf, Ov.q_and, Ov.q_or, Ov.q_andb, Ov.q_andi, Ov.q_andn, Ov.q_ands, Ov.q_andt, Ov.q_andl, Ov.q_orb, Ov.q_ori, Ov.q_orn, Ov.q_ors, Ov.q_ort, Ov.q_orl, Ov.q_ife, Ov.q_ife1, Ov.q_k, Ov.q_v, Ov.q_g, Ov.q_gin, Ov.q_gin1, Ov.q_gix, Ov.q_gix1, Ov.q_cons, Ov.q_a1, Ov.q_a2, Ov.q_nil, Ov.q_tup, Ov.q_tup1, Ov.q_lst, Ov.q_lst1, Ov.q_dic, Ov.q_bi, Ov.q_call, Ov.q_mk, Ov.q_ix, Ov.q_ix1, Ov.q_ix2, Ov.q_sl, Ov.q_sli, Ov.q_slj, Ov.q_sl3, Ov.q_end_i, Ov.q_end_n, Ov.q_slr, Ov.q_slr1, Ov.q_slr2, Ov.q_att, Ov.q_att1, Ov.q_isi, Ov.q_isi1, Ov.q_ss, Ov.q_gg, Ov.q_gg1, Ov.q_tr, Ov.q_bm, Ov.q_bm1, Ov.q_bmo, Ov.q_bm2, Ov.q_me, Ov.q_me1, Ov.q_meo, Ov.q_me2, Ov.q_lc, Ov.q_lc1, Ov.q_lcd, Ov.q_lcd1, Ov.q_some, Ov.q_tst, Ov.q_lci, Ov.q_wr, Ov.q_we, Ov.q_wrv, Ov.q_wz, Ov.q_of, Ov.q_of1, Ov.q_wv, Ov.q_wk, Ov.q_wbin, Ov.q_wlst, Ov.q_wtup, Ov.q_wix, Ov.q_wsl, Ov.q_watt, Ov.q_wcall, Ov.q_wme, Ov.q_wbm, Ov.q_wlc, Ov.q_wlist, Ov.q_wsort, Ov.q_xat, Ov.q_nxt, Ov.q_sq, Ov.q_skip, Ov.q_pass, Ov.q_cont, Ov.q_retN, Ov.q_knx, Ov.q_ex, Ov.q_ret, Ov.q_asg, Ov.q_asg1, Ov.q_asg2, Ov.q_oenv, Ov.q_asgA, Ov.q_sa1, Ov.q_sa2, Ov.q_asgS, Ov.q_ss1, Ov.q_ss2, Ov.q_ss3, Ov.q_asgX, Ov.q_x1, Ov.q_x2, Ov.q_x3, Ov.q_x4, Ov.q_x5, Ov.q_x6, Ov.q_x7, Ov.q_aug, Ov.q_aug1, Ov.q_aug2, Ov.q_if, Ov.q_if1, Ov.q_fr, Ov.q_fr1, Ov.q_frt, Ov.q_frt3, Ov.q_tn, Ov.q_f0, Ov.q_f1, Ov.q_frd, Ov.q_frd1, Ov.q_whl, Ov.q_raise, Ov.q_try, Ov.q_res, Ov.q_xres, Ov.q_augA, Ov.q_aua1, Ov.q_aua2, Ov.q_aua3, Ov.q_aua4, Ov.q_augS, Ov.q_aus1, Ov.q_aus2, Ov.q_aus3, Ov.q_aus4, Ov.q_aus5, Ov.q_asgL, Ov.q_asgL1, Ov.q_asgL2, Ov.q_lcT, Ov.q_lcT1, Ov.q_mk2, Ov.q_mk3, ↓reduceIte, reduceDIte, Nat.reduceAdd, Nat.reduceMul, Nat.reduceSub, Nat.reduceDiv, Nat.reduceMod, Nat.reducePow, Nat.reduceLT, Nat.reduceGT, Nat.reduceBEq, Nat.reduceBNe, Nat.reduceEqDiff, Nat.reduceBeqDiff, Nat.reduceBneDiff, Nat.reduceLeDiff, Nat.reduceSubDiff, Nat.reduceSucc, Int.reduceAdd, Int.reduceMul, Int.reduceSub, Int.reduceNeg, Int.reduceDiv, Int.reduceMod, Int.reducePow, Int.reduceLT, Int.reduceLE, Int.reduceGT, Int.reduceGE, Int.reduceEq, Int.reduceNe, Int.reduceBEq, Int.reduceBNe, Int.reduceAbs, Int.reduceToNat, Int.reduceNegSucc, Int.reduceOfNat, reduceCtorEq, lim, Bool.true_bne, Bool.false_bne, E.isNil, eget, eset, tgSet, esets, wipeE, decide_eq_true_eq, decide_eq_false_iff_not, true_implies, false_implies, implies_true, true_and, and_true, false_and, and_false, true_or, or_true, Bool.true_and, Bool.and_true, Bool.false_and, Bool.and_false, Bool.true_or, Bool.or_true, Bool.false_or, Bool.or_false, Bool.not_true, Bool.not_false, Bool.not_eq_true', Bool.not_eq_false', Bool.false_eq_true, Bool.true_eq_false, decide_true, decide_false, not_true_eq_false, not_false_eq_true, List.length_cons, List.length_nil, R.bind_ok, R.opt_some, R.opt_none, R.ob_some, R.ob_none, Option.getD_some, Option.getD_none, eq_self, ne_eq, Bool.decide_eq_true])
  | `(tactic| dsimp!) => `(tactic| simp -failIfUnchanged (disch := first | omega | rfl | (simp -failIfUnchanged only [Ov.slen_snew, Ov.slen_sput] <;> omega) | fail) only [sget_new', sget_old, sget_same, sget_ne, ALL0, ALL1, ALL2, ALL3, ALL4, ALL5, ALL6, ALL7, ALL8, ALL9, ALL10, ALL11, Ov.q_bin, Ov.q_bin1, Ov.q_bin2, Ov.q_cmp, Ov.q_cmp1, Ov.q_cmp2, Ov.q_chn, Ov.q_chn1, Ov.q_chn2, Ov.q_chn3, Ov.q_not, Ov.q_not1, Ov.q_not2, Ov.q_neg, Ov.q_app, Ov.q_tb, Ov.q_tbt, Ov.q_tbf, Ov.q_and, Ov.q_or, Ov.q_andb, Ov.q_andi, Ov.q_andn, Ov.q_ands, Ov.q_andt, Ov.q_andl, Ov.q_orb, Ov.q_ori, Ov.q_orn, Ov.q_ors, Ov.q_ort, Ov.q_orl, Ov.q_ife, Ov.q_ife1, Ov.q_k, Ov.q_v, Ov.q_g, Ov.q_gin, Ov.q_gin1, Ov.q_gix, Ov.q_gix1, Ov.q_cons, Ov.q_a1, Ov.q_a2, Ov.q_nil, Ov.q_tup, Ov.q_tup1, Ov.q_lst, Ov.q_lst1, Ov.q_dic, Ov.q_bi, Ov.q_call, Ov.q_mk, Ov.q_ix, Ov.q_ix1, Ov.q_ix2, Ov.q_sl, Ov.q_sli, Ov.q_slj, Ov.q_sl3, Ov.q_end_i, Ov.q_end_n, Ov.q_slr, Ov.q_slr1, Ov.q_slr2, Ov.q_att, Ov.q_att1, Ov.q_isi, Ov.q_isi1, Ov.q_ss, Ov.q_gg, Ov.q_gg1, Ov.q_tr, Ov.q_bm, Ov.q_bm1, Ov.q_bmo, Ov.q_bm2, Ov.q_me, Ov.q_me1, Ov.q_meo, Ov.q_me2, Ov.q_lc, Ov.q_lc1, Ov.q_lcd, Ov.q_lcd1, Ov.q_some, Ov.q_tst, Ov.q_lci, Ov.q_wr, Ov.q_we, Ov.q_wrv, Ov.q_wz, Ov.q_of, Ov.q_of1, Ov.q_wv, Ov.q_wk, Ov.q_wbin, Ov.q_wlst, Ov.q_wtup, Ov.q_wix, Ov.q_wsl, Ov.q_watt, Ov.q_wcall, Ov.q_wme, Ov.q_wbm, Ov.q_wlc, Ov.q_wlist, Ov.q_wsort, Ov.q_xat, Ov.q_nxt, Ov.q_sq, Ov.q_skip, Ov.q_pass, Ov.q_cont, Ov.q_retN, Ov.q_knx, Ov.q_ex, Ov.q_ret, Ov.q_asg, Ov.q_asg1, Ov.q_asg2, Ov.q_oenv, Ov.q_asgA, Ov.q_sa1, Ov.q_sa2, Ov.q_asgS, Ov.q_ss1, Ov.q_ss2, Ov.q_ss3, Ov.q_asgX, Ov.q_x1, Ov.q_x2, Ov.q_x3, Ov.q_x4, Ov.q_x5, Ov.q_x6, Ov.q_x7, Ov.q_aug, Ov.q_aug1, Ov.q_aug2, Ov.q_if, Ov.q_if1, Ov.q_fr, Ov.q_fr1, Ov.q_frt, Ov.q_frt3, Ov.q_tn, Ov.q_f0, Ov.q_f1, Ov.q_frd, Ov.q_frd1, Ov.q_whl, Ov.q_raise, Ov.q_try, Ov.q_res, Ov.q_xres, Ov.q_augA, Ov.q_aua1, Ov.q_aua2, Ov.q_aua3, Ov.q_aua4, Ov.q_augS, Ov.q_aus1, Ov.q_aus2, Ov.q_aus3, Ov.q_aus4, Ov.q_aus5, Ov.q_asgL, Ov.q_asgL1, Ov.q_asgL2, Ov.q_lcT, Ov.q_lcT1, Ov.q_mk2, Ov.q_mk3, ↓reduceIte, reduceDIte, Nat.reduceAdd, Nat.reduceMul, Nat.reduceSub, Nat.reduceDiv, Nat.reduceMod, Nat.reducePow, Nat.reduceLT, Nat.reduceGT, Nat.reduceBEq, Nat.reduceBNe, Nat.reduceEqDiff, Nat.reduceBeqDiff, Nat.reduceBneDiff, Nat.reduceLeDiff, Nat.reduceSubDiff, Nat.reduceSucc, Int.reduceAdd, Int.reduceMul, Int.reduceSub, Int.reduceNeg, Int.reduceDiv, Int.reduceMod, Int.reducePow, Int.reduceLT, Int.reduceLE, Int.reduceGT, Int.reduceGE, Int.reduceEq, Int.reduceNe, Int.reduceBEq, Int.reduceBNe, Int.reduceAbs, Int.reduceToNat, Int.reduceNegSucc, Int.reduceOfNat, reduceCtorEq, lim, Bool.true_bne, Bool.false_bne, E.isNil, eget, eset, tgSet, esets, wipeE, decide_eq_true_eq, decide_eq_false_iff_not, true_implies, false_implies, implies_true, true_and, and_true, false_and, and_false, true_or, or_true, Bool.true_and, Bool.and_true, Bool.false_and, Bool.and_false, Bool.true_or, Bool.or_true, Bool.false_or, Bool.or_false, Bool.not_true, Bool.not_false, Bool.not_eq_true', Bool.not_eq_false', Bool.false_eq_true, Bool.true_eq_false, decide_true, decide_false, not_true_eq_false, not_false_eq_true, List.length_cons, List.length_nil, R.bind_ok, R.opt_some, R.opt_none, R.ob_some, R.ob_none, Option.getD_some, Option.getD_none, eq_self, ne_eq, Bool.decide_eq_true])
  | `(tactic| dsimp! [$xs,*]) => `(tactic| simp -failIfUnchanged (disch := first | omega | rfl | (simp -failIfUnchanged only [Ov.slen_snew, Ov.slen_sput] <;> omega) | fail) only [$xs,*, sget_new', sget_old, sget_same, sget_ne, ALL0, ALL1, ALL2, ALL3, ALL4, ALL5, ALL6, ALL7, ALL8, ALL9, ALL10, ALL11, Ov.q_bin, Ov.q_bin1, Ov.q_bin2, Ov.q_cmp, Ov.q_cmp1, Ov.q_cmp2, Ov.q_chn, Ov.q_chn1, Ov.q_chn2, Ov.q_chn3, Ov.q_not, Ov.q_not1, Ov.q_not2, Ov.q_neg, Ov.q_app, Ov.q_tb, Ov.q_tbt, Ov.q_tbf, Ov.q_and, Ov.q_or, Ov.q_andb, Ov.q_andi, Ov.q_andn, Ov.q_ands, Ov.q_andt, Ov.q_andl, Ov.q_orb, Ov.q_ori, Ov.q_orn, Ov.q_ors, Ov.q_ort, Ov.q_orl, Ov.q_ife, Ov.q_ife1, Ov.q_k, Ov.q_v, Ov.q_g, Ov.q_gin, Ov.q_gin1, Ov.q_gix, Ov.q_gix1, Ov.q_cons, Ov.q_a1, Ov.q_a2, Ov.q_nil, Ov.q_tup, Ov.q_tup1, Ov.q_lst, Ov.q_lst1, Ov.q_dic, Ov.q_bi, Ov.q_call, Ov.q_mk, Ov.q_ix, Ov.q_ix1, Ov.q_ix2, Ov.q_sl, Ov.q_sli, Ov.q_slj, Ov.q_sl3, Ov.q_end_i, Ov.q_end_n, Ov.q_slr, Ov.q_slr1, Ov.q_slr2, Ov.q_att, Ov.q_att1, Ov.q_isi, Ov.q_isi1, Ov.q_ss, Ov.q_gg, Ov.q_gg1, Ov.q_tr, Ov.q_bm, Ov.q_bm1, Ov.q_bmo, Ov.q_bm2, Ov.q_me, Ov.q_me1, Ov.q_meo, Ov.q_me2, Ov.q_lc, Ov.q_lc1, Ov.q_lcd, Ov.q_lcd1, Ov.q_some, Ov.q_tst, Ov.q_lci, Ov.q_wr, Ov.q_we, Ov.q_wrv, Ov.q_wz, Ov.q_of, Ov.q_of1, Ov.q_wv, Ov.q_wk, Ov.q_wbin, Ov.q_wlst, Ov.q_wtup, Ov.q_wix, Ov.q_wsl, Ov.q_watt, Ov.q_wcall, Ov.q_wme, Ov.q_wbm, Ov.q_wlc, Ov.q_wlist, Ov.q_wsort, Ov.q_xat, Ov.q_nxt, Ov.q_sq, Ov.q_skip, Ov.q_pass, Ov.q_cont, Ov.q_retN, Ov.q_knx, Ov.q_ex, Ov.q_ret, Ov.q_asg, Ov.q_asg1, Ov.q_asg2, Ov.q_oenv, Ov.q_asgA, Ov.q_sa1, Ov.q_sa2, Ov.q_asgS, Ov.q_ss1, Ov.q_ss2, Ov.q_ss3, Ov.q_asgX, Ov.q_x1, Ov.q_x2, Ov.q_x3, Ov.q_x4, Ov.q_x5, Ov.q_x6, Ov.q_x7, Ov.q_aug, Ov.q_aug1, Ov.q_aug2, Ov.q_if, Ov.q_if1, Ov.q_fr, Ov.q_fr1, Ov.q_frt, Ov.q_frt3, Ov.q_tn, Ov.q_f0, Ov.q_f1, Ov.q_frd, Ov.q_frd1, Ov.q_whl, Ov.q_raise, Ov.q_try, Ov.q_res, Ov.q_xres, Ov.q_augA, Ov.q_aua1, Ov.q_aua2, Ov.q_aua3, Ov.q_aua4, Ov.q_augS, Ov.q_aus1, Ov.q_aus2, Ov.q_aus3, Ov.q_aus4, Ov.q_aus5, Ov.q_asgL, Ov.q_asgL1, Ov.q_asgL2, Ov.q_lcT, Ov.q_lcT1, Ov.q_mk2, Ov.q_mk3, ↓reduceIte, reduceDIte, Nat.reduceAdd, Nat.reduceMul, Nat.reduceSub, Nat.reduceDiv, Nat.reduceMod, Nat.reducePow, Nat.reduceLT, Nat.reduceGT, Nat.reduceBEq, Nat.reduceBNe, Nat.reduceEqDiff, Nat.reduceBeqDiff, Nat.reduceBneDiff, Nat.reduceLeDiff, Nat.reduceSubDiff, Nat.reduceSucc, Int.reduceAdd, Int.reduceMul, Int.reduceSub, Int.reduceNeg, Int.reduceDiv, Int.reduceMod, Int.reducePow, Int.reduceLT, Int.reduceLE, Int.reduceGT, Int.reduceGE, Int.reduceEq, Int.reduceNe, Int.reduceBEq, Int.reduceBNe, Int.reduceAbs, Int.reduceToNat, Int.reduceNegSucc, Int.reduceOfNat, reduceCtorEq, lim, Bool.true_bne, Bool.false_bne, E.isNil, eget, eset, tgSet, esets, wipeE, decide_eq_true_eq, decide_eq_false_iff_not, true_implies, false_implies, implies_true, true_and, and_true, false_and, and_false, true_or, or_true, Bool.true_and, Bool.and_true, Bool.false_and, Bool.and_false, Bool.true_or, Bool.or_true, Bool.false_or, Bool.or_false, Bool.not_true, Bool.not_false, Bool.not_eq_true', Bool.not_eq_false', Bool.false_eq_true, Bool.true_eq_false, decide_true, decide_false, not_true_eq_false, not_false_eq_true, List.length_cons, List.length_nil, R.bind_ok, R.opt_some, R.opt_none, R.ob_some, R.ob_none, Option.getD_some, Option.getD_none, eq_self, ne_eq, Bool.decide_eq_true])
  | `(tactic| simp! at $h:ident) => `(tactic| simp -failIfUnchanged only [ALL0, ALL1, ALL2, ALL3, ALL4, ALL5, ALL6, ALL7, ALL8, ALL9, ALL10, ALL11, Ov.q_bin, Ov.q_bin1, Ov.q_bin2, Ov.q_cmp, Ov.q_cmp1, Ov.q_cmp2, Ov.q_chn, Ov.q_chn1, Ov.q_chn2, Ov.q_chn3, Ov.q_not, Ov.q_not1, Ov.q_not2, Ov.q_neg, Ov.q_app, Ov.q_tb, Ov.q_tbt, Ov.q_tbf, Ov.q_and, Ov.q_or, Ov.q_andb, Ov.q_andi, Ov.q_andn, Ov.q_ands, Ov.q_andt, Ov.q_andl, Ov.q_orb, Ov.q_ori, Ov.q_orn, Ov.q_ors, Ov.q_ort, Ov.q_orl, Ov.q_ife, Ov.q_ife1, Ov.q_k, Ov.q_v, Ov.q_g, Ov.q_gin, Ov.q_gin1, Ov.q_gix, Ov.q_gix1, Ov.q_cons, Ov.q_a1, Ov.q_a2, Ov.q_nil, Ov.q_tup, Ov.q_tup1, Ov.q_lst, Ov.q_lst1, Ov.q_dic, Ov.q_bi, Ov.q_call, Ov.q_mk, Ov.q_ix, Ov.q_ix1, Ov.q_ix2, Ov.q_sl, Ov.q_sli, Ov.q_slj, Ov.q_sl3, Ov.q_end_i, Ov.q_end_n, Ov.q_slr, Ov.q_slr1, Ov.q_slr2, Ov.q_att, Ov.q_att1, Ov.q_isi, Ov.q_isi1, Ov.q_ss, Ov.q_gg, Ov.q_gg1, Ov.q_tr, Ov.q_bm, Ov.q_bm1, Ov.q_bmo, Ov.q_bm2, Ov.q_me, Ov.q_me1, Ov.q_meo, Ov.q_me2, Ov.q_lc, Ov.q_lc1, Ov.q_lcd, Ov.q_lcd1, Ov.q_some, Ov.q_tst, Ov.q_lci, Ov.q_wr, Ov.q_we, Ov.q_wrv, Ov.q_wz, Ov.q_of, Ov.q_of1, Ov.q_wv, Ov.q_wk, Ov.q_wbin, Ov.q_wlst, Ov.q_wtup, Ov.q_wix, Ov.q_wsl, Ov.q_watt, Ov.q_wcall, Ov.q_wme, Ov.q_wbm, Ov.q_wlc, Ov.q_wlist, Ov.q_wsort, Ov.q_xat, Ov.q_nxt, Ov.q_sq, Ov.q_skip, Ov.q_pass, Ov.q_cont, Ov.q_retN, Ov.q_knx, Ov.q_ex, Ov.q_ret, Ov.q_asg, Ov.q_asg1, Ov.q_asg2, Ov.q_oenv, Ov.q_asgA, Ov.q_sa1, Ov.q_sa2, Ov.q_asgS, Ov.q_ss1, Ov.q_ss2, Ov.q_ss3, Ov.q_asgX, Ov.q_x1, Ov.q_x2, Ov.q_x3, Ov.q_x4, Ov.q_x5, Ov.q_x6, Ov.q_x7, Ov.q_aug, Ov.q_aug1, Ov.q_aug2, Ov.q_if, Ov.q_if1, Ov.q_fr, Ov.q_fr1, Ov.q_frt, Ov.q_frt3, Ov.q_tn, Ov.q_f0, Ov.q_f1, Ov.q_frd, Ov.q_frd1, Ov.q_whl, Ov.q_raise, Ov.q_try, Ov.q_res, Ov.q_xres, Ov.q_augA, Ov.q_aua1, Ov.q_aua2, Ov.q_aua3, Ov.q_aua4, Ov.q_augS, Ov.q_aus1, Ov.q_aus2, Ov.q_aus3, Ov.q_aus4, Ov.q_aus5, Ov.q_asgL, Ov.q_asgL1, Ov.q_asgL2, Ov.q_lcT, Ov.q_lcT1, Ov.q_mk2, Ov.q_mk3, ↓reduceIte, reduceDIte, Nat.reduceAdd, Nat.reduceMul, Nat.reduceSub, Nat.reduceDiv, Nat.reduceMod, Nat.reducePow, Nat.reduceLT, Nat.reduceGT, Nat.reduceBEq, Nat.reduceBNe, Nat.reduceEqDiff, Nat.reduceBeqDiff, Nat.reduceBneDiff, Nat.reduceLeDiff, Nat.reduceSubDiff, Nat.reduceSucc, Int.reduceAdd, Int.reduceMul, Int.reduceSub, Int.reduceNeg, Int.reduceDiv, Int.reduceMod, Int.reducePow, Int.reduceLT, Int.reduceLE, Int.reduceGT, Int.reduceGE, Int.reduceEq, Int.reduceNe, Int.reduceBEq, Int.reduceBNe, Int.reduceAbs, Int.reduceToNat, Int.reduceNegSucc, Int.reduceOfNat, reduceCtorEq, lim, Bool.true_bne, Bool.false_bne, E.isNil, eget, eset, tgSet, esets, wipeE, decide_eq_true_eq, decide_eq_false_iff_not, true_implies, false_implies, implies_true, true_and, and_true, false_and, and_false, true_or, or_true, Bool.true_and, Bool.and_true, Bool.false_and, Bool.and_false, Bool.true_or, Bool.or_true, Bool.false_or, Bool.or_false, Bool.not_true, Bool.not_false, Bool.not_eq_true', Bool.not_eq_false', Bool.false_eq_true, Bool.true_eq_false, decide_true, decide_false, not_true_eq_false, not_false_eq_true, List.length_cons, List.length_nil, R.bind_ok, R.opt_some, R.opt_none, R.ob_some, R.ob_none, Option.getD_some, Option.getD_none, eq_self, ne_eq, Bool.decide_eq_true] at $h:ident)
  | `(tactic| simp! [$xs,*] at $h:ident) => `(tactic| simp -failIfUnchanged only [$xs,*, ALL0, ALL1, ALL2, ALL3, ALL4, ALL5, ALL6, ALL7, ALL8, ALL9, ALL10, ALL11, Ov.q_bin, Ov.q_bin1, Ov.q_bin2, Ov.q_cmp, Ov.q_cmp1, Ov.q_cmp2, Ov.q_chn, Ov.q_chn1, Ov.q_chn2, Ov.q_chn3, Ov.q_not, Ov.q_not1, Ov.q_not2, Ov.q_neg, Ov.q_app, Ov.q_tb, Ov.q_tbt, Ov.q_tbf, Ov.q_and, Ov.q_or, Ov.q_andb, Ov.q_andi, Ov.q_andn, Ov.q_ands, Ov.q_andt, Ov.q_andl, Ov.q_orb, Ov.q_ori, Ov.q_orn, Ov.q_ors, Ov.q_ort, Ov.q_orl, Ov.q_ife, Ov.q_ife1, Ov.q_k, Ov.q_v, Ov.q_g, Ov.q_gin, Ov.q_gin1, Ov.q_gix, Ov.q_gix1, Ov.q_cons, Ov.q_a1, Ov.q_a2, Ov.q_nil, Ov.q_tup, Ov.q_tup1, Ov.q_lst, Ov.q_lst1, Ov.q_dic, Ov.q_bi, Ov.q_call, Ov.q_mk, Ov.q_ix, Ov.q_ix1, Ov.q_ix2, Ov.q_sl, Ov.q_sli, Ov.q_slj, Ov.q_sl3, Ov.q_end_i, Ov.q_end_n, Ov.q_slr, Ov.q_slr1, Ov.q_slr2, Ov.q_att, Ov.q_att1, Ov.q_isi, Ov.q_isi1, Ov.q_ss, Ov.q_gg, Ov.q_gg1, Ov.q_tr, Ov.q_bm, Ov.q_bm1, Ov.q_bmo, Ov.q_bm2, Ov.q_me, Ov.q_me1, Ov.q_meo, Ov.q_me2, Ov.q_lc, Ov.q_lc1, Ov.q_lcd, Ov.q_lcd1, Ov.q_some, Ov.q_tst, Ov.q_lci, Ov.q_wr, Ov.q_we, Ov.q_wrv, Ov.q_wz, Ov.q_of, Ov.q_of1, Ov.q_wv, Ov.q_wk, Ov.q_wbin, Ov.q_wlst, Ov.q_wtup, Ov.q_wix, Ov.q_wsl, Ov.q_watt, Ov.q_wcall, Ov.q_wme, Ov.q_wbm, Ov.q_wlc, Ov.q_wlist, Ov.q_wsort, Ov.q_xat, Ov.q_nxt, Ov.q_sq, Ov.q_skip, Ov.q_pass, Ov.q_cont, Ov.q_retN, Ov.q_knx, Ov.q_ex, Ov.q_ret, Ov.q_asg, Ov.q_asg1, Ov.q_asg2, Ov.q_oenv, Ov.q_asgA, Ov.q_sa1, Ov.q_sa2, Ov.q_asgS, Ov.q_ss1, Ov.q_ss2, Ov.q_ss3, Ov.q_asgX, Ov.q_x1, Ov.q_x2, Ov.q_x3, Ov.q_x4, Ov.q_x5, Ov.q_x6, Ov.q_x7, Ov.q_aug, Ov.q_aug1, Ov.q_aug2, Ov.q_if, Ov.q_if1, Ov.q_fr, Ov.q_fr1, Ov.q_frt, Ov.q_frt3, Ov.q_tn, Ov.q_f0, Ov.q_f1, Ov.q_frd, Ov.q_frd1, Ov.q_whl, Ov.q_raise, Ov.q_try, Ov.q_res, Ov.q_xres, Ov.q_augA, Ov.q_aua1, Ov.q_aua2, Ov.q_aua3, Ov.q_aua4, Ov.q_augS, Ov.q_aus1, Ov.q_aus2, Ov.q_aus3, Ov.q_aus4, Ov.q_aus5, Ov.q_asgL, Ov.q_asgL1, Ov.q_asgL2, Ov.q_lcT, Ov.q_lcT1, Ov.q_mk2, Ov.q_mk3, ↓reduceIte, reduceDIte, Nat.reduceAdd, Nat.reduceMul, Nat.reduceSub, Nat.reduceDiv, Nat.reduceMod, Nat.reducePow, Nat.reduceLT, Nat.reduceGT, Nat.reduceBEq, Nat.reduceBNe, Nat.reduceEqDiff, Nat.reduceBeqDiff, Nat.reduceBneDiff, Nat.reduceLeDiff, Nat.reduceSubDiff, Nat.reduceSucc, Int.reduceAdd, Int.reduceMul, Int.reduceSub, Int.reduceNeg, Int.reduceDiv, Int.reduceMod, Int.reducePow, Int.reduceLT, Int.reduceLE, Int.reduceGT, Int.reduceGE, Int.reduceEq, Int.reduceNe, Int.reduceBEq, Int.reduceBNe, Int.reduceAbs, Int.reduceToNat, Int.reduceNegSucc, Int.reduceOfNat, reduceCtorEq, lim, Bool.true_bne, Bool.false_bne, E.isNil, eget, eset, tgSet, esets, wipeE, decide_eq_true_eq, decide_eq_false_iff_not, true_implies, false_implies, implies_true, true_and, and_true, false_and, and_false, true_or, or_true, Bool.true_and, Bool.and_true, Bool.false_and, Bool.and_false, Bool.true_or, Bool.or_true, Bool.false_or, Bool.or_false, Bool.not_true, Bool.not_false, Bool.not_eq_true', Bool.not_eq_false', Bool.false_eq_true, Bool.true_eq_false, decide_true, decide_false, not_true_eq_false, not_false_eq_true, List.length_cons, List.length_nil, R.bind_ok, R.opt_some, R.opt_none, R.ob_some, R.ob_none, Option.getD_some, Option.getD_none, eq_self, ne_eq, Bool.decide_eq_true] at $h:ident)
  | `(tactic| dsimp! at $h:ident) => `(tactic| simp -failIfUnchanged (disch := first | omega | rfl | (simp -failIfUnchanged only [Ov.slen_snew, Ov.slen_sput] <;> omega) | fail) only [sget_new', sget_old, sget_same, sget_ne, ALL0, ALL1, ALL2, ALL3, ALL4, ALL5, ALL6, ALL7, ALL8, ALL9, ALL10, ALL11, Ov.q_bin, Ov.q_bin1, Ov.q_bin2, Ov.q_cmp, Ov.q_cmp1, Ov.q_cmp2, Ov.q_chn, Ov.q_chn1, Ov.q_chn2, Ov.q_chn3, Ov.q_not, Ov.q_not1, Ov.q_not2, Ov.q_neg, Ov.q_app, Ov.q_tb, Ov.q_tbt, Ov.q_tbf, Ov.q_and, Ov.q_or, Ov.q_andb, Ov.q_andi, Ov.q_andn, Ov.q_ands, Ov.q_andt, Ov.q_andl, Ov.q_orb, Ov.q_ori, Ov.q_orn, Ov.q_ors, Ov.q_ort, Ov.q_orl, Ov.q_ife, Ov.q_ife1, Ov.q_k, Ov.q_v, Ov.q_g, Ov.q_gin, Ov.q_gin1, Ov.q_gix, Ov.q_gix1, Ov.q_cons, Ov.q_a1, Ov.q_a2, Ov.q_nil, Ov.q_tup, Ov.q_tup1, Ov.q_lst, Ov.q_lst1, Ov.q_dic, Ov.q_bi, Ov.q_call, Ov.q_mk, Ov.q_ix, Ov.q_ix1, Ov.q_ix2, Ov.q_sl, Ov.q_sli, Ov.q_slj, Ov.q_sl3, Ov.q_end_i, Ov.q_end_n, Ov.q_slr, Ov.q_slr1, Ov.q_slr2, Ov.q_att, Ov.q_att1, Ov.q_isi, Ov.q_isi1, Ov.q_ss, Ov.q_gg, Ov.q_gg1, Ov.q_tr, Ov.q_bm, Ov.q_bm1, Ov.q_bmo, Ov.q_bm2, Ov.q_me, Ov.q_me1, Ov.q_meo, Ov.q_me2, Ov.q_lc, Ov.q_lc1, Ov.q_lcd, Ov.q_lcd1, Ov.q_some, Ov.q_tst, Ov.q_lci, Ov.q_wr, Ov.q_we, Ov.q_wrv, Ov.q_wz, Ov.q_of, Ov.q_of1, Ov.q_wv, Ov.q_wk, Ov.q_wbin, Ov.q_wlst, Ov.q_wtup, Ov.q_wix, Ov.q_wsl, Ov.q_watt, Ov.q_wcall, Ov.q_wme, Ov.q_wbm, Ov.q_wlc, Ov.q_wlist, Ov.q_wsort, Ov.q_xat, Ov.q_nxt, Ov.q_sq, Ov.q_skip, Ov.q_pass, Ov.q_cont, Ov.q_retN, Ov.q_knx, Ov.q_ex, Ov.q_ret, Ov.q_asg, Ov.q_asg1, Ov.q_asg2, Ov.q_oenv, Ov.q_asgA, Ov.q_sa1, Ov.q_sa2, Ov.q_asgS, Ov.q_ss1, Ov.q_ss2, Ov.q_ss3, Ov.q_asgX, Ov.q_x1, Ov.q_x2, Ov.q_x3, Ov.q_x4, Ov.q_x5, Ov.q_x6, Ov.q_x7, Ov.q_aug, Ov.q_aug1, Ov.q_aug2, Ov.q_if, Ov.q_if1, Ov.q_fr, Ov.q_fr1, Ov.q_frt, Ov.q_frt3, Ov.q_tn, Ov.q_f0, Ov.q_f1, Ov.q_frd, Ov.q_frd1, Ov.q_whl, Ov.q_raise, Ov.q_try, Ov.q_res, Ov.q_xres, Ov.q_augA, Ov.q_aua1, Ov.q_aua2, Ov.q_aua3, Ov.q_aua4, Ov.q_augS, Ov.q_aus1, Ov.q_aus2, Ov.q_aus3, Ov.q_aus4, Ov.q_aus5, Ov.q_asgL, Ov.q_asgL1, Ov.q_asgL2, Ov.q_lcT, Ov.q_lcT1, Ov.q_mk2, Ov.q_mk3, ↓reduceIte, reduceDIte, Nat.reduceAdd, Nat.reduceMul, Nat.reduceSub, Nat.reduceDiv, Nat.reduceMod, Nat.reducePow, Nat.reduceLT, Nat.reduceGT, Nat.reduceBEq, Nat.reduceBNe, Nat.reduceEqDiff, Nat.reduceBeqDiff, Nat.reduceBneDiff, Nat.reduceLeDiff, Nat.reduceSubDiff, Nat.reduceSucc, Int.reduceAdd, Int.reduceMul, Int.reduceSub, Int.reduceNeg, Int.reduceDiv, Int.reduceMod, Int.reducePow, Int.reduceLT, Int.reduceLE, Int.reduceGT, Int.reduceGE, Int.reduceEq, Int.reduceNe, Int.reduceBEq, Int.reduceBNe, Int.reduceAbs, Int.reduceToNat, Int.reduceNegSucc, Int.reduceOfNat, reduceCtorEq, lim, Bool.true_bne, Bool.false_bne, E.isNil, eget, eset, tgSet, esets, wipeE, decide_eq_true_eq, decide_eq_false_iff_not, true_implies, false_implies, implies_true, true_and, and_true, false_and, and_false, true_or, or_true, Bool.true_and, Bool.and_true, Bool.false_and, Bool.and_false, Bool.true_or, Bool.or_true, Bool.false_or, Bool.or_false, Bool.not_true, Bool.not_false, Bool.not_eq_true', Bool.not_eq_false', Bool.false_eq_true, Bool.true_eq_false, decide_true, decide_false, not_true_eq_false, not_false_eq_true, List.length_cons, List.length_nil, R.bind_ok, R.opt_some, R.opt_none, R.ob_some, R.ob_none, Option.getD_some, Option.getD_none, eq_self, ne_eq, Bool.decide_eq_true] at $h:ident)
  | `(tactic| dsimp! [$xs,*] at $h:ident) => `(tactic| simp -failIfUnchanged (disch := first | omega | rfl | (simp -failIfUnchanged only [Ov.slen_snew, Ov.slen_sput] <;> omega) | fail) only [$xs,*, sget_new', sget_old, sget_same, sget_ne, ALL0, ALL1, ALL2, ALL3, ALL4, ALL5, ALL6, ALL7, ALL8, ALL9, ALL10, ALL11, Ov.q_bin, Ov.q_bin1, Ov.q_bin2, Ov.q_cmp, Ov.q_cmp1, Ov.q_cmp2, Ov.q_chn, Ov.q_chn1, Ov.q_chn2, Ov.q_chn3, Ov.q_not, Ov.q_not1, Ov.q_not2, Ov.q_neg, Ov.q_app, Ov.q_tb, Ov.q_tbt, Ov.q_tbf, Ov.q_and, Ov.q_or, Ov.q_andb, Ov.q_andi, Ov.q_andn, Ov.q_ands, Ov.q_andt, Ov.q_andl, Ov.q_orb, Ov.q_ori, Ov.q_orn, Ov.q_ors, Ov.q_ort, Ov.q_orl, Ov.q_ife, Ov.q_ife1, Ov.q_k, Ov.q_v, Ov.q_g, Ov.q_gin, Ov.q_gin1, Ov.q_gix, Ov.q_gix1, Ov.q_cons, Ov.q_a1, Ov.q_a2, Ov.q_nil, Ov.q_tup, Ov.q_tup1, Ov.q_lst, Ov.q_lst1, Ov.q_dic, Ov.q_bi, Ov.q_call, Ov.q_mk, Ov.q_ix, Ov.q_ix1, Ov.q_ix2, Ov.q_sl, Ov.q_sli, Ov.q_slj, Ov.q_sl3, Ov.q_end_i, Ov.q_end_n, Ov.q_slr, Ov.q_slr1, Ov.q_slr2, Ov.q_att, Ov.q_att1, Ov.q_isi, Ov.q_isi1, Ov.q_ss, Ov.q_gg, Ov.q_gg1, Ov.q_tr, Ov.q_bm, Ov.q_bm1, Ov.q_bmo, Ov.q_bm2, Ov.q_me, Ov.q_me1, Ov.q_meo, Ov.q_me2, Ov.q_lc, Ov.q_lc1, Ov.q_lcd, Ov.q_lcd1, Ov.q_some, Ov.q_tst, Ov.q_lci, Ov.q_wr, Ov.q_we, Ov.q_wrv, Ov.q_wz, Ov.q_of, Ov.q_of1, Ov.q_wv, Ov.q_wk, Ov.q_wbin, Ov.q_wlst, Ov.q_wtup, Ov.q_wix, Ov.q_wsl, Ov.q_watt, Ov.q_wcall, Ov.q_wme, Ov.q_wbm, Ov.q_wlc, Ov.q_wlist, Ov.q_wsort, Ov.q_xat, Ov.q_nxt, Ov.q_sq, Ov.q_skip, Ov.q_pass, Ov.q_cont, Ov.q_retN, Ov.q_knx, Ov.q_ex, Ov.q_ret, Ov.q_asg, Ov.q_asg1, Ov.q_asg2, Ov.q_oenv, Ov.q_asgA, Ov.q_sa1, Ov.q_sa2, Ov.q_asgS, Ov.q_ss1, Ov.q_ss2, Ov.q_ss3, Ov.q_asgX, Ov.q_x1, Ov.q_x2, Ov.q_x3, Ov.q_x4, Ov.q_x5, Ov.q_x6, Ov.q_x7, Ov.q_aug, Ov.q_aug1, Ov.q_aug2, Ov.q_if, Ov.q_if1, Ov.q_fr, Ov.q_fr1, Ov.q_frt, Ov.q_frt3, Ov.q_tn, Ov.q_f0, Ov.q_f1, Ov.q_frd, Ov.q_frd1, Ov.q_whl, Ov.q_raise, Ov.q_try, Ov.q_res, Ov.q_xres, Ov.q_augA, Ov.q_aua1, Ov.q_aua2, Ov.q_aua3, Ov.q_aua4, Ov.q_augS, Ov.q_aus1, Ov.q_aus2, Ov.q_aus3, Ov.q_aus4, Ov.q_aus5, Ov.q_asgL, Ov.q_asgL1, Ov.q_asgL2, Ov.q_lcT, Ov.q_lcT1, Ov.q_mk2, Ov.q_mk3, ↓reduceIte, reduceDIte, Nat.reduceAdd, Nat.reduceMul, Nat.reduceSub, Nat.reduceDiv, Nat.reduceMod, Nat.reducePow, Nat.reduceLT, Nat.reduceGT, Nat.reduceBEq, Nat.reduceBNe, Nat.reduceEqDiff, Nat.reduceBeqDiff, Nat.reduceBneDiff, Nat.reduceLeDiff, Nat.reduceSubDiff, Nat.reduceSucc, Int.reduceAdd, Int.reduceMul, Int.reduceSub, Int.reduceNeg, Int.reduceDiv, Int.reduceMod, Int.reducePow, Int.reduceLT, Int.reduceLE, Int.reduceGT, Int.reduceGE, Int.reduceEq, Int.reduceNe, Int.reduceBEq, Int.reduceBNe, Int.reduceAbs, Int.reduceToNat, Int.reduceNegSucc, Int.reduceOfNat, reduceCtorEq, lim, Bool.true_bne, Bool.false_bne, E.isNil, eget, eset, tgSet, esets, wipeE, decide_eq_true_eq, decide_eq_false_iff_not, true_implies, false_implies, implies_true, true_and, and_true, false_and, and_false, true_or, or_true, Bool.true_and, Bool.and_true, Bool.false_and, Bool.and_false, Bool.true_or, Bool.or_true, Bool.false_or, Bool.or_false, Bool.not_true, Bool.not_false, Bool.not_eq_true', Bool.not_eq_false', Bool.false_eq_true, Bool.true_eq_false, decide_true, decide_false, not_true_eq_false, not_false_eq_true, List.length_cons, List.length_nil, R.bind_ok, R.opt_some, R.opt_none, R.ob_some, R.ob_none, Option.getD_some, Option.getD_none, eq_self, ne_eq, Bool.decide_eq_true] at $h:ident)
/-- the deck of a stream, and what stands beside it: k draws at most were made -/
def Deck (s : Store) (r : Nat) (k : Int) (F : List (Nat × Ob)) : Prop := ∃ a w c : Int, Own s ((r, .lst [.int a, .int w, .int c]) :: F) ∧ 0 ≤ c ∧ c ≤ k
theorem Deck.new {s : Store} {r : Nat} {k : Int} {F : List (Nat × Ob)} {o : Ob} (h : Deck s r k F) : Deck (snew s o) r k ((slen s, o) :: F) := by
  obtain ⟨a, b, f, h, k⟩ := h
  exact ⟨a, b, f, h.new.swap, k⟩
theorem Deck.newx {s : Store} {r : Nat} {k : Int} {F : List (Nat × Ob)} {o : Ob} (h : Deck s r k F) : Deck (snew s o) r k F := by
  obtain ⟨a, b, f, h, k⟩ := h
  exact ⟨a, b, f, h.newx, k⟩
theorem Deck.tail {s : Store} {r : Nat} {k : Int} {F : List (Nat × Ob)} {p : Nat × Ob} (h : Deck s r k (p :: F)) : Deck s r k F := by
  obtain ⟨a, b, f, h, k⟩ := h
  exact ⟨a, b, f, h.drop1, k⟩
theorem Deck.own {s : Store} {r : Nat} {k : Int} {F : List (Nat × Ob)} (h : Deck s r k F) : Own s F := by
  obtain ⟨a, b, f, h, k⟩ := h
  exact h.tail
theorem Deck.get {s : Store} {r l : Nat} {k : Int} {F : List (Nat × Ob)} {o : Ob} (h : Deck s r k ((l, o) :: F)) : sget s l = some o := h.own.get
theorem Deck.swap {s : Store} {r : Nat} {k : Int} {F : List (Nat × Ob)} {p q : Nat × Ob} (h : Deck s r k (p :: q :: F)) : Deck s r k (q :: p :: F) := by
  obtain ⟨a, b, f, h, k⟩ := h
  exact ⟨a, b, f, h.swap1, k⟩
theorem Deck.put {s : Store} {r l : Nat} {k : Int} {F : List (Nat × Ob)} {o u : Ob} (h : Deck s r k ((l, o) :: F)) : Deck (sput s l u) r k ((l, u) :: F) := by
  obtain ⟨a, b, f, h, k⟩ := h
  exact ⟨a, b, f, h.put1, k⟩
theorem Deck.le {s : Store} {r : Nat} {k j : Int} {F : List (Nat × Ob)} (h : Deck s r k F) (hj : k ≤ j) : Deck s r j F := by
  obtain ⟨a, b, f, h, k0, k1⟩ := h
  exact ⟨a, b, f, h, k0, Int.le_trans k1 hj⟩
theorem take_ok {d r : Nat} {m k : Int} {s : Store} {F : List (Nat × Ob)} (h : Deck s r k F) (hm : 0 < m) (hm2 : m < 10 ^ 60) (hk : k < 1000000000) :
    RQ (callD pg (d + 1) 6 [.loc r, .int m] s) (fun v s' => ∃ i : Int, v = .int i ∧ 0 ≤ i ∧ i < m ∧ Deck s' r (k + 1) F) NoX := by
  obtain ⟨a, w, c, h, h0, h1⟩ := h
  rw [u__law_take]
  simp_arith [b__law_take, h.get]
  refine ⟨fun h2 => ?_, fun h2 => ?_⟩
  · repeat (refine And.intro (by omega) ?_)
    refine ⟨_, rfl, Int.emod_nonneg _ (by omega), Int.emod_lt_of_pos _ hm, _, _, _, h.put, h0, by omega⟩
  · have g := h.put (u := .lst [.int a, .int w, .int (c + 1)])
    have p1 := Int.emod_nonneg a (show (2147483647 : Int) ≠ 0 by omega)
    have p2 := Int.emod_lt_of_pos a (show (0 : Int) < 2147483647 by omega)
    simp_arith [g.get]
    repeat (refine And.intro (by omega) ?_)
    generalize (a % 2147483647 * ((c + 1) * (c + 1) + 48271) + (c + 1)) = x
    have q1 := Int.emod_nonneg x (show (2147483629 : Int) ≠ 0 by omega)
    have q2 := Int.emod_lt_of_pos x (show (0 : Int) < 2147483629 by omega)
    repeat (refine And.intro (by omega) ?_)
    exact ⟨_, rfl, Int.emod_nonneg _ (by omega), Int.emod_lt_of_pos _ hm, _, _, _, g, by omega, by omega⟩
theorem cell_ok {d : Nat} {ns : List Int} {k : Int} {s : Store} (h : sget s 0 = some (.rol (ns.map .int))) (hk : 0 ≤ k) :
    RQ (callD pg (d + 1) 5 [.loc 0, .int k] s) (fun v s' => (∃ i : Int, v = .int i) ∧ s = s') NoX := by
  rw [u__law_cell_at]
  simp_arith [b__law_cell_at, h]
  refine ⟨fun hl => RQ_at hk hl fun v hv _ => ?_, fun _ => ⟨_, rfl⟩⟩
  obtain ⟨i, _, rfl⟩ := List.mem_map.mp hv
  exact ⟨⟨i, rfl⟩, rfl⟩
/-- the cells and their sum are walked -/
theorem cells_sum {ns : List Int} {n : Int} {x : Val} (h : x ∈ cut (ns.map Val.int) none (some n) ++ [Val.int (ns.take n.toNat).sum]) : ∃ c : Int, x = .int c := by
  rcases List.mem_append.mp h with h | h
  · obtain ⟨c, _, rfl⟩ := List.mem_map.mp (cut_mem h); exact ⟨c, rfl⟩
  · exact ⟨_, List.mem_singleton.mp h⟩
/-- the start of a law that walks its cells and their sum -/
theorem cells_all {ns : List Int} (hn : ns.length ≤ 63) : intsOf (cut (List.map Val.int ns) none (some 63)) = some ns ∧ cut (List.map Val.int ns) none (some 63) = ns.map .int ∧
    (List.map Val.int ns ++ [Val.int ns.sum]).length ≤ 16777216 ∧ ∀ x ∈ List.map Val.int ns ++ [Val.int ns.sum], ∃ c : Int, x = .int c := by
  have hc : cut (List.map Val.int ns) none (some 63) = ns.map .int := cut_all (by simp; omega)
  refine ⟨by rw [hc]; exact intsOf_map ns, hc, by simp; omega, fun x hx => ?_⟩
  rcases List.mem_append.mp hx with h | h
  · obtain ⟨c, _, rfl⟩ := List.mem_map.mp h; exact ⟨c, rfl⟩
  · exact ⟨_, List.mem_singleton.mp h⟩

structure WorkerV where
  trade : Val
  done : Val
  answers : Val
def WorkerV.fs (r : WorkerV) : List (Nat × Val) := [(0, r.trade), (1, r.done), (2, r.answers)]
theorem WorkerV.lk_trade (r : WorkerV) : r.fs.lookup 0 = some r.trade := rfl
theorem WorkerV.pt_trade (r : WorkerV) (v : Val) : putF 0 v r.fs = WorkerV.fs { r with trade := v } := rfl
theorem WorkerV.lk_done (r : WorkerV) : r.fs.lookup 1 = some r.done := rfl
theorem WorkerV.pt_done (r : WorkerV) (v : Val) : putF 1 v r.fs = WorkerV.fs { r with done := v } := rfl
theorem WorkerV.lk_answers (r : WorkerV) : r.fs.lookup 2 = some r.answers := rfl
theorem WorkerV.pt_answers (r : WorkerV) (v : Val) : putF 2 v r.fs = WorkerV.fs { r with answers := v } := rfl
theorem WorkerV.ln (r : WorkerV) : r.fs.length = 3 := rfl
theorem WorkerV.mt_do (r : WorkerV) (c : Nat → List Val → Store → R Val) : mthO (gmOf pg c) (some (.ins 0 r.fs)) 5 = some 2 := rfl
theorem WorkerV.mt_made_of (r : WorkerV) (c : Nat → List Val → Store → R Val) : mthO (gmOf pg c) (some (.ins 0 r.fs)) 3 = some 3 := rfl
theorem WorkerV.mt_deeds (r : WorkerV) (c : Nat → List Val → Store → R Val) : mthO (gmOf pg c) (some (.ins 0 r.fs)) 4 = some 4 := rfl
theorem WorkerV.ini : pg.init 0 = some 1 := rfl
theorem ne_kd_0 : (s_sum = s_count) = False := eq_false (by decide)
theorem ne_kd_1 : (s_count = s_sum) = False := eq_false (by decide)
/-! ### worths, spots -/
def woV : Option Int → Val
  | none => .non
  | some i => .int i
def spot (k : Int × Int) : Val := .tup [.int k.1, .int k.2]
section
variable {α : Type}
def tput (l : List ((Int × Int) × α)) (k : Int × Int) (v : α) : List ((Int × Int) × α) := if (l.any fun kv => decide (kv.1 = k)) = true then l.map (fun kv => if kv.1 = k then (kv.1, v) else kv) else l ++ [(k, v)]
def tget (l : List ((Int × Int) × α)) (k : Int × Int) : Option α := (l.find? fun kv => decide (kv.1 = k)).map (·.2)
def tV (f : α → Val) (l : List ((Int × Int) × α)) : List (Val × Val) := l.map fun kv => (spot kv.1, f kv.2)
theorem spot_inj {a b : Int × Int} : (spot a = spot b) = (a = b) := by
  obtain ⟨a1, a2⟩ := a
  obtain ⟨b1, b2⟩ := b
  simp [spot]
theorem any_tV (f : α → Val) (k : Int × Int) : ∀ l : List ((Int × Int) × α), ((tV f l).any fun kv => decide (kv.1 = spot k)) = l.any fun kv => decide (kv.1 = k)
  | [] => rfl
  | kv :: l => by
    have ih := any_tV f k l
    unfold tV at ih ⊢
    rw [List.map_cons, List.any_cons, List.any_cons, ih]
    simp only [spot_inj]
theorem dput_tV (f : α → Val) (l : List ((Int × Int) × α)) (k : Int × Int) (v : α) : dput (tV f l) (spot k) (f v) = tV f (tput l k v) := by
  unfold dput tput
  rw [any_tV]
  split
  · unfold tV
    rw [List.map_map, List.map_map]
    refine List.map_congr_left fun kv _ => ?_
    show (if spot kv.1 = spot k then (spot kv.1, f v) else (spot kv.1, f kv.2)) = (spot (if kv.1 = k then (kv.1, v) else kv).1, f (if kv.1 = k then (kv.1, v) else kv).2)
    simp only [spot_inj]
    split <;> rfl
  · unfold tV
    rw [List.map_append]; rfl
theorem dget_tV (f : α → Val) (k : Int × Int) : ∀ l : List ((Int × Int) × α), dget (tV f l) (spot k) = (tget l k).map f
  | [] => rfl
  | kv :: l => by
    have ih := dget_tV f k l
    unfold tV dget tget at ih ⊢
    rw [List.map_cons, List.find?_cons, List.find?_cons]
    by_cases h : kv.1 = k
    · simp [h]
    · have : (decide (spot kv.1 = spot k)) = false := decide_eq_false (by rw [spot_inj]; exact h)
      simp only [this, decide_eq_false h]
      exact ih
theorem tput_len (l : List ((Int × Int) × α)) (k : Int × Int) (v : α) : (tput l k v).length ≤ l.length + 1 := by
  unfold tput
  split
  · rw [List.length_map]; exact Nat.le_succ _
  · rw [List.length_append]; exact Nat.le_refl _
theorem tV_len (f : α → Val) (l : List ((Int × Int) × α)) : (tV f l).length = l.length := by unfold tV; rw [List.length_map]
theorem tV_keys (f : α → Val) (l : List ((Int × Int) × α)) : (tV f l).map (·.1) = (l.map fun kv => [Val.int kv.1.1, .int kv.1.2]).map .tup := by
  unfold tV
  rw [List.map_map, List.map_map]; rfl
end

theorem pure_wo (o : Option Int) (n : Nat) : pureV n (woV o) = true := by cases o <;> cases n <;> rfl
theorem pure_int (i : Int) (n : Nat) : pureV n (.int i) = true := by cases n <;> rfl
theorem pure_str (i : PySem.Str) (n : Nat) : pureV n (.str i) = true := by cases n <;> rfl
theorem pure1 {ys : List Val} (h : ∀ v ∈ ys, pureV 0 v = true) : pureV 1 (.tup ys) = true := by
  rw [pureV]; exact pureVs_iff.mpr h
/-! ### a worker -/
abbrev Tr := List (PySem.Str × Option Int)
def tr1 : Option Int → Val
  | none => .tup [.str s_count]
  | some n => .tup [.str s_sum, .int n]
def trV (T : Tr) : List (Val × Val) := T.map fun p => (.str p.1, tr1 p.2)
def trG (T : Tr) (w : PySem.Str) : Option (Option Int) := (T.find? fun p => decide (p.1 = w)).map (·.2)
theorem dget_trV (w : PySem.Str) : ∀ T : Tr, dget (trV T) (.str w) = (trG T w).map tr1
  | [] => rfl
  | p :: T => by
    have ih := dget_trV w T
    unfold trV trG dget at ih ⊢
    rw [List.map_cons, List.find?_cons, List.find?_cons]
    by_cases h : p.1 = w
    · simp [h]
    · have : (decide (Val.str p.1 = Val.str w)) = false := decide_eq_false (by simpa using h)
      simp only [this, decide_eq_false h]
      exact ih
structure Dd where
  r : Int
  t : Int
  w : PySem.Str
  x : Option Int
  a : Option Int
def Dd.v (d : Dd) : Val := .tup [.int d.r, .int d.t, .str d.w, woV d.x, woV d.a]
def kys (D : List Dd) : List ((Int × Int) × Option Int) := D.map fun d => ((d.r, d.t), d.a)
def cnt (D : List Dd) (w : PySem.Str) : Nat := (D.filter fun d => decide (d.w = w)).length
def kp (i : Int) : Int := max (-1000000000) (min 1000000000 i)
def made (T : Tr) (D : List Dd) (w : PySem.Str) (x : Option Int) : Option Int := match trG T w with
  | none => none
  | some none => some (kp (1 + cnt D w))
  | some (some n) => some (kp (x.getD 0 + n))
def doM (T : Tr) (D : List Dd) (k : Int × Int) (w : PySem.Str) (x : Option Int) : Option Int × List Dd := match tget (kys D) k with
  | some a => (a, D)
  | none => (made T D w x, D ++ [⟨k.1, k.2, w, x, made T D w x⟩])
structure WL where
  q : Nat
  qt : Nat
  qd : Nat
  qa : Nat
def wkO (W : WL) (T : Tr) (D : List Dd) : List (Nat × Ob) := [(W.q, .ins 0 (WorkerV.fs ⟨.loc W.qt, .loc W.qd, .loc W.qa⟩)), (W.qt, .dic false (trV T)), (W.qd, .lst (D.map Dd.v)), (W.qa, .dic true (tV woV (kys D)))]
theorem dd_pure (D : List Dd) : ∀ v ∈ D.map Dd.v, pureV 1 v = true := fun v hv => by
  obtain ⟨d, _, rfl⟩ := List.mem_map.mp hv
  refine pure1 fun v hv => ?_
  simp only [List.mem_cons, List.not_mem_nil, or_false] at hv
  rcases hv with rfl | rfl | rfl | rfl | rfl
  · exact pure_int _ _
  · exact pure_int _ _
  · exact pure_str _ _
  · exact pure_wo _ _
  · exact pure_wo _ _
theorem tput_none {α : Type} {l : List ((Int × Int) × α)} {k : Int × Int} {v : α} (h : tget l k = none) : tput l k v = l ++ [(k, v)] := by
  unfold tput
  rw [if_neg]
  intro z
  obtain ⟨kv, hm, e⟩ := List.any_eq_true.mp z
  unfold tget at h
  rw [Option.map_eq_none_iff, List.find?_eq_none] at h
  exact h kv hm e
theorem kys_snoc (D : List Dd) (d : Dd) : kys (D ++ [d]) = kys D ++ [((d.r, d.t), d.a)] := by unfold kys; rw [List.map_append]; rfl
theorem cnt_le (D : List Dd) (w : PySem.Str) : cnt D w ≤ D.length := List.length_filter_le _ _
section
variable {s s' : Store} {W : WL} {T : Tr} {D : List Dd} {F : List (Nat × Ob)} {d : Nat}
theorem kept_ok (i : Int) : RQ (callD pg (d + 1) 0 [.int i] s) (fun v s' => v = .int (kp i) ∧ s = s') NoX := by
  rw [w_kept]
  simp! [b_kept, c_MOST]
  rfl
theorem deeds_ok (o : Own s (wkO W T D ++ F)) : RQ (callD pg (d + 1) 4 [.loc W.q] s) (fun v s' => ∃ q, v = .loc q ∧ Own s' ((q, .lst (D.map Dd.v)) :: (wkO W T D ++ F))) NoX := by
  have g0 : sget s W.q = some (.ins 0 (WorkerV.fs ⟨.loc W.qt, .loc W.qd, .loc W.qa⟩)) := o.getN 0 rfl
  have g2 : sget s W.qd = some (.lst (D.map Dd.v)) := o.getN 2 rfl
  rw [w_Worker_deeds]
  simp! [b_Worker_deeds, g0, WorkerV.lk_trade, WorkerV.pt_trade, WorkerV.lk_done, WorkerV.pt_done, WorkerV.lk_answers, WorkerV.pt_answers, WorkerV.ln, g2]
  exact ⟨_, rfl, o.new⟩
theorem made_ok {w : PySem.Str} {x : Option Int} (hD : D.length ≤ 1000000) (o : Own s (wkO W T D ++ F)) : RQ (callD pg (d + 2) 3 [.loc W.q, .str w, woV x] s) (fun v s' => v = woV (made T D w x) ∧ Own s' (wkO W T D ++ F)) NoX := by
  have g0 : sget s W.q = some (.ins 0 (WorkerV.fs ⟨.loc W.qt, .loc W.qd, .loc W.qa⟩)) := o.getN 0 rfl
  have g1 : sget s W.qt = some (.dic false (trV T)) := o.getN 1 rfl
  have g2 : sget s W.qd = some (.lst (D.map Dd.v)) := o.getN 2 rfl
  have ed := dget_trV w T
  rw [w_Worker_made_of]
  unfold made
  cases e : trG T w with
  | none =>
    rw [e] at ed
    have ed : dget (trV T) (.str w) = none := ed
    simp! [b_Worker_made_of, g0, WorkerV.lk_trade, WorkerV.pt_trade, WorkerV.lk_done, WorkerV.pt_done, WorkerV.lk_answers, WorkerV.pt_answers, WorkerV.ln, g1, ed]
    exact ⟨fun _ => ⟨rfl, o⟩, nofun⟩
  | some u =>
    rw [e] at ed
    cases u with
    | none =>
      have ed : dget (trV T) (.str w) = some (.tup [.str s_count]) := ed
      simp! [b_Worker_made_of, g0, WorkerV.lk_trade, WorkerV.pt_trade, WorkerV.lk_done, WorkerV.pt_done, WorkerV.lk_answers, WorkerV.pt_answers, WorkerV.ln, g1, ed, g2]
      refine ⟨nofun, fun _ => ?_⟩
      refine RQ_lcFon (ys := D) Dd.v Dd.v (fun d => decide (d.w = w)) (fun s' => s' = s) (.inr ⟨W.qd, _, rfl, fun s' e => e ▸ g2⟩) (by show _ ≤ 16777216; omega) rfl ?_ ?_
      · rintro d _ _ rfl
        simp! [Dd.v]
        by_cases c : d.w = w
        · simp [c]
        · simp [c]
      · rintro _ rfl
        have h1 := o.newx (o := .lst ((D.filter fun d => decide (d.w = w)).map Dd.v))
        simp! [sget_new]
        generalize hs1 : snew _ (.lst ((D.filter fun d => decide (d.w = w)).map Dd.v)) = s1 at h1 ⊢
        have el : (((D.filter fun d => decide (d.w = w)).map Dd.v).length : Int) = (cnt D w : Nat) := by rw [List.length_map]; rfl
        rw [el]
        refine (kept_ok (d := d) _).by ?_
        rintro _ _ ⟨rfl, rfl⟩
        exact ⟨rfl, h1⟩
    | some n =>
      have ed : dget (trV T) (.str w) = some (.tup [.str s_sum, .int n]) := ed
      cases x with
      | none =>
        simp! [b_Worker_made_of, woV, g0, WorkerV.lk_trade, WorkerV.pt_trade, WorkerV.lk_done, WorkerV.pt_done, WorkerV.lk_answers, WorkerV.pt_answers, WorkerV.ln, g1, ed, ne_kd_0, ne_kd_1]
        refine ⟨nofun, fun _ => ?_⟩
        refine (kept_ok (d := d) _).by ?_
        rintro _ _ ⟨rfl, rfl⟩
        exact ⟨rfl, o⟩
      | some i =>
        simp! [b_Worker_made_of, woV, g0, WorkerV.lk_trade, WorkerV.pt_trade, WorkerV.lk_done, WorkerV.pt_done, WorkerV.lk_answers, WorkerV.pt_answers, WorkerV.ln, g1, ed, ne_kd_0, ne_kd_1]
        refine ⟨nofun, fun _ => ?_⟩
        refine (kept_ok (d := d) _).by ?_
        rintro _ _ ⟨rfl, rfl⟩
        exact ⟨rfl, o⟩
theorem do_ok {k : Int × Int} {w : PySem.Str} {x : Option Int} (hD : D.length ≤ 1000000) (o : Own s (wkO W T D ++ F)) : RQ (callD pg (d + 3) 2 [.loc W.q, .int k.1, .int k.2, .str w, woV x] s) (fun v s' => v = woV (doM T D k w x).1 ∧ Own s' (wkO W T (doM T D k w x).2 ++ F)) NoX := by
  have g0 : sget s W.q = some (.ins 0 (WorkerV.fs ⟨.loc W.qt, .loc W.qd, .loc W.qa⟩)) := o.getN 0 rfl
  have g3 : sget s W.qa = some (.dic true (tV woV (kys D))) := o.getN 3 rfl
  have ed : dget (tV woV (kys D)) (.tup [.int k.1, .int k.2]) = (tget (kys D) k).map woV := dget_tV woV k (kys D)
  rw [w_Worker_do]
  unfold doM
  cases e : tget (kys D) k with
  | some a =>
    rw [e] at ed
    have ed : dget (tV woV (kys D)) (.tup [.int k.1, .int k.2]) = some (woV a) := ed
    simp! [b_Worker_do, g0, WorkerV.lk_trade, WorkerV.pt_trade, WorkerV.lk_done, WorkerV.pt_done, WorkerV.lk_answers, WorkerV.pt_answers, WorkerV.ln, g3, ed]
    exact ⟨rfl, nofun, fun _ => ⟨rfl, o⟩⟩
  | none =>
    rw [e] at ed
    have ed : dget (tV woV (kys D)) (.tup [.int k.1, .int k.2]) = none := ed
    simp! [b_Worker_do, g0, WorkerV.lk_trade, WorkerV.pt_trade, WorkerV.lk_done, WorkerV.pt_done, WorkerV.lk_answers, WorkerV.pt_answers, WorkerV.ln, g3, ed, WorkerV.mt_do, WorkerV.mt_made_of, WorkerV.mt_deeds, WorkerV.ini]
    refine ⟨rfl, fun _ => ?_, nofun⟩
    refine (made_ok (d := d) hD o).by ?_
    rintro _ s1 ⟨rfl, o1⟩
    have g0 : sget s1 W.q = some (.ins 0 (WorkerV.fs ⟨.loc W.qt, .loc W.qd, .loc W.qa⟩)) := o1.getN 0 rfl
    have g3 : sget s1 W.qa = some (.dic true (tV woV (kys D))) := o1.getN 3 rfl
    generalize made T D w x = a at *
    have ep : dput (tV woV (kys D)) (.tup [.int k.1, .int k.2]) (woV a) = tV woV (kys (D ++ [Dd.mk k.1 k.2 w x a])) := by
      rw [kys_snoc, ← tput_none e]
      exact dput_tV woV (kys D) k a
    have ed2 : dget (tV woV (kys (D ++ [Dd.mk k.1 k.2 w x a]))) (.tup [.int k.1, .int k.2]) = some (woV a) := by
      have h1 := dget_tV woV k (kys (D ++ [Dd.mk k.1 k.2 w x a]))
      have h2 : tget (kys (D ++ [Dd.mk k.1 k.2 w x a])) k = some a := by
        rw [kys_snoc]
        unfold tget at e ⊢
        rw [Option.map_eq_none_iff] at e
        rw [List.find?_append, e]
        simp
      rw [h2] at h1
      exact h1
    have ln : (tV woV (kys D)).length < 16777216 := by unfold tV kys; rw [List.length_map, List.length_map]; omega
    have o2 : Own (sput s1 W.qa (.dic true (tV woV (kys (D ++ [Dd.mk k.1 k.2 w x a]))))) ([(W.q, .ins 0 (WorkerV.fs ⟨.loc W.qt, .loc W.qd, .loc W.qa⟩)), (W.qt, .dic false (trV T)), (W.qd, .lst (D.map Dd.v)), (W.qa, .dic true (tV woV (kys (D ++ [Dd.mk k.1 k.2 w x a]))))] ++ F) := o1.putN 3 rfl
    simp! [g0, WorkerV.lk_trade, WorkerV.pt_trade, WorkerV.lk_done, WorkerV.pt_done, WorkerV.lk_answers, WorkerV.pt_answers, WorkerV.ln, g3, ep]
    refine ⟨⟨rfl, ln⟩, ?_⟩
    generalize (sput s1 W.qa (.dic true (tV woV (kys (D ++ [Dd.mk k.1 k.2 w x a]))))) = s2 at o2 ⊢
    have g0 : sget s2 W.q = some (.ins 0 (WorkerV.fs ⟨.loc W.qt, .loc W.qd, .loc W.qa⟩)) := o2.getN 0 rfl
    have g2 : sget s2 W.qd = some (.lst (D.map Dd.v)) := o2.getN 2 rfl
    have em : D.map Dd.v ++ [.tup [.int k.1, .int k.2, .str w, woV x, woV a]] = (D ++ [Dd.mk k.1 k.2 w x a]).map Dd.v := by rw [List.map_append]; rfl
    have o3 : Own (sput s2 W.qd (.lst ((D ++ [Dd.mk k.1 k.2 w x a]).map Dd.v))) (wkO W T (D ++ [Dd.mk k.1 k.2 w x a]) ++ F) := o2.putN 2 rfl
    simp! [g0, WorkerV.lk_trade, WorkerV.pt_trade, WorkerV.lk_done, WorkerV.pt_done, WorkerV.lk_answers, WorkerV.pt_answers, WorkerV.ln, g2, em]
    refine ⟨by rw [List.length_map]; omega, ?_⟩
    generalize (sput s2 W.qd (.lst ((D ++ [Dd.mk k.1 k.2 w x a]).map Dd.v))) = s3 at o3 ⊢
    have g0 : sget s3 W.q = some (.ins 0 (WorkerV.fs ⟨.loc W.qt, .loc W.qd, .loc W.qa⟩)) := o3.getN 0 rfl
    have g3 : sget s3 W.qa = some (.dic true (tV woV (kys (D ++ [Dd.mk k.1 k.2 w x a])))) := o3.getN 3 rfl
    simp! [g0, WorkerV.lk_trade, WorkerV.pt_trade, WorkerV.lk_done, WorkerV.pt_done, WorkerV.lk_answers, WorkerV.pt_answers, WorkerV.ln, g3, ed2]
    exact ⟨rfl, o3⟩
section
variable {l : Nat}
theorem sat_step {c f : Nat} {v : Val} {fs : List (Nat × Val)} {M : List (Nat × Ob)} {K : Unit → Store → Prop} {X : QX} (h : Own s ((l, .ins c fs) :: M)) (hl : decide (fs.length < 1000) = true) (k : ∀ s', Own s' ((l, .ins c (putF f v fs)) :: M) → K () s') :
    RQ (satO (sget s l) l f v s) K X := by
  rw [h.get, satO_ins, if_pos (of_decide_eq_true hl)]
  exact ⟨k _ h.put⟩
theorem sat_new {c f : Nat} {o : Ob} {fs : List (Nat × Val)} {M : List (Nat × Ob)} {K : Unit → Store → Prop} {X : QX} (h : Own s ((l, .ins c fs) :: M)) (hl : decide (fs.length < 1000) = true) (k : ∀ s' q, Own s' ((l, .ins c (putF f (.loc q) fs)) :: (q, o) :: M) → K () s') :
    RQ (satO (sget (snew s o) l) l f (.loc (slen s)) (snew s o)) K X := by
  have h1 := (h.new (o := o)).swap
  rw [h1.get, satO_ins, if_pos (of_decide_eq_true hl)]
  exact ⟨k _ _ h1.put⟩
end
/-- a new worker -/
theorem init_ok {h : Nat} (o : Own s F) (hm : (h, .dic false (trV T)) ∈ F) : RQ (callD pg (d + 1) 1 [.loc (slen s), .loc h] (snew s (.ins 0 []))) (fun v s' => v = .non ∧ ∃ W : WL, W.q = slen s ∧ Own s' (wkO W T [] ++ F)) NoX := by
  have h0 : Own (snew s (.ins 0 [])) ((slen s, .ins 0 []) :: F) := o.new
  have gp : sget (snew s (.ins 0 [])) h = some (.dic false (trV T)) := h0.mem (List.mem_cons_of_mem _ hm)
  rw [w_Worker___init__]
  generalize hl : slen s = l at h0
  generalize (snew s (.ins 0 [])) = s0 at h0 gp ⊢
  simp! [b_Worker___init__, gp]
  refine sat_new h0 (by rfl) fun s1 q1 h1 => ?_
  refine sat_new h1 (by rfl) fun s2 q2 h2 => ?_
  refine sat_new h2 (by rfl) fun s3 q3 h3 => ?_
  exact ⟨⟨l, q1, q2, q3⟩, rfl, h3.perm (List.Perm.cons _ ((List.reverse_perm [(q1, Ob.dic false (trV T)), (q2, .lst []), (q3, .dic true [])]).append_right F))⟩
end

/-! ### sorted texts -/
theorem insBy_perm {α : Type} {lt : α → α → Bool} {x : α} : ∀ {l : List α}, (insBy lt x l).Perm (x :: l)
  | [] => List.Perm.refl _
  | y :: r => by
    unfold insBy
    split
    · exact (List.Perm.cons y insBy_perm).trans (List.Perm.swap x y r)
    · exact List.Perm.refl _
theorem sortBy_perm {α : Type} {lt : α → α → Bool} : ∀ {l : List α}, (sortBy lt l).Perm l
  | [] => List.Perm.refl _
  | x :: r => insBy_perm.trans (List.Perm.cons x sortBy_perm)
def kl (k : Int × Int) : List Val := [.int k.1, .int k.2]
theorem unif_kl : ∀ l : List (Int × Int), unif (l.map kl) = true
  | [] => rfl
  | x :: l => by
    show (!(kl x).isEmpty && (kl x).all leafKey && (l.map kl).all fun u => u.all leafKey && decide (u.map isStrB = (kl x).map isStrB)) = true
    rw [List.all_map, Bool.and_eq_true]
    refine ⟨rfl, List.all_eq_true.mpr fun y _ => ?_⟩
    rfl

section
variable {s s' : Store} {W : WL} {T : Tr} {D : List Dd} {F : List (Nat × Ob)} {d : Nat}
theorem lmade_ok {w : PySem.Str} {x : Option Int} {qt qd : Nat} (hD : D.length ≤ 1000000) (o : Own s F) (mT : (qt, .dic false (trV T)) ∈ F) (mD : (qd, .lst (D.map Dd.v)) ∈ F) : RQ (callD pg (d + 1) 7 [.loc qt, .loc qd, .str w, woV x] s) (fun v s' => v = woV (made T D w x) ∧ Own s' F) NoX := by
  have g1 := o.mem mT
  have g2 := o.mem mD
  have ed := dget_trV w T
  have hc := cnt_le D w
  rw [w__law_made]
  unfold made
  cases e : trG T w with
  | none =>
    rw [e] at ed
    have ed : dget (trV T) (.str w) = none := ed
    simp! [b__law_made, g1, ed]
    exact ⟨fun _ => ⟨rfl, o⟩, nofun⟩
  | some u =>
    rw [e] at ed
    cases u with
    | none =>
      have ed : dget (trV T) (.str w) = some (.tup [.str s_count]) := ed
      simp! [b__law_made, g1, ed, g2]
      refine ⟨nofun, fun _ => ?_⟩
      refine RQ_lcFon (ys := D) Dd.v Dd.v (fun d => decide (d.w = w)) (fun s' => s' = s) (.inr ⟨qd, _, rfl, fun s' e => e ▸ g2⟩) (by show _ ≤ 16777216; omega) rfl ?_ ?_
      · rintro d _ _ rfl
        simp! [Dd.v]
        by_cases c : d.w = w
        · simp [c]
        · simp [c]
      · rintro _ rfl
        have h1 := o.newx (o := .lst ((D.filter fun d => decide (d.w = w)).map Dd.v))
        simp! [sget_new]
        generalize hs1 : snew _ (.lst ((D.filter fun d => decide (d.w = w)).map Dd.v)) = s1 at h1 ⊢
        have el : (((D.filter fun d => decide (d.w = w)).map Dd.v).length : Int) = (cnt D w : Nat) := by rw [List.length_map]; rfl
        rw [el]
        have ek : kp (1 + (cnt D w : Int)) = 1 + (cnt D w : Int) := by unfold kp; omega
        rw [ek]
        exact ⟨rfl, h1⟩
    | some n =>
      have ed : dget (trV T) (.str w) = some (.tup [.str s_sum, .int n]) := ed
      cases x with
      | none =>
        simp! [b__law_made, woV, g1, ed, ne_kd_0, ne_kd_1]
        refine ⟨nofun, fun _ => ?_⟩
        exact ⟨rfl, o⟩
      | some i =>
        simp! [b__law_made, woV, g1, ed, ne_kd_0, ne_kd_1]
        refine ⟨nofun, fun _ => ?_⟩
        exact ⟨rfl, o⟩
theorem told_ok {qd : Nat} (hD : D.length ≤ 1000000) (o : Own s (wkO W T D ++ F)) (mD : (qd, .lst (D.map Dd.v)) ∈ F) : RQ (callD pg (d + 2) 8 [.loc W.q, .loc qd] s) (fun v s' => v = .bl true ∧ Own s' (wkO W T D ++ F)) NoX := by
  have g0 : sget s W.q = some (.ins 0 (WorkerV.fs ⟨.loc W.qt, .loc W.qd, .loc W.qa⟩)) := o.getN 0 rfl
  rw [w__law_told_right]
  simp! [b__law_told_right, g0, WorkerV.mt_do, WorkerV.mt_made_of, WorkerV.mt_deeds, WorkerV.ini]
  refine (deeds_ok (d := d) o).by ?_
  rintro _ s1 ⟨q, rfl, o1⟩
  simp! [o1.get]
  have dp := dd_pure D
  refine RQ_ne_pures o1.get (o1.mem (List.mem_cons_of_mem _ (List.mem_append_right _ mD))) dp dp (by decide) ?_
  have o2 := o1.put (u := .lst (D.map Dd.v ++ [.str s_more]))
  simp only [decide_true, Bool.not_true]
  simp! [o1.get]
  refine ⟨by rw [List.length_map]; omega, ?_⟩
  have o2 := o2.tail
  generalize (sput s1 q (.lst (D.map Dd.v ++ [.str s_more]))) = s2 at o2 ⊢
  have g0 : sget s2 W.q = some (.ins 0 (WorkerV.fs ⟨.loc W.qt, .loc W.qd, .loc W.qa⟩)) := o2.getN 0 rfl
  simp! [g0, WorkerV.mt_do, WorkerV.mt_made_of, WorkerV.mt_deeds, WorkerV.ini]
  refine (deeds_ok (d := d) o2).by ?_
  rintro _ s3 ⟨q3, rfl, o3⟩
  simp!
  refine RQ_eq_pures o3.get (o3.mem (List.mem_cons_of_mem _ (List.mem_append_right _ mD))) dp dp (by decide) ?_
  simp only [decide_true]
  exact ⟨trivial, o3.tail⟩
theorem number_ok {r : Nat} {m k : Int} (h : Deck s r k F) (hm : 0 < m) (hm2 : m ≤ 100) (hk : k < 1000000) : RQ (callD pg (d + 2) 9 [.loc r, .int m] s) (fun v s' => (∃ i : Int, v = .int i) ∧ Deck s' r (k + 5) F) NoX := by
  rw [w__law_number]
  simp! [b__law_number]
  have h1 := h.new (o := .lst [.int 0, .int 1, .int 2, .int 10, .int 11, .int 12, .int 64, .int 100, .int 101, .int 110, .int 128, .int 1000])
  generalize slen s = q1 at h1 ⊢
  generalize (snew s (.lst [.int 0, .int 1, .int 2, .int 10, .int 11, .int 12, .int 64, .int 100, .int 101, .int 110, .int 128, .int 1000])) = s1 at h1 ⊢
  refine (take_ok h1 (by omega) (by omega) (by omega)).by ?_
  rintro _ s2 ⟨w, rfl, w0, w1, h2⟩
  simp!
  refine (take_ok h2 (by omega) (by omega) (by omega)).by ?_
  rintro _ s3 ⟨i, rfl, i0, i1, h3⟩
  simp! [h3.get]
  refine RQ_at i0 i1 fun v hv _ => ?_
  have hv : ∃ j : Int, v = .int j := by
    simp only [List.mem_cons, List.not_mem_nil, or_false] at hv
    rcases hv with rfl | rfl | rfl | rfl | rfl | rfl | rfl | rfl | rfl | rfl | rfl | rfl <;> exact ⟨_, rfl⟩
  obtain ⟨j, rfl⟩ := hv
  simp!
  refine (take_ok h3 (by omega) (by omega) (by omega)).by ?_
  rintro _ s4 ⟨a, rfl, _, _, h4⟩
  simp!
  refine (take_ok h4 (by omega) (by omega) (by omega)).by ?_
  rintro _ s5 ⟨b, rfl, _, _, h5⟩
  simp!
  refine (take_ok h5 (by omega) (by omega) (by omega)).by ?_
  rintro _ s6 ⟨c, rfl, _, _, h6⟩
  have h7 := h6.new (o := .lst [.int j, .int a, .int b, .int c])
  simp! [h7.get]
  refine RQ_at w0 w1 fun v hv _ => ?_
  have hv : ∃ j : Int, v = .int j := by
    simp only [List.mem_cons, List.not_mem_nil, or_false] at hv
    rcases hv with rfl | rfl | rfl | rfl <;> exact ⟨_, rfl⟩
  exact ⟨hv, h7.tail.tail.le (by omega)⟩
end

section
variable {s s' : Store} {W : WL} {T : Tr} {D : List Dd} {X : List (Nat × Ob)} {r dl kn q5 q6 q7 q8 qt : Nat} {k c0 who : Int} {L5 L6 L7 : List Val} {hs : List Nat} {x2 x4 x9 x12 x13 x14 x15 x16 : Option Val}
/-- what the turn finds -/
structure Tn (T : Tr) (who : Int) (W : WL) (dl kn q5 q6 q7 qt : Nat) (L5 L6 L7 : List Val) (X : List (Nat × Ob)) : Prop where
  a5 : L2.atI L5 who = some (.loc W.q)
  a6 : L2.atI L6 who = some (.loc dl)
  a7 : L2.atI L7 who = some (.loc kn)
  m5 : (q5, .lst L5) ∈ X
  m6 : (q6, .lst L6) ∈ X
  m7 : (q7, .lst L7) ∈ X
  mt : (qt, .dic false (trV T)) ∈ X
def fr71 (W : WL) (T : Tr) (D : List Dd) (dl kn q8 : Nat) (hs : List Nat) (X : List (Nat × Ob)) : List (Nat × Ob) := wkO W T D ++ ((dl, .lst (D.map Dd.v)) :: (kn, .dic true (tV woV (kys D))) :: (q8, .lst (hs.map .loc)) :: X)
/-- behind a turn -/
def N71 (W : WL) (T : Tr) (D : List Dd) (dl kn q5 q6 q7 q8 qt r : Nat) (c0 who : Int) (hs : List Nat) (X : List (Nat × Ob)) (x2 x4 x9 x16 : Option Val) : QN := fun ρ s' =>
  ∃ D' h a b x12 x13 x14 x15, ρ = [some (.loc 0), some (.int c0), x2, some (.loc qt), x4, some (.loc q5), some (.loc q6), some (.loc q7), some (.loc q8), x9, some (.loc r), some (.int who), x12, x13, x14, x15, x16] ∧ D'.length ≤ D.length + 1 ∧
    Own s' (fr71 W T D' dl kn q8 (hs ++ [h]) ((h, .lst [.loc a, .loc b]) :: (a, .lst (D'.map Dd.v)) :: (b, .lst (D'.map Dd.v)) :: X))
theorem doM_get (T : Tr) (D : List Dd) (bk : Int × Int) (w : PySem.Str) (x : Option Int) : tget (kys (doM T D bk w x).2) bk = some (doM T D bk w x).1 := by
  unfold doM
  cases e : tget (kys D) bk with
  | some a => exact e
  | none =>
    show tget (kys (D ++ [Dd.mk bk.1 bk.2 w x (made T D w x)])) bk = some (made T D w x)
    rw [kys_snoc]
    unfold tget at e ⊢
    rw [Option.map_eq_none_iff] at e
    rw [List.find?_append, e]
    simp
theorem doM_len (T : Tr) (D : List Dd) (bk : Int × Int) (w : PySem.Str) (x : Option Int) : (doM T D bk w x).2.length ≤ D.length + 1 := by
  unfold doM
  cases tget (kys D) bk with
  | some a => exact Nat.le_succ _
  | none => rw [List.length_append]; exact Nat.le_refl _
theorem end71 (t : Tn T who W dl kn q5 q6 q7 qt L5 L6 L7 X) (hD : D.length ≤ 100000) (hh : hs.length ≤ 100000) {bk : Int × Int} {w : PySem.Str} {x : Option Int} {D' : List Dd} {a : Option Int} (eD : D' = (doM T D bk w x).2) (ea : a = (doM T D bk w x).1) {Ct : QN} {TT : QV} {XX : QF}
    (o : Own s (wkO W T D ++ ((dl, .lst (D'.map Dd.v)) :: (kn, .dic true (tV woV (kys D'))) :: (q8, .lst (hs.map .loc)) :: X))) :
    FQ (exec (gmD pg 18) (tlS (tlS (tlS (tlS (tlS (tlS (tlS b_law_b1))))))) [some (.loc 0), some (.int c0), x2, some (.loc qt), x4, some (.loc q5), some (.loc q6), some (.loc q7), some (.loc q8), x9, some (.loc r), some (.int who), some (.tup [.int bk.1, .int bk.2]), some (.str w), some (woV x), x15, x16] s) (N71 W T D dl kn q5 q6 q7 q8 qt r c0 who hs X x2 x4 x9 x16) Ct TT XX := by
  have up : ∀ {e : Nat × Ob} {D D' : List Dd} {hs : List Nat}, e ∈ X → e ∈ wkO W T D ++ ((dl, .lst (D'.map Dd.v)) :: (kn, .dic true (tV woV (kys D'))) :: (q8, .lst (hs.map .loc)) :: X) := fun he => List.mem_append_right _ (List.mem_cons_of_mem _ (List.mem_cons_of_mem _ (List.mem_cons_of_mem _ he)))
  have hl' : D'.length ≤ D.length + 1 := by rw [eD]; exact doM_len T D bk w x
  have dp := dd_pure D'
  have g0 : sget s W.q = some (.ins 0 (WorkerV.fs ⟨.loc W.qt, .loc W.qd, .loc W.qa⟩)) := o.getN 0 rfl
  simp! [b_law_b1, tlS, o.mem (up t.m5), t.a5, g0, WorkerV.mt_do, WorkerV.mt_made_of, WorkerV.mt_deeds, WorkerV.ini]
  refine (do_ok (d := 15) (k := bk) (w := w) (x := x) (by omega) o).by ?_
  rintro _ s1 ⟨rfl, o1⟩
  have eg := doM_get T D bk w x
  rw [← eD, ← ea] at eg
  rw [← eD] at o1
  rw [← ea]
  have ed : dget (tV woV (kys D')) (.tup [.int bk.1, .int bk.2]) = some (woV a) := by
    have h1 := dget_tV woV bk (kys D')
    rw [eg] at h1
    exact h1
  have gk : sget s1 kn = some (.dic true (tV woV (kys D'))) := o1.getN 5 rfl
  have g0 : sget s1 W.q = some (.ins 0 (WorkerV.fs ⟨.loc W.qt, .loc W.qd, .loc W.qa⟩)) := o1.getN 0 rfl
  have md : (dl, Ob.lst (D'.map Dd.v)) ∈ ((dl, .lst (D'.map Dd.v)) :: (kn, .dic true (tV woV (kys D'))) :: (q8, .lst (hs.map .loc)) :: X) := List.mem_cons_self
  simp! [o1.mem (up t.m7), t.a7, gk, ed]
  rw [cmp_ne_pure (pure_wo a 0) (pure_wo a 0) (by decide), decide_eq_true rfl]
  have ei : isi (woV a) [.bool] s1 = .ok (.bl false) s1 := by cases a <;> rfl
  simp! [ei, o1.mem (up t.m5), t.a5, o1.mem (up t.m6), t.a6]
  refine ⟨rfl, ?_⟩
  refine (told_ok (d := 16) (qd := dl) (by omega) o1 md).by ?_
  rintro _ s2 ⟨rfl, o2⟩
  have g8 : sget s2 q8 = some (.lst (hs.map .loc)) := o2.getN 6 rfl
  have g0 : sget s2 W.q = some (.ins 0 (WorkerV.fs ⟨.loc W.qt, .loc W.qd, .loc W.qa⟩)) := o2.getN 0 rfl
  simp! [g8, o2.mem (up t.m5), t.a5, g0, WorkerV.mt_do, WorkerV.mt_made_of, WorkerV.mt_deeds, WorkerV.ini]
  refine (deeds_ok (d := 17) o2).by ?_
  rintro _ s3 ⟨qa, rfl, o3⟩
  have gd : sget s3 dl = some (.lst (D'.map Dd.v)) := o3.mem (List.mem_cons_of_mem _ (List.mem_append_right _ md))
  simp! [o3.mem (List.mem_cons_of_mem _ (up t.m6)), t.a6, gd]
  have o5 := (o3.new (o := .lst (D'.map Dd.v))).new (o := .lst [.loc qa, .loc (slen s3)])
  rw [slen_snew] at o5
  have eln : slen (snew s3 (.lst (D'.map Dd.v))) = slen s3 + 1 := slen_snew _ _
  have g8 : sget (snew (snew s3 (.lst (D'.map Dd.v))) (.lst [.loc qa, .loc (slen s3)])) q8 = some (.lst (hs.map .loc)) := o5.getN 9 rfl
  simp! [eln, g8]
  refine ⟨by rw [List.length_map]; omega, ?_⟩
  have o6 : Own (sput (snew (snew s3 (.lst (D'.map Dd.v))) (.lst [.loc qa, .loc (slen s3)])) q8 (.lst ((hs ++ [slen s3 + 1]).map .loc))) ((slen s3 + 1, .lst [.loc qa, .loc (slen s3)]) :: (slen s3, .lst (D'.map Dd.v)) :: (qa, .lst (D'.map Dd.v)) :: (wkO W T D' ++ ((dl, .lst (D'.map Dd.v)) :: (kn, .dic true (tV woV (kys D'))) :: (q8, .lst ((hs ++ [slen s3 + 1]).map .loc)) :: X))) := o5.putN 9 rfl
  rw [show hs.map Val.loc ++ [.loc (slen s3 + 1)] = (hs ++ [slen s3 + 1]).map .loc by rw [List.map_append]; rfl]
  refine ⟨D', slen s3 + 1, qa, slen s3, _, _, _, _, rfl, hl', o6.perm ?_⟩
  unfold fr71
  refine List.perm_iff_count.mpr fun z => ?_
  simp only [List.count_append, List.count_cons]; omega
theorem tail71 (t : Tn T who W dl kn q5 q6 q7 qt L5 L6 L7 X) (hD : D.length ≤ 100000) (hh : hs.length ≤ 100000) (hk0 : 0 ≤ k) (hk : k ≤ 1000000) {bk : Int × Int} {Ct : QN} {TT : QV} {XX : QF} (h : Deck s r k (fr71 W T D dl kn q8 hs X))
    (hC : ∀ ρ s', N71 W T D dl kn q5 q6 q7 q8 qt r c0 who hs X x2 x4 x9 x16 ρ s' → Ct ρ s') :
    FQ (exec (gmD pg 18) (tlS (tlS (tlS (tlS b_law_b1)))) [some (.loc 0), some (.int c0), x2, some (.loc qt), x4, some (.loc q5), some (.loc q6), some (.loc q7), some (.loc q8), x9, some (.loc r), some (.int who), some (.tup [.int bk.1, .int bk.2]), x13, x14, x15, x16] s) (N71 W T D dl kn q5 q6 q7 q8 qt r c0 who hs X x2 x4 x9 x16) Ct TT XX := by
  have up : ∀ {e : Nat × Ob} {D : List Dd} {hs : List Nat}, e ∈ X → e ∈ fr71 W T D dl kn q8 hs X := fun he => List.mem_append_right _ (List.mem_cons_of_mem _ (List.mem_cons_of_mem _ (List.mem_cons_of_mem _ he)))
  simp! [b_law_b1, tlS]
  have h1 := h.new (o := .lst [.str s_sum, .str s_vast, .str s_cnt, .str s_tally, .str s_odd])
  generalize slen s = q1 at h1 ⊢
  generalize (snew s (.lst [.str s_sum, .str s_vast, .str s_cnt, .str s_tally, .str s_odd])) = s1 at h1 ⊢
  refine (take_ok h1 (by omega) (by omega) (by omega)).by ?_
  rintro _ s2 ⟨i, rfl, i0, i1, h2⟩
  simp! [h2.get]
  refine RQ_at i0 i1 fun v hv _ => ?_
  have hv : ∃ w : PySem.Str, v = .str w := by
    simp only [List.mem_cons, List.not_mem_nil, or_false] at hv
    rcases hv with rfl | rfl | rfl | rfl | rfl <;> exact ⟨_, rfl⟩
  obtain ⟨w, rfl⟩ := hv
  have h2 := h2.tail
  simp!
  refine (take_ok h2 (by omega) (by omega) (by omega)).by ?_
  rintro _ s3 ⟨n, rfl, n0, n1, h3⟩
  have h4 := h3.new (o := .lst [.non, .int 0, .int 1, .int (-7), .int 1000000000, .int (-1000000000), .int 999999997, .int n])
  simp!
  generalize slen s3 = q3 at h4 ⊢
  generalize (snew s3 (.lst [.non, .int 0, .int 1, .int (-7), .int 1000000000, .int (-1000000000), .int 999999997, .int n])) = s4 at h4 ⊢
  refine (take_ok h4 (by omega) (by omega) (by omega)).by ?_
  rintro _ s5 ⟨j, rfl, j0, j1, h5⟩
  simp! [h5.get]
  refine RQ_at j0 j1 fun v hv _ => ?_
  have hv : ∃ x : Option Int, v = woV x := by
    simp only [List.mem_cons, List.not_mem_nil, or_false] at hv
    rcases hv with rfl | rfl | rfl | rfl | rfl | rfl | rfl | rfl
    · exact ⟨none, rfl⟩
    all_goals exact ⟨some _, rfl⟩
  obtain ⟨x, rfl⟩ := hv
  have o := h5.tail.own
  clear h5 h4 h3 h2 h1 h
  have fin := fun {s' : Store} {D' : List Dd} {a : Option Int} (eD : D' = (doM T D bk w x).2) (ea : a = (doM T D bk w x).1) (o' : Own s' (wkO W T D ++ ((dl, .lst (D'.map Dd.v)) :: (kn, .dic true (tV woV (kys D'))) :: (q8, .lst (hs.map .loc)) :: X))) => end71 (s := s') (r := r) (c0 := c0) (x2 := x2) (x4 := x4) (x9 := x9) (x15 := x15) (x16 := x16) (Ct := Ct) (TT := TT) (XX := XX) t hD hh eD ea o'
  simp! [b_law_b1, tlS] at fin
  have o : Own s5 (wkO W T D ++ ((dl, .lst (D.map Dd.v)) :: (kn, .dic true (tV woV (kys D))) :: (q8, .lst (hs.map .loc)) :: X)) := o
  have gk : sget s5 kn = some (.dic true (tV woV (kys D))) := o.getN 5 rfl
  have ed := dget_tV woV bk (kys D)
  cases e : tget (kys D) bk with
  | some a =>
    rw [e] at ed
    have ed : dget (tV woV (kys D)) (.tup [.int bk.1, .int bk.2]) = some (woV a) := ed
    simp! [o.mem (up t.m7), t.a7, gk, ed]
    refine ⟨rfl, nofun, fun _ => ?_⟩
    have eD : D = (doM T D bk w x).2 := by unfold doM; rw [e]
    have ea : a = (doM T D bk w x).1 := by unfold doM; rw [e]
    exact fin eD ea o
  | none =>
    rw [e] at ed
    have ed : dget (tV woV (kys D)) (.tup [.int bk.1, .int bk.2]) = none := ed
    have gd : sget s5 dl = some (.lst (D.map Dd.v)) := o.getN 4 rfl
    have eD : D ++ [Dd.mk bk.1 bk.2 w x (made T D w x)] = (doM T D bk w x).2 := by unfold doM; rw [e]
    have ea : made T D w x = (doM T D bk w x).1 := by unfold doM; rw [e]
    have eg := doM_get T D bk w x
    rw [← eD, ← ea] at eg
    have ed2 : dget (tV woV (kys (D ++ [Dd.mk bk.1 bk.2 w x (made T D w x)]))) (.tup [.int bk.1, .int bk.2]) = some (woV (made T D w x)) := by
      have h1 := dget_tV woV bk (kys (D ++ [Dd.mk bk.1 bk.2 w x (made T D w x)]))
      rw [eg] at h1
      exact h1
    have ep : dput (tV woV (kys D)) (.tup [.int bk.1, .int bk.2]) (woV (made T D w x)) = tV woV (kys (D ++ [Dd.mk bk.1 bk.2 w x (made T D w x)])) := by
      rw [kys_snoc, ← tput_none e]
      exact dput_tV woV (kys D) bk _
    have ln : (tV woV (kys D)).length < 16777216 := by unfold tV kys; rw [List.length_map, List.length_map]; omega
    simp! [o.mem (up t.m7), t.a7, gk, ed, o.mem (up t.m6), t.a6]
    refine ⟨rfl, fun _ => ?_, nofun⟩
    refine (lmade_ok (d := 17) (qt := qt) (qd := dl) (by omega) o (up t.mt) (List.mem_append_right _ List.mem_cons_self)).by ?_
    rintro _ s6 ⟨rfl, o6⟩
    have gk : sget s6 kn = some (.dic true (tV woV (kys D))) := o6.getN 5 rfl
    simp! [o6.mem (up t.m7), t.a7, gk, ep]
    refine ⟨⟨rfl, ln⟩, ?_⟩
    generalize made T D w x = a at *
    have o7 : Own (sput s6 kn (.dic true (tV woV (kys (D ++ [Dd.mk bk.1 bk.2 w x a]))))) (wkO W T D ++ ((dl, .lst (D.map Dd.v)) :: (kn, .dic true (tV woV (kys (D ++ [Dd.mk bk.1 bk.2 w x a])))) :: (q8, .lst (hs.map .loc)) :: X)) := o6.putN 5 rfl
    have up2 : ∀ {e : Nat × Ob} {D D' : List Dd} {l : List Val} {hs : List Nat}, e ∈ X → e ∈ wkO W T D ++ ((dl, .lst l) :: (kn, .dic true (tV woV (kys D'))) :: (q8, .lst (hs.map .loc)) :: X) := fun he => List.mem_append_right _ (List.mem_cons_of_mem _ (List.mem_cons_of_mem _ (List.mem_cons_of_mem _ he)))
    generalize (sput s6 kn (.dic true (tV woV (kys (D ++ [Dd.mk bk.1 bk.2 w x a]))))) = s7 at o7 ⊢
    have gk : sget s7 kn = some (.dic true (tV woV (kys (D ++ [Dd.mk bk.1 bk.2 w x a])))) := o7.getN 5 rfl
    have gd : sget s7 dl = some (.lst (D.map Dd.v)) := o7.getN 4 rfl
    have em : D.map Dd.v ++ [.tup ([.int bk.1, .int bk.2] ++ [.str w, woV x, woV a])] = (D ++ [Dd.mk bk.1 bk.2 w x a]).map Dd.v := by rw [List.map_append]; rfl
    have o8 : Own (sput s7 dl (.lst ((D ++ [Dd.mk bk.1 bk.2 w x a]).map Dd.v))) (wkO W T D ++ ((dl, .lst ((D ++ [Dd.mk bk.1 bk.2 w x a]).map Dd.v)) :: (kn, .dic true (tV woV (kys (D ++ [Dd.mk bk.1 bk.2 w x a])))) :: (q8, .lst (hs.map .loc)) :: X)) := o7.putN 4 rfl
    have fin := fin eD ea o8
    simp! [o7.mem (up2 t.m6), t.a6, gd, o7.mem (up2 t.m7), t.a7, gk, ed2, em]
    exact ⟨rfl, by rw [List.length_map]; omega, fin⟩
theorem turn71 (t : Tn T who W dl kn q5 q6 q7 qt L5 L6 L7 X) (hD : D.length ≤ 100000) (hh : hs.length ≤ 100000) (hk0 : 0 ≤ k) (hk : k ≤ 1000) {Ct : QN} {TT : QV} {XX : QF} (h : Deck s r k (fr71 W T D dl kn q8 hs X))
    (hC : ∀ ρ s', N71 W T D dl kn q5 q6 q7 q8 qt r c0 who hs X x2 x4 x9 x16 ρ s' → Ct ρ s') :
    FQ (exec (gmD pg 18) (tlS (tlS b_law_b1)) [some (.loc 0), some (.int c0), x2, some (.loc qt), x4, some (.loc q5), some (.loc q6), some (.loc q7), some (.loc q8), x9, some (.loc r), some (.int who), x12, x13, x14, x15, x16] s) (N71 W T D dl kn q5 q6 q7 q8 qt r c0 who hs X x2 x4 x9 x16) Ct TT XX := by
  have up : ∀ {e : Nat × Ob} {D : List Dd} {hs : List Nat}, e ∈ X → e ∈ fr71 W T D dl kn q8 hs X := fun he => List.mem_append_right _ (List.mem_cons_of_mem _ (List.mem_cons_of_mem _ (List.mem_cons_of_mem _ he)))
  have fin := fun {s' : Store} {k : Int} (bk : Int × Int) (hk0 : 0 ≤ k) (hk : k ≤ 1000000) (h' : Deck s' r k (fr71 W T D dl kn q8 hs X)) => tail71 (s := s') (c0 := c0) (x2 := x2) (x4 := x4) (x9 := x9) (x13 := x13) (x14 := x14) (x15 := x15) (x16 := x16) (Ct := Ct) (TT := TT) (XX := XX) (bk := bk) t hD hh hk0 hk h' hC
  simp! [b_law_b1, tlS] at fin
  simp! [b_law_b1, tlS]
  refine (number_ok (d := 16) h (by omega) (by omega) (by omega)).by ?_
  rintro _ s1 ⟨⟨a, rfl⟩, h1⟩
  simp!
  refine (number_ok (d := 16) h1 (by omega) (by omega) (by omega)).by ?_
  rintro _ s2 ⟨⟨b, rfl⟩, h2⟩
  have gk : ∀ {s' : Store} {k : Int}, Deck s' r k (fr71 W T D dl kn q8 hs X) → sget s' kn = some (.dic true (tV woV (kys D))) := fun h => h.own.getN 5 rfl
  simp! [h2.own.mem (up t.m7), t.a7]
  have h3 := h2.newx (o := .dic false [])
  have gn : sget (snew s2 (.dic false [])) (slen s2) = some (.dic false []) := sget_new
  refine RQ_ne_dic0 (gk h3) gn ?_
  generalize (snew s2 (.dic false [])) = s3 at h3 ⊢
  cases ee : (tV woV (kys D)).isEmpty with
  | true =>
    have fin := fin (a, b) (by omega) (by omega) h3
    simp!
    exact fin
  | false =>
    simp!
    refine (take_ok h3 (by omega) (by omega) (by omega)).by ?_
    rintro _ s4 ⟨i, rfl, i0, i1, h4⟩
    simp!
    refine ⟨fun _ => ?_, fun _ => fin (a, b) (by omega) (by omega) h4⟩
    have hkeys : tupsOf ((tV woV (kys D)).map (·.1)) = some (((kys D).map (·.1)).map kl) := by
      rw [tV_keys, tupsOf_map, List.map_map]; rfl
    have hmem : ∀ v ∈ (sortBy lexV (((kys D).map (·.1)).map kl)).map Val.tup, ∃ bk : Int × Int, v = .tup [.int bk.1, .int bk.2] := fun v hv => by
      obtain ⟨u, hu, rfl⟩ := List.mem_map.mp hv
      obtain ⟨bk, _, rfl⟩ := List.mem_map.mp (sortBy_perm.mem_iff.mp hu)
      exact ⟨bk, rfl⟩
    have hlen : ((sortBy lexV (((kys D).map (·.1)).map kl)).map Val.tup).length = (tV woV (kys D)).length := by
      rw [List.length_map, sortBy_perm.length_eq, List.length_map, List.length_map, tV_len]
    have hpos : 0 < (tV woV (kys D)).length := by
      cases hz : tV woV (kys D) with
      | nil => rw [hz] at ee; cases ee
      | cons _ _ => exact Nat.succ_pos _
    have hup : (tV woV (kys D)).length ≤ 100000 := by rw [tV_len]; unfold kys; rw [List.length_map]; exact hD
    generalize hL : (sortBy lexV (((kys D).map (·.1)).map kl)).map Val.tup = L at hmem hlen
    simp! [h4.own.mem (up t.m7), t.a7]
    rw [sort_keysT (gk h4) hkeys (unif_kl _), hL]
    have h5 := h4.new (o := .lst L)
    simp! [(show sget (snew s4 (.lst L)) kn = some (.dic true (tV woV (kys D))) from (sget_old (lt_of_sget (gk h4))).trans (gk h4)), h5.own.mem (List.mem_cons_of_mem _ (up t.m7)), t.a7]
    generalize slen s4 = q5' at h5 ⊢
    generalize (snew s4 (.lst L)) = s5 at h5 ⊢
    refine (take_ok h5 (by omega) (by omega) (by omega)).by ?_
    rintro _ s6 ⟨n, rfl, n0, n1, h6⟩
    simp! [h6.get]
    refine RQ_at n0 (by omega) fun v hv _ => ?_
    obtain ⟨bk, rfl⟩ := hmem v hv
    have fin := fin bk (by omega) (by omega) h6.tail
    simp!
    exact fin
end

/-! ### orders of unlike numbers -/
def UT : Tr := [(s_cnt, none), (s_tally, none), (s_sum, some 1)]
def S20 : List (Int × Int) := [(1, 10), (11, 0), (110, 0), (0, 110), (1, 0), (0, 1), (0, 64), (128, 0), (10, 0), (0, 10), (1, 100), (0, 1000), (1000, 0), (0, 256), (2, 0), (0, 2), (1000000, 0), (0, 1000000), (1, 1), (0, 0)]
def st1 : Nat → List Dd
  | 0 => []
  | n + 1 => (doM UT (doM UT (st1 n) (S20.getD n (0, 0)) s_cnt (some (n : Int))).2 (7777 + (n : Int), (n : Int)) s_tally (some (n : Int))).2
theorem st1_ans : ∀ n < 20, (doM UT (st1 n) (S20.getD n (0, 0)) s_cnt (some (n : Int))).1 = some ((n : Int) + 1) ∧ (doM UT (doM UT (st1 n) (S20.getD n (0, 0)) s_cnt (some (n : Int))).2 (7777 + (n : Int), (n : Int)) s_tally (some (n : Int))).1 = some ((n : Int) + 1) := by decide +kernel
theorem st1_len : (st1 20).length = 40 := by decide +kernel
theorem st1_far : ∀ d ∈ st1 20, ¬ (2000 ≤ d.r ∧ d.r ≤ 2016 ∧ 30 ≤ d.t) := by decide +kernel
theorem st1_get : S20.map (fun p => tget (kys (st1 20)) p) = (List.range 20).map fun k : Nat => some (some ((k : Int) + 1)) := by decide +kernel
theorem st1_some : ∀ p ∈ S20, (tget (kys (st1 20)) p).isSome = true := by decide +kernel
def key2 (k : Nat) : Int × Int := (2000 + (k : Int) / 20, 30 + (k : Int) % 20)
def st2 (n : Nat) : List Dd := st1 20 ++ (List.range n).map fun k => Dd.mk (key2 k).1 (key2 k).2 s_sum (some (k : Int)) (some ((k : Int) + 1))
theorem st2_succ (n : Nat) : st2 (n + 1) = st2 n ++ [Dd.mk (key2 n).1 (key2 n).2 s_sum (some (n : Int)) (some ((n : Int) + 1))] := by
  unfold st2
  rw [List.range_succ, List.map_append, List.append_assoc]; rfl
theorem st2_len (n : Nat) : (st2 n).length = 40 + n := by unfold st2; rw [List.length_append, st1_len, List.length_map, List.length_range]
theorem tget_app {D E : List Dd} {p : Int × Int} {a : Option Int} (h : tget (kys D) p = some a) : tget (kys (D ++ E)) p = some a := by
  unfold kys at h ⊢
  rw [List.map_append]
  unfold tget at h ⊢
  rw [List.find?_append]
  obtain ⟨kv, h1, h2⟩ := Option.map_eq_some_iff.mp h
  rw [h1, Option.some_or, Option.map_some, h2]
theorem tget_new {D : List Dd} {d : Dd} (h : tget (kys D) (d.r, d.t) = none) : tget (kys (D ++ [d])) (d.r, d.t) = some d.a := by
  rw [kys_snoc]
  unfold tget at h ⊢
  rw [Option.map_eq_none_iff] at h
  rw [List.find?_append, h]
  simp
theorem st2_none {n : Nat} (hn : n < 320) : tget (kys (st2 n)) (key2 n) = none := by
  unfold tget
  rw [Option.map_eq_none_iff, List.find?_eq_none]
  intro x hx hk
  have hk : x.1 = key2 n := of_decide_eq_true hk
  obtain ⟨d, hd, rfl⟩ := List.mem_map.mp hx
  have hr : d.r = 2000 + (n : Int) / 20 := congrArg Prod.fst hk
  have ht : d.t = 30 + (n : Int) % 20 := congrArg Prod.snd hk
  unfold st2 at hd
  rcases List.mem_append.mp hd with z | z
  · exact st1_far d z (by omega)
  · obtain ⟨j, hj, rfl⟩ := List.mem_map.mp z
    have hj := List.mem_range.mp hj
    have hr : 2000 + (j : Int) / 20 = 2000 + (n : Int) / 20 := hr
    have ht : 30 + (j : Int) % 20 = 30 + (n : Int) % 20 := ht
    omega
theorem st2_next {n : Nat} (hn : n < 320) : doM UT (st2 n) (key2 n) s_sum (some (n : Int)) = (some ((n : Int) + 1), st2 (n + 1)) := by
  unfold doM
  rw [st2_none hn]
  have e : made UT (st2 n) s_sum (some (n : Int)) = some ((n : Int) + 1) := by
    unfold made
    rw [show trG UT s_sum = some (some 1) by decide]
    show some (kp ((n : Int) + 1)) = _
    unfold kp
    congr 1
    omega
  rw [e, st2_succ]
theorem st2_get : ∀ (n : Nat), n ≤ 320 → ∀ k < n, tget (kys (st2 n)) (key2 k) = some (some ((k : Int) + 1))
  | 0, _, _, hk => absurd hk (Nat.not_lt_zero _)
  | n + 1, hn, k, hk => by
    rw [st2_succ]
    by_cases e : k = n
    · subst e
      exact tget_new (d := Dd.mk (key2 k).1 (key2 k).2 s_sum (some (k : Int)) (some ((k : Int) + 1))) (st2_none (by omega))
    · exact tget_app (st2_get n (by omega) k (by omega))
theorem do_known {T : Tr} {D : List Dd} {p : Int × Int} {w : PySem.Str} {x a : Option Int} (h : tget (kys D) p = some a) : doM T D p w x = (a, D) := by unfold doM; rw [h]
section
variable {s s' : Store} {F : List (Nat × Ob)} {d : Nat}
theorem unlike_ok (h : Own s F) : RQ (callD pg (d + 4) 10 [] s) (fun v s' => v = .bl true) NoX := by
  rw [w__law_unlike_orders]
  have ed : ∀ s, dicOfL false [.str s_cnt, .tup [.str s_count], .str s_tally, .tup [.str s_count], .str s_sum, .tup [.str s_sum, .int 1]] s = alloc (.dic false (trV UT)) s := fun _ => rfl
  have en : ∀ s, dicOfL false [] s = alloc (.dic false (trV [])) s := fun _ => rfl
  simp! [b__law_unlike_orders, ed, WorkerV.mt_do, WorkerV.mt_made_of, WorkerV.mt_deeds, WorkerV.ini]
  have h1 := h.new (o := .dic false (trV UT))
  have n0 := init_ok (d := d + 2) (h := slen s) h1 List.mem_cons_self
  rw [slen_snew] at n0
  refine n0.by ?_
  rintro _ s2 ⟨rfl, W, eW, h2⟩
  refine ⟨rfl, ?_⟩
  rw [← eW]
  have h2 : Own s2 (wkO W UT [] ++ F) := h2.sub (List.Sublist.append_left (List.sublist_cons_self _ _) _)
  have eA : ([.tup [.int 1, .int 10], .tup [.int 11, .int 0], .tup [.int 110, .int 0], .tup [.int 0, .int 110], .tup [.int 1, .int 0], .tup [.int 0, .int 1], .tup [.int 0, .int 64], .tup [.int 128, .int 0], .tup [.int 10, .int 0], .tup [.int 0, .int 10], .tup [.int 1, .int 100]] : List Val) = (S20.take 11).map spot := rfl
  have eB : ([.tup [.int 0, .int 1000], .tup [.int 1000, .int 0], .tup [.int 0, .int 256], .tup [.int 2, .int 0], .tup [.int 0, .int 2], .tup [.int 1000000, .int 0], .tup [.int 0, .int 1000000], .tup [.int 1, .int 1], .tup [.int 0, .int 0]] : List Val) = (S20.drop 11).map spot := rfl
  have eC : (S20.take 11).map spot ++ (S20.drop 11).map spot = S20.map spot := rfl
  rw [eA, eB]
  have h3 := (h2.new (o := .lst ((S20.take 11).map spot))).new (o := .lst ((S20.drop 11).map spot))
  rw [slen_snew] at h3
  simp! [h3.get, h3.get1, eC]
  refine ⟨by decide, ?_⟩
  have h4 := (h3.tail.tail).new (o := .lst (S20.map spot))
  rw [slen_snew, slen_snew] at h4
  generalize slen s2 + 1 + 1 = ql at h4 ⊢
  generalize (snew (snew (snew s2 (.lst ((S20.take 11).map spot))) (.lst ((S20.drop 11).map spot))) (.lst (S20.map spot))) = s4 at h4 ⊢
  have h5 : Own s4 (wkO W UT [] ++ ((ql, .lst (S20.map spot)) :: F)) := h4.perm (by
    refine List.perm_iff_count.mpr fun z => ?_
    simp only [List.count_append, List.count_cons]; omega)
  have gl : ∀ {s' : Store} {D : List Dd}, Own s' (wkO W UT D ++ ((ql, .lst (S20.map spot)) :: F)) → sget s' ql = some (.lst (S20.map spot)) := fun h => h.getN 4 rfl
  have g0 : ∀ {s' : Store} {D : List Dd}, Own s' (wkO W UT D ++ ((ql, .lst (S20.map spot)) :: F)) → sget s' W.q = some (.ins 0 (WorkerV.fs ⟨.loc W.qt, .loc W.qd, .loc W.qa⟩)) := fun h => h.getN 0 rfl
  have e20 : (((S20.map spot).length : Nat) : Int).toNat = 20 := rfl
  simp! [b__law_unlike_orders_l1, gl h5]
  refine ⟨by decide, ?_⟩
  rw [e20]
  refine FQ_free (fun pre ρ s' => ∃ x2, ρ = [some (.loc W.q), some (.loc ql), x2, none] ∧ Own s' (wkO W UT (st1 pre.length) ++ ((ql, .lst (S20.map spot)) :: F)) ∧ (st1 pre.length).length ≤ 2 * pre.length) ⟨_, rfl, h5, Nat.le_refl _⟩ ?_ ?_
  · rintro pre x post _ s5 e ⟨x2, rfl, h5, hl⟩
    obtain ⟨rfl, hlt⟩ := upTo_at e
    have ez : (0 : Int) + (pre.length : Int) = (pre.length : Nat) := Int.zero_add _
    rw [ez, List.length_append, List.length_singleton]
    generalize pre.length = n at *
    obtain ⟨a1, a2⟩ := st1_ans n hlt
    have es : st1 (n + 1) = (doM UT (doM UT (st1 n) (S20.getD n (0, 0)) s_cnt (some (n : Int))).2 (7777 + (n : Int), (n : Int)) s_tally (some (n : Int))).2 := rfl
    have l1 := doM_len UT (st1 n) (S20.getD n (0, 0)) s_cnt (some (n : Int))
    have l2 := doM_len UT (doM UT (st1 n) (S20.getD n (0, 0)) s_cnt (some (n : Int))).2 (7777 + (n : Int), (n : Int)) s_tally (some (n : Int))
    have hp : S20[n]? = some (S20.getD n (0, 0)) := by
      rw [List.getD_eq_getElem?_getD, List.getElem?_eq_getElem (show n < S20.length from hlt)]; rfl
    generalize S20.getD n (0, 0) = p at *
    have ha : L2.atI (S20.map spot) (n : Int) = some (.tup [.int p.1, .int p.2]) := atI_nat n (by rw [List.getElem?_map, hp]; rfl)
    simp! [b__law_unlike_orders_b1, gl h5, ha, g0 h5, WorkerV.mt_do, WorkerV.mt_made_of, WorkerV.mt_deeds, WorkerV.ini]
    refine (do_ok (d := d) (k := p) (w := s_cnt) (x := some (n : Int)) (by omega) h5).by ?_
    rintro _ s6 ⟨rfl, h6⟩
    rw [a1]
    have ew : woV (some ((n : Int) + 1)) = .int ((n : Int) + 1) := rfl
    rw [ew]
    simp! [g0 h6, WorkerV.mt_do, WorkerV.mt_made_of, WorkerV.mt_deeds, WorkerV.ini]
    refine (do_ok (d := d) (k := (7777 + (n : Int), (n : Int))) (w := s_tally) (x := some (n : Int)) (by omega) h6).by ?_
    rintro _ s7 ⟨rfl, h7⟩
    rw [a2, ew]
    simp!
    exact ⟨_, rfl, by rw [es]; exact h7, by rw [es]; omega⟩
  · rintro _ s5 ⟨x2, rfl, h5, _⟩
    rw [upTo_n] at h5
    have h5 : Own s5 (wkO W UT (st2 0) ++ ((ql, .lst (S20.map spot)) :: F)) := by
      have e0 : st2 0 = st1 20 := by unfold st2; simp
      rw [e0]; exact h5
    simp! [b__law_unlike_orders_l2]
    have e320 : ((320 : Int)).toNat = 320 := rfl
    refine FQ_free (fun pre ρ s' => ∃ x2, ρ = [some (.loc W.q), some (.loc ql), x2, none] ∧ Own s' (wkO W UT (st2 pre.length) ++ ((ql, .lst (S20.map spot)) :: F))) ⟨_, rfl, h5⟩ ?_ ?_
    · rintro pre x post _ s5 e ⟨x2, rfl, h5⟩
      obtain ⟨rfl, hlt⟩ := upTo_at e
      have hlt : pre.length < 320 := hlt
      have ez : (0 : Int) + (pre.length : Int) = (pre.length : Nat) := Int.zero_add _
      rw [ez, List.length_append, List.length_singleton]
      generalize pre.length = n at *
      have sl := st2_len n
      simp! [b__law_unlike_orders_b2, g0 h5, WorkerV.mt_do, WorkerV.mt_made_of, WorkerV.mt_deeds, WorkerV.ini]
      refine (do_ok (d := d) (k := key2 n) (w := s_sum) (x := some (n : Int)) (by omega) h5).by ?_
      rintro _ s6 ⟨rfl, h6⟩
      rw [st2_next hlt] at h6 ⊢
      have ew : woV (some ((n : Int) + 1)) = .int ((n : Int) + 1) := rfl
      rw [ew]
      simp!
      exact ⟨_, rfl, h6⟩
    · rintro _ s5 ⟨x2, rfl, h5⟩
      rw [upTo_n] at h5
      have h5 : Own s5 (wkO W UT (st2 320) ++ ((ql, .lst (S20.map spot)) :: F)) := h5
      have sl := st2_len 320
      have er : Wk.rangeOf [.int 0, .int 320, .int 29] s5 = .ok (.free (stepTo 0 29 12)) s5 := by
        show (if (29 : Int) ≠ 0 ∧ (29 : Int).natAbs < 1073741824 ∧ PySem.Builtin.Range.small 0 320 29 = true ∧ 0 ≤ PySem.Builtin.Range.rangeSize 0 320 29 then R.ok (Wk.free (stepTo 0 29 (PySem.Builtin.Range.rangeSize 0 320 29).toNat)) s5 else R.bad) = _
        rw [if_pos (by decide)]
        rfl
      have hst : ∀ x ∈ stepTo 0 29 12, ∃ k : Nat, k < 320 ∧ x = .int (k : Int) := by
        intro x hx
        simp only [stepTo, List.mem_cons, List.not_mem_nil, or_false] at hx
        rcases hx with rfl | rfl | rfl | rfl | rfl | rfl | rfl | rfl | rfl | rfl | rfl | rfl
        · exact ⟨0, by decide, rfl⟩
        · exact ⟨29, by decide, rfl⟩
        · exact ⟨58, by decide, rfl⟩
        · exact ⟨87, by decide, rfl⟩
        · exact ⟨116, by decide, rfl⟩
        · exact ⟨145, by decide, rfl⟩
        · exact ⟨174, by decide, rfl⟩
        · exact ⟨203, by decide, rfl⟩
        · exact ⟨232, by decide, rfl⟩
        · exact ⟨261, by decide, rfl⟩
        · exact ⟨290, by decide, rfl⟩
        · exact ⟨319, by decide, rfl⟩
      simp! [b__law_unlike_orders_l3, er]
      refine FQ_free (fun pre ρ s' => ∃ x2, ρ = [some (.loc W.q), some (.loc ql), x2, none] ∧ Own s' (wkO W UT (st2 320) ++ ((ql, .lst (S20.map spot)) :: F))) ⟨_, rfl, h5⟩ ?_ ?_
      · rintro pre x post _ s5 e ⟨x2, rfl, h5⟩
        obtain ⟨k, hk, rfl⟩ := hst x (by rw [e]; simp)
        have dk := do_known (T := UT) (w := s_sum) (x := some (5 * (k : Int) + 1)) (st2_get 320 (Nat.le_refl _) k hk)
        simp! [b__law_unlike_orders_b3, g0 h5, WorkerV.mt_do, WorkerV.mt_made_of, WorkerV.mt_deeds, WorkerV.ini]
        refine (do_ok (d := d) (k := key2 k) (w := s_sum) (x := some (5 * (k : Int) + 1)) (by omega) h5).by ?_
        rintro _ s6 ⟨rfl, h6⟩
        rw [dk] at h6 ⊢
        have ew : woV (some ((k : Int) + 1)) = .int ((k : Int) + 1) := rfl
        rw [ew]
        simp!
        exact ⟨_, rfl, h6⟩
      · rintro _ s5 ⟨x2, rfl, h5⟩
        have hg : ∀ p ∈ S20, tget (kys (st2 320)) p = tget (kys (st1 20)) p := fun p hp => by
          obtain ⟨a, ha⟩ := Option.isSome_iff_exists.mp (st1_some p hp)
          rw [ha]
          exact tget_app ha
        have eL : (S20.filter fun _ => true).map (fun p => woV ((tget (kys (st2 320)) p).getD none)) = (List.range 20).map fun k : Nat => Val.int ((k : Int) + 1) := by
          have e1 : S20.map (fun p => woV ((tget (kys (st2 320)) p).getD none)) = (S20.map fun p => tget (kys (st1 20)) p).map fun o => woV (o.getD none) := by
            rw [List.map_map]
            refine List.map_congr_left fun p hp => ?_
            show woV ((tget (kys (st2 320)) p).getD none) = woV ((tget (kys (st1 20)) p).getD none)
            rw [hg p hp]
          rw [show S20.filter (fun _ => true) = S20 from List.filter_eq_self.mpr fun _ _ => rfl, e1, st1_get, List.map_map]
          rfl
        simp! [gl h5]
        refine RQ_lcFon (ys := S20) spot (fun p => woV ((tget (kys (st2 320)) p).getD none)) (fun _ => true) (fun s' => Own s' (wkO W UT (st2 320) ++ ((ql, .lst (S20.map spot)) :: F))) (.inr ⟨ql, _, rfl, fun s' h => gl h⟩) (by decide) h5 ?_ ?_
        · intro p hp s6 h6
          obtain ⟨a, ha⟩ := Option.isSome_iff_exists.mp (st1_some p hp)
          have hk := hg p hp
          rw [ha] at hk
          have dk := do_known (T := UT) (w := s_sum) (x := some 9) hk
          have esp : spot p = .tup [.int p.1, .int p.2] := rfl
          rw [esp]
          simp! [g0 h6, WorkerV.mt_do, WorkerV.mt_made_of, WorkerV.mt_deeds, WorkerV.ini]
          refine (do_ok (d := d) (k := p) (w := s_sum) (x := some 9) (by omega) h6).by ?_
          rintro _ s7 ⟨rfl, h7⟩
          rw [dk] at h7 ⊢
          simp!
          rw [hk]
          exact ⟨rfl, h7⟩
        · intro s6 h6
          rw [eL]
          have h7 := h6.new (o := .lst ((List.range 20).map fun k : Nat => Val.int ((k : Int) + 1)))
          have gl7 : sget (snew s6 (.lst ((List.range 20).map fun k : Nat => Val.int ((k : Int) + 1)))) ql = some (.lst (S20.map spot)) := h7.getN 5 rfl
          have e20 : (((S20.map spot).length : Nat) : Int).toNat = 20 := rfl
          have eu : upTo 0 20 = (List.range 20).map fun k : Nat => Val.int (k : Int) := rfl
          simp! [gl7]
          refine ⟨by decide, ?_⟩
          rw [e20, eu]
          generalize slen s6 = qa at h7 ⊢
          generalize (snew s6 (.lst ((List.range 20).map fun k : Nat => Val.int ((k : Int) + 1)))) = s7 at h7 gl7 ⊢
          refine RQ_lcFon (ys := List.range 20) (fun k : Nat => Val.int (k : Int)) (fun k : Nat => Val.int ((k : Int) + 1)) (fun _ => true) (fun s' => s' = s7) (.inl rfl) (by decide) rfl ?_ ?_
          · rintro k _ _ rfl
            simp!
          · intro s8 e8
            rw [e8]
            rw [show (List.range 20).filter (fun _ => true) = List.range 20 from List.filter_eq_self.mpr fun _ _ => rfl]
            simp!
            have h8 := h7.newx (o := .lst ((List.range 20).map fun k : Nat => Val.int ((k : Int) + 1)))
            have pv : ∀ v ∈ (List.range 20).map fun k : Nat => Val.int ((k : Int) + 1), pureV 0 v = true := fun v hv => by
              obtain ⟨k, _, rfl⟩ := List.mem_map.mp hv
              exact pure_int _ _
            refine RQ_ne_pures (h8.get) sget_new pv pv (by decide) ?_
            simp only [decide_true, Bool.not_true]
            have h9 := h8.tail
            generalize (snew s7 (.lst ((List.range 20).map fun k : Nat => Val.int ((k : Int) + 1)))) = s9 at h9 ⊢
            simp! [g0 h9, WorkerV.mt_do, WorkerV.mt_made_of, WorkerV.mt_deeds, WorkerV.ini]
            refine (deeds_ok (d := d + 2) h9).by ?_
            rintro _ s10 ⟨q, rfl, h10⟩
            have gl10 : sget s10 ql = some (.lst (S20.map spot)) := h10.getN 5 rfl
            have e360 : (((st2 320).map Dd.v).length : Int) = 360 := by rw [List.length_map, sl]; rfl
            have e20' : (((S20.map spot).length : Nat) : Int) = 20 := rfl
            simp! [h10.get, gl10, e360, e20', en, WorkerV.mt_do, WorkerV.mt_made_of, WorkerV.mt_deeds, WorkerV.ini]
            have h11 := h10.tail.new (o := .dic false (trV []))
            have n2 := init_ok (d := d + 2) (T := []) (h := slen s10) h11 List.mem_cons_self
            rw [slen_snew] at n2
            refine n2.by ?_
            rintro _ s12 ⟨rfl, W2, e2, h12⟩
            refine ⟨rfl, ?_⟩
            rw [← e2]
            have g12 : sget s12 W2.q = some (.ins 0 (WorkerV.fs ⟨.loc W2.qt, .loc W2.qd, .loc W2.qa⟩)) := h12.getN 0 rfl
            simp! [g12, WorkerV.mt_do, WorkerV.mt_made_of, WorkerV.mt_deeds, WorkerV.ini]
            refine (do_ok (d := d) (T := []) (D := []) (k := (0, 0)) (w := s_sum) (x := some 5) (Nat.zero_le _) h12).by ?_
            rintro _ s13 ⟨rfl, h13⟩
            have e0 : (doM [] [] (0, 0) s_sum (some 5)).1 = none := rfl
            rw [e0]
            simp! [woV]
end

def T71 (a b : Int) : Tr := [(s_sum, some a), (s_vast, some b), (s_cnt, none), (s_tally, none)]
structure P71 where
  W0 : WL
  W1 : WL
  d0 : Nat
  d1 : Nat
  k0 : Nat
  k1 : Nat
  q5 : Nat
  q6 : Nat
  q7 : Nat
  q8 : Nat
  qt : Nat
def P71.R (p : P71) (T : Tr) (M : List (Nat × Ob)) : List (Nat × Ob) := (p.q5, .lst [.loc p.W0.q, .loc p.W1.q]) :: (p.q6, .lst [.loc p.d0, .loc p.d1]) :: (p.q7, .lst [.loc p.k0, .loc p.k1]) :: (p.qt, .dic false (trV T)) :: M
def P71.F (p : P71) (T : Tr) (D0 D1 : List Dd) (hs : List Nat) (H M : List (Nat × Ob)) : List (Nat × Ob) :=
  wkO p.W0 T D0 ++ (wkO p.W1 T D1 ++ ((p.d0, .lst (D0.map Dd.v)) :: (p.d1, .lst (D1.map Dd.v)) :: (p.k0, .dic true (tV woV (kys D0))) :: (p.k1, .dic true (tV woV (kys D1))) :: (p.q8, .lst (hs.map .loc)) :: (H ++ p.R T M)))
/-- what was held is held in pairs that are alike -/
def Held (hs : List Nat) (H : List (Nat × Ob)) : Prop := ∀ h ∈ hs, ∃ a b vs, (h, .lst [.loc a, .loc b]) ∈ H ∧ (a, .lst vs) ∈ H ∧ (b, .lst vs) ∈ H ∧ ∀ v ∈ vs, pureV 1 v = true
theorem Held.next {hs : List Nat} {H : List (Nat × Ob)} {h a b : Nat} {vs : List Val} (k : Held hs H) (hp : ∀ v ∈ vs, pureV 1 v = true) : Held (hs ++ [h]) ((h, .lst [.loc a, .loc b]) :: (a, .lst vs) :: (b, .lst vs) :: H) := by
  intro x hx
  rcases List.mem_append.mp hx with e | e
  · obtain ⟨a', b', vs', h1, h2, h3, h4⟩ := k x e
    exact ⟨a', b', vs', by simp [h1], by simp [h2], by simp [h3], h4⟩
  · rw [List.mem_singleton.mp e]
    exact ⟨a, b, vs, by simp, by simp, by simp, hp⟩
def I71 (p : P71) (T : Tr) (M : List (Nat × Ob)) (c0 : Int) (n : Nat) : QN := fun ρ s' => ∃ x2 x4 x9 x10 x11 x12 x13 x14 x15 x16 D0 D1 hs H, ρ = [some (.loc 0), some (.int c0), x2, some (.loc p.qt), x4, some (.loc p.q5), some (.loc p.q6), some (.loc p.q7), some (.loc p.q8), x9, x10, x11, x12, x13, x14, x15, x16] ∧ D0.length ≤ n ∧ D1.length ≤ n ∧ hs.length = n ∧ Held hs H ∧ Own s' (p.F T D0 D1 hs H M)
section
variable {s s' : Store} {p : P71} {T : Tr} {M : List (Nat × Ob)} {c0 : Int} {n : Nat} {ns : List Int}
theorem body71 {TT : QV} {XX : QF} {c : Int} {ρ : Env} (hn : n ≤ 1000) (hI : I71 p T M c0 n ρ s) : FQ (frT (gmD pg 18) (.n 9) b_law_b1 (.int c) ρ s) (I71 p T M c0 (n + 1)) (I71 p T M c0 (n + 1)) TT XX := by
  obtain ⟨x2, x4, x9, x10, x11, x12, x13, x14, x15, x16, D0, D1, hs, H, rfl, l0, l1, lh, hd, o⟩ := hI
  have t0 : ∀ {s' : Store} {r : Nat} {k : Int} {who : Int}, who = 0 → 0 ≤ k → k ≤ 1000 → Deck s' r k (p.F T D0 D1 hs H M) → FQ (exec (gmD pg 18) (tlS (tlS b_law_b1)) [some (.loc 0), some (.int c0), x2, some (.loc p.qt), x4, some (.loc p.q5), some (.loc p.q6), some (.loc p.q7), some (.loc p.q8), some (.int c), some (.loc r), some (.int who), x12, x13, x14, x15, x16] s') (I71 p T M c0 (n + 1)) (I71 p T M c0 (n + 1)) TT XX := by
    rintro s' r k _ rfl k0 k1 h
    have h' : Deck s' r k (fr71 p.W0 T D0 p.d0 p.k0 p.q8 hs (wkO p.W1 T D1 ++ ((p.d1, .lst (D1.map Dd.v)) :: (p.k1, .dic true (tV woV (kys D1))) :: (H ++ p.R T M)))) := by
      obtain ⟨a, b, f, h, e⟩ := h
      refine ⟨a, b, f, h.perm (List.Perm.cons _ ?_), e⟩
      unfold P71.F fr71
      refine List.perm_iff_count.mpr fun z => ?_
      simp only [List.count_append, List.count_cons]; omega
    have fin : ∀ ρ s', N71 p.W0 T D0 p.d0 p.k0 p.q5 p.q6 p.q7 p.q8 p.qt r c0 0 hs (wkO p.W1 T D1 ++ ((p.d1, .lst (D1.map Dd.v)) :: (p.k1, .dic true (tV woV (kys D1))) :: (H ++ p.R T M))) x2 x4 (some (.int c)) x16 ρ s' → I71 p T M c0 (n + 1) ρ s' := by
      rintro ρ s' ⟨D', h, a, b, x12, x13, x14, x15, rfl, hl, o'⟩
      refine ⟨_, _, _, _, _, _, _, _, _, _, D', D1, hs ++ [h], (h, .lst [.loc a, .loc b]) :: (a, .lst (D'.map Dd.v)) :: (b, .lst (D'.map Dd.v)) :: H, rfl, by omega, by omega, by rw [List.length_append, lh]; rfl, hd.next (dd_pure D'), o'.perm ?_⟩
      unfold P71.F fr71
      refine List.perm_iff_count.mpr fun z => ?_
      simp only [List.count_append, List.count_cons]; omega
    refine (turn71 (L5 := [.loc p.W0.q, .loc p.W1.q]) (L6 := [.loc p.d0, .loc p.d1]) (L7 := [.loc p.k0, .loc p.k1]) ⟨rfl, rfl, rfl, ?_, ?_, ?_, ?_⟩ (by omega) (by omega) k0 k1 h' fin).mono fin (fun _ _ z => z) (fun _ _ z => z) fun _ _ _ z => z
    all_goals unfold P71.R; simp
  have t1 : ∀ {s' : Store} {r : Nat} {k : Int} {who : Int}, who = 1 → 0 ≤ k → k ≤ 1000 → Deck s' r k (p.F T D0 D1 hs H M) → FQ (exec (gmD pg 18) (tlS (tlS b_law_b1)) [some (.loc 0), some (.int c0), x2, some (.loc p.qt), x4, some (.loc p.q5), some (.loc p.q6), some (.loc p.q7), some (.loc p.q8), some (.int c), some (.loc r), some (.int who), x12, x13, x14, x15, x16] s') (I71 p T M c0 (n + 1)) (I71 p T M c0 (n + 1)) TT XX := by
    rintro s' r k _ rfl k0 k1 h
    have h' : Deck s' r k (fr71 p.W1 T D1 p.d1 p.k1 p.q8 hs (wkO p.W0 T D0 ++ ((p.d0, .lst (D0.map Dd.v)) :: (p.k0, .dic true (tV woV (kys D0))) :: (H ++ p.R T M)))) := by
      obtain ⟨a, b, f, h, e⟩ := h
      refine ⟨a, b, f, h.perm (List.Perm.cons _ ?_), e⟩
      unfold P71.F fr71
      refine List.perm_iff_count.mpr fun z => ?_
      simp only [List.count_append, List.count_cons]; omega
    have fin : ∀ ρ s', N71 p.W1 T D1 p.d1 p.k1 p.q5 p.q6 p.q7 p.q8 p.qt r c0 1 hs (wkO p.W0 T D0 ++ ((p.d0, .lst (D0.map Dd.v)) :: (p.k0, .dic true (tV woV (kys D0))) :: (H ++ p.R T M))) x2 x4 (some (.int c)) x16 ρ s' → I71 p T M c0 (n + 1) ρ s' := by
      rintro ρ s' ⟨D', h, a, b, x12, x13, x14, x15, rfl, hl, o'⟩
      refine ⟨_, _, _, _, _, _, _, _, _, _, D0, D', hs ++ [h], (h, .lst [.loc a, .loc b]) :: (a, .lst (D'.map Dd.v)) :: (b, .lst (D'.map Dd.v)) :: H, rfl, by omega, by omega, by rw [List.length_append, lh]; rfl, hd.next (dd_pure D'), o'.perm ?_⟩
      unfold P71.F fr71
      refine List.perm_iff_count.mpr fun z => ?_
      simp only [List.count_append, List.count_cons]; omega
    refine (turn71 (L5 := [.loc p.W0.q, .loc p.W1.q]) (L6 := [.loc p.d0, .loc p.d1]) (L7 := [.loc p.k0, .loc p.k1]) ⟨rfl, rfl, rfl, ?_, ?_, ?_, ?_⟩ (by omega) (by omega) k0 k1 h' fin).mono fin (fun _ _ z => z) (fun _ _ z => z) fun _ _ _ z => z
    all_goals unfold P71.R; simp
  simp! [b_law_b1, tlS] at t0
  simp! [b_law_b1, tlS] at t1
  simp! [b_law_b1]
  have hk : Deck (snew s (.lst [.int c, .int (c0 % 2), .int 7])) (slen s) 7 (p.F T D0 D1 hs H M) := ⟨_, _, _, o.new, by omega, by omega⟩
  refine (take_ok hk (by omega) (by omega) (by omega)).by ?_
  rintro _ s2 ⟨w, rfl, w0, w1, h2⟩
  simp!
  by_cases e : w = 0
  · exact t0 e (by omega) (by omega) h2
  · exact t1 (by omega) (by omega) (by omega) h2
end

theorem tr_pure (u : Option Int) : pureV 1 (tr1 u) = true := by
  cases u with
  | none => exact pure1 fun v hv => by rw [List.mem_singleton.mp hv]; exact pure_str _ _
  | some n =>
    refine pure1 fun v hv => ?_
    simp only [List.mem_cons, List.not_mem_nil, or_false] at hv
    rcases hv with rfl | rfl
    · exact pure_str _ _
    · exact pure_int _ _
theorem law_ev (ns : List Int) (hn : ns.length ≤ 63) : ∃ s', callD pg 19 11 [.loc 0] [.rol (ns.map .int)] = .ok (.bl true) s' := by
  have h : RQ (callD pg (18 + 1) 11 [.loc 0] [.rol (ns.map .int)]) (fun v _ => v = .bl true) NoX := by
    rw [w_law]
    have h0 : Own [.rol (ns.map .int)] [(0, .rol (ns.map .int))] := Own.one
    generalize [Ob.rol (ns.map Val.int)] = s at h0
    simp! [b_law]
    refine (cell_ok (d := 17) h0.get (by decide)).by ?_
    rintro _ _ ⟨⟨c0, rfl⟩, rfl⟩
    have h1 := h0.new (o := .lst [.int 1000000000, .int (-1000000000)])
    simp! [h1.get]
    refine RQ_at (by omega) (by show c0 / 40 % 2 < 2; omega) fun v hv _ => ?_
    obtain ⟨b, rfl⟩ : ∃ b : Int, v = .int b := by
      simp only [List.mem_cons, List.not_mem_nil, or_false] at hv
      rcases hv with rfl | rfl <;> exact ⟨_, rfl⟩
    have h1 := h1.tail
    generalize (snew s (.lst [.int 1000000000, .int (-1000000000)])) = s1 at h1 ⊢
    have ed : ∀ (a : Int) s, dicOfL false [.str s_sum, .tup [.str s_sum, .int a], .str s_vast, .tup [.str s_sum, .int b], .str s_cnt, .tup [.str s_count], .str s_tally, .tup [.str s_count]] s = alloc (.dic false (trV (T71 a b))) s := fun _ _ => rfl
    simp! [ed]
    generalize c0 / 2 % 20 - 9 = a
    have h2 := h1.new (o := .dic false (trV (T71 a b)))
    have hT : ∀ p ∈ trV (T71 a b), fitKey false p.1 = true ∧ ∀ s, veq 20 s p.2 p.2 = some true := fun p hp => by
      obtain ⟨u, _, rfl⟩ := List.mem_map.mp hp
      refine ⟨rfl, fun s => ?_⟩
      rw [veq_pure s 1 (tr_pure u.2) (tr_pure u.2) 20 (by decide)]; simp
    have hN : ((trV (T71 a b)).map (·.1)).Nodup := by
      have e : (trV (T71 a b)).map (·.1) = [s_sum, s_vast, s_cnt, s_tally].map Val.str := rfl
      rw [e]
      exact List.pairwise_map.mpr ((by decide : List.Nodup [s_sum, s_vast, s_cnt, s_tally]).imp fun h e => h (by cases e; rfl))
    generalize T71 a b = T at *
    generalize slen s1 = qt at h2 ⊢
    generalize (snew s1 (.dic false (trV T))) = s2 at h2 ⊢
    simp! [h2.get]
    have h3 := h2.new (o := .dic false (trV T))
    generalize slen s2 = qh at h3 ⊢
    generalize (snew s2 (.dic false (trV T))) = s3 at h3 ⊢
    simp! [WorkerV.mt_do, WorkerV.mt_made_of, WorkerV.mt_deeds, WorkerV.ini]
    refine (init_ok (d := 17) (h := qh) h3 List.mem_cons_self).by ?_
    rintro _ s4 ⟨rfl, W0, e0, h4⟩
    refine ⟨rfl, ?_⟩
    rw [← e0]
    simp! [h4.mem (l := qt) (o := .dic false (trV T)) (by simp), WorkerV.mt_do, WorkerV.mt_made_of, WorkerV.mt_deeds, WorkerV.ini]
    have h5 := h4.new (o := .dic false (trV T))
    have n5 := init_ok (d := 17) (h := slen s4) h5 List.mem_cons_self
    rw [slen_snew] at n5
    refine n5.by ?_
    rintro _ s6 ⟨rfl, W1, e1, h6⟩
    refine ⟨rfl, ?_⟩
    rw [← e1]
    have h7 := h6.new (o := .lst [.loc W0.q, .loc W1.q])
    simp!
    generalize slen s6 = q5 at h7 ⊢
    generalize (snew s6 (.lst [.loc W0.q, .loc W1.q])) = s7 at h7 ⊢
    refine RQ_ne_dsame (h7.mem (l := qh) (o := .dic false (trV T)) (by simp)) (h7.mem (l := qt) (o := .dic false (trV T)) (by simp)) (fun p hp => ⟨(hT p hp).1, (hT p hp).2 s7⟩) hN ?_
    have gh : sget s7 qh = some (.dic false (trV T)) := h7.mem (by simp)
    have ecl : bmf .dic .clear (.loc qh) [] s7 = .ok .non (sput s7 qh (.dic false [])) := by
      unfold bmf
      simp only [gh]
    have h8 : Own s7 ((qh, .dic false (trV T)) :: (wkO W0 T [] ++ (wkO W1 T [] ++ [(q5, .lst [.loc W0.q, .loc W1.q]), (qt, .dic false (trV T)), (0, .rol (ns.map .int))]))) := by
      refine (h7.perm (M := (slen s4, .dic false (trV T)) :: ((qh, .dic false (trV T)) :: (wkO W0 T [] ++ (wkO W1 T [] ++ [(q5, .lst [.loc W0.q, .loc W1.q]), (qt, .dic false (trV T)), (0, .rol (ns.map .int))])))) ?_).tail
      refine List.perm_iff_count.mpr fun z => ?_
      simp only [List.count_append, List.count_cons, List.count_nil]; omega
    have h9 := (h8.put (u := .dic false [])).tail
    simp! [gh, ecl]
    have e9 : slen (sput s7 qh (.dic false [])) = slen s7 := slen_sput _ _ _
    generalize (sput s7 qh (.dic false [])) = s9 at h9 e9 ⊢
    have h10 := (((h9.new (o := .lst [])).new (o := .lst [])).new (o := .lst [.loc (slen s9), .loc (slen s9 + 1)]))
    have h11 := ((h10.new (o := .dic true [])).new (o := .dic true [])).new (o := .lst [.loc (slen s9 + 1 + 1 + 1), .loc (slen s9 + 1 + 1 + 1 + 1)])
    have h12 := h11.new (o := .lst [])
    simp only [slen_snew, e9] at h12
    have e12 : slen (snew (snew (snew (snew (snew (snew (snew s9 (.lst [])) (.lst [])) (.lst [.loc (slen s7), .loc (slen s7 + 1)])) (.dic true [])) (.dic true [])) (.lst [.loc (slen s7 + 1 + 1 + 1), .loc (slen s7 + 1 + 1 + 1 + 1)])) (.lst [])) = slen s7 + 1 + 1 + 1 + 1 + 1 + 1 + 1 := by simp only [slen_snew, e9]
    simp! [b_law_l1]
    generalize (snew (snew (snew (snew (snew (snew (snew s9 (.lst [])) (.lst [])) (.lst [.loc (slen s7), .loc (slen s7 + 1)])) (.dic true [])) (.dic true [])) (.lst [.loc (slen s7 + 1 + 1 + 1), .loc (slen s7 + 1 + 1 + 1 + 1)])) (.lst [])) = s12 at h12 e12 ⊢
    generalize slen s7 = z at h12 e12 e9 ⊢
    have h13 := h12.new (o := .lst [.int 0, .int 5])
    have ecm : cut (ns.map Val.int) none (some 61) = (cut ns none (some 61)).map Val.int := by
      unfold cut
      rw [List.length_map, ← List.map_drop, ← List.map_take]
    have hcl : (cut ns none (some 61)).length ≤ 61 := by
      unfold cut
      rw [List.length_take]
      have e1 : HT.sIx ns.length 0 none = 0 := rfl
      have e2 : HT.sIx ns.length ns.length (some 61) = min 61 ns.length := rfl
      rw [e1, e2]; omega
    have h14 := h13.new (o := .lst ((cut ns none (some 61)).map Val.int))
    rw [slen_snew, e12] at h14
    have g0 : sget (snew s12 (.lst [.int 0, .int 5])) 0 = some (.rol (ns.map .int)) := h13.mem (by simp)
    have ez : [Val.int 0, .int 5] ++ (cut ns none (some 61)).map Val.int = ([0, 5] ++ cut ns none (some 61)).map .int := by rw [List.map_append]; rfl
    simp! [g0, ecm, e12, e9, h14.get, h14.get1, ez]
    refine ⟨by rw [List.length_map, List.length_append]; show 2 + _ ≤ 16777216; omega, ?_⟩
    have hcl2 : ([0, 5] ++ cut ns none (some 61)).length ≤ 63 := by rw [List.length_append]; show 2 + _ ≤ 63; omega
    have h15 := (h14.tail.tail).new (o := .lst (([0, 5] ++ cut ns none (some 61)).map Val.int))
    rw [slen_snew, slen_snew, e12] at h15
    generalize ([0, 5] ++ cut ns none (some 61)) = cs at hcl2 h15 ⊢
    generalize (snew (snew s12 (.lst [.int 0, .int 5])) (.lst ((cut ns none (some 61)).map Val.int))) = s14 at h15 ⊢
    generalize z + 1 + 1 + 1 + 1 + 1 + 1 + 1 + 1 + 1 = qc at h15 ⊢
    generalize (snew s14 (.lst (cs.map Val.int))) = s15 at h15 ⊢
    simp! [h15.get]
    obtain ⟨p, hp⟩ : ∃ p : P71, p = ⟨W0, W1, z, z + 1, z + 1 + 1 + 1, z + 1 + 1 + 1 + 1, q5, z + 1 + 1, z + 1 + 1 + 1 + 1 + 1, z + 1 + 1 + 1 + 1 + 1 + 1, qt⟩ := ⟨_, rfl⟩
    have o0 : Own s15 (p.F T [] [] [] [] [(qc, .lst (cs.map Val.int)), (0, .rol (ns.map .int))]) := by
      refine h15.perm ?_
      rw [hp]
      unfold P71.F P71.R
      refine List.perm_iff_count.mpr fun z => ?_
      simp only [List.count_append, List.count_cons, List.count_nil, List.map_nil]
      have e1 : tV woV (kys []) = [] := rfl
      rw [e1]
      omega
    have gc : ∀ {s' : Store} {D0 D1 : List Dd} {hs : List Nat} {H : List (Nat × Ob)}, Own s' (p.F T D0 D1 hs H [(qc, .lst (cs.map Val.int)), (0, .rol (ns.map .int))]) → sget s' qc = some (.lst (cs.map Val.int)) := fun h => h.mem (by unfold P71.F P71.R; simp)
    have rq : ([some (.loc 0), some (.int c0), some (.int b), some (.loc qt), some (.loc qh), some (.loc q5), some (.loc (z + 1 + 1)), some (.loc (z + 1 + 1 + 1 + 1 + 1)), some (.loc (z + 1 + 1 + 1 + 1 + 1 + 1)), none, none, none, none, none, none, none, none] : Env) = [some (.loc 0), some (.int c0), some (.int b), some (.loc p.qt), some (.loc qh), some (.loc p.q5), some (.loc p.q6), some (.loc p.q7), some (.loc p.q8), none, none, none, none, none, none, none, none] := by rw [hp]
    rw [rq]
    clear rq hp
    refine FQ_keepIx (ys := cs) Val.int (fun k ρ s' => I71 p T [(qc, .lst (cs.map Val.int)), (0, .rol (ns.map .int))] c0 k ρ s') ⟨_, _, _, _, _, _, _, _, _, _, [], [], [], [], rfl, Nat.le_refl _, Nat.le_refl _, rfl, nofun, o0⟩ ?_ ?_ ?_
    · rintro k ρ s' ⟨_, _, _, _, _, _, _, _, _, _, D0, D1, hs, H, _, _, _, _, _, o⟩
      exact gc o
    · rintro k c ρ s' hc hI
      have hk := (List.getElem?_eq_some_iff.mp hc).1
      exact body71 (by omega) hI
    · rintro _ s' ⟨x2, x4, x9, x10, x11, x12, x13, x14, x15, x16, D0, D1, hs, H, rfl, l0, l1, lh, hd, o⟩
      have g8 : ∀ {s' : Store}, Own s' (p.F T D0 D1 hs H [(qc, .lst (cs.map Val.int)), (0, .rol (ns.map .int))]) → sget s' p.q8 = some (.lst (hs.map .loc)) := fun h => h.mem (by unfold P71.F; simp)
      have inH : ∀ {e : Nat × Ob}, e ∈ H → e ∈ p.F T D0 D1 hs H [(qc, .lst (cs.map Val.int)), (0, .rol (ns.map .int))] := fun he => by unfold P71.F; simp [he]
      simp! [g8 o]
      refine RQ_lcFon (ys := hs) Val.loc Val.loc (fun _ => false) (fun s' => Own s' (p.F T D0 D1 hs H [(qc, .lst (cs.map Val.int)), (0, .rol (ns.map .int))])) (.inr ⟨p.q8, _, rfl, fun s' h => g8 h⟩) (by show _ ≤ 16777216; omega) o ?_ ?_
      · intro h hh s2 o2
        obtain ⟨a, b, vs, m1, m2, m3, hv⟩ := hd h hh
        have e0 : L2.atI [Val.loc a, .loc b] 0 = some (.loc a) := rfl
        have e1 : L2.atI [Val.loc a, .loc b] 1 = some (.loc b) := rfl
        simp! [o2.mem (inH m1), e0, e1]
        refine RQ_ne_pures (o2.mem (inH m2)) (o2.mem (inH m3)) hv hv (by decide) ?_
        simp only [decide_true, Bool.not_true]
        simp!
        exact o2
      · intro s2 o2
        have ef : (hs.filter fun _ => false) = [] := List.filter_eq_nil_iff.mpr fun _ _ => Bool.false_ne_true
        rw [ef, List.map_nil]
        simp!
        have o3 := (o2.new (o := .lst [])).new (o := .lst [])
        rw [slen_snew] at o3
        refine RQ_ne0 o3.get1 o3.get ?_
        have o3 := o3.tail.tail
        generalize (snew (snew s2 (.lst [])) (.lst [])) = s3 at o3 ⊢
        have b5 : (p.q5, Ob.lst [.loc p.W0.q, .loc p.W1.q]) ∈ p.F T D0 D1 hs H [(qc, .lst (cs.map Val.int)), (0, .rol (ns.map .int))] := by unfold P71.F P71.R; simp
        have b6 : (p.q6, Ob.lst [.loc p.d0, .loc p.d1]) ∈ p.F T D0 D1 hs H [(qc, .lst (cs.map Val.int)), (0, .rol (ns.map .int))] := by unfold P71.F P71.R; simp
        have i0 : L2.atI [Val.loc p.W0.q, .loc p.W1.q] 0 = some (.loc p.W0.q) := rfl
        have i1 : L2.atI [Val.loc p.W0.q, .loc p.W1.q] 1 = some (.loc p.W1.q) := rfl
        have j0 : L2.atI [Val.loc p.d0, .loc p.d1] 0 = some (.loc p.d0) := rfl
        have j1 : L2.atI [Val.loc p.d0, .loc p.d1] 1 = some (.loc p.d1) := rfl
        simp! [List.isEmpty_nil, o3.mem b5, o3.mem b6, i0, j0]
        refine (told_ok (d := 16) (W := p.W0) (qd := p.d0) (D := D0) (by omega) o3 (List.mem_append_right _ List.mem_cons_self)).by ?_
        rintro _ s4 ⟨rfl, o4⟩
        have o4 : Own s4 (p.F T D0 D1 hs H [(qc, .lst (cs.map Val.int)), (0, .rol (ns.map .int))]) := o4
        simp! [o4.mem b5, o4.mem b6, i1, j1]
        have o5 : Own s4 (wkO p.W1 T D1 ++ (wkO p.W0 T D0 ++ ((p.d0, .lst (D0.map Dd.v)) :: (p.d1, .lst (D1.map Dd.v)) :: (p.k0, .dic true (tV woV (kys D0))) :: (p.k1, .dic true (tV woV (kys D1))) :: (p.q8, .lst (hs.map .loc)) :: (H ++ p.R T [(qc, .lst (cs.map Val.int)), (0, .rol (ns.map .int))])))) := o4.perm (by
          unfold P71.F
          refine List.perm_iff_count.mpr fun z => ?_
          simp only [List.count_append, List.count_cons]; omega)
        refine (told_ok (d := 16) (W := p.W1) (qd := p.d1) (D := D1) (by omega) o5 (List.mem_append_right _ (by simp))).by ?_
        rintro _ s6 ⟨rfl, o6⟩
        simp!
        refine (unlike_ok (d := 14) o6).by ?_
        rintro v s7 rfl
        rfl
  obtain ⟨v, s', e, rfl⟩ := h.ex
  exact ⟨s', e⟩

end K71


set_option maxHeartbeats 0
open PySem PySem.W PySem.Calls PyProof.Rows in
set_option maxHeartbeats 0 in
theorem PySem.Challenge.cw_outlast_k71_each_order_once_holds : PySem.Challenge.rw_outlast_k71_each_order_once.Holds := by
  w_on; o_law
  refine HandSHeadRun.head_any (r := K71H.R) (q := K71H.qv) (H := K71H.hk) (ob := K71H.ob) (M := 9000) (loose := K71H.loose) (d := HandSHeadRun.topDef K71H.R.prog 12) (kwd := []) K71H.ob_eq
    (by kernel_rfl) (fun s => by kernel_rfl) K71H.run (by kernel_rfl) (by kernel_rfl) (by kernel_rfl) (by rfl) (by first | assumption | decide +kernel) (by decide +kernel) ⟨rfl, rfl, rfl, rfl, rfl, by decide +kernel⟩ ?hw ?hc
  case hw => w_witness2
  case hc =>
    refine L2.walk_ofE (l := PySem.Challenge.rw_outlast_k71_each_order_once) (n := 63) (k := 2 * 18 + 2) (x := "script") (CX := L2.CX0) rfl (by decide) (by kernel_rfl) ⟨rfl, by decide, by decide⟩ ?F (fun _ _ _ _ z => z)
    intro w mg fa h Y G hmg0
    obtain ⟨K, KX, c⟩ := Y
    have hmg : mg ("law" : PySem.Str) = some (.ref fa) := by
      have e : (HandSHeadRun.topDef K71H.R.prog 12).name = ("law" : PySem.Str) := by kernel_rfl
      rw [← e]
      exact hmg0
    obtain ⟨fd, hb, hF⟩ := K71H.facts (P := (PySem.Challenge.rw_outlast_k71_each_order_once).prog) (w := w) KX G hmg c.t.d c.more 18
    exact ⟨K, fd, fun vs H Q _ => Ov.spC ⟨K, K71H.names, K71H.cls K, fun r => (K71H.rs K).lookup r⟩ (Ov.callD K71.pg 19 11) 1 vs H Q fun _ _ _ => False, KX, hb, fun H a ns hl hO hS => Ov.law_sp (T := ⟨K, K71H.names, K71H.cls K, fun r => (K71H.rs K).lookup r⟩) (He.ba c.more).1 K71.law_ev hl hO hS, fun base k1 k2 => Ov.calm0 (hF base k1 k2)⟩
