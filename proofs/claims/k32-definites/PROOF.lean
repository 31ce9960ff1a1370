import PyProof.Rows.All
import Wide.All
import OpenK.AllK
import Wide.FinOn
import PySem.Str
import PySem.PyData
import PyProof.P3Statements
import PyProof.Lay0
import KE.DataCmp
import KE.SortData
import KE.DataAny
import HandS.ForMost
import HandS.ForExc
import HandS.TryMany
import HandS.Wide
import HandS.EndBits
import HandS.SortRule
import HandS.RevTup
import HandS.IsInst
import KE.KDictKeyed
import HandS.TupMul
import HandS.TupAny
import HandS.Zip
import HandS.RevRange
import HandS.WordsExc
import HandS.DictComp
import PyProof.P3Eq
import PySem.Challenge.RW_stackstead_k32_definite_machines
set_option Elab.async false
section
set_option linter.all false
namespace DV
open PySem

/-- a value: what does not change is a tree; what changes stands under a number -/
inductive D where
  | non | bl (b : Bool) | int (i : Int) | str (s : Str) | tup (xs : List D) | ref (n : Nat) | fn (n : Nat) | exc (c : Nat) (x : D) | rol (ns : List Int)
  deriving Inhabited, Repr
mutual
def D.beq : D → D → Bool
  | .non, .non => true
  | .bl a, .bl b => decide (a = b)
  | .int a, .int b => decide (a = b)
  | .str a, .str b => decide (a = b)
  | .tup a, .tup b => D.beqs a b
  | .ref a, .ref b => decide (a = b)
  | .fn a, .fn b => decide (a = b)
  | .exc c x, .exc d y => decide (c = d) && D.beq x y
  | .rol a, .rol b => decide (a = b)
  | _, _ => false
def D.beqs : List D → List D → Bool
  | [], [] => true
  | x :: xs, y :: ys => D.beq x y && D.beqs xs ys
  | _, _ => false
end
mutual
theorem D.beq_iff : ∀ a b : D, D.beq a b = true ↔ a = b
  | .non, b => by cases b <;> simp [D.beq]
  | .bl _, b => by cases b <;> simp [D.beq]
  | .int _, b => by cases b <;> simp [D.beq]
  | .str _, b => by cases b <;> simp [D.beq]
  | .tup xs, b => by
    cases b with
    | tup ys => simp only [D.beq, D.tup.injEq]; exact D.beqs_iff xs ys
    | _ => simp [D.beq]
  | .ref _, b => by cases b <;> simp [D.beq]
  | .fn _, b => by cases b <;> simp [D.beq]
  | .rol _, b => by cases b <;> simp [D.beq]
  | .exc c x, b => by
    cases b with
    | exc d y => simp only [D.beq, Bool.and_eq_true, decide_eq_true_eq, D.exc.injEq, D.beq_iff x y]
    | _ => simp [D.beq]
theorem D.beqs_iff : ∀ a b : List D, D.beqs a b = true ↔ a = b
  | [], [] => by simp [D.beqs]
  | [], _ :: _ => by simp [D.beqs]
  | _ :: _, [] => by simp [D.beqs]
  | x :: xs, y :: ys => by simp only [D.beqs, Bool.and_eq_true, D.beq_iff x y, D.beqs_iff xs ys, List.cons.injEq]
end
instance : DecidableEq D := fun a b => decidable_of_iff _ (D.beq_iff a b)

mutual
/-- no number of k or more within -/
def D.low (k : Nat) : D → Bool
  | .tup xs => D.lows k xs
  | .ref n => decide (n < k)
  | .exc _ x => x.low k
  | _ => true
def D.lows (k : Nat) : List D → Bool
  | [] => true
  | x :: xs => x.low k && D.lows k xs
end

inductive O where
  | lst (xs : List D) | dic (kvs : List (D × D)) | ins (c : Nat) (fs : List (Str × D))
  deriving Inhabited, Repr, DecidableEq
def O.low (k : Nat) : O → Bool
  | .lst xs => D.lows k xs
  | .dic kvs => kvs.all fun p => p.1.low k && p.2.low k
  | .ins _ fs => fs.all fun p => p.2.low k
abbrev G := List O

inductive R (α : Type) where
  | ok (a : α) (g : G)
  | exc (c : Nat) (x : D) (g : G)
  | stuck
  deriving Repr, Inhabited
def R.bind {α β : Type} (r : R α) (f : α → G → R β) : R β := match r with
  | .ok a g => f a g
  | .exc c x g => .exc c x g
  | .stuck => .stuck
@[simp] theorem R.bind_ok {α β : Type} (a : α) (g : G) (f : α → G → R β) : (R.ok a g).bind f = f a g := rfl
@[simp] theorem R.bind_exc {α β : Type} (c : Nat) (x : D) (g : G) (f : α → G → R β) : (R.exc c x g : R α).bind f = .exc c x g := rfl
@[simp] theorem R.bind_stuck {α β : Type} (f : α → G → R β) : (R.stuck : R α).bind f = .stuck := rfl

/-- an exception does not leave a comprehension, a target -/
def R.hush {α : Type} : R α → R α
  | .exc _ _ _ => .stuck
  | r => r
@[simp] theorem R.hush_ok {α : Type} (a : α) (g : G) : (R.ok a g).hush = .ok a g := rfl
/-! ### a call's end: what only the callee made goes, where nothing of the caller's knows it -/
def oldOk (g g' : G) : Bool := (g.zip g').all fun p => decide (p.1 = p.2) || p.2.low g.length
def gc (g : G) (d : D) (g' : G) : D × G :=
  if oldOk g g' then
    if d.low g.length then (d, g'.take g.length)
    else match d with
      | .ref n => match g'[n]? with
        | some o => if o.low g.length then (.ref g.length, g'.take g.length ++ [o]) else (d, g')
        | none => (d, g')
      | _ => (d, g')
  else (d, g')
def R.gc (g : G) : R D → R D
  | .ok d g' => .ok (DV.gc g d g').1 (DV.gc g d g').2
  | .exc c x g' => if x.low g.length && oldOk g g' then .exc c x (g'.take g.length) else .exc c x g'
  | .stuck => .stuck

abbrev Env := List (Option D)
abbrev Ex := Env → G → R D
abbrev Exs := Env → G → R (List D)

/-- as a tree: lists at what they hold now -/
def snap : Nat → G → D → Option PyData
  | 0, _, _ => none
  | n + 1, g, d => match d with
    | .non => some .none
    | .bl b => some (.bool b)
    | .int i => some (.int i)
    | .str s => if PyData.canLay0 (.str s) then some (.str s) else none
    | .tup xs => (xs.mapM (snap n g)).map .tuple
    | .ref k => match g[k]? with
      | some (.lst xs) => (xs.mapM (snap n g)).map .list
      | _ => none
    | .rol ns => some (.list (ns.map .int))
    | _ => none
/-- two lists of unlike lengths -/
def unlikeLen (g : G) : D → D → Bool
  | .ref a, .ref b => match g[a]?, g[b]? with
    | some (.lst xs), some (.lst ys) => xs.length != ys.length
    | _, _ => false
  | _, _ => false
def eqG (g : G) (x y : D) : Option Bool := if unlikeLen g x y then some false else match snap 64 g x, snap 64 g y with
  | some a, some b => some (PyData.eqv a b)
  | _, _ => none

def strLine : Nat := 16777216
def LINE : Nat := 16777216

def Ex.cst (d : D) : Ex := fun _ g => .ok d g
def Ex.loc (i : Nat) : Ex := fun δ g => match δ[i]? with
  | some (some d) => .ok d g
  | _ => .stuck
def exNil : Exs := fun _ g => .ok [] g
def exCons (e : Ex) (es : Exs) : Exs := fun δ g => (e δ g).bind fun d g => (es δ g).bind fun ds g => .ok (d :: ds) g
def Ex.tup (es : Exs) : Ex := fun δ g => (es δ g).bind fun ds g => if ds.length ≤ LINE then .ok (.tup ds) g else .stuck
def Ex.lst (es : Exs) : Ex := fun δ g => (es δ g).bind fun ds g => if ds.length ≤ LINE then .ok (.ref g.length) (g ++ [.lst ds]) else .stuck

inductive Op where
  | add | sub | mul | fdiv | mod | pow | shl
  deriving DecidableEq, Repr
def bits (i : Int) : Nat := i.natAbs.log2
def binop : Op → D → D → G → R D
  | .add, .int i, .int j, g => .ok (.int (i + j)) g
  | .add, .str s, .str t, g => if s.length + t.length ≤ LINE then .ok (.str (s ++ t)) g else .stuck
  | .add, .tup xs, .tup ys, g => if xs.length + ys.length ≤ LINE then .ok (.tup (xs ++ ys)) g else .stuck
  | .add, .ref a, .ref b, g => match g[a]?, g[b]? with
    | some (.lst xs), some (.lst ys) => if xs.length + ys.length ≤ LINE then .ok (.ref g.length) (g ++ [.lst (xs ++ ys)]) else .stuck
    | _, _ => .stuck
  | .sub, .int i, .int j, g => .ok (.int (i - j)) g
  | .mul, .int i, .int j, g => if bits i + bits j < 1000000 ∨ i.natAbs < 2 ^ 60 ∨ j.natAbs < 2 ^ 60 then .ok (.int (i * j)) g else .stuck
  | .mul, .tup xs, .int k, g => if xs ≠ [] ∧ 2 ≤ k ∧ k ≤ 1000 ∧ xs.length ≤ 1000 then .ok (.tup (List.replicate k.toNat xs).flatten) g else .stuck
  | .mul, .ref a, .int k, g => match g[a]? with
    | some (.lst xs) => if -(2 ^ 62) ≤ k ∧ k < 2 ^ 62 ∧ xs.length * k.toNat ≤ LINE then .ok (.ref g.length) (g ++ [.lst (List.replicate k.toNat xs).flatten]) else .stuck
    | _ => .stuck
  | .fdiv, .int i, .int j, g => if 0 < j ∧ j.natAbs.log2 < 9000 then .ok (.int (i / j)) g else .stuck
  | .mod, .int i, .int j, g => if 0 < j then .ok (.int (i % j)) g else .stuck
  | .pow, .int i, .int j, g => if 0 ≤ j ∧ j ≤ 1000 ∧ i.natAbs < 2 ^ 30 then .ok (.int (i ^ j.toNat)) g else .stuck
  | .shl, .int i, .int j, g => if 0 ≤ j ∧ j ≤ 1000 ∧ i.natAbs < 2 ^ 30 then .ok (.int (i * 2 ^ j.toNat)) g else .stuck
  | _, _, _, _ => .stuck
def Ex.bin (o : Op) (a b : Ex) : Ex := fun δ g => (a δ g).bind fun x g => (b δ g).bind fun y g => binop o x y g
def Ex.neg (a : Ex) : Ex := fun δ g => (a δ g).bind fun x g => match x with
  | .int i => .ok (.int (-i)) g
  | _ => .stuck

/-- a value's truth -/
def truth (g : G) : D → Option Bool
  | .non => some false
  | .bl b => some b
  | .int i => some (i != 0)
  | .str s => if s.length ≤ LINE then some ((s.length : Int) != 0) else none
  | .tup xs => some (!xs.isEmpty)
  | .ref k => match g[k]? with
    | some (.lst xs) => some (!xs.isEmpty)
    | some (.dic _) => none
    | _ => none
  | _ => none

/-- a key of a dict: ints, texts -/
def keyOk : Nat → D → Bool
  | _, .int _ => true
  | _, .str _ => true
  | _, _ => false
def dget (kvs : List (D × D)) (k : D) : Option D := (kvs.find? fun p => decide (p.1 = k)).map (·.2)
def dput : List (D × D) → D → D → List (D × D)
  | [], k, v => [(k, v)]
  | (k', v') :: r, k, v => if k' = k then (k', v) :: r else (k', v') :: dput r k v
def ddel (kvs : List (D × D)) (k : D) : List (D × D) := kvs.filter fun p => !decide (p.1 = k)

inductive Cmp where
  | eq | ne | lt | le | gt | ge | in_ | notIn | isN | notN
  deriving DecidableEq, Repr
/-- x in xs -/
def memG (g : G) (x : D) (xs : List D) : Option Bool := match xs.mapM (snap 64 g), snap 64 g x with
  | some ts, some t => some (ts.any fun y => PyData.eqv y t)
  | _, _ => none
def neG (g : G) (x y : D) : Option Bool := match snap 64 g x, snap 64 g y with
  | some a, some b => some (!PyData.eqv a b)
  | _, _ => none
def isNone : PyData → Bool
  | .none => true
  | _ => false
/-- of alike data: f says which of the two ways it is asked -/
def ordG (f : PyData → PyData → Bool) (g : G) (x y : D) : Option Bool := match snap 64 g x, snap 64 g y with
  | some a, some b => if W.alike a b && !isNone a then some (f a b) else none
  | _, _ => none
def ints? : List D → Option (List Int)
  | [] => some []
  | .int i :: r => (ints? r).map (i :: ·)
  | _ :: _ => none
def cmpD : Cmp → D → D → G → Option Bool
  | .eq, x, y, g => eqG g x y
  | .ne, x, y, g => neG g x y
  | .lt, .int i, .int j, _ => some (decide (i < j))
  | .le, .int i, .int j, _ => some (decide (i ≤ j))
  | .gt, .int i, .int j, _ => some (decide (j < i))
  | .ge, .int i, .int j, _ => some (decide (j ≤ i))
  | .in_, x, .tup ys, g => memG g x ys
  | .in_, x, .ref a, g => match g[a]? with
    | some (.lst ys) => memG g x ys
    | some (.dic kvs) => if keyOk 7 x then some (dget kvs x).isSome else none
    | _ => none
  | .notIn, x, .tup ys, g => (memG g x ys).map not
  | .notIn, x, .ref a, g => match g[a]? with
    | some (.lst ys) => (memG g x ys).map not
    | some (.dic kvs) => if keyOk 7 x then some (!(dget kvs x).isSome) else none
    | _ => none
  | .lt, x, y, g => ordG (fun a b => W.dataLt a b) g x y
  | .gt, x, y, g => ordG (fun a b => W.dataLt b a) g x y
  | .le, x, y, g => ordG (fun a b => !W.dataLt b a) g x y
  | .ge, x, y, g => ordG (fun a b => !W.dataLt a b) g x y
  | .isN, x, .non, _ => some (decide (x = .non))
  | .notN, x, .non, _ => some (!decide (x = .non))
  | _, _, _, _ => none
def liftO (o : Option Bool) (g : G) : R D := match o with
  | some b => .ok (.bl b) g
  | none => .stuck
def Ex.cmp (o : Cmp) (a b : Ex) : Ex := fun δ g => (a δ g).bind fun x g => (b δ g).bind fun y g => liftO (cmpD o x y g) g
def Ex.chain (o o' : Cmp) (a b c : Ex) : Ex := fun δ g => (a δ g).bind fun x g => (b δ g).bind fun y g => match cmpD o x y g with
  | some true => (c δ g).bind fun z g => liftO (cmpD o' y z g) g
  | some false => .ok (.bl false) g
  | none => .stuck

/-! ### tests -/
abbrev Te := Env → G → R Bool
def Te.ex (e : Ex) : Te := fun δ g => (e δ g).bind fun x g => match truth g x with
  | some b => .ok b g
  | none => .stuck
def Te.and (a b : Te) : Te := fun δ g => (a δ g).bind fun c g => if c then b δ g else .ok false g
def Te.or (a b : Te) : Te := fun δ g => (a δ g).bind fun c g => if c then .ok true g else b δ g
def Te.not (a : Te) : Te := fun δ g => (a δ g).bind fun c g => .ok (!c) g
def Te.tt : Te := fun _ g => .ok true g
/-- and, or, not as values: of bools (but the last) -/
def Ex.and (a b : Ex) : Ex := fun δ g => (a δ g).bind fun x g => match x with
  | .bl true => b δ g
  | .bl false => .ok (.bl false) g
  | _ => .stuck
def Ex.or (a b : Ex) : Ex := fun δ g => (a δ g).bind fun x g => match x with
  | .bl true => .ok (.bl true) g
  | .bl false => b δ g
  | _ => .stuck
def Ex.not (a : Ex) : Ex := fun δ g => (a δ g).bind fun x g => match x with
  | .bl b => .ok (.bl (!b)) g
  | _ => .stuck
def Ex.ite (c : Te) (a b : Ex) : Ex := fun δ g => (c δ g).bind fun t g => if t then a δ g else b δ g

/-! ### subscripts -/
def ixN (n : Nat) (i : Int) : Option Nat := if 0 ≤ i then (if i < n then some i.toNat else none) else if -(n : Int) ≤ i then some (i + n).toNat else none
def atI {α : Type} (xs : List α) (i : Int) : Option α := (ixN xs.length i).bind fun j => xs[j]?
def sIx (n d : Nat) : Option Int → Nat
  | none => d
  | some v => if v < 0 then (v + (n : Int)).toNat else min v.toNat n
def cut {α : Type} (xs : List α) (lo hi : Option Int) : List α := (xs.drop (sIx xs.length 0 lo)).take (sIx xs.length xs.length hi - sIx xs.length 0 lo)
def oD (o : Option D) (g : G) : R D := match o with
  | some d => .ok d g
  | none => .stuck
def idx (x i : D) (g : G) : R D := match x, i with
  | .rol ns, .int i => oD ((atI ns i).map .int) g
  | .tup xs, .int i => oD (atI xs i) g
  | .ref a, i => match g[a]?, i with
    | some (.lst xs), .int i => oD (atI xs i) g
    | some (.dic _), _ => .stuck
    | _, _ => .stuck
  | _, _ => .stuck
def Ex.idx (a b : Ex) : Ex := fun δ g => (a δ g).bind fun x g => (b δ g).bind fun y g => DV.idx x y g
abbrev Po := Env → G → R (Option Int)
def Po.no : Po := fun _ g => .ok none g
def Po.at (e : Ex) : Po := fun δ g => (e δ g).bind fun x g => match x with
  | .int i => .ok (some i) g
  | _ => .stuck
def slc (x : D) (lo hi : Option Int) (g : G) : R D := match x with
  | .tup xs => .ok (.tup (cut xs lo hi)) g
  | .ref a => match g[a]? with
    | some (.lst xs) => .ok (.ref g.length) (g ++ [.lst (cut xs lo hi)])
    | _ => .stuck
  | _ => .stuck
def Ex.slc (a : Ex) (lo hi : Po) : Ex := fun δ g => (a δ g).bind fun x g => (lo δ g).bind fun l g => (hi δ g).bind fun h g => DV.slc x l h g

/-! ### builtins -/
inductive Ty where
  | int | bool | str | tuple | list
  deriving DecidableEq, Repr
def Ty.is : Ty → Ty → Bool
  | .int, .int => true
  | .bool, .bool => true
  | .str, .str => true
  | .tuple, .tuple => true
  | .list, .list => true
  | _, _ => false
def isTy (g : G) (t : Ty) : D → Option Bool
  | .non => some false
  | .bl _ => some (t.is .int || t.is .bool)
  | .int _ => some (t.is .int)
  | .str _ => some (t.is .str)
  | .tup _ => some (t.is .tuple)
  | .ref k => match g[k]? with
    | some (.lst _) => some (t.is .list)
    | _ => none
  | .rol _ => some (t.is .list)
  | _ => none
/-- isinstance(e, T), isinstance(e, (T1, T2)) -/
def Ex.isi (a : Ex) (t : Ty) : Ex := fun δ g => (a δ g).bind fun x g => liftO (isTy g t x) g
def Ex.isi2 (a : Ex) (t u : Ty) : Ex := fun δ g => (a δ g).bind fun x g => liftO ((isTy g t x).bind fun b => (isTy g u x).map fun c => b || c) g
def lenD (g : G) : D → Option Nat
  | .str s => if s.length ≤ LINE then some s.length else none
  | .tup xs => some xs.length
  | .ref k => match g[k]? with
    | some (.lst xs) => some xs.length
    | some (.dic _) => none
    | _ => none
  | .rol ns => some ns.length
  | _ => none
inductive Bi where
  | len | int | abs | all | any | tuple | list | max2 | min2 | max1 | min1 | sorted | dict | set | sum | str | repr
  deriving DecidableEq, Repr
/-- the items of a list or a tuple -/
def items (g : G) : D → Option (List D)
  | .tup xs => some xs
  | .ref k => match g[k]? with
    | some (.lst xs) => some xs
    | _ => none
  | .rol ns => some (ns.map .int)
  | _ => none
/-- its truth is told by all(..), any(..) -/
def okT (t : PyData) : Bool := t.plain && (match t with
  | .str x => decide (x.length ≤ LINE)
  | .list xs => decide (xs.length ≤ LINE)
  | .tuple xs => decide (xs.length ≤ LINE)
  | _ => true)
def allG (g : G) (xs : List D) : Option Bool := match xs.mapM (snap 64 g) with
  | some ts => if ts.all okT && PyData.plainAll ts then some (ts.all PyData.truthy) else none
  | none => none
def anyG (g : G) (xs : List D) : Option Bool := match xs.mapM (snap 64 g) with
  | some ts => if ts.all okT && PyData.plainAll ts then some (ts.any PyData.truthy) else none
  | none => none
/-- the items of what is sorted, counted ..: a list, a tuple, a dict's keys -/
def itemsK (g : G) : D → Option (List D)
  | .tup xs => some xs
  | .ref k => match g[k]? with
    | some (.lst xs) => some xs
    | some (.dic _) => none
    | _ => none
  | .rol ns => some (ns.map .int)
  | _ => none
/-- all alike, and all tuples with an item, or none a tuple or None -/
def canSort (ts : List PyData) : Bool := (ts.all fun a => ts.all fun b => W.alike a b) && ((ts.all fun t => match t with | .tuple (_ :: _) => true | _ => false) || (ts.all fun t => match t with | .tuple _ => false | .none => false | _ => true))
def sortD (g : G) (xs : List D) : Option (List D) := match xs.mapM (snap 64 g) with
  | some ts => if canSort ts then some (((xs.zip ts).mergeSort (W.dataLe false (·.2))).map (·.1)) else none
  | none => none
def pairs? : List D → Option (List (D × D))
  | [] => some []
  | .tup [k, v] :: r => if keyOk 7 k then (pairs? r).map ((k, v) :: ·) else none
  | _ :: _ => none
def toDict (ps : List (D × D)) : List (D × D) := ps.foldl (fun kvs p => dput kvs p.1 p.2) []
def bi : Bi → List D → G → R D
  | .sorted, [x], g => match (itemsK g x).bind (sortD g) with
    | some ys => .ok (.ref g.length) (g ++ [.lst ys])
    | none => .stuck
  | .dict, [.ref a], g => match g[a]? with
    | some (.lst xs) => match pairs? xs with
      | some ps => .ok (.ref g.length) (g ++ [.dic (toDict ps)])
      | none => .stuck
    | some (.dic kvs) => .ok (.ref g.length) (g ++ [.dic kvs])
    | _ => .stuck
  | .dict, [.tup xs], g => match pairs? xs with
      | some ps => .ok (.ref g.length) (g ++ [.dic (toDict ps)])
      | none => .stuck
  | .sum, [x], g => match (items g x).bind ints? with
    | some ns => .ok (.int ns.sum) g
    | none => .stuck
  | .max1, [x], g => match (items g x).bind ints? with
    | some (n :: ns) => .ok (.int (ns.foldl max n)) g
    | _ => .stuck
  | .min1, [x], g => match (items g x).bind ints? with
    | some (n :: ns) => .ok (.int (ns.foldl min n)) g
    | _ => .stuck
  | .str, [.int i], g => if bits i < 1900 then .ok (.str (Str.ofString (toString i))) g else .stuck
  | .repr, [.bl b], g => .ok (.str (Str.ofString (if b then "True" else "False"))) g
  | .len, [x], g => match lenD g x with
    | some n => .ok (.int n) g
    | none => .stuck
  | .int, [.int i], g => .ok (.int i) g
  | .int, [.bl b], g => .ok (.int (if b then 1 else 0)) g
  | .abs, [.int i], g => .ok (.int (if i < 0 then -i else i)) g
  | .all, [x], g => match items g x with
    | some xs => liftO (allG g xs) g
    | none => .stuck
  | .any, [x], g => match items g x with
    | some xs => liftO (anyG g xs) g
    | none => .stuck
  | .tuple, [x], g => match itemsK g x with
    | some xs => .ok (.tup xs) g
    | none => .stuck
  | .list, [x], g => match itemsK g x with
    | some xs => .ok (.ref g.length) (g ++ [.lst xs])
    | none => .stuck
  | .max2, [.int i, .int j], g => .ok (.int (if j > i then j else i)) g
  | .min2, [.int i, .int j], g => .ok (.int (if j < i then j else i)) g
  | _, _, _ => .stuck
def Ex.bi (b : Bi) (es : Exs) : Ex := fun δ g => (es δ g).bind fun ds g => DV.bi b ds g

/-! ### methods of lists and dicts -/
inductive Mt where
  | append | pop | popAt | extend | get1 | get2 | setdefault
  deriving DecidableEq, Repr
def mth : Mt → D → List D → G → R D
  | .append, .ref a, [x], g => match g[a]? with
    | some (.lst xs) => if xs.length < LINE then .ok .non (g.set a (.lst (xs ++ [x]))) else .stuck
    | _ => .stuck
  | .pop, .ref a, [], g => match g[a]? with
    | some (.lst xs) => match xs.getLast? with
      | some y => .ok y (g.set a (.lst xs.dropLast))
      | none => .stuck
    | _ => .stuck
  | .popAt, .ref a, [.int i], g => match g[a]? with
    | some (.lst xs) => match (if i < 2 ^ 62 ∧ -(2 ^ 62) ≤ i then ixN xs.length i else none) with
      | some j => match xs[j]? with
        | some y => .ok y (g.set a (.lst (xs.eraseIdx j)))
        | none => .stuck
      | none => .stuck
    | _ => .stuck
  | .extend, .ref a, [.ref b], g => match g[a]?, g[b]? with
    | some (.lst xs), some (.lst ys) => if xs.length + ys.length ≤ LINE then .ok .non (g.set a (.lst (xs ++ ys))) else .stuck
    | _, _ => .stuck
  | .get1, .ref a, [k], g => match g[a]? with
    | some (.dic kvs) => if keyOk 7 k then .ok ((dget kvs k).getD .non) g else .stuck
    | _ => .stuck
  | .get2, .ref a, [k, x], g => match g[a]? with
    | some (.dic kvs) => if keyOk 7 k then .ok ((dget kvs k).getD x) g else .stuck
    | _ => .stuck
  | .setdefault, .ref a, [k, x], g => match g[a]? with
    | some (.dic kvs) => if keyOk 7 k then (match dget kvs k with
        | some v => .ok v g
        | none => if kvs.length < LINE then .ok x (g.set a (.dic (dput kvs k x))) else .stuck) else .stuck
    | _ => .stuck
  | _, _, _, _ => .stuck
def Mt.onLst : Mt → Bool
  | .append => true
  | .pop => true
  | .popAt => true
  | .extend => true
  | _ => false
/-- a list, a dict -/
def isL (l : Bool) (g : G) : D → Bool
  | .ref a => match g[a]? with
    | some (.lst _) => l
    | some (.dic _) => !l
    | _ => false
  | _ => false
def Ex.mth (m : Mt) (a : Ex) (es : Exs) : Ex := fun δ g => (a δ g).bind fun x g => if isL m.onLst g x then (es δ g).bind fun ds g => DV.mth m x ds g else .stuck

/-! ### the program: defs and classes by number -/
abbrev Cl := Nat → List D → G → R D
def Ex.call (cl : Cl) (f : Nat) (es : Exs) : Ex := fun δ g => (es δ g).bind fun ds g => cl f ds g
/-- a call of a value -/
def Ex.callV (cl : Cl) (cnt i : Nat) (es : Exs) : Ex := fun δ g => (Ex.loc i δ g).bind fun f g => match f with
  | .fn n => if n < cnt then (es δ g).bind fun ds g => cl n ds g else .stuck
  | _ => .stuck
def putF (f : Str) (v : D) : List (Str × D) → List (Str × D)
  | [] => [(f, v)]
  | (k, x) :: r => if k = f then (k, v) :: r else (k, x) :: putF f v r
/-- C(..), C's own __init__ the def i -/
def Ex.new (cl : Cl) (c i : Nat) (es : Exs) : Ex := fun δ g => (es δ g).bind fun ds g =>
  (cl i (.ref g.length :: ds) (g ++ [.ins c []])).bind fun v g' => match v with
    | .non => .ok (.ref g.length) g'
    | _ => .stuck
/-- which attributes instances of a class have; its methods -/
structure Cls where
  fields : List Str
  meths : List (Str × Nat)
  deriving Repr, Inhabited
abbrev Clss := List Cls
def fld (T : Clss) (x : D) (f : Str) (g : G) : R D := match x with
  | .ref a => match g[a]? with
    | some (.ins c fs) => match T[c]? with
      | some k => if k.fields.contains f then oD (fs.lookup f) g else .stuck
      | none => .stuck
    | _ => .stuck
  | _ => .stuck
def Ex.fld (T : Clss) (a : Ex) (f : Str) : Ex := fun δ g => (a δ g).bind fun x g => DV.fld T x f g
/-- o.m(..), an own method -/
def Ex.meth (T : Clss) (cl : Cl) (a : Ex) (m : Str) (es : Exs) : Ex := fun δ g => (a δ g).bind fun x g => match x with
  | .ref k => match g[k]? with
    | some (.ins c fs) => match T[c]? with
      | some t => match t.meths.lookup m, fs.lookup m with
        | some f, none => (es δ g).bind fun ds g => cl f (x :: ds) g
        | _, _ => .stuck
      | none => .stuck
    | _ => .stuck
  | _ => .stuck

/-! ### targets -/
abbrev Tg := D → Env → G → R Env
def Tg.name (i : Nat) : Tg := fun d δ g => .ok (δ.set i (some d)) g
abbrev Tgs := List D → Env → G → R Env
def tgNil : Tgs := fun ds δ g => match ds with
  | [] => .ok δ g
  | _ => .stuck
def tgCons (t : Tg) (u : Tgs) : Tgs := fun ds δ g => match ds with
  | d :: r => (t d δ g).bind fun δ g => u r δ g
  | [] => .stuck
/-- a, b = a tuple of n -/
def Tg.tup (n : Nat) (u : Tgs) : Tg := fun d δ g => match d with
  | .tup ds => if ds.length = n then u ds δ g else .stuck
  | _ => .stuck
def setI (o i v : D) (g : G) : R Unit := match o with
  | .ref a => match g[a]?, i with
    | some (.lst xs), .int k => match ixN xs.length k with
      | some j => .ok () (g.set a (.lst (xs.set j v)))
      | none => .stuck
    | some (.dic _), _ => .stuck
    | _, _ => .stuck
  | _ => .stuck
def Tg.sub (o i : Ex) : Tg := fun d δ g => (o δ g).bind fun x g => (i δ g).bind fun k g => (setI x k d g).bind fun _ g => .ok δ g
def setF (T : Clss) (o : D) (f : Str) (v : D) (g : G) : R Unit := match o with
  | .ref a => match g[a]? with
    | some (.ins c fs) => match T[c]? with
      | some k => if k.fields.contains f && decide (fs.length < 1000) then .ok () (g.set a (.ins c (putF f v fs))) else .stuck
      | none => .stuck
    | _ => .stuck
  | _ => .stuck
def Tg.fld (T : Clss) (o : Ex) (f : Str) : Tg := fun d δ g => (o δ g).bind fun x g => (setF T x f d g).bind fun _ g => .ok δ g

/-! ### what a loop walks -/
inductive It where
  | keys (h : Nat) (kvs : List (D × D))   -- a dict, not to be changed meanwhile
  | items (h : Nat) (kvs : List (D × D))
  | values (h : Nat) (kvs : List (D × D))
  | seq (xs : List D)      -- fixed items
  | lst (h : Nat)          -- a list as it stands at each turn
  | zip (a b : It)
  | enum (a : It)
  deriving Repr, Inhabited
def It.at : It → Nat → G → Option (Option D)
  | .keys h kvs, i, g => if g[h]? = some (.dic kvs) then some ((kvs[i]?).map (·.1)) else none
  | .items h kvs, i, g => if g[h]? = some (.dic kvs) then some ((kvs[i]?).map fun p => .tup [p.1, p.2]) else none
  | .values h kvs, i, g => if g[h]? = some (.dic kvs) then some ((kvs[i]?).map (·.2)) else none
  | .seq xs, i, _ => some xs[i]?
  | .lst h, i, g => match g[h]? with
    | some (.lst xs) => some xs[i]?
    | _ => none
  | .zip a b, i, g => match a.at i g, b.at i g with
    | some (some x), some (some y) => some (some (.tup [x, y]))
    | some _, some _ => some none
    | _, _ => none
  | .enum a, i, g => match a.at i g with
    | some (some x) => some (some (.tup [.int i, x]))
    | some none => some none
    | none => none
abbrev Ie := Env → G → R It
def walkOf (g : G) : D → Option It
  | .tup xs => some (.seq xs)
  | .ref k => match g[k]? with
    | some (.lst _) => some (.lst k)
    | some (.dic _) => none
    | _ => none
  | .rol ns => some (.seq (ns.map .int))
  | _ => none
def dictOf (g : G) : D → Option (Nat × List (D × D))
  | .ref k => match g[k]? with
    | some (.dic kvs) => some (k, kvs)
    | _ => none
  | _ => none
def Ie.items (e : Ex) : Ie := fun δ g => (e δ g).bind fun x g => match dictOf g x with
  | some (k, kvs) => .ok (.items k kvs) g
  | none => .stuck
def Ie.values (e : Ex) : Ie := fun δ g => (e δ g).bind fun x g => match dictOf g x with
  | some (k, kvs) => .ok (.values k kvs) g
  | none => .stuck
def Ie.range3 (a b c : Ex) : Ie := fun δ g => (a δ g).bind fun x g => (b δ g).bind fun y g => (c δ g).bind fun z g => match x, y, z with
  | .int i, .int j, .int (-1) => if -(2 ^ 60) ≤ i ∧ i < 2 ^ 60 ∧ -(2 ^ 60) ≤ j ∧ j < 2 ^ 60 then .ok (.seq ((List.range (i - j).toNat).map fun k => .int (i - (k : Nat)))) g else .stuck
  | _, _, _ => .stuck
def Ie.of (e : Ex) : Ie := fun δ g => (e δ g).bind fun x g => match walkOf g x with
  | some t => .ok t g
  | none => .stuck
def rangeD (lo hi : Int) : List D := (List.range (hi - lo).toNat).map fun i => .int (lo + (i : Nat))
def Ie.range1 (e : Ex) : Ie := fun δ g => (e δ g).bind fun x g => match x with
  | .int j => if -(2 ^ 60) ≤ j ∧ j < 2 ^ 60 then .ok (.seq (rangeD 0 j)) g else .stuck
  | _ => .stuck
def Ie.range2 (a b : Ex) : Ie := fun δ g => (a δ g).bind fun x g => (b δ g).bind fun y g => match x, y with
  | .int i, .int j => if -(2 ^ 60) ≤ i ∧ i < 2 ^ 60 ∧ -(2 ^ 60) ≤ j ∧ j < 2 ^ 60 then .ok (.seq (rangeD i j)) g else .stuck
  | _, _ => .stuck
def isTup : D → Bool
  | .tup _ => true
  | _ => false
def Ie.zip (a b : Ex) : Ie := fun δ g => (a δ g).bind fun x g => (b δ g).bind fun y g => match walkOf g x, walkOf g y with
  | some t, some u => if isTup x = isTup y then .ok (.zip t u) g else .stuck
  | _, _ => .stuck
def Ie.enum (a : Ex) : Ie := fun δ g => (a δ g).bind fun x g => match walkOf g x with
  | some t => .ok (.enum t) g
  | _ => .stuck

/-! ### comprehensions -/
def fuel : Nat := 33554432
def compLoop (it : It) (tg : Tg) (c : Te) (e : Ex) (δ : Env) : Nat → Nat → List D → G → R (List D)
  | 0, _, _, _ => .stuck
  | n + 1, i, acc, g => match it.at i g with
    | none => .stuck
    | some none => .ok acc g
    | some (some d) => (tg d δ g).bind fun δ' g => (c δ' g).bind fun b g => if b then (e δ' g).bind fun y g => if acc.length < LINE then compLoop it tg c e δ n (i + 1) (acc ++ [y]) g else .stuck
      else compLoop it tg c e δ n (i + 1) acc g
def wipe (δ : Env) : List Nat → Env
  | [] => δ
  | v :: vs => (wipe δ vs).set v none
def Ex.comp (vs : List Nat) (it : Ie) (tg : Tg) (c : Te) (e : Ex) : Ex := fun δ g => (it δ g).bind fun t g => (R.hush (compLoop t tg c e (wipe δ vs) fuel 0 [] g)).bind fun ds g => .ok (.ref g.length) (g ++ [.lst ds])

abbrev Kvs := Env → G → R (List (D × D))
def kvNil : Kvs := fun _ g => .ok [] g
def kvCons (k v : Ex) (r : Kvs) : Kvs := fun δ g => (k δ g).bind fun x g => (v δ g).bind fun y g => if keyOk 7 x then (r δ g).bind fun kvs g => .ok ((x, y) :: kvs) g else .stuck
def Ex.dct (r : Kvs) : Ex := fun δ g => (r δ g).bind fun kvs g => .ok (.ref g.length) (g ++ [.dic (toDict kvs)])
def dcompLoop (it : It) (tg : Tg) (c : Te) (k v : Ex) (δ : Env) : Nat → Nat → List (D × D) → G → R (List (D × D))
  | 0, _, _, _ => .stuck
  | n + 1, i, acc, g => match it.at i g with
    | none => .stuck
    | some none => .ok acc g
    | some (some d) => (tg d δ g).bind fun δ' g => (c δ' g).bind fun b g => if b then (k δ' g).bind fun x g => (v δ' g).bind fun y g => if acc.length < LINE ∧ keyOk 7 x then dcompLoop it tg c k v δ n (i + 1) (dput acc x y) g else .stuck
      else dcompLoop it tg c k v δ n (i + 1) acc g
def Ex.dcomp (vs : List Nat) (it : Ie) (tg : Tg) (c : Te) (k v : Ex) : Ex := fun δ g => (it δ g).bind fun t g => (R.hush (dcompLoop t tg c k v (wipe δ vs) fuel 0 [] g)).bind fun kvs g => .ok (.ref g.length) (g ++ [.dic kvs])
def Ex.rev (a : Ex) : Ex := fun δ g => (a δ g).bind fun x g => match x with
  | .tup xs => .ok (.tup xs.reverse) g
  | .ref k => match g[k]? with
    | some (.lst xs) => .ok (.ref g.length) (g ++ [.lst xs.reverse])
    | _ => .stuck
  | _ => .stuck
def Ex.xfld (i : Nat) : Ex := fun δ g => match δ[i]? with
  | some (some (.exc _ x)) => .ok x g
  | _ => .stuck

/-! ### statements -/
inductive Fl where
  | nx (δ : Env) | rt (d : D) | bk (δ : Env) | ct (δ : Env)
  deriving Repr, Inhabited
inductive RS where
  | ok (f : Fl) (g : G)
  | exc (c : Nat) (x : D) (δ : Env) (g : G)
  | stuck
  deriving Repr, Inhabited
abbrev Sm := Env → G → RS
/-- from an expression: the exception flies from these slots -/
def R.thenS {α : Type} (δ : Env) (r : R α) (f : α → G → RS) : RS := match r with
  | .ok a g => f a g
  | .exc c x g => .exc c x δ g
  | .stuck => .stuck
@[simp] theorem R.thenS_ok {α : Type} (δ : Env) (a : α) (g : G) (f : α → G → RS) : (R.ok a g).thenS δ f = f a g := rfl
@[simp] theorem R.thenS_exc {α : Type} (δ : Env) (c : Nat) (x : D) (g : G) (f : α → G → RS) : (R.exc c x g : R α).thenS δ f = .exc c x δ g := rfl
@[simp] theorem R.thenS_stuck {α : Type} (δ : Env) (f : α → G → RS) : (R.stuck : R α).thenS δ f = .stuck := rfl
def Sm.skip : Sm := fun δ g => .ok (.nx δ) g
def Sm.brk : Sm := fun δ g => .ok (.bk δ) g
def Sm.cnt : Sm := fun δ g => .ok (.ct δ) g
def RS.seq (r : RS) (f : Env → G → RS) : RS := match r with
  | .ok (.nx δ) g => f δ g
  | r => r
@[simp] theorem RS.seq_nx (δ : Env) (g : G) (f : Env → G → RS) : (RS.ok (.nx δ) g).seq f = f δ g := rfl
@[simp] theorem RS.seq_rt (d : D) (g : G) (f : Env → G → RS) : (RS.ok (.rt d) g).seq f = .ok (.rt d) g := rfl
@[simp] theorem RS.seq_bk (δ : Env) (g : G) (f : Env → G → RS) : (RS.ok (.bk δ) g).seq f = .ok (.bk δ) g := rfl
@[simp] theorem RS.seq_ct (δ : Env) (g : G) (f : Env → G → RS) : (RS.ok (.ct δ) g).seq f = .ok (.ct δ) g := rfl
@[simp] theorem RS.seq_exc (c : Nat) (x : D) (δ : Env) (g : G) (f : Env → G → RS) : (RS.exc c x δ g).seq f = .exc c x δ g := rfl
@[simp] theorem RS.seq_stuck (f : Env → G → RS) : RS.stuck.seq f = .stuck := rfl
def Sm.seq (a b : Sm) : Sm := fun δ g => (a δ g).seq b
def Sm.asg (t : Tg) (e : Ex) : Sm := fun δ g => (e δ g).thenS δ fun d g => (R.hush (t d δ g)).thenS δ fun δ' g => .ok (.nx δ') g
/-- a, b = x, y of plain local names -/
def Sm.par (i j : Nat) (a b : Ex) : Sm := fun δ g => (a δ g).thenS δ fun x g => (b δ g).thenS δ fun y g => .ok (.nx ((δ.set i (some x)).set j (some y))) g
def Sm.aug (o : Op) (i : Nat) (e : Ex) : Sm := fun δ g => (Ex.loc i δ g).thenS δ fun x g => (e δ g).thenS δ fun y g => (binop o x y g).thenS δ fun z g => .ok (.nx (δ.set i (some z))) g
def Sm.ex (e : Ex) : Sm := fun δ g => (e δ g).thenS δ fun _ g => .ok (.nx δ) g
def Sm.ret (e : Ex) : Sm := fun δ g => (e δ g).thenS δ fun d g => .ok (.rt d) g
def Sm.ite (c : Te) (a b : Sm) : Sm := fun δ g => (c δ g).thenS δ fun t g => if t then a δ g else b δ g
def Sm.raise (c : Nat) (e : Ex) : Sm := fun δ g => (e δ g).thenS δ fun x g => .exc c x δ g
def whileLoop (c : Te) (b : Sm) : Nat → Env → G → RS
  | 0, _, _ => .stuck
  | n + 1, δ, g => (c δ g).thenS δ fun t g => if t then match b δ g with
      | .ok (.nx δ') g' => whileLoop c b n δ' g'
      | .ok (.ct δ') g' => whileLoop c b n δ' g'
      | .ok (.bk δ') g' => .ok (.nx δ') g'
      | r => r
    else .ok (.nx δ) g
def Sm.while (c : Te) (b : Sm) : Sm := whileLoop c b fuel
def forLoop (it : It) (tg : Tg) (b : Sm) : Nat → Nat → Env → G → RS
  | 0, _, _, _ => .stuck
  | n + 1, i, δ, g => match it.at i g with
    | none => .stuck
    | some none => .ok (.nx δ) g
    | some (some d) => (R.hush (tg d δ g)).thenS δ fun δ1 g1 => match b δ1 g1 with
      | .ok (.nx δ') g' => forLoop it tg b n (i + 1) δ' g'
      | .ok (.ct δ') g' => forLoop it tg b n (i + 1) δ' g'
      | .ok (.bk δ') g' => .ok (.nx δ') g'
      | r => r
def Sm.for (it : Ie) (tg : Tg) (b : Sm) : Sm := fun δ g => (it δ g).thenS δ fun t g => forLoop t tg b fuel 0 δ g
/-- try: b except C1 [as x1]: s1 except C2: s2 .. -/
structure Hd where
  c : Nat
  slot : Option Nat
  s : Sm
def unset (i : Nat) : RS → RS
  | .ok (.nx δ) g => .ok (.nx (δ.set i none)) g
  | .ok (.bk δ) g => .ok (.bk (δ.set i none)) g
  | .ok (.ct δ) g => .ok (.ct (δ.set i none)) g
  | r => r
/-- nothing is raised in an except suite -/
def RS.hush : RS → RS
  | .exc _ _ _ _ => .stuck
  | r => r
def handle (hs : List Hd) (c : Nat) (x : D) (δ : Env) (g : G) : RS := match hs with
  | [] => .exc c x δ g
  | h :: r => if h.c = c then (match h.slot with
      | none => RS.hush (h.s δ g)
      | some i => RS.hush (unset i (h.s (δ.set i (some (.exc c x))) g))) else handle r c x δ g
def Sm.try (b : Sm) (hs : List Hd) : Sm := fun δ g => match b δ g with
  | .exc c x δ' g' => handle hs c x δ' g'
  | r => r
/-- a def's body, called with values -/
def start (n : Nat) (ds : List D) : Env := ds.map some ++ List.replicate (n - ds.length) none
def body (np n : Nat) (b : Sm) (ds : List D) (g : G) : R D :=
  if ds.length = np then R.gc g (match b (start n ds) g with
    | .ok (.nx _) g' => .ok .non g'
    | .ok (.rt d) g' => .ok d g'
    | .exc c x _ g' => .exc c x g'
    | _ => .stuck)
  else .stuck
end DV
end
section
set_option Elab.async false
set_option linter.all false
set_option maxRecDepth 100000
namespace DV
open PySem PySem.Spec PyProof.Rows L2

/-- what the text's top left: the addresses of its defs, classes, classes of exceptions; the field of an exception with an own __init__ -/
structure Tab where
  P : Program
  w : World
  K : PySem.W.Frag
  mg : Str → Option Value
  base : Heap
  ne : Nat
  fn : Nat → Addr
  cls : Nat → Addr
  exc : Nat → Addr
  xf : Nat → Option Str

/-- a list that is only read -/
def Rol (K : PySem.W.Frag) (H : Hp) (a : Addr) (ns : List Int) : Prop :=
  (∃ o, H a = some (.frz o (.lst (ns.map V.int)))) ∨
    ∃ (o : Obj) (its : Array Value) (n : Nat), K.lookup a = some o ∧ o.cls = .type "list" ∧ o.dict = none ∧ o.data = .seq its n ∧ its.size ≤ sizeLine ∧ Vals (ns.map V.int) its.toList

mutual
inductive RelD (Z : Tab) (ρ : List Addr) (H : Hp) : V → D → Prop
  | non : RelD Z ρ H .non .non
  | bl (b : Bool) : RelD Z ρ H (.bl b) (.bl b)
  | int (i : Int) : RelD Z ρ H (.int i) (.int i)
  | str (s : Str) : RelD Z ρ H (.str s) (.str s)
  | tup {a : Addr} {xs : List V} {ds : List D} : SqT Z.K H a xs → RelDs Z ρ H xs ds → RelD Z ρ H (.ref a) (.tup ds)
  | ref {a : Addr} {n : Nat} : ρ[n]? = some a → RelD Z ρ H (.ref a) (.ref n)
  | fn (n : Nat) : RelD Z ρ H (.ref (Z.fn n)) (.fn n)
  | rol {a : Addr} {ns : List Int} : Rol Z.K H a ns → RelD Z ρ H (.ref a) (.rol ns)
inductive RelDs (Z : Tab) (ρ : List Addr) (H : Hp) : List V → List D → Prop
  | nil : RelDs Z ρ H [] []
  | cons {x : V} {xs : List V} {d : D} {ds : List D} : RelD Z ρ H x d → RelDs Z ρ H xs ds → RelDs Z ρ H (x :: xs) (d :: ds)
end

/-- what does not change stands -/
structure Ext (H H' : Hp) : Prop where
  tup : ∀ a xs, H a = some (.tup xs) → H' a = some (.tup xs)
  frz : ∀ a o u, H a = some (.frz o u) → H' a = some (.frz o u)
theorem Ext.refl (H : Hp) : Ext H H := ⟨fun _ _ h => h, fun _ _ _ h => h⟩
theorem Ext.trans {H H1 H2 : Hp} (a : Ext H H1) (b : Ext H1 H2) : Ext H H2 := ⟨fun c xs h => b.tup c xs (a.tup c xs h), fun c o u h => b.frz c o u (a.frz c o u h)⟩
theorem Ext.same {H H' : Hp} (s : Same H H') : Ext H H' := ⟨fun a _ h => s a _ h, fun a _ _ h => s a _ h⟩
theorem same_new {H : Hp} {p : Addr} {o : HO} (hp : H p = none) : Same H (upd H p o) := fun b u e => by rw [upd_ne (ne_of_none e hp)]; exact e
theorem Ext.new {H : Hp} {p : Addr} {o : HO} (hp : H p = none) : Ext H (upd H p o) := .same (same_new hp)
/-- a store into what changes -/
theorem Ext.upd {H : Hp} {p : Addr} {o : HO} (h1 : ∀ xs, H p ≠ some (.tup xs)) (h2 : ∀ ob u, H p ≠ some (.frz ob u)) : Ext H (upd H p o) :=
  ⟨fun a xs h => by rw [upd_ne (fun e => h1 xs (by rw [← e]; exact h))]; exact h, fun a ob u h => by rw [upd_ne (fun e => h2 ob u (by rw [← e]; exact h))]; exact h⟩
theorem Ext.sqT {H H' : Hp} (e : Ext H H') {K : PySem.W.Frag} {a : Addr} {xs : List V} (h : SqT K H a xs) : SqT K H' a xs := by
  rcases h with (h | ⟨o, h⟩) | h
  · exact .inl (.inl (e.tup _ _ h))
  · exact .inl (.inr ⟨o, e.frz _ _ _ h⟩)
  · exact .inr h
theorem Ext.rol {H H' : Hp} (e : Ext H H') {K : PySem.W.Frag} {a : Addr} {ns : List Int} (h : Rol K H a ns) : Rol K H' a ns := by
  rcases h with ⟨o, h⟩ | h
  · exact .inl ⟨o, e.frz _ _ _ h⟩
  · exact .inr h
theorem Rol.sqL {K : PySem.W.Frag} {H : Hp} {a : Addr} {ns : List Int} (h : Rol K H a ns) : SqL K H a (ns.map V.int) := by
  rcases h with ⟨o, h⟩ | h
  · exact .inl (.inr ⟨o, h⟩)
  · exact .inr h

/-- the state may have moved on -/
structure Mw (ρ : List Addr) (H : Hp) (ρ' : List Addr) (H' : Hp) : Prop where
  pre : ∃ t, ρ' = ρ ++ t
  ext : Ext H H'
/-- .. and what is none of ours is as it was -/
structure Mv (ρ : List Addr) (H : Hp) (ρ' : List Addr) (H' : Hp) : Prop extends Mw ρ H ρ' H' where
  fr : ∀ a u, H a = some u → a ∉ ρ → H' a = some u
  nw : ∀ a, a ∈ ρ' → a ∉ ρ → H a = none
theorem Mv.refl (ρ : List Addr) (H : Hp) : Mv ρ H ρ H := ⟨⟨⟨[], by simp⟩, .refl H⟩, fun _ _ h _ => h, fun _ h n => absurd h n⟩
theorem Mv.trans {ρ ρ1 ρ2 : List Addr} {H H1 H2 : Hp} (a : Mv ρ H ρ1 H1) (b : Mv ρ1 H1 ρ2 H2) : Mv ρ H ρ2 H2 := by
  have n1 : ∀ c u, H c = some u → c ∉ ρ → c ∉ ρ1 := fun c u h n z => by rw [a.nw c z n] at h; cases h
  refine ⟨⟨?_, a.ext.trans b.ext⟩, fun c u h n => b.fr c u (a.fr c u h n) (n1 c u h n), fun c h n => ?_⟩
  · obtain ⟨t, rfl⟩ := a.pre
    obtain ⟨u, rfl⟩ := b.pre
    exact ⟨t ++ u, by rw [List.append_assoc]⟩
  · cases q : H c with
    | none => rfl
    | some u =>
      have h1 := a.fr c u q n
      rw [b.nw c h (n1 c u q n)] at h1; cases h1
theorem Mv.of_same {ρ : List Addr} {H H' : Hp} (s : Same H H') : Mv ρ H ρ H' := ⟨⟨⟨[], by simp⟩, .same s⟩, fun a u h _ => s a u h, fun _ h n => absurd h n⟩
/-- a new one of the loop's own is written -/
theorem Mv.updNew {ρ ρ' : List Addr} {H H' : Hp} {p : Addr} {o : HO} (m : Mv ρ H ρ' H') (hp : H p = none) (h1 : ∀ xs, H' p ≠ some (.tup xs)) (h2 : ∀ ob u, H' p ≠ some (.frz ob u)) : Mv ρ H ρ' (upd H' p o) :=
  ⟨⟨m.pre, m.ext.trans (.upd h1 h2)⟩, fun a u h n => by rw [upd_ne (ne_of_none h hp)]; exact m.fr a u h n, m.nw⟩
theorem Mw.get {ρ ρ' : List Addr} {H H' : Hp} (m : Mw ρ H ρ' H') {n : Nat} {a : Addr} (h : ρ[n]? = some a) : ρ'[n]? = some a := by
  obtain ⟨t, rfl⟩ := m.pre
  rw [List.getElem?_append_left (List.getElem?_eq_some_iff.mp h).1]; exact h

section
variable {Z : Tab} {ρ ρ' : List Addr} {H H' : Hp}
mutual
theorem RelD.monoW (m : Mw ρ H ρ' H') : ∀ {v : V} {d : D}, RelD Z ρ H v d → RelD Z ρ' H' v d
  | _, _, .non => .non
  | _, _, .bl b => .bl b
  | _, _, .int i => .int i
  | _, _, .str s => .str s
  | _, _, .tup h r => .tup (m.ext.sqT h) (RelDs.monoW m r)
  | _, _, .ref h => .ref (m.get h)
  | _, _, .fn n => .fn n
  | _, _, .rol h => .rol (m.ext.rol h)
theorem RelDs.monoW (m : Mw ρ H ρ' H') : ∀ {xs : List V} {ds : List D}, RelDs Z ρ H xs ds → RelDs Z ρ' H' xs ds
  | _, _, .nil => .nil
  | _, _, .cons h t => .cons (RelD.monoW m h) (RelDs.monoW m t)
end
theorem RelD.mono {v : V} {d : D} (m : Mv ρ H ρ' H') (r : RelD Z ρ H v d) : RelD Z ρ' H' v d := r.monoW m.toMw
theorem RelDs.mono {v : List V} {d : List D} (m : Mv ρ H ρ' H') (r : RelDs Z ρ H v d) : RelDs Z ρ' H' v d := r.monoW m.toMw
theorem RelDs.length : ∀ {xs : List V} {ds : List D}, RelDs Z ρ H xs ds → xs.length = ds.length
  | _, _, .nil => rfl
  | _, _, .cons _ t => by simp [RelDs.length t]
theorem RelDs.append : ∀ {xs ys : List V} {ds es : List D}, RelDs Z ρ H xs ds → RelDs Z ρ H ys es → RelDs Z ρ H (xs ++ ys) (ds ++ es)
  | _, _, _, _, .nil, s => s
  | _, _, _, _, .cons h t, s => .cons h (RelDs.append t s)
theorem RelDs.get : ∀ {xs : List V} {ds : List D} {i : Nat} {d : D}, RelDs Z ρ H xs ds → ds[i]? = some d → ∃ x, xs[i]? = some x ∧ RelD Z ρ H x d
  | _, _, _, _, .nil, e => by simp at e
  | _, _, 0, _, .cons h t, e => by simp at e; subst e; exact ⟨_, rfl, h⟩
  | _, _, i + 1, _, .cons h t, e => by
    obtain ⟨x, h1, h2⟩ := RelDs.get (i := i) t (by simpa using e)
    exact ⟨x, by simpa using h1, h2⟩
theorem RelDs.getV : ∀ {xs : List V} {ds : List D} {i : Nat} {x : V}, RelDs Z ρ H xs ds → xs[i]? = some x → ∃ d, ds[i]? = some d ∧ RelD Z ρ H x d
  | _, _, _, _, .nil, e => by simp at e
  | _, _, 0, _, .cons h t, e => by simp at e; subst e; exact ⟨_, rfl, h⟩
  | _, _, i + 1, _, .cons h t, e => by
    obtain ⟨x, h1, h2⟩ := RelDs.getV (i := i) t (by simpa using e)
    exact ⟨x, by simpa using h1, h2⟩
theorem RelDs.set {x : V} {d : D} (r : RelD Z ρ H x d) : ∀ {xs : List V} {ds : List D} (i : Nat), RelDs Z ρ H xs ds → RelDs Z ρ H (xs.set i x) (ds.set i d)
  | _, _, _, .nil => .nil
  | _, _, 0, .cons _ t => .cons r t
  | _, _, i + 1, .cons q t => .cons q (RelDs.set r i t)
theorem RelDs.drop : ∀ {xs : List V} {ds : List D} (n : Nat), RelDs Z ρ H xs ds → RelDs Z ρ H (xs.drop n) (ds.drop n)
  | _, _, 0, r => r
  | _, _, _ + 1, .nil => .nil
  | _, _, n + 1, .cons _ t => RelDs.drop n t
theorem RelDs.take : ∀ {xs : List V} {ds : List D} (n : Nat), RelDs Z ρ H xs ds → RelDs Z ρ H (xs.take n) (ds.take n)
  | _, _, 0, _ => .nil
  | _, _, _ + 1, .nil => .nil
  | _, _, n + 1, .cons r t => .cons r (RelDs.take n t)
theorem RelDs.eraseIdx : ∀ {xs : List V} {ds : List D} (n : Nat), RelDs Z ρ H xs ds → RelDs Z ρ H (xs.eraseIdx n) (ds.eraseIdx n)
  | _, _, _, .nil => .nil
  | _, _, 0, .cons _ t => t
  | _, _, n + 1, .cons r t => .cons r (RelDs.eraseIdx n t)
theorem RelDs.dropLast : ∀ {xs : List V} {ds : List D}, RelDs Z ρ H xs ds → RelDs Z ρ H xs.dropLast ds.dropLast
  | _, _, .nil => .nil
  | _, _, .cons r .nil => .nil
  | _, _, .cons r (.cons q t) => .cons r (RelDs.dropLast (.cons q t))
theorem RelDs.reverse : ∀ {xs : List V} {ds : List D}, RelDs Z ρ H xs ds → RelDs Z ρ H xs.reverse ds.reverse
  | _, _, .nil => .nil
  | _, _, .cons r t => by rw [List.reverse_cons, List.reverse_cons]; exact RelDs.append (RelDs.reverse t) (.cons r .nil)
theorem RelDs.ints : ∀ {ns : List Int}, RelDs Z ρ H (ns.map V.int) (ns.map D.int)
  | [] => .nil
  | n :: ns => .cons (.int n) RelDs.ints
theorem RelDs.flatten {xs : List V} {ds : List D} (r : RelDs Z ρ H xs ds) : ∀ k : Nat, RelDs Z ρ H (List.replicate k xs).flatten (List.replicate k ds).flatten
  | 0 => .nil
  | k + 1 => by rw [List.replicate_succ, List.replicate_succ, List.flatten_cons, List.flatten_cons]; exact RelDs.append r (RelDs.flatten r k)
end

/-- fields, entries -/
inductive RelF (Z : Tab) (ρ : List Addr) (H : Hp) : List (Str × V) → List (Str × D) → Prop
  | nil : RelF Z ρ H [] []
  | cons {f : Str} {x : V} {d : D} {xs : List (Str × V)} {ds : List (Str × D)} : RelD Z ρ H x d → RelF Z ρ H xs ds → RelF Z ρ H ((f, x) :: xs) ((f, d) :: ds)
theorem RelF.monoW {Z : Tab} {ρ ρ' : List Addr} {H H' : Hp} (m : Mw ρ H ρ' H') : ∀ {xs : List (Str × V)} {ds : List (Str × D)}, RelF Z ρ H xs ds → RelF Z ρ' H' xs ds
  | _, _, .nil => .nil
  | _, _, .cons h t => .cons (h.monoW m) (RelF.monoW m t)

/-- the entries of a dict whose keys are ints and texts -/
def kD : L2.Key → D
  | .inl i => .int i
  | .inr s => .str s
inductive RelK (Z : Tab) (ρ : List Addr) (H : Hp) : List (L2.Key × V) → List (D × D) → Prop
  | nil : RelK Z ρ H [] []
  | cons {k : L2.Key} {x : V} {d : D} {xs : List (L2.Key × V)} {ds : List (D × D)} : RelD Z ρ H x d → RelK Z ρ H xs ds → RelK Z ρ H ((k, x) :: xs) ((kD k, d) :: ds)
theorem RelK.monoW {Z : Tab} {ρ ρ' : List Addr} {H H' : Hp} (m : Mw ρ H ρ' H') : ∀ {xs : List (L2.Key × V)} {ds : List (D × D)}, RelK Z ρ H xs ds → RelK Z ρ' H' xs ds
  | _, _, .nil => .nil
  | _, _, .cons h t => .cons (h.monoW m) (RelK.monoW m t)
/-- a changing object -/
def RelO (Z : Tab) (ρ : List Addr) (H : Hp) (a : Addr) : O → Prop
  | .lst ds => ∃ xs, H a = some (.lst xs) ∧ RelDs Z ρ H xs ds
  | .ins c fs => ∃ dx xs, H a = some (.ins (Z.cls c) dx xs) ∧ RelF Z ρ H xs fs
  | .dic ds => ∃ kvs, H a = some (.dK kvs) ∧ RelK Z ρ H kvs ds
theorem RelO.monoW {Z : Tab} {ρ ρ' : List Addr} {H H' : Hp} (m : Mw ρ H ρ' H') {a : Addr} (ha : H' a = H a) : ∀ {o : O}, RelO Z ρ H a o → RelO Z ρ' H' a o
  | .lst _, ⟨xs, h, r⟩ => ⟨xs, by rw [ha]; exact h, r.monoW m⟩
  | .ins _ _, ⟨dx, xs, h, r⟩ => ⟨dx, xs, by rw [ha]; exact h, r.monoW m⟩
  | .dic _, ⟨xs, h, r⟩ => ⟨xs, by rw [ha]; exact h, r.monoW m⟩
theorem RelO.mono {Z : Tab} {ρ ρ' : List Addr} {H H' : Hp} (m : Mv ρ H ρ' H') {a : Addr} (ha : H' a = H a) {o : O} (r : RelO Z ρ H a o) : RelO Z ρ' H' a o := r.monoW m.toMw ha
theorem RelO.mut {Z : Tab} {ρ : List Addr} {H : Hp} {a : Addr} : ∀ {o : O}, RelO Z ρ H a o → ∃ u, H a = some u ∧ Mut (some u) ∧ (∀ xs, u ≠ .tup xs) ∧ ∀ ob w, u ≠ .frz ob w
  | .lst _, ⟨xs, h, r⟩ => ⟨_, h, trivial, fun _ z => (by cases z), fun _ _ z => (by cases z)⟩
  | .ins _ _, ⟨dx, xs, h, r⟩ => ⟨_, h, trivial, fun _ z => (by cases z), fun _ _ z => (by cases z)⟩
  | .dic _, ⟨xs, h, r⟩ => ⟨_, h, trivial, fun _ z => (by cases z), fun _ _ z => (by cases z)⟩

structure RelG (Z : Tab) (ρ : List Addr) (H : Hp) (g : G) : Prop where
  len : ρ.length = g.length
  nd : ρ.Nodup
  obj : ∀ (i : Nat) (o : O) (a : Addr), g[i]? = some o → ρ[i]? = some a → RelO Z ρ H a o
theorem RelG.at {Z : Tab} {ρ : List Addr} {H : Hp} {g : G} (G : RelG Z ρ H g) {i : Nat} {o : O} (h : g[i]? = some o) : ∃ a, ρ[i]? = some a ∧ RelO Z ρ H a o := by
  have hi : i < ρ.length := by rw [G.len]; exact (List.getElem?_eq_some_iff.mp h).1
  exact ⟨ρ[i], List.getElem?_eq_getElem hi, G.obj i o _ h (List.getElem?_eq_getElem hi)⟩
theorem RelG.tracked {Z : Tab} {ρ : List Addr} {H : Hp} {g : G} (G : RelG Z ρ H g) {a : Addr} (h : a ∈ ρ) : ∃ u, H a = some u := by
  obtain ⟨i, hi, e⟩ := List.getElem_of_mem h
  have hg : i < g.length := by rw [← G.len]; exact hi
  obtain ⟨u, hu, _⟩ := (G.obj i g[i] a (List.getElem?_eq_getElem hg) (by rw [List.getElem?_eq_getElem hi, e])).mut
  exact ⟨u, hu⟩
/-- other objects are laid -/
theorem RelG.same {Z : Tab} {ρ : List Addr} {H H' : Hp} {g : G} (G : RelG Z ρ H g) (s : Same H H') : RelG Z ρ H' g :=
  ⟨G.len, G.nd, fun i o a h1 h2 => by
    have r := G.obj i o a h1 h2
    obtain ⟨u, hu, _⟩ := r.mut
    exact r.mono (.of_same s) (by rw [hu]; exact s a u hu)⟩
theorem Mv.new {ρ : List Addr} {H : Hp} {p : Addr} {o : HO} (hp : H p = none) : Mv ρ H ρ (upd H p o) := .of_same (same_new hp)
theorem Mv.push {ρ : List Addr} {H : Hp} {p : Addr} {o : HO} (hp : H p = none) : Mv ρ H (ρ ++ [p]) (upd H p o) := ⟨⟨⟨[p], rfl⟩, .new hp⟩, fun a u h _ => same_new hp a u h, fun a h n => by
  rcases List.mem_append.mp h with h | h
  · exact absurd h n
  · simp at h; subst h; exact hp⟩
/-- one that was made on the way is ours now -/
theorem Mv.snoc {ρ ρ' : List Addr} {H H' : Hp} {p : Addr} (m : Mv ρ H ρ' H') (hp : H p = none) : Mv ρ H (ρ' ++ [p]) H' := ⟨⟨by obtain ⟨t, rfl⟩ := m.pre; exact ⟨t ++ [p], by simp⟩, m.ext⟩, m.fr, fun a h n => by
  rcases List.mem_append.mp h with h | h
  · exact m.nw a h n
  · simp at h; subst h; exact hp⟩
theorem RelG.other {Z : Tab} {ρ : List Addr} {H : Hp} {g : G} {p : Addr} {o : HO} (G : RelG Z ρ H g) (hp : p ∉ ρ) (h1 : ∀ xs, H p ≠ some (.tup xs)) (h2 : ∀ ob u, H p ≠ some (.frz ob u)) : RelG Z ρ (upd H p o) g :=
  ⟨G.len, G.nd, fun i u a e1 e2 => (G.obj i u a e1 e2).monoW ⟨⟨[], by simp⟩, .upd h1 h2⟩ (upd_ne fun e => hp (by subst e; exact List.mem_of_getElem? e2))⟩
theorem RelG.snoc {Z : Tab} {ρ : List Addr} {H : Hp} {g : G} {p : Addr} {o : O} (G : RelG Z ρ H g) (hp : p ∉ ρ) (r : RelO Z (ρ ++ [p]) H p o) : RelG Z (ρ ++ [p]) H (g ++ [o]) := by
  refine ⟨by simp [G.len], ?_, fun i u a h1 h2 => ?_⟩
  · rw [List.nodup_append]
    refine ⟨G.nd, by simp, fun a ha b hb => ?_⟩
    simp at hb; subst hb
    rintro rfl
    exact hp ha
  · by_cases hi : i < g.length
    · rw [List.getElem?_append_left hi] at h1
      rw [List.getElem?_append_left (by rw [G.len]; exact hi)] at h2
      exact (G.obj i u a h1 h2).monoW ⟨⟨[p], rfl⟩, .refl H⟩ rfl
    · rw [List.getElem?_append_right (by omega)] at h1
      rw [List.getElem?_append_right (by rw [G.len]; omega), G.len] at h2
      have e : i - g.length = 0 := by
        have := (List.getElem?_eq_some_iff.mp h1).1
        simp at this; omega
      rw [e] at h1 h2
      simp at h1 h2
      subst h1 h2
      exact r
theorem RelG.push {Z : Tab} {ρ : List Addr} {H : Hp} {g : G} {p : Addr} {ho : HO} {o : O} (G : RelG Z ρ H g) (hp : H p = none) (r : RelO Z (ρ ++ [p]) (upd H p ho) p o) : RelG Z (ρ ++ [p]) (upd H p ho) (g ++ [o]) := by
  refine ⟨by simp [G.len], ?_, fun i u a h1 h2 => ?_⟩
  · rw [List.nodup_append]
    refine ⟨G.nd, by simp, fun a ha b hb => ?_⟩
    simp at hb; subst hb
    rintro rfl
    obtain ⟨u, hu⟩ := G.tracked ha
    rw [hp] at hu; cases hu
  · by_cases hi : i < g.length
    · rw [List.getElem?_append_left hi] at h1
      rw [List.getElem?_append_left (by rw [G.len]; exact hi)] at h2
      have r0 := G.obj i u a h1 h2
      obtain ⟨x, hx, _⟩ := r0.mut
      exact r0.mono (Mv.push hp) (by rw [upd_ne (ne_of_none hx hp)])
    · rw [List.getElem?_append_right (by omega)] at h1
      rw [List.getElem?_append_right (by rw [G.len]; omega), G.len] at h2
      have e : i - g.length = 0 := by
        have := (List.getElem?_eq_some_iff.mp h1).1
        simp at this; omega
      rw [e] at h1 h2
      simp at h1 h2
      subst h1 h2
      exact r
theorem RelG.get_push {ρ : List Addr} {g : G} {p : Addr} (h : ρ.length = g.length) : (ρ ++ [p])[g.length]? = some p := by
  rw [← h]; simp
/-- a changing object is written -/
theorem RelG.set {Z : Tab} {ρ : List Addr} {H : Hp} {g : G} {i : Nat} {a : Addr} {o0 o : O} {ho : HO} (G : RelG Z ρ H g) (h0 : g[i]? = some o0) (ha : ρ[i]? = some a) (r : RelO Z ρ (upd H a ho) a o) :
    RelG Z ρ (upd H a ho) (g.set i o) ∧ Mv ρ H ρ (upd H a ho) := by
  obtain ⟨u, hu, _, n1, n2⟩ := (G.obj i o0 a h0 ha).mut
  have m : Mv ρ H ρ (upd H a ho) := ⟨⟨⟨[], by simp⟩, .upd (fun xs e => n1 xs (Option.some.inj (hu.symm.trans e))) (fun ob w e => n2 ob w (Option.some.inj (hu.symm.trans e)))⟩, fun b w h n => by rw [upd_ne (fun e => n (by rw [e]; exact List.mem_of_getElem? ha))]; exact h, fun _ h n => absurd h n⟩
  refine ⟨⟨by simp [G.len], G.nd, fun j u b h1 h2 => ?_⟩, m⟩
  by_cases hj : j = i
  · subst hj
    rw [List.getElem?_set_self (List.getElem?_eq_some_iff.mp h0).1] at h1
    cases h1
    rw [ha] at h2; cases h2
    exact r
  · rw [List.getElem?_set_ne (Ne.symm hj)] at h1
    have ne : b ≠ a := fun e => hj (by
      subst e
      obtain ⟨l1, e1⟩ := List.getElem?_eq_some_iff.mp h2
      obtain ⟨l2, e2⟩ := List.getElem?_eq_some_iff.mp ha
      exact (List.getElem_inj G.nd).mp (e1.trans e2.symm))
    exact (G.obj j u b h1 h2).mono m (upd_ne ne)

/-- the slots -/
structure RelS (Z : Tab) (ρ : List Addr) (H : Hp) (σ : L2.St) (δ : Env) : Prop where
  len : σ.length = δ.length
  get : ∀ (i : Nat) (d : D), δ[i]? = some (some d) → ∃ v, σ[i]? = some (some v) ∧ RelD Z ρ H v d
theorem RelS.mono {Z : Tab} {ρ ρ' : List Addr} {H H' : Hp} {σ : L2.St} {δ : Env} (m : Mv ρ H ρ' H') (S : RelS Z ρ H σ δ) : RelS Z ρ' H' σ δ :=
  ⟨S.len, fun i d h => let ⟨v, h1, h2⟩ := S.get i d h; ⟨v, h1, h2.mono m⟩⟩
theorem RelS.set {Z : Tab} {ρ : List Addr} {H : Hp} {σ : L2.St} {δ : Env} {v : V} {d : D} (S : RelS Z ρ H σ δ) (i : Nat) (r : RelD Z ρ H v d) : RelS Z ρ H (σ.set i (some v)) (δ.set i (some d)) := by
  refine ⟨by simp [S.len], fun j e h => ?_⟩
  by_cases hj : j = i
  · subst hj
    by_cases hl : j < δ.length
    · rw [List.getElem?_set_self hl] at h; cases h
      exact ⟨v, List.getElem?_set_self (by rw [S.len]; exact hl), r⟩
    · rw [List.getElem?_eq_none (by simpa using hl)] at h; cases h
  · rw [List.getElem?_set_ne (Ne.symm hj)] at h
    rw [List.getElem?_set_ne (Ne.symm hj)]
    exact S.get j e h
theorem RelS.unset {Z : Tab} {ρ : List Addr} {H : Hp} {σ : L2.St} {δ : Env} (S : RelS Z ρ H σ δ) (i : Nat) : RelS Z ρ H (σ.set i none) (δ.set i none) := by
  refine ⟨by simp [S.len], fun j e h => ?_⟩
  by_cases hj : j = i
  · subst hj
    by_cases hl : j < δ.length
    · rw [List.getElem?_set_self hl] at h; cases h
    · rw [List.getElem?_eq_none (by simpa using hl)] at h; cases h
  · rw [List.getElem?_set_ne (Ne.symm hj)] at h
    rw [List.getElem?_set_ne (Ne.symm hj)]
    exact S.get j e h
theorem RelS.wipe {Z : Tab} {ρ : List Addr} {H : Hp} {σ : L2.St} {δ : Env} (S : RelS Z ρ H σ δ) : ∀ vs : List Nat, RelS Z ρ H (L2.wipe σ vs) (DV.wipe δ vs)
  | [] => S
  | v :: vs => (RelS.wipe S vs).unset v

/-- an exception -/
def RelX (Z : Tab) (ρ : List Addr) (H : Hp) (cls : Value) (dd : Option Addr) (c : Nat) (x : D) : Prop :=
  c < Z.ne ∧ cls = .ref (Z.exc c) ∧ match Z.xf c with
    | none => dd = none ∧ x = .non
    | some f => ∃ d v, dd = some d ∧ H d = some (.xd [(f, v)]) ∧ RelD Z ρ H v x

/-! ### what holds behind a denotation -/
def PostR {α : Type} (Z : Tab) (ρ : List Addr) (H : Hp) (r : R α) (k : α → List Addr → Hp → G → Prop) (e : Nat → D → List Addr → Hp → G → Prop) : Prop := match r with
  | .ok a g => ∀ ρ' H', Mv ρ H ρ' H' → RelG Z ρ' H' g → k a ρ' H' g
  | .exc c x g => ∀ ρ' H', Mv ρ H ρ' H' → RelG Z ρ' H' g → e c x ρ' H' g
  | .stuck => False
section
variable {α β : Type} {Z : Tab} {ρ ρ' : List Addr} {H H' : Hp} {r : R α} {k k' : α → List Addr → Hp → G → Prop} {e e' : Nat → D → List Addr → Hp → G → Prop}
theorem PostR.mv (m : Mv ρ H ρ' H') (h : PostR Z ρ H r k e) : PostR Z ρ' H' r k e := by
  cases r with
  | ok a g => exact fun ρ2 H2 m2 => h ρ2 H2 (m.trans m2)
  | exc c x g => exact fun ρ2 H2 m2 => h ρ2 H2 (m.trans m2)
  | stuck => exact h
theorem PostR.bind {f : α → G → R β} {k : β → List Addr → Hp → G → Prop} (h : PostR Z ρ H (r.bind f) k e) : PostR Z ρ H r (fun a ρ1 H1 g1 => PostR Z ρ1 H1 (f a g1) k e) e := by
  cases r with
  | ok a g =>
    intro ρ1 H1 m _
    exact PostR.mv m (show PostR Z ρ H (f a g) k e from h)
  | exc c x g => exact h
  | stuck => exact h
theorem PostR.imp (h : PostR Z ρ H r k e) (hk : ∀ a ρ1 H1 g1, Mv ρ H ρ1 H1 → RelG Z ρ1 H1 g1 → k a ρ1 H1 g1 → k' a ρ1 H1 g1) (he : ∀ c x ρ1 H1 g1, Mv ρ H ρ1 H1 → RelG Z ρ1 H1 g1 → e c x ρ1 H1 g1 → e' c x ρ1 H1 g1) : PostR Z ρ H r k' e' := by
  cases r with
  | ok a g => exact fun ρ1 H1 m G => hk a ρ1 H1 g m G (h ρ1 H1 m G)
  | exc c x g => exact fun ρ1 H1 m G => he c x ρ1 H1 g m G (h ρ1 H1 m G)
  | stuck => exact h
theorem PostR.ok {a : α} {g : G} (h : PostR Z ρ H (.ok a g) k e) (G : RelG Z ρ H g) : k a ρ H g := h ρ H (.refl ρ H) G
end

/-- what is wanted of an exception of an expression: the slots are as they were -/
def eX (Z : Tab) (W : WX) (σ : L2.St) : Nat → D → List Addr → Hp → G → Prop := fun c x ρ H _ => ∀ cls dd, RelX Z ρ H cls dd c x → W cls dd σ H
def kV (Z : Tab) (Q : VK) : D → List Addr → Hp → G → Prop := fun d ρ H _ => ∀ v, RelD Z ρ H v d → Q v H
def kT (Q : Bool → Hp → Prop) : Bool → List Addr → Hp → G → Prop := fun b _ H _ => Q b H
def kA (Z : Tab) (Q : List V → Hp → Prop) : List D → List Addr → Hp → G → Prop := fun ds ρ H _ => ∀ vs, RelDs Z ρ H vs ds → Q vs H
theorem PostR.val {Z : Tab} {ρ : List Addr} {H : Hp} {d : D} {g : G} {Q : VK} {e : Nat → D → List Addr → Hp → G → Prop} {v : V} (h : PostR Z ρ H (.ok d g) (kV Z Q) e) (G : RelG Z ρ H g) (r : RelD Z ρ H v d) : Q v H := h ρ H (.refl ρ H) G v r
/-- the readings -/
def rdE (Z : Tab) (W : WX) (f : Ex) : TE := fun σ H Q => ∃ δ ρ g, RelG Z ρ H g ∧ RelS Z ρ H σ δ ∧ PostR Z ρ H (f δ g) (kV Z Q) (eX Z W σ)
def rdT (Z : Tab) (W : WX) (f : Te) : TT := fun σ H Q => ∃ δ ρ g, RelG Z ρ H g ∧ RelS Z ρ H σ δ ∧ PostR Z ρ H (f δ g) (kT Q) (eX Z W σ)
def rdA (Z : Tab) (W : WX) (f : Exs) : TA := fun σ H Q => ∃ δ ρ g, RelG Z ρ H g ∧ RelS Z ρ H σ δ ∧ PostR Z ρ H (f δ g) (kA Z Q) (eX Z W σ)
def PostS (Z : Tab) (W : WX) (D : Ends) (ρ : List Addr) (H : Hp) (r : RS) : Prop := match r with
  | .ok (.nx δ) g => ∀ ρ' H' σ, Mv ρ H ρ' H' → RelG Z ρ' H' g → RelS Z ρ' H' σ δ → D.nx σ H'
  | .ok (.bk δ) g => ∀ ρ' H' σ, Mv ρ H ρ' H' → RelG Z ρ' H' g → RelS Z ρ' H' σ δ → D.bk σ H'
  | .ok (.ct δ) g => ∀ ρ' H' σ, Mv ρ H ρ' H' → RelG Z ρ' H' g → RelS Z ρ' H' σ δ → D.ct σ H'
  | .ok (.rt d) g => ∀ ρ' H' v, Mv ρ H ρ' H' → RelG Z ρ' H' g → RelD Z ρ' H' v d → D.rt v H'
  | .exc c x δ g => ∀ ρ' H' σ cls dd, Mv ρ H ρ' H' → RelG Z ρ' H' g → RelS Z ρ' H' σ δ → RelX Z ρ' H' cls dd c x → W cls dd σ H'
  | .stuck => False
def rdS (Z : Tab) (W : WX) (f : Sm) : TS := fun D σ H => ∃ δ ρ g, RelG Z ρ H g ∧ RelS Z ρ H σ δ ∧ PostS Z W D ρ H (f δ g)
end DV
end
section
set_option Elab.async false
set_option linter.all false
set_option maxRecDepth 100000
namespace DV
open PySem PySem.Spec PyProof.Rows L2

theorem PE_imp {X : Cx} {e : Expr} {t t' : TE} (h : PE X e t) (f : ∀ σ H Q, t' σ H Q → t σ H Q) : PE X e t' := ⟨fun pins s σ H Q I q => h.run pins s σ H Q I (f σ H Q q)⟩
theorem PT_imp {X : Cx} {e : Expr} {t t' : TT} (h : PT X e t) (f : ∀ σ H Q, t' σ H Q → t σ H Q) : PT X e t' := ⟨fun pins s σ H Q I q => h.run pins s σ H Q I (f σ H Q q)⟩
theorem PW_imp {X : Cx} {e : Expr} {t t' : TT} (h : PW X e t) (f : ∀ σ H Q, t' σ H Q → t σ H Q) : PW X e t' := ⟨fun wh pins s σ H Q I q => h.run wh pins s σ H Q I (f σ H Q q)⟩
theorem PA_imp {X : Cx} {e : List Expr} {t t' : TA} (h : PA X e t) (f : ∀ σ H Q, t' σ H Q → t σ H Q) : PA X e t' := ⟨fun pos pins s σ H Q I q => h.run pos pins s σ H Q I (f σ H Q q)⟩
theorem PS_imp {X : Cx} {e : Stmt} {t t' : TS} (h : PS X e t) (f : ∀ D σ H, t' D σ H → t D σ H) : PS X e t' := ⟨fun pins s σ H D I q => h.run pins s σ H D I (f D σ H q)⟩
theorem PSs_imp {X : Cx} {e : List Stmt} {t t' : TS} (h : PSs X e t) (f : ∀ D σ H, t' D σ H → t D σ H) : PSs X e t' := ⟨fun pins s σ H D I q => h.run pins s σ H D I (f D σ H q)⟩

/-- where one stands -/
structure XOk (Z : Tab) (X : Cx) (N : List Str) (sc : Scope) (W : WX) (m : Nat) : Prop where
  hN : X.N = N
  hK : X.K = Z.K
  hP : X.prog = Z.P
  hw : X.w = Z.w
  hM : X.mg = Z.mg
  hB : X.base = Z.base
  sc : X.env.scope = sc
  nd : N.Nodup
  room : Room m X.A
  calm : X.calm = true
  takes : Takes X W

section
variable {Z : Tab} {X : Cx} {N : List Str} {sc : Scope} {W : WX} {m : Nat} {a b c e : Expr} {es : List Expr} {fa fb fc : Ex} {fs : Exs} {pos : Pos}

/-! ### names, constants -/
theorem de_loc (hX : XOk Z X N sc W m) (i : Nat) {x : Str} (hi : N[i]? = some x := by rfl) (hv : Vis sc x := by first | exact Or.inl rfl | exact Or.inr (Or.inl rfl) | exact Or.inr (Or.inr rfl)) (hd : (x == ("__debug__" : Str)) = false := by decide)
    (hcd : (x == ("__classdict__" : Str)) = false := by decide) : PE X (.Name x pos) (rdE Z W (Ex.loc i)) := by
  refine PE_imp (pe_var (i := i) (by rw [hX.hN]; exact hi) (by rw [hX.sc]; exact hv) hd hcd) fun σ H Q ⟨δ, ρ, g, G, S, h⟩ => ?_
  unfold Ex.loc at h
  split at h
  · rename_i d e
    obtain ⟨v, h1, h2⟩ := S.get i d e
    exact ⟨v, h1, h.ok G v h2⟩
  · exact h.elim
theorem de_cst {v : V} {d : D} (h : PE X e (tC v)) (r : ∀ ρ H, RelD Z ρ H v d) : PE X e (rdE Z W (Ex.cst d)) :=
  PE_imp h fun σ H Q ⟨δ, ρ, g, G, S, h⟩ => PostR.ok (a := d) h G v (r ρ H)
theorem de_int {i j} : PE X (.Constant (.int i) j pos) (rdE Z W (Ex.cst (.int i))) := de_cst pe_int fun _ _ => .int i
theorem de_bl {i j} : PE X (.Constant (.bool i) j pos) (rdE Z W (Ex.cst (.bl i))) := de_cst pe_bl fun _ _ => .bl i
theorem de_non {j} : PE X (.Constant .none j pos) (rdE Z W (Ex.cst .non)) := de_cst pe_non fun _ _ => .non
theorem de_str {s j} : PE X (.Constant (.str s) j pos) (rdE Z W (Ex.cst (.str s))) := de_cst pe_str fun _ _ => .str s
/-- a module's constant, a def as a value -/
theorem de_globI (hX : XOk Z X N sc W m) {x : Str} {i : Int} (hg : sc.names.lookup x = some .globalImplicit) (hm : ∃ t, X.mg x = some (.int i t)) (hd : (x == ("__debug__" : Str)) = false := by decide) : PE X (.Name x pos) (rdE Z W (Ex.cst (.int i))) := by
  obtain ⟨t, hm⟩ := hm
  exact de_cst (pe_glob (v := .int i) (by show X.env.scope.names.lookup x = _; rw [hX.sc]; exact hg) hm ⟨t, rfl⟩ hd) fun _ _ => .int i
theorem de_globF (hX : XOk Z X N sc W m) {x : Str} {n : Nat} (hg : sc.names.lookup x = some .globalImplicit) (hm : X.mg x = some (.ref (Z.fn n))) (hd : (x == ("__debug__" : Str)) = false := by decide) : PE X (.Name x pos) (rdE Z W (Ex.cst (.fn n))) :=
  de_cst (pe_glob (v := .ref (Z.fn n)) (by show X.env.scope.names.lookup x = _; rw [hX.sc]; exact hg) hm rfl hd) fun _ _ => .fn n

/-! ### rows of expressions -/
theorem da_nil : PA X [] (rdA Z W exNil) := PA_imp pa_nil fun σ H Q ⟨δ, ρ, g, G, S, h⟩ => PostR.ok (a := []) h G [] .nil
theorem da_cons (ha : PE X e (rdE Z W fa)) (hr : PA X es (rdA Z W fs)) (hs : starEach (e :: es) X.env = (false, eval e X.env) :: starEach es X.env := by rfl) : PA X (e :: es) (rdA Z W (exCons fa fs)) := by
  refine PA_imp (pa_cons ha hr hs) fun σ H Q ⟨δ, ρ, g, G, S, h⟩ => ?_
  refine ⟨δ, ρ, g, G, S, (PostR.bind h).imp (fun d ρ1 H1 g1 m1 G1 h1 v rv => ?_) fun _ _ _ _ _ _ _ q => q⟩
  refine ⟨δ, ρ1, g1, G1, S.mono m1, (PostR.bind h1).imp (fun ds ρ2 H2 g2 m2 G2 h2 vs rvs => ?_) fun _ _ _ _ _ _ _ q => q⟩
  exact PostR.ok (a := d :: ds) h2 G2 _ (.cons (rv.mono m2) rvs)

theorem line_eq : LINE = sizeLine := by rw [sizeLine_eq]; rfl
theorem de_tup {x1} (h : PA X es (rdA Z W fs)) : PE X (.Tuple es x1 pos) (rdE Z W (Ex.tup fs)) := by
  refine PE_imp (pe_tup h) fun σ H Q ⟨δ, ρ, g, G, S, h⟩ => ?_
  refine ⟨δ, ρ, g, G, S, (PostR.bind h).imp (fun ds ρ1 H1 g1 m1 G1 h1 vs rv => ?_) fun _ _ _ _ _ _ _ q => q⟩
  split at h1
  · rename_i hl
    refine ⟨by rw [rv.length, ← line_eq]; exact hl, fun p hp => ?_⟩
    exact h1 ρ1 _ (Mv.new hp) (G1.same (same_new hp)) _ (.tup (SqT.of upd_same) (rv.mono (Mv.new hp)))
  · exact h1.elim
theorem de_lst (h : PA X es (rdA Z W fs)) : PE X (.List es pos) (rdE Z W (Ex.lst fs)) := by
  refine PE_imp (pe_lst h) fun σ H Q ⟨δ, ρ, g, G, S, h⟩ => ?_
  refine ⟨δ, ρ, g, G, S, (PostR.bind h).imp (fun ds ρ1 H1 g1 m1 G1 h1 vs rv => ?_) fun _ _ _ _ _ _ _ q => q⟩
  split at h1
  · rename_i hl
    refine ⟨by rw [rv.length, ← line_eq]; exact hl, fun p hp => ?_⟩
    exact h1 (ρ1 ++ [p]) _ (Mv.push hp) (G1.push hp ⟨vs, upd_same, rv.mono (Mv.push hp)⟩) _ (.ref (RelG.get_push G1.len))
  · exact h1.elim

/-! ### operators by values -/
/-- an operation on two values -/
def OpD (Z : Tab) (X : Cx) (W : WX) (f : Value → Value → Sem Value) (o : D → D → G → R D) : Prop :=
  ∀ (pins : List (Addr × Obj)) (s : Shared) (σ : L2.St) (H : Hp) (x y : V) (v u : Value) (dx dy : D) (ρ : List Addr) (g : G) (Q : VK) (e : Nat → D → List Addr → Hp → G → Prop), Inv X pins σ H s → RelV x v → RelV y u → RelG Z ρ H g → RelD Z ρ H x dx → RelD Z ρ H y dy →
    PostR Z ρ H (o dx dy g) (kV Z Q) e → wpAny (model X.prog X.w) X.A (f v u) (EP X pins σ Q) X.xe s
/-- one that HandS has, read at related values -/
theorem OpD.of {f : Value → Value → Sem Value} {o : D → D → G → R D} {r : R2} (h : OpR X f r)
    (q : ∀ (H : Hp) (x y : V) (dx dy : D) (ρ : List Addr) (g : G) (Q : VK) (e : Nat → D → List Addr → Hp → G → Prop), RelG Z ρ H g → RelD Z ρ H x dx → RelD Z ρ H y dy → PostR Z ρ H (o dx dy g) (kV Z Q) e → r x y H Q) : OpD Z X W f o :=
  fun pins s σ H x y v u dx dy ρ g Q e I rx ry G dxr dyr p => h pins s σ H x y v u Q I rx ry (q H x y dx dy ρ g Q e G dxr dyr p)
theorem de_bin {op : Operator} {o : Op} (ho : OpD Z X W (binaryOp op) (binop o)) (ha : PE X a (rdE Z W fa)) (hb : PE X b (rdE Z W fb)) : PE X (.BinOp a op b pos) (rdE Z W (Ex.bin o fa fb)) := by
  refine ⟨fun pins s σ H Q I ⟨δ, ρ, g, G, S, h⟩ => ?_⟩
  refine wpAny_BinOp (bin ha hb (R := fun x y H2 => ∃ dx dy ρ2 g2, RelG Z ρ2 H2 g2 ∧ RelD Z ρ2 H2 x dx ∧ RelD Z ρ2 H2 y dy ∧ PostR Z ρ2 H2 (binop o dx dy g2) (kV Z Q) (eX Z W σ)) I ?_ ?_)
  · refine ⟨δ, ρ, g, G, S, (PostR.bind h).imp (fun d ρ1 H1 g1 m1 G1 h1 v rv => ?_) fun _ _ _ _ _ _ _ q => q⟩
    exact ⟨δ, ρ1, g1, G1, S.mono m1, (PostR.bind h1).imp (fun d2 ρ2 H2 g2 m2 G2 h2 v2 rv2 => ⟨d, d2, ρ2, g2, G2, rv.mono m2, rv2, h2⟩) fun _ _ _ _ _ _ _ q => q⟩
  · intro v u s2 x y H2 I2 rx ry ⟨dx, dy, ρ2, g2, G2, r1, r2, p⟩
    exact ho pins s2 σ H2 x y v u dx dy ρ2 g2 Q _ I2 rx ry G2 r1 r2 p
end
end DV
end
section
set_option Elab.async false
set_option linter.all false
set_option maxRecDepth 100000
namespace DV
open PySem PySem.Spec PyProof.Rows L2
section
variable {Z : Tab} {X : Cx} {W : WX}

theorem cat_tup0 {prog : Program} {w : World} {A : Around} {E : Value → Shared → Prop} {s : Shared} {t b : Addr} {ws : List Value} {Q : Value → Shared → Prop} (ht : IsTup s.heap t ([] : List Value).toArray) (hb : IsTup s.heap b ws.toArray)
    (h1 : Q (.ref b) s) : wpAny (model prog w) A (binaryOp .Add (.ref t) (.ref b)) Q E s := by
  obtain ⟨⟨cls, dd, data, sl⟩, ho, hc, n, hd⟩ := id ht
  obtain ⟨⟨cls2, dd2, data2, sl2⟩, ho2, hc2, n2, hd2⟩ := id hb
  simp only at hc hd hc2 hd2
  subst hc hd hc2 hd2
  exact concat_meets ⟨_, ho, rfl⟩ ⟨_, ho2, rfl⟩ noFill_tuple_add seq_tuple_add PySem.F.slot_tuple_add PySem.F.entry_tuple_add (PySem.F.args_tuple_add_2 _ _)
      (tuple_addW0 t b ([] : List Value).toArray ws.toArray n n2 dd dd2 sl sl2 (by simp)) ⟨ho, ho2, h1⟩

/-- any two tuples -/
def rCat2 (K : PySem.W.Frag) : R2 := fun x y H Q => ∃ a b xs ys, x = .ref a ∧ y = .ref b ∧ SqT K H a xs ∧ SqT K H b ys ∧ xs.length + ys.length ≤ sizeLine ∧
  (∀ (p : Addr) (H' : Hp), Same H H' → SqT K H' p (xs ++ ys) → Q (.ref p) H')
theorem op_cat2 : OpR X (binaryOp .Add) (rCat2 X.K) := by
  intro pins s σ H x y v u Q I rx ry h
  obtain ⟨a, b, xs, ys, rfl, rfl, ha, hb, hz, q⟩ := h
  by_cases hx : xs = []
  · subst hx
    cases rx
    cases ry
    obtain ⟨its, r1, p1, _⟩ := I.tuple ha
    obtain ⟨its2, r2, p2, _⟩ := I.tuple hb
    cases r1
    exact cat_tup0 p1 p2 ⟨.ref b, H, I, rfl, q b H (.refl H) hb⟩
  · refine op_catT pins s σ H _ _ v u Q I rx ry ⟨a, b, xs, ys, rfl, rfl, ha, hb, hx, hz, fun e => ?_, fun _ p hp => q p _ (same_new hp) (SqT.of upd_same)⟩
    subst e
    exact q a H (.refl H) (by rw [List.append_nil]; exact ha)

theorem mv_same {ρ : List Addr} {H H' : Hp} (s : Same H H') : Mv ρ H ρ H' := .of_same s

/-- a list of the state -/
theorem RelG.lst {ρ : List Addr} {H : Hp} {g : G} (G : RelG Z ρ H g) {n : Nat} {a : Addr} {ds : List D} (hn : ρ[n]? = some a) (h : g[n]? = some (.lst ds)) : ∃ xs, H a = some (.lst xs) ∧ RelDs Z ρ H xs ds := G.obj n _ a h hn
theorem RelG.ins {ρ : List Addr} {H : Hp} {g : G} (G : RelG Z ρ H g) {n : Nat} {a : Addr} {c : Nat} {fs : List (Str × D)} (hn : ρ[n]? = some a) (h : g[n]? = some (.ins c fs)) : ∃ dx xs, H a = some (.ins (Z.cls c) dx xs) ∧ RelF Z ρ H xs fs := G.obj n _ a h hn

theorem opd_add (hK : X.K = Z.K) : OpD Z X W (binaryOp .Add) (binop .add) := by
  intro pins s σ H x y v u dx dy ρ g Q e I rx ry G r1 r2 p
  cases r1 with
  | int i => cases r2 with
    | int j => exact op_add pins s σ H _ _ v u Q I rx ry ⟨i, j, rfl, rfl, p.val G (.int _)⟩
    | _ => exact (show False from p).elim
  | str i => cases r2 with
    | str j =>
      simp only [binop] at p
      split at p
      · rename_i hl
        exact op_add_str pins s σ H _ _ v u Q I rx ry ⟨i, j, rfl, rfl, by rw [← line_eq]; exact hl, p.val G (.str _)⟩
      · exact p.elim
    | _ => exact (show False from p).elim
  | tup h1 q1 => cases r2 with
    | tup h2 q2 =>
      simp only [binop] at p
      split at p
      · rename_i hl
        refine op_cat2 pins s σ H _ _ v u Q I rx ry ⟨_, _, _, _, rfl, rfl, by rw [hK]; exact h1, by rw [hK]; exact h2, by rw [← line_eq, q1.length, q2.length]; exact hl, fun t H' sm hT => ?_⟩
        exact p ρ H' (mv_same sm) (G.same sm) _ (.tup (by rw [← hK]; exact hT) ((q1.append q2).mono (mv_same sm)))
      · exact p.elim
    | _ => exact (show False from p).elim
  | ref h1 => cases r2 with
    | ref h2 =>
      simp only [binop] at p
      split at p
      · rename_i xs ys e1 e2
        obtain ⟨vs, a1, a2⟩ := G.lst h1 e1
        obtain ⟨ws, b1, b2⟩ := G.lst h2 e2
        split at p
        · rename_i hl
          refine op_cat pins s σ H _ _ v u Q I rx ry ⟨_, _, _, _, rfl, rfl, a1, b1, by rw [← line_eq, a2.length, b2.length]; exact hl, fun t ht => ?_⟩
          exact p (ρ ++ [t]) _ (Mv.push ht) (G.push ht ⟨_, upd_same, (a2.append b2).mono (Mv.push ht)⟩) _ (.ref (RelG.get_push G.len))
        · exact p.elim
      · exact p.elim
    | _ => exact (show False from p).elim
  | _ => cases r2 <;> exact (show False from p).elim
theorem opd_sub : OpD Z X W (binaryOp .Sub) (binop .sub) := by
  intro pins s σ H x y v u dx dy ρ g Q e I rx ry G r1 r2 p
  cases r1 with
  | int i => cases r2 with
    | int j => exact op_sub pins s σ H _ _ v u Q I rx ry ⟨i, j, rfl, rfl, p.val G (.int _)⟩
    | _ => exact (show False from p).elim
  | _ => cases r2 <;> exact (show False from p).elim
theorem opd_mul (hK : X.K = Z.K) : OpD Z X W (binaryOp .Mult) (binop .mul) := by
  intro pins s σ H x y v u dx dy ρ g Q e I rx ry G r1 r2 p
  cases r1 with
  | int i => cases r2 with
    | int j =>
      simp only [binop] at p
      split at p
      · rename_i hc
        have q := p.val G (.int _)
        by_cases c1 : i.natAbs < 2 ^ 60
        · exact op_mul pins s σ H _ _ v u Q I rx ry ⟨i, j, rfl, rfl, .inl ⟨by omega, by omega⟩, q⟩
        · by_cases c2 : j.natAbs < 2 ^ 60
          · exact op_mul pins s σ H _ _ v u Q I rx ry ⟨i, j, rfl, rfl, .inr ⟨by omega, by omega⟩, q⟩
          · exact op_mulW pins s σ H _ _ v u Q I rx ry ⟨i, j, rfl, rfl, hc.resolve_right (fun z => z.elim c1 c2), q⟩
      · exact p.elim
    | _ => exact (show False from p).elim
  | tup h1 q1 => cases r2 with
    | int k =>
      simp only [binop] at p
      split at p
      · rename_i hc
        refine op_repT pins s σ H _ _ v u Q I rx ry ⟨_, k, _, rfl, rfl, by rw [hK]; exact h1, fun z => hc.1 ?_, hc.2.1, hc.2.2.1, by rw [q1.length]; exact hc.2.2.2, fun t ht => ?_⟩
        · subst z; cases q1; rfl
        · exact p ρ _ (Mv.new ht) (G.same (same_new ht)) _ (.tup (SqT.of upd_same) ((q1.flatten _).mono (Mv.new ht)))
      · exact p.elim
    | _ => exact (show False from p).elim
  | ref h1 => cases r2 with
    | int k =>
      simp only [binop] at p
      split at p
      · rename_i xs e1
        obtain ⟨vs, a1, a2⟩ := G.lst h1 e1
        split at p
        · rename_i hc
          refine op_rep pins s σ H _ _ v u Q I rx ry ⟨_, k, _, rfl, rfl, a1, by omega, by omega, by rw [← line_eq, a2.length]; exact hc.2.2, fun t ht => ?_⟩
          exact p (ρ ++ [t]) _ (Mv.push ht) (G.push ht ⟨_, upd_same, (a2.flatten _).mono (Mv.push ht)⟩) _ (.ref (RelG.get_push G.len))
        · exact p.elim
      · exact p.elim
    | _ => exact (show False from p).elim
  | _ => cases r2 <;> exact (show False from p).elim
theorem opd_fdiv : OpD Z X W (binaryOp .FloorDiv) (binop .fdiv) := by
  intro pins s σ H x y v u dx dy ρ g Q e I rx ry G r1 r2 p
  cases r1 with
  | int i => cases r2 with
    | int j =>
      simp only [binop] at p
      split at p
      · rename_i hc
        exact op_fdivW pins s σ H _ _ v u Q I rx ry ⟨i, j, rfl, rfl, hc, p.val G (.int _)⟩
      · exact p.elim
    | _ => exact (show False from p).elim
  | _ => cases r2 <;> exact (show False from p).elim
theorem opd_mod : OpD Z X W (binaryOp .Mod) (binop .mod) := by
  intro pins s σ H x y v u dx dy ρ g Q e I rx ry G r1 r2 p
  cases r1 with
  | int i => cases r2 with
    | int j =>
      simp only [binop] at p
      split at p
      · rename_i hc
        exact op_mod pins s σ H _ _ v u Q I rx ry ⟨i, j, rfl, rfl, hc, p.val G (.int _)⟩
      · exact p.elim
    | _ => exact (show False from p).elim
  | _ => cases r2 <;> exact (show False from p).elim
theorem opd_pow : OpD Z X W (binaryOp .Pow) (binop .pow) := by
  intro pins s σ H x y v u dx dy ρ g Q e I rx ry G r1 r2 p
  cases r1 with
  | int i => cases r2 with
    | int j =>
      simp only [binop] at p
      split at p
      · rename_i hc
        exact op_pow pins s σ H _ _ v u Q I rx ry ⟨i, j, rfl, rfl, ⟨hc.1, by omega, by omega⟩, p.val G (.int _)⟩
      · exact p.elim
    | _ => exact (show False from p).elim
  | _ => cases r2 <;> exact (show False from p).elim

/-! ### == of data -/
theorem ints_dp {ns : List Int} : ∀ {K : PySem.W.Frag} {H : Hp}, DpAll K H (ns.map V.int) (ns.map PyData.int) ∧ PyData.canLayAll0 (ns.map PyData.int) = true ∧ PyData.depthAll (ns.map PyData.int) = 0 := by
  induction ns with
  | nil => exact ⟨.nil, rfl, rfl⟩
  | cons n ns ih =>
    intro K H
    obtain ⟨a, b, c⟩ := @ih K H
    refine ⟨.cons (.int n) a, ?_, ?_⟩
    · show (PyData.canLay0 (.int n) && PyData.canLayAll0 (ns.map PyData.int)) = true
      rw [b]; rfl
    · show max (PyData.depth (.int n)) (PyData.depthAll (ns.map PyData.int)) = 0
      rw [c]; rfl
mutual
theorem snap_dp {ρ : List Addr} {H : Hp} {g : G} (G : RelG Z ρ H g) : ∀ (n : Nat) {v : V} {d : D} {t : PyData}, RelD Z ρ H v d → snap n g d = some t → Dp Z.K H v t ∧ t.canLay0 = true ∧ t.depth ≤ n
  | 0, _, _, _, _, h => by simp [snap] at h
  | n + 1, _, _, _, .non, h => by simp [snap] at h; subst h; exact ⟨.non, rfl, Nat.zero_le _⟩
  | n + 1, _, _, _, .bl b, h => by simp [snap] at h; subst h; exact ⟨.bl b, rfl, Nat.zero_le _⟩
  | n + 1, _, _, _, .int i, h => by simp [snap] at h; subst h; exact ⟨.int i, rfl, Nat.zero_le _⟩
  | n + 1, _, _, _, .str s, h => by
    simp only [snap] at h
    split at h
    · rename_i hc
      cases h
      exact ⟨.str s, hc, Nat.zero_le _⟩
    · cases h
  | n + 1, _, _, _, .tup hq hr, h => by
    simp only [snap, Option.map_eq_some_iff] at h
    obtain ⟨ts, h1, rfl⟩ := h
    obtain ⟨a1, a2, a3⟩ := snaps_dp G n hr h1
    exact ⟨.tup hq a1, a2, by show PyData.depthAll ts + 1 ≤ n + 1; omega⟩
  | n + 1, _, _, _, .ref hn, h => by
    simp only [snap] at h
    split at h
    · rename_i xs e
      obtain ⟨vs, q1, q2⟩ := G.lst hn e
      simp only [Option.map_eq_some_iff] at h
      obtain ⟨ts, h1, rfl⟩ := h
      obtain ⟨a1, a2, a3⟩ := snaps_dp G n q2 h1
      exact ⟨.lst (SqL.of q1) a1, a2, by show PyData.depthAll ts + 1 ≤ n + 1; omega⟩
    · cases h
  | n + 1, _, _, _, .fn k, h => by simp [snap] at h
  | n + 1, _, _, _, .rol (ns := ns) hq, h => by
    simp [snap] at h; subst h
    obtain ⟨a, b, c⟩ := @ints_dp ns Z.K H
    exact ⟨.lst hq.sqL a, b, by show PyData.depthAll _ + 1 ≤ n + 1; rw [c]; omega⟩
theorem snaps_dp {ρ : List Addr} {H : Hp} {g : G} (G : RelG Z ρ H g) : ∀ (n : Nat) {vs : List V} {ds : List D} {ts : List PyData}, RelDs Z ρ H vs ds → ds.mapM (snap n g) = some ts → DpAll Z.K H vs ts ∧ PyData.canLayAll0 ts = true ∧ PyData.depthAll ts ≤ n
  | n, _, _, _, .nil, h => by simp at h; subst h; exact ⟨.nil, rfl, Nat.zero_le _⟩
  | n, _, _, _, .cons r rs, h => by
    simp only [List.mapM_cons, Option.pure_def, Option.bind_eq_bind, Option.bind_eq_some_iff, Option.some.injEq] at h
    obtain ⟨t, h1, ts, h2, rfl⟩ := h
    obtain ⟨a1, a2, a3⟩ := snap_dp G n r h1
    obtain ⟨b1, b2, b3⟩ := snaps_dp G n rs h2
    exact ⟨.cons a1 b1, by show (_ && _) = true; rw [a2, b2]; rfl, by show max _ _ ≤ n; omega⟩
end
end
end DV
end
section
set_option Elab.async false
set_option linter.all false
set_option maxRecDepth 100000
namespace DV
open PySem PySem.Spec PyProof.Rows L2
section
variable {Z : Tab} {X : Cx} {W : WX} {N : List Str} {sc : Scope} {m : Nat}

/-- a datum of the state is read -/
theorem snap_reads {pins : List (Addr × Obj)} {s : Shared} {σ : L2.St} {H : Hp} {ρ : List Addr} {g : G} {n : Nat} {v : V} {u : Value} {d : D} {t : PyData} (hK : X.K = Z.K) (I : Inv X pins σ H s) (G : RelG Z ρ H g) (r : RelD Z ρ H v d) (rv : RelV v u) (h : snap n g d = some t) :
    (∃ as, Reads s.heap u t as) ∧ t.canLay0 = true ∧ t.depth ≤ n := by
  obtain ⟨a, b, c⟩ := snap_dp G n r h
  exact ⟨Dp.reads I t v u (by rw [hK]; exact a) rv, b, c⟩
theorem snaps_reads {pins : List (Addr × Obj)} {s : Shared} {σ : L2.St} {H : Hp} {ρ : List Addr} {g : G} {n : Nat} {vs : List V} {us : List Value} {ds : List D} {ts : List PyData} (hK : X.K = Z.K) (I : Inv X pins σ H s) (G : RelG Z ρ H g) (r : RelDs Z ρ H vs ds) (rv : Vals vs us) (h : ds.mapM (snap n g) = some ts) :
    (∃ as, ReadsAll s.heap us ts as) ∧ PyData.canLayAll0 ts = true ∧ PyData.depthAll ts ≤ n := by
  obtain ⟨a, b, c⟩ := snaps_dp G n r h
  exact ⟨Dp.readsAll I ts vs us (by rw [hK]; exact a) rv, b, c⟩
theorem fin_b {pins : List (Addr × Obj)} {σ : L2.St} {H : Hp} {s : Shared} {Q : VK} {ρ : List Addr} {g : G} {b : Bool} {e : Nat → D → List Addr → Hp → G → Prop} (I : Inv X pins σ H s) (G : RelG Z ρ H g) (p : PostR Z ρ H (.ok (.bl b) g) (kV Z Q) e) : EP X pins σ Q (.bool b) s :=
  ⟨.bl b, H, I, rfl, p.val G (.bl b)⟩
theorem liftO_some {ρ : List Addr} {H : Hp} {o : Option Bool} {g : G} {k : D → List Addr → Hp → G → Prop} {e : Nat → D → List Addr → Hp → G → Prop} (p : PostR Z ρ H (liftO o g) k e) : ∃ b, o = some b ∧ PostR Z ρ H (.ok (.bl b) g) k e := by
  cases o with
  | none => exact (show False from p).elim
  | some b => exact ⟨b, rfl, p⟩
theorem IsList_of {pins : List (Addr × Obj)} {s : Shared} {σ : L2.St} {H : Hp} {a : Addr} {xs : List V} (I : Inv X pins σ H s) (h : H a = some (.lst xs)) : ∃ its : List Value, Vals xs its ∧ s.heap.IsList a its.toArray := by
  obtain ⟨its, r, p, _⟩ := I.list (SqL.of h)
  exact ⟨its, r, p.isList⟩

theorem opc_eq (hK : X.K = Z.K) (hu : X.A.units + 64 < cLine) : OpD Z X W (compareOp .Eq) (fun x y g => liftO (cmpD .eq x y g) g) := by
  intro pins s σ H x y v u dx dy ρ g Q e I rx ry G r1 r2 p
  obtain ⟨b, hb, p'⟩ := liftO_some p
  simp only [cmpD, eqG] at hb
  split at hb
  · rename_i hl
    cases hb
    unfold unlikeLen at hl
    cases r1 with
    | ref n1 => cases r2 with
      | ref n2 =>
        simp only at hl
        split at hl
        · rename_i xs ys e1 e2
          obtain ⟨vs, a1, a2⟩ := G.lst n1 e1
          obtain ⟨ws, b1, b2⟩ := G.lst n2 e2
          obtain ⟨its, q1, l1⟩ := IsList_of I a1
          obtain ⟨its2, q2, l2⟩ := IsList_of I b1
          cases rx
          cases ry
          refine SeqAt.eq_list_lengthsAt l1 l2 ?_ (by omega) (fin_b I G p')
          have z1 := q1.length
          have z2 := q2.length
          have y1 := a2.length
          have y2 := b2.length
          simp only [List.size_toArray]
          rw [← z1, ← z2, y1, y2]
          exact hl
        · cases hl
      | _ => exact absurd hl (by simp)
    | _ => cases r2 <;> exact absurd hl (by simp)
  · split at hb
    · rename_i a c ha hc
      cases hb
      obtain ⟨⟨as, A1⟩, c1, d1⟩ := snap_reads hK I G r1 rx ha
      obtain ⟨⟨bs, B1⟩, c2, d2⟩ := snap_reads hK I G r2 ry hc
      exact SeqAt.compareEq_shaped A1 B1 (by unfold SeqAt.shaped; rw [c1, decide_eq_true d1]; rfl) (by unfold SeqAt.shaped; rw [c2, decide_eq_true d2]; rfl) hu (fin_b I G p')
    · cases hb
theorem opc_ne (hK : X.K = Z.K) (hu : X.A.units + 64 < cLine) : OpD Z X W (compareOp .NotEq) (fun x y g => liftO (cmpD .ne x y g) g) := by
  intro pins s σ H x y v u dx dy ρ g Q e I rx ry G r1 r2 p
  obtain ⟨b, hb, p'⟩ := liftO_some p
  simp only [cmpD, neG] at hb
  split at hb
  · rename_i a c ha hc
    cases hb
    obtain ⟨⟨as, A1⟩, c1, d1⟩ := snap_reads hK I G r1 rx ha
    obtain ⟨⟨bs, B1⟩, c2, d2⟩ := snap_reads hK I G r2 ry hc
    exact SeqAt.compareNe_shaped A1 B1 (by unfold SeqAt.shaped; rw [c1, decide_eq_true d1]; rfl) (by unfold SeqAt.shaped; rw [c2, decide_eq_true d2]; rfl) hu (fin_b I G p')
  · cases hb

theorem ordG_some {f : PyData → PyData → Bool} {g : G} {x y : D} {b : Bool} (h : ordG f g x y = some b) : ∃ a c, snap 64 g x = some a ∧ snap 64 g y = some c ∧ PySem.W.alike a c = true ∧ a ≠ .none ∧ f a c = b := by
  unfold ordG at h
  split at h
  · rename_i a c ha hc
    split at h
    · rename_i hq
      rw [Bool.and_eq_true] at hq
      refine ⟨a, c, ha, hc, hq.1, ?_, Option.some.inj h⟩
      rintro rfl
      exact absurd hq.2 (by simp [isNone])
    · cases h
  · cases h
theorem opc_ord {op : CmpOp} {o : Cmp} {f : PyData → PyData → Bool} (hK : X.K = Z.K) (hu : X.A.units + 64 < cLine) (ho : ∀ x y g, (∃ i j, x = D.int i ∧ y = D.int j) ∨ cmpD o x y g = ordG f g x y)
    (hi : ∀ i j, ∃ k, (∀ g, cmpD o (.int i) (.int j) g = some k) ∧ ∀ (pins : List (Addr × Obj)) (s : Shared) (σ : L2.St) (H : Hp) (v u : Value) (Q : VK), Inv X pins σ H s → RelV (.int i) v → RelV (.int j) u → Q (.bl k) H → wpAny (model X.prog X.w) X.A (compareOp op v u) (EP X pins σ Q) X.xe s)
    (hd : ∀ {s : Shared} {a b : Value} {da db : PyData} {as bs : List Addr} {Q : Value → Shared → Prop}, Reads s.heap a da as → Reads s.heap b db bs → PySem.W.alike da db = true → da ≠ .none → X.A.units + min da.depth db.depth < cLine → Q (.bool (f da db)) s → wpAny (model X.prog X.w) X.A (compareOp op a b) Q X.xe s) :
    OpD Z X W (compareOp op) (fun x y g => liftO (cmpD o x y g) g) := by
  intro pins s σ H x y v u dx dy ρ g Q e I rx ry G r1 r2 p
  obtain ⟨b, hb, p'⟩ := liftO_some p
  rcases ho dx dy g with ⟨i, j, rfl, rfl⟩ | h
  · obtain ⟨k, h1, h2⟩ := hi i j
    rw [h1] at hb
    cases hb
    cases r1
    cases r2
    exact h2 pins s σ H v u Q I rx ry (p'.val G (.bl b))
  · rw [h] at hb
    obtain ⟨a, c, ha, hc, hal, hn, rfl⟩ := ordG_some hb
    obtain ⟨⟨as, A1⟩, c1, d1⟩ := snap_reads hK I G r1 rx ha
    obtain ⟨⟨bs, B1⟩, c2, d2⟩ := snap_reads hK I G r2 ry hc
    exact hd A1 B1 hal hn (by have := Nat.min_le_left a.depth c.depth; omega) (fin_b I G p')
theorem opc_lt (hK : X.K = Z.K) (hu : X.A.units + 64 < cLine) : OpD Z X W (compareOp .Lt) (fun x y g => liftO (cmpD .lt x y g) g) :=
  opc_ord hK hu (fun x y g => by cases x <;> cases y <;> first | exact .inl ⟨_, _, rfl, rfl⟩ | exact .inr rfl) (fun i j => ⟨_, fun _ => rfl, fun pins s σ H v u Q I rx ry q => op_lt pins s σ H _ _ v u Q I rx ry ⟨i, j, rfl, rfl, q⟩⟩) fun A B h n hu q => PySem.W.lt_data A B h n hu q
theorem opc_gt (hK : X.K = Z.K) (hu : X.A.units + 64 < cLine) : OpD Z X W (compareOp .Gt) (fun x y g => liftO (cmpD .gt x y g) g) :=
  opc_ord hK hu (fun x y g => by cases x <;> cases y <;> first | exact .inl ⟨_, _, rfl, rfl⟩ | exact .inr rfl) (fun i j => ⟨_, fun _ => rfl, fun pins s σ H v u Q I rx ry q => op_gt pins s σ H _ _ v u Q I rx ry ⟨i, j, rfl, rfl, q⟩⟩) fun A B h n hu q => PySem.W.gt_data A B h n hu q
theorem opc_le (hK : X.K = Z.K) (hu : X.A.units + 64 < cLine) : OpD Z X W (compareOp .LtE) (fun x y g => liftO (cmpD .le x y g) g) :=
  opc_ord hK hu (fun x y g => by cases x <;> cases y <;> first | exact .inl ⟨_, _, rfl, rfl⟩ | exact .inr rfl) (fun i j => ⟨_, fun _ => rfl, fun pins s σ H v u Q I rx ry q => op_le pins s σ H _ _ v u Q I rx ry ⟨i, j, rfl, rfl, q⟩⟩) fun A B h n hu q => PySem.W.le_data A B h n hu q
theorem opc_ge (hK : X.K = Z.K) (hu : X.A.units + 64 < cLine) : OpD Z X W (compareOp .GtE) (fun x y g => liftO (cmpD .ge x y g) g) :=
  opc_ord hK hu (fun x y g => by cases x <;> cases y <;> first | exact .inl ⟨_, _, rfl, rfl⟩ | exact .inr rfl) (fun i j => ⟨_, fun _ => rfl, fun pins s σ H v u Q I rx ry q => op_ge pins s σ H _ _ v u Q I rx ry ⟨i, j, rfl, rfl, q⟩⟩) fun A B h n hu q => PySem.W.ge_data A B h n hu q

/-! ### in, not in -/
theorem memG_some {g : G} {x : D} {xs : List D} {b : Bool} (h : memG g x xs = some b) : ∃ ts t, xs.mapM (snap 64 g) = some ts ∧ snap 64 g x = some t ∧ (ts.any fun y => PyData.eqv y t) = b := by
  unfold memG at h
  split at h
  · rename_i ts t h1 h2
    exact ⟨ts, t, h1, h2, Option.some.inj h⟩
  · cases h
theorem in_seq_ok {neg : Bool} (hK : X.K = Z.K) (hu : X.A.units + 64 + 1 < cLine) {pins : List (Addr × Obj)} {s : Shared} {σ : L2.St} {H : Hp} {ρ : List Addr} {g : G} {x : V} {v : Value} {dx : D} {a : Addr} {xs : List V} {ds : List D} {b : Bool} {Q : Value → Shared → Prop} (I : Inv X pins σ H s) (G : RelG Z ρ H g) (rx : RelV x v) (r1 : RelD Z ρ H x dx)
    (hq : SqL X.K H a xs ∨ SqT X.K H a xs) (r : RelDs Z ρ H xs ds) (h : memG g dx ds = some b) (q : Q (.bool (if neg then !b else b)) s) : wpAny (model X.prog X.w) X.A (compareOp (if neg then .NotIn else .In) v (.ref a)) Q X.xe s := by
  obtain ⟨ts, t, h1, h2, rfl⟩ := memG_some h
  obtain ⟨⟨bs, B1⟩, c2, d2⟩ := snap_reads hK I G r1 rx h2
  have hm := Nat.min_le_right (PyData.depthAll ts) t.depth
  rcases hq with hq | hq
  · obtain ⟨its, rv, pl, _⟩ := I.list hq
    obtain ⟨⟨as, A1⟩, c1, d1⟩ := snaps_reads hK I G r rv h1
    cases neg with
    | false => exact SeqAt.in_listAt _ pl.isList (SeqAt.items_eqAt (vs := its.toArray) (by simpa using A1) B1 c1 c2 (by omega)) (by rw [SeqAt.any_by_data (vs := its.toArray) (by simpa using A1) c1]; exact q)
    | true => exact SeqAt.notIn_listAt _ pl.isList (SeqAt.items_eqAt (vs := its.toArray) (by simpa using A1) B1 c1 c2 (by omega)) (by rw [SeqAt.any_by_data (vs := its.toArray) (by simpa using A1) c1]; exact q)
  · obtain ⟨its, rv, pl, _⟩ := I.tuple hq
    obtain ⟨⟨as, A1⟩, c1, d1⟩ := snaps_reads hK I G r rv h1
    cases neg with
    | false => exact SeqAt.in_tupleAt _ pl (SeqAt.items_eqAt (vs := its.toArray) (by simpa using A1) B1 c1 c2 (by omega)) (by rw [SeqAt.any_by_data (vs := its.toArray) (by simpa using A1) c1]; exact q)
    | true => exact SeqAt.notIn_tupleAt _ pl (SeqAt.items_eqAt (vs := its.toArray) (by simpa using A1) B1 c1 c2 (by omega)) (by rw [SeqAt.any_by_data (vs := its.toArray) (by simpa using A1) c1]; exact q)
end
end DV
end
section
set_option Elab.async false
set_option linter.all false
set_option maxRecDepth 100000
namespace DV
open PySem PySem.Spec PyProof.Rows L2
section
variable {Z : Tab} {X : Cx} {W : WX} {N : List Str} {sc : Scope} {m : Nat}

theorem kD_inj {a b : L2.Key} (h : kD a = kD b) : a = b := by
  cases a <;> cases b <;> simp [kD] at h <;> rw [h]
theorem RelK.some {ρ : List Addr} {H : Hp} : ∀ {xs : List (L2.Key × V)} {ds : List (D × D)}, RelK Z ρ H xs ds → ∀ k, (valV xs k).isSome = (dget ds (kD k)).isSome
  | _, _, .nil, k => rfl
  | _, _, .cons (k := j) (x := x) (d := d) (xs := xs) (ds := ds) h t, k => by
    have ih := RelK.some t k
    by_cases e : j = k
    · rw [valV_pos e]
      simp [dget, e]
    · rw [valV_neg e, ih]
      have e' : ¬ kD j = kD k := fun z => e (kD_inj z)
      simp [dget, e']
theorem opc_in_ {neg : Bool} (hK : X.K = Z.K) (hu : X.A.units + 64 + 1 < cLine) {pins : List (Addr × Obj)} {s : Shared} {σ : L2.St} {H : Hp} {x y : V} {v u : Value} {dx dy : D} {ρ : List Addr} {g : G} {Q : VK} {e : Nat → D → List Addr → Hp → G → Prop} (I : Inv X pins σ H s) (rx : RelV x v) (ry : RelV y u) (G : RelG Z ρ H g) (r1 : RelD Z ρ H x dx) (r2 : RelD Z ρ H y dy)
    (p : PostR Z ρ H (liftO (cmpD (if neg then .notIn else .in_) dx dy g) g) (kV Z Q) e) : wpAny (model X.prog X.w) X.A (compareOp (if neg then .NotIn else .In) v u) (EP X pins σ Q) X.xe s := by
  obtain ⟨b, hb, p'⟩ := liftO_some p
  cases r2 with
  | tup hq rs =>
    cases ry
    rename_i a vs ds
    have hb' : ∃ c, memG g dx ds = some c ∧ (if neg then !c else c) = b := by
      cases neg with
      | false => exact ⟨b, hb, rfl⟩
      | true =>
        obtain ⟨c, h1, h2⟩ := Option.map_eq_some_iff.mp (show (memG g dx ds).map not = some b from hb)
        exact ⟨c, h1, h2⟩
    obtain ⟨c, h1, h2⟩ := hb'
    exact in_seq_ok hK hu I G rx r1 (.inr (by rw [hK]; exact hq)) rs h1 (by rw [h2]; exact fin_b I G p')
  | ref hn =>
    cases ry
    rename_i a n
    by_cases hdic : ∃ kvs, g[n]? = some (.dic kvs)
    · obtain ⟨kvs, e1⟩ := hdic
      obtain ⟨ks, a1, a2⟩ := G.obj n _ a e1 hn
      have key : ∃ k, dx = kD k ∧ (if neg then !(dget kvs dx).isSome else (dget kvs dx).isSome) = b := by
        cases neg with
        | false =>
          simp [cmpD, e1] at hb
          cases dx <;> simp [keyOk] at hb
          · exact ⟨.inl _, rfl, hb⟩
          · exact ⟨.inr _, rfl, hb⟩
        | true =>
          simp [cmpD, e1] at hb
          cases dx <;> simp [keyOk] at hb
          · exact ⟨.inl _, rfl, by simpa using hb⟩
          · exact ⟨.inr _, rfl, by simpa using hb⟩
      obtain ⟨k, rfl, hv⟩ := key
      have hx : x = L2.kV k := by
        cases k with
        | inl i => cases r1; rfl
        | inr s => cases r1; rfl
      subst hx
      have hs : (valV ks k).isSome = (dget kvs (kD k)).isSome := a2.some k
      have hu1 : X.A.units + 1 < cLine := by omega
      cases neg with
      | false =>
        refine d_in hu1 I (.k a1) rx fun s' I' => ?_
        rw [hs]
        have hv' : (dget kvs (kD k)).isSome = b := hv
        rw [hv']
        exact fin_b I' G p'
      | true =>
        refine d_notIn hu1 I (.k a1) rx fun s' I' => ?_
        rw [hs]
        have hv' : (!(dget kvs (kD k)).isSome) = b := hv
        rw [hv']
        exact fin_b I' G p'
    have hb' : ∃ ds, g[n]? = some (.lst ds) ∧ ∃ c, memG g dx ds = some c ∧ (if neg then !c else c) = b := by
      cases e1 : g[n]? with
      | none => cases neg <;> simp [cmpD, e1] at hb
      | some o => cases o with
        | lst ds =>
          refine ⟨ds, rfl, ?_⟩
          cases neg with
          | false => simp [cmpD, e1] at hb; exact ⟨b, hb, rfl⟩
          | true =>
            simp [cmpD, e1] at hb
            exact ⟨!b, hb, by simp⟩
        | dic kvs => exact absurd ⟨kvs, e1⟩ hdic
        | ins c fs => cases neg <;> simp [cmpD, e1] at hb
    obtain ⟨ds, e1, c, h1, h2⟩ := hb'
    obtain ⟨vs, a1, a2⟩ := G.lst hn e1
    exact in_seq_ok hK hu I G rx r1 (.inl (SqL.of a1)) a2 h1 (by rw [h2]; exact fin_b I G p')
  | _ => cases neg <;> exact absurd hb (by simp [cmpD])
theorem opc_in (hK : X.K = Z.K) (hu : X.A.units + 64 + 1 < cLine) : OpD Z X W (compareOp .In) (fun x y g => liftO (cmpD .in_ x y g) g) :=
  fun pins s σ H x y v u dx dy ρ g Q e I rx ry G r1 r2 p => opc_in_ (neg := false) hK hu I rx ry G r1 r2 p
theorem opc_notIn (hK : X.K = Z.K) (hu : X.A.units + 64 + 1 < cLine) : OpD Z X W (compareOp .NotIn) (fun x y g => liftO (cmpD .notIn x y g) g) :=
  fun pins s σ H x y v u dx dy ρ g Q e I rx ry G r1 r2 p => opc_in_ (neg := true) hK hu I rx ry G r1 r2 p
theorem relD_non {ρ : List Addr} {H : Hp} {v : V} {d : D} (r : RelD Z ρ H v d) : decide (v = .non) = decide (d = .non) := by
  cases r <;> simp
theorem opc_isN : OpD Z X W (compareOp .Is) (fun x y g => liftO (cmpD .isN x y g) g) := by
  intro pins s σ H x y v u dx dy ρ g Q e I rx ry G r1 r2 p
  obtain ⟨b, hb, p'⟩ := liftO_some p
  cases r2 with
  | non =>
    refine op_isN pins s σ H _ _ v u Q I rx ry ⟨rfl, ?_⟩
    rw [relD_non r1]
    cases hb
    exact p'.val G (.bl _)
  | _ => exact absurd hb (by cases dx <;> simp [cmpD])
theorem opc_notN : OpD Z X W (compareOp .IsNot) (fun x y g => liftO (cmpD .notN x y g) g) := by
  intro pins s σ H x y v u dx dy ρ g Q e I rx ry G r1 r2 p
  obtain ⟨b, hb, p'⟩ := liftO_some p
  cases r2 with
  | non =>
    refine op_notN pins s σ H _ _ v u Q I rx ry ⟨rfl, ?_⟩
    rw [relD_non r1]
    cases hb
    exact p'.val G (.bl _)
  | _ => exact absurd hb (by cases dx <;> simp [cmpD])

variable {a b c e : Expr} {es : List Expr} {fa fb fc : Ex} {fs : Exs} {pos : Pos}
theorem de_cmp {op : CmpOp} {o : Cmp} (ho : OpD Z X W (compareOp op) (fun x y g => liftO (cmpD o x y g) g)) (ha : PE X a (rdE Z W fa)) (hb : PE X b (rdE Z W fb)) (hm : behindInMarks op b = false := by first | exact nomark _ | rfl) : PE X (.Compare a [op] [b] pos) (rdE Z W (Ex.cmp o fa fb)) := by
  refine ⟨fun pins s σ H Q I ⟨δ, ρ, g, G, S, h⟩ => ?_⟩
  refine wpAny_Compare1 (binT ha hb (R := fun x y H2 => ∃ dx dy ρ2 g2, RelG Z ρ2 H2 g2 ∧ RelD Z ρ2 H2 x dx ∧ RelD Z ρ2 H2 y dy ∧ PostR Z ρ2 H2 (liftO (cmpD o dx dy g2) g2) (kV Z Q) (eX Z W σ)) I ?_ ?_) hm
  · refine ⟨δ, ρ, g, G, S, (PostR.bind h).imp (fun d ρ1 H1 g1 m1 G1 h1 v rv => ?_) fun _ _ _ _ _ _ _ q => q⟩
    exact ⟨δ, ρ1, g1, G1, S.mono m1, (PostR.bind h1).imp (fun d2 ρ2 H2 g2 m2 G2 h2 v2 rv2 => ⟨d, d2, ρ2, g2, G2, rv.mono m2, rv2, h2⟩) fun _ _ _ _ _ _ _ q => q⟩
  · intro v u s2 x y H2 I2 rx ry ⟨dx, dy, ρ2, g2, G2, r1, r2, p⟩
    exact ho pins s2 σ H2 x y v u dx dy ρ2 g2 Q _ I2 rx ry G2 r1 r2 p
/-- a < b < c: by bools -/
theorem de_chain {op op' : CmpOp} {o o' : Cmp} (ho : OpD Z X W (compareOp op) (fun x y g => liftO (cmpD o x y g) g)) (ho' : OpD Z X W (compareOp op') (fun x y g => liftO (cmpD o' x y g) g)) (ha : PE X a (rdE Z W fa)) (hb : PE X b (rdE Z W fb)) (hc : PE X c (rdE Z W fc))
    (hm : lastMarks [op, op'] [b, c] = false := by with_unfolding_all rfl) : PE X (.Compare a [op, op'] [b, c] pos) (rdE Z W (Ex.chain o o' fa fb fc)) := by
  refine ⟨fun pins s σ H Q I ⟨δ, ρ, g, G, S, h⟩ => ?_⟩
  refine Compare_chain (thn (ha.run pins s σ H (fun x H1 => ∃ dx ρ1 g1, Mv ρ H ρ1 H1 ∧ RelG Z ρ1 H1 g1 ∧ RelD Z ρ1 H1 x dx ∧ PostR Z ρ1 H1 ((fb δ g1).bind fun y g => match cmpD o dx y g with
      | some true => (fc δ g).bind fun z g => liftO (cmpD o' y z g) g
      | some false => .ok (.bl false) g
      | none => .stuck) (kV Z Q) (eX Z W σ)) I ⟨δ, ρ, g, G, S, (PostR.bind h).imp (fun d ρ1 H1 g1 m1 G1 h1 v rv => ⟨d, ρ1, g1, m1, G1, rv, h1⟩) fun _ _ _ _ _ _ _ q => q⟩)
    fun v s1 ⟨x, H1, I1, r1, dx, ρ1, g1, m1, G1, q1, h1⟩ => chain_link ?_) hm
  refine thn (hb.run pins s1 σ H1 (fun y H2 => ∃ dy ρ2 g2, Mv ρ1 H1 ρ2 H2 ∧ RelG Z ρ2 H2 g2 ∧ RelD Z ρ2 H2 y dy ∧ PostR Z ρ2 H2 (match cmpD o dx dy g2 with
      | some true => (fc δ g2).bind fun z g => liftO (cmpD o' dy z g) g
      | some false => .ok (.bl false) g2
      | none => .stuck) (kV Z Q) (eX Z W σ)) I1 ⟨δ, ρ1, g1, G1, S.mono m1, (PostR.bind h1).imp (fun d ρ2 H2 g2 m2 G2 h2 v rv => ⟨d, ρ2, g2, m2, G2, rv, h2⟩) fun _ _ _ _ _ _ _ q => q⟩)
    fun u s2 ⟨y, H2, I2, r2, dy, ρ2, g2, m2, G2, q2, h2⟩ => ?_
  -- the first comparison: its bool
  cases hk : cmpD o dx dy g2 with
  | none => rw [hk] at h2; exact h2.elim
  | some k =>
    rw [hk] at h2
    refine thn (ho pins s2 σ H2 x y v u dx dy ρ2 g2 (fun z H3 => z = .bl k ∧ ∃ ρ3, Mv ρ2 H2 ρ3 H3 ∧ RelG Z ρ3 H3 g2) (fun _ _ _ _ _ => False) I2 r1 r2 G2 (q1.mono m2) q2 ?_) fun d s3 ⟨z, H3, I3, r3, e3, ρ3, m3, G3⟩ => ?_
    · show PostR Z ρ2 H2 (liftO (cmpD o dx dy g2) g2) _ _
      rw [hk]
      exact fun ρ3 H3 m3 G3 v3 r3 => by cases r3; exact ⟨rfl, ρ3, m3, G3⟩
    · subst e3
      cases r3
      refine wpAny_truthy_bool ?_
      cases k with
      | false => exact ite_ff ⟨.bl false, H3, I3, rfl, PostR.val (PostR.mv m3 h2) G3 (.bl false)⟩
      | true =>
        refine ite_tt (chain_last (thn (hc.run pins s3 σ H3 (fun z H4 => ∃ dz ρ4 g4, Mv ρ3 H3 ρ4 H4 ∧ RelG Z ρ4 H4 g4 ∧ RelD Z ρ4 H4 z dz ∧ PostR Z ρ4 H4 (liftO (cmpD o' dy dz g4) g4) (kV Z Q) (eX Z W σ)) I3
          ⟨δ, ρ3, g2, G3, ((S.mono m1).mono m2).mono m3, (PostR.bind (PostR.mv m3 h2)).imp (fun d ρ4 H4 g4 m4 G4 h4 v rv => ⟨d, ρ4, g4, m4, G4, rv, h4⟩) fun _ _ _ _ _ _ _ q => q⟩) fun w' s4 ⟨z', H4, I4, r4, dz, ρ4, g4, m4, G4, q4, h4⟩ => ?_))
        exact ho' pins s4 σ H4 y z' u w' dy dz ρ4 g4 Q _ I4 r2 r4 G4 ((q2.mono m3).mono m4) q4 h4

/-! ### tests -/
theorem truth_ok {ρ : List Addr} {H : Hp} {g : G} (G : RelG Z ρ H g) {x : V} {d : D} {k : Bool} (r : RelD Z ρ H x d) (h : truth g d = some k) : TruV Z.K x H k := by
  cases r with
  | non => exact (Option.some.inj h).symm
  | bl b => exact (Option.some.inj h).symm
  | int i => exact (Option.some.inj h).symm
  | str s =>
    simp only [truth] at h
    split at h
    · rename_i hl
      exact ⟨by rw [← line_eq]; exact hl, (Option.some.inj h).symm⟩
    · cases h
  | tup hq rs =>
    refine .inr (.inl ⟨_, hq, ?_⟩)
    have h' := Option.some.inj h
    rw [← h']
    have hl := rs.length
    cases rs <;> rfl
  | ref hn =>
    simp only [truth] at h
    split at h
    · rename_i xs e1
      obtain ⟨vs, a1, a2⟩ := G.lst hn e1
      refine .inl ⟨vs, SqL.of a1, ?_⟩
      rw [← Option.some.inj h]
      cases a2 <;> rfl
    · rename_i kvs e1
      cases h
    · cases h
  | _ => cases h
/-- an expression as a test: of whatever value -/
theorem dt_ex (hK : X.K = Z.K) (ha : PE X a (rdE Z W fa)) (he : ∀ whole, isTrue a X.env whole = (do let v ← whole; standAt a.pos; holding [v] (truthy v)) := by intro _; rfl) : PT X a (rdT Z W (Te.ex fa)) := by
  refine PT_imp (pt_truth ha he) fun σ H Q ⟨δ, ρ, g, G, S, h⟩ => ?_
  refine ⟨δ, ρ, g, G, S, (PostR.bind h).imp (fun d ρ1 H1 g1 m1 G1 h1 v rv => ?_) fun _ _ _ _ _ _ _ q => q⟩
  split at h1
  · rename_i k hk
    exact ⟨k, by rw [hK]; exact truth_ok G1 rv hk, PostR.ok (a := k) h1 G1⟩
  · exact h1.elim
/-- a comparison as a test -/
theorem dt_cmp {op : CmpOp} {o : Cmp} (ho : OpD Z X W (compareOp op) (fun x y g => liftO (cmpD o x y g) g)) (ha : PE X a (rdE Z W fa)) (hb : PE X b (rdE Z W fb)) (hm : behindInMarks op b = false := by first | exact nomark _ | rfl) : PT X (.Compare a [op] [b] pos) (rdT Z W (Te.ex (Ex.cmp o fa fb))) := by
  refine ⟨fun pins s σ H Q I ⟨δ, ρ, g, G, S, h⟩ => ?_⟩
  have h' : PostR Z ρ H ((Ex.cmp o fa fb δ g).bind fun x g => match truth g x with
    | some b => .ok b g
    | none => .stuck) (kT Q) (eX Z W σ) := h
  have h2 := PostR.bind (PostR.bind h')
  refine wpAny_isTrue_Compare1 (thn (ha.run pins s σ H (fun x H1 => ∃ dx ρ1 g1, Mv ρ H ρ1 H1 ∧ RelG Z ρ1 H1 g1 ∧ RelD Z ρ1 H1 x dx ∧ PostR Z ρ1 H1 ((fb δ g1).bind fun y g => liftO (cmpD o dx y g) g) (fun d ρ2 H2 g2 => PostR Z ρ2 H2 (match truth g2 d with
    | some b => .ok b g2
    | none => .stuck) (kT Q) (eX Z W σ)) (eX Z W σ)) I ⟨δ, ρ, g, G, S, h2.imp (fun d ρ1 H1 g1 m1 G1 h1 v rv => ⟨d, ρ1, g1, m1, G1, rv, h1⟩) fun _ _ _ _ _ _ _ q => q⟩) fun v s1 ⟨x, H1, I1, r1, dx, ρ1, g1, m1, G1, q1, h1⟩ => ?_) hm
  refine thn (hb.run pins s1 σ H1 (fun y H2 => ∃ dy ρ2 g2, Mv ρ1 H1 ρ2 H2 ∧ RelG Z ρ2 H2 g2 ∧ RelD Z ρ2 H2 y dy ∧ PostR Z ρ2 H2 (liftO (cmpD o dx dy g2) g2) (fun d ρ2 H2 g2 => PostR Z ρ2 H2 (match truth g2 d with
    | some b => .ok b g2
    | none => .stuck) (kT Q) (eX Z W σ)) (eX Z W σ)) I1 ⟨δ, ρ1, g1, G1, S.mono m1, (PostR.bind h1).imp (fun d ρ1 H1 g1 m1 G1 h1 v rv => ⟨d, ρ1, g1, m1, G1, rv, h1⟩) fun _ _ _ _ _ _ _ q => q⟩) fun u s2 ⟨y, H2, I2, r2, dy, ρ2, g2, m2, G2, q2, h2⟩ => ?_
  obtain ⟨k, hk, h3⟩ := liftO_some h2
  refine thn (ho pins s2 σ H2 x y v u dx dy ρ2 g2 (fun z H3 => z = .bl k ∧ ∃ ρ3, Mv ρ2 H2 ρ3 H3 ∧ RelG Z ρ3 H3 g2) (fun _ _ _ _ _ => False) I2 r1 r2 G2 (q1.mono m2) q2 ?_) fun d s3 ⟨z, H3, I3, r3, e3, ρ3, m3, G3⟩ => ?_
  · show PostR Z ρ2 H2 (liftO (cmpD o dx dy g2) g2) _ _
    rw [hk]
    exact fun ρ3 H3 m3 G3 v3 r3 => by cases r3; exact ⟨rfl, ρ3, m3, G3⟩
  · subst e3
    cases r3
    exact wpAny_truthy_bool ⟨H3, I3, PostR.ok (a := k) (PostR.ok (PostR.mv m3 h3) G3) G3⟩
theorem dt_not {ta : Te} (ha : PT X a (rdT Z W ta)) : PT X (.UnaryOp .Not a pos) (rdT Z W (Te.not ta)) := by
  refine PT_imp (pt_not ha) fun σ H Q ⟨δ, ρ, g, G, S, h⟩ => ?_
  exact ⟨δ, ρ, g, G, S, (PostR.bind h).imp (fun d ρ1 H1 g1 m1 G1 h1 => PostR.ok (a := !d) h1 G1) fun _ _ _ _ _ _ _ q => q⟩
theorem dw_and1 {ta : Te} (ha : PT X a (rdT Z W ta)) : PW X (.BoolOp .And [a] pos) (rdT Z W ta) := pw_and1 ha
theorem dw_or1 {ta : Te} (ha : PT X a (rdT Z W ta)) : PW X (.BoolOp .Or [a] pos) (rdT Z W ta) := pw_or1 ha
theorem dw_and {ta tb : Te} {rest : List Expr} (ha : PT X a (rdT Z W ta)) (hb : PW X (.BoolOp .And (b :: rest) pos) (rdT Z W tb)) : PW X (.BoolOp .And (a :: b :: rest) pos) (rdT Z W (Te.and ta tb)) := by
  refine PW_imp (pw_and ha hb) fun σ H Q ⟨δ, ρ, g, G, S, h⟩ => ?_
  refine ⟨δ, ρ, g, G, S, (PostR.bind h).imp (fun d ρ1 H1 g1 m1 G1 h1 => ?_) fun _ _ _ _ _ _ _ q => q⟩
  show if d = true then _ else _
  cases d with
  | true => exact ⟨δ, ρ1, g1, G1, S.mono m1, h1⟩
  | false => exact PostR.ok (a := false) h1 G1
theorem dw_or {ta tb : Te} {rest : List Expr} (ha : PT X a (rdT Z W ta)) (hb : PW X (.BoolOp .Or (b :: rest) pos) (rdT Z W tb)) : PW X (.BoolOp .Or (a :: b :: rest) pos) (rdT Z W (Te.or ta tb)) := by
  refine PW_imp (pw_or ha hb) fun σ H Q ⟨δ, ρ, g, G, S, h⟩ => ?_
  refine ⟨δ, ρ, g, G, S, (PostR.bind h).imp (fun d ρ1 H1 g1 m1 G1 h1 => ?_) fun _ _ _ _ _ _ _ q => q⟩
  show if d = true then _ else _
  cases d with
  | false => exact ⟨δ, ρ1, g1, G1, S.mono m1, h1⟩
  | true => exact PostR.ok (a := true) h1 G1
theorem dt_w {ta : Te} (h : PW X a (rdT Z W ta)) : PT X a (rdT Z W ta) := h.pt

/-! ### and, or, not, if as values -/
theorem de_not (ha : PE X a (rdE Z W fa)) : PE X (.UnaryOp .Not a pos) (rdE Z W (Ex.not fa)) := by
  refine PE_imp (pe_not ha) fun σ H Q ⟨δ, ρ, g, G, S, h⟩ => ?_
  refine ⟨δ, ρ, g, G, S, (PostR.bind h).imp (fun d ρ1 H1 g1 m1 G1 h1 v rv => ?_) fun _ _ _ _ _ _ _ q => q⟩
  cases rv with
  | bl b => exact ⟨b, rfl, h1.val G1 (.bl _)⟩
  | _ => exact (show False from h1).elim
theorem de_one {op} (h : PE X a (rdE Z W fa)) : PE X (.BoolOp op [a] pos) (rdE Z W fa) := pe_one h
theorem de_and {rest : List Expr} (ha : PE X a (rdE Z W fa)) (hb : PE X (.BoolOp .And (b :: rest) pos) (rdE Z W fb)) : PE X (.BoolOp .And (a :: b :: rest) pos) (rdE Z W (Ex.and fa fb)) := by
  refine PE_imp (pe_and ha hb) fun σ H Q ⟨δ, ρ, g, G, S, h⟩ => ?_
  refine ⟨δ, ρ, g, G, S, (PostR.bind h).imp (fun d ρ1 H1 g1 m1 G1 h1 v rv => ?_) fun _ _ _ _ _ _ _ q => q⟩
  cases rv with
  | bl b =>
    refine ⟨b, rfl, ?_⟩
    cases b with
    | true => exact ⟨δ, ρ1, g1, G1, S.mono m1, h1⟩
    | false => exact PostR.val (d := .bl false) h1 G1 (.bl false)
  | _ => exact (show False from h1).elim
theorem de_or {rest : List Expr} (ha : PE X a (rdE Z W fa)) (hb : PE X (.BoolOp .Or (b :: rest) pos) (rdE Z W fb)) : PE X (.BoolOp .Or (a :: b :: rest) pos) (rdE Z W (Ex.or fa fb)) := by
  refine PE_imp (pe_or ha hb) fun σ H Q ⟨δ, ρ, g, G, S, h⟩ => ?_
  refine ⟨δ, ρ, g, G, S, (PostR.bind h).imp (fun d ρ1 H1 g1 m1 G1 h1 v rv => ?_) fun _ _ _ _ _ _ _ q => q⟩
  cases rv with
  | bl b =>
    refine ⟨b, rfl, ?_⟩
    cases b with
    | false => exact ⟨δ, ρ1, g1, G1, S.mono m1, h1⟩
    | true => exact PostR.val (d := .bl true) h1 G1 (.bl true)
  | _ => exact (show False from h1).elim
theorem de_ite {tc : Te} (hc : PT X c (rdT Z W tc)) (ha : PE X a (rdE Z W fa)) (hb : PE X b (rdE Z W fb)) : PE X (.IfExp c a b pos) (rdE Z W (Ex.ite tc fa fb)) := by
  refine PE_imp (pe_ifExp hc ha hb) fun σ H Q ⟨δ, ρ, g, G, S, h⟩ => ?_
  refine ⟨δ, ρ, g, G, S, (PostR.bind h).imp (fun d ρ1 H1 g1 m1 G1 h1 => ?_) fun _ _ _ _ _ _ _ q => q⟩
  show if d = true then _ else _
  cases d with
  | true => exact ⟨δ, ρ1, g1, G1, S.mono m1, h1⟩
  | false => exact ⟨δ, ρ1, g1, G1, S.mono m1, h1⟩
theorem de_neg (ha : PE X a (rdE Z W fa)) : PE X (.UnaryOp .USub a pos) (rdE Z W (Ex.neg fa)) := by
  refine PE_imp (pe_un un_neg ha) fun σ H Q ⟨δ, ρ, g, G, S, h⟩ => ?_
  refine ⟨δ, ρ, g, G, S, (PostR.bind h).imp (fun d ρ1 H1 g1 m1 G1 h1 v rv => ?_) fun _ _ _ _ _ _ _ q => q⟩
  cases rv with
  | int i => exact ⟨i, rfl, h1.val G1 (.int _)⟩
  | _ => exact (show False from h1).elim
end
end DV
end
section
set_option Elab.async false
set_option linter.all false
set_option maxRecDepth 100000
namespace DV
open PySem PySem.Spec PyProof.Rows L2

/-- no name of the builtins is bound in the text -/
structure Blt (mg : Str → Option Value) : Prop where
  len : mg "len" = none
  int : mg "int" = none
  abs : mg "abs" = none
  all : mg "all" = none
  any : mg "any" = none
  tuple : mg "tuple" = none
  list : mg "list" = none
  max : mg "max" = none
  min : mg "min" = none
  range : mg "range" = none
  isinstance : mg "isinstance" = none
  zip : mg "zip" = none
  enumerate : mg "enumerate" = none
  sorted : mg "sorted" = none
  dict : mg "dict" = none
  sum : mg "sum" = none
  bool : mg "bool" = none
  str : mg "str" = none
  repr : mg "repr" = none
  set : mg "set" = none

section
variable {Z : Tab} {X : Cx} {W : WX} {N : List Str} {sc : Scope} {m : Nat} {a b c e : Expr} {es : List Expr} {fa fb fc : Ex} {fs : Exs} {pos p p2 : Pos}

theorem Gl_of (hX : XOk Z X N sc W m) {x : Str} (h : sc.names.lookup x = some .globalImplicit) : Gl X x := by
  show X.env.scope.names.lookup x = _
  rw [hX.sc]; exact h

/-! ### a[i] -/
theorem ixN_eq (n : Nat) (i : Int) : DV.ixN n i = L2.ixN n i := rfl
theorem RelDs.atI {ρ : List Addr} {H : Hp} {xs : List V} {ds : List D} {i : Int} {d : D} (r : RelDs Z ρ H xs ds) (h : DV.atI ds i = some d) : ∃ v, L2.atI xs i = some v ∧ RelD Z ρ H v d := by
  unfold DV.atI at h
  obtain ⟨j, h1, h2⟩ := Option.bind_eq_some_iff.mp h
  obtain ⟨v, h3, h4⟩ := r.get h2
  refine ⟨v, ?_, h4⟩
  unfold L2.atI
  rw [r.length]
  exact Option.bind_eq_some_iff.mpr ⟨j, h1, h3⟩
theorem atI_ints {ns : List Int} {i : Int} {k : Int} (h : DV.atI ns i = some k) : L2.atI (ns.map V.int) i = some (.int k) := by
  unfold DV.atI at h
  obtain ⟨j, h1, h2⟩ := Option.bind_eq_some_iff.mp h
  unfold L2.atI
  rw [List.length_map]
  exact Option.bind_eq_some_iff.mpr ⟨j, h1, by rw [List.getElem?_map, h2]; rfl⟩
theorem oD_some {ρ : List Addr} {H : Hp} {o : Option D} {g : G} {k : D → List Addr → Hp → G → Prop} {e : Nat → D → List Addr → Hp → G → Prop} (p : PostR Z ρ H (oD o g) k e) : ∃ d, o = some d ∧ PostR Z ρ H (.ok d g) k e := by
  cases o with
  | none => exact (show False from p).elim
  | some d => exact ⟨d, rfl, p⟩
theorem de_idx (hK : X.K = Z.K) (ha : PE X a (rdE Z W fa)) (hb : PE X b (rdE Z W fb)) (hs : PlainIx b := by exact fun _ _ => rfl) : PE X (.Subscript a b pos) (rdE Z W (Ex.idx fa fb)) := by
  refine PE_imp (pe_ix ix_seq ha hb hs) fun σ H Q ⟨δ, ρ, g, G, S, h⟩ => ?_
  refine ⟨δ, ρ, g, G, S, (PostR.bind h).imp (fun d ρ1 H1 g1 m1 G1 h1 v rv => ?_) fun _ _ _ _ _ _ _ q => q⟩
  refine ⟨δ, ρ1, g1, G1, S.mono m1, (PostR.bind h1).imp (fun d2 ρ2 H2 g2 m2 G2 h2 v2 rv2 => ?_) fun _ _ _ _ _ _ _ q => q⟩
  have rv' := rv.mono m2
  rw [hK]
  cases rv' with
  | tup hq rs => cases rv2 with
    | int i =>
      obtain ⟨x, e1, q⟩ := oD_some h2
      obtain ⟨w, e2, r⟩ := rs.atI e1
      exact .inr (.inl ⟨_, _, i, w, rfl, rfl, hq, e2, q.val G2 r⟩)
    | _ => exact (show False from h2).elim
  | rol hq => cases rv2 with
    | int i =>
      obtain ⟨x, e1, q⟩ := oD_some h2
      obtain ⟨k, e2, rfl⟩ := Option.map_eq_some_iff.mp e1
      exact .inl ⟨_, _, i, _, rfl, rfl, hq.sqL, atI_ints e2, q.val G2 (.int k)⟩
    | _ => exact (show False from h2).elim
  | ref hn =>
    rename_i a' n
    cases e0 : g2[n]? with
    | none => simp only [DV.idx, e0] at h2; exact h2.elim
    | some o => cases o with
      | lst xs =>
        cases rv2 with
        | int i =>
          simp only [DV.idx, e0] at h2
          obtain ⟨x, e1, q⟩ := oD_some h2
          obtain ⟨vs, a1, a2⟩ := G2.lst hn e0
          obtain ⟨w, e2, r⟩ := a2.atI e1
          exact .inl ⟨_, _, i, w, rfl, rfl, SqL.of a1, e2, q.val G2 r⟩
        | _ => simp only [DV.idx, e0] at h2; exact (show False from h2).elim
      | dic kvs => cases rv2 <;> (simp only [DV.idx, e0] at h2; exact (show False from h2).elim)
      | ins c fs => cases rv2 <;> (simp only [DV.idx, e0] at h2; exact (show False from h2).elim)
  | _ => cases rv2 <;> exact (show False from h2).elim

/-! ### a[lo:hi] -/
theorem cut_eq (xs : List V) (lo hi : Option Int) : cutV xs lo hi = DV.cut xs lo hi := rfl
theorem RelDs.cut {ρ : List Addr} {H : Hp} {xs : List V} {ds : List D} (r : RelDs Z ρ H xs ds) (lo hi : Option Int) : RelDs Z ρ H (cutV xs lo hi) (DV.cut ds lo hi) := by
  rw [cut_eq]
  unfold DV.cut
  rw [r.length]
  exact (r.drop _).take _
theorem cut_whole {xs : List V} {lo hi : Option Int} (h1 : HT.sIx xs.length 0 lo = 0) (h2 : HT.sIx xs.length xs.length hi = xs.length) : cutV xs lo hi = xs := by
  unfold cutV
  rw [h1, h2]
  simp
abbrev rdO (Z : Tab) (W : WX) (f : Po) : TO := fun σ H Q => ∃ δ ρ g, RelG Z ρ H g ∧ RelS Z ρ H σ δ ∧ PostR Z ρ H (f δ g) (fun o _ H' _ => Q o H') (eX Z W σ)
theorem do_no : PO X none (rdO Z W Po.no) := ⟨fun pins s σ H Q I ⟨δ, ρ, g, G, S, h⟩ => (po_none (X := X)).run pins s σ H Q I (PostR.ok (a := Option.none) h G)⟩
theorem do_at (he : PE X e (rdE Z W fa)) : PO X (some e) (rdO Z W (Po.at fa)) := ⟨fun pins s σ H Q I ⟨δ, ρ, g, G, S, h⟩ => (po_some he).run pins s σ H Q I ⟨δ, ρ, g, G, S, (PostR.bind h).imp (fun d ρ1 H1 g1 m1 G1 h1 v rv => by
    cases rv with
    | int i => exact ⟨i, rfl, PostR.ok (a := some i) h1 G1⟩
    | _ => exact (show False from h1).elim) fun _ _ _ _ _ _ _ q => q⟩⟩
theorem de_slc {lo hi : Option Expr} {fl fh : Po} {pp : Pos} (hK : X.K = Z.K) (ha : PE X a (rdE Z W fa)) (hl : PO X lo (rdO Z W fl)) (hh : PO X hi (rdO Z W fh)) : PE X (.Subscript a (.Slice lo hi none pp) pos) (rdE Z W (Ex.slc fa fl fh)) := by
  refine PE_imp (pe_slice (SlR.or sl_list sl_tupA) ha hl hh) fun σ H Q ⟨δ, ρ, g, G, S, h⟩ => ?_
  refine ⟨δ, ρ, g, G, S, (PostR.bind h).imp (fun d ρ1 H1 g1 m1 G1 h1 v rv => ?_) fun _ _ _ _ _ _ _ q => q⟩
  refine ⟨δ, ρ1, g1, G1, S.mono m1, (PostR.bind h1).imp (fun l ρ2 H2 g2 m2 G2 h2 => ?_) fun _ _ _ _ _ _ _ q => q⟩
  refine ⟨δ, ρ2, g2, G2, (S.mono m1).mono m2, (PostR.bind h2).imp (fun u ρ3 H3 g3 m3 G3 h3 => ?_) fun _ _ _ _ _ _ _ q => q⟩
  have rv' := (rv.mono m2).mono m3
  rw [hK]
  cases rv' with
  | tup hq rs =>
    rename_i aa xs ds
    have h4 : PostR Z ρ3 H3 (.ok (.tup (DV.cut ds l u)) g3) (kV Z Q) (eX Z W σ) := h3
    refine .inr ⟨_, _, rfl, hq, fun hw => ?_, fun _ q hq' => ?_⟩
    · refine PostR.val h4 G3 (.tup (xs := xs) hq ?_)
      have r2 := rs.cut l u
      rw [cut_whole hw.1 hw.2] at r2
      exact r2
    · exact h4 ρ3 _ (Mv.new hq') (G3.same (same_new hq')) _ (.tup (SqT.of upd_same) ((rs.cut l u).mono (Mv.new hq')))
  | ref hn =>
    rename_i a' n
    cases e0 : g3[n]? with
    | none => simp only [slc, e0] at h3; exact h3.elim
    | some o => cases o with
      | lst xs =>
        simp only [slc, e0] at h3
        obtain ⟨vs, a1, a2⟩ := G3.lst hn e0
        exact .inl ⟨_, _, rfl, SqL.of a1, fun q hq' => h3 (ρ3 ++ [q]) _ (Mv.push hq') (G3.push hq' ⟨_, upd_same, (a2.cut l u).mono (Mv.push hq')⟩) _ (.ref (RelG.get_push G3.len))⟩
      | _ => simp only [slc, e0] at h3; exact (show False from h3).elim
  | _ => exact (show False from h3).elim

/-! ### isinstance -/
def tyName : Ty → String
  | .int => "int" | .bool => "bool" | .str => "str" | .tuple => "tuple" | .list => "list"
theorem kit_non (t : Ty) : kitB "NoneType" (tyName t) = some false := by cases t <;> decide +kernel
theorem kit_bool (t : Ty) : kitB "bool" (tyName t) = some (t.is .int || t.is .bool) := by cases t <;> decide +kernel
theorem kit_int (t : Ty) : kitB "int" (tyName t) = some (t.is .int) := by cases t <;> decide +kernel
theorem kit_str (t : Ty) : kitB "str" (tyName t) = some (t.is .str) := by cases t <;> decide +kernel
theorem kit_tuple (t : Ty) : kitB "tuple" (tyName t) = some (t.is .tuple) := by cases t <;> decide +kernel
theorem kit_list (t : Ty) : kitB "list" (tyName t) = some (t.is .list) := by cases t <;> decide +kernel
theorem tyx_of {ρ : List Addr} {H : Hp} {g : G} (G : RelG Z ρ H g) {v : V} {d : D} (r : RelD Z ρ H v d) : ∀ t b, isTy g t d = some b → ∃ T, TyX Z.K H v (.type T) ∧ ∀ t b, isTy g t d = some b → kitB T (tyName t) = some b := by
  intro t b h
  cases r with
  | non => exact ⟨_, .base .non, fun t b h => by rw [kit_non]; exact h⟩
  | bl k => exact ⟨_, .base (.bl k), fun t b h => by rw [kit_bool]; exact h⟩
  | int i => exact ⟨_, .base (.int i), fun t b h => by rw [kit_int]; exact h⟩
  | str s => exact ⟨_, .base (.str s), fun t b h => by rw [kit_str]; exact h⟩
  | tup hq rs =>
    refine ⟨"tuple", ?_, fun t b h => by rw [kit_tuple]; exact h⟩
    rcases hq with (hq | ⟨o, hq⟩) | ⟨o, its, n, h1, h2, _⟩
    · exact .base (.tup hq)
    · exact .fTuple hq
    · exact .kTuple h1 h2
  | rol hq =>
    refine ⟨"list", ?_, fun t b h => by rw [kit_list]; exact h⟩
    rcases hq with ⟨o, hq⟩ | ⟨o, its, n, h1, h2, _⟩
    · exact .base (.frz hq)
    · exact .kList h1 h2
  | ref hn =>
    rename_i a' n
    cases e0 : g[n]? with
    | none => simp only [isTy, e0] at h; cases h
    | some o => cases o with
      | lst xs =>
        obtain ⟨vs, a1, a2⟩ := G.lst hn e0
        exact ⟨"list", .base (.lst a1), fun t b h => by rw [kit_list]; simpa only [isTy, e0] using h⟩
      | _ => simp only [isTy, e0] at h; cases h
  | fn n => cases h
theorem de_isi (hX : XOk Z X N sc W m) (B : Blt X.mg) (t : Ty) {T : Str} (ha : PE X a (rdE Z W fa)) (hg : sc.names.lookup ("isinstance" : Str) = some .globalImplicit := by rfl) (hg2 : sc.names.lookup T = some .globalImplicit := by rfl) (hm2 : X.mg T = none) (hv : bootBuiltins T = some (.type (tyName t)) := by decide +kernel)
    (hn : T ≠ "__name__" := by decide) (hdb : (T == ("__debug__" : Str)) = false := by decide) (he : starEach (a :: [.Name T p2]) X.env = (false, eval a X.env) :: starEach [.Name T p2] X.env := by rfl) :
    PE X (.Call (.Name "isinstance" p) [a, .Name T p2] [] pos) (rdE Z W (Ex.isi fa t)) := by
  refine PE_imp (pe_callB call_isi (Gl_of hX hg) B.isinstance (by decide +kernel) (pa_cons ha (pa_cons (pe_bltn (v := .ty (tyName t)) (Gl_of hX hg2) hm2 hv rfl hn hdb) pa_nil) he) (by decide) (by decide) he) fun σ H Q ⟨δ, ρ, g, G, S, h⟩ => ?_
  refine ⟨δ, ρ, g, G, S, (PostR.bind h).imp (fun d ρ1 H1 g1 m1 G1 h1 v rv => ?_) fun _ _ _ _ _ _ _ q => q⟩
  obtain ⟨b, e1, q⟩ := liftO_some h1
  obtain ⟨T', ty, k⟩ := tyx_of G1 rv t b e1
  exact ⟨v, .ty (tyName t), .type T', .type (tyName t), b, rfl, .ty _, by rw [hX.hK]; exact ty, kit_ty (k t b e1), q.val G1 (.bl b)⟩
theorem de_isi2 (hX : XOk Z X N sc W m) (B : Blt X.mg) (t t' : Ty) {T T' : Str} {p3 p4 : Pos} {x1 : Nat} (ha : PE X a (rdE Z W fa)) (hg : sc.names.lookup ("isinstance" : Str) = some .globalImplicit := by rfl) (hg2 : sc.names.lookup T = some .globalImplicit := by rfl) (hm2 : X.mg T = none) (hg3 : sc.names.lookup T' = some .globalImplicit := by rfl) (hm3 : X.mg T' = none)
    (hv : bootBuiltins T = some (.type (tyName t)) := by decide +kernel) (hv' : bootBuiltins T' = some (.type (tyName t')) := by decide +kernel)
    (hn : T ≠ "__name__" := by decide) (hdb : (T == ("__debug__" : Str)) = false := by decide) (hn' : T' ≠ "__name__" := by decide) (hdb' : (T' == ("__debug__" : Str)) = false := by decide) (he : starEach (a :: [.Tuple [.Name T p2, .Name T' p3] x1 p4]) X.env = (false, eval a X.env) :: starEach [.Tuple [.Name T p2, .Name T' p3] x1 p4] X.env := by rfl) :
    PE X (.Call (.Name "isinstance" p) [a, .Tuple [.Name T p2, .Name T' p3] x1 p4] [] pos) (rdE Z W (Ex.isi2 fa t t')) := by
  refine PE_imp (pe_callB call_isiT (Gl_of hX hg) B.isinstance (by decide +kernel) (pa_cons ha (pa_cons (pe_tup (pa_cons (pe_bltn (v := .ty (tyName t)) (Gl_of hX hg2) hm2 hv rfl hn hdb) (pa_cons (pe_bltn (v := .ty (tyName t')) (Gl_of hX hg3) hm3 hv' rfl hn' hdb') pa_nil))) pa_nil) he) (by decide) (by decide) he) fun σ H Q ⟨δ, ρ, g, G, S, h⟩ => ?_
  refine ⟨δ, ρ, g, G, S, (PostR.bind h).imp (fun d ρ1 H1 g1 m1 G1 h1 v rv => ?_) fun _ _ _ _ _ _ _ q => q⟩
  refine ⟨by show 2 ≤ sizeLine; rw [sizeLine_eq]; decide, fun q hq => ?_⟩
  obtain ⟨b, e1, h2⟩ := liftO_some h1
  obtain ⟨b1, e2, e3⟩ := Option.bind_eq_some_iff.mp e1
  obtain ⟨b2, e4, e5⟩ := Option.map_eq_some_iff.mp e3
  have G2 := G1.same (same_new (o := .tup [V.ty (tyName t), V.ty (tyName t')]) hq)
  have m2 : Mv ρ1 H1 ρ1 (upd H1 q (.tup [V.ty (tyName t), V.ty (tyName t')])) := Mv.new hq
  obtain ⟨T', ty, k⟩ := tyx_of G2 (rv.mono m2) t b1 e2
  have z1 := k t b1 e2
  have z2 := k t' b2 e4
  subst e5
  refine ⟨v, q, [.ty (tyName t), .ty (tyName t')], .type T', [.type (tyName t), .type (tyName t')], b1 || b2, rfl, upd_same, .cons (.ty _) (.cons (.ty _) .nil), by rw [hX.hK]; exact ty, ?_, PostR.val (PostR.mv m2 h2) G2 (.bl _)⟩
  refine kitAny_cons (kit_ty z1) (fun hb => ?_) (fun hb => by rw [hb]; rfl)
  rw [hb]
  exact kitAny_cons (kit_ty z2) (fun hb2 => by rw [hb2]; exact kitAny_nil) (fun hb2 => by rw [hb2]; rfl)
end
end DV
end
section
set_option Elab.async false
set_option linter.all false
set_option maxRecDepth 100000
namespace DV
open PySem PySem.Spec PyProof.Rows L2
section
variable {Z : Tab} {X : Cx} {W : WX} {N : List Str} {sc : Scope} {m : Nat} {a b c e : Expr} {es : List Expr} {fa fb fc fe : Ex} {fs : Exs} {pos p p2 : Pos} {st : Stmt} {sts sts2 : List Stmt} {tc : Te} {s1 s2 : Sm}

/-! ### the readings of statements move on -/
theorem PostS.mv {D : Ends} {ρ ρ' : List Addr} {H H' : Hp} {r : RS} (m : Mv ρ H ρ' H') (h : PostS Z W D ρ H r) : PostS Z W D ρ' H' r := by
  cases r with
  | ok f g => cases f <;> exact fun ρ2 H2 x m2 => h ρ2 H2 x (m.trans m2)
  | exc c x δ g => exact fun ρ2 H2 σ cls dd m2 => h ρ2 H2 σ cls dd (m.trans m2)
  | stuck => exact h
theorem PostS.thenS {α : Type} {D : Ends} {ρ : List Addr} {H : Hp} {σ : L2.St} {δ : Env} {r : R α} {f : α → G → RS} (S : RelS Z ρ H σ δ) (h : PostS Z W D ρ H (r.thenS δ f)) : PostR Z ρ H r (fun a ρ1 H1 g1 => PostS Z W D ρ1 H1 (f a g1)) (eX Z W σ) := by
  cases r with
  | ok a g => exact fun ρ1 H1 m _ => PostS.mv m (show PostS Z W D ρ H (f a g) from h)
  | exc c x g => exact fun ρ1 H1 m G cls dd rx => (show PostS Z W D ρ H (.exc c x δ g) from h) ρ1 H1 σ cls dd m G (S.mono m) rx
  | stuck => exact h
theorem PostS.nx {D : Ends} {ρ : List Addr} {H : Hp} {σ : L2.St} {δ : Env} {g : G} (h : PostS Z W D ρ H (.ok (.nx δ) g)) (G : RelG Z ρ H g) (S : RelS Z ρ H σ δ) : D.nx σ H := h ρ H σ (.refl ρ H) G S
theorem PostR.hushE {α : Type} {ρ : List Addr} {H : Hp} {r : R α} {k : α → List Addr → Hp → G → Prop} {e e' : Nat → D → List Addr → Hp → G → Prop} (h : PostR Z ρ H (R.hush r) k e) : PostR Z ρ H r k e' := by
  cases r with
  | ok a g => exact h
  | exc c x g => exact (show False from h).elim
  | stuck => exact h
abbrev eF : Nat → D → List Addr → Hp → G → Prop := fun _ _ _ _ _ => False
theorem PostR.eF_to {α : Type} {ρ : List Addr} {H : Hp} {r : R α} {k : α → List Addr → Hp → G → Prop} {e : Nat → D → List Addr → Hp → G → Prop} (h : PostR Z ρ H r k eF) : PostR Z ρ H r k e := h.imp (fun _ _ _ _ _ _ q => q) fun _ _ _ _ _ _ _ q => q.elim

/-! ### statements -/
theorem ds_nil : PSs X [] (rdS Z W Sm.skip) := PSs_imp pss_nil fun D σ H ⟨δ, ρ, g, G, S, h⟩ => PostS.nx (Z := Z) (W := W) h G S
theorem ds_cons (h1 : PS X st (rdS Z W s1)) (h2 : PSs X sts (rdS Z W s2)) : PSs X (st :: sts) (rdS Z W (Sm.seq s1 s2)) := by
  refine PSs_imp (pss_cons h1 h2) fun D σ H ⟨δ, ρ, g, G, S, h⟩ => ⟨δ, ρ, g, G, S, ?_⟩
  unfold Sm.seq at h
  cases q : s1 δ g with
  | ok f g' =>
    rw [q] at h
    cases f with
    | nx δ' => exact fun ρ1 H1 σ1 m1 G1 S1 => ⟨δ', ρ1, g', G1, S1, PostS.mv m1 h⟩
    | _ => exact h
  | exc c x δ' g' => rw [q] at h; exact h
  | stuck => rw [q] at h; exact h
theorem ds_one (h1 : PS X st (rdS Z W s1)) : PSs X [st] (rdS Z W s1) := pss_one h1
theorem ds_pass : PS X (.Pass pos) (rdS Z W Sm.skip) := PS_imp ps_pass fun D σ H ⟨δ, ρ, g, G, S, h⟩ => PostS.nx (Z := Z) (W := W) h G S
theorem ds_doc {x j pos'} : PS X (.Expr (.Constant (.str x) j pos) pos') (rdS Z W Sm.skip) := PS_imp ps_doc fun D σ H ⟨δ, ρ, g, G, S, h⟩ => PostS.nx (Z := Z) (W := W) h G S
theorem ds_brk : PS X (.Break pos) (rdS Z W Sm.brk) := PS_imp ps_break fun D σ H ⟨δ, ρ, g, G, S, h⟩ => (show PostS Z W D ρ H (.ok (.bk δ) g) from h) ρ H σ (.refl ρ H) G S
theorem ds_cnt : PS X (.Continue pos) (rdS Z W Sm.cnt) := PS_imp ps_continue fun D σ H ⟨δ, ρ, g, G, S, h⟩ => (show PostS Z W D ρ H (.ok (.ct δ) g) from h) ρ H σ (.refl ρ H) G S
theorem ds_ex (he : PE X e (rdE Z W fe)) (hs : swapsWith e none pos.line X.env = pure false := by rfl) : PS X (.Expr e pos) (rdS Z W (Sm.ex fe)) := by
  refine PS_imp (ps_expr he hs) fun D σ H ⟨δ, ρ, g, G, S, h⟩ => ⟨δ, ρ, g, G, S, (PostS.thenS S h).imp (fun d ρ1 H1 g1 m1 G1 h1 v rv => ?_) fun _ _ _ _ _ _ _ q => q⟩
  exact PostS.nx h1 G1 (S.mono m1)
theorem ds_ret (he : PE X e (rdE Z W fe)) : PS X (.Return (some e) pos) (rdS Z W (Sm.ret fe)) := by
  refine PS_imp (ps_ret he) fun D σ H ⟨δ, ρ, g, G, S, h⟩ => ⟨δ, ρ, g, G, S, (PostS.thenS S h).imp (fun d ρ1 H1 g1 m1 G1 h1 v rv => ?_) fun _ _ _ _ _ _ _ q => q⟩
  exact (show PostS Z W D ρ1 H1 (.ok (.rt d) g1) from h1) ρ1 H1 v (.refl ρ1 H1) G1 rv
theorem ds_retN : PS X (.Return none pos) (rdS Z W (Sm.ret (Ex.cst .non))) := by
  refine PS_imp ps_retN fun D σ H ⟨δ, ρ, g, G, S, h⟩ => ?_
  exact (show PostS Z W D ρ H (.ok (.rt .non) g) from h) ρ H .non (.refl ρ H) G .non
theorem ds_if (hc : PT X c (rdT Z W tc)) (ha : PSs X sts (rdS Z W s1)) (hb : PSs X sts2 (rdS Z W s2)) : PS X (.If c sts sts2 pos) (rdS Z W (Sm.ite tc s1 s2)) := by
  refine PS_imp (ps_if hc ha hb) fun D σ H ⟨δ, ρ, g, G, S, h⟩ => ⟨δ, ρ, g, G, S, (PostS.thenS S h).imp (fun d ρ1 H1 g1 m1 G1 h1 => ?_) fun _ _ _ _ _ _ _ q => q⟩
  show if d = true then _ else _
  cases d with
  | true => exact ⟨δ, ρ1, g1, G1, S.mono m1, h1⟩
  | false => exact ⟨δ, ρ1, g1, G1, S.mono m1, h1⟩

/-! ### targets -/
/-- only these slots are written -/
def OnlyAt (ws : List Nat) (σ σ' : L2.St) : Prop := ∀ vs : List Nat, (∀ i ∈ ws, i ∈ vs) → L2.wipe σ' vs = L2.wipe σ vs
def rdG (Z : Tab) (ws : List Nat) (t : Tg) : TG := fun v σ H Q => ∃ d δ ρ g, RelG Z ρ H g ∧ RelS Z ρ H σ δ ∧ RelD Z ρ H v d ∧ PostR Z ρ H (t d δ g) (fun δ' ρ' H' _ => ∀ σ', RelS Z ρ' H' σ' δ' → OnlyAt ws σ σ' → Q σ' H') eF
def rdGs (Z : Tab) (ws : List Nat) (t : Tgs) : TGs := fun vs σ H Q => ∃ ds δ ρ g, RelG Z ρ H g ∧ RelS Z ρ H σ δ ∧ RelDs Z ρ H vs ds ∧ PostR Z ρ H (t ds δ g) (fun δ' ρ' H' _ => ∀ σ', RelS Z ρ' H' σ' δ' → OnlyAt ws σ σ' → Q σ' H') eF
theorem wipe_get (σ : L2.St) (j : Nat) : ∀ vs : List Nat, (L2.wipe σ vs)[j]? = if j ∈ vs then σ[j]?.map (fun _ => none) else σ[j]?
  | [] => by simp [L2.wipe]
  | v :: vs => by
    have ih := wipe_get σ j vs
    unfold L2.wipe
    by_cases h : v = j
    · subst h
      rw [if_pos List.mem_cons_self]
      by_cases hl : v < σ.length
      · rw [List.getElem?_set_self (by rw [L2.wipe_length]; exact hl), List.getElem?_eq_getElem hl]; rfl
      · rw [List.getElem?_eq_none (by rw [List.length_set, L2.wipe_length]; omega), List.getElem?_eq_none (by omega)]; rfl
    · rw [List.getElem?_set_ne h, ih]
      by_cases k : j ∈ vs
      · rw [if_pos k, if_pos (List.mem_cons_of_mem _ k)]
      · rw [if_neg k, if_neg (fun z => by rcases List.mem_cons.mp z with z | z; exact h z.symm; exact k z)]
theorem OnlyAt.refl {ws : List Nat} {σ : L2.St} : OnlyAt ws σ σ := fun _ _ => rfl
theorem OnlyAt.set {σ : L2.St} (i : Nat) (v : Option V) : OnlyAt [i] σ (σ.set i v) := by
  intro vs h
  have hi := h i List.mem_cons_self
  refine List.ext_getElem? fun j => ?_
  rw [wipe_get, wipe_get]
  by_cases k : j ∈ vs
  · rw [if_pos k, if_pos k]
    by_cases e : i = j
    · subst e
      by_cases hl : i < σ.length
      · rw [List.getElem?_set_self hl, List.getElem?_eq_getElem hl]; rfl
      · rw [List.getElem?_eq_none (by simpa using hl), List.getElem?_eq_none (by simpa using hl)]
    · rw [List.getElem?_set_ne e]
  · rw [if_neg k, if_neg k, List.getElem?_set_ne (fun e => k (by rw [← e]; exact hi))]
theorem OnlyAt.comp {ws us : List Nat} {σ σ1 σ2 : L2.St} (a : OnlyAt ws σ σ1) (b : OnlyAt us σ1 σ2) : OnlyAt (ws ++ us) σ σ2 := fun vs h => (b vs fun i hi => h i (List.mem_append_right _ hi)).trans (a vs fun i hi => h i (List.mem_append_left _ hi))
theorem PG_imp {X : Cx} {e : Expr} {t t' : TG} (h : PG X e t) (f : ∀ v σ H Q, t' v σ H Q → t v σ H Q) : PG X e t' := ⟨fun pins s σ H v u Q I r q => h.run pins s σ H v u Q I r (f v σ H Q q)⟩
theorem PGs_imp {X : Cx} {e : List Expr} {t t' : TGs} (h : PGs X e t) (f : ∀ v σ H Q, t' v σ H Q → t v σ H Q) : PGs X e t' := ⟨fun pins s σ H v u Q I r q => h.run pins s σ H v u Q I r (f v σ H Q q)⟩
variable {t : Tg} {u : Tgs} {ws us : List Nat} {eu : List Expr} {i : Nat} {x : Str}
theorem dg_name (hX : XOk Z X N sc W m) (i : Nat) {x : Str} (hi : N[i]? = some x := by rfl) (hx : Loc sc x := by first | exact Or.inl rfl | exact Or.inr rfl) (hf : X.fn x = true ∨ sc.names.lookup x = some .local := by first | exact Or.inr rfl | exact Or.inl rfl) : PG X (.Name x pos) (rdG Z [i] (Tg.name i)) := by
  refine PG_imp (pg_name (i := i) (by rw [hX.hN]; exact hX.nd) (by rw [hX.hN]; exact hi) (by rw [hX.sc]; exact hx) (by rw [hX.sc]; exact hf)) fun v σ H Q ⟨d, δ, ρ, g, G, S, r, h⟩ => ?_
  exact (PostR.ok (a := δ.set i (some d)) h G) _ (S.set i r) (.set i _)
theorem dgs_nil : PGs X [] (rdGs Z [] tgNil) := PGs_imp pgs_nil fun vs σ H Q ⟨ds, δ, ρ, g, G, S, r, h⟩ => by
  cases r with
  | nil => exact ⟨rfl, (PostR.ok (a := δ) h G) σ S .refl⟩
  | cons => exact (show False from h).elim
theorem dgs_cons {e : Expr} {es : List Expr} (h1 : PG X e (rdG Z ws t)) (h2 : PGs X es (rdGs Z us u)) (hs : (assignEach (e :: es) X.env).map (·.2) = assign e X.env :: (assignEach es X.env).map (·.2) := by rfl) : PGs X (e :: es) (rdGs Z (ws ++ us) (tgCons t u)) := by
  refine PGs_imp (pgs_cons h1 h2 hs) fun vs σ H Q ⟨ds, δ, ρ, g, G, S, r, h⟩ => ?_
  cases r with
  | nil => exact (show False from h).elim
  | cons rv rr =>
    refine ⟨_, _, rfl, _, δ, ρ, g, G, S, rv, (PostR.bind h).imp (fun δ1 ρ1 H1 g1 m1 G1 h1 σ1 S1 l1 => ?_) fun _ _ _ _ _ _ _ q => q⟩
    exact ⟨_, δ1, ρ1, g1, G1, S1, rr.mono m1, h1.imp (fun δ2 ρ2 H2 g2 m2 G2 h2 σ2 S2 l2 => h2 σ2 S2 (l1.comp l2)) fun _ _ _ _ _ _ _ q => q⟩
theorem dg_tup {k n : Nat} (hX : XOk Z X N sc W m) (h : PGs X eu (rdGs Z ws u)) (hn : (assignEach eu X.env).length = n := by rfl) (hst : (assignEach eu X.env).findIdx? (·.1) = none := by rfl) : PG X (.Tuple eu k pos) (rdG Z ws (Tg.tup n u)) := by
  refine PG_imp (pg_tup hX.calm h hn hst) fun v σ H Q ⟨d, δ, ρ, g, G, S, r, h⟩ => ?_
  cases r with
  | tup hq rs =>
    simp only [Tg.tup] at h
    split at h
    · rename_i hl
      exact ⟨_, _, rfl, by rw [hX.hK]; exact hq, by rw [rs.length]; exact hl, _, δ, ρ, g, G, S, rs, h⟩
    · exact h.elim
  | _ => exact (show False from h).elim
/-- target = e -/
theorem ds_asg {tg : Expr} (he : PE X e (rdE Z W fe)) (hg : PG X tg (rdG Z ws t)) (hs : swapsWithSole [tg] e pos.line X.env = pure false := by rfl) (hw : swappedStores [tg] e X.env = pure none := by rfl)
    (h1 : (assignEach [tg] X.env).map (·.2) = [assign tg X.env] := by rfl) : PS X (.Assign [tg] e pos) (rdS Z W (Sm.asg t fe)) := by
  refine PS_imp (ps_asg he hg hs hw h1) fun D σ H ⟨δ, ρ, g, G, S, h⟩ => ⟨δ, ρ, g, G, S, (PostS.thenS S h).imp (fun d ρ1 H1 g1 m1 G1 h1 v rv => ?_) fun _ _ _ _ _ _ _ q => q⟩
  refine ⟨d, δ, ρ1, g1, G1, S.mono m1, rv, (PostR.hushE (PostS.thenS (S.mono m1) h1)).imp (fun δ2 ρ2 H2 g2 m2 G2 h2 σ2 S2 _ => PostS.nx h2 G2 S2) fun _ _ _ _ _ _ _ q => q⟩
theorem ds_set (hX : XOk Z X N sc W m) (i : Nat) {x : Str} {pos' : Pos} (he : PE X e (rdE Z W fe)) (hi : N[i]? = some x := by rfl) (hx : Loc sc x := by first | exact Or.inl rfl | exact Or.inr rfl) (hs : swapsWith e (some (.Name x pos')) pos.line X.env = pure false := by rfl) (hf : X.fn x = true ∨ sc.names.lookup x = some .local := by first | exact Or.inr rfl | exact Or.inl rfl) :
    PS X (.Assign [.Name x pos'] e pos) (rdS Z W (Sm.asg (Tg.name i) fe)) := by
  refine PS_imp (ps_set (i := i) (by rw [hX.hN]; exact hX.nd) (by rw [hX.hN]; exact hi) (by rw [hX.sc]; exact hx) he hs (by rw [hX.sc]; exact hf)) fun D σ H ⟨δ, ρ, g, G, S, h⟩ => ⟨δ, ρ, g, G, S, (PostS.thenS S h).imp (fun d ρ1 H1 g1 m1 G1 h1 v rv => ?_) fun _ _ _ _ _ _ _ q => q⟩
  exact PostS.nx (δ := δ.set i (some d)) h1 G1 ((S.mono m1).set i rv)
theorem ds_par {x y : Str} {px py pt : Pos} {kt k2 pt2} (hX : XOk Z X N sc W m) (i j : Nat) (ha : PE X a (rdE Z W fa)) (hb : PE X b (rdE Z W fb)) (hw : swappedStores [.Tuple [.Name x px, .Name y py] kt pt] (.Tuple [a, b] k2 pt2) X.env = pure (some [x, y])) (hi : N[i]? = some x := by rfl) (hj : N[j]? = some y := by rfl) (hij : i ≠ j := by decide)
    (hx : sc.names.lookup x = some .local := by rfl) (hy : sc.names.lookup y = some .local := by rfl) (hea : starEach [a, b] X.env = (false, eval a X.env) :: starEach [b] X.env := by rfl) (heb : starEach [b] X.env = (false, eval b X.env) :: starEach [] X.env := by rfl)
    (hs : swapsWithSole [.Tuple [.Name x px, .Name y py] kt pt] (.Tuple [a, b] k2 pt2) pos.line X.env = pure false := by rfl) :
    PS X (.Assign [.Tuple [.Name x px, .Name y py] kt pt] (.Tuple [a, b] k2 pt2) pos) (rdS Z W (Sm.par i j fa fb)) := by
  refine PS_imp (ps_par hX.calm (by rw [hX.hN]; exact hX.nd) (by rw [hX.hN]; exact hi) (by rw [hX.hN]; exact hj) hij (by rw [hX.sc]; exact hx) (by rw [hX.sc]; exact hy) (pa_cons ha (pa_cons hb pa_nil heb) hea) hw hs) fun D σ H ⟨δ, ρ, g, G, S, h⟩ => ?_
  refine ⟨δ, ρ, g, G, S, (PostS.thenS S h).imp (fun d ρ1 H1 g1 m1 G1 h1 v rv => ?_) fun _ _ _ _ _ _ _ q => q⟩
  refine ⟨δ, ρ1, g1, G1, S.mono m1, (PostS.thenS (S.mono m1) h1).imp (fun d2 ρ2 H2 g2 m2 G2 h2 v2 rv2 => ?_) fun _ _ _ _ _ _ _ q => q⟩
  exact ⟨v, v2, rfl, PostS.nx (δ := (δ.set i (some d)).set j (some d2)) h2 G2 ((((S.mono m1).mono m2).set i (rv.mono m2)).set j rv2)⟩

/-! ### what a loop walks -/
def ItR (Z : Tab) (ρ0 : List Addr) (H0 : Hp) (J : L2.It) (t : DV.It) : Prop := ∀ (ρ : List Addr) (H : Hp) (g : G) (i : Nat), Mv ρ0 H0 ρ H → RelG Z ρ H g → match t.at i g with
  | none => True
  | some none => J.stop i H
  | some (some d) => J.go i H ∧ ∀ x H', J.yld i H x H' → ∃ ρ', Mv ρ H ρ' H' ∧ RelG Z ρ' H' g ∧ RelD Z ρ' H' x d
theorem ItR.mv {ρ ρ' : List Addr} {H H' : Hp} {J : L2.It} {t : DV.It} (m : Mv ρ H ρ' H') (h : ItR Z ρ H J t) : ItR Z ρ' H' J t := fun ρ2 H2 g i m2 G => h ρ2 H2 g i (m.trans m2) G
def rdI (Z : Tab) (W : WX) (f : Ie) : TI := fun σ H R => ∃ δ ρ g, RelG Z ρ H g ∧ RelS Z ρ H σ δ ∧ PostR Z ρ H (f δ g) (fun t ρ' H' _ => ∀ J, ItR Z ρ' H' J t → R J H') (eX Z W σ)
theorem PI_imp {X : Cx} {tg e : Expr} {t t' : TI} (h : PI X tg e t) (f : ∀ σ H Q, t' σ H Q → t σ H Q) : PI X tg e t' := ⟨fun pins s σ H R I q => h.run pins s σ H R I (f σ H R q)⟩
/-- a list or a tuple -/
def iSeq (K : PySem.W.Frag) (tl : TE) : TI := fun σ H R => tl σ H fun x H1 => ∃ a, x = .ref a ∧ (((∃ xs, SqL K H1 a xs) ∧ R (Itl K a) H1) ∨ ((∃ xs, SqT K H1 a xs) ∧ R (Itt K a) H1))
theorem pi_seq {tg l : Expr} {tl : TE} (hl : PE X l tl) : PI X tg l (iSeq X.K tl) := by
  refine ⟨fun pins s σ H R I h => ?_⟩
  refine thn (hl.run pins s σ H _ I h) fun v s1 ⟨x, H1, I1, r1, q1⟩ => ?_
  obtain ⟨a, e, (⟨⟨xs, hq⟩, q⟩ | ⟨⟨xs, hq⟩, q⟩)⟩ := q1
  · subst e
    cases r1
    obtain ⟨its, rv, p, hz⟩ := I1.list hq
    refine wpAny_pyIter_list p.isList ?_
    refine ⟨s1.heap.objs.size, [s1.heap.objs.size], _, _, H1, rfl, I1.kept (t' := s1.toks) fun b o e => Heap.get?_push_of_some _ e, turn_list a _, ⟨_, Heap.get?_push_size _ rfl, rfl, rfl⟩, fun b hb => ?_, q⟩
    have e : b = s1.heap.objs.size := by simpa using hb
    subst e
    exact I1.fpOk (Nat.le_refl _) (I1.hok.fresh (Nat.le_refl _))
  · subst e
    cases r1
    obtain ⟨its, rv, p, hz⟩ := I1.tuple hq
    refine wpAny_pyIter_tuple (show s1.heap.IsTuple a its.toArray from p) ?_
    refine ⟨s1.heap.objs.size, [s1.heap.objs.size], _, _, H1, rfl, I1.kept (t' := s1.toks) fun b o e => Heap.get?_push_of_some _ e, turn_tuple a _, ⟨_, Heap.get?_push_size _ rfl, rfl, rfl⟩, fun b hb => ?_, q⟩
    have e : b = s1.heap.objs.size := by simpa using hb
    subst e
    exact I1.fpOk (Nat.le_refl _) (I1.hok.fresh (Nat.le_refl _))
theorem itR_tup {ρ : List Addr} {H : Hp} {a : Addr} {xs : List V} {ds : List D} (hq : SqT Z.K H a xs) (rs : RelDs Z ρ H xs ds) : ItR Z ρ H (Itt Z.K a) (.seq ds) := by
  intro ρ1 H1 g i m G
  have hq' := m.ext.sqT hq
  have rs' := rs.mono m
  show match some ds[i]? with
    | none => True
    | some none => _
    | some (some d) => _
  cases e : ds[i]? with
  | none => exact ⟨xs, hq', by rw [rs.length]; exact List.getElem?_eq_none_iff.mp e⟩
  | some d =>
    obtain ⟨x, h1, h2⟩ := rs'.get e
    refine ⟨⟨xs, x, hq', h1⟩, fun y H' ⟨e1, e2⟩ => ?_⟩
    subst e1
    have := e2 xs hq'
    rw [h1] at this
    cases this
    exact ⟨ρ1, .refl _ _, G, h2⟩
theorem itR_rol {ρ : List Addr} {H : Hp} {a : Addr} {ns : List Int} (hq : Rol Z.K H a ns) : ItR Z ρ H (Itl Z.K a) (.seq (ns.map .int)) := by
  intro ρ1 H1 g i m G
  have hq' := (m.ext.rol hq).sqL
  show match some (ns.map D.int)[i]? with
    | none => True
    | some none => _
    | some (some d) => _
  rw [List.getElem?_map]
  cases e : ns[i]? with
  | none => exact ⟨_, hq', by simpa using List.getElem?_eq_none_iff.mp e⟩
  | some n =>
    refine ⟨⟨_, .int n, hq', by rw [List.getElem?_map, e]; rfl⟩, fun y H' ⟨e1, e2⟩ => ?_⟩
    subst e1
    have := e2 _ hq'
    rw [List.getElem?_map, e] at this
    cases this
    exact ⟨ρ1, .refl _ _, G, .int n⟩
theorem itR_lst {ρ : List Addr} {H : Hp} {a : Addr} {n : Nat} (hn : ρ[n]? = some a) : ItR Z ρ H (Itl Z.K a) (.lst n) := by
  intro ρ1 H1 g i m G
  have hn' := m.get hn
  show match (match g[n]? with
    | some (.lst xs) => some xs[i]?
    | _ => none) with
    | none => True
    | some none => _
    | some (some d) => _
  cases e0 : g[n]? with
  | none => trivial
  | some o => cases o with
    | lst xs =>
      obtain ⟨vs, a1, a2⟩ := G.lst hn' e0
      cases e : xs[i]? with
      | none =>
        simp only [e]
        exact ⟨vs, SqL.of a1, by rw [a2.length]; exact List.getElem?_eq_none_iff.mp e⟩
      | some d =>
        simp only [e]
        obtain ⟨x, h1, h2⟩ := a2.get e
        refine ⟨⟨vs, x, SqL.of a1, h1⟩, fun y H' ⟨e1, e2⟩ => ?_⟩
        subst e1
        have := e2 vs (SqL.of a1)
        rw [h1] at this
        cases this
        exact ⟨ρ1, .refl _ _, G, h2⟩
    | _ => trivial
theorem rangeD_get (lo hi : Int) (i : Nat) : (rangeD lo hi)[i]? = if i < (hi - lo).toNat then some (.int (lo + (i : Nat))) else none := by
  unfold rangeD
  rw [List.getElem?_map]
  by_cases h : i < (hi - lo).toNat
  · rw [List.getElem?_range h, if_pos h]; rfl
  · rw [if_neg h, List.getElem?_eq_none (by simpa using h)]; rfl
theorem itR_rng {ρ : List Addr} {H : Hp} (lo hi : Int) : ItR Z ρ H (Itr lo (hi - lo).toNat) (.seq (rangeD lo hi)) := by
  intro ρ1 H1 g i m G
  show match some (rangeD lo hi)[i]? with
    | none => True
    | some none => _
    | some (some d) => _
  rw [rangeD_get]
  by_cases h : i < (hi - lo).toNat
  · rw [if_pos h]
    refine ⟨h, fun y H' ⟨e1, e2⟩ => ?_⟩
    subst e1 e2
    exact ⟨ρ1, .refl _ _, G, .int _⟩
  · rw [if_neg h]
    exact Nat.le_of_not_lt h
theorem itR_rngDown {ρ : List Addr} {H : Hp} {J : L2.It} {lo hi : Int} (hJ : ∀ i H, (i < (lo - hi).toNat → J.go i H) ∧ (¬ i < (lo - hi).toNat → J.stop i H) ∧ ∀ x H', J.yld i H x H' → H' = H ∧ x = .int (lo - (i : Nat))) :
    ItR Z ρ H J (.seq ((List.range (lo - hi).toNat).map fun k => .int (lo - (k : Nat)))) := by
  intro ρ1 H1 g i m G
  show match some ((List.range (lo - hi).toNat).map fun k => D.int (lo - (k : Nat)))[i]? with
    | none => True
    | some none => _
    | some (some d) => _
  rw [List.getElem?_map]
  by_cases h : i < (lo - hi).toNat
  · rw [List.getElem?_range h]
    refine ⟨(hJ i H1).1 h, fun y H' q => ?_⟩
    obtain ⟨e1, e2⟩ := (hJ i H1).2.2 y H' q
    subst e1 e2
    exact ⟨ρ1, .refl _ _, G, .int _⟩
  · rw [List.getElem?_eq_none (by simpa using h)]
    exact (hJ i H1).2.1 h
theorem di_of {tg : Expr} (hK : X.K = Z.K) (hl : PE X e (rdE Z W fe)) : PI X tg e (rdI Z W (Ie.of fe)) := by
  refine PI_imp (pi_seq hl) fun σ H R ⟨δ, ρ, g, G, S, h⟩ => ⟨δ, ρ, g, G, S, (PostR.bind h).imp (fun d ρ1 H1 g1 m1 G1 h1 v rv => ?_) fun _ _ _ _ _ _ _ q => q⟩
  rw [hK]
  cases rv with
  | tup hq rs => exact ⟨_, rfl, .inr ⟨⟨_, hq⟩, (PostR.ok (a := DV.It.seq _) h1 G1) _ (itR_tup hq rs)⟩⟩
  | rol hq => exact ⟨_, rfl, .inl ⟨⟨_, hq.sqL⟩, (PostR.ok (a := DV.It.seq _) h1 G1) _ (itR_rol hq)⟩⟩
  | ref hn =>
    rename_i a n
    cases e0 : g1[n]? with
    | none => simp only [walkOf, e0] at h1; exact h1.elim
    | some o => cases o with
      | lst xs =>
        simp only [walkOf, e0] at h1
        obtain ⟨vs, a1, a2⟩ := G1.lst hn e0
        exact ⟨_, rfl, .inl ⟨⟨_, SqL.of a1⟩, (PostR.ok (a := DV.It.lst n) h1 G1) _ (itR_lst hn)⟩⟩
      | dic kvs => simp only [walkOf, e0] at h1; exact h1.elim
      | ins c fs => simp only [walkOf, e0] at h1; exact h1.elim
  | _ => exact (show False from h1).elim
end
end DV
end
section
set_option Elab.async false
set_option linter.all false
set_option maxRecDepth 100000
namespace DV
open PySem PySem.Spec PyProof.Rows L2 RZ
section
variable {Z : Tab} {X : Cx} {W : WX} {N : List Str} {sc : Scope} {m : Nat} {a b c e : Expr} {es : List Expr} {fa fb fc fe : Ex} {fs : Exs} {pos p p2 : Pos} {st : Stmt} {sts sts2 : List Stmt} {tc : Te} {s1 s2 : Sm} {t : Tg} {u : Tgs} {ws : List Nat} {tg : Expr} {fi : Ie}

theorem di_range1 (hX : XOk Z X N sc W m) (B : Blt X.mg) (ha : PE X a (rdE Z W fa)) (hg : sc.names.lookup ("range" : Str) = some .globalImplicit := by rfl) (hs : starEach [a] X.env = (false, eval a X.env) :: starEach [] X.env := by rfl) (hs2 : starEach [a] X.env = [(false, eval a X.env)] := by rfl) : PI X tg (.Call (.Name "range" p) [a] [] pos) (rdI Z W (Ie.range1 fa)) := by
  refine PI_imp (pi_range1 (Gl_of hX hg) B.range (pa_cons ha pa_nil hs) hs2) fun σ H R ⟨δ, ρ, g, G, S, h⟩ => ⟨δ, ρ, g, G, S, (PostR.bind h).imp (fun d ρ1 H1 g1 m1 G1 h1 v rv => ?_) fun _ _ _ _ _ _ _ q => q⟩
  cases rv with
  | int j =>
    simp only at h1
    split at h1
    · rename_i hj
      have e : (j - 0).toNat = j.toNat := by rw [Int.sub_zero]
      refine ⟨j, rfl, by omega, by omega, (PostR.ok (a := DV.It.seq (rangeD 0 j)) h1 G1) _ ?_⟩
      have q := itR_rng (Z := Z) (ρ := ρ1) (H := H1) 0 j
      rw [e] at q
      exact q
    · exact h1.elim
  | _ => exact (show False from h1).elim
theorem di_range2 (hX : XOk Z X N sc W m) (B : Blt X.mg) (ha : PE X a (rdE Z W fa)) (hb : PE X b (rdE Z W fb)) (hg : sc.names.lookup ("range" : Str) = some .globalImplicit := by rfl) (hs : starEach [a, b] X.env = (false, eval a X.env) :: starEach [b] X.env := by rfl) (hs2 : starEach [b] X.env = (false, eval b X.env) :: starEach [] X.env := by rfl) (hs3 : starEach [a, b] X.env = [(false, eval a X.env), (false, eval b X.env)] := by rfl) (hs4 : starEach [b] X.env = [(false, eval b X.env)] := by rfl) : PI X tg (.Call (.Name "range" p) [a, b] [] pos) (rdI Z W (Ie.range2 fa fb)) := by
  refine PI_imp (pi_range2 (Gl_of hX hg) B.range (pa_cons ha (pa_cons hb pa_nil hs2) hs) hs3 hs4) fun σ H R ⟨δ, ρ, g, G, S, h⟩ => ⟨δ, ρ, g, G, S, (PostR.bind h).imp (fun d ρ1 H1 g1 m1 G1 h1 v rv => ?_) fun _ _ _ _ _ _ _ q => q⟩
  refine ⟨δ, ρ1, g1, G1, S.mono m1, (PostR.bind h1).imp (fun d2 ρ2 H2 g2 m2 G2 h2 v2 rv2 => ?_) fun _ _ _ _ _ _ _ q => q⟩
  cases rv with
  | int i => cases rv2 with
    | int j =>
      simp only at h2
      split at h2
      · rename_i hj
        exact ⟨i, j, rfl, ⟨by omega, by omega, by omega, by omega⟩, (PostR.ok (a := DV.It.seq (rangeD i j)) h2 G2) _ (itR_rng i j)⟩
      · exact h2.elim
    | _ => exact (show False from h2).elim
  | _ => cases rv2 <;> exact (show False from h2).elim

/-! ### zip -/
theorem zip_at (t u : DV.It) (i : Nat) (g : G) : (DV.It.zip t u).at i g = match t.at i g, u.at i g with
    | some (some x), some (some y) => some (some (.tup [x, y]))
    | some _, some _ => some none
    | _, _ => none := rfl
theorem itR_zipL {ρ : List Addr} {H : Hp} {a b : Addr} {t u : DV.It} (h1 : ItR Z ρ H (Itl Z.K a) t) (h2 : ItR Z ρ H (Itl Z.K b) u) : ItR Z ρ H (Itz Z.K a b) (.zip t u) := by
  intro ρ1 H1 g i m G
  have q1 := h1 ρ1 H1 g i m G
  have q2 := h2 ρ1 H1 g i m G
  rw [zip_at]
  cases e1 : t.at i g with
  | none => trivial
  | some o1 =>
    rw [e1] at q1
    cases e2 : u.at i g with
    | none => cases o1 <;> trivial
    | some o2 =>
      rw [e2] at q2
      cases o1 with
      | none =>
        obtain ⟨xs, k1, k2⟩ := q1
        cases o2 with
        | none =>
          obtain ⟨ys, l1, l2⟩ := q2
          exact ⟨xs, ys, k1, l1, .inl k2⟩
        | some y =>
          obtain ⟨⟨ys, y', l1, l2⟩, _⟩ := q2
          exact ⟨xs, ys, k1, l1, .inl k2⟩
      | some x =>
        obtain ⟨⟨xs, x', k1, k2⟩, k3⟩ := q1
        cases o2 with
        | none =>
          obtain ⟨ys, l1, l2⟩ := q2
          exact ⟨xs, ys, k1, l1, .inr l2⟩
        | some y =>
          obtain ⟨⟨ys, y', l1, l2⟩, l3⟩ := q2
          refine ⟨⟨xs, ys, x', y', k1, l1, k2, l2⟩, fun v H' ⟨T, xv, yv, ev, hT, eH, z1, z2⟩ => ?_⟩
          subst ev eH
          obtain ⟨ρa, ma, Ga, ra⟩ := k3 xv H1 ⟨rfl, z1⟩
          obtain ⟨ρb, mb, Gb, rb⟩ := l3 yv H1 ⟨rfl, z2⟩
          have la : ρa = ρ1 := by
            obtain ⟨t, rfl⟩ := ma.pre
            have := Ga.len; rw [List.length_append, G.len] at this
            have : t = [] := List.length_eq_zero_iff.mp (by omega)
            subst this; simp
          have lb : ρb = ρ1 := by
            obtain ⟨t, rfl⟩ := mb.pre
            have := Gb.len; rw [List.length_append, G.len] at this
            have : t = [] := List.length_eq_zero_iff.mp (by omega)
            subst this; simp
          subst la
          rw [lb] at rb
          exact ⟨_, Mv.new hT, G.same (same_new hT), .tup (SqT.of upd_same) (.cons (ra.mono (Mv.new hT)) (.cons (rb.mono (Mv.new hT)) .nil))⟩
theorem itR_zipT {ρ : List Addr} {H : Hp} {a b : Addr} {t u : DV.It} (h1 : ItR Z ρ H (Itt Z.K a) t) (h2 : ItR Z ρ H (Itt Z.K b) u) : ItR Z ρ H (ItzT Z.K a b) (.zip t u) := by
  intro ρ1 H1 g i m G
  have q1 := h1 ρ1 H1 g i m G
  have q2 := h2 ρ1 H1 g i m G
  rw [zip_at]
  cases e1 : t.at i g with
  | none => trivial
  | some o1 =>
    rw [e1] at q1
    cases e2 : u.at i g with
    | none => cases o1 <;> trivial
    | some o2 =>
      rw [e2] at q2
      cases o1 with
      | none =>
        obtain ⟨xs, k1, k2⟩ := q1
        cases o2 with
        | none =>
          obtain ⟨ys, l1, l2⟩ := q2
          exact ⟨xs, ys, k1, l1, .inl k2⟩
        | some y =>
          obtain ⟨⟨ys, y', l1, l2⟩, _⟩ := q2
          exact ⟨xs, ys, k1, l1, .inl k2⟩
      | some x =>
        obtain ⟨⟨xs, x', k1, k2⟩, k3⟩ := q1
        cases o2 with
        | none =>
          obtain ⟨ys, l1, l2⟩ := q2
          exact ⟨xs, ys, k1, l1, .inr l2⟩
        | some y =>
          obtain ⟨⟨ys, y', l1, l2⟩, l3⟩ := q2
          refine ⟨⟨xs, ys, x', y', k1, l1, k2, l2⟩, fun v H' ⟨T, xv, yv, ev, hT, eH, z1, z2⟩ => ?_⟩
          subst ev eH
          obtain ⟨ρa, ma, Ga, ra⟩ := k3 xv H1 ⟨rfl, z1⟩
          obtain ⟨ρb, mb, Gb, rb⟩ := l3 yv H1 ⟨rfl, z2⟩
          have la : ρa = ρ1 := by
            obtain ⟨t, rfl⟩ := ma.pre
            have := Ga.len; rw [List.length_append, G.len] at this
            have : t = [] := List.length_eq_zero_iff.mp (by omega)
            subst this; simp
          have lb : ρb = ρ1 := by
            obtain ⟨t, rfl⟩ := mb.pre
            have := Gb.len; rw [List.length_append, G.len] at this
            have : t = [] := List.length_eq_zero_iff.mp (by omega)
            subst this; simp
          subst la
          rw [lb] at rb
          exact ⟨_, Mv.new hT, G.same (same_new hT), .tup (SqT.of upd_same) (.cons (ra.mono (Mv.new hT)) (.cons (rb.mono (Mv.new hT)) .nil))⟩
/-- what is walked, as a list or as a tuple -/
theorem walk_of {ρ : List Addr} {H : Hp} {g : G} (G : RelG Z ρ H g) {v : V} {d : D} {t : DV.It} (r : RelD Z ρ H v d) (h : walkOf g d = some t) :
    ∃ a, v = .ref a ∧ ((isTup d = true ∧ (∃ xs, SqT Z.K H a xs) ∧ ItR Z ρ H (Itt Z.K a) t) ∨ (isTup d = false ∧ (∃ xs, SqL Z.K H a xs) ∧ ItR Z ρ H (Itl Z.K a) t)) := by
  cases r with
  | tup hq rs => cases h; exact ⟨_, rfl, .inl ⟨rfl, ⟨_, hq⟩, itR_tup hq rs⟩⟩
  | rol hq => cases h; exact ⟨_, rfl, .inr ⟨rfl, ⟨_, hq.sqL⟩, itR_rol hq⟩⟩
  | ref hn =>
    rename_i a n
    cases e0 : g[n]? with
    | none => simp only [walkOf, e0] at h; cases h
    | some o => cases o with
      | lst xs =>
        simp only [walkOf, e0] at h
        cases h
        obtain ⟨vs, a1, a2⟩ := G.lst hn e0
        exact ⟨_, rfl, .inr ⟨rfl, ⟨_, SqL.of a1⟩, itR_lst hn⟩⟩
      | dic kvs => simp only [walkOf, e0] at h; cases h
      | ins c fs => simp only [walkOf, e0] at h; cases h
  | _ => cases h
theorem ItR.back {ρ ρ' : List Addr} {H H' : Hp} {J : L2.It} {t : DV.It} (m : Mv ρ H ρ' H') (h : ItR Z ρ H J t) : ItR Z ρ' H' J t := h.mv m
theorem di_zip {elts : List Expr} {kk : Nat} {tpos : Pos} (hX : XOk Z X N sc W m) (B : Blt X.mg) (ha : PE X a (rdE Z W fa)) (hb : PE X b (rdE Z W fb)) (hg : sc.names.lookup ("zip" : Str) = some .globalImplicit := by rfl) (hs : starEach [a, b] X.env = (false, eval a X.env) :: starEach [b] X.env := by rfl) (hs2 : starEach [b] X.env = (false, eval b X.env) :: starEach [] X.env := by rfl)
    (hpl : (backTo pos (starEach [b] X.env)).any (·.1) = false := by rfl) : PI X (.Tuple elts kk tpos) (.Call (.Name "zip" p) [a, b] [] pos) (rdI Z W (Ie.zip fa fb)) := by
  refine PI_imp (pi_zipA (Gl_of hX hg) B.zip (pa_cons ha (pa_cons hb pa_nil hs2) hs) hs hpl) fun σ H R ⟨δ, ρ, g, G, S, h⟩ => ⟨δ, ρ, g, G, S, (PostR.bind h).imp (fun d ρ1 H1 g1 m1 G1 h1 v rv => ?_) fun _ _ _ _ _ _ _ q => q⟩
  refine ⟨δ, ρ1, g1, G1, S.mono m1, (PostR.bind h1).imp (fun d2 ρ2 H2 g2 m2 G2 h2 v2 rv2 => ?_) fun _ _ _ _ _ _ _ q => q⟩
  cases e1 : walkOf g2 d with
  | none => simp only [e1] at h2; exact h2.elim
  | some t => cases e2 : walkOf g2 d2 with
    | none => simp only [e1, e2] at h2; exact h2.elim
    | some u =>
      simp only [e1, e2] at h2
      split at h2
      · rename_i hk
        obtain ⟨x, rfl, w1⟩ := walk_of G2 (rv.mono m2) e1
        obtain ⟨y, rfl, w2⟩ := walk_of G2 rv2 e2
        have q := PostR.ok (a := DV.It.zip t u) h2 G2
        rw [hX.hK]
        rcases w1 with ⟨k1, ⟨xs, l1⟩, r1⟩ | ⟨k1, ⟨xs, l1⟩, r1⟩ <;> rcases w2 with ⟨k2, ⟨ys, l2⟩, r2⟩ | ⟨k2, ⟨ys, l2⟩, r2⟩
        · exact ⟨x, y, xs, ys, rfl, .inr ⟨l1, l2, q _ (itR_zipT r1 r2)⟩⟩
        · rw [k1, k2] at hk; cases hk
        · rw [k1, k2] at hk; cases hk
        · exact ⟨x, y, xs, ys, rfl, .inl ⟨l1, l2, q _ (itR_zipL r1 r2)⟩⟩
      · exact h2.elim

/-! ### loops -/
theorem ds_for (hX : XOk Z X N sc W m) (hp : PassesOwn (model X.prog X.w) X.A X.env X.xe) (hi : PI X tg e (rdI Z W fi)) (hg : PG X tg (rdG Z ws t)) (hb : PSs X sts (rdS Z W s1)) (hs : ∀ x, foldedSetIterable e X.env x = pure x := by intro _; rfl) :
    PS X (.For tg e sts [] pos) (rdS Z W (Sm.for fi t s1)) := by
  refine PS_imp (ps_for hp hX.calm hi hg hb hs) fun D σ H ⟨δ, ρ, g, G, S, h⟩ => ⟨δ, ρ, g, G, S, (PostS.thenS S h).imp (fun it ρ1 H1 g1 m1 G1 h1 J hJ => ?_) fun _ _ _ _ _ _ _ q => q⟩
  refine ⟨fun i n σ' H' => ∃ δ' ρ' g', Mv ρ1 H1 ρ' H' ∧ RelG Z ρ' H' g' ∧ RelS Z ρ' H' σ' δ' ∧ PostS Z W D ρ' H' (forLoop it t s1 n i δ' g'), ⟨fuel, δ, ρ1, g1, .refl _ _, G1, S.mono m1, h1⟩, ?_⟩
  rintro i n σ2 H2 ⟨δ2, ρ2, g2, m2, G2, S2, h2⟩
  cases n with
  | zero => exact (show False from h2).elim
  | succ n =>
    rw [forLoop] at h2
    have q := hJ ρ2 H2 g2 i m2 G2
    cases e : it.at i g2 with
    | none => simp only [e] at h2; exact h2.elim
    | some o => cases o with
      | none =>
        simp only [e] at h2 q
        exact .inl ⟨q, PostS.nx h2 G2 S2⟩
      | some d =>
        simp only [e] at h2 q
        refine .inr ⟨q.1, _, fun σ' H' w => ⟨n, Nat.lt_succ_self n, w⟩, fun x H' y => ?_⟩
        obtain ⟨ρ3, m3, G3, r3⟩ := q.2 x H' y
        refine ⟨d, δ2, ρ3, g2, G3, S2.mono m3, r3, (PostR.hushE (PostS.thenS (S2.mono m3) (PostS.mv m3 h2))).imp (fun δ4 ρ4 H4 g4 m4 G4 h4 σ4 S4 l4 => ⟨δ4, ρ4, g4, G4, S4, ?_⟩) fun _ _ _ _ _ _ _ q => q⟩
        cases e5 : s1 δ4 g4 with
        | ok f g5 =>
          rw [e5] at h4
          cases f with
          | nx δ5 => exact fun ρ5 H5 σ5 m5 G5 S5 => ⟨δ5, ρ5, g5, ((m2.trans m3).trans m4).trans m5, G5, S5, PostS.mv m5 h4⟩
          | ct δ5 => exact fun ρ5 H5 σ5 m5 G5 S5 => ⟨δ5, ρ5, g5, ((m2.trans m3).trans m4).trans m5, G5, S5, PostS.mv m5 h4⟩
          | bk δ5 => exact fun ρ5 H5 σ5 m5 G5 S5 => PostS.nx (PostS.mv m5 h4) G5 S5
          | rt d5 => exact h4
        | exc c x δ5 g5 => rw [e5] at h4; exact h4
        | stuck => rw [e5] at h4; exact h4
theorem ds_while (hp : PassesOwn (model X.prog X.w) X.A X.env X.xe) (hc : PT X c (rdT Z W tc)) (hb : PSs X sts (rdS Z W s1)) : PS X (.While c sts [] pos) (rdS Z W (Sm.while tc s1)) := by
  refine PS_imp (ps_while hp hc hb) fun D σ H ⟨δ, ρ, g, G, S, h⟩ => ?_
  refine ⟨fun n σ' H' => ∃ δ' ρ' g', RelG Z ρ' H' g' ∧ RelS Z ρ' H' σ' δ' ∧ PostS Z W D ρ' H' (whileLoop tc s1 n δ' g'), ⟨fuel, δ, ρ, g, G, S, h⟩, ?_⟩
  rintro n σ2 H2 ⟨δ2, ρ2, g2, G2, S2, h2⟩
  cases n with
  | zero => exact (show False from h2).elim
  | succ n =>
    rw [whileLoop] at h2
    refine ⟨δ2, ρ2, g2, G2, S2, (PostS.thenS S2 h2).imp (fun k ρ3 H3 g3 m3 G3 h3 => ?_) fun _ _ _ _ _ _ _ q => q⟩
    show if k = true then _ else _
    cases k with
    | false => exact PostS.nx h3 G3 (S2.mono m3)
    | true =>
      refine ⟨_, fun σ' H' w => ⟨n, Nat.lt_succ_self n, w⟩, δ2, ρ3, g3, G3, S2.mono m3, ?_⟩
      rw [if_pos rfl] at h3
      cases e5 : s1 δ2 g3 with
      | ok f g5 =>
        rw [e5] at h3
        cases f with
        | nx δ5 => exact fun ρ5 H5 σ5 m5 G5 S5 => ⟨δ5, ρ5, g5, G5, S5, PostS.mv m5 h3⟩
        | ct δ5 => exact fun ρ5 H5 σ5 m5 G5 S5 => ⟨δ5, ρ5, g5, G5, S5, PostS.mv m5 h3⟩
        | bk δ5 => exact fun ρ5 H5 σ5 m5 G5 S5 => PostS.nx (PostS.mv m5 h3) G5 S5
        | rt d5 => exact h3
      | exc c x δ5 g5 => rw [e5] at h3; exact h3
      | stuck => rw [e5] at h3; exact h3
end
end DV
end
section
set_option Elab.async false
set_option linter.all false
set_option maxRecDepth 100000
namespace DV
open PySem PySem.Spec PyProof.Rows L2 RZ
theorem PostR.bind0 {α β : Type} {Z : Tab} {ρ : List Addr} {H : Hp} {r : R α} {f : α → G → R β} {k : β → List Addr → Hp → G → Prop} {e : Nat → D → List Addr → Hp → G → Prop} (h : PostR Z ρ H (r.bind f) k e) : PostR Z ρ H r (fun a _ _ g1 => PostR Z ρ H (f a g1) k e) e := by
  cases r with
  | ok a g => exact fun ρ1 H1 _ _ => h
  | exc c x g => exact h
  | stuck => exact h
theorem Mv.own {ρ ρ' : List Addr} {H H' : Hp} {p : Addr} {u : HO} (m : Mv ρ H ρ' H') (h : H p = some u) (n : p ∉ ρ) : H' p = some u ∧ p ∉ ρ' := ⟨m.fr p u h n, fun z => by rw [m.nw p z n] at h; cases h⟩
theorem Mv.at0 {ρ ρ' ρ2 : List Addr} {H H' H2 : Hp} (m : Mv ρ H ρ' H') (m2 : Mv ρ' H' ρ2 H2) : Mv ρ H ρ2 H2 := m.trans m2
abbrev W0 : WX := fun _ _ _ _ => False
theorem W0_take {X : Cx} : Takes X W0 := fun _ _ x => by
  obtain ⟨_, _, _, _, _, _, _, _, _, _, _, _, _, _, _, _, z⟩ := x
  exact z.elim
section
variable {Z : Tab} {X : Cx} {W : WX} {N : List Str} {sc : Scope} {m : Nat} {a b c e elt : Expr} {es ifs : List Expr} {fa fb fc fe : Ex} {fs : Exs} {pos p p2 : Pos} {tc : Te} {t : Tg} {ws : List Nat} {tg iter : Expr} {fi : Ie} {scope : Scope} {own : List (Str × Nat)}

/-- within a comprehension's block -/
theorem XOk.blk (hX : XOk Z X N sc W m) (s : Shared) (H : Hp) (C : Addr) (cl : List (Str × Addr)) (fp : List Addr) : XOk Z (X.blk s H scope (compEnvC scope cl C X.env) fp) N (relS scope sc) W0 m :=
  ⟨hX.hN, hX.hK, hX.hP, hX.hw, hX.hM, hX.hB, by rw [← hX.sc]; rfl, hX.nd, hX.room, hX.calm, W0_take⟩
theorem PTs_imp {X : Cx} {e : List Expr} {t t' : TT} (h : PTs X e t) (f : ∀ σ H Q, t' σ H Q → t σ H Q) : PTs X e t' := ⟨fun pins s σ H Q I q => h.run pins s σ H Q I (f σ H Q q)⟩
theorem dts_nil : PTs X [] (rdT Z W Te.tt) := PTs_imp pts_nil fun σ H Q ⟨δ, ρ, g, G, S, h⟩ => PostR.ok (a := true) h G
theorem dts_one (h : PT X c (rdT Z W tc)) : PTs X [c] (rdT Z W tc) := pts_one h
theorem tLc_of {wi : TI} {σ : L2.St} {H : Hp} {Q : VK} (hsub : ∀ i ∈ ws, i ∈ own.map (·.2)) (h : rdE Z W (Ex.comp (own.map (·.2)) fi t tc fe) σ H Q) (hi : wi = rdI Z W fi) : tLc wi (rdG Z ws t) (rdT Z W0 tc) (rdE Z W0 fe) (own.map (·.2)) σ H Q := by
  subst hi
  obtain ⟨δ, ρ, g, G, S, h⟩ := h
  refine ⟨δ, ρ, g, G, S, (PostR.bind h).imp (fun it ρ1 H1 g1 m1 G1 h1 J hJ D hD => ?_) fun _ _ _ _ _ _ _ q => q⟩
  have h1' := PostR.hushE (e' := eF) (PostR.bind0 h1)
  have S1 := S.mono m1
  have nD1 : D ∉ ρ1 := fun z => by obtain ⟨u, hu⟩ := G1.tracked z; rw [hD] at hu; cases hu
  refine ⟨fun i n H' => ∃ ρ' g' acc vs', Mv ρ1 H1 ρ' H' ∧ RelG Z ρ' H' g' ∧ D ∉ ρ' ∧ H' D = some (.lst vs') ∧ RelDs Z ρ' H' vs' acc ∧
    PostR Z ρ1 H1 (compLoop it t tc fe (DV.wipe δ (own.map (·.2))) n i acc g') (fun ds _ _ g2 => PostR Z ρ1 H1 (.ok (.ref g2.length) (g2 ++ [.lst ds])) (kV Z Q) (eX Z W σ)) eF,
    ⟨fuel, ρ1, g1, [], [], Mv.new hD, G1.same (same_new hD), nD1, upd_same, .nil, h1'⟩, ?_⟩
  rintro i n H2 ⟨ρ2, g2, acc, vs2, m2, G2, n2, l2, r2, h2⟩
  cases n with
  | zero => exact (show False from h2).elim
  | succ n =>
    rw [compLoop] at h2
    have q := hJ ρ2 H2 g2 i m2 G2
    cases e : it.at i g2 with
    | none => simp only [e] at h2; exact h2.elim
    | some o => cases o with
      | none =>
        simp only [e] at h2 q
        refine .inl ⟨q, ?_⟩
        have h3 := h2 ρ2 H2 m2 G2
        exact h3 (ρ2 ++ [D]) H2 (m2.snoc hD) (G2.snoc n2 ⟨vs2, l2, r2.monoW ⟨⟨[D], rfl⟩, .refl _⟩⟩) _ (.ref (RelG.get_push G2.len))
      | some d =>
        simp only [e] at h2 q
        refine .inr ⟨q.1, _, fun H' w => ⟨n, Nat.lt_succ_self n, w⟩, fun x H' y => ?_⟩
        obtain ⟨ρ3, m3, G3, r3⟩ := q.2 x H' y
        obtain ⟨l3, n3⟩ := m3.own l2 n2
        have b3 := m2.trans m3
        refine ⟨d, _, ρ3, g2, G3, ((S1.mono b3).wipe _), r3, (PostR.mv b3 (PostR.bind0 h2)).imp (fun δ4 ρ4 H4 g4 m4 G4 h4 σ4 S4 w4 => ⟨?_, ?_⟩) fun _ _ _ _ _ _ _ q => q⟩
        · rw [w4 _ hsub]
          refine List.ext_getElem? fun j => ?_
          rw [wipe_get, wipe_get]
          split <;> first | rfl | (cases σ[j]? <;> rfl)
        obtain ⟨l4, n4⟩ := m4.own l3 n3
        have b4 := b3.trans m4
        refine ⟨δ4, ρ4, g4, G4, S4, (PostR.eF_to (PostR.mv b4 (PostR.bind0 h4))).imp (fun k ρ5 H5 g5 m5 G5 h5 => ?_) fun _ _ _ _ _ _ _ q => q⟩
        obtain ⟨l5, n5⟩ := m5.own l4 n4
        have b5 := b4.trans m5
        show if k = true then _ else _
        cases k with
        | false => exact ⟨ρ5, g5, acc, vs2, b5, G5, n5, l5, r2.mono ((m3.trans m4).trans m5), h5⟩
        | true =>
          rw [if_pos rfl] at h5
          refine ⟨δ4, ρ5, g5, G5, S4.mono m5, (PostR.eF_to (PostR.mv b5 (PostR.bind0 h5))).imp (fun yv ρ6 H6 g6 m6 G6 h6 v rv => ?_) fun _ _ _ _ _ _ _ q => q⟩
          obtain ⟨l6, n6⟩ := m6.own l5 n5
          have b6 := b5.trans m6
          split at h6
          · rename_i hz
            have r6 := r2.mono (((m3.trans m4).trans m5).trans m6)
            refine ⟨vs2, l6, by rw [r6.length, ← line_eq]; exact hz, ρ6, g6, acc ++ [yv], vs2 ++ [v], b6.updNew hD (fun xs z => by rw [l6] at z; cases z) (fun ob u z => by rw [l6] at z; cases z),
              G6.other n6 (fun xs z => by rw [l6] at z; cases z) (fun ob u z => by rw [l6] at z; cases z), n6, upd_same, ?_, h6⟩
            exact RelDs.monoW ⟨⟨[], by simp⟩, .upd (fun xs z => by rw [l6] at z; cases z) (fun ob u z => by rw [l6] at z; cases z)⟩ (r6.append (.cons rv .nil))
          · exact h6.elim
theorem de_comp (hX : XOk Z X N sc W m) (own : List (Str × Nat)) (hi : PI X tg iter (rdI Z W fi)) (hg : ∀ (s : Shared) (H : Hp) (C : Addr) (cl : List (Str × Addr)) (fp : List Addr), PG (X.blk s H scope (compEnvC scope cl C X.env) fp) tg (rdG Z ws t))
    (ht : ∀ (s : Shared) (H : Hp) (C : Addr) (cl : List (Str × Addr)) (fp : List Addr), PTs (X.blk s H scope (compEnvC scope cl C X.env) fp) ifs (rdT Z W0 tc)) (he : ∀ (s : Shared) (H : Hp) (C : Addr) (cl : List (Str × Addr)) (fp : List Addr), PE (X.blk s H scope (compEnvC scope cl C X.env) fp) elt (rdE Z W0 fe))
    (ok : blkC N sc scope own = true := by decide +kernel) (hsub : ∀ i ∈ ws, i ∈ own.map (·.2) := by decide) (hs : ∀ x, foldedSetIterable iter X.env x = pure x := by intro _; rfl) : PE X (.ListComp elt [⟨tg, iter, ifs, 0⟩] scope pos) (rdE Z W (Ex.comp (own.map (·.2)) fi t tc fe)) :=
  PE_imp (pe_lc hX.calm (by rw [hX.hN]; exact hX.nd) hi (by rw [hX.hN, hX.sc]; exact blkOk_by ok) hg ht he hs) fun σ H Q h => tLc_of hsub h rfl
/-- name = [..] on one line -/
theorem ds_setLc {y : Str} {py spos : Pos} (hX : XOk Z X N sc W m) (i : Nat) (own : List (Str × Nat)) (hi : PI X tg iter (rdI Z W fi)) (hg : ∀ (s : Shared) (H : Hp) (C : Addr) (cl : List (Str × Addr)) (fp : List Addr), PG (X.blk s H scope (compEnvC scope cl C X.env) fp) tg (rdG Z ws t))
    (ht : ∀ (s : Shared) (H : Hp) (C : Addr) (cl : List (Str × Addr)) (fp : List Addr), PTs (X.blk s H scope (compEnvC scope cl C X.env) fp) ifs (rdT Z W0 tc)) (he : ∀ (s : Shared) (H : Hp) (C : Addr) (cl : List (Str × Addr)) (fp : List Addr), PE (X.blk s H scope (compEnvC scope cl C X.env) fp) elt (rdE Z W0 fe))
    (hsw : swapsWith (.ListComp elt [⟨tg, iter, ifs, 0⟩] scope pos) (some (.Name y py)) spos.line X.env = pure true) (hy : N[i]? = some y := by rfl) (hyl : sc.names.lookup y = some .local := by rfl) (ok : blkC N sc scope own = true := by decide +kernel) (hsub : ∀ i ∈ ws, i ∈ own.map (·.2) := by decide) (hs : ∀ x, foldedSetIterable iter X.env x = pure x := by intro _; rfl) :
    PS X (.Assign [.Name y py] (.ListComp elt [⟨tg, iter, ifs, 0⟩] scope pos) spos) (rdS Z W (Sm.asg (Tg.name i) (Ex.comp (own.map (·.2)) fi t tc fe))) := by
  refine PS_imp (ps_setLc hX.calm (by rw [hX.hN]; exact hX.nd) (by rw [hX.hN]; exact hy) (by rw [hX.sc]; exact hyl) hsw hi (by rw [hX.hN, hX.sc]; exact blkOk_by ok) hg ht he hs) fun D σ H ⟨δ, ρ, g, G, S, h⟩ => ?_
  refine tLc_of hsub ⟨δ, ρ, g, G, S, (PostS.thenS S h).imp (fun d ρ1 H1 g1 m1 G1 h1 v rv => ?_) fun _ _ _ _ _ _ _ q => q⟩ rfl
  exact PostS.nx (δ := δ.set i (some d)) h1 G1 ((S.mono m1).set i rv)
end
end DV
end
section
set_option Elab.async false
set_option linter.all false
set_option maxRecDepth 100000
namespace DV
open PySem PySem.Spec PyProof.Rows L2 RZ
section
variable {Z : Tab} {X : Cx} {W : WX} {N : List Str} {sc : Scope} {m : Nat} {a b c e elt : Expr} {es ifs : List Expr} {fa fb fc fe : Ex} {fs : Exs} {pos p p2 : Pos} {tc : Te} {t : Tg} {ws : List Nat} {tg iter : Expr} {fi : Ie}

/-- a builtin, by values -/
def rB (Z : Tab) (b : Bi) : List V → Hp → VK → Prop := fun vs H Q => ∃ ds ρ g e, RelG Z ρ H g ∧ RelDs Z ρ H vs ds ∧ PostR Z ρ H (bi b ds g) (kV Z Q) e
theorem de_biF {x : Str} {i : String} (b : Bi) (hX : XOk Z X N sc W m) (hc : CallR X (.builtin i) (rB Z b)) (hm : X.mg x = none) (ha : PA X (e :: es) (rdA Z W fs)) (hg : sc.names.lookup x = some .globalImplicit := by rfl) (hv : bootBuiltins x = some (.builtin i) := by decide +kernel) (hn : x ≠ "__name__" := by decide) (hdb : (x == ("__debug__" : Str)) = false := by decide)
    (he : starEach (e :: es) X.env = (false, eval e X.env) :: starEach es X.env := by rfl) (hpl : (backTo pos (starEach es X.env)).any (·.1) = false := by rfl) : PE X (.Call (.Name x p) (e :: es) [] pos) (rdE Z W (Ex.bi b fs)) := by
  refine PE_imp (pe_callB hc (Gl_of hX hg) hm hv ha hn hdb he hpl) fun σ H Q ⟨δ, ρ, g, G, S, h⟩ => ⟨δ, ρ, g, G, S, (PostR.bind h).imp (fun ds ρ1 H1 g1 m1 G1 h1 vs rv => ?_) fun _ _ _ _ _ _ _ q => q⟩
  exact ⟨ds, ρ1, g1, _, G1, rv, h1⟩
theorem de_biT {x : Str} {T : String} (b : Bi) (hX : XOk Z X N sc W m) (hc : CallR X (.type T) (rB Z b)) (hm : X.mg x = none) (ha : PA X (e :: es) (rdA Z W fs)) (hg : sc.names.lookup x = some .globalImplicit := by rfl) (hv : bootBuiltins x = some (.type T) := by decide +kernel) (hn : x ≠ "__name__" := by decide) (hdb : (x == ("__debug__" : Str)) = false := by decide)
    (he : starEach (e :: es) X.env = (false, eval e X.env) :: starEach es X.env := by rfl) (hpl : (backTo pos (starEach es X.env)).any (·.1) = false := by rfl) : PE X (.Call (.Name x p) (e :: es) [] pos) (rdE Z W (Ex.bi b fs)) := by
  refine PE_imp (pe_callTy hc (Gl_of hX hg) hm hv ha hn hdb he hpl) fun σ H Q ⟨δ, ρ, g, G, S, h⟩ => ⟨δ, ρ, g, G, S, (PostR.bind h).imp (fun ds ρ1 H1 g1 m1 G1 h1 vs rv => ?_) fun _ _ _ _ _ _ _ q => q⟩
  exact ⟨ds, ρ1, g1, _, G1, rv, h1⟩
theorem RelDs.one {ρ : List Addr} {H : Hp} {vs : List V} {d : D} (r : RelDs Z ρ H vs [d]) : ∃ v, vs = [v] ∧ RelD Z ρ H v d := by
  cases r with
  | cons a b => cases b; exact ⟨_, rfl, a⟩
theorem RelDs.two {ρ : List Addr} {H : Hp} {vs : List V} {d e : D} (r : RelDs Z ρ H vs [d, e]) : ∃ v w, vs = [v, w] ∧ RelD Z ρ H v d ∧ RelD Z ρ H w e := by
  cases r with
  | cons a b => obtain ⟨w, rfl, h⟩ := b.one; exact ⟨_, w, rfl, a, h⟩
theorem relD_non' {ρ : List Addr} {H : Hp} {v : V} (r : RelD Z ρ H v .non) : v = .non := by cases r; rfl
theorem relD_int {ρ : List Addr} {H : Hp} {v : V} {i : Int} (r : RelD Z ρ H v (.int i)) : v = .int i := by cases r; rfl
theorem relD_bl {ρ : List Addr} {H : Hp} {v : V} {i : Bool} (r : RelD Z ρ H v (.bl i)) : v = .bl i := by cases r; rfl
/-- a list or a tuple by its items -/
theorem items_of {ρ : List Addr} {H : Hp} {g : G} (G : RelG Z ρ H g) {v : V} {d : D} {xs : List D} (r : RelD Z ρ H v d) (h : items g d = some xs) : ∃ p ys, v = .ref p ∧ RelDs Z ρ H ys xs ∧ ((isTup d = false ∧ SqL Z.K H p ys) ∨ (d = .tup xs ∧ SqT Z.K H p ys)) := by
  cases r with
  | tup hq rs => cases h; exact ⟨_, _, rfl, rs, .inr ⟨rfl, hq⟩⟩
  | rol hq => cases h; exact ⟨_, _, rfl, RelDs.ints, .inl ⟨rfl, hq.sqL⟩⟩
  | ref hn =>
    rename_i a n
    cases e0 : g[n]? with
    | none => simp only [items, e0] at h; cases h
    | some o => cases o with
      | lst ys =>
        simp only [items, e0] at h
        cases h
        obtain ⟨vs, a1, a2⟩ := G.lst hn e0
        exact ⟨_, _, rfl, a2, .inl ⟨rfl, SqL.of a1⟩⟩
      | _ => simp only [items, e0] at h; cases h
  | _ => cases h
theorem itemsK_of {ρ : List Addr} {H : Hp} {g : G} (G : RelG Z ρ H g) {v : V} {d : D} {xs : List D} (r : RelD Z ρ H v d) (h : itemsK g d = some xs) : items g d = some xs := by
  cases d with
  | ref n =>
    cases r with
    | ref hn =>
      simp only [itemsK, items] at h ⊢
      cases e0 : g[n]? with
      | none => rw [e0] at h; cases h
      | some o => cases o with
        | lst ys => rw [e0] at h; exact h
        | dic kvs => rw [e0] at h; cases h
        | ins c fs => rw [e0] at h; cases h
  | _ => exact h
theorem bi_len (hK : X.K = Z.K) : CallR X (.builtin "len") (rB Z .len) := by
  intro pins s σ H xs us Q I r ⟨ds, ρ, g, e, G, rs, p⟩
  match ds, rs, p with
  | [x], rs, p =>
    obtain ⟨v, rfl, rv⟩ := rs.one
    simp only [bi] at p
    cases q : lenD g x with
    | none => simp only [q] at p; exact p.elim
    | some n =>
      simp only [q] at p
      refine call_len pins s σ H _ us Q I r ⟨v, n, rfl, ?_, p.val G (.int _)⟩
      rw [hK]
      cases rv with
      | str y =>
        simp only [lenD] at q
        split at q
        · rename_i hl
          exact ⟨by rw [← line_eq]; exact hl, (Option.some.inj q).symm⟩
        · cases q
      | tup hq rq => exact .inr ⟨_, hq, by rw [rq.length]; exact (Option.some.inj q).symm⟩
      | rol hq => exact .inl ⟨_, hq.sqL, by simpa using (Option.some.inj q).symm⟩
      | ref hn =>
        simp only [lenD] at q
        split at q
        · rename_i ys e1
          obtain ⟨vs, a1, a2⟩ := G.lst hn e1
          exact .inl ⟨_, SqL.of a1, by rw [a2.length]; exact (Option.some.inj q).symm⟩
        · rename_i kvs e1
          cases q
        · cases q
      | _ => cases q
  | [], _, p => exact (show False from p).elim
  | x :: y :: z, _, p => exact (show False by cases x <;> exact p).elim
theorem bi_int : CallR X (.type "int") (rB Z .int) := by
  intro pins s σ H xs us Q I r ⟨ds, ρ, g, e, G, rs, p⟩
  match ds, rs, p with
  | [.int i], rs, p =>
    obtain ⟨v, rfl, rv⟩ := rs.one
    cases rv
    exact call_int1 pins s σ H _ us Q I r (.inl ⟨i, rfl, PostR.val (d := .int i) p G (.int _)⟩)
  | [.bl i], rs, p =>
    obtain ⟨v, rfl, rv⟩ := rs.one
    cases rv
    exact call_int1 pins s σ H _ us Q I r (.inr ⟨i, rfl, PostR.val (d := .int _) p G (.int _)⟩)
  | [.non], _, p => exact (show False from p).elim
  | [.str _], _, p => exact (show False from p).elim
  | [.tup _], _, p => exact (show False from p).elim
  | [.ref _], _, p => exact (show False from p).elim
  | [.fn _], _, p => exact (show False from p).elim
  | [.exc _ _], _, p => exact (show False from p).elim
  | [.rol _], _, p => exact (show False from p).elim
  | [], _, p => exact (show False from p).elim
  | x :: y :: z, _, p => exact (show False by cases x <;> exact p).elim
theorem bi_abs : CallR X (.builtin "abs") (rB Z .abs) := by
  intro pins s σ H xs us Q I r ⟨ds, ρ, g, e, G, rs, p⟩
  match ds, rs, p with
  | [.int i], rs, p =>
    obtain ⟨v, rfl, rv⟩ := rs.one
    cases rv
    exact call_abs pins s σ H _ us Q I r ⟨i, rfl, PostR.val (d := .int _) p G (.int _)⟩
  | [.bl _], _, p => exact (show False from p).elim
  | [.non], _, p => exact (show False from p).elim
  | [.str _], _, p => exact (show False from p).elim
  | [.tup _], _, p => exact (show False from p).elim
  | [.ref _], _, p => exact (show False from p).elim
  | [.fn _], _, p => exact (show False from p).elim
  | [.exc _ _], _, p => exact (show False from p).elim
  | [.rol _], _, p => exact (show False from p).elim
  | [], _, p => exact (show False from p).elim
  | x :: y :: z, _, p => exact (show False by cases x <;> exact p).elim
theorem bi_tuple (hK : X.K = Z.K) : CallR X (.type "tuple") (rB Z .tuple) := by
  intro pins s σ H xs us Q I r ⟨ds, ρ, g, e, G, rs, p⟩
  match ds, rs, p with
  | [x], rs, p =>
    obtain ⟨v, rfl, rv⟩ := rs.one
    simp only [bi] at p
    cases q : itemsK g x with
    | none => simp only [q] at p; exact p.elim
    | some ys =>
      simp only [q] at p
      obtain ⟨a, zs, rfl, rz, (⟨_, hl⟩ | ⟨rfl, hl⟩)⟩ := items_of G rv (itemsK_of G rv q)
      · refine call_tuple_of pins s σ H _ us Q I r ⟨a, zs, rfl, .inl ⟨by rw [hK]; exact hl, fun l hq => ?_⟩⟩
        exact p ρ _ (Mv.new hq) (G.same (same_new hq)) _ (.tup (SqT.of upd_same) (rz.mono (Mv.new hq)))
      · exact call_tuple_of pins s σ H _ us Q I r ⟨a, zs, rfl, .inr ⟨by rw [hK]; exact hl, p.val G (.tup hl rz)⟩⟩
  | [], _, p => exact (show False from p).elim
  | x :: y :: z, _, p => exact (show False by cases x <;> exact p).elim
theorem bi_list (hK : X.K = Z.K) : CallR X (.type "list") (rB Z .list) := by
  intro pins s σ H xs us Q I r ⟨ds, ρ, g, e, G, rs, p⟩
  match ds, rs, p with
  | [x], rs, p =>
    obtain ⟨v, rfl, rv⟩ := rs.one
    simp only [bi] at p
    cases q : itemsK g x with
    | none => simp only [q] at p; exact p.elim
    | some ys =>
      simp only [q] at p
      obtain ⟨a, zs, rfl, rz, hl⟩ := items_of G rv (itemsK_of G rv q)
      refine call_list_of pins s σ H _ us Q I r ⟨a, zs, rfl, by rw [hK]; exact hl.imp (fun h => h.2) fun h => h.2, fun l hq => ?_⟩
      exact p (ρ ++ [l]) _ (Mv.push hq) (G.push hq ⟨zs, upd_same, rz.mono (Mv.push hq)⟩) _ (.ref (RelG.get_push G.len))
  | [], _, p => exact (show False from p).elim
  | x :: y :: z, _, p => exact (show False by cases x <;> exact p).elim
theorem okT_fits {t : PyData} (h : okT t = true) : t.fits63 := by
  unfold okT at h
  rw [Bool.and_eq_true] at h
  have := h.2
  cases t <;> first | trivial | (have q : _ ≤ 16777216 := of_decide_eq_true this; show _ < _; have e : ((2 : Int) ^ 63) = 9223372036854775808 := rfl; rw [e]; omega)
theorem Inv.tok2 {pins : List (Addr × Obj)} {σ : L2.St} {H : Hp} {s : Shared} (I : Inv X pins σ H s) {h' : Heap} {tk : Nat} (k : ∀ b o, s.heap.get? b = some o → h'.get? b = some o) : Inv X pins σ H { s with heap := h', toks := tk } := I.kept k
theorem bi_any (hK : X.K = Z.K) (hc : X.calm = true) : CallR X (.builtin "any") (rB Z .any) := by
  intro pins s σ H xs us Q I r ⟨ds, ρ, g, e, G, rs, p⟩
  match ds, rs, p with
  | [x], rs, p =>
    obtain ⟨v, rfl, rv⟩ := rs.one
    simp only [bi] at p
    cases q : items g x with
    | none => simp only [q] at p; exact p.elim
    | some ys =>
      simp only [q] at p
      obtain ⟨a, zs, rfl, rz, hl⟩ := items_of G rv q
      obtain ⟨k, hk, p⟩ := liftO_some p
      unfold anyG at hk
      split at hk
      · rename_i ts ht
        split at hk
        · rename_i hok
          rw [Bool.and_eq_true] at hok
          cases hk
          obtain ⟨u, rfl, ru⟩ := vals1 r
          cases ru
          have fin : ∀ (h' : Heap) (tk : Nat), (∀ b o, s.heap.get? b = some o → h'.get? b = some o) → EP X pins σ Q (.bool (ts.any PyData.truthy)) { s with heap := h', toks := tk } := fun h' tk kp => ⟨.bl _, H, I.kept kp, rfl, p.val G (.bl _)⟩
          rcases hl with ⟨_, hl⟩ | ⟨_, hl⟩
          · obtain ⟨its, r', pl, hz⟩ := I.list (by rw [hK]; exact hl)
            obtain ⟨⟨as, ra⟩, _⟩ := snaps_reads hK I G rz r' ht
            exact PySem.W.any_list_data (I.ok.hd hc) pl.isList (by simpa using ra) hok.2 (fun t h => okT_fits (List.all_eq_true.mp hok.1 t h)) fin
          · obtain ⟨its, r', pl, hz⟩ := I.tuple (by rw [hK]; exact hl)
            obtain ⟨⟨as, ra⟩, _⟩ := snaps_reads hK I G rz r' ht
            exact PySem.W.any_tuple_data (I.ok.hd hc) (show s.heap.IsTuple a its.toArray from pl) (by simpa using ra) hok.2 (fun t h => okT_fits (List.all_eq_true.mp hok.1 t h)) fin
        · cases hk
      · cases hk
  | [], _, p => exact (show False from p).elim
  | x :: y :: z, _, p => exact (show False by cases x <;> exact p).elim
theorem bi_all (hK : X.K = Z.K) (hc : X.calm = true) : CallR X (.builtin "all") (rB Z .all) := by
  intro pins s σ H xs us Q I r ⟨ds, ρ, g, e, G, rs, p⟩
  match ds, rs, p with
  | [x], rs, p =>
    obtain ⟨v, rfl, rv⟩ := rs.one
    simp only [bi] at p
    cases q : items g x with
    | none => simp only [q] at p; exact p.elim
    | some ys =>
      simp only [q] at p
      obtain ⟨a, zs, rfl, rz, hl⟩ := items_of G rv q
      obtain ⟨k, hk, p⟩ := liftO_some p
      unfold allG at hk
      split at hk
      · rename_i ts ht
        split at hk
        · rename_i hok
          rw [Bool.and_eq_true] at hok
          cases hk
          obtain ⟨u, rfl, ru⟩ := vals1 r
          cases ru
          have fin : ∀ (h' : Heap) (tk : Nat), (∀ b o, s.heap.get? b = some o → h'.get? b = some o) → EP X pins σ Q (.bool (ts.all PyData.truthy)) { s with heap := h', toks := tk } := fun h' tk kp => ⟨.bl _, H, I.kept kp, rfl, p.val G (.bl _)⟩
          rcases hl with ⟨_, hl⟩ | ⟨_, hl⟩
          · obtain ⟨its, r', pl, hz⟩ := I.list (by rw [hK]; exact hl)
            obtain ⟨⟨as, ra⟩, _⟩ := snaps_reads hK I G rz r' ht
            exact PySem.W.all_list_data (I.ok.hd hc) pl.isList (by simpa using ra) hok.2 (fun t h => okT_fits (List.all_eq_true.mp hok.1 t h)) fin
          · obtain ⟨its, r', pl, hz⟩ := I.tuple (by rw [hK]; exact hl)
            obtain ⟨⟨as, ra⟩, _⟩ := snaps_reads hK I G rz r' ht
            exact PySem.W.all_tuple_data (I.ok.hd hc) (show s.heap.IsTuple a its.toArray from pl) (by simpa using ra) hok.2 (fun t h => okT_fits (List.all_eq_true.mp hok.1 t h)) fin
        · cases hk
      · cases hk
  | [], _, p => exact (show False from p).elim
  | x :: y :: z, _, p => exact (show False by cases x <;> exact p).elim
end
end DV
end
section
set_option Elab.async false
set_option linter.all false
set_option maxRecDepth 100000
namespace DV
open PySem PySem.Spec PyProof.Rows L2 RZ
/-- the classes: what the table tells of them is so -/
structure ClsOk (Z : Tab) (T : Clss) : Prop where
  cls : ∀ c k, T[c]? = some k → L2.Cls Z.K (Z.cls c)
  fld : ∀ c k f, T[c]? = some k → k.fields.contains f = true → NoAttr Z.K (Z.cls c) f
  mth : ∀ c k m f, T[c]? = some k → k.meths.lookup m = some f → Meth Z.K (Z.cls c) m (Z.fn f)
section
variable {Z : Tab} {X : Cx} {W : WX} {N : List Str} {sc : Scope} {m : Nat} {T : Clss} {a b c e o elt : Expr} {es ifs : List Expr} {fa fb fc fe fo fi : Ex} {fs : Exs} {pos p p2 apos cpos : Pos} {tc : Te} {t : Tg} {ws : List Nat} {tg iter : Expr} {f : Str}

/-! ### fields -/
theorem RelF.lookup {ρ : List Addr} {H : Hp} : ∀ {xs : List (Str × V)} {ds : List (Str × D)} {d : D}, RelF Z ρ H xs ds → ds.lookup f = some d → ∃ v, xs.lookup f = some v ∧ RelD Z ρ H v d
  | _, _, _, .nil, h => by cases h
  | _, _, d, .cons (f := k) r t, h => by
    rw [List.lookup_cons] at h ⊢
    cases q : f == k with
    | true => rw [q] at h; cases h; exact ⟨_, rfl, r⟩
    | false => rw [q] at h; exact RelF.lookup t h
theorem RelF.none {ρ : List Addr} {H : Hp} : ∀ {xs : List (Str × V)} {ds : List (Str × D)}, RelF Z ρ H xs ds → ds.lookup f = Option.none → xs.lookup f = Option.none
  | _, _, .nil, h => rfl
  | _, _, .cons (f := k) r t, h => by
    rw [List.lookup_cons] at h ⊢
    cases q : f == k with
    | true => rw [q] at h; cases h
    | false => rw [q] at h; exact RelF.none t h
theorem RelF.put {ρ : List Addr} {H : Hp} {v : V} {d : D} (r : RelD Z ρ H v d) : ∀ {xs : List (Str × V)} {ds : List (Str × D)}, RelF Z ρ H xs ds → RelF Z ρ H (L2.putF f v xs) (DV.putF f d ds)
  | _, _, .nil => .cons r .nil
  | _, _, .cons (f := k) q t => by
    unfold L2.putF DV.putF
    by_cases e : k = f
    · rw [if_pos e, if_pos e]; exact .cons r t
    · rw [if_neg e, if_neg e]; exact .cons q (RelF.put r t)
theorem RelF.length {ρ : List Addr} {H : Hp} : ∀ {xs : List (Str × V)} {ds : List (Str × D)}, RelF Z ρ H xs ds → xs.length = ds.length
  | _, _, .nil => rfl
  | _, _, .cons _ t => by simp [RelF.length t]
theorem de_fld (hK : X.K = Z.K) (C : ClsOk Z T) (ha : PE X a (rdE Z W fa)) (hb : attributeBase a f X.env (eval a X.env) = eval a X.env := by rfl) : PE X (.Attribute a f pos) (rdE Z W (Ex.fld T fa f)) := by
  refine PE_imp (pe_fld ha hb) fun σ H Q ⟨δ, ρ, g, G, S, h⟩ => ⟨δ, ρ, g, G, S, (PostR.bind h).imp (fun d ρ1 H1 g1 m1 G1 h1 v rv => ?_) fun _ _ _ _ _ _ _ q => q⟩
  cases rv with
  | ref hn =>
    rename_i a' n
    cases e0 : g1[n]? with
    | none => simp only [DV.fld, e0] at h1; exact h1.elim
    | some o => cases o with
      | ins c fs =>
        simp only [DV.fld, e0] at h1
        cases e1 : T[c]? with
        | none => simp only [e1] at h1; exact h1.elim
        | some k =>
          simp only [e1] at h1
          split at h1
          · rename_i hc
            obtain ⟨d, e2, q⟩ := oD_some h1
            obtain ⟨dx, xs, a1, a2⟩ := G1.ins hn e0
            obtain ⟨w, e3, r⟩ := a2.lookup e2
            rw [hK]
            exact ⟨a', _, dx, xs, w, rfl, a1, C.cls c k e1, C.fld c k f e1 hc, e3, q.val G1 r⟩
          · exact h1.elim
      | _ => simp only [DV.fld, e0] at h1; exact (show False from h1).elim
  | _ => exact (show False from h1).elim
theorem pg_attr {o : Expr} {to : TE} (ho : PE X o to) (ha : ∀ v, assign (.Attribute o f pos) X.env v = (do
      let ov ← holding [v] (eval o X.env)
      standAt pos.atName
      holding [v, ov] (setAttr ov f v)
      release [v, ov] []) := by intro _; rfl) : PG X (.Attribute o f pos) (fun v σ H Q => to σ H fun x H1 => ∃ a C dx fs, x = .ref a ∧ H1 a = some (.ins C dx fs) ∧ L2.Cls X.K C ∧ NoAttr X.K C f ∧ fs.length < 1000 ∧ Q σ (upd H1 a (.ins C dx (L2.putF f v fs)))) := by
  refine ⟨fun pins s σ H v u Q I r h => ?_⟩
  rw [ha]
  refine wpAny_bind (wpAny_holding (thn (ho.run pins s σ H _ I h) fun ov s1 ⟨x, H1, I1, r1, a, C, dx, fs, ex, ea, c, n, l, q1⟩ => ?_))
  subst ex
  obtain rfl : ov = Value.ref a := r1
  refine wpAny_bind (wpAny_standAt (wpAny_bind (wpAny_holding (setattr_ok I1 ea c n l r fun s3 I3 => ?_))))
  exact wpAny_release ⟨σ, _, I3, q1⟩
theorem dg_fld (hX : XOk Z X N sc W m) (C : ClsOk Z T) (ho : PE X o (rdE Z W fo)) (ha : ∀ v, assign (.Attribute o f pos) X.env v = (do
      let ov ← holding [v] (eval o X.env)
      standAt pos.atName
      holding [v, ov] (setAttr ov f v)
      release [v, ov] []) := by intro _; rfl) : PG X (.Attribute o f pos) (rdG Z [] (Tg.fld T fo f)) := by
  refine PG_imp (pg_attr ho ha) fun v σ H Q ⟨d, δ, ρ, g, G, S, r, h⟩ => ⟨δ, ρ, g, G, S, (PostR.eF_to (PostR.bind h)).imp (fun x ρ1 H1 g1 m1 G1 h1 w rw' => ?_) fun _ _ _ _ _ _ _ q => q⟩
  cases rw' with
  | ref hn =>
    rename_i a' n
    cases e0 : g1[n]? with
    | none => simp only [setF, e0] at h1; exact h1.elim
    | some o => cases o with
      | ins c fs =>
        simp only [setF, e0] at h1
        cases e1 : T[c]? with
        | none => simp only [e1] at h1; exact h1.elim
        | some k =>
          simp only [e1] at h1
          split at h1
          · rename_i hc
            rw [Bool.and_eq_true, decide_eq_true_eq] at hc
            obtain ⟨dx, xs, a1, a2⟩ := G1.ins hn e0
            rw [hX.hK]
            refine ⟨a', _, dx, xs, rfl, a1, C.cls c k e1, C.fld c k f e1 hc.1, by rw [a2.length]; exact hc.2, ?_⟩
            have mm := Mw.mk (ρ := ρ1) (H := H1) (ρ' := ρ1) (H' := upd H1 a' (.ins (Z.cls c) dx (L2.putF f v xs))) ⟨[], by simp⟩ (.upd (fun ys z => by rw [a1] at z; cases z) (fun ob u z => by rw [a1] at z; cases z))
            have q := G1.set (o := .ins c (DV.putF f d fs)) (ho := .ins (Z.cls c) dx (L2.putF f v xs)) e0 hn ⟨dx, _, upd_same, RelF.put ((r.mono m1).monoW mm) (a2.monoW mm)⟩
            exact (show PostR Z ρ1 H1 (.ok δ (g1.set n (.ins c (DV.putF f d fs)))) _ _ from h1) ρ1 _ q.2 q.1 σ ((S.mono m1).mono q.2) .refl
          · exact h1.elim
      | _ => simp only [setF, e0] at h1; exact (show False from h1).elim
  | _ => exact (show False from h1).elim

/-! ### o[i] = v -/
theorem dg_sub {i : Expr} (hX : XOk Z X N sc W m) (ho : PE X o (rdE Z W fo)) (hi : PE X i (rdE Z W fi)) (ha : ∀ v, assign (.Subscript o i pos) X.env v = (do
      let ov ← holding [v] (eval o X.env)
      let iv ← holding [v, ov] (eval i X.env)
      standAt pos
      holding [v, ov, iv] (setItem ov iv v)
      release [v, ov, iv] []) := by intro _; rfl) : PG X (.Subscript o i pos) (rdG Z [] (Tg.sub fo fi)) := by
  refine PG_imp (pg_sub ho hi set_list ha) fun v σ H Q ⟨d, δ, ρ, g, G, S, r, h⟩ => ⟨δ, ρ, g, G, S, (PostR.eF_to (PostR.bind h)).imp (fun x ρ1 H1 g1 m1 G1 h1 w rw' => ?_) fun _ _ _ _ _ _ _ q => q⟩
  refine ⟨δ, ρ1, g1, G1, S.mono m1, (PostR.eF_to (PostR.bind h1)).imp (fun y ρ2 H2 g2 m2 G2 h2 u ru => ?_) fun _ _ _ _ _ _ _ q => q⟩
  have rw2 := rw'.mono m2
  cases rw2 with
  | ref hn =>
    rename_i a' n
    cases e0 : g2[n]? with
    | none => simp only [setI, e0] at h2; exact h2.elim
    | some o => cases o with
      | lst xs =>
        cases ru with
        | int k =>
          simp only [setI, e0] at h2
          cases e1 : DV.ixN xs.length k with
          | none => simp only [e1] at h2; exact h2.elim
          | some j =>
            simp only [e1] at h2
            obtain ⟨vs, a1, a2⟩ := G2.lst hn e0
            refine ⟨a', vs, k, j, rfl, rfl, a1, by rw [a2.length]; exact e1, ?_⟩
            have mm := Mw.mk (ρ := ρ2) (H := H2) (ρ' := ρ2) (H' := upd H2 a' (.lst (vs.set j v))) ⟨[], by simp⟩ (.upd (fun ys z => by rw [a1] at z; cases z) (fun ob u z => by rw [a1] at z; cases z))
            have q := G2.set (o := .lst (xs.set j d)) (ho := .lst (vs.set j v)) e0 hn ⟨_, upd_same, RelDs.set (((r.mono m1).mono m2).monoW mm) j (a2.monoW mm)⟩
            exact (show PostR Z ρ2 H2 (.ok δ (g2.set n (.lst (xs.set j d)))) _ _ from h2) ρ2 _ q.2 q.1 σ (((S.mono m1).mono m2).mono q.2) .refl
        | _ => simp only [setI, e0] at h2; exact (show False from h2).elim
      | dic kvs => simp only [setI, e0] at h2; exact (show False from h2).elim
      | ins c fs => simp only [setI, e0] at h2; exact (show False from h2).elim
  | _ => exact (show False from h2).elim

/-! ### methods of lists -/
/-- a method, by values -/
def rM (Z : Tab) (b : Mt) : V → List V → Hp → VK → Prop := fun v vs H Q => ∃ d ds ρ g e, RelG Z ρ H g ∧ RelD Z ρ H v d ∧ RelDs Z ρ H vs ds ∧ PostR Z ρ H (DV.mth b d ds g) (kV Z Q) e
theorem isL_lst {ρ : List Addr} {H : Hp} {g : G} (G : RelG Z ρ H g) {v : V} {d : D} (r : RelD Z ρ H v d) (h : isL true g d = true) : tyV Z.K "list" v H := by
  cases r with
  | ref hn =>
    simp only [isL] at h
    split at h
    · rename_i xs e0
      obtain ⟨vs, a1, a2⟩ := G.lst hn e0
      exact .inl ⟨rfl, vs, SqL.of a1⟩
    · cases h
    · cases h
  | _ => cases h
theorem de_mth0 {name : Str} {id : String} (b : Mt) (hK : X.K = Z.K) (slot : Slot "list" name id) (hty : typeOf (.builtin id) = pure (.type "method_descriptor")) (hm : MtR X id (rM Z b)) (ho : PE X o (rdE Z W fo)) (hb : b.onLst = true := by rfl)
    (hbase : attributeBase o name X.env (eval o X.env) = eval o X.env := by rfl) (hline : (apos.endLine == cpos.line) = true := by rfl) : PE X (.Call (.Attribute o name apos) [] [] cpos) (rdE Z W (Ex.mth b fo exNil)) := by
  refine PE_imp (pe_bm0 PySem.F.plainAttrs_list slot hty hm ho hbase hline) fun σ H Q ⟨δ, ρ, g, G, S, h⟩ => ⟨δ, ρ, g, G, S, (PostR.bind h).imp (fun d ρ1 H1 g1 m1 G1 h1 v rv => ?_) fun _ _ _ _ _ _ _ q => q⟩
  rw [hb] at h1
  split at h1
  · rename_i hl
    exact ⟨by rw [hK]; exact isL_lst G1 rv hl, d, [], ρ1, g1, _, G1, rv, .nil, h1⟩
  · exact h1.elim
theorem de_mth {name : Str} {id : String} (b : Mt) (hK : X.K = Z.K) (slot : Slot "list" name id) (hty : typeOf (.builtin id) = pure (.type "method_descriptor")) (hm : MtR X id (rM Z b)) (ho : PE X o (rdE Z W fo)) (ha : PA X (e :: es) (rdA Z W fs)) (hb : b.onLst = true := by rfl)
    (hbase : attributeBase o name X.env (eval o X.env) = eval o X.env := by rfl)
    (hfew : ((backTo cpos (starEach (e :: es) X.env)).all (fun x => !x.1) && (backToKw cpos (keywordEach [] X.env)).all (fun x => x.1.isSome)
      && decide ((e :: es).length + ([] : List Keyword).length + (if ([] : List Keyword).isEmpty then 0 else 1) < 30)) = true := by rfl)
    (hline : (apos.endLine == cpos.line) = true := by rfl) (hs : starEach (e :: es) X.env = (false, eval e X.env) :: starEach es X.env := by rfl) (hplain : (backTo cpos (starEach es X.env)).any (·.1) = false := by rfl) : PE X (.Call (.Attribute o name apos) (e :: es) [] cpos) (rdE Z W (Ex.mth b fo fs)) := by
  refine PE_imp (pe_bm PySem.F.plainAttrs_list slot hty hm ho ha hbase hfew hline hs hplain) fun σ H Q ⟨δ, ρ, g, G, S, h⟩ => ⟨δ, ρ, g, G, S, (PostR.bind h).imp (fun d ρ1 H1 g1 m1 G1 h1 v rv => ?_) fun _ _ _ _ _ _ _ q => q⟩
  rw [hb] at h1
  split at h1
  · rename_i hl
    exact ⟨by rw [hK]; exact isL_lst G1 rv hl, δ, ρ1, g1, G1, S.mono m1, (PostR.bind h1).imp (fun ds ρ2 H2 g2 m2 G2 h2 vs rvs => ⟨d, ds, ρ2, g2, _, G2, rv.mono m2, rvs, h2⟩) fun _ _ _ _ _ _ _ q => q⟩
  · exact h1.elim
theorem updL {ρ : List Addr} {H : Hp} {a : Addr} {vs : List V} {o : HO} (a1 : H a = some (.lst vs)) : Mw ρ H ρ (upd H a o) := ⟨⟨[], by simp⟩, .upd (fun ys z => by rw [a1] at z; cases z) (fun ob u z => by rw [a1] at z; cases z)⟩
theorem m_append : MtR X "list.append" (rM Z .append) := by
  intro pins s σ H x xs v us Q I rx rxs ⟨d, ds, ρ, g, e, G, r, rs, h⟩
  cases r with
  | @ref a' n hn =>
    match ds, rs, h with
    | [y], rs, h =>
      obtain ⟨w, rfl, rv⟩ := rs.one
      simp only [DV.mth] at h
      split at h
      · rename_i zs e0
        split at h
        · rename_i hl
          obtain ⟨vs, a1, a2⟩ := G.lst hn e0
          have q := G.set (o := .lst (zs ++ [y])) (ho := .lst (vs ++ [w])) e0 hn ⟨_, upd_same, (a2.monoW (updL a1)).append (.cons (rv.monoW (updL a1)) .nil)⟩
          exact mt_append pins s σ H _ _ v us Q I rx rxs ⟨a', vs, w, rfl, rfl, a1, by rw [a2.length, ← line_eq]; exact hl, h ρ _ q.2 q.1 _ .non⟩
        · exact h.elim
      · exact h.elim
    | [], _, h => exact (show False from h).elim
    | _ :: _ :: _, _, h => exact (show False from h).elim
  | _ => exact (show False by match ds, h with
    | [], h => exact h
    | [_], h => exact h
    | _ :: _ :: _, h => exact h).elim
theorem m_pop : MtR X "list.pop" (rM Z .pop) := by
  intro pins s σ H x xs v us Q I rx rxs ⟨d, ds, ρ, g, e, G, r, rs, h⟩
  cases r with
  | @ref a' n hn =>
    match ds, rs, h with
    | [], rs, h =>
      cases rs
      simp only [DV.mth] at h
      split at h
      · rename_i zs e0
        split at h
        · rename_i y hl
          obtain ⟨vs, a1, a2⟩ := G.lst hn e0
          rw [List.getLast?_eq_getElem?] at hl
          obtain ⟨w, w1, w2⟩ := a2.get hl
          have q := G.set (o := .lst zs.dropLast) (ho := .lst vs.dropLast) e0 hn ⟨_, upd_same, (a2.monoW (updL a1)).dropLast⟩
          exact mt_pop pins s σ H _ _ v us Q I rx rxs ⟨a', vs, w, rfl, rfl, a1, by rw [a2.length]; exact w1, h ρ _ q.2 q.1 _ (w2.mono q.2)⟩
        · exact h.elim
      · exact h.elim
    | _ :: _, _, h => exact (show False from h).elim
  | _ => exact (show False by match ds, h with
    | [], h => exact h
    | [_], h => exact h
    | _ :: _ :: _, h => exact h).elim
theorem m_popAt : MtR X "list.pop" (rM Z .popAt) := by
  intro pins s σ H x xs v us Q I rx rxs ⟨d, ds, ρ, g, e, G, r, rs, h⟩
  cases r with
  | @ref a' n hn =>
    match ds, rs, h with
    | [.int i], rs, h =>
      obtain ⟨w, rfl, rv⟩ := rs.one
      cases rv
      simp only [DV.mth] at h
      split at h
      · rename_i zs e0
        split at h
        · rename_i j hj
          split at h
          · rename_i y hy
            split at hj
            · rename_i hb
              obtain ⟨vs, a1, a2⟩ := G.lst hn e0
              obtain ⟨w, w1, w2⟩ := a2.get hy
              have q := G.set (o := .lst (zs.eraseIdx j)) (ho := .lst (vs.eraseIdx j)) e0 hn ⟨_, upd_same, (a2.monoW (updL a1)).eraseIdx j⟩
              exact mt_popAt pins s σ H _ _ v us Q I rx rxs ⟨a', vs, i, j, w, rfl, rfl, a1, by omega, by omega, by rw [a2.length]; exact (ixN_seq hj).1, w1, h ρ _ q.2 q.1 _ (w2.mono q.2)⟩
            · cases hj
          · exact h.elim
        · exact h.elim
      · exact h.elim
    | [.bl _], _, h => exact (show False from h).elim
    | [.non], _, h => exact (show False from h).elim
    | [.str _], _, h => exact (show False from h).elim
    | [.tup _], _, h => exact (show False from h).elim
    | [.ref _], _, h => exact (show False from h).elim
    | [.fn _], _, h => exact (show False from h).elim
    | [.exc _ _], _, h => exact (show False from h).elim
    | [.rol _], _, h => exact (show False from h).elim
    | [], _, h => exact (show False from h).elim
    | x :: _ :: _, _, h => exact (show False by cases x <;> exact h).elim
  | _ => exact (show False by match ds, h with
    | [], h => exact h
    | [x], h => cases x <;> exact h
    | x :: _ :: _, h => cases x <;> exact h).elim
theorem m_extend : MtR X "list.extend" (rM Z .extend) := by
  intro pins s σ H x xs v us Q I rx rxs ⟨d, ds, ρ, g, e, G, r, rs, h⟩
  cases r with
  | @ref a' n hn =>
    match ds, rs, h with
    | [.ref k], rs, h =>
      obtain ⟨w, rfl, rv⟩ := rs.one
      cases rv with
      | @ref b' _ hk =>
        simp only [DV.mth] at h
        split at h
        · rename_i zs ys e0 e1
          split at h
          · rename_i hl
            obtain ⟨vs, a1, a2⟩ := G.lst hn e0
            obtain ⟨us2, b1, b2⟩ := G.lst hk e1
            have q := G.set (o := .lst (zs ++ ys)) (ho := .lst (vs ++ us2)) e0 hn ⟨_, upd_same, (a2.monoW (updL a1)).append (b2.monoW (updL a1))⟩
            exact mt_extend pins s σ H _ _ v us Q I rx rxs ⟨a', b', vs, us2, rfl, rfl, a1, b1, by rw [a2.length, b2.length, ← line_eq]; exact hl, h ρ _ q.2 q.1 _ .non⟩
          · exact h.elim
        · exact h.elim
    | [.bl _], _, h => exact (show False from h).elim
    | [.non], _, h => exact (show False from h).elim
    | [.str _], _, h => exact (show False from h).elim
    | [.tup _], _, h => exact (show False from h).elim
    | [.int _], _, h => exact (show False from h).elim
    | [.fn _], _, h => exact (show False from h).elim
    | [.exc _ _], _, h => exact (show False from h).elim
    | [.rol _], _, h => exact (show False from h).elim
    | [], _, h => exact (show False from h).elim
    | x :: _ :: _, _, h => exact (show False by cases x <;> exact h).elim
  | _ => exact (show False by match ds, h with
    | [], h => exact h
    | [x], h => cases x <;> exact h
    | x :: _ :: _, h => cases x <;> exact h).elim
end
end DV
end
section
set_option Elab.async false
set_option linter.all false
set_option maxRecDepth 100000
namespace DV
open PySem PySem.Spec PyProof.Rows L2 RZ

/-! ### a call's end -/
section
variable {Z : Tab} {ρ ρ' : List Addr} {H H' : Hp}
theorem get_low {t : List Addr} {n : Nat} {a : Addr} (h : (ρ ++ t)[n]? = some a) (hl : n < ρ.length) : ρ[n]? = some a := by rw [List.getElem?_append_left hl] at h; exact h
mutual
theorem RelD.lower {t : List Addr} : ∀ {v : V} {d : D}, RelD Z (ρ ++ t) H v d → d.low ρ.length = true → RelD Z ρ H v d
  | _, _, .non, _ => .non
  | _, _, .bl b, _ => .bl b
  | _, _, .int i, _ => .int i
  | _, _, .str s, _ => .str s
  | _, _, .tup h r, l => .tup h (RelDs.lower r (by rw [D.low] at l; exact l))
  | _, _, .ref h, l => .ref (get_low h (by rw [D.low, decide_eq_true_eq] at l; exact l))
  | _, _, .fn n, _ => .fn n
  | _, _, .rol h, _ => .rol h
theorem RelDs.lower {t : List Addr} : ∀ {v : List V} {d : List D}, RelDs Z (ρ ++ t) H v d → D.lows ρ.length d = true → RelDs Z ρ H v d
  | _, _, .nil, _ => .nil
  | _, _, .cons r rs, l => by
    rw [D.lows, Bool.and_eq_true] at l
    exact .cons (RelD.lower r l.1) (RelDs.lower rs l.2)
end
mutual
theorem RelD.isLow : ∀ {v : V} {d : D}, RelD Z ρ H v d → d.low ρ.length = true
  | _, _, .non => rfl
  | _, _, .bl b => rfl
  | _, _, .int i => rfl
  | _, _, .str s => rfl
  | _, _, .tup h r => by rw [D.low]; exact RelDs.isLow r
  | _, _, .ref h => by rw [D.low, decide_eq_true_eq]; exact (List.getElem?_eq_some_iff.mp h).1
  | _, _, .fn n => rfl
  | _, _, .rol h => rfl
theorem RelDs.isLow : ∀ {v : List V} {d : List D}, RelDs Z ρ H v d → D.lows ρ.length d = true
  | _, _, .nil => rfl
  | _, _, .cons r rs => by rw [D.lows, Bool.and_eq_true]; exact ⟨RelD.isLow r, RelDs.isLow rs⟩
end
theorem RelF.lower {t : List Addr} : ∀ {v : List (Str × V)} {d : List (Str × D)}, RelF Z (ρ ++ t) H v d → (d.all fun p => p.2.low ρ.length) = true → RelF Z ρ H v d
  | _, _, .nil, _ => .nil
  | _, _, .cons r rs, l => by
    rw [List.all_cons, Bool.and_eq_true] at l
    exact .cons (r.lower l.1) (RelF.lower rs l.2)
theorem RelF.isLow : ∀ {v : List (Str × V)} {d : List (Str × D)}, RelF Z ρ H v d → (d.all fun p => p.2.low ρ.length) = true
  | _, _, .nil => rfl
  | _, _, .cons r rs => by rw [List.all_cons, Bool.and_eq_true]; exact ⟨r.isLow, RelF.isLow rs⟩
theorem RelK.lower {t : List Addr} : ∀ {v : List (L2.Key × V)} {d : List (D × D)}, RelK Z (ρ ++ t) H v d → (d.all fun p => p.1.low ρ.length && p.2.low ρ.length) = true → RelK Z ρ H v d
  | _, _, .nil, _ => .nil
  | _, _, .cons r rs, l => by
    rw [List.all_cons, Bool.and_eq_true, Bool.and_eq_true] at l
    exact .cons (r.lower l.1.2) (RelK.lower rs l.2)
theorem RelK.isLow : ∀ {v : List (L2.Key × V)} {d : List (D × D)}, RelK Z ρ H v d → (d.all fun p => p.1.low ρ.length && p.2.low ρ.length) = true
  | _, _, .nil => rfl
  | _, _, .cons (k := k) r rs => by rw [List.all_cons, Bool.and_eq_true, Bool.and_eq_true]; exact ⟨⟨by cases k <;> rfl, r.isLow⟩, RelK.isLow rs⟩
theorem RelO.lower {t : List Addr} {a : Addr} : ∀ {o : O}, RelO Z (ρ ++ t) H a o → o.low ρ.length = true → RelO Z ρ H a o
  | .lst _, ⟨xs, h, r⟩, l => ⟨xs, h, r.lower l⟩
  | .ins _ _, ⟨dx, xs, h, r⟩, l => ⟨dx, xs, h, r.lower l⟩
  | .dic _, ⟨xs, h, r⟩, l => ⟨xs, h, r.lower l⟩
theorem RelO.isLow {a : Addr} : ∀ {o : O}, RelO Z ρ H a o → o.low ρ.length = true
  | .lst _, ⟨xs, h, r⟩ => r.isLow
  | .ins _ _, ⟨dx, xs, h, r⟩ => r.isLow
  | .dic _, ⟨xs, h, r⟩ => r.isLow
theorem RelX.lower {t : List Addr} {cls : Value} {dd : Option Addr} {c : Nat} {x : D} (r : RelX Z (ρ ++ t) H cls dd c x) (l : x.low ρ.length = true) : RelX Z ρ H cls dd c x := by
  refine ⟨r.1, r.2.1, ?_⟩
  have r2 := r.2.2
  cases q : Z.xf c with
  | none => rw [q] at r2; exact r2
  | some f =>
    rw [q] at r2
    obtain ⟨d, v, h1, h2, h3⟩ := r2
    exact ⟨d, v, h1, h2, h3.lower l⟩
theorem RelX.isLow {cls : Value} {dd : Option Addr} {c : Nat} {x : D} (r : RelX Z ρ H cls dd c x) : x.low ρ.length = true := by
  have r2 := r.2.2
  cases q : Z.xf c with
  | none => rw [q] at r2; rw [r2.2]; rfl
  | some f =>
    rw [q] at r2
    obtain ⟨d, v, h1, h2, h3⟩ := r2
    exact h3.isLow
theorem Mv.cut (m : Mv ρ H ρ' H') : Mv ρ H ρ H' := ⟨⟨⟨[], by simp⟩, m.ext⟩, m.fr, fun _ h n => absurd h n⟩
theorem RelG.cut {g g' : G} (G : RelG Z ρ H g) (m : Mv ρ H ρ' H') (G' : RelG Z ρ' H' g') (ho : oldOk g g' = true) : RelG Z ρ H' (g'.take g.length) := by
  obtain ⟨t, rfl⟩ := m.pre
  have hl : g.length ≤ g'.length := by rw [← G.len, ← G'.len, List.length_append]; omega
  refine ⟨by rw [List.length_take, G.len]; omega, G.nd, fun i o a h1 h2 => ?_⟩
  have hi : i < g.length := by rw [← G.len]; exact (List.getElem?_eq_some_iff.mp h2).1
  rw [List.getElem?_take_of_lt hi] at h1
  have r' := G'.obj i o a h1 (by rw [List.getElem?_append_left (by rw [G.len]; exact hi)]; exact h2)
  refine r'.lower ?_
  have z : (g[i], o) ∈ g.zip g' := by
    refine List.mem_iff_getElem?.mpr ⟨i, ?_⟩
    rw [List.getElem?_zip_eq_some]
    exact ⟨List.getElem?_eq_getElem hi, h1⟩
  have q := List.all_eq_true.mp ho _ z
  rw [Bool.or_eq_true, decide_eq_true_eq] at q
  rcases q with q | q
  · have r0 := (G.obj i g[i] a (List.getElem?_eq_getElem hi) h2).isLow
    dsimp only at q
    rw [← q]; exact r0
  · rw [G.len]; exact q
theorem PostR.gc {g : G} {r : R D} {Q : VK} {E : XK} (G : RelG Z ρ H g) (h : PostR Z ρ H (R.gc g r) (kV Z Q) (fun c x ρ' H' _ => ∀ cls dd, RelX Z ρ' H' cls dd c x → E cls dd H')) : PostR Z ρ H r (kV Z Q) (fun c x ρ' H' _ => ∀ cls dd, RelX Z ρ' H' cls dd c x → E cls dd H') := by
  cases r with
  | stuck => exact h
  | exc c x g' =>
    intro ρ' H' m G' cls dd rx
    simp only [R.gc] at h
    split at h
    · rename_i hc
      rw [Bool.and_eq_true] at hc
      have G2 := G.cut m G' hc.2
      obtain ⟨t, rfl⟩ := m.pre
      exact h ρ H' m.cut G2 cls dd (rx.lower (by rw [G.len]; exact hc.1))
    · exact h ρ' H' m G' cls dd rx
  | ok d g' =>
    intro ρ' H' m G' v rv
    have keep : PostR Z ρ H (.ok d g') (kV Z Q) (fun c x ρ' H' _ => ∀ cls dd, RelX Z ρ' H' cls dd c x → E cls dd H') → Q v H' := fun h => h ρ' H' m G' v rv
    simp only [R.gc, DV.gc] at h
    by_cases ho : oldOk g g' = true
    · have G2 := G.cut m G' ho
      rw [if_pos ho] at h
      by_cases hd : d.low g.length = true
      · rw [if_pos hd] at h
        obtain ⟨t, rfl⟩ := m.pre
        exact h ρ H' m.cut G2 v (rv.lower (by rw [G.len]; exact hd))
      · rw [if_neg hd] at h
        cases d with
        | ref n =>
          dsimp only at h
          cases e0 : g'[n]? with
          | none => rw [e0] at h; exact keep h
          | some o =>
            rw [e0] at h
            dsimp only at h
            by_cases hl : o.low g.length = true
            · rw [if_pos hl] at h
              have hn : g.length ≤ n := by
                simp only [D.low, decide_eq_true_eq] at hd
                omega
              obtain ⟨t, rfl⟩ := m.pre
              cases rv with
              | ref ha =>
                rename_i a
                have na : a ∉ ρ := fun z => by
                  obtain ⟨i, hi, e⟩ := List.getElem_of_mem z
                  have nd := G'.nd
                  have h1 : (ρ ++ t)[i]? = some a := by rw [List.getElem?_append_left hi, List.getElem?_eq_getElem hi, e]
                  obtain ⟨l1, e1⟩ := List.getElem?_eq_some_iff.mp h1
                  obtain ⟨l2, e2⟩ := List.getElem?_eq_some_iff.mp ha
                  have := (List.getElem_inj nd).mp (e1.trans e2.symm)
                  rw [← G.len] at hn
                  omega
                have ro := (G'.obj n o a e0 ha).lower (by rw [G.len]; exact hl)
                have hH : H a = none := m.nw a (List.mem_of_getElem? ha) na
                exact h (ρ ++ [a]) H' (m.cut.snoc hH) (G2.snoc na (ro.monoW ⟨⟨[a], rfl⟩, .refl H'⟩ rfl)) _ (.ref (RelG.get_push G.len))
            · rw [if_neg hl] at h
              exact keep h
        | _ => exact keep h
    · rw [if_neg ho] at h
      exact keep h
end

/-! ### defs -/
/-- an exception that a call lets out -/
abbrev eE (Z : Tab) (E : XK) : Nat → D → List Addr → Hp → G → Prop := fun c x ρ H _ => ∀ cls dd, RelX Z ρ H cls dd c x → E cls dd H
/-- what the def n does -/
def spD (Z : Tab) (cl : Cl) (n : Nat) : Sp := fun vs H Q E => ∃ ds ρ g, RelG Z ρ H g ∧ RelDs Z ρ H vs ds ∧ PostR Z ρ H (cl n ds g) (kV Z Q) (eE Z E)
/-- the def n, by a table -/
structure FT (Z : Tab) (lev : Nat) (cl : Cl) (n : Nat) : Prop where
  ex : ∃ (fd : FuncData) (ps : List Str), FnOk Z.P Z.w Z.K Z.mg Z.base (L2.CX Z.P Z.w) lev (Z.fn n) fd ps (spD Z cl n) ∧ PySem.W.keepIn Z.K (.ref (Z.fn n)) = true ∧ Binds Z.K fd ps []
theorem FT.mono {Z : Tab} {j k : Nat} {cl : Cl} {n : Nat} (F : FT Z j cl n) (h : j ≤ k) : FT Z k cl n := let ⟨fd, ps, a, b⟩ := F.ex; ⟨fd, ps, a.mono h, b⟩
/-- in the def itself (not in a block) -/
structure XFn (X : Cx) : Prop where
  pass : PassesOwn (model X.prog X.w) X.A X.env X.xe
  stk : X.stack = X.env :: X.outer
  frm : X.env.frame = some X.env.locals
  fn : ∀ x, X.fn x = true
theorem relS_start {Z : Tab} {ρ : List Addr} {H : Hp} {vs : List V} {ds : List D} {N : List Str} (r : RelDs Z ρ H vs ds) : RelS Z ρ H (L2.start N vs) (DV.start N.length ds) := by
  have hl := r.length
  refine ⟨by simp [L2.start, DV.start, hl], fun i d h => ?_⟩
  unfold DV.start at h
  unfold L2.start
  by_cases hi : i < ds.length
  · rw [List.getElem?_append_left (by simpa using hi), List.getElem?_map] at h
    cases q : ds[i]? with
    | none => rw [q] at h; cases h
    | some e =>
      rw [q] at h
      cases h
      obtain ⟨v, h1, h2⟩ := r.get q
      exact ⟨v, by rw [List.getElem?_append_left (by simpa [hl] using hi), List.getElem?_map, h1]; rfl, h2⟩
  · rw [List.getElem?_append_right (by simpa using hi), List.getElem?_replicate] at h
    split at h <;> cases h
theorem def_okF {Z : Tab} {i np k : Nat} {cl' : Cl} {x qual : Str} {st : Stmt} {fd : FuncData} {N ps : List Str} {b : Sm} (F : Fun Z.K x qual st (Z.fn i) fd) (S : FnScope N ps (defScope st)) (hcl : cl' i = body np N.length b) (hnp : np = ps.length)
    (hbody : ∀ (X : Cx) (W : WX), XOk Z X N (defScope st) W k → XFn X → PSs X (defBody st) (rdS Z W b)) : FnOk Z.P Z.w Z.K Z.mg Z.base (L2.CX Z.P Z.w) (k + 1) (Z.fn i) fd ps (spD Z cl' i) := by
  refine Fun.okX F S (fun vs H Q E h => ?_) (fun cdv A outer s H vs Q E hr hsp => ?_)
  · obtain ⟨ds, ρ, g, G, r, h⟩ := h
    rw [hcl, body] at h
    split at h
    · rename_i hl
      rw [r.length, hl, hnp]
    · exact h.elim
  · obtain ⟨ds, ρ, g, G, r, h⟩ := hsp
    rw [hcl, body] at h
    split at h
    · rename_i hl
      refine ⟨_, hbody _ (fun cls d _ H => E cls d H) ⟨rfl, rfl, rfl, rfl, rfl, rfl, rfl, S.nd, hr, rfl, takes_of rfl rfl rfl rfl⟩ ⟨passes_of rfl, rfl, rfl, fun _ => rfl⟩, DV.start N.length ds, ρ, g, G, relS_start r, ?_⟩
      have h2 := PostR.gc G h
      cases e : b (DV.start N.length ds) g with
      | stuck => rw [e] at h2; exact h2
      | exc c x δ g' =>
        rw [e] at h2
        exact fun ρ' H' σ cls dd m G' _ rx => h2 ρ' H' m G' cls dd rx
      | ok f g' =>
        rw [e] at h2
        cases f with
        | nx δ => exact fun ρ' H' σ m G' _ => h2 ρ' H' m G' _ .non
        | rt d => exact fun ρ' H' v m G' rv => h2 ρ' H' m G' v rv
        | bk δ => exact (show False from h2).elim
        | ct δ => exact (show False from h2).elim
    · exact h.elim

theorem def_ok {Z : Tab} {i np k : Nat} {cl' : Cl} {x qual : Str} {st : Stmt} {fd : FuncData} {N ps : List Str} {b : Sm} (F : Fun Z.K x qual st (Z.fn i) fd) (S : FnScope N ps (defScope st)) (hcl : cl' i = body np N.length b) (hnp : np = ps.length) (hb : Binds Z.K fd ps [])
    (hbody : ∀ (X : Cx) (W : WX), XOk Z X N (defScope st) W k → XFn X → PSs X (defBody st) (rdS Z W b)) : FT Z (k + 1) cl' i := ⟨fd, ps, def_okF F S hcl hnp hbody, F.kp, hb⟩

/-! ### calls -/
section
variable {Z : Tab} {X : Cx} {W : WX} {N : List Str} {sc : Scope} {m lev n : Nat} {T : Clss} {cl : Cl} {a b c e o elt : Expr} {es ifs : List Expr} {fa fb fc fe fo fi : Ex} {fs : Exs} {pos p p2 apos cpos : Pos} {x : Str}
theorem FT.at {cl : Cl} (F : FT Z lev cl n) (hX : XOk Z X N sc W m) : ∃ fd ps, FnOk X.prog X.w X.K X.mg X.base (L2.CX X.prog X.w) lev (Z.fn n) fd ps (spD Z cl n) ∧ PySem.W.keepIn X.K (.ref (Z.fn n)) = true ∧ Binds X.K fd ps [] := by
  obtain ⟨fd, ps, h⟩ := F.ex
  exact ⟨fd, ps, by rw [hX.hP, hX.hw, hX.hK, hX.hM, hX.hB]; exact h⟩
theorem de_call (hX : XOk Z X N sc W m) (F : FT Z lev cl n) (hl : lev ≤ m) (hm : Z.mg x = some (.ref (Z.fn n))) (ha : PA X (e :: es) (rdA Z W fs)) (hg : sc.names.lookup x = some .globalImplicit := by rfl) (hdb : (x == ("__debug__" : Str)) = false := by decide)
    (he : starEach (e :: es) X.env = (false, eval e X.env) :: starEach es X.env := by rfl) (hpl : (backTo pos (starEach es X.env)).any (·.1) = false := by rfl) : PE X (.Call (.Name x p) (e :: es) [] pos) (rdE Z W (Ex.call cl n fs)) := by
  obtain ⟨fd, ps, F, hk, hb⟩ := F.at hX
  refine PE_imp (pe_callS F (hX.room.mono hl) (Gl_of hX hg) (by rw [hX.hM]; exact hm) hk hb (fun σ => passAt hX.takes σ) ha hdb he hpl) fun σ H Q ⟨δ, ρ, g, G, S, h⟩ => ⟨δ, ρ, g, G, S, (PostR.bind h).imp (fun ds ρ1 H1 g1 m1 G1 h1 vs rv => ?_) fun _ _ _ _ _ _ _ q => q⟩
  exact ⟨ds, ρ1, g1, G1, rv, h1⟩
/-- a call of a local name that holds a def -/
theorem de_callV {cnt : Nat} (hX : XOk Z X N sc W m) (F : ∀ n, n < cnt → FT Z lev cl n) (hl : lev ≤ m) (i : Nat) {x : Str} (ha : PA X (e :: es) (rdA Z W fs)) (hi : N[i]? = some x := by rfl) (hv : Vis sc x := by first | exact Or.inl rfl | exact Or.inr (Or.inl rfl) | exact Or.inr (Or.inr rfl)) (hdb : (x == ("__debug__" : Str)) = false := by decide) (hcd : (x == ("__classdict__" : Str)) = false := by decide)
    (he : starEach (e :: es) X.env = (false, eval e X.env) :: starEach es X.env := by rfl) (hpl : (backTo pos (starEach es X.env)).any (·.1) = false := by rfl) : PE X (.Call (.Name x p) (e :: es) [] pos) (rdE Z W (Ex.callV cl cnt i fs)) := by
  refine ⟨fun pins s σ H Q I ⟨δ, ρ, g, G, S, h⟩ => ?_⟩
  unfold Ex.callV Ex.loc at h
  split at h
  · rename_i d e0
    obtain ⟨v, h1, h2⟩ := S.get i d e0
    rw [R.bind_ok] at h
    cases h2 with
    | fn n =>
      dsimp only at h
      split at h
      · rename_i hn
        obtain ⟨fd, ps, F, hk, hb⟩ := (F n hn).at hX
        refine wpAny_Call_Name_kw (thn ((pe_var (pos := p) (by rw [hX.hN]; exact hi) (by rw [hX.sc]; exact hv) hdb hcd).run pins s σ H (fun v H1 => v = .ref (Z.fn n) ∧ H1 = H) I ⟨_, h1, rfl, rfl⟩) fun u s1 ⟨v, H1, I1, r1, q1⟩ => ?_)
        obtain ⟨rfl, rfl⟩ := q1
        cases r1
        refine PySem.W.callWith_K (h₀ := X.base) I.ok.mod.kin hk (thn (ha.run pos pins s1 σ _ (fun vs H1 => spD Z cl n vs H1 Q (WE W σ)) I1 ⟨δ, ρ, g, G, S, (PostR.bind h).imp (fun ds ρ1 H1 g1 m1 G1 h1 vs rv => ⟨ds, ρ1, g1, G1, rv, h1⟩) fun _ _ _ _ _ _ _ q => q⟩) fun us s2 ⟨vs, H2, I2, r, q⟩ => ⟨I2.kIn, ?_⟩) he hpl
        exact run_fnS F (hX.room.mono hl) hb (passAt hX.takes σ) I2 r q
      · exact (show False from h).elim
    | _ => exact (show False from h).elim
  · exact (show False from h).elim
/-! C(..) -/
theorem run_makeS {CX : CXT} {k : Nat} {f C : Addr} {fd : FuncData} {ps : List Str} {sp : Sp} {E : L2.St → XK} {pins : List (Addr × Obj)} {σ : L2.St} {H : Hp} {s : Shared} {Q : VK} {us : List Value} {vs : List V} (M : Mk X.K C f) (F : FnOk X.prog X.w X.K X.mg X.base CX k f fd ps sp) (hr : Room (k + 1) X.A) (hb : Binds X.K fd ps [])
    (hx : PassesAt CX X σ (E σ)) (I : L2.Inv X pins σ H s) (r : Vals vs us)
    (h : ∀ x dx, H x = none → H dx = none → dx ≠ x → sp (.ref x :: vs) (upd (upd H dx (.own x)) x (.ins C dx [])) (fun v H2 => v = .non ∧ Q (.ref x) H2) (E σ)) :
    wpAny (model X.prog X.w) X.A (PySem.call (.ref C) us) (EP X pins σ Q) X.xe s := by
  have hq := h (s.heap.objs.size + 1) s.heap.objs.size (I.hok.fresh (Nat.le_succ _)) (I.hok.fresh (Nat.le_refl _)) (Nat.ne_of_lt (Nat.lt_succ_self _))
  have I2 := L2.Inv.made (C := C) I
  have r2 : Vals (V.ref (s.heap.objs.size + 1) :: vs) (Value.ref (s.heap.objs.size + 1) :: us) := .cons rfl r
  have hl : (Value.ref (s.heap.objs.size + 1) :: us).length = ps.length := by
    have e := r2.length
    rw [F.len _ _ _ _ hq] at e
    exact e.symm
  have bb := hb _ (Value.ref (s.heap.objs.size + 1) :: us) I2.kIn (by rw [List.append_nil]; exact hl)
  rw [List.append_nil] at bb
  refine wpAny_call (make_map (f := f) I.kIn M.makes M.init (beq_iff_eq.mp M.fn) (codeAny_mono (F.run _ X.stack _ _ ⟨Value.ref (s.heap.objs.size + 1) :: us, []⟩ (Value.ref (s.heap.objs.size + 1) :: us) _ _ (E σ) (hr.make C us [])
    (I2.env0.make C us []) bb r2 hq) fun r s' hq' => ?_))
  cases r with
  | error e => exact hx pins _ _ e s' I2 hq'
  | ok fl =>
    cases fl with
    | ret u =>
      obtain ⟨v, H', I3, rv, ev, q3⟩ := I2.after hq'
      subst ev
      exact ⟨rv, ⟨V.ref (s.heap.objs.size + 1), H', I3, rfl, q3⟩⟩
    | next => exact False.elim hq'
    | brk => exact False.elim hq'
    | cont => exact False.elim hq'
theorem new_sp {ci i : Nat} {σ : L2.St} {ρ : List Addr} {H : Hp} {g : G} {vs : List V} {ds : List D} {Q : VK} (G : RelG Z ρ H g) (rv : RelDs Z ρ H vs ds)
    (h : PostR Z ρ H ((cl i (.ref g.length :: ds) (g ++ [.ins ci []])).bind fun v g' => match v with
    | .non => .ok (.ref g.length) g'
    | _ => .stuck) (kV Z Q) (eX Z W σ)) : ∀ x dx, H x = none → H dx = none → dx ≠ x → spD Z cl i (.ref x :: vs) (upd (upd H dx (.own x)) x (.ins (Z.cls ci) dx [])) (fun v H2 => v = .non ∧ Q (.ref x) H2) (WE W σ) := by
  intro x dx hx hd hne
  have m1 : Mv ρ H ρ (upd H dx (.own x)) := Mv.new hd
  have hx' : upd H dx (.own x) x = none := by rw [upd_ne (Ne.symm hne)]; exact hx
  have G1 := G.same (same_new (o := .own x) hd)
  have m2 : Mv ρ H (ρ ++ [x]) (upd (upd H dx (.own x)) x (.ins (Z.cls ci) dx [])) := m1.trans (Mv.push hx')
  have G2 := G1.push (o := .ins ci []) (ho := .ins (Z.cls ci) dx []) hx' ⟨dx, [], upd_same, .nil⟩
  refine ⟨.ref g.length :: ds, ρ ++ [x], g ++ [.ins ci []], G2, .cons (.ref (RelG.get_push G.len)) (rv.mono m2), (PostR.mv m2 (PostR.bind h)).imp (fun d ρ3 H3 g3 m3 G3 h3 v r3 => ?_) fun c x ρ3 H3 g3 m3 G3 q => q⟩
  cases r3 with
  | non => exact ⟨rfl, PostR.val (d := .ref g.length) h3 G3 (.ref (m3.get (RelG.get_push G.len)))⟩
  | _ => exact (show False from h3).elim
theorem de_new {ci i : Nat} (hX : XOk Z X N sc W m) (M : Mk Z.K (Z.cls ci) (Z.fn i)) (F : FT Z lev cl i) (hl : lev + 1 ≤ m) (hm : Z.mg x = some (.ref (Z.cls ci))) (ha : PA X (e :: es) (rdA Z W fs)) (hg : sc.names.lookup x = some .globalImplicit := by rfl) (hdb : (x == ("__debug__" : Str)) = false := by decide)
    (he : starEach (e :: es) X.env = (false, eval e X.env) :: starEach es X.env := by rfl) (hpl : (backTo pos (starEach es X.env)).any (·.1) = false := by rfl) : PE X (.Call (.Name x p) (e :: es) [] pos) (rdE Z W (Ex.new cl ci i fs)) := by
  obtain ⟨fd, ps, F, hk, hb⟩ := F.at hX
  refine ⟨fun pins s σ H Q I ⟨δ, ρ, g, G, S, h⟩ => ?_⟩
  have M' : Mk X.K (Z.cls ci) (Z.fn i) := by rw [hX.hK]; exact M
  refine wpAny_Call_Name_kw (ld_glob I (Gl_of hX hg) (by rw [hX.hM]; exact hm) ?_ hdb)
  refine PySem.W.callWith_K (h₀ := X.base) I.ok.mod.kin M'.kp (thn (ha.run pos pins s σ H (fun vs H1 => ∀ x dx, H1 x = none → H1 dx = none → dx ≠ x → spD Z cl i (.ref x :: vs) (upd (upd H1 dx (.own x)) x (.ins (Z.cls ci) dx [])) (fun v H2 => v = .non ∧ Q (.ref x) H2) (WE W σ)) I
    ⟨δ, ρ, g, G, S, (PostR.bind h).imp (fun ds ρ1 H1 g1 m1 G1 h1 vs rv => new_sp G1 rv h1) fun _ _ _ _ _ _ _ q => q⟩) fun us s1 ⟨vs, H1, I1, r, q⟩ => ⟨I1.kIn, ?_⟩) he hpl
  exact run_makeS M' F (hX.room.mono hl) hb (passAt hX.takes σ) I1 r q
theorem de_new0 {ci i : Nat} (hX : XOk Z X N sc W m) (M : Mk Z.K (Z.cls ci) (Z.fn i)) (F : FT Z lev cl i) (hl : lev + 1 ≤ m) (hm : Z.mg x = some (.ref (Z.cls ci))) (hg : sc.names.lookup x = some .globalImplicit := by rfl) (hdb : (x == ("__debug__" : Str)) = false := by decide) : PE X (.Call (.Name x p) [] [] pos) (rdE Z W (Ex.new cl ci i exNil)) := by
  obtain ⟨fd, ps, F, hk, hb⟩ := F.at hX
  refine ⟨fun pins s σ H Q I ⟨δ, ρ, g, G, S, h⟩ => ?_⟩
  have M' : Mk X.K (Z.cls ci) (Z.fn i) := by rw [hX.hK]; exact M
  refine wpAny_Call_Name_kw (ld_glob I (Gl_of hX hg) (by rw [hX.hM]; exact hm) ?_ hdb)
  exact PySem.W.callWith_K0 I.kIn M'.kp (run_makeS (us := []) M' F (hX.room.mono hl) hb (passAt hX.takes σ) I .nil (new_sp G .nil h))
/-! o.m(..) -/
theorem meth_of {ρ : List Addr} {H : Hp} {g : G} (C : ClsOk Z T) (G : RelG Z ρ H g) {v : V} {d : D} {ci : Nat} {fs : List (Str × D)} {k : DV.Cls} {n : Nat} {f : Nat} {mn : Str} (hd : d = .ref n) (r : RelD Z ρ H v d) (e0 : g[n]? = some (.ins ci fs)) (e1 : T[ci]? = some k) (e2 : k.meths.lookup mn = some f) (e3 : fs.lookup mn = none) :
    ∃ a dx xs, v = .ref a ∧ H a = some (.ins (Z.cls ci) dx xs) ∧ L2.Cls Z.K (Z.cls ci) ∧ Meth Z.K (Z.cls ci) mn (Z.fn f) ∧ xs.lookup mn = none := by
  subst hd
  cases r with
  | ref hn =>
    obtain ⟨dx, xs, a1, a2⟩ := G.ins hn e0
    exact ⟨_, dx, xs, rfl, a1, C.cls ci k e1, C.mth ci k mn f e1 e2, a2.none e3⟩
theorem de_meth {pl : Sem Bool} {mn : Str} {cnt : Nat} (hX : XOk Z X N sc W m) (C : ClsOk Z T) (F : ∀ n, n < cnt → FT Z lev cl n) (hl : lev ≤ m) (hT : (T.all fun k => k.meths.all fun q => decide (q.2 < cnt)) = true) (ho : PE X o (rdE Z W fo)) (ha : PA X (e :: es) (rdA Z W fs))
    (ht : eval (.Call (.Attribute o mn apos) (e :: es) [] pos) X.env = (do
      let ov ← eval o X.env
      standAt apos.atName
      let (f, first) ← holding [ov] (getMethod ov mn pl)
      callWith pos f first (backTo pos (starEach (e :: es) X.env)) (backToKw pos (keywordEach [] X.env))))
    (hst : starEach (e :: es) X.env = (false, eval e X.env) :: starEach es X.env := by rfl) (hpl : (backTo pos (starEach es X.env)).any (·.1) = false := by rfl) : PE X (.Call (.Attribute o mn apos) (e :: es) [] pos) (rdE Z W (Ex.meth T cl fo mn fs)) := by
  refine ⟨fun pins s σ H Q I ⟨δ, ρ, g, G, S, h⟩ => ?_⟩
  refine PySem.W.methodCall_KW (pl := pl) (thn (ho.run pins s σ H (fun v H1 => ∃ n ρ1 g1 ci fs0 k f, RelG Z ρ1 H1 g1 ∧ RelS Z ρ1 H1 σ δ ∧ RelD Z ρ1 H1 v (.ref n) ∧ g1[n]? = some (.ins ci fs0) ∧ T[ci]? = some k ∧ k.meths.lookup mn = some f ∧ fs0.lookup mn = none ∧ PostR Z ρ1 H1 ((fs δ g1).bind fun ds g => cl f (.ref n :: ds) g) (kV Z Q) (eX Z W σ)) I
    ⟨δ, ρ, g, G, S, (PostR.bind h).imp (fun d ρ1 H1 g1 m1 G1 h1 v rv => ?_) fun _ _ _ _ _ _ _ q => q⟩) fun u s1 ⟨v, H1, I1, ru, n, ρ1, g1, ci, fs0, k, f, G1, S1, rv, e0, e1, e2, e3, h1⟩ => ?_) ht
  · cases d with
    | ref n =>
      dsimp only at h1
      cases e0 : g1[n]? with
      | none => rw [e0] at h1; exact h1.elim
      | some ob => cases ob with
        | ins ci fs0 =>
          rw [e0] at h1
          dsimp only at h1
          cases e1 : T[ci]? with
          | none => rw [e1] at h1; exact h1.elim
          | some k =>
            rw [e1] at h1
            dsimp only at h1
            split at h1
            · rename_i f e2 e3
              exact ⟨n, ρ1, g1, ci, fs0, k, f, G1, S.mono m1, rv, e0, e1, e2, e3, h1⟩
            · exact h1.elim
        | _ => rw [e0] at h1; exact (show False from h1).elim
    | _ => exact (show False from h1).elim
  · obtain ⟨a, dx, xs, rfl, ea, c, hm, l⟩ := meth_of C G1 rfl rv e0 e1 e2 e3
    obtain rfl : u = Value.ref a := ru
    have hf : f < cnt := by
      have q1 := List.all_eq_true.mp hT k (List.mem_of_getElem? e1)
      have q2 := List.all_eq_true.mp q1 (mn, f) (PySem.mem_of_lookup e2)
      simpa using q2
    obtain ⟨fd, ps, F, hk, hb⟩ := (F f hf).at hX
    have hm' : Meth X.K (Z.cls ci) mn (Z.fn f) := by rw [hX.hK]; exact hm
    refine getmeth_ok I1 ea (by rw [hX.hK]; exact c) hm' l ?_
    refine PySem.W.callWith_K (first := [.ref a]) (h₀ := X.base) I.ok.mod.kin hm'.kp (thn (ha.run pos pins s1 σ H1 (fun vs H2 => spD Z cl f (.ref a :: vs) H2 Q (WE W σ)) I1 ⟨δ, ρ1, g1, G1, S1, (PostR.bind h1).imp (fun ds ρ2 H2 g2 m2 G2 h2 vs rvs => ⟨_, ρ2, g2, G2, .cons (rv.mono m2) rvs, h2⟩) fun _ _ _ _ _ _ _ q => q⟩) fun us s2 ⟨vs, H2, I2, r, q2⟩ => ⟨I2.kIn, ?_⟩) hst hpl
    exact run_fnS (us := .ref a :: us) (vs := .ref a :: vs) F (hX.room.mono hl) hb (passAt hX.takes σ) I2 (.cons rfl r) q2
end
end DV
end
section
set_option Elab.async false
set_option linter.all false
set_option maxRecDepth 100000
namespace DV
open PySem PySem.Spec PyProof.Rows L2 RZ
section
variable {Z : Tab} {X : Cx} {W : WX} {N : List Str} {sc : Scope} {m lev n : Nat} {T : Clss} {cl : Cl} {a b c e o elt : Expr} {es ifs : List Expr} {fa fb fc fe fo fi : Ex} {fs : Exs} {pos p p2 apos cpos : Pos} {x : Str} {s1 : Sm}
/-- X(), X an own exception class without own __init__ -/
theorem pmk_own0 {C : Addr} {bmB : List Value} {B newId initId : String} {x : Str} {p : Pos} (F : ExcBaseFacts B newId initId bmB) (q : PySem.W.excIn X.K C bmB newId = true) (gC : X.mg x = some (.ref C))
    (kC : PySem.W.keepIn X.K (.ref C) = true) (r : Raises X (.ref C)) (hg : Gl X x) (hdb : (x == ("__debug__" : Str)) = false := by decide) :
    PMk X (.Call (.Name x p) [] [] pos) (fun _ H Q => Q (.ref C) none H) := by
  intro pins s σ H Q I h
  refine wpAny_Call_Name_kw (ld_glob I hg gC ?_ hdb)
  refine PySem.W.callWith_K0 I.kIn kC ?_
  show wpAny _ _ (PySem.call (.ref C) []) _ _ _
  obtain ⟨bm, N, nm, qn, bs, hdct, sn, sub, ab, col, dd, k0, k1, k2, k3, k5, mN, hC, hN, hni, T⟩ := exc_obj I.kIn q
  refine wpAny_call_exc_subT F T hC hN hni (fun h' e hm => ?_) (by show 0 ≤ sizeLine; omega)
  exact mk_of I hm r h (I.hok.gone hm.new)
/-- an own exception class, as the table has it -/
structure ExcOk (Z : Tab) (c : Nat) : Prop where
  lt : c < Z.ne
  xf : Z.xf c = none
  ex : ∃ (B newId initId : String) (bmB : List Value), ExcBaseFacts B newId initId bmB ∧ PySem.W.excIn Z.K (Z.exc c) bmB newId = true
  kp : PySem.W.keepIn Z.K (.ref (Z.exc c)) = true
  rs : ∀ X : Cx, X.K = Z.K → X.prog = Z.P → X.w = Z.w → X.base = Z.base → X.mg = Z.mg → Raises X (.ref (Z.exc c))
theorem ds_raise0 (hX : XOk Z X N sc W m) (cx : Nat) (K : ExcOk Z cx) (hm : Z.mg x = some (.ref (Z.exc cx))) {pos' : Pos} (hg : sc.names.lookup x = some .globalImplicit := by rfl) (hdb : (x == ("__debug__" : Str)) = false := by decide) :
    PS X (.Raise (some (.Call (.Name x p) [] [] pos)) none pos') (rdS Z W (Sm.raise cx (Ex.cst .non))) := by
  obtain ⟨B, newId, initId, bmB, F, q⟩ := K.ex
  refine PS_imp (ps_raise hX.calm hX.takes (pmk_own0 F (by rw [hX.hK]; exact q) (by rw [hX.hM]; exact hm) (by rw [hX.hK]; exact K.kp) (K.rs X hX.hK hX.hP hX.hw hX.hB hX.hM) (Gl_of hX hg) hdb)) fun D σ H ⟨δ, ρ, g, G, S, h⟩ => ?_
  exact (show PostS Z W D ρ H (.exc cx .non δ g) from h) ρ H σ _ none (.refl ρ H) G S ⟨K.lt, rfl, by rw [K.xf]; exact ⟨rfl, rfl⟩⟩

/-! ### try -/
inductive HsOk (Z : Tab) (X : Cx) : List ExceptHandler → List Hd → Prop
  | nil : HsOk Z X [] []
  | cons {x : Str} {c : Nat} {b₀ : Stmt} {suite : List Stmt} {np pos' : Pos} {hds : List ExceptHandler} {l : List Hd} {s1 : Sm} (hc : Names X x (.ref (Z.exc c))) (hx : ∀ c', c' < Z.ne → PySem.W.exmOne Z.K (.ref (Z.exc c')) (.ref (Z.exc c)) = some (decide (c = c')))
      (hsu : ∀ (a : Addr) (oe : Obj) (pn : List (Addr × Obj)), PSs (X.suite a ((a, oe) :: pn)) (b₀ :: suite) (rdS Z W0 s1)) (r : HsOk Z X hds l) :
      HsOk Z X (.ExceptHandler (some (.Name x np)) none (b₀ :: suite) pos' :: hds) (⟨c, none, s1⟩ :: l)
theorem RS.hush_of {D : Ends} {ρ : List Addr} {H : Hp} {r : RS} (h : PostS Z W D ρ H (RS.hush r)) : PostS Z W0 D ρ H r := by
  cases r with
  | ok f g => cases f <;> exact h
  | exc c x δ g => exact (show False from h).elim
  | stuck => exact h
def hdsL (Z : Tab) : List Hd → List (Value × (Addr → Value → Option Addr → TS))
  | [] => []
  | h :: r => (.ref (Z.exc h.c), fun _ _ _ => rdS Z W0 h.s) :: hdsL Z r
theorem HsOk.hds {hds : List ExceptHandler} {l : List Hd} (h : HsOk Z X hds l) : HdsOk X hds (hdsL Z l) := by
  induction h with
  | nil => exact .nil
  | cons hc hx hsu r ih => exact .cons hc (fun a oe cls d pn _ _ => hsu a oe pn) ih
theorem wMany_of {hds : List ExceptHandler} {l : List Hd} (hh : HsOk Z X hds l) (hK : X.K = Z.K) {DE : Ends} {ρ : List Addr} {H : Hp} {σ : L2.St} {δ : Env} {g : G} {cx : Nat} {y : D} {cls : Value} {dd : Option Addr} (G : RelG Z ρ H g) (S : RelS Z ρ H σ δ) (rx : RelX Z ρ H cls dd cx y)
    (h : PostS Z W DE ρ H (handle l cx y δ g)) : wMany X.K W DE (hdsL Z l) cls dd σ H := by
  induction hh with
  | nil => exact (show PostS Z W DE ρ H (.exc cx y δ g) from h) ρ H σ cls dd (.refl ρ H) G S rx
  | @cons x c b₀ suite np pos' hds l s1 hc hx hsu r ih =>
    have rx1 := rx.1
    have rx2 := rx.2.1
    subst rx2
    refine ⟨decide (c = cx), by rw [hK]; exact hx cx rx1, fun hb a ha => ?_, fun hb => ?_⟩
    · have e : c = cx := of_decide_eq_true hb
      rw [handle, if_pos e] at h
      exact ⟨δ, ρ, g, G, S, RS.hush_of h⟩
    · have e : ¬ c = cx := of_decide_eq_false hb
      rw [handle, if_neg e] at h
      exact ih h
theorem ds_try {body : List Stmt} {h₀ : ExceptHandler} {hds : List ExceptHandler} {l : List Hd} (hX : XOk Z X N sc W m) (xf : XFn X) (hb : ∀ (W' : WX) (X' : Cx), XOk Z X' N sc W' m → XFn X' → PSs X' body (rdS Z W' s1)) (hh : HsOk Z X (h₀ :: hds) l) :
    PS X (.Try body (h₀ :: hds) [] [] pos) (rdS Z W (Sm.try s1 l)) := by
  refine PS_imp (ps_try_many xf.stk xf.frm hX.takes (fun W' pn xe tk ps => hb W' (X.tr pn xe) ⟨hX.hN, hX.hK, hX.hP, hX.hw, hX.hM, hX.hB, hX.sc, hX.nd, hX.room, hX.calm, tk⟩ ⟨ps, xf.stk, xf.frm, xf.fn⟩) hh.hds) fun D σ H ⟨δ, ρ, g, G, S, h⟩ => ⟨δ, ρ, g, G, S, ?_⟩
  unfold Sm.try at h
  cases e : s1 δ g with
  | ok f g' => rw [e] at h; cases f <;> exact h
  | stuck => rw [e] at h; exact h
  | exc cx y δ' g' =>
    rw [e] at h
    exact fun ρ' H' σ' cls dd m' G' S' rx => wMany_of hh hX.hK G' S' rx (PostS.mv m' h)
end
end DV
end
section
set_option Elab.async false
set_option linter.all false
set_option maxRecDepth 100000
namespace DV
open PySem PySem.Spec PyProof.Rows L2 RZ
section
variable {Z : Tab} {X : Cx} {W : WX} {N : List Str} {sc : Scope} {m : Nat} {a b c e kx vx : Expr} {es ifs : List Expr} {fa fb fc fk fv : Ex} {pos p p2 : Pos} {tc : Te} {t : Tg} {ws : List Nat} {tg iter : Expr} {fi : Ie} {scope : Scope} {own : List (Str × Nat)}
theorem RelK.map {ρ : List Addr} {H : Hp} {k : L2.Key} {v : V} {d : D} (r : RelD Z ρ H v d) : ∀ {xs : List (L2.Key × V)} {ds : List (D × D)}, RelK Z ρ H xs ds → (xs.any fun kv => decide (kv.1 = k)) = true → (xs.map (·.1)).Nodup → RelK Z ρ H (xs.map fun kv => if kv.1 = k then (kv.1, v) else kv) (dput ds (kD k) d)
  | _, _, .nil, h, _ => by simp at h
  | _, _, .cons (k := j) (x := x) (xs := xs) (ds := ds) q t, h, nd => by
    rw [List.map_cons, List.nodup_cons] at nd
    by_cases e : j = k
    · subst e
      have hn : (xs.map fun kv => if kv.1 = j then (kv.1, v) else kv) = xs := by
        refine Eq.trans (List.map_congr_left (g := id) fun kv hkv => ?_) (List.map_id _)
        refine if_neg fun z => ?_
        have q := List.mem_map_of_mem (f := Prod.fst) hkv
        rw [z] at q
        exact nd.1 q
      rw [List.map_cons, hn, dput, if_pos rfl]
      dsimp only
      rw [if_pos rfl]
      exact .cons r t
    · have e' : ¬ kD j = kD k := fun z => e (kD_inj z)
      rw [List.map_cons, dput, if_neg e']
      dsimp only
      rw [if_neg e]
      exact .cons q (RelK.map r t (by simpa [e] using h) nd.2)
theorem RelK.snoc {ρ : List Addr} {H : Hp} {k : L2.Key} {v : V} {d : D} (r : RelD Z ρ H v d) : ∀ {xs : List (L2.Key × V)} {ds : List (D × D)}, RelK Z ρ H xs ds → (xs.any fun kv => decide (kv.1 = k)) = false → RelK Z ρ H (xs ++ [(k, v)]) (dput ds (kD k) d)
  | _, _, .nil, h => .cons r .nil
  | _, _, .cons (k := j) q t, h => by
    rw [List.any_cons, Bool.or_eq_false_iff, decide_eq_false_iff_not] at h
    have e' : ¬ kD j = kD k := fun z => h.1 (kD_inj z)
    rw [List.cons_append, dput, if_neg e']
    exact .cons q (RelK.snoc r t h.2)
theorem RelK.put {ρ : List Addr} {H : Hp} {k : L2.Key} {v : V} {d : D} (r : RelD Z ρ H v d) {xs : List (L2.Key × V)} {ds : List (D × D)} (q : RelK Z ρ H xs ds) (nd : (xs.map (·.1)).Nodup) : RelK Z ρ H (putK xs k v) (dput ds (kD k) d) := by
  unfold putK
  by_cases h : (xs.any fun kv => decide (kv.1 = k)) = true
  · rw [if_pos h]; exact q.map r h nd
  · rw [if_neg h]; exact q.snoc r (Bool.eq_false_iff.mpr h)
theorem nodup_putK {xs : List (L2.Key × V)} {k : L2.Key} {v : V} (nd : (xs.map (·.1)).Nodup) : ((putK xs k v).map (·.1)).Nodup := by
  unfold putK
  split
  · rw [List.map_map]
    have : ((·.1) ∘ fun kv : L2.Key × V => if kv.1 = k then (kv.1, v) else kv) = (·.1) := by
      funext kv
      show (if kv.1 = k then (kv.1, v) else kv).1 = kv.1
      split <;> rfl
    rw [this]; exact nd
  · rename_i h
    rw [List.map_append, List.nodup_append]
    refine ⟨nd, by simp, fun a ha b hb => ?_⟩
    simp at hb
    subst hb
    rintro rfl
    obtain ⟨p, hp, e⟩ := List.mem_map.mp ha
    exact h (List.any_eq_true.mpr ⟨p, hp, by simpa using e⟩)
theorem key_ofD {ρ : List Addr} {H : Hp} {v : V} {d : D} (r : RelD Z ρ H v d) (h : keyOk 7 d = true) : ∃ k, v = L2.kV k ∧ d = kD k := by
  cases r with
  | int i => exact ⟨.inl i, rfl, rfl⟩
  | str s => exact ⟨.inr s, rfl, rfl⟩
  | _ => cases h
theorem RelK.length {ρ : List Addr} {H : Hp} : ∀ {xs : List (L2.Key × V)} {ds : List (D × D)}, RelK Z ρ H xs ds → xs.length = ds.length
  | _, _, .nil => rfl
  | _, _, .cons _ t => by simp [RelK.length t]
theorem RelK.mono {ρ ρ' : List Addr} {H H' : Hp} (m : Mv ρ H ρ' H') {xs : List (L2.Key × V)} {ds : List (D × D)} (r : RelK Z ρ H xs ds) : RelK Z ρ' H' xs ds := r.monoW m.toMw
theorem tDc_of {wi : TI} {σ : L2.St} {H : Hp} {Q : VK} (hsub : ∀ i ∈ ws, i ∈ own.map (·.2)) (h : rdE Z W (Ex.dcomp (own.map (·.2)) fi t tc fk fv) σ H Q) (hi : wi = rdI Z W fi) : tDc wi (rdG Z ws t) (rdT Z W0 tc) (rdE Z W0 fk) (rdE Z W0 fv) (own.map (·.2)) σ H Q := by
  subst hi
  obtain ⟨δ, ρ, g, G, S, h⟩ := h
  refine ⟨δ, ρ, g, G, S, (PostR.bind h).imp (fun it ρ1 H1 g1 m1 G1 h1 J hJ D hD => ?_) fun _ _ _ _ _ _ _ q => q⟩
  have h1' := PostR.hushE (e' := eF) (PostR.bind0 h1)
  have S1 := S.mono m1
  have nD1 : D ∉ ρ1 := fun z => by obtain ⟨u, hu⟩ := G1.tracked z; rw [hD] at hu; cases hu
  refine ⟨fun i n H' => ∃ ρ' g' acc vs', Mv ρ1 H1 ρ' H' ∧ RelG Z ρ' H' g' ∧ D ∉ ρ' ∧ H' D = some (.dK vs') ∧ RelK Z ρ' H' vs' acc ∧ (vs'.map (·.1)).Nodup ∧
    PostR Z ρ1 H1 (dcompLoop it t tc fk fv (DV.wipe δ (own.map (·.2))) n i acc g') (fun ds _ _ g2 => PostR Z ρ1 H1 (.ok (.ref g2.length) (g2 ++ [.dic ds])) (kV Z Q) (eX Z W σ)) eF,
    ⟨fuel, ρ1, g1, [], [], Mv.new hD, G1.same (same_new hD), nD1, upd_same, .nil, List.nodup_nil, h1'⟩, ?_⟩
  rintro i n H2 ⟨ρ2, g2, acc, vs2, m2, G2, n2, l2, r2, nd2, h2⟩
  cases n with
  | zero => exact (show False from h2).elim
  | succ n =>
    rw [dcompLoop] at h2
    have q := hJ ρ2 H2 g2 i m2 G2
    cases e : it.at i g2 with
    | none => simp only [e] at h2; exact h2.elim
    | some o => cases o with
      | none =>
        simp only [e] at h2 q
        refine .inl ⟨q, ?_⟩
        have h3 := h2 ρ2 H2 m2 G2
        exact h3 (ρ2 ++ [D]) H2 (m2.snoc hD) (G2.snoc n2 ⟨vs2, l2, r2.monoW ⟨⟨[D], rfl⟩, .refl _⟩⟩) _ (.ref (RelG.get_push G2.len))
      | some d =>
        simp only [e] at h2 q
        refine .inr ⟨q.1, _, fun H' w => ⟨n, Nat.lt_succ_self n, w⟩, fun x H' y => ?_⟩
        obtain ⟨ρ3, m3, G3, r3⟩ := q.2 x H' y
        obtain ⟨l3, n3⟩ := m3.own l2 n2
        have b3 := m2.trans m3
        refine ⟨d, _, ρ3, g2, G3, ((S1.mono b3).wipe _), r3, (PostR.mv b3 (PostR.bind0 h2)).imp (fun δ4 ρ4 H4 g4 m4 G4 h4 σ4 S4 w4 => ⟨?_, ?_⟩) fun _ _ _ _ _ _ _ q => q⟩
        · rw [w4 _ hsub]
          refine List.ext_getElem? fun j => ?_
          rw [wipe_get, wipe_get]
          split <;> first | rfl | (cases σ[j]? <;> rfl)
        obtain ⟨l4, n4⟩ := m4.own l3 n3
        have b4 := b3.trans m4
        refine ⟨δ4, ρ4, g4, G4, S4, (PostR.eF_to (PostR.mv b4 (PostR.bind0 h4))).imp (fun k ρ5 H5 g5 m5 G5 h5 => ?_) fun _ _ _ _ _ _ _ q => q⟩
        obtain ⟨l5, n5⟩ := m5.own l4 n4
        have b5 := b4.trans m5
        show if k = true then _ else _
        cases k with
        | false => exact ⟨ρ5, g5, acc, vs2, b5, G5, n5, l5, r2.mono ((m3.trans m4).trans m5), nd2, h5⟩
        | true =>
          rw [if_pos rfl] at h5
          refine ⟨δ4, ρ5, g5, G5, S4.mono m5, (PostR.eF_to (PostR.mv b5 (PostR.bind0 h5))).imp (fun kk ρ6 H6 g6 m6 G6 h6 v rv => ?_) fun _ _ _ _ _ _ _ q => q⟩
          obtain ⟨l6, n6⟩ := m6.own l5 n5
          have b6 := b5.trans m6
          refine ⟨δ4, ρ6, g6, G6, (S4.mono m5).mono m6, (PostR.eF_to (PostR.mv b6 (PostR.bind0 h6))).imp (fun yv ρ7 H7 g7 m7 G7 h7 w rw' => ?_) fun _ _ _ _ _ _ _ q => q⟩
          obtain ⟨l7, n7⟩ := m7.own l6 n6
          have b7 := b6.trans m7
          split at h7
          · rename_i hz
            obtain ⟨kk', rfl, rfl⟩ := key_ofD rv hz.2
            have r7 := r2.mono ((((m3.trans m4).trans m5).trans m6).trans m7)
            refine ⟨vs2, kk', rfl, l7, by rw [r7.length, ← line_eq]; exact hz.1, ρ7, g7, dput acc (kD kk') yv, putK vs2 kk' w, b7.updNew hD (fun xs z => by rw [l7] at z; cases z) (fun ob u z => by rw [l7] at z; cases z),
              G7.other n7 (fun xs z => by rw [l7] at z; cases z) (fun ob u z => by rw [l7] at z; cases z), n7, upd_same, ?_, nodup_putK nd2, h7⟩
            have mm : Mw ρ7 H7 ρ7 (upd H7 D (.dK (putK vs2 kk' w))) := ⟨⟨[], by simp⟩, .upd (fun xs z => by rw [l7] at z; cases z) (fun ob u z => by rw [l7] at z; cases z)⟩
            exact RelK.put (rw'.monoW mm) (r7.monoW mm) nd2
          · exact h7.elim
theorem de_dcomp (hX : XOk Z X N sc W m) (own : List (Str × Nat)) (hi : PI X tg iter (rdI Z W fi)) (hg : ∀ (s : Shared) (H : Hp) (C : Addr) (cl : List (Str × Addr)) (fp : List Addr), PG (X.blk s H scope (compEnvC scope cl C X.env) fp) tg (rdG Z ws t))
    (ht : ∀ (s : Shared) (H : Hp) (C : Addr) (cl : List (Str × Addr)) (fp : List Addr), PTs (X.blk s H scope (compEnvC scope cl C X.env) fp) ifs (rdT Z W0 tc)) (hk : ∀ (s : Shared) (H : Hp) (C : Addr) (cl : List (Str × Addr)) (fp : List Addr), PE (X.blk s H scope (compEnvC scope cl C X.env) fp) kx (rdE Z W0 fk))
    (hv : ∀ (s : Shared) (H : Hp) (C : Addr) (cl : List (Str × Addr)) (fp : List Addr), PE (X.blk s H scope (compEnvC scope cl C X.env) fp) vx (rdE Z W0 fv))
    (ok : blkC N sc scope own = true := by decide +kernel) (hsub : ∀ i ∈ ws, i ∈ own.map (·.2) := by decide) (hs : ∀ x, foldedSetIterable iter X.env x = pure x := by intro _; rfl) : PE X (.DictComp kx vx [⟨tg, iter, ifs, 0⟩] scope pos) (rdE Z W (Ex.dcomp (own.map (·.2)) fi t tc fk fv)) :=
  PE_imp (pe_dc hX.calm (by rw [hX.hN]; exact hX.nd) hi (by rw [hX.hN, hX.sc]; exact blkOk_by ok) hg ht hk hv hs) fun σ H Q h => tDc_of hsub h rfl
end
end DV
end
section
set_option Elab.async false
set_option linter.all false
set_option maxRecDepth 100000
namespace DV
open PySem PySem.Spec PyProof.Rows L2 RZ
section
variable {Z : Tab} {X : Cx} {W : WX} {N : List Str} {sc : Scope} {m lev : Nat} {T : Clss} {cl : Cl} {a b c e o elt : Expr} {es ifs : List Expr} {fa fb fc fe fo : Ex} {fs : Exs} {pos p p2 apos cpos : Pos} {tc : Te} {t : Tg} {ws : List Nat} {tg iter : Expr} {fi : Ie} {scope : Scope} {own : List (Str × Nat)} {x y : Str}
/-- a < b < c as a test -/
theorem dt_chain {op op' : CmpOp} {o o' : Cmp} (ho : OpD Z X W (compareOp op) (fun x y g => liftO (cmpD o x y g) g)) (ho' : OpD Z X W (compareOp op') (fun x y g => liftO (cmpD o' x y g) g)) (ha : PE X a (rdE Z W fa)) (hb : PE X b (rdE Z W fb)) (hc : PE X c (rdE Z W fc))
    (hm : lastMarks [op, op'] [b, c] = false := by with_unfolding_all rfl) : PT X (.Compare a [op, op'] [b, c] pos) (rdT Z W (Te.ex (Ex.chain o o' fa fb fc))) := by
  refine ⟨fun pins s σ H Q I ⟨δ, ρ, g, G, S, h⟩ => ?_⟩
  let KK : D → List Addr → Hp → DV.G → Prop := fun d ρ2 H2 g2 => PostR Z ρ2 H2 (match truth g2 d with
    | some b => .ok b g2
    | none => .stuck) (kT Q) (eX Z W σ)
  have h0 : PostR Z ρ H (Ex.chain o o' fa fb fc δ g) KK (eX Z W σ) := PostR.bind h
  refine isTrue_chain (thn (ha.run pins s σ H (fun x H1 => ∃ dx ρ1 g1, Mv ρ H ρ1 H1 ∧ RelG Z ρ1 H1 g1 ∧ RelD Z ρ1 H1 x dx ∧ PostR Z ρ1 H1 ((fb δ g1).bind fun y g => match cmpD o dx y g with
      | some true => (fc δ g).bind fun z g => liftO (cmpD o' y z g) g
      | some false => .ok (.bl false) g
      | none => .stuck) KK (eX Z W σ)) I ⟨δ, ρ, g, G, S, (PostR.bind h0).imp (fun d ρ1 H1 g1 m1 G1 h1 v rv => ⟨d, ρ1, g1, m1, G1, rv, h1⟩) fun _ _ _ _ _ _ _ q => q⟩)
    fun v s1 ⟨x, H1, I1, r1, dx, ρ1, g1, m1, G1, q1, h1⟩ => test_link ?_) hm
  refine thn (hb.run pins s1 σ H1 (fun y H2 => ∃ dy ρ2 g2, Mv ρ1 H1 ρ2 H2 ∧ RelG Z ρ2 H2 g2 ∧ RelD Z ρ2 H2 y dy ∧ PostR Z ρ2 H2 (match cmpD o dx dy g2 with
      | some true => (fc δ g2).bind fun z g => liftO (cmpD o' dy z g) g
      | some false => .ok (.bl false) g2
      | none => .stuck) KK (eX Z W σ)) I1 ⟨δ, ρ1, g1, G1, S.mono m1, (PostR.bind h1).imp (fun d ρ2 H2 g2 m2 G2 h2 v rv => ⟨d, ρ2, g2, m2, G2, rv, h2⟩) fun _ _ _ _ _ _ _ q => q⟩)
    fun u s2 ⟨y, H2, I2, r2, dy, ρ2, g2, m2, G2, q2, h2⟩ => ?_
  cases hk : cmpD o dx dy g2 with
  | none => rw [hk] at h2; exact h2.elim
  | some k =>
    rw [hk] at h2
    refine thn (ho pins s2 σ H2 x y v u dx dy ρ2 g2 (fun z H3 => z = .bl k ∧ ∃ ρ3, Mv ρ2 H2 ρ3 H3 ∧ RelG Z ρ3 H3 g2) (fun _ _ _ _ _ => False) I2 r1 r2 G2 (q1.mono m2) q2 ?_) fun d s3 ⟨z, H3, I3, r3, e3, ρ3, m3, G3⟩ => ?_
    · show PostR Z ρ2 H2 (liftO (cmpD o dx dy g2) g2) _ _
      rw [hk]
      exact fun ρ3 H3 m3 G3 v3 r3 => by cases r3; exact ⟨rfl, ρ3, m3, G3⟩
    · subst e3
      cases r3
      refine wpAny_truthy_bool ?_
      cases k with
      | false => exact ite_ff ⟨H3, I3, PostR.ok (a := false) (PostR.ok (k := KK) (a := D.bl false) (PostR.mv m3 h2) G3) G3⟩
      | true =>
        refine ite_tt (test_last (thn (hc.run pins s3 σ H3 (fun z H4 => ∃ dz ρ4 g4, Mv ρ3 H3 ρ4 H4 ∧ RelG Z ρ4 H4 g4 ∧ RelD Z ρ4 H4 z dz ∧ PostR Z ρ4 H4 (liftO (cmpD o' dy dz g4) g4) KK (eX Z W σ)) I3
          ⟨δ, ρ3, g2, G3, ((S.mono m1).mono m2).mono m3, (PostR.bind (PostR.mv m3 h2)).imp (fun d ρ4 H4 g4 m4 G4 h4 v rv => ⟨d, ρ4, g4, m4, G4, rv, h4⟩) fun _ _ _ _ _ _ _ q => q⟩) fun w' s4 ⟨z', H4, I4, r4, dz, ρ4, g4, m4, G4, q4, h4⟩ => ?_))
        obtain ⟨k, hk, h5⟩ := liftO_some h4
        refine thn (ho' pins s4 σ H4 y z' u w' dy dz ρ4 g4 (fun z H5 => z = .bl k ∧ ∃ ρ5, Mv ρ4 H4 ρ5 H5 ∧ RelG Z ρ5 H5 g4) (fun _ _ _ _ _ => False) I4 r2 r4 G4 ((q2.mono m3).mono m4) q4 ?_) fun d s5 ⟨z, H5, I5, r5, e5, ρ5, m5, G5⟩ => ?_
        · show PostR Z ρ4 H4 (liftO (cmpD o' dy dz g4) g4) _ _
          rw [hk]
          exact fun ρ3 H3 m3 G3 v3 r3 => by cases r3; exact ⟨rfl, ρ3, m3, G3⟩
        · subst e5
          cases r5
          exact wpAny_truthy_bool ⟨H5, I5, PostR.ok (a := k) (PostR.ok (k := KK) (a := D.bl k) (PostR.mv m5 h5) G5) G5⟩
theorem XOk.hu (hX : XOk Z X N sc W m) : X.A.units + 64 + 1 < cLine := by have := hX.room.un; omega
theorem XOk.hu0 (hX : XOk Z X N sc W m) : X.A.units + 64 < cLine := by have := hX.room.un; omega
theorem Blt.at (B : Blt Z.mg) (hX : XOk Z X N sc W m) : Blt X.mg := by rw [hX.hM]; exact B
theorem de_gI (hX : XOk Z X N sc W m) {i : Int} (hm : ∃ t, Z.mg x = some (.int i t)) (hg : sc.names.lookup x = some .globalImplicit := by rfl) (hd : (x == ("__debug__" : Str)) = false := by decide) : PE X (.Name x pos) (rdE Z W (Ex.cst (.int i))) := de_globI hX hg (by rw [hX.hM]; exact hm) hd
theorem de_gF (hX : XOk Z X N sc W m) {n : Nat} (hm : Z.mg x = some (.ref (Z.fn n))) (hg : sc.names.lookup x = some .globalImplicit := by rfl) (hd : (x == ("__debug__" : Str)) = false := by decide) : PE X (.Name x pos) (rdE Z W (Ex.cst (.fn n))) := de_globF hX hg (by rw [hX.hM]; exact hm) hd
/-! which way two stores go -/
theorem sw2 {env : PySem.Env} {px py pt pt2 : Pos} {kt k2 : Nat} (hk : env.scope.kind = .function) (hx : env.scope.names.lookup x = some .local) (hy : env.scope.names.lookup y = some .local) (hl : (py.line == px.line) = true) (hxy : x ≠ y)
    (h1 : [a, b].any (fun | .Starred .. => true | _ => false) = false) (h2 : [a, b].all (foldedForSure 8) = false) (h3 : [a, b].all (constantsAlone 8) = false) :
    swappedStores [.Tuple [.Name x px, .Name y py] kt pt] (.Tuple [a, b] k2 pt2) env = pure (some [x, y]) := by
  have kx : env.kindOf x = some .local := hx
  have ky : env.kindOf y = some .local := hy
  have hb : env.blockKind = .function := by unfold Env.blockKind; rw [hk]; rfl
  have d2 : [x, y].eraseDups = [x, y] := by
    have : (y == x) = false := by simp [Ne.symm hxy]
    simp [List.eraseDups_cons, this]
  unfold swappedStores
  simp only [hb, kx, ky, hl, h1, h2, h3, List.filterMap_cons, List.filterMap_nil, List.head?_cons, Option.map_some, Option.getD_some, Expr.pos]
  simp [kx, ky, hl, d2, h1, h2, h3]
  intro h
  simp only [List.any_cons, List.any_nil, Bool.or_false, Bool.or_eq_false_iff] at h1
  rcases h with h | h
  · have z := h1.1
    cases a <;> first | (cases h; done) | (cases z; done)
  · have z := h1.2
    cases b <;> first | (cases h; done) | (cases z; done)
theorem ds_par' {x y : Str} {px py pt : Pos} {kt k2 pt2} (hX : XOk Z X N sc W m) (i j : Nat) (ha : PE X a (rdE Z W fa)) (hb : PE X b (rdE Z W fb)) (hi : N[i]? = some x := by rfl) (hj : N[j]? = some y := by rfl) (hij : i ≠ j := by decide) (hk : sc.kind = .function := by rfl)
    (hx : sc.names.lookup x = some .local := by rfl) (hy : sc.names.lookup y = some .local := by rfl) (hl : (py.line == px.line) = true := by rfl) (hxy : x ≠ y := by decide) (h1 : [a, b].any (fun | .Starred .. => true | _ => false) = false := by rfl) (h2 : [a, b].all (foldedForSure 8) = false := by rfl) (h3 : [a, b].all (constantsAlone 8) = false := by rfl)
    (hea : starEach [a, b] X.env = (false, eval a X.env) :: starEach [b] X.env := by rfl) (heb : starEach [b] X.env = (false, eval b X.env) :: starEach [] X.env := by rfl)
    (hs : swapsWithSole [.Tuple [.Name x px, .Name y py] kt pt] (.Tuple [a, b] k2 pt2) pos.line X.env = pure false := by rfl) :
    PS X (.Assign [.Tuple [.Name x px, .Name y py] kt pt] (.Tuple [a, b] k2 pt2) pos) (rdS Z W (Sm.par i j fa fb)) :=
  ds_par hX i j ha hb (sw2 (by rw [hX.sc]; exact hk) (by rw [hX.sc]; exact hx) (by rw [hX.sc]; exact hy) hl hxy h1 h2 h3) hi hj hij hx hy hea heb hs
theorem ds_setLc' {y : Str} {py spos : Pos} (hX : XOk Z X N sc W m) (i : Nat) (own : List (Str × Nat)) (hi : PI X tg iter (rdI Z W fi)) (hg : ∀ (s : Shared) (H : Hp) (C : Addr) (cl : List (Str × Addr)) (fp : List Addr), PG (X.blk s H scope (compEnvC scope cl C X.env) fp) tg (rdG Z ws t))
    (ht : ∀ (s : Shared) (H : Hp) (C : Addr) (cl : List (Str × Addr)) (fp : List Addr), PTs (X.blk s H scope (compEnvC scope cl C X.env) fp) ifs (rdT Z W0 tc)) (he : ∀ (s : Shared) (H : Hp) (C : Addr) (cl : List (Str × Addr)) (fp : List Addr), PE (X.blk s H scope (compEnvC scope cl C X.env) fp) elt (rdE Z W0 fe))
    (hk : sc.kind = .function := by rfl) (hy : N[i]? = some y := by rfl) (hyl : sc.names.lookup y = some .local := by rfl) (hln : (py.line == pos.line) = true := by rfl) (hnn : (scope.names.any fun (n, k) => n == y && (k == .local || k == .cell)) = false := by decide +kernel) (ok : blkC N sc scope own = true := by decide +kernel) (hsub : ∀ i ∈ ws, i ∈ own.map (·.2) := by decide) (hs : ∀ x, foldedSetIterable iter X.env x = pure x := by intro _; rfl) :
    PS X (.Assign [.Name y py] (.ListComp elt [⟨tg, iter, ifs, 0⟩] scope pos) spos) (rdS Z W (Sm.asg (Tg.name i) (Ex.comp (own.map (·.2)) fi t tc fe))) :=
  ds_setLc hX i own hi hg ht he (sw_true (by rw [hX.sc]; exact hk) (by rw [hX.sc]; exact hyl) hln hnn) hy hyl ok hsub hs
theorem de_meth0 {pl : Sem Bool} {mn : Str} {cnt : Nat} (hX : XOk Z X N sc W m) (C : ClsOk Z T) (F : ∀ n, n < cnt → FT Z lev cl n) (hl : lev ≤ m) (hT : (T.all fun k => k.meths.all fun q => decide (q.2 < cnt)) = true) (ho : PE X o (rdE Z W fo))
    (ht : eval (.Call (.Attribute o mn apos) [] [] pos) X.env = (do
      let ov ← eval o X.env
      standAt apos.atName
      let (f, first) ← holding [ov] (getMethod ov mn pl)
      callWith pos f first (backTo pos (starEach [] X.env)) (backToKw pos (keywordEach [] X.env)))) : PE X (.Call (.Attribute o mn apos) [] [] pos) (rdE Z W (Ex.meth T cl fo mn exNil)) := by
  refine ⟨fun pins s σ H Q I ⟨δ, ρ, g, G, S, h⟩ => ?_⟩
  refine PySem.W.methodCall_KW (pl := pl) (thn (ho.run pins s σ H (fun v H1 => ∃ n ρ1 g1 ci fs0 k f, RelG Z ρ1 H1 g1 ∧ RelS Z ρ1 H1 σ δ ∧ RelD Z ρ1 H1 v (.ref n) ∧ g1[n]? = some (.ins ci fs0) ∧ T[ci]? = some k ∧ k.meths.lookup mn = some f ∧ fs0.lookup mn = none ∧ PostR Z ρ1 H1 ((exNil δ g1).bind fun ds g => cl f (.ref n :: ds) g) (kV Z Q) (eX Z W σ)) I
    ⟨δ, ρ, g, G, S, (PostR.bind h).imp (fun d ρ1 H1 g1 m1 G1 h1 v rv => ?_) fun _ _ _ _ _ _ _ q => q⟩) fun u s1 ⟨v, H1, I1, ru, n, ρ1, g1, ci, fs0, k, f, G1, S1, rv, e0, e1, e2, e3, h1⟩ => ?_) ht
  · cases d with
    | ref n =>
      dsimp only at h1
      cases e0 : g1[n]? with
      | none => rw [e0] at h1; exact h1.elim
      | some ob => cases ob with
        | ins ci fs0 =>
          rw [e0] at h1
          dsimp only at h1
          cases e1 : T[ci]? with
          | none => rw [e1] at h1; exact h1.elim
          | some k =>
            rw [e1] at h1
            dsimp only at h1
            split at h1
            · rename_i f e2 e3
              exact ⟨n, ρ1, g1, ci, fs0, k, f, G1, S.mono m1, rv, e0, e1, e2, e3, h1⟩
            · exact h1.elim
        | _ => rw [e0] at h1; exact (show False from h1).elim
    | _ => exact (show False from h1).elim
  · obtain ⟨a, dx, xs, rfl, ea, c, hm, l⟩ := meth_of C G1 rfl rv e0 e1 e2 e3
    obtain rfl : u = Value.ref a := ru
    have hf : f < cnt := by
      have q1 := List.all_eq_true.mp hT k (List.mem_of_getElem? e1)
      have q2 := List.all_eq_true.mp q1 (mn, f) (PySem.mem_of_lookup e2)
      simpa using q2
    obtain ⟨fd, ps, F, hk, hb⟩ := (F f hf).at hX
    have hm' : Meth X.K (Z.cls ci) mn (Z.fn f) := by rw [hX.hK]; exact hm
    refine getmeth_ok I1 ea (by rw [hX.hK]; exact c) hm' l ?_
    exact PySem.W.callWith_K0 (first := [.ref a]) I1.kIn hm'.kp (run_fnS (us := [.ref a]) (vs := [.ref a]) F (hX.room.mono hl) hb (passAt hX.takes σ) I1 (.cons rfl .nil) ⟨_, ρ1, g1, G1, .cons rv .nil, h1⟩)
end
end DV
end
section
set_option Elab.async false
set_option linter.all false
set_option maxRecDepth 100000
namespace DV
open PySem PySem.Spec PyProof.Rows L2 RZ
/-! ### the end -/
structure Cls1 (Z : Tab) (c : Nat) (k : DV.Cls) : Prop where
  cls : L2.Cls Z.K (Z.cls c)
  fld : ∀ f ∈ k.fields, NoAttr Z.K (Z.cls c) f
  mth : ∀ p ∈ k.meths, Meth Z.K (Z.cls c) p.1 (Z.fn p.2)
theorem ClsOk.of {Z : Tab} {T : Clss} (h : ∀ c k, T[c]? = some k → Cls1 Z c k) : ClsOk Z T :=
  ⟨fun c k e => (h c k e).cls, fun c k f e hf => (h c k e).fld f (by simpa using hf), fun c k m f e hm => (h c k e).mth (m, f) (PySem.mem_of_lookup hm)⟩
theorem all_nil {α : Type} {P : α → Prop} : ∀ x ∈ ([] : List α), P x := fun _ h => nomatch h
theorem all_cons {α : Type} {P : α → Prop} {a : α} {l : List α} (h : P a) (t : ∀ x ∈ l, P x) : ∀ x ∈ a :: l, P x := List.forall_mem_cons.mpr ⟨h, t⟩
theorem ft_zero {Z : Tab} {i : Nat} {x qual : Str} {st : Stmt} {fd : FuncData} {ps : List Str} {cl : Cl} (hcl : ∀ ds g, cl i ds g = .stuck) (F : Fun Z.K x qual st (Z.fn i) fd) (hb : Binds Z.K fd ps []) : FT Z 0 cl i :=
  ⟨fd, ps, ⟨fun vs H Q E h => by obtain ⟨ds, ρ, g, G, r, h⟩ := h; rw [hcl] at h; exact h.elim, fun A outer s H args us vs Q E hr he hbb hv h => by obtain ⟨ds, ρ, g, G, r, h⟩ := h; rw [hcl] at h; exact h.elim⟩, F.kp, hb⟩
/-- the law's promise -/
def spLaw (K : PySem.W.Frag) : Sp := fun vs H Q _ => ∃ (a : Addr) (ns : List Int), vs = [.ref a] ∧ Rol K H a ns ∧ ns.length ≤ 63 ∧ (∀ z ∈ ns, Builtin.Int.intBits z ≤ 1048576) ∧ ∀ H', Q (.bl true) H'
theorem RelG.nil {Z : Tab} {H : Hp} : RelG Z [] H [] := ⟨rfl, List.nodup_nil, fun i o a h => by simp at h⟩
theorem law_end {Z : Tab} {cl : Cl} {n k : Nat} {fd : FuncData} {ps : List Str} {CX : CXT} (F : FnOk Z.P Z.w Z.K Z.mg Z.base CX k (Z.fn n) fd ps (spD Z cl n))
    (h : ∀ ns : List Int, ns.length ≤ 63 → (∀ z ∈ ns, Builtin.Int.intBits z ≤ 1048576) → ∃ g, cl n [.rol ns] [] = .ok (.bl true) g) : FnOk Z.P Z.w Z.K Z.mg Z.base CX k (Z.fn n) fd ps (spLaw Z.K) :=
  F.imp fun vs H Q E ⟨a, ns, e, hr, hl, hb, q⟩ => by
    subst e
    obtain ⟨g, hg⟩ := h ns hl hb
    exact ⟨[.rol ns], [], [], RelG.nil, .cons (.rol hr) .nil, by rw [hg]; exact fun ρ' H' m G v rv => by cases rv; exact q H'⟩
theorem rol_of {K : PySem.W.Frag} {H : Hp} {a : Addr} {ns : List Int} (hO : Only H) (h : SqL K H a (ns.map V.int)) : Rol K H a ns := by
  rcases h with (h | ⟨o, h⟩) | ⟨o, its, n, h⟩
  · rcases hO a with z | ⟨o, xs, z⟩
    · rw [h] at z; cases z
    · rw [h] at z; cases z
  · exact .inl ⟨o, h⟩
  · exact .inr ⟨o, its, n, h⟩
theorem walkDV {l : PySem.W.OpenLaw} {q : Program} {loose : List Str} {XP : (Str → Option Value) → Heap → Prop} {YP : World → Heap → Prop} {d : DefRec} {K : Params → PySem.W.Frag} (hn : l.most = some 63) (hdf : d.params.defaults = [])
    (hY : ∀ (w : World) (h : Heap), YP w h → (K w.params).In h)
    (F : ∀ (w : World) (mg : Str → Option Value) (fa : Addr) (h : Heap), (K w.params).In h → h.Ns mainGlobals mg → mg d.name = some (.ref fa) →
      ∃ fd : FuncData, (∀ (s : Shared) (u : Value), BindsTo s fd ⟨[u], []⟩ [("script", u)]) ∧ ∀ base : Heap, (K w.params).In base → base.Ns mainGlobals mg → FnOk l.prog w (K w.params) mg base (L2.CX l.prog w) 230 fa fd ["script"] (spLaw (K w.params))) :
    PySem.W.WalkO q loose XP YP l.row.toRowW d [] (fun f vs => PySem.call f vs) :=
  walk_ofB (n := 63) (k := 230) (x := "script") (CX := fun w => L2.CX l.prog w) (sp := fun w => spLaw (K w.params)) hn (by decide) hdf ⟨rfl, by decide, by decide⟩ hY F (fun w H a ns hl hb hO hS => ⟨a, ns, rfl, rol_of hO hS, hl, hb, fun _ => rfl⟩)
    fun w H s e s' z => by
      obtain ⟨_, _, _, _, _, _, _, _, _, _, _, _, z⟩ := z
      exact z.elim
/-- an error of the class at S is what «except T» names, or not -/
theorem exm_mk {K : PySem.W.Frag} {C S : Addr} {b : Bool} (h1 : PySem.W.subIn K (.ref S) (.type "BaseException") = some true) (h2 : PySem.W.isClsIn K S = true) (h3 : PySem.W.typeIn K (.ref S) = some (.type "type")) (h4 : PySem.W.subIn K (.ref C) (.ref S) = some b) :
    PySem.W.exmOne K (.ref C) (.ref S) = some b := by
  have e1 : (PySem.W.subIn K (.ref S) (.type "BaseException") == some true) = true := by rw [h1] <;> rfl
  have e2 : ((PySem.W.clsIn K S).isSome && PySem.W.typeIn K (.ref S) == some (.type "type")) = true := by
    have h2' : (PySem.W.clsIn K S).isSome = true := h2
    rw [h2', h3] <;> rfl
  unfold PySem.W.exmOne PySem.W.kitCls
  rw [if_pos e1]
  dsimp only
  rw [if_pos e2]
  exact h4
theorem exc_mk {Z : Tab} {c : Nat} (hl : c < Z.ne) (hx : Z.xf c = none) (h1 : PySem.W.excIn Z.K (Z.exc c) [.type "ValueError", .type "Exception", .type "BaseException", .type "object"] "ValueError.__new__" = true) (h2 : PySem.W.keepIn Z.K (.ref (Z.exc c)) = true)
    (h3 : PySem.W.subIn Z.K (.ref (Z.exc c)) (.type "BaseException") = some true) (h4 : PySem.W.typeIn Z.K (.ref (Z.exc c)) = some (.type "type")) : ExcOk Z c :=
  ⟨hl, hx, ⟨_, _, _, _, PySem.F.excBase_ValueError, h1⟩, h2, fun X e _ _ _ _ => raises_own (by rw [e]; exact h3) (by rw [e]; exact h4)⟩
end DV
end
section
set_option Elab.async false
set_option linter.all false
set_option maxRecDepth 100000
set_option maxHeartbeats 4000000
namespace K32
open PySem DV

abbrev T : Clss := [{ fields := [Str.ofString "many", Str.ofString "ends", Str.ofString "first", Str.ofString "signs", Str.ofString "rows"], meths := [(Str.ofString "__init__", 11), (Str.ofString "plain", 12), (Str.ofString "call", 13), (Str.ofString "free", 14), (Str.ofString "back", 15), (Str.ofString "is_end", 16), (Str.ofString "step", 17), (Str.ofString "read", 18)] }]
/- 0 is_integer(value, low, high): value, low, high -/
def b_is_integer (cl : Cl) : Sm :=
  (.ret (.and (.isi (.loc 0) .int) (.and (.not (.isi (.loc 0) .bool)) (.chain .le .le (.loc 1) (.loc 0) (.loc 2)))))
/- 1 are_ascending(rows): rows, one, other -/
def b_are_ascending (cl : Cl) : Sm :=
  (.ret (.bi .all (exCons (.comp [1, 2] (.zip (.loc 0) (.slc (.loc 0) (.at (.cst (.int 1))) .no)) (.tup 2 (tgCons (.name 1) (tgCons (.name 2) tgNil))) .tt (.cmp .lt (.loc 1) (.loc 2))) exNil)))
/- 2 is_signs(value): value, one -/
def b_is_signs (cl : Cl) : Sm :=
  (.seq (.ite (.or (.not (.ex (.isi (.loc 0) .tuple))) (.or (.ex (.cmp .ne (.bi .len (exCons (.loc 0) exNil)) (.cst (.int 4)))) (.ex (.cmp .ne (.idx (.loc 0) (.cst (.int 0))) (.cst (.str (Str.ofString "signs"))))))) (.ret (.cst (.bl false))) .skip)
  (.ret (.and (.bi .all (exCons (.comp [1] (.of (.slc (.loc 0) (.at (.cst (.int 1))) .no)) (.name 1) .tt (.call cl 0 (exCons (.loc 1) (exCons (.cst (.int 0)) (exCons (.cst (.int 3)) exNil))))) exNil)) (.bi .any (exCons (.slc (.loc 0) (.at (.cst (.int 1))) .no) exNil)))))
/- 3 many_signs(signs): signs -/
def b_many_signs (cl : Cl) : Sm :=
  (.ret (.bin .add (.bin .add (.idx (.loc 0) (.cst (.int 1))) (.idx (.loc 0) (.cst (.int 2)))) (.idx (.loc 0) (.cst (.int 3)))))
/- 4 is_word_of(signs, value): signs, value, one -/
def b_is_word_of (cl : Cl) : Sm :=
  (.seq (.ite (.or (.not (.ex (.isi (.loc 1) .tuple))) (.ex (.cmp .gt (.bi .len (exCons (.loc 1) exNil)) (.cst (.int 300))))) (.ret (.cst (.bl false))) .skip)
  (.ret (.bi .all (exCons (.comp [2] (.of (.loc 1)) (.name 2) .tt (.call cl 0 (exCons (.loc 2) (exCons (.cst (.int 0)) (exCons (.bin .sub (.call cl 3 (exCons (.loc 0) exNil)) (.cst (.int 1))) exNil))))) exNil))))
/- 5 are_states(value, many): value, many, one -/
def b_are_states (cl : Cl) : Sm :=
  (.seq (.ite (.or (.not (.ex (.isi (.loc 0) .tuple))) (.not (.ex (.bi .all (exCons (.comp [2] (.of (.loc 0)) (.name 2) .tt (.call cl 0 (exCons (.loc 2) (exCons (.cst (.int 0)) (exCons (.bin .sub (.loc 1) (.cst (.int 1))) exNil))))) exNil))))) (.ret (.cst (.bl false))) .skip)
  (.ret (.call cl 1 (exCons (.loc 0) exNil))))
/- 6 check_word(signs, word): signs, word -/
def b_check_word (cl : Cl) : Sm :=
  (.ite (.not (.ex (.call cl 4 (exCons (.loc 0) (exCons (.loc 1) exNil))))) (.raise 2 (.cst .non)) .skip)
/- 7 are_nexts(value, many, length): value, many, length, one -/
def b_are_nexts (cl : Cl) : Sm :=
  (.ret (.and (.isi (.loc 0) .tuple) (.and (.cmp .eq (.bi .len (exCons (.loc 0) exNil)) (.loc 2)) (.bi .all (exCons (.comp [3] (.of (.loc 0)) (.name 3) .tt (.call cl 0 (exCons (.loc 3) (exCons (.cst (.int 0)) (exCons (.bin .sub (.loc 1) (.cst (.int 1))) exNil))))) exNil)))))
/- 8 is_row(value, signs, many): value, signs, many, _, a, b, c, plains, calls, frees, backs, one -/
def b_is_row (cl : Cl) : Sm :=
  (.seq (.asg (.tup 4 (tgCons (.name 3) (tgCons (.name 4) (tgCons (.name 5) (tgCons (.name 6) tgNil))))) (.loc 1))
  (.seq (.ite (.or (.not (.ex (.isi (.loc 0) .tuple))) (.ex (.cmp .ne (.bi .len (exCons (.loc 0) exNil)) (.cst (.int 4))))) (.ret (.cst (.bl false))) .skip)
  (.seq (.asg (.tup 4 (tgCons (.name 7) (tgCons (.name 8) (tgCons (.name 9) (tgCons (.name 10) tgNil))))) (.loc 0))
  (.seq (.ite (.or (.not (.ex (.call cl 7 (exCons (.loc 7) (exCons (.loc 2) (exCons (.loc 6) exNil)))))) (.or (.not (.ex (.call cl 7 (exCons (.loc 8) (exCons (.loc 2) (exCons (.loc 4) exNil)))))) (.not (.ex (.call cl 7 (exCons (.loc 9) (exCons (.loc 2) (exCons (.loc 5) exNil)))))))) (.ret (.cst (.bl false))) .skip)
  (.seq (.ite (.or (.not (.ex (.isi (.loc 10) .tuple))) (.ex (.cmp .ne (.bi .len (exCons (.loc 10) exNil)) (.loc 5)))) (.ret (.cst (.bl false))) .skip)
  (.ret (.bi .all (exCons (.comp [11] (.of (.loc 10)) (.name 11) .tt (.call cl 7 (exCons (.loc 11) (exCons (.loc 2) (exCons (.bin .mul (.loc 2) (.loc 4)) exNil))))) exNil))))))))
/- 9 is_definite(value): value, _, signs, rows, ends, row -/
def b_is_definite (cl : Cl) : Sm :=
  (.seq (.ite (.or (.not (.ex (.isi (.loc 0) .tuple))) (.or (.ex (.cmp .ne (.bi .len (exCons (.loc 0) exNil)) (.cst (.int 4)))) (.or (.ex (.cmp .ne (.idx (.loc 0) (.cst (.int 0))) (.cst (.str (Str.ofString "definite"))))) (.not (.ex (.call cl 2 (exCons (.idx (.loc 0) (.cst (.int 1))) exNil))))))) (.ret (.cst (.bl false))) .skip)
  (.seq (.asg (.tup 4 (tgCons (.name 1) (tgCons (.name 2) (tgCons (.name 3) (tgCons (.name 4) tgNil))))) (.loc 0))
  (.seq (.ite (.or (.not (.ex (.isi (.loc 3) .tuple))) (.or (.not (.ex (.chain .le .le (.cst (.int 1)) (.bi .len (exCons (.loc 3) exNil)) (.cst (.int 40))))) (.not (.ex (.call cl 5 (exCons (.loc 4) (exCons (.bi .len (exCons (.loc 3) exNil)) exNil))))))) (.ret (.cst (.bl false))) .skip)
  (.ret (.bi .all (exCons (.comp [5] (.of (.loc 3)) (.name 5) .tt (.call cl 8 (exCons (.loc 5) (exCons (.loc 2) (exCons (.bi .len (exCons (.loc 3) exNil)) exNil))))) exNil))))))
/- 10 check_definite(machine): machine -/
def b_check_definite (cl : Cl) : Sm :=
  (.ite (.not (.ex (.call cl 9 (exCons (.loc 0) exNil)))) (.raise 1 (.cst .non)) .skip)
/- 11 Table.__init__(self, machine): self, machine, _, ends, end -/
def b_Table___init__ (cl : Cl) : Sm :=
  (.seq (.asg (.tup 4 (tgCons (.name 2) (tgCons (.fld T (.loc 0) (Str.ofString "signs")) (tgCons (.fld T (.loc 0) (Str.ofString "rows")) (tgCons (.name 3) tgNil))))) (.loc 1))
  (.seq (.asg (.fld T (.loc 0) (Str.ofString "many")) (.bi .len (exCons (.fld T (.loc 0) (Str.ofString "rows")) exNil)))
  (.seq (.asg (.fld T (.loc 0) (Str.ofString "ends")) (.dcomp [4] (.of (.loc 3)) (.name 4) .tt (.loc 4) (.cst (.bl true))))
  (.asg (.fld T (.loc 0) (Str.ofString "first")) (.cst (.int 0))))))
/- 12 Table.plain(self, state, number): self, state, number -/
def b_Table_plain (cl : Cl) : Sm :=
  (.ret (.idx (.idx (.idx (.fld T (.loc 0) (Str.ofString "rows")) (.loc 1)) (.cst (.int 0))) (.loc 2)))
/- 13 Table.call(self, state, number): self, state, number -/
def b_Table_call (cl : Cl) : Sm :=
  (.ret (.idx (.idx (.idx (.fld T (.loc 0) (Str.ofString "rows")) (.loc 1)) (.cst (.int 1))) (.loc 2)))
/- 14 Table.free(self, state, number): self, state, number -/
def b_Table_free (cl : Cl) : Sm :=
  (.ret (.idx (.idx (.idx (.fld T (.loc 0) (Str.ofString "rows")) (.loc 1)) (.cst (.int 2))) (.loc 2)))
/- 15 Table.back(self, state, number, outer, call): self, state, number, outer, call -/
def b_Table_back (cl : Cl) : Sm :=
  (.ret (.idx (.idx (.idx (.idx (.fld T (.loc 0) (Str.ofString "rows")) (.loc 1)) (.cst (.int 3))) (.loc 2)) (.bin .add (.bin .mul (.loc 3) (.idx (.fld T (.loc 0) (Str.ofString "signs")) (.cst (.int 1)))) (.loc 4))))
/- 16 Table.is_end(self, state): self, state -/
def b_Table_is_end (cl : Cl) : Sm :=
  (.ret (.cmp .in_ (.loc 1) (.fld T (.loc 0) (Str.ofString "ends"))))
/- 17 Table.step(self, state, kept, sign): self, state, kept, sign, _, a, b -/
def b_Table_step (cl : Cl) : Sm :=
  (.seq (.asg (.tup 4 (tgCons (.name 4) (tgCons (.name 5) (tgCons (.name 6) (tgCons (.name 4) tgNil))))) (.fld T (.loc 0) (Str.ofString "signs")))
  (.seq (.ite (.ex (.cmp .lt (.loc 3) (.loc 5))) (.ret (.tup (exCons (.meth T cl (.loc 0) (Str.ofString "call") (exCons (.loc 1) (exCons (.loc 3) exNil))) (exCons (.bin .add (.tup (exCons (.tup (exCons (.loc 1) (exCons (.loc 3) exNil))) exNil)) (.loc 2)) exNil)))) .skip)
  (.seq (.ite (.ex (.cmp .ge (.loc 3) (.bin .add (.loc 5) (.loc 6)))) (.ret (.tup (exCons (.meth T cl (.loc 0) (Str.ofString "plain") (exCons (.loc 1) (exCons (.bin .sub (.bin .sub (.loc 3) (.loc 5)) (.loc 6)) exNil))) (exCons (.loc 2) exNil)))) .skip)
  (.seq (.ite (.ex (.cmp .eq (.loc 2) (.tup exNil))) (.ret (.tup (exCons (.meth T cl (.loc 0) (Str.ofString "free") (exCons (.loc 1) (exCons (.bin .sub (.loc 3) (.loc 5)) exNil))) (exCons (.tup exNil) exNil)))) .skip)
  (.ret (.tup (exCons (.meth T cl (.loc 0) (Str.ofString "back") (exCons (.loc 1) (exCons (.bin .sub (.loc 3) (.loc 5)) (exCons (.idx (.idx (.loc 2) (.cst (.int 0))) (.cst (.int 0))) (exCons (.idx (.idx (.loc 2) (.cst (.int 0))) (.cst (.int 1))) exNil))))) (exCons (.slc (.loc 2) (.at (.cst (.int 1))) .no) exNil))))))))
/- 18 Table.read(self, word): self, word, sign, state, kept -/
def b_Table_read (cl : Cl) : Sm :=
  (.seq (.par 3 4 (.fld T (.loc 0) (Str.ofString "first")) (.tup exNil))
  (.seq (.for (.of (.loc 1)) (.name 2) (.asg (.tup 2 (tgCons (.name 3) (tgCons (.name 4) tgNil))) (.meth T cl (.loc 0) (Str.ofString "step") (exCons (.loc 3) (exCons (.loc 4) (exCons (.loc 2) exNil))))))
  (.ret (.tup (exCons (.loc 3) (exCons (.loc 4) exNil))))))
/- 19 takes_definite(machine, word): machine, word, table -/
def b_takes_definite (cl : Cl) : Sm :=
  (.seq (.ex (.call cl 10 (exCons (.loc 0) exNil)))
  (.seq (.ex (.call cl 6 (exCons (.idx (.loc 0) (.cst (.int 1))) (exCons (.loc 1) exNil))))
  (.seq (.asg (.name 2) (.new cl 0 11 (exCons (.loc 0) exNil)))
  (.ret (.meth T cl (.loc 2) (Str.ofString "is_end") (exCons (.idx (.meth T cl (.loc 2) (Str.ofString "read") (exCons (.loc 1) exNil)) (.cst (.int 0))) exNil))))))
/- 20 opposite(machine): machine, _, signs, rows, ends, k -/
def b_opposite (cl : Cl) : Sm :=
  (.seq (.ex (.call cl 10 (exCons (.loc 0) exNil)))
  (.seq (.asg (.tup 4 (tgCons (.name 1) (tgCons (.name 2) (tgCons (.name 3) (tgCons (.name 4) tgNil))))) (.loc 0))
  (.ret (.tup (exCons (.cst (.str (Str.ofString "definite"))) (exCons (.loc 2) (exCons (.loc 3) (exCons (.bi .tuple (exCons (.comp [5] (.range1 (.bi .len (exCons (.loc 3) exNil))) (.name 5) (.ex (.cmp .notIn (.loc 5) (.loc 4))) (.loc 5)) exNil)) exNil))))))))
/- 21 _law_tape(script): script, seed, cell -/
def b__law_tape (cl : Cl) : Sm :=
  (.seq (.asg (.name 1) (.cst (.int 7)))
  (.seq (.for (.of (.loc 0)) (.name 2) (.asg (.name 1) (.bin .mod (.bi .int (exCons (.bin .add (.bin .mul (.loc 1) (.cst (.int 31))) (.loc 2)) exNil)) (.cst (.int 1000003)))))
  (.ret (.lst (exCons (.comp [2] (.of (.loc 0)) (.name 2) .tt (.bi .abs (exCons (.bi .int (exCons (.loc 2) exNil)) exNil))) (exCons (.bin .add (.loc 1) (.cst (.int 1))) exNil))))))
/- 22 _law_draw(tape, many): tape, many, cells, number -/
def b__law_draw (cl : Cl) : Sm :=
  (.seq (.asg (.name 2) (.idx (.loc 0) (.cst (.int 0))))
  (.seq (.while (.and (.ex (.cmp .gt (.bi .len (exCons (.loc 2) exNil)) (.cst (.int 0)))) (.ex (.cmp .eq (.idx (.loc 2) (.cst (.int 0))) (.cst (.int 0))))) (.ex (.mth .popAt (.loc 2) (exCons (.cst (.int 0)) exNil))))
  (.seq (.ite (.ex (.cmp .gt (.bi .len (exCons (.loc 2) exNil)) (.cst (.int 0)))) (.seq (.asg (.name 3) (.idx (.loc 2) (.cst (.int 0))))
  (.seq (.asg (.sub (.loc 2) (.cst (.int 0))) (.bin .fdiv (.loc 3) (.loc 1)))
  (.ret (.bin .mod (.bi .int (exCons (.loc 3) exNil)) (.loc 1))))) .skip)
  (.seq (.asg (.sub (.loc 0) (.cst (.int 1))) (.bin .mod (.bi .int (exCons (.bin .add (.bin .mul (.idx (.loc 0) (.cst (.int 1))) (.cst (.int 48271))) (.cst (.int 12345))) exNil)) (.cst (.int 2147483647))))
  (.ret (.bin .mod (.bi .int (exCons (.bin .fdiv (.idx (.loc 0) (.cst (.int 1))) (.cst (.int 64))) exNil)) (.loc 1)))))))
/- 23 _law_pick(tape, row): tape, row -/
def b__law_pick (cl : Cl) : Sm :=
  (.ret (.idx (.loc 1) (.call cl 22 (exCons (.loc 0) (exCons (.bi .len (exCons (.loc 1) exNil)) exNil)))))
/- 24 _law_same(told, due): told, due, k -/
def b__law_same (cl : Cl) : Sm :=
  (.seq (.ite (.ex (.cmp .isN (.loc 1) (.cst .non))) (.ret (.cmp .isN (.loc 0) (.cst .non))) .skip)
  (.seq (.ite (.ex (.isi (.loc 1) .bool)) (.ret (.and (.isi (.loc 0) .bool) (.cmp .eq (.loc 0) (.loc 1)))) .skip)
  (.seq (.ite (.ex (.isi (.loc 1) .int)) (.ret (.and (.isi (.loc 0) .int) (.and (.not (.isi (.loc 0) .bool)) (.cmp .eq (.loc 0) (.loc 1))))) .skip)
  (.seq (.ite (.ex (.isi (.loc 1) .str)) (.ret (.and (.isi (.loc 0) .str) (.cmp .eq (.loc 0) (.loc 1)))) .skip)
  (.seq (.ite (.or (.ex (.cmp .ne (.isi (.loc 1) .tuple) (.isi (.loc 0) .tuple))) (.ex (.cmp .ne (.isi (.loc 1) .list) (.isi (.loc 0) .list)))) (.ret (.cst (.bl false))) .skip)
  (.seq (.ite (.or (.not (.ex (.isi2 (.loc 0) .tuple .list))) (.ex (.cmp .ne (.bi .len (exCons (.loc 0) exNil)) (.bi .len (exCons (.loc 1) exNil))))) (.ret (.cst (.bl false))) .skip)
  (.ret (.cmp .notIn (.cst (.bl false)) (.comp [2] (.range1 (.bi .len (exCons (.loc 1) exNil))) (.name 2) .tt (.call cl 24 (exCons (.idx (.loc 0) (.loc 2)) (exCons (.idx (.loc 1) (.loc 2)) exNil))))))))))))
/- 25 _law_signs(tape): tape -/
def b__law_signs (cl : Cl) : Sm :=
  (.ret (.call cl 23 (exCons (.loc 0) (exCons (.lst (exCons (.tup (exCons (.cst (.str (Str.ofString "signs"))) (exCons (.cst (.int 1)) (exCons (.cst (.int 1)) (exCons (.cst (.int 1)) exNil))))) (exCons (.tup (exCons (.cst (.str (Str.ofString "signs"))) (exCons (.cst (.int 1)) (exCons (.cst (.int 1)) (exCons (.cst (.int 0)) exNil))))) (exCons (.tup (exCons (.cst (.str (Str.ofString "signs"))) (exCons (.cst (.int 2)) (exCons (.cst (.int 1)) (exCons (.cst (.int 1)) exNil))))) (exCons (.tup (exCons (.cst (.str (Str.ofString "signs"))) (exCons (.cst (.int 1)) (exCons (.cst (.int 2)) (exCons (.cst (.int 1)) exNil))))) (exCons (.tup (exCons (.cst (.str (Str.ofString "signs"))) (exCons (.cst (.int 2)) (exCons (.cst (.int 2)) (exCons (.cst (.int 0)) exNil))))) (exCons (.tup (exCons (.cst (.str (Str.ofString "signs"))) (exCons (.cst (.int 0)) (exCons (.cst (.int 1)) (exCons (.cst (.int 1)) exNil))))) (exCons (.tup (exCons (.cst (.str (Str.ofString "signs"))) (exCons (.cst (.int 1)) (exCons (.cst (.int 0)) (exCons (.cst (.int 1)) exNil))))) exNil)))))))) exNil))))
/- 26 _law_many(signs): signs -/
def b__law_many (cl : Cl) : Sm :=
  (.ret (.bin .add (.bin .add (.idx (.loc 0) (.cst (.int 1))) (.idx (.loc 0) (.cst (.int 2)))) (.idx (.loc 0) (.cst (.int 3)))))
/- 27 _law_word(tape, signs, most): tape, signs, most, k -/
def b__law_word (cl : Cl) : Sm :=
  (.ret (.bi .tuple (exCons (.comp [3] (.range1 (.call cl 22 (exCons (.loc 0) (exCons (.bin .add (.loc 2) (.cst (.int 1))) exNil)))) (.name 3) .tt (.call cl 22 (exCons (.loc 0) (exCons (.call cl 26 (exCons (.loc 1) exNil)) exNil)))) exNil)))
/- 28 _law_definite(tape, signs, most): tape, signs, most, many, rows, q, ends, plains, calls, frees, backs, k, r -/
def b__law_definite (cl : Cl) : Sm :=
  (.seq (.asg (.name 3) (.bin .add (.cst (.int 1)) (.call cl 22 (exCons (.loc 0) (exCons (.loc 2) exNil)))))
  (.seq (.asg (.name 4) (.lst exNil))
  (.seq (.for (.range1 (.loc 3)) (.name 5) (.seq (.asg (.name 7) (.bi .tuple (exCons (.comp [11] (.range1 (.idx (.loc 1) (.cst (.int 3)))) (.name 11) .tt (.call cl 22 (exCons (.loc 0) (exCons (.loc 3) exNil)))) exNil)))
  (.seq (.asg (.name 8) (.bi .tuple (exCons (.comp [11] (.range1 (.idx (.loc 1) (.cst (.int 1)))) (.name 11) .tt (.call cl 22 (exCons (.loc 0) (exCons (.loc 3) exNil)))) exNil)))
  (.seq (.asg (.name 9) (.bi .tuple (exCons (.comp [11] (.range1 (.idx (.loc 1) (.cst (.int 2)))) (.name 11) .tt (.call cl 22 (exCons (.loc 0) (exCons (.loc 3) exNil)))) exNil)))
  (.seq (.asg (.name 10) (.bi .tuple (exCons (.comp [12] (.range1 (.idx (.loc 1) (.cst (.int 2)))) (.name 12) .tt (.bi .tuple (exCons (.comp [11] (.range1 (.bin .mul (.loc 3) (.idx (.loc 1) (.cst (.int 1))))) (.name 11) .tt (.call cl 22 (exCons (.loc 0) (exCons (.loc 3) exNil)))) exNil))) exNil)))
  (.ex (.mth .append (.loc 4) (exCons (.tup (exCons (.loc 7) (exCons (.loc 8) (exCons (.loc 9) (exCons (.loc 10) exNil))))) exNil))))))))
  (.seq (.asg (.name 6) (.bi .tuple (exCons (.comp [5] (.range1 (.loc 3)) (.name 5) (.ex (.cmp .eq (.call cl 22 (exCons (.loc 0) (exCons (.cst (.int 2)) exNil))) (.cst (.int 0)))) (.loc 5)) exNil)))
  (.ret (.tup (exCons (.cst (.str (Str.ofString "definite"))) (exCons (.loc 1) (exCons (.bi .tuple (exCons (.loc 4) exNil)) (exCons (.loc 6) exNil))))))))))
/- 29 _law_step(machine, now, sign): machine, now, sign, signs, rows, state, kept, plains, calls, frees, backs, s, i -/
def b__law_step (cl : Cl) : Sm :=
  (.seq (.par 3 4 (.idx (.loc 0) (.cst (.int 1))) (.idx (.loc 0) (.cst (.int 2))))
  (.seq (.asg (.tup 2 (tgCons (.name 5) (tgCons (.name 6) tgNil))) (.loc 1))
  (.seq (.asg (.tup 4 (tgCons (.name 7) (tgCons (.name 8) (tgCons (.name 9) (tgCons (.name 10) tgNil))))) (.idx (.loc 4) (.loc 5)))
  (.seq (.ite (.ex (.cmp .lt (.loc 2) (.idx (.loc 3) (.cst (.int 1))))) (.ret (.tup (exCons (.idx (.loc 8) (.loc 2)) (exCons (.bin .add (.loc 6) (.tup (exCons (.tup (exCons (.loc 5) (exCons (.loc 2) exNil))) exNil))) exNil)))) .skip)
  (.seq (.ite (.ex (.cmp .ge (.loc 2) (.bin .add (.idx (.loc 3) (.cst (.int 1))) (.idx (.loc 3) (.cst (.int 2)))))) (.ret (.tup (exCons (.idx (.loc 7) (.bin .sub (.bin .sub (.loc 2) (.idx (.loc 3) (.cst (.int 1)))) (.idx (.loc 3) (.cst (.int 2))))) (exCons (.loc 6) exNil)))) .skip)
  (.seq (.ite (.ex (.cmp .eq (.bi .len (exCons (.loc 6) exNil)) (.cst (.int 0)))) (.ret (.tup (exCons (.idx (.loc 9) (.bin .sub (.loc 2) (.idx (.loc 3) (.cst (.int 1))))) (exCons (.tup exNil) exNil)))) .skip)
  (.seq (.asg (.tup 2 (tgCons (.name 11) (tgCons (.name 12) tgNil))) (.idx (.loc 6) (.neg (.cst (.int 1)))))
  (.ret (.tup (exCons (.idx (.idx (.loc 10) (.bin .sub (.loc 2) (.idx (.loc 3) (.cst (.int 1))))) (.bin .add (.bin .mul (.loc 11) (.idx (.loc 3) (.cst (.int 1)))) (.loc 12))) (exCons (.slc (.loc 6) .no (.at (.bin .sub (.bi .len (exCons (.loc 6) exNil)) (.cst (.int 1))))) exNil)))))))))))
/- 30 _law_read(machine, word): machine, word, now, sign -/
def b__law_read (cl : Cl) : Sm :=
  (.seq (.asg (.name 2) (.tup (exCons (.cst (.int 0)) (exCons (.tup exNil) exNil))))
  (.seq (.for (.of (.loc 1)) (.name 3) (.asg (.name 2) (.call cl 29 (exCons (.loc 0) (exCons (.loc 2) (exCons (.loc 3) exNil))))))
  (.ret (.loc 2))))
/- 31 _law_is_taken(machine, word): machine, word -/
def b__law_is_taken (cl : Cl) : Sm :=
  (.ret (.cmp .in_ (.idx (.call cl 30 (exCons (.loc 0) (exCons (.loc 1) exNil))) (.cst (.int 0))) (.idx (.loc 0) (.cst (.int 3)))))
/- 32 _law_call(call, one, other): call, one, other, told -/
def b__law_call (cl : Cl) : Sm :=
  (.seq (.try (.asg (.name 3) (.ite (.ex (.cmp .eq (.loc 2) (.cst (.str (Str.ofString "one"))))) (.callV cl 34 0 (exCons (.loc 1) exNil)) (.callV cl 34 0 (exCons (.loc 1) (exCons (.loc 2) exNil))))) [⟨2, none, (.ret (.cst (.str (Str.ofString "word"))))⟩, ⟨1, none, (.ret (.cst (.str (Str.ofString "system"))))⟩])
  (.ret (.loc 3)))
/- 33 law(script): script, tape, turn, signs, machine, many, others, again, wrong, none, odd, told, word, one, rows, ends, text, plains, calls, frees, backs, q -/
def b_law (cl : Cl) : Sm :=
  (.seq (.asg (.name 1) (.call cl 21 (exCons (.loc 0) exNil)))
  (.seq (.ite (.not (.ex (.call cl 24 (exCons (.cst (.int 40)) (exCons (.cst (.int 40)) exNil))))) (.ret (.cst (.bl false))) .skip)
  (.seq (.for (.range1 (.cst (.int 3))) (.name 2) (.seq (.asg (.name 3) (.call cl 25 (exCons (.loc 1) exNil)))
  (.seq (.asg (.name 4) (.call cl 28 (exCons (.loc 1) (exCons (.loc 3) (exCons (.cst (.int 5)) exNil)))))
  (.seq (.asg (.tup 4 (tgCons (.name 12) (tgCons (.name 13) (tgCons (.name 14) (tgCons (.name 15) tgNil))))) (.loc 4))
  (.seq (.asg (.name 5) (.bi .len (exCons (.loc 14) exNil)))
  (.seq (.asg (.name 6) (.tup (exCons (.cst (.str (Str.ofString "definite"))) (exCons (.loc 3) (exCons (.loc 14) (exCons (.bi .tuple (exCons (.comp [21] (.range1 (.loc 5)) (.name 21) (.ex (.cmp .notIn (.loc 21) (.loc 15))) (.loc 21)) exNil)) exNil))))))
  (.seq (.ite (.or (.not (.ex (.call cl 24 (exCons (.call cl 9 (exCons (.loc 4) exNil)) (exCons (.cst (.bl true)) exNil))))) (.not (.ex (.call cl 24 (exCons (.call cl 32 (exCons (.cst (.fn 20)) (exCons (.loc 4) (exCons (.cst (.str (Str.ofString "one"))) exNil)))) (exCons (.loc 6) exNil)))))) (.ret (.cst (.bl false))) .skip)
  (.seq (.for (.range1 (.cst (.int 6))) (.name 7) (.seq (.asg (.name 16) (.call cl 27 (exCons (.loc 1) (exCons (.loc 3) (exCons (.cst (.int 12)) exNil)))))
  (.ite (.not (.ex (.call cl 24 (exCons (.call cl 32 (exCons (.cst (.fn 19)) (exCons (.loc 4) (exCons (.loc 16) exNil)))) (exCons (.call cl 31 (exCons (.loc 4) (exCons (.loc 16) exNil))) exNil))))) (.ret (.cst (.bl false))) .skip)))
  (.seq (.asg (.tup 4 (tgCons (.name 17) (tgCons (.name 18) (tgCons (.name 19) (tgCons (.name 20) tgNil))))) (.idx (.loc 14) (.cst (.int 0))))
  (.seq (.asg (.name 8) (.lst (exCons (.cst .non) (exCons (.slc (.loc 4) .no (.at (.cst (.int 3)))) (exCons (.bin .add (.tup (exCons (.cst (.str (Str.ofString "definites"))) exNil)) (.slc (.loc 4) (.at (.cst (.int 1))) .no)) (exCons (.tup (exCons (.loc 12) (exCons (.loc 3) (exCons (.tup exNil) (exCons (.tup exNil) exNil))))) (exCons (.tup (exCons (.loc 12) (exCons (.loc 3) (exCons (.bi .list (exCons (.loc 14) exNil)) (exCons (.loc 15) exNil))))) (exCons (.tup (exCons (.loc 12) (exCons (.loc 3) (exCons (.loc 14) (exCons (.bin .add (.loc 15) (.tup (exCons (.loc 5) exNil))) exNil))))) (exCons (.tup (exCons (.loc 12) (exCons (.loc 3) (exCons (.bin .mul (.loc 14) (.cst (.int 41))) (exCons (.tup exNil) exNil))))) exNil)))))))))
  (.seq (.asg (.name 8) (.bin .add (.loc 8) (.lst (exCons (.tup (exCons (.loc 12) (exCons (.loc 3) (exCons (.bin .add (.tup (exCons (.tup (exCons (.bin .add (.loc 17) (.tup (exCons (.cst (.int 0)) exNil))) (exCons (.loc 18) (exCons (.loc 19) (exCons (.loc 20) exNil))))) exNil)) (.slc (.loc 14) (.at (.cst (.int 1))) .no)) (exCons (.loc 15) exNil))))) (exCons (.tup (exCons (.loc 12) (exCons (.loc 3) (exCons (.bin .add (.tup (exCons (.tup (exCons (.loc 17) (exCons (.bin .add (.loc 18) (.tup (exCons (.cst (.int 0)) exNil))) (exCons (.loc 19) (exCons (.loc 20) exNil))))) exNil)) (.slc (.loc 14) (.at (.cst (.int 1))) .no)) (exCons (.loc 15) exNil))))) exNil)))))
  (.seq (.asg (.name 8) (.bin .add (.loc 8) (.lst (exCons (.tup (exCons (.loc 12) (exCons (.loc 3) (exCons (.bin .add (.tup (exCons (.tup (exCons (.loc 17) (exCons (.loc 18) (exCons (.bin .add (.loc 19) (.tup (exCons (.cst (.int 0)) exNil))) (exCons (.loc 20) exNil))))) exNil)) (.slc (.loc 14) (.at (.cst (.int 1))) .no)) (exCons (.loc 15) exNil))))) (exCons (.tup (exCons (.loc 12) (exCons (.loc 3) (exCons (.bin .add (.tup (exCons (.tup (exCons (.loc 17) (exCons (.loc 18) (exCons (.loc 19) (exCons (.bin .add (.loc 20) (.tup (exCons (.tup exNil) exNil))) exNil))))) exNil)) (.slc (.loc 14) (.at (.cst (.int 1))) .no)) (exCons (.loc 15) exNil))))) exNil)))))
  (.seq (.asg (.name 8) (.bin .add (.loc 8) (.lst (exCons (.tup (exCons (.loc 12) (exCons (.loc 3) (exCons (.bin .add (.tup (exCons (.slc (.idx (.loc 14) (.cst (.int 0))) .no (.at (.cst (.int 3)))) exNil)) (.slc (.loc 14) (.at (.cst (.int 1))) .no)) (exCons (.loc 15) exNil))))) (exCons (.tup (exCons (.loc 12) (exCons (.tup (exCons (.cst (.str (Str.ofString "signs"))) (exCons (.cst (.int 0)) (exCons (.cst (.int 0)) (exCons (.cst (.int 0)) exNil))))) (exCons (.loc 14) (exCons (.loc 15) exNil))))) (exCons (.tup (exCons (.loc 12) (exCons (.loc 3) (exCons (.loc 14) (exCons (.tup (exCons (.cst (.int 0)) (exCons (.cst (.int 0)) exNil))) exNil))))) exNil))))))
  (.seq (.asg (.name 8) (.bin .add (.loc 8) (.lst (exCons (.ite (.ex (.cmp .gt (.bin .mul (.idx (.loc 3) (.cst (.int 1))) (.idx (.loc 3) (.cst (.int 2)))) (.cst (.int 0)))) (.tup (exCons (.loc 12) (exCons (.loc 3) (exCons (.bin .add (.loc 14) (.slc (.loc 14) .no (.at (.cst (.int 1))))) (exCons (.loc 15) exNil))))) (.cst (.int 5))) exNil))))
  (.seq (.asg (.name 9) (.call cl 23 (exCons (.loc 1) (exCons (.loc 8) exNil))))
  (.seq (.asg (.name 10) (.call cl 23 (exCons (.loc 1) (exCons (.lst (exCons (.cst .non) (exCons (.tup (exCons (.call cl 26 (exCons (.loc 3) exNil)) exNil)) (exCons (.tup (exCons (.neg (.cst (.int 1))) exNil)) (exCons (.lst (exCons (.cst (.int 0)) exNil)) (exCons (.bin .mul (.tup (exCons (.cst (.int 0)) exNil)) (.cst (.int 301))) exNil)))))) exNil))))
  (.seq (.asg (.name 11) (.tup (exCons (.call cl 32 (exCons (.cst (.fn 19)) (exCons (.loc 4) (exCons (.loc 10) exNil)))) (exCons (.call cl 32 (exCons (.cst (.fn 19)) (exCons (.loc 9) (exCons (.loc 10) exNil)))) (exCons (.call cl 32 (exCons (.cst (.fn 20)) (exCons (.loc 9) (exCons (.cst (.str (Str.ofString "one"))) exNil)))) exNil)))))
  (.ite (.or (.not (.ex (.call cl 24 (exCons (.call cl 9 (exCons (.loc 9) exNil)) (exCons (.cst (.bl false)) exNil))))) (.ex (.cmp .ne (.loc 11) (.tup (exCons (.cst (.str (Str.ofString "word"))) (exCons (.cst (.str (Str.ofString "system"))) (exCons (.cst (.str (Str.ofString "system"))) exNil))))))) (.ret (.cst (.bl false))) .skip))))))))))))))))))
  (.ret (.cst (.bl true))))))
def prog (cl : Cl) : Cl := fun k ds g => match k with
  | 0 => body 3 3 (b_is_integer cl) ds g
  | 1 => body 1 3 (b_are_ascending cl) ds g
  | 2 => body 1 2 (b_is_signs cl) ds g
  | 3 => body 1 1 (b_many_signs cl) ds g
  | 4 => body 2 3 (b_is_word_of cl) ds g
  | 5 => body 2 3 (b_are_states cl) ds g
  | 6 => body 2 2 (b_check_word cl) ds g
  | 7 => body 3 4 (b_are_nexts cl) ds g
  | 8 => body 3 12 (b_is_row cl) ds g
  | 9 => body 1 6 (b_is_definite cl) ds g
  | 10 => body 1 1 (b_check_definite cl) ds g
  | 11 => body 2 5 (b_Table___init__ cl) ds g
  | 12 => body 3 3 (b_Table_plain cl) ds g
  | 13 => body 3 3 (b_Table_call cl) ds g
  | 14 => body 3 3 (b_Table_free cl) ds g
  | 15 => body 5 5 (b_Table_back cl) ds g
  | 16 => body 2 2 (b_Table_is_end cl) ds g
  | 17 => body 4 7 (b_Table_step cl) ds g
  | 18 => body 2 5 (b_Table_read cl) ds g
  | 19 => body 2 3 (b_takes_definite cl) ds g
  | 20 => body 1 6 (b_opposite cl) ds g
  | 21 => body 1 3 (b__law_tape cl) ds g
  | 22 => body 2 4 (b__law_draw cl) ds g
  | 23 => body 2 2 (b__law_pick cl) ds g
  | 24 => body 2 3 (b__law_same cl) ds g
  | 25 => body 1 1 (b__law_signs cl) ds g
  | 26 => body 1 1 (b__law_many cl) ds g
  | 27 => body 3 4 (b__law_word cl) ds g
  | 28 => body 3 13 (b__law_definite cl) ds g
  | 29 => body 3 13 (b__law_step cl) ds g
  | 30 => body 2 4 (b__law_read cl) ds g
  | 31 => body 2 2 (b__law_is_taken cl) ds g
  | 32 => body 3 4 (b__law_call cl) ds g
  | 33 => body 1 22 (b_law cl) ds g
  | _ => .stuck
def callN : Nat → Cl
  | 0 => fun _ _ _ => .stuck
  | n + 1 => prog (callN n)
def law : Nat := 33
end K32
namespace K32
open PySem DV
open PySem.Spec PyProof.Rows L2 RZ
def top (i : Nat) : Stmt := PySem.Challenge.pw_stackstead_k32_definite_machines.main.body.getD i (.Pass ⟨0, 0, 0, 0⟩)
abbrev s0 : Stmt := top 5
abbrev s1 : Stmt := top 6
abbrev s2 : Stmt := top 10
abbrev s3 : Stmt := top 11
abbrev s4 : Stmt := top 12
abbrev s5 : Stmt := top 13
abbrev s6 : Stmt := top 14
abbrev s7 : Stmt := top 17
abbrev s8 : Stmt := top 18
abbrev s9 : Stmt := top 19
abbrev s10 : Stmt := top 20
abbrev s11 : Stmt := inClass (top 21) 0
abbrev s12 : Stmt := inClass (top 21) 1
abbrev s13 : Stmt := inClass (top 21) 2
abbrev s14 : Stmt := inClass (top 21) 3
abbrev s15 : Stmt := inClass (top 21) 4
abbrev s16 : Stmt := inClass (top 21) 5
abbrev s17 : Stmt := inClass (top 21) 6
abbrev s18 : Stmt := inClass (top 21) 7
abbrev s19 : Stmt := top 22
abbrev s20 : Stmt := top 24
abbrev s21 : Stmt := top 26
abbrev s22 : Stmt := top 27
abbrev s23 : Stmt := top 28
abbrev s24 : Stmt := top 29
abbrev s25 : Stmt := top 30
abbrev s26 : Stmt := top 31
abbrev s27 : Stmt := top 32
abbrev s28 : Stmt := top 33
abbrev s29 : Stmt := top 34
abbrev s30 : Stmt := top 35
abbrev s31 : Stmt := top 36
abbrev s32 : Stmt := top 37
abbrev s33 : Stmt := top 38
abbrev N0 : List Str := ["value", "low", "high"]
abbrev p0 : List Str := ["value", "low", "high"]
abbrev N1 : List Str := ["rows", "one", "other"]
abbrev p1 : List Str := ["rows"]
abbrev N2 : List Str := ["value", "one"]
abbrev p2 : List Str := ["value"]
abbrev N3 : List Str := ["signs"]
abbrev p3 : List Str := ["signs"]
abbrev N4 : List Str := ["signs", "value", "one"]
abbrev p4 : List Str := ["signs", "value"]
abbrev N5 : List Str := ["value", "many", "one"]
abbrev p5 : List Str := ["value", "many"]
abbrev N6 : List Str := ["signs", "word"]
abbrev p6 : List Str := ["signs", "word"]
abbrev N7 : List Str := ["value", "many", "length", "one"]
abbrev p7 : List Str := ["value", "many", "length"]
abbrev N8 : List Str := ["value", "signs", "many", "_", "a", "b", "c", "plains", "calls", "frees", "backs", "one"]
abbrev p8 : List Str := ["value", "signs", "many"]
abbrev N9 : List Str := ["value", "_", "signs", "rows", "ends", "row"]
abbrev p9 : List Str := ["value"]
abbrev N10 : List Str := ["machine"]
abbrev p10 : List Str := ["machine"]
abbrev N11 : List Str := ["self", "machine", "_", "ends", "end"]
abbrev p11 : List Str := ["self", "machine"]
abbrev N12 : List Str := ["self", "state", "number"]
abbrev p12 : List Str := ["self", "state", "number"]
abbrev N13 : List Str := ["self", "state", "number"]
abbrev p13 : List Str := ["self", "state", "number"]
abbrev N14 : List Str := ["self", "state", "number"]
abbrev p14 : List Str := ["self", "state", "number"]
abbrev N15 : List Str := ["self", "state", "number", "outer", "call"]
abbrev p15 : List Str := ["self", "state", "number", "outer", "call"]
abbrev N16 : List Str := ["self", "state"]
abbrev p16 : List Str := ["self", "state"]
abbrev N17 : List Str := ["self", "state", "kept", "sign", "_", "a", "b"]
abbrev p17 : List Str := ["self", "state", "kept", "sign"]
abbrev N18 : List Str := ["self", "word", "sign", "state", "kept"]
abbrev p18 : List Str := ["self", "word"]
abbrev N19 : List Str := ["machine", "word", "table"]
abbrev p19 : List Str := ["machine", "word"]
abbrev N20 : List Str := ["machine", "_", "signs", "rows", "ends", "k"]
abbrev p20 : List Str := ["machine"]
abbrev N21 : List Str := ["script", "seed", "cell"]
abbrev p21 : List Str := ["script"]
abbrev N22 : List Str := ["tape", "many", "cells", "number"]
abbrev p22 : List Str := ["tape", "many"]
abbrev N23 : List Str := ["tape", "row"]
abbrev p23 : List Str := ["tape", "row"]
abbrev N24 : List Str := ["told", "due", "k"]
abbrev p24 : List Str := ["told", "due"]
abbrev N25 : List Str := ["tape"]
abbrev p25 : List Str := ["tape"]
abbrev N26 : List Str := ["signs"]
abbrev p26 : List Str := ["signs"]
abbrev N27 : List Str := ["tape", "signs", "most", "k"]
abbrev p27 : List Str := ["tape", "signs", "most"]
abbrev N28 : List Str := ["tape", "signs", "most", "many", "rows", "q", "ends", "plains", "calls", "frees", "backs", "k", "r"]
abbrev p28 : List Str := ["tape", "signs", "most"]
abbrev N29 : List Str := ["machine", "now", "sign", "signs", "rows", "state", "kept", "plains", "calls", "frees", "backs", "s", "i"]
abbrev p29 : List Str := ["machine", "now", "sign"]
abbrev N30 : List Str := ["machine", "word", "now", "sign"]
abbrev p30 : List Str := ["machine", "word"]
abbrev N31 : List Str := ["machine", "word"]
abbrev p31 : List Str := ["machine", "word"]
abbrev N32 : List Str := ["call", "one", "other", "told"]
abbrev p32 : List Str := ["call", "one", "other"]
abbrev N33 : List Str := ["script", "tape", "turn", "signs", "machine", "many", "others", "again", "wrong", "none", "odd", "told", "word", "one", "rows", "ends", "text", "plains", "calls", "frees", "backs", "q"]
abbrev p33 : List Str := ["script"]
structure Txt (Z : Tab) : Prop where
  B : Blt Z.mg
  C : ClsOk Z T
  mf_0 : Z.mg "is_integer" = some (.ref (Z.fn 0))
  mf_1 : Z.mg "are_ascending" = some (.ref (Z.fn 1))
  mf_2 : Z.mg "is_signs" = some (.ref (Z.fn 2))
  mf_3 : Z.mg "many_signs" = some (.ref (Z.fn 3))
  mf_4 : Z.mg "is_word_of" = some (.ref (Z.fn 4))
  mf_5 : Z.mg "are_states" = some (.ref (Z.fn 5))
  mf_6 : Z.mg "check_word" = some (.ref (Z.fn 6))
  mf_7 : Z.mg "are_nexts" = some (.ref (Z.fn 7))
  mf_8 : Z.mg "is_row" = some (.ref (Z.fn 8))
  mf_9 : Z.mg "is_definite" = some (.ref (Z.fn 9))
  mf_10 : Z.mg "check_definite" = some (.ref (Z.fn 10))
  mf_19 : Z.mg "takes_definite" = some (.ref (Z.fn 19))
  mf_20 : Z.mg "opposite" = some (.ref (Z.fn 20))
  mf_21 : Z.mg "_law_tape" = some (.ref (Z.fn 21))
  mf_22 : Z.mg "_law_draw" = some (.ref (Z.fn 22))
  mf_23 : Z.mg "_law_pick" = some (.ref (Z.fn 23))
  mf_24 : Z.mg "_law_same" = some (.ref (Z.fn 24))
  mf_25 : Z.mg "_law_signs" = some (.ref (Z.fn 25))
  mf_26 : Z.mg "_law_many" = some (.ref (Z.fn 26))
  mf_27 : Z.mg "_law_word" = some (.ref (Z.fn 27))
  mf_28 : Z.mg "_law_definite" = some (.ref (Z.fn 28))
  mf_29 : Z.mg "_law_step" = some (.ref (Z.fn 29))
  mf_30 : Z.mg "_law_read" = some (.ref (Z.fn 30))
  mf_31 : Z.mg "_law_is_taken" = some (.ref (Z.fn 31))
  mf_32 : Z.mg "_law_call" = some (.ref (Z.fn 32))
  mf_33 : Z.mg "law" = some (.ref (Z.fn 33))
  mc_0 : Z.mg "Table" = some (.ref (Z.cls 0))
  mk_0 : L2.Mk Z.K (Z.cls 0) (Z.fn 11)
  mx_0 : Z.mg "StackError" = some (.ref (Z.exc 0))
  xo_0 : ExcOk Z 0
  mx_1 : Z.mg "BadSystem" = some (.ref (Z.exc 1))
  xo_1 : ExcOk Z 1
  mx_2 : Z.mg "BadWord" = some (.ref (Z.exc 2))
  xo_2 : ExcOk Z 2
  ex_1 : ∀ c', c' < Z.ne → PySem.W.exmOne Z.K (.ref (Z.exc c')) (.ref (Z.exc 1)) = some (decide (1 = c'))
  ex_2 : ∀ c', c' < Z.ne → PySem.W.exmOne Z.K (.ref (Z.exc c')) (.ref (Z.exc 2)) = some (decide (2 = c'))
  mi_MOST_WORD : ∃ t, Z.mg "MOST_WORD" = some (.int 300 t)
  mi_MOST_KIND : ∃ t, Z.mg "MOST_KIND" = some (.int 3 t)
  mi_MOST_DEFINITE : ∃ t, Z.mg "MOST_DEFINITE" = some (.int 40 t)
section
variable {Z : Tab} {X : Cx} {W : WX} {lev m : Nat} {cl : Cl}
theorem d0 (Tx : Txt Z) (hX : XOk Z X N0 (defScope s0) W m) (xf : XFn X) (F : ∀ n, n < 34 → FT Z lev cl n) (hl : lev ≤ m) (hl1 : lev + 1 ≤ m) : PSs X (defBody s0) (rdS Z W (b_is_integer cl)) := by
  unfold b_is_integer
  exact (ds_one (ds_ret (de_and (de_isi hX (Tx.B.at hX) .int (de_loc hX 0) (hm2 := (Tx.B.at hX).int)) (de_and (de_not (de_isi hX (Tx.B.at hX) .bool (de_loc hX 0) (hm2 := (Tx.B.at hX).bool))) (de_one (de_chain (opc_le hX.hK hX.hu0) (opc_le hX.hK hX.hu0) (de_loc hX 1) (de_loc hX 0) (de_loc hX 2)))))))
theorem d1 (Tx : Txt Z) (hX : XOk Z X N1 (defScope s1) W m) (xf : XFn X) (F : ∀ n, n < 34 → FT Z lev cl n) (hl : lev ≤ m) (hl1 : lev + 1 ≤ m) : PSs X (defBody s1) (rdS Z W (b_are_ascending cl)) := by
  unfold b_are_ascending
  exact (ds_one (ds_ret (de_biF .all hX (bi_all hX.hK hX.calm) (Tx.B.at hX).all (da_cons (de_comp hX [(("one" : Str), 1), (("other" : Str), 2)] (di_zip hX (Tx.B.at hX) (de_loc hX 0) (de_slc hX.hK (de_loc hX 0) (do_at de_int) do_no)) (fun s1 h1 c1 l1 f1 => (dg_tup (hX.blk s1 h1 c1 l1 f1) (dgs_cons (dg_name (hX.blk s1 h1 c1 l1 f1) 1) (dgs_cons (dg_name (hX.blk s1 h1 c1 l1 f1) 2) dgs_nil)))) (fun s2 h2 c2 l2 f2 => dts_nil) (fun s3 h3 c3 l3 f3 => (de_cmp (opc_lt (hX.blk s3 h3 c3 l3 f3).hK (hX.blk s3 h3 c3 l3 f3).hu0) (de_loc (hX.blk s3 h3 c3 l3 f3) 1) (de_loc (hX.blk s3 h3 c3 l3 f3) 2)))) da_nil))))
theorem d2 (Tx : Txt Z) (hX : XOk Z X N2 (defScope s2) W m) (xf : XFn X) (F : ∀ n, n < 34 → FT Z lev cl n) (hl : lev ≤ m) (hl1 : lev + 1 ≤ m) : PSs X (defBody s2) (rdS Z W (b_is_signs cl)) := by
  unfold b_is_signs
  exact (ds_cons (ds_if (dt_w (dw_or (dt_not (dt_ex hX.hK (de_isi hX (Tx.B.at hX) .tuple (de_loc hX 0) (hm2 := (Tx.B.at hX).tuple)))) (dw_or (dt_cmp (opc_ne hX.hK hX.hu0) (de_biF .len hX (bi_len hX.hK) (Tx.B.at hX).len (da_cons (de_loc hX 0) da_nil)) de_int) (dw_or1 (dt_cmp (opc_ne hX.hK hX.hu0) (de_idx hX.hK (de_loc hX 0) de_int (fun _ _ => rfl)) de_str))))) (ds_one (ds_ret de_bl)) ds_nil)
    (ds_one (ds_ret (de_and (de_biF .all hX (bi_all hX.hK hX.calm) (Tx.B.at hX).all (da_cons (de_comp hX [(("one" : Str), 1)] (di_of hX.hK (de_slc hX.hK (de_loc hX 0) (do_at de_int) do_no)) (fun s1 h1 c1 l1 f1 => (dg_name (hX.blk s1 h1 c1 l1 f1) 1)) (fun s2 h2 c2 l2 f2 => dts_nil) (fun s3 h3 c3 l3 f3 => (de_call (hX.blk s3 h3 c3 l3 f3) (F 0 (by decide)) hl Tx.mf_0 (da_cons (de_loc (hX.blk s3 h3 c3 l3 f3) 1) (da_cons de_int (da_cons (de_gI (hX.blk s3 h3 c3 l3 f3) Tx.mi_MOST_KIND) da_nil)))))) da_nil)) (de_one (de_biF .any hX (bi_any hX.hK hX.calm) (Tx.B.at hX).any (da_cons (de_slc hX.hK (de_loc hX 0) (do_at de_int) do_no) da_nil)))))))
theorem d3 (Tx : Txt Z) (hX : XOk Z X N3 (defScope s3) W m) (xf : XFn X) (F : ∀ n, n < 34 → FT Z lev cl n) (hl : lev ≤ m) (hl1 : lev + 1 ≤ m) : PSs X (defBody s3) (rdS Z W (b_many_signs cl)) := by
  unfold b_many_signs
  exact (ds_one (ds_ret (de_bin (opd_add hX.hK) (de_bin (opd_add hX.hK) (de_idx hX.hK (de_loc hX 0) de_int (fun _ _ => rfl)) (de_idx hX.hK (de_loc hX 0) de_int (fun _ _ => rfl))) (de_idx hX.hK (de_loc hX 0) de_int (fun _ _ => rfl)))))
theorem d4 (Tx : Txt Z) (hX : XOk Z X N4 (defScope s4) W m) (xf : XFn X) (F : ∀ n, n < 34 → FT Z lev cl n) (hl : lev ≤ m) (hl1 : lev + 1 ≤ m) : PSs X (defBody s4) (rdS Z W (b_is_word_of cl)) := by
  unfold b_is_word_of
  exact (ds_cons (ds_if (dt_w (dw_or (dt_not (dt_ex hX.hK (de_isi hX (Tx.B.at hX) .tuple (de_loc hX 1) (hm2 := (Tx.B.at hX).tuple)))) (dw_or1 (dt_cmp (opc_gt hX.hK hX.hu0) (de_biF .len hX (bi_len hX.hK) (Tx.B.at hX).len (da_cons (de_loc hX 1) da_nil)) (de_gI hX Tx.mi_MOST_WORD))))) (ds_one (ds_ret de_bl)) ds_nil)
    (ds_one (ds_ret (de_biF .all hX (bi_all hX.hK hX.calm) (Tx.B.at hX).all (da_cons (de_comp hX [(("one" : Str), 2)] (di_of hX.hK (de_loc hX 1)) (fun s1 h1 c1 l1 f1 => (dg_name (hX.blk s1 h1 c1 l1 f1) 2)) (fun s2 h2 c2 l2 f2 => dts_nil) (fun s3 h3 c3 l3 f3 => (de_call (hX.blk s3 h3 c3 l3 f3) (F 0 (by decide)) hl Tx.mf_0 (da_cons (de_loc (hX.blk s3 h3 c3 l3 f3) 2) (da_cons de_int (da_cons (de_bin opd_sub (de_call (hX.blk s3 h3 c3 l3 f3) (F 3 (by decide)) hl Tx.mf_3 (da_cons (de_loc (hX.blk s3 h3 c3 l3 f3) 0) da_nil)) de_int) da_nil)))))) da_nil)))))
theorem d5 (Tx : Txt Z) (hX : XOk Z X N5 (defScope s5) W m) (xf : XFn X) (F : ∀ n, n < 34 → FT Z lev cl n) (hl : lev ≤ m) (hl1 : lev + 1 ≤ m) : PSs X (defBody s5) (rdS Z W (b_are_states cl)) := by
  unfold b_are_states
  exact (ds_cons (ds_if (dt_w (dw_or (dt_not (dt_ex hX.hK (de_isi hX (Tx.B.at hX) .tuple (de_loc hX 0) (hm2 := (Tx.B.at hX).tuple)))) (dw_or1 (dt_not (dt_ex hX.hK (de_biF .all hX (bi_all hX.hK hX.calm) (Tx.B.at hX).all (da_cons (de_comp hX [(("one" : Str), 2)] (di_of hX.hK (de_loc hX 0)) (fun s1 h1 c1 l1 f1 => (dg_name (hX.blk s1 h1 c1 l1 f1) 2)) (fun s2 h2 c2 l2 f2 => dts_nil) (fun s3 h3 c3 l3 f3 => (de_call (hX.blk s3 h3 c3 l3 f3) (F 0 (by decide)) hl Tx.mf_0 (da_cons (de_loc (hX.blk s3 h3 c3 l3 f3) 2) (da_cons de_int (da_cons (de_bin opd_sub (de_loc (hX.blk s3 h3 c3 l3 f3) 1) de_int) da_nil)))))) da_nil))))))) (ds_one (ds_ret de_bl)) ds_nil)
    (ds_one (ds_ret (de_call hX (F 1 (by decide)) hl Tx.mf_1 (da_cons (de_loc hX 0) da_nil)))))
theorem d6 (Tx : Txt Z) (hX : XOk Z X N6 (defScope s6) W m) (xf : XFn X) (F : ∀ n, n < 34 → FT Z lev cl n) (hl : lev ≤ m) (hl1 : lev + 1 ≤ m) : PSs X (defBody s6) (rdS Z W (b_check_word cl)) := by
  unfold b_check_word
  exact (ds_one (ds_if (dt_not (dt_ex hX.hK (de_call hX (F 4 (by decide)) hl Tx.mf_4 (da_cons (de_loc hX 0) (da_cons (de_loc hX 1) da_nil))))) (ds_one (ds_raise0 hX 2 Tx.xo_2 Tx.mx_2)) ds_nil))
theorem d7 (Tx : Txt Z) (hX : XOk Z X N7 (defScope s7) W m) (xf : XFn X) (F : ∀ n, n < 34 → FT Z lev cl n) (hl : lev ≤ m) (hl1 : lev + 1 ≤ m) : PSs X (defBody s7) (rdS Z W (b_are_nexts cl)) := by
  unfold b_are_nexts
  exact (ds_one (ds_ret (de_and (de_isi hX (Tx.B.at hX) .tuple (de_loc hX 0) (hm2 := (Tx.B.at hX).tuple)) (de_and (de_cmp (opc_eq hX.hK hX.hu0) (de_biF .len hX (bi_len hX.hK) (Tx.B.at hX).len (da_cons (de_loc hX 0) da_nil)) (de_loc hX 2)) (de_one (de_biF .all hX (bi_all hX.hK hX.calm) (Tx.B.at hX).all (da_cons (de_comp hX [(("one" : Str), 3)] (di_of hX.hK (de_loc hX 0)) (fun s1 h1 c1 l1 f1 => (dg_name (hX.blk s1 h1 c1 l1 f1) 3)) (fun s2 h2 c2 l2 f2 => dts_nil) (fun s3 h3 c3 l3 f3 => (de_call (hX.blk s3 h3 c3 l3 f3) (F 0 (by decide)) hl Tx.mf_0 (da_cons (de_loc (hX.blk s3 h3 c3 l3 f3) 3) (da_cons de_int (da_cons (de_bin opd_sub (de_loc (hX.blk s3 h3 c3 l3 f3) 1) de_int) da_nil)))))) da_nil)))))))
theorem d8 (Tx : Txt Z) (hX : XOk Z X N8 (defScope s8) W m) (xf : XFn X) (F : ∀ n, n < 34 → FT Z lev cl n) (hl : lev ≤ m) (hl1 : lev + 1 ≤ m) : PSs X (defBody s8) (rdS Z W (b_is_row cl)) := by
  unfold b_is_row
  exact (ds_cons (ds_asg (de_loc hX 1) (dg_tup hX (dgs_cons (dg_name hX 3 (hf := .inl (xf.fn _))) (dgs_cons (dg_name hX 4 (hf := .inl (xf.fn _))) (dgs_cons (dg_name hX 5 (hf := .inl (xf.fn _))) (dgs_cons (dg_name hX 6 (hf := .inl (xf.fn _))) dgs_nil))))))
    (ds_cons (ds_if (dt_w (dw_or (dt_not (dt_ex hX.hK (de_isi hX (Tx.B.at hX) .tuple (de_loc hX 0) (hm2 := (Tx.B.at hX).tuple)))) (dw_or1 (dt_cmp (opc_ne hX.hK hX.hu0) (de_biF .len hX (bi_len hX.hK) (Tx.B.at hX).len (da_cons (de_loc hX 0) da_nil)) de_int)))) (ds_one (ds_ret de_bl)) ds_nil)
    (ds_cons (ds_asg (de_loc hX 0) (dg_tup hX (dgs_cons (dg_name hX 7 (hf := .inl (xf.fn _))) (dgs_cons (dg_name hX 8 (hf := .inl (xf.fn _))) (dgs_cons (dg_name hX 9 (hf := .inl (xf.fn _))) (dgs_cons (dg_name hX 10 (hf := .inl (xf.fn _))) dgs_nil))))))
    (ds_cons (ds_if (dt_w (dw_or (dt_not (dt_ex hX.hK (de_call hX (F 7 (by decide)) hl Tx.mf_7 (da_cons (de_loc hX 7) (da_cons (de_loc hX 2) (da_cons (de_loc hX 6) da_nil)))))) (dw_or (dt_not (dt_ex hX.hK (de_call hX (F 7 (by decide)) hl Tx.mf_7 (da_cons (de_loc hX 8) (da_cons (de_loc hX 2) (da_cons (de_loc hX 4) da_nil)))))) (dw_or1 (dt_not (dt_ex hX.hK (de_call hX (F 7 (by decide)) hl Tx.mf_7 (da_cons (de_loc hX 9) (da_cons (de_loc hX 2) (da_cons (de_loc hX 5) da_nil)))))))))) (ds_one (ds_ret de_bl)) ds_nil)
    (ds_cons (ds_if (dt_w (dw_or (dt_not (dt_ex hX.hK (de_isi hX (Tx.B.at hX) .tuple (de_loc hX 10) (hm2 := (Tx.B.at hX).tuple)))) (dw_or1 (dt_cmp (opc_ne hX.hK hX.hu0) (de_biF .len hX (bi_len hX.hK) (Tx.B.at hX).len (da_cons (de_loc hX 10) da_nil)) (de_loc hX 5))))) (ds_one (ds_ret de_bl)) ds_nil)
    (ds_one (ds_ret (de_biF .all hX (bi_all hX.hK hX.calm) (Tx.B.at hX).all (da_cons (de_comp hX [(("one" : Str), 11)] (di_of hX.hK (de_loc hX 10)) (fun s1 h1 c1 l1 f1 => (dg_name (hX.blk s1 h1 c1 l1 f1) 11)) (fun s2 h2 c2 l2 f2 => dts_nil) (fun s3 h3 c3 l3 f3 => (de_call (hX.blk s3 h3 c3 l3 f3) (F 7 (by decide)) hl Tx.mf_7 (da_cons (de_loc (hX.blk s3 h3 c3 l3 f3) 11) (da_cons (de_loc (hX.blk s3 h3 c3 l3 f3) 2) (da_cons (de_bin (opd_mul (hX.blk s3 h3 c3 l3 f3).hK) (de_loc (hX.blk s3 h3 c3 l3 f3) 2) (de_loc (hX.blk s3 h3 c3 l3 f3) 4)) da_nil)))))) da_nil)))))))))
theorem d9 (Tx : Txt Z) (hX : XOk Z X N9 (defScope s9) W m) (xf : XFn X) (F : ∀ n, n < 34 → FT Z lev cl n) (hl : lev ≤ m) (hl1 : lev + 1 ≤ m) : PSs X (defBody s9) (rdS Z W (b_is_definite cl)) := by
  unfold b_is_definite
  exact (ds_cons (ds_if (dt_w (dw_or (dt_not (dt_ex hX.hK (de_isi hX (Tx.B.at hX) .tuple (de_loc hX 0) (hm2 := (Tx.B.at hX).tuple)))) (dw_or (dt_cmp (opc_ne hX.hK hX.hu0) (de_biF .len hX (bi_len hX.hK) (Tx.B.at hX).len (da_cons (de_loc hX 0) da_nil)) de_int) (dw_or (dt_cmp (opc_ne hX.hK hX.hu0) (de_idx hX.hK (de_loc hX 0) de_int (fun _ _ => rfl)) de_str) (dw_or1 (dt_not (dt_ex hX.hK (de_call hX (F 2 (by decide)) hl Tx.mf_2 (da_cons (de_idx hX.hK (de_loc hX 0) de_int (fun _ _ => rfl)) da_nil))))))))) (ds_one (ds_ret de_bl)) ds_nil)
    (ds_cons (ds_asg (de_loc hX 0) (dg_tup hX (dgs_cons (dg_name hX 1 (hf := .inl (xf.fn _))) (dgs_cons (dg_name hX 2 (hf := .inl (xf.fn _))) (dgs_cons (dg_name hX 3 (hf := .inl (xf.fn _))) (dgs_cons (dg_name hX 4 (hf := .inl (xf.fn _))) dgs_nil))))))
    (ds_cons (ds_if (dt_w (dw_or (dt_not (dt_ex hX.hK (de_isi hX (Tx.B.at hX) .tuple (de_loc hX 3) (hm2 := (Tx.B.at hX).tuple)))) (dw_or (dt_not (dt_chain (opc_le hX.hK hX.hu0) (opc_le hX.hK hX.hu0) de_int (de_biF .len hX (bi_len hX.hK) (Tx.B.at hX).len (da_cons (de_loc hX 3) da_nil)) (de_gI hX Tx.mi_MOST_DEFINITE))) (dw_or1 (dt_not (dt_ex hX.hK (de_call hX (F 5 (by decide)) hl Tx.mf_5 (da_cons (de_loc hX 4) (da_cons (de_biF .len hX (bi_len hX.hK) (Tx.B.at hX).len (da_cons (de_loc hX 3) da_nil)) da_nil))))))))) (ds_one (ds_ret de_bl)) ds_nil)
    (ds_one (ds_ret (de_biF .all hX (bi_all hX.hK hX.calm) (Tx.B.at hX).all (da_cons (de_comp hX [(("row" : Str), 5)] (di_of hX.hK (de_loc hX 3)) (fun s1 h1 c1 l1 f1 => (dg_name (hX.blk s1 h1 c1 l1 f1) 5)) (fun s2 h2 c2 l2 f2 => dts_nil) (fun s3 h3 c3 l3 f3 => (de_call (hX.blk s3 h3 c3 l3 f3) (F 8 (by decide)) hl Tx.mf_8 (da_cons (de_loc (hX.blk s3 h3 c3 l3 f3) 5) (da_cons (de_loc (hX.blk s3 h3 c3 l3 f3) 2) (da_cons (de_biF .len (hX.blk s3 h3 c3 l3 f3) (bi_len (hX.blk s3 h3 c3 l3 f3).hK) (Tx.B.at (hX.blk s3 h3 c3 l3 f3)).len (da_cons (de_loc (hX.blk s3 h3 c3 l3 f3) 3) da_nil)) da_nil)))))) da_nil)))))))
theorem d10 (Tx : Txt Z) (hX : XOk Z X N10 (defScope s10) W m) (xf : XFn X) (F : ∀ n, n < 34 → FT Z lev cl n) (hl : lev ≤ m) (hl1 : lev + 1 ≤ m) : PSs X (defBody s10) (rdS Z W (b_check_definite cl)) := by
  unfold b_check_definite
  exact (ds_one (ds_if (dt_not (dt_ex hX.hK (de_call hX (F 9 (by decide)) hl Tx.mf_9 (da_cons (de_loc hX 0) da_nil)))) (ds_one (ds_raise0 hX 1 Tx.xo_1 Tx.mx_1)) ds_nil))
theorem d11 (Tx : Txt Z) (hX : XOk Z X N11 (defScope s11) W m) (xf : XFn X) (F : ∀ n, n < 34 → FT Z lev cl n) (hl : lev ≤ m) (hl1 : lev + 1 ≤ m) : PSs X (defBody s11) (rdS Z W (b_Table___init__ cl)) := by
  unfold b_Table___init__
  exact (ds_cons (ds_asg (de_loc hX 1) (dg_tup hX (dgs_cons (dg_name hX 2 (hf := .inl (xf.fn _))) (dgs_cons (dg_fld hX Tx.C (de_loc hX 0)) (dgs_cons (dg_fld hX Tx.C (de_loc hX 0)) (dgs_cons (dg_name hX 3 (hf := .inl (xf.fn _))) dgs_nil))))))
    (ds_cons (ds_asg (de_biF .len hX (bi_len hX.hK) (Tx.B.at hX).len (da_cons (de_fld hX.hK Tx.C (de_loc hX 0)) da_nil)) (dg_fld hX Tx.C (de_loc hX 0)))
    (ds_cons (ds_asg (de_dcomp hX [(("end" : Str), 4)] (di_of hX.hK (de_loc hX 3)) (fun s1 h1 c1 l1 f1 => (dg_name (hX.blk s1 h1 c1 l1 f1) 4)) (fun s2 h2 c2 l2 f2 => dts_nil) (fun s3 h3 c3 l3 f3 => (de_loc (hX.blk s3 h3 c3 l3 f3) 4)) (fun s4 h4 c4 l4 f4 => de_bl)) (dg_fld hX Tx.C (de_loc hX 0)))
    (ds_one (ds_asg de_int (dg_fld hX Tx.C (de_loc hX 0)))))))
theorem d12 (Tx : Txt Z) (hX : XOk Z X N12 (defScope s12) W m) (xf : XFn X) (F : ∀ n, n < 34 → FT Z lev cl n) (hl : lev ≤ m) (hl1 : lev + 1 ≤ m) : PSs X (defBody s12) (rdS Z W (b_Table_plain cl)) := by
  unfold b_Table_plain
  exact (ds_one (ds_ret (de_idx hX.hK (de_idx hX.hK (de_idx hX.hK (de_fld hX.hK Tx.C (de_loc hX 0)) (de_loc hX 1) (fun _ _ => rfl)) de_int (fun _ _ => rfl)) (de_loc hX 2) (fun _ _ => rfl))))
theorem d13 (Tx : Txt Z) (hX : XOk Z X N13 (defScope s13) W m) (xf : XFn X) (F : ∀ n, n < 34 → FT Z lev cl n) (hl : lev ≤ m) (hl1 : lev + 1 ≤ m) : PSs X (defBody s13) (rdS Z W (b_Table_call cl)) := by
  unfold b_Table_call
  exact (ds_one (ds_ret (de_idx hX.hK (de_idx hX.hK (de_idx hX.hK (de_fld hX.hK Tx.C (de_loc hX 0)) (de_loc hX 1) (fun _ _ => rfl)) de_int (fun _ _ => rfl)) (de_loc hX 2) (fun _ _ => rfl))))
theorem d14 (Tx : Txt Z) (hX : XOk Z X N14 (defScope s14) W m) (xf : XFn X) (F : ∀ n, n < 34 → FT Z lev cl n) (hl : lev ≤ m) (hl1 : lev + 1 ≤ m) : PSs X (defBody s14) (rdS Z W (b_Table_free cl)) := by
  unfold b_Table_free
  exact (ds_one (ds_ret (de_idx hX.hK (de_idx hX.hK (de_idx hX.hK (de_fld hX.hK Tx.C (de_loc hX 0)) (de_loc hX 1) (fun _ _ => rfl)) de_int (fun _ _ => rfl)) (de_loc hX 2) (fun _ _ => rfl))))
theorem d15 (Tx : Txt Z) (hX : XOk Z X N15 (defScope s15) W m) (xf : XFn X) (F : ∀ n, n < 34 → FT Z lev cl n) (hl : lev ≤ m) (hl1 : lev + 1 ≤ m) : PSs X (defBody s15) (rdS Z W (b_Table_back cl)) := by
  unfold b_Table_back
  exact (ds_one (ds_ret (de_idx hX.hK (de_idx hX.hK (de_idx hX.hK (de_idx hX.hK (de_fld hX.hK Tx.C (de_loc hX 0)) (de_loc hX 1) (fun _ _ => rfl)) de_int (fun _ _ => rfl)) (de_loc hX 2) (fun _ _ => rfl)) (de_bin (opd_add hX.hK) (de_bin (opd_mul hX.hK) (de_loc hX 3) (de_idx hX.hK (de_fld hX.hK Tx.C (de_loc hX 0)) de_int (fun _ _ => rfl))) (de_loc hX 4)) (fun _ _ => rfl))))
theorem d16 (Tx : Txt Z) (hX : XOk Z X N16 (defScope s16) W m) (xf : XFn X) (F : ∀ n, n < 34 → FT Z lev cl n) (hl : lev ≤ m) (hl1 : lev + 1 ≤ m) : PSs X (defBody s16) (rdS Z W (b_Table_is_end cl)) := by
  unfold b_Table_is_end
  exact (ds_one (ds_ret (de_cmp (opc_in hX.hK hX.hu) (de_loc hX 1) (de_fld hX.hK Tx.C (de_loc hX 0)))))
theorem d17 (Tx : Txt Z) (hX : XOk Z X N17 (defScope s17) W m) (xf : XFn X) (F : ∀ n, n < 34 → FT Z lev cl n) (hl : lev ≤ m) (hl1 : lev + 1 ≤ m) : PSs X (defBody s17) (rdS Z W (b_Table_step cl)) := by
  unfold b_Table_step
  exact (ds_cons (ds_asg (de_fld hX.hK Tx.C (de_loc hX 0)) (dg_tup hX (dgs_cons (dg_name hX 4 (hf := .inl (xf.fn _))) (dgs_cons (dg_name hX 5 (hf := .inl (xf.fn _))) (dgs_cons (dg_name hX 6 (hf := .inl (xf.fn _))) (dgs_cons (dg_name hX 4 (hf := .inl (xf.fn _))) dgs_nil))))))
    (ds_cons (ds_if (dt_cmp (opc_lt hX.hK hX.hu0) (de_loc hX 3) (de_loc hX 5)) (ds_one (ds_ret (de_tup (da_cons (de_meth hX Tx.C F hl (by decide +kernel) (de_loc hX 0) (da_cons (de_loc hX 1) (da_cons (de_loc hX 3) da_nil)) (by rfl)) (da_cons (de_bin (opd_add hX.hK) (de_tup (da_cons (de_tup (da_cons (de_loc hX 1) (da_cons (de_loc hX 3) da_nil))) da_nil)) (de_loc hX 2)) da_nil))))) ds_nil)
    (ds_cons (ds_if (dt_cmp (opc_ge hX.hK hX.hu0) (de_loc hX 3) (de_bin (opd_add hX.hK) (de_loc hX 5) (de_loc hX 6))) (ds_one (ds_ret (de_tup (da_cons (de_meth hX Tx.C F hl (by decide +kernel) (de_loc hX 0) (da_cons (de_loc hX 1) (da_cons (de_bin opd_sub (de_bin opd_sub (de_loc hX 3) (de_loc hX 5)) (de_loc hX 6)) da_nil)) (by rfl)) (da_cons (de_loc hX 2) da_nil))))) ds_nil)
    (ds_cons (ds_if (dt_cmp (opc_eq hX.hK hX.hu0) (de_loc hX 2) (de_tup da_nil)) (ds_one (ds_ret (de_tup (da_cons (de_meth hX Tx.C F hl (by decide +kernel) (de_loc hX 0) (da_cons (de_loc hX 1) (da_cons (de_bin opd_sub (de_loc hX 3) (de_loc hX 5)) da_nil)) (by rfl)) (da_cons (de_tup da_nil) da_nil))))) ds_nil)
    (ds_one (ds_ret (de_tup (da_cons (de_meth hX Tx.C F hl (by decide +kernel) (de_loc hX 0) (da_cons (de_loc hX 1) (da_cons (de_bin opd_sub (de_loc hX 3) (de_loc hX 5)) (da_cons (de_idx hX.hK (de_idx hX.hK (de_loc hX 2) de_int (fun _ _ => rfl)) de_int (fun _ _ => rfl)) (da_cons (de_idx hX.hK (de_idx hX.hK (de_loc hX 2) de_int (fun _ _ => rfl)) de_int (fun _ _ => rfl)) da_nil)))) (by rfl)) (da_cons (de_slc hX.hK (de_loc hX 2) (do_at de_int) do_no) da_nil)))))))))
theorem d18 (Tx : Txt Z) (hX : XOk Z X N18 (defScope s18) W m) (xf : XFn X) (F : ∀ n, n < 34 → FT Z lev cl n) (hl : lev ≤ m) (hl1 : lev + 1 ≤ m) : PSs X (defBody s18) (rdS Z W (b_Table_read cl)) := by
  unfold b_Table_read
  exact (ds_cons (ds_par' hX 3 4 (de_fld hX.hK Tx.C (de_loc hX 0)) (de_tup da_nil))
    (ds_cons (ds_for hX xf.pass (di_of hX.hK (de_loc hX 1)) (dg_name hX 2 (hf := .inl (xf.fn _))) (ds_one (ds_asg (de_meth hX Tx.C F hl (by decide +kernel) (de_loc hX 0) (da_cons (de_loc hX 3) (da_cons (de_loc hX 4) (da_cons (de_loc hX 2) da_nil))) (by rfl)) (dg_tup hX (dgs_cons (dg_name hX 3 (hf := .inl (xf.fn _))) (dgs_cons (dg_name hX 4 (hf := .inl (xf.fn _))) dgs_nil))))))
    (ds_one (ds_ret (de_tup (da_cons (de_loc hX 3) (da_cons (de_loc hX 4) da_nil)))))))
theorem d19 (Tx : Txt Z) (hX : XOk Z X N19 (defScope s19) W m) (xf : XFn X) (F : ∀ n, n < 34 → FT Z lev cl n) (hl : lev ≤ m) (hl1 : lev + 1 ≤ m) : PSs X (defBody s19) (rdS Z W (b_takes_definite cl)) := by
  unfold b_takes_definite
  exact (ds_cons (ds_ex (de_call hX (F 10 (by decide)) hl Tx.mf_10 (da_cons (de_loc hX 0) da_nil)))
    (ds_cons (ds_ex (de_call hX (F 6 (by decide)) hl Tx.mf_6 (da_cons (de_idx hX.hK (de_loc hX 0) de_int (fun _ _ => rfl)) (da_cons (de_loc hX 1) da_nil))))
    (ds_cons (ds_set hX 2 (de_new hX Tx.mk_0 (F 11 (by decide)) hl1 Tx.mc_0 (da_cons (de_loc hX 0) da_nil)) (hf := .inl (xf.fn _)))
    (ds_one (ds_ret (de_meth hX Tx.C F hl (by decide +kernel) (de_loc hX 2) (da_cons (de_idx hX.hK (de_meth hX Tx.C F hl (by decide +kernel) (de_loc hX 2) (da_cons (de_loc hX 1) da_nil) (by rfl)) de_int (fun _ _ => rfl)) da_nil) (by rfl)))))))
theorem d20 (Tx : Txt Z) (hX : XOk Z X N20 (defScope s20) W m) (xf : XFn X) (F : ∀ n, n < 34 → FT Z lev cl n) (hl : lev ≤ m) (hl1 : lev + 1 ≤ m) : PSs X (defBody s20) (rdS Z W (b_opposite cl)) := by
  unfold b_opposite
  exact (ds_cons (ds_ex (de_call hX (F 10 (by decide)) hl Tx.mf_10 (da_cons (de_loc hX 0) da_nil)))
    (ds_cons (ds_asg (de_loc hX 0) (dg_tup hX (dgs_cons (dg_name hX 1 (hf := .inl (xf.fn _))) (dgs_cons (dg_name hX 2 (hf := .inl (xf.fn _))) (dgs_cons (dg_name hX 3 (hf := .inl (xf.fn _))) (dgs_cons (dg_name hX 4 (hf := .inl (xf.fn _))) dgs_nil))))))
    (ds_one (ds_ret (de_tup (da_cons de_str (da_cons (de_loc hX 2) (da_cons (de_loc hX 3) (da_cons (de_biT .tuple hX (bi_tuple hX.hK) (Tx.B.at hX).tuple (da_cons (de_comp hX [(("k" : Str), 5)] (di_range1 hX (Tx.B.at hX) (de_biF .len hX (bi_len hX.hK) (Tx.B.at hX).len (da_cons (de_loc hX 3) da_nil))) (fun s1 h1 c1 l1 f1 => (dg_name (hX.blk s1 h1 c1 l1 f1) 5)) (fun s2 h2 c2 l2 f2 => dts_one (dt_cmp (opc_notIn (hX.blk s2 h2 c2 l2 f2).hK (hX.blk s2 h2 c2 l2 f2).hu) (de_loc (hX.blk s2 h2 c2 l2 f2) 5) (de_loc (hX.blk s2 h2 c2 l2 f2) 4))) (fun s3 h3 c3 l3 f3 => (de_loc (hX.blk s3 h3 c3 l3 f3) 5))) da_nil)) da_nil)))))))))
theorem d21 (Tx : Txt Z) (hX : XOk Z X N21 (defScope s21) W m) (xf : XFn X) (F : ∀ n, n < 34 → FT Z lev cl n) (hl : lev ≤ m) (hl1 : lev + 1 ≤ m) : PSs X (defBody s21) (rdS Z W (b__law_tape cl)) := by
  unfold b__law_tape
  exact (ds_cons (ds_set hX 1 de_int (hf := .inl (xf.fn _)))
    (ds_cons (ds_for hX xf.pass (di_of hX.hK (de_loc hX 0)) (dg_name hX 2 (hf := .inl (xf.fn _))) (ds_one (ds_set hX 1 (de_bin opd_mod (de_biT .int hX bi_int (Tx.B.at hX).int (da_cons (de_bin (opd_add hX.hK) (de_bin (opd_mul hX.hK) (de_loc hX 1) de_int) (de_loc hX 2)) da_nil)) de_int) (hf := .inl (xf.fn _)))))
    (ds_one (ds_ret (de_lst (da_cons (de_comp hX [(("cell" : Str), 2)] (di_of hX.hK (de_loc hX 0)) (fun s1 h1 c1 l1 f1 => (dg_name (hX.blk s1 h1 c1 l1 f1) 2)) (fun s2 h2 c2 l2 f2 => dts_nil) (fun s3 h3 c3 l3 f3 => (de_biF .abs (hX.blk s3 h3 c3 l3 f3) bi_abs (Tx.B.at (hX.blk s3 h3 c3 l3 f3)).abs (da_cons (de_biT .int (hX.blk s3 h3 c3 l3 f3) bi_int (Tx.B.at (hX.blk s3 h3 c3 l3 f3)).int (da_cons (de_loc (hX.blk s3 h3 c3 l3 f3) 2) da_nil)) da_nil)))) (da_cons (de_bin (opd_add hX.hK) (de_loc hX 1) de_int) da_nil)))))))
theorem d22 (Tx : Txt Z) (hX : XOk Z X N22 (defScope s22) W m) (xf : XFn X) (F : ∀ n, n < 34 → FT Z lev cl n) (hl : lev ≤ m) (hl1 : lev + 1 ≤ m) : PSs X (defBody s22) (rdS Z W (b__law_draw cl)) := by
  unfold b__law_draw
  exact (ds_cons (ds_set hX 2 (de_idx hX.hK (de_loc hX 0) de_int (fun _ _ => rfl)) (hf := .inl (xf.fn _)))
    (ds_cons (ds_while xf.pass (dt_w (dw_and (dt_cmp (opc_gt hX.hK hX.hu0) (de_biF .len hX (bi_len hX.hK) (Tx.B.at hX).len (da_cons (de_loc hX 2) da_nil)) de_int) (dw_and1 (dt_cmp (opc_eq hX.hK hX.hu0) (de_idx hX.hK (de_loc hX 2) de_int (fun _ _ => rfl)) de_int)))) (ds_one (ds_ex (de_mth .popAt hX.hK PySem.F.slot_list_pop PySem.F.type_list_pop m_popAt (de_loc hX 2) (da_cons de_int da_nil)))))
    (ds_cons (ds_if (dt_cmp (opc_gt hX.hK hX.hu0) (de_biF .len hX (bi_len hX.hK) (Tx.B.at hX).len (da_cons (de_loc hX 2) da_nil)) de_int) (ds_cons (ds_set hX 3 (de_idx hX.hK (de_loc hX 2) de_int (fun _ _ => rfl)) (hf := .inl (xf.fn _)))
    (ds_cons (ds_asg (de_bin opd_fdiv (de_loc hX 3) (de_loc hX 1)) (dg_sub hX (de_loc hX 2) de_int))
    (ds_one (ds_ret (de_bin opd_mod (de_biT .int hX bi_int (Tx.B.at hX).int (da_cons (de_loc hX 3) da_nil)) (de_loc hX 1)))))) ds_nil)
    (ds_cons (ds_asg (de_bin opd_mod (de_biT .int hX bi_int (Tx.B.at hX).int (da_cons (de_bin (opd_add hX.hK) (de_bin (opd_mul hX.hK) (de_idx hX.hK (de_loc hX 0) de_int (fun _ _ => rfl)) de_int) de_int) da_nil)) de_int) (dg_sub hX (de_loc hX 0) de_int))
    (ds_one (ds_ret (de_bin opd_mod (de_biT .int hX bi_int (Tx.B.at hX).int (da_cons (de_bin opd_fdiv (de_idx hX.hK (de_loc hX 0) de_int (fun _ _ => rfl)) de_int) da_nil)) (de_loc hX 1))))))))
theorem d23 (Tx : Txt Z) (hX : XOk Z X N23 (defScope s23) W m) (xf : XFn X) (F : ∀ n, n < 34 → FT Z lev cl n) (hl : lev ≤ m) (hl1 : lev + 1 ≤ m) : PSs X (defBody s23) (rdS Z W (b__law_pick cl)) := by
  unfold b__law_pick
  exact (ds_one (ds_ret (de_idx hX.hK (de_loc hX 1) (de_call hX (F 22 (by decide)) hl Tx.mf_22 (da_cons (de_loc hX 0) (da_cons (de_biF .len hX (bi_len hX.hK) (Tx.B.at hX).len (da_cons (de_loc hX 1) da_nil)) da_nil))) (fun _ _ => rfl))))
theorem d24 (Tx : Txt Z) (hX : XOk Z X N24 (defScope s24) W m) (xf : XFn X) (F : ∀ n, n < 34 → FT Z lev cl n) (hl : lev ≤ m) (hl1 : lev + 1 ≤ m) : PSs X (defBody s24) (rdS Z W (b__law_same cl)) := by
  unfold b__law_same
  exact (ds_cons (ds_if (dt_cmp opc_isN (de_loc hX 1) de_non) (ds_one (ds_ret (de_cmp opc_isN (de_loc hX 0) de_non))) ds_nil)
    (ds_cons (ds_if (dt_ex hX.hK (de_isi hX (Tx.B.at hX) .bool (de_loc hX 1) (hm2 := (Tx.B.at hX).bool))) (ds_one (ds_ret (de_and (de_isi hX (Tx.B.at hX) .bool (de_loc hX 0) (hm2 := (Tx.B.at hX).bool)) (de_one (de_cmp (opc_eq hX.hK hX.hu0) (de_loc hX 0) (de_loc hX 1)))))) ds_nil)
    (ds_cons (ds_if (dt_ex hX.hK (de_isi hX (Tx.B.at hX) .int (de_loc hX 1) (hm2 := (Tx.B.at hX).int))) (ds_one (ds_ret (de_and (de_isi hX (Tx.B.at hX) .int (de_loc hX 0) (hm2 := (Tx.B.at hX).int)) (de_and (de_not (de_isi hX (Tx.B.at hX) .bool (de_loc hX 0) (hm2 := (Tx.B.at hX).bool))) (de_one (de_cmp (opc_eq hX.hK hX.hu0) (de_loc hX 0) (de_loc hX 1))))))) ds_nil)
    (ds_cons (ds_if (dt_ex hX.hK (de_isi hX (Tx.B.at hX) .str (de_loc hX 1) (hm2 := (Tx.B.at hX).str))) (ds_one (ds_ret (de_and (de_isi hX (Tx.B.at hX) .str (de_loc hX 0) (hm2 := (Tx.B.at hX).str)) (de_one (de_cmp (opc_eq hX.hK hX.hu0) (de_loc hX 0) (de_loc hX 1)))))) ds_nil)
    (ds_cons (ds_if (dt_w (dw_or (dt_cmp (opc_ne hX.hK hX.hu0) (de_isi hX (Tx.B.at hX) .tuple (de_loc hX 1) (hm2 := (Tx.B.at hX).tuple)) (de_isi hX (Tx.B.at hX) .tuple (de_loc hX 0) (hm2 := (Tx.B.at hX).tuple))) (dw_or1 (dt_cmp (opc_ne hX.hK hX.hu0) (de_isi hX (Tx.B.at hX) .list (de_loc hX 1) (hm2 := (Tx.B.at hX).list)) (de_isi hX (Tx.B.at hX) .list (de_loc hX 0) (hm2 := (Tx.B.at hX).list)))))) (ds_one (ds_ret de_bl)) ds_nil)
    (ds_cons (ds_if (dt_w (dw_or (dt_not (dt_ex hX.hK (de_isi2 hX (Tx.B.at hX) .tuple .list (de_loc hX 0) (hm2 := (Tx.B.at hX).tuple) (hm3 := (Tx.B.at hX).list)))) (dw_or1 (dt_cmp (opc_ne hX.hK hX.hu0) (de_biF .len hX (bi_len hX.hK) (Tx.B.at hX).len (da_cons (de_loc hX 0) da_nil)) (de_biF .len hX (bi_len hX.hK) (Tx.B.at hX).len (da_cons (de_loc hX 1) da_nil)))))) (ds_one (ds_ret de_bl)) ds_nil)
    (ds_one (ds_ret (de_cmp (opc_notIn hX.hK hX.hu) de_bl (de_comp hX [(("k" : Str), 2)] (di_range1 hX (Tx.B.at hX) (de_biF .len hX (bi_len hX.hK) (Tx.B.at hX).len (da_cons (de_loc hX 1) da_nil))) (fun s1 h1 c1 l1 f1 => (dg_name (hX.blk s1 h1 c1 l1 f1) 2)) (fun s2 h2 c2 l2 f2 => dts_nil) (fun s3 h3 c3 l3 f3 => (de_call (hX.blk s3 h3 c3 l3 f3) (F 24 (by decide)) hl Tx.mf_24 (da_cons (de_idx (hX.blk s3 h3 c3 l3 f3).hK (de_loc (hX.blk s3 h3 c3 l3 f3) 0) (de_loc (hX.blk s3 h3 c3 l3 f3) 2) (fun _ _ => rfl)) (da_cons (de_idx (hX.blk s3 h3 c3 l3 f3).hK (de_loc (hX.blk s3 h3 c3 l3 f3) 1) (de_loc (hX.blk s3 h3 c3 l3 f3) 2) (fun _ _ => rfl)) da_nil))))))))))))))
theorem d25 (Tx : Txt Z) (hX : XOk Z X N25 (defScope s25) W m) (xf : XFn X) (F : ∀ n, n < 34 → FT Z lev cl n) (hl : lev ≤ m) (hl1 : lev + 1 ≤ m) : PSs X (defBody s25) (rdS Z W (b__law_signs cl)) := by
  unfold b__law_signs
  exact (ds_one (ds_ret (de_call hX (F 23 (by decide)) hl Tx.mf_23 (da_cons (de_loc hX 0) (da_cons (de_lst (da_cons (de_tup (da_cons de_str (da_cons de_int (da_cons de_int (da_cons de_int da_nil))))) (da_cons (de_tup (da_cons de_str (da_cons de_int (da_cons de_int (da_cons de_int da_nil))))) (da_cons (de_tup (da_cons de_str (da_cons de_int (da_cons de_int (da_cons de_int da_nil))))) (da_cons (de_tup (da_cons de_str (da_cons de_int (da_cons de_int (da_cons de_int da_nil))))) (da_cons (de_tup (da_cons de_str (da_cons de_int (da_cons de_int (da_cons de_int da_nil))))) (da_cons (de_tup (da_cons de_str (da_cons de_int (da_cons de_int (da_cons de_int da_nil))))) (da_cons (de_tup (da_cons de_str (da_cons de_int (da_cons de_int (da_cons de_int da_nil))))) da_nil)))))))) da_nil)))))
theorem d26 (Tx : Txt Z) (hX : XOk Z X N26 (defScope s26) W m) (xf : XFn X) (F : ∀ n, n < 34 → FT Z lev cl n) (hl : lev ≤ m) (hl1 : lev + 1 ≤ m) : PSs X (defBody s26) (rdS Z W (b__law_many cl)) := by
  unfold b__law_many
  exact (ds_one (ds_ret (de_bin (opd_add hX.hK) (de_bin (opd_add hX.hK) (de_idx hX.hK (de_loc hX 0) de_int (fun _ _ => rfl)) (de_idx hX.hK (de_loc hX 0) de_int (fun _ _ => rfl))) (de_idx hX.hK (de_loc hX 0) de_int (fun _ _ => rfl)))))
theorem d27 (Tx : Txt Z) (hX : XOk Z X N27 (defScope s27) W m) (xf : XFn X) (F : ∀ n, n < 34 → FT Z lev cl n) (hl : lev ≤ m) (hl1 : lev + 1 ≤ m) : PSs X (defBody s27) (rdS Z W (b__law_word cl)) := by
  unfold b__law_word
  exact (ds_one (ds_ret (de_biT .tuple hX (bi_tuple hX.hK) (Tx.B.at hX).tuple (da_cons (de_comp hX [(("k" : Str), 3)] (di_range1 hX (Tx.B.at hX) (de_call hX (F 22 (by decide)) hl Tx.mf_22 (da_cons (de_loc hX 0) (da_cons (de_bin (opd_add hX.hK) (de_loc hX 2) de_int) da_nil)))) (fun s1 h1 c1 l1 f1 => (dg_name (hX.blk s1 h1 c1 l1 f1) 3)) (fun s2 h2 c2 l2 f2 => dts_nil) (fun s3 h3 c3 l3 f3 => (de_call (hX.blk s3 h3 c3 l3 f3) (F 22 (by decide)) hl Tx.mf_22 (da_cons (de_loc (hX.blk s3 h3 c3 l3 f3) 0) (da_cons (de_call (hX.blk s3 h3 c3 l3 f3) (F 26 (by decide)) hl Tx.mf_26 (da_cons (de_loc (hX.blk s3 h3 c3 l3 f3) 1) da_nil)) da_nil))))) da_nil))))
theorem d28 (Tx : Txt Z) (hX : XOk Z X N28 (defScope s28) W m) (xf : XFn X) (F : ∀ n, n < 34 → FT Z lev cl n) (hl : lev ≤ m) (hl1 : lev + 1 ≤ m) : PSs X (defBody s28) (rdS Z W (b__law_definite cl)) := by
  unfold b__law_definite
  exact (ds_cons (ds_set hX 3 (de_bin (opd_add hX.hK) de_int (de_call hX (F 22 (by decide)) hl Tx.mf_22 (da_cons (de_loc hX 0) (da_cons (de_loc hX 2) da_nil)))) (hf := .inl (xf.fn _)))
    (ds_cons (ds_set hX 4 (de_lst da_nil) (hf := .inl (xf.fn _)))
    (ds_cons (ds_for hX xf.pass (di_range1 hX (Tx.B.at hX) (de_loc hX 3)) (dg_name hX 5 (hf := .inl (xf.fn _))) (ds_cons (ds_set hX 7 (de_biT .tuple hX (bi_tuple hX.hK) (Tx.B.at hX).tuple (da_cons (de_comp hX [(("k" : Str), 11)] (di_range1 hX (Tx.B.at hX) (de_idx hX.hK (de_loc hX 1) de_int (fun _ _ => rfl))) (fun s16 h16 c16 l16 f16 => (dg_name (hX.blk s16 h16 c16 l16 f16) 11)) (fun s17 h17 c17 l17 f17 => dts_nil) (fun s18 h18 c18 l18 f18 => (de_call (hX.blk s18 h18 c18 l18 f18) (F 22 (by decide)) hl Tx.mf_22 (da_cons (de_loc (hX.blk s18 h18 c18 l18 f18) 0) (da_cons (de_loc (hX.blk s18 h18 c18 l18 f18) 3) da_nil))))) da_nil)) (hf := .inl (xf.fn _)))
    (ds_cons (ds_set hX 8 (de_biT .tuple hX (bi_tuple hX.hK) (Tx.B.at hX).tuple (da_cons (de_comp hX [(("k" : Str), 11)] (di_range1 hX (Tx.B.at hX) (de_idx hX.hK (de_loc hX 1) de_int (fun _ _ => rfl))) (fun s13 h13 c13 l13 f13 => (dg_name (hX.blk s13 h13 c13 l13 f13) 11)) (fun s14 h14 c14 l14 f14 => dts_nil) (fun s15 h15 c15 l15 f15 => (de_call (hX.blk s15 h15 c15 l15 f15) (F 22 (by decide)) hl Tx.mf_22 (da_cons (de_loc (hX.blk s15 h15 c15 l15 f15) 0) (da_cons (de_loc (hX.blk s15 h15 c15 l15 f15) 3) da_nil))))) da_nil)) (hf := .inl (xf.fn _)))
    (ds_cons (ds_set hX 9 (de_biT .tuple hX (bi_tuple hX.hK) (Tx.B.at hX).tuple (da_cons (de_comp hX [(("k" : Str), 11)] (di_range1 hX (Tx.B.at hX) (de_idx hX.hK (de_loc hX 1) de_int (fun _ _ => rfl))) (fun s10 h10 c10 l10 f10 => (dg_name (hX.blk s10 h10 c10 l10 f10) 11)) (fun s11 h11 c11 l11 f11 => dts_nil) (fun s12 h12 c12 l12 f12 => (de_call (hX.blk s12 h12 c12 l12 f12) (F 22 (by decide)) hl Tx.mf_22 (da_cons (de_loc (hX.blk s12 h12 c12 l12 f12) 0) (da_cons (de_loc (hX.blk s12 h12 c12 l12 f12) 3) da_nil))))) da_nil)) (hf := .inl (xf.fn _)))
    (ds_cons (ds_set hX 10 (de_biT .tuple hX (bi_tuple hX.hK) (Tx.B.at hX).tuple (da_cons (de_comp hX [(("r" : Str), 12)] (di_range1 hX (Tx.B.at hX) (de_idx hX.hK (de_loc hX 1) de_int (fun _ _ => rfl))) (fun s4 h4 c4 l4 f4 => (dg_name (hX.blk s4 h4 c4 l4 f4) 12)) (fun s5 h5 c5 l5 f5 => dts_nil) (fun s6 h6 c6 l6 f6 => (de_biT .tuple (hX.blk s6 h6 c6 l6 f6) (bi_tuple (hX.blk s6 h6 c6 l6 f6).hK) (Tx.B.at (hX.blk s6 h6 c6 l6 f6)).tuple (da_cons (de_comp (hX.blk s6 h6 c6 l6 f6) [(("k" : Str), 11)] (di_range1 (hX.blk s6 h6 c6 l6 f6) (Tx.B.at (hX.blk s6 h6 c6 l6 f6)) (de_bin (opd_mul (hX.blk s6 h6 c6 l6 f6).hK) (de_loc (hX.blk s6 h6 c6 l6 f6) 3) (de_idx (hX.blk s6 h6 c6 l6 f6).hK (de_loc (hX.blk s6 h6 c6 l6 f6) 1) de_int (fun _ _ => rfl)))) (fun s7 h7 c7 l7 f7 => (dg_name ((hX.blk s6 h6 c6 l6 f6).blk s7 h7 c7 l7 f7) 11)) (fun s8 h8 c8 l8 f8 => dts_nil) (fun s9 h9 c9 l9 f9 => (de_call ((hX.blk s6 h6 c6 l6 f6).blk s9 h9 c9 l9 f9) (F 22 (by decide)) hl Tx.mf_22 (da_cons (de_loc ((hX.blk s6 h6 c6 l6 f6).blk s9 h9 c9 l9 f9) 0) (da_cons (de_loc ((hX.blk s6 h6 c6 l6 f6).blk s9 h9 c9 l9 f9) 3) da_nil))))) da_nil)))) da_nil)) (hf := .inl (xf.fn _)))
    (ds_one (ds_ex (de_mth .append hX.hK PySem.F.slot_list_append PySem.F.type_list_append m_append (de_loc hX 4) (da_cons (de_tup (da_cons (de_loc hX 7) (da_cons (de_loc hX 8) (da_cons (de_loc hX 9) (da_cons (de_loc hX 10) da_nil))))) da_nil)))))))))
    (ds_cons (ds_set hX 6 (de_biT .tuple hX (bi_tuple hX.hK) (Tx.B.at hX).tuple (da_cons (de_comp hX [(("q" : Str), 5)] (di_range1 hX (Tx.B.at hX) (de_loc hX 3)) (fun s1 h1 c1 l1 f1 => (dg_name (hX.blk s1 h1 c1 l1 f1) 5)) (fun s2 h2 c2 l2 f2 => dts_one (dt_cmp (opc_eq (hX.blk s2 h2 c2 l2 f2).hK (hX.blk s2 h2 c2 l2 f2).hu0) (de_call (hX.blk s2 h2 c2 l2 f2) (F 22 (by decide)) hl Tx.mf_22 (da_cons (de_loc (hX.blk s2 h2 c2 l2 f2) 0) (da_cons de_int da_nil))) de_int)) (fun s3 h3 c3 l3 f3 => (de_loc (hX.blk s3 h3 c3 l3 f3) 5))) da_nil)) (hf := .inl (xf.fn _)))
    (ds_one (ds_ret (de_tup (da_cons de_str (da_cons (de_loc hX 1) (da_cons (de_biT .tuple hX (bi_tuple hX.hK) (Tx.B.at hX).tuple (da_cons (de_loc hX 4) da_nil)) (da_cons (de_loc hX 6) da_nil)))))))))))
theorem d29 (Tx : Txt Z) (hX : XOk Z X N29 (defScope s29) W m) (xf : XFn X) (F : ∀ n, n < 34 → FT Z lev cl n) (hl : lev ≤ m) (hl1 : lev + 1 ≤ m) : PSs X (defBody s29) (rdS Z W (b__law_step cl)) := by
  unfold b__law_step
  exact (ds_cons (ds_par' hX 3 4 (de_idx hX.hK (de_loc hX 0) de_int (fun _ _ => rfl)) (de_idx hX.hK (de_loc hX 0) de_int (fun _ _ => rfl)))
    (ds_cons (ds_asg (de_loc hX 1) (dg_tup hX (dgs_cons (dg_name hX 5 (hf := .inl (xf.fn _))) (dgs_cons (dg_name hX 6 (hf := .inl (xf.fn _))) dgs_nil))))
    (ds_cons (ds_asg (de_idx hX.hK (de_loc hX 4) (de_loc hX 5) (fun _ _ => rfl)) (dg_tup hX (dgs_cons (dg_name hX 7 (hf := .inl (xf.fn _))) (dgs_cons (dg_name hX 8 (hf := .inl (xf.fn _))) (dgs_cons (dg_name hX 9 (hf := .inl (xf.fn _))) (dgs_cons (dg_name hX 10 (hf := .inl (xf.fn _))) dgs_nil))))))
    (ds_cons (ds_if (dt_cmp (opc_lt hX.hK hX.hu0) (de_loc hX 2) (de_idx hX.hK (de_loc hX 3) de_int (fun _ _ => rfl))) (ds_one (ds_ret (de_tup (da_cons (de_idx hX.hK (de_loc hX 8) (de_loc hX 2) (fun _ _ => rfl)) (da_cons (de_bin (opd_add hX.hK) (de_loc hX 6) (de_tup (da_cons (de_tup (da_cons (de_loc hX 5) (da_cons (de_loc hX 2) da_nil))) da_nil))) da_nil))))) ds_nil)
    (ds_cons (ds_if (dt_cmp (opc_ge hX.hK hX.hu0) (de_loc hX 2) (de_bin (opd_add hX.hK) (de_idx hX.hK (de_loc hX 3) de_int (fun _ _ => rfl)) (de_idx hX.hK (de_loc hX 3) de_int (fun _ _ => rfl)))) (ds_one (ds_ret (de_tup (da_cons (de_idx hX.hK (de_loc hX 7) (de_bin opd_sub (de_bin opd_sub (de_loc hX 2) (de_idx hX.hK (de_loc hX 3) de_int (fun _ _ => rfl))) (de_idx hX.hK (de_loc hX 3) de_int (fun _ _ => rfl))) (fun _ _ => rfl)) (da_cons (de_loc hX 6) da_nil))))) ds_nil)
    (ds_cons (ds_if (dt_cmp (opc_eq hX.hK hX.hu0) (de_biF .len hX (bi_len hX.hK) (Tx.B.at hX).len (da_cons (de_loc hX 6) da_nil)) de_int) (ds_one (ds_ret (de_tup (da_cons (de_idx hX.hK (de_loc hX 9) (de_bin opd_sub (de_loc hX 2) (de_idx hX.hK (de_loc hX 3) de_int (fun _ _ => rfl))) (fun _ _ => rfl)) (da_cons (de_tup da_nil) da_nil))))) ds_nil)
    (ds_cons (ds_asg (de_idx hX.hK (de_loc hX 6) (de_neg de_int) (fun _ _ => rfl)) (dg_tup hX (dgs_cons (dg_name hX 11 (hf := .inl (xf.fn _))) (dgs_cons (dg_name hX 12 (hf := .inl (xf.fn _))) dgs_nil))))
    (ds_one (ds_ret (de_tup (da_cons (de_idx hX.hK (de_idx hX.hK (de_loc hX 10) (de_bin opd_sub (de_loc hX 2) (de_idx hX.hK (de_loc hX 3) de_int (fun _ _ => rfl))) (fun _ _ => rfl)) (de_bin (opd_add hX.hK) (de_bin (opd_mul hX.hK) (de_loc hX 11) (de_idx hX.hK (de_loc hX 3) de_int (fun _ _ => rfl))) (de_loc hX 12)) (fun _ _ => rfl)) (da_cons (de_slc hX.hK (de_loc hX 6) do_no (do_at (de_bin opd_sub (de_biF .len hX (bi_len hX.hK) (Tx.B.at hX).len (da_cons (de_loc hX 6) da_nil)) de_int))) da_nil))))))))))))
theorem d30 (Tx : Txt Z) (hX : XOk Z X N30 (defScope s30) W m) (xf : XFn X) (F : ∀ n, n < 34 → FT Z lev cl n) (hl : lev ≤ m) (hl1 : lev + 1 ≤ m) : PSs X (defBody s30) (rdS Z W (b__law_read cl)) := by
  unfold b__law_read
  exact (ds_cons (ds_set hX 2 (de_tup (da_cons de_int (da_cons (de_tup da_nil) da_nil))) (hf := .inl (xf.fn _)))
    (ds_cons (ds_for hX xf.pass (di_of hX.hK (de_loc hX 1)) (dg_name hX 3 (hf := .inl (xf.fn _))) (ds_one (ds_set hX 2 (de_call hX (F 29 (by decide)) hl Tx.mf_29 (da_cons (de_loc hX 0) (da_cons (de_loc hX 2) (da_cons (de_loc hX 3) da_nil)))) (hf := .inl (xf.fn _)))))
    (ds_one (ds_ret (de_loc hX 2)))))
theorem d31 (Tx : Txt Z) (hX : XOk Z X N31 (defScope s31) W m) (xf : XFn X) (F : ∀ n, n < 34 → FT Z lev cl n) (hl : lev ≤ m) (hl1 : lev + 1 ≤ m) : PSs X (defBody s31) (rdS Z W (b__law_is_taken cl)) := by
  unfold b__law_is_taken
  exact (ds_one (ds_ret (de_cmp (opc_in hX.hK hX.hu) (de_idx hX.hK (de_call hX (F 30 (by decide)) hl Tx.mf_30 (da_cons (de_loc hX 0) (da_cons (de_loc hX 1) da_nil))) de_int (fun _ _ => rfl)) (de_idx hX.hK (de_loc hX 0) de_int (fun _ _ => rfl)))))
theorem d32 (Tx : Txt Z) (hX : XOk Z X N32 (defScope s32) W m) (xf : XFn X) (F : ∀ n, n < 34 → FT Z lev cl n) (hl : lev ≤ m) (hl1 : lev + 1 ≤ m) : PSs X (defBody s32) (rdS Z W (b__law_call cl)) := by
  unfold b__law_call
  exact (ds_cons (ds_try hX xf (fun W1 X1 hX1 xf1 => (ds_one (ds_set hX1 3 (de_ite (dt_cmp (opc_eq hX1.hK hX1.hu0) (de_loc hX1 2) de_str) (de_callV hX1 F hl 0 (da_cons (de_loc hX1 1) da_nil)) (de_callV hX1 F hl 0 (da_cons (de_loc hX1 1) (da_cons (de_loc hX1 2) da_nil)))) (hf := .inl (xf1.fn _))))) (HsOk.cons ⟨Gl_of hX rfl, by decide, .inl (by rw [hX.hM]; exact Tx.mx_2)⟩ Tx.ex_2 (fun _ _ _ => (ds_one (ds_ret de_str))) (HsOk.cons ⟨Gl_of hX rfl, by decide, .inl (by rw [hX.hM]; exact Tx.mx_1)⟩ Tx.ex_1 (fun _ _ _ => (ds_one (ds_ret de_str))) HsOk.nil)))
    (ds_one (ds_ret (de_loc hX 3))))
theorem d33 (Tx : Txt Z) (hX : XOk Z X N33 (defScope s33) W m) (xf : XFn X) (F : ∀ n, n < 34 → FT Z lev cl n) (hl : lev ≤ m) (hl1 : lev + 1 ≤ m) : PSs X (defBody s33) (rdS Z W (b_law cl)) := by
  unfold b_law
  exact (ds_cons (ds_set hX 1 (de_call hX (F 21 (by decide)) hl Tx.mf_21 (da_cons (de_loc hX 0) da_nil)) (hf := .inl (xf.fn _)))
    (ds_cons (ds_if (dt_not (dt_ex hX.hK (de_call hX (F 24 (by decide)) hl Tx.mf_24 (da_cons (de_gI hX Tx.mi_MOST_DEFINITE) (da_cons de_int da_nil))))) (ds_one (ds_ret de_bl)) ds_nil)
    (ds_cons (ds_for hX xf.pass (di_range1 hX (Tx.B.at hX) de_int) (dg_name hX 2 (hf := .inl (xf.fn _))) (ds_cons (ds_set hX 3 (de_call hX (F 25 (by decide)) hl Tx.mf_25 (da_cons (de_loc hX 1) da_nil)) (hf := .inl (xf.fn _)))
    (ds_cons (ds_set hX 4 (de_call hX (F 28 (by decide)) hl Tx.mf_28 (da_cons (de_loc hX 1) (da_cons (de_loc hX 3) (da_cons de_int da_nil)))) (hf := .inl (xf.fn _)))
    (ds_cons (ds_asg (de_loc hX 4) (dg_tup hX (dgs_cons (dg_name hX 12 (hf := .inl (xf.fn _))) (dgs_cons (dg_name hX 13 (hf := .inl (xf.fn _))) (dgs_cons (dg_name hX 14 (hf := .inl (xf.fn _))) (dgs_cons (dg_name hX 15 (hf := .inl (xf.fn _))) dgs_nil))))))
    (ds_cons (ds_set hX 5 (de_biF .len hX (bi_len hX.hK) (Tx.B.at hX).len (da_cons (de_loc hX 14) da_nil)) (hf := .inl (xf.fn _)))
    (ds_cons (ds_set hX 6 (de_tup (da_cons de_str (da_cons (de_loc hX 3) (da_cons (de_loc hX 14) (da_cons (de_biT .tuple hX (bi_tuple hX.hK) (Tx.B.at hX).tuple (da_cons (de_comp hX [(("q" : Str), 21)] (di_range1 hX (Tx.B.at hX) (de_loc hX 5)) (fun s1 h1 c1 l1 f1 => (dg_name (hX.blk s1 h1 c1 l1 f1) 21)) (fun s2 h2 c2 l2 f2 => dts_one (dt_cmp (opc_notIn (hX.blk s2 h2 c2 l2 f2).hK (hX.blk s2 h2 c2 l2 f2).hu) (de_loc (hX.blk s2 h2 c2 l2 f2) 21) (de_loc (hX.blk s2 h2 c2 l2 f2) 15))) (fun s3 h3 c3 l3 f3 => (de_loc (hX.blk s3 h3 c3 l3 f3) 21))) da_nil)) da_nil))))) (hf := .inl (xf.fn _)))
    (ds_cons (ds_if (dt_w (dw_or (dt_not (dt_ex hX.hK (de_call hX (F 24 (by decide)) hl Tx.mf_24 (da_cons (de_call hX (F 9 (by decide)) hl Tx.mf_9 (da_cons (de_loc hX 4) da_nil)) (da_cons de_bl da_nil))))) (dw_or1 (dt_not (dt_ex hX.hK (de_call hX (F 24 (by decide)) hl Tx.mf_24 (da_cons (de_call hX (F 32 (by decide)) hl Tx.mf_32 (da_cons (de_gF hX Tx.mf_20) (da_cons (de_loc hX 4) (da_cons de_str da_nil)))) (da_cons (de_loc hX 6) da_nil)))))))) (ds_one (ds_ret de_bl)) ds_nil)
    (ds_cons (ds_for hX xf.pass (di_range1 hX (Tx.B.at hX) de_int) (dg_name hX 7 (hf := .inl (xf.fn _))) (ds_cons (ds_set hX 16 (de_call hX (F 27 (by decide)) hl Tx.mf_27 (da_cons (de_loc hX 1) (da_cons (de_loc hX 3) (da_cons de_int da_nil)))) (hf := .inl (xf.fn _)))
    (ds_one (ds_if (dt_not (dt_ex hX.hK (de_call hX (F 24 (by decide)) hl Tx.mf_24 (da_cons (de_call hX (F 32 (by decide)) hl Tx.mf_32 (da_cons (de_gF hX Tx.mf_19) (da_cons (de_loc hX 4) (da_cons (de_loc hX 16) da_nil)))) (da_cons (de_call hX (F 31 (by decide)) hl Tx.mf_31 (da_cons (de_loc hX 4) (da_cons (de_loc hX 16) da_nil))) da_nil))))) (ds_one (ds_ret de_bl)) ds_nil))))
    (ds_cons (ds_asg (de_idx hX.hK (de_loc hX 14) de_int (fun _ _ => rfl)) (dg_tup hX (dgs_cons (dg_name hX 17 (hf := .inl (xf.fn _))) (dgs_cons (dg_name hX 18 (hf := .inl (xf.fn _))) (dgs_cons (dg_name hX 19 (hf := .inl (xf.fn _))) (dgs_cons (dg_name hX 20 (hf := .inl (xf.fn _))) dgs_nil))))))
    (ds_cons (ds_set hX 8 (de_lst (da_cons de_non (da_cons (de_slc hX.hK (de_loc hX 4) do_no (do_at de_int)) (da_cons (de_bin (opd_add hX.hK) (de_tup (da_cons de_str da_nil)) (de_slc hX.hK (de_loc hX 4) (do_at de_int) do_no)) (da_cons (de_tup (da_cons (de_loc hX 12) (da_cons (de_loc hX 3) (da_cons (de_tup da_nil) (da_cons (de_tup da_nil) da_nil))))) (da_cons (de_tup (da_cons (de_loc hX 12) (da_cons (de_loc hX 3) (da_cons (de_biT .list hX (bi_list hX.hK) (Tx.B.at hX).list (da_cons (de_loc hX 14) da_nil)) (da_cons (de_loc hX 15) da_nil))))) (da_cons (de_tup (da_cons (de_loc hX 12) (da_cons (de_loc hX 3) (da_cons (de_loc hX 14) (da_cons (de_bin (opd_add hX.hK) (de_loc hX 15) (de_tup (da_cons (de_loc hX 5) da_nil))) da_nil))))) (da_cons (de_tup (da_cons (de_loc hX 12) (da_cons (de_loc hX 3) (da_cons (de_bin (opd_mul hX.hK) (de_loc hX 14) de_int) (da_cons (de_tup da_nil) da_nil))))) da_nil)))))))) (hf := .inl (xf.fn _)))
    (ds_cons (ds_set hX 8 (de_bin (opd_add hX.hK) (de_loc hX 8) (de_lst (da_cons (de_tup (da_cons (de_loc hX 12) (da_cons (de_loc hX 3) (da_cons (de_bin (opd_add hX.hK) (de_tup (da_cons (de_tup (da_cons (de_bin (opd_add hX.hK) (de_loc hX 17) (de_tup (da_cons de_int da_nil))) (da_cons (de_loc hX 18) (da_cons (de_loc hX 19) (da_cons (de_loc hX 20) da_nil))))) da_nil)) (de_slc hX.hK (de_loc hX 14) (do_at de_int) do_no)) (da_cons (de_loc hX 15) da_nil))))) (da_cons (de_tup (da_cons (de_loc hX 12) (da_cons (de_loc hX 3) (da_cons (de_bin (opd_add hX.hK) (de_tup (da_cons (de_tup (da_cons (de_loc hX 17) (da_cons (de_bin (opd_add hX.hK) (de_loc hX 18) (de_tup (da_cons de_int da_nil))) (da_cons (de_loc hX 19) (da_cons (de_loc hX 20) da_nil))))) da_nil)) (de_slc hX.hK (de_loc hX 14) (do_at de_int) do_no)) (da_cons (de_loc hX 15) da_nil))))) da_nil)))) (hf := .inl (xf.fn _)))
    (ds_cons (ds_set hX 8 (de_bin (opd_add hX.hK) (de_loc hX 8) (de_lst (da_cons (de_tup (da_cons (de_loc hX 12) (da_cons (de_loc hX 3) (da_cons (de_bin (opd_add hX.hK) (de_tup (da_cons (de_tup (da_cons (de_loc hX 17) (da_cons (de_loc hX 18) (da_cons (de_bin (opd_add hX.hK) (de_loc hX 19) (de_tup (da_cons de_int da_nil))) (da_cons (de_loc hX 20) da_nil))))) da_nil)) (de_slc hX.hK (de_loc hX 14) (do_at de_int) do_no)) (da_cons (de_loc hX 15) da_nil))))) (da_cons (de_tup (da_cons (de_loc hX 12) (da_cons (de_loc hX 3) (da_cons (de_bin (opd_add hX.hK) (de_tup (da_cons (de_tup (da_cons (de_loc hX 17) (da_cons (de_loc hX 18) (da_cons (de_loc hX 19) (da_cons (de_bin (opd_add hX.hK) (de_loc hX 20) (de_tup (da_cons (de_tup da_nil) da_nil))) da_nil))))) da_nil)) (de_slc hX.hK (de_loc hX 14) (do_at de_int) do_no)) (da_cons (de_loc hX 15) da_nil))))) da_nil)))) (hf := .inl (xf.fn _)))
    (ds_cons (ds_set hX 8 (de_bin (opd_add hX.hK) (de_loc hX 8) (de_lst (da_cons (de_tup (da_cons (de_loc hX 12) (da_cons (de_loc hX 3) (da_cons (de_bin (opd_add hX.hK) (de_tup (da_cons (de_slc hX.hK (de_idx hX.hK (de_loc hX 14) de_int (fun _ _ => rfl)) do_no (do_at de_int)) da_nil)) (de_slc hX.hK (de_loc hX 14) (do_at de_int) do_no)) (da_cons (de_loc hX 15) da_nil))))) (da_cons (de_tup (da_cons (de_loc hX 12) (da_cons (de_tup (da_cons de_str (da_cons de_int (da_cons de_int (da_cons de_int da_nil))))) (da_cons (de_loc hX 14) (da_cons (de_loc hX 15) da_nil))))) (da_cons (de_tup (da_cons (de_loc hX 12) (da_cons (de_loc hX 3) (da_cons (de_loc hX 14) (da_cons (de_tup (da_cons de_int (da_cons de_int da_nil))) da_nil))))) da_nil))))) (hf := .inl (xf.fn _)))
    (ds_cons (ds_set hX 8 (de_bin (opd_add hX.hK) (de_loc hX 8) (de_lst (da_cons (de_ite (dt_cmp (opc_gt hX.hK hX.hu0) (de_bin (opd_mul hX.hK) (de_idx hX.hK (de_loc hX 3) de_int (fun _ _ => rfl)) (de_idx hX.hK (de_loc hX 3) de_int (fun _ _ => rfl))) de_int) (de_tup (da_cons (de_loc hX 12) (da_cons (de_loc hX 3) (da_cons (de_bin (opd_add hX.hK) (de_loc hX 14) (de_slc hX.hK (de_loc hX 14) do_no (do_at de_int))) (da_cons (de_loc hX 15) da_nil))))) de_int) da_nil))) (hf := .inl (xf.fn _)))
    (ds_cons (ds_set hX 9 (de_call hX (F 23 (by decide)) hl Tx.mf_23 (da_cons (de_loc hX 1) (da_cons (de_loc hX 8) da_nil))) (hf := .inl (xf.fn _)))
    (ds_cons (ds_set hX 10 (de_call hX (F 23 (by decide)) hl Tx.mf_23 (da_cons (de_loc hX 1) (da_cons (de_lst (da_cons de_non (da_cons (de_tup (da_cons (de_call hX (F 26 (by decide)) hl Tx.mf_26 (da_cons (de_loc hX 3) da_nil)) da_nil)) (da_cons (de_tup (da_cons (de_neg de_int) da_nil)) (da_cons (de_lst (da_cons de_int da_nil)) (da_cons (de_bin (opd_mul hX.hK) (de_tup (da_cons de_int da_nil)) de_int) da_nil)))))) da_nil))) (hf := .inl (xf.fn _)))
    (ds_cons (ds_set hX 11 (de_tup (da_cons (de_call hX (F 32 (by decide)) hl Tx.mf_32 (da_cons (de_gF hX Tx.mf_19) (da_cons (de_loc hX 4) (da_cons (de_loc hX 10) da_nil)))) (da_cons (de_call hX (F 32 (by decide)) hl Tx.mf_32 (da_cons (de_gF hX Tx.mf_19) (da_cons (de_loc hX 9) (da_cons (de_loc hX 10) da_nil)))) (da_cons (de_call hX (F 32 (by decide)) hl Tx.mf_32 (da_cons (de_gF hX Tx.mf_20) (da_cons (de_loc hX 9) (da_cons de_str da_nil)))) da_nil)))) (hf := .inl (xf.fn _)))
    (ds_one (ds_if (dt_w (dw_or (dt_not (dt_ex hX.hK (de_call hX (F 24 (by decide)) hl Tx.mf_24 (da_cons (de_call hX (F 9 (by decide)) hl Tx.mf_9 (da_cons (de_loc hX 9) da_nil)) (da_cons de_bl da_nil))))) (dw_or1 (dt_cmp (opc_ne hX.hK hX.hu0) (de_loc hX 11) (de_tup (da_cons de_str (da_cons de_str (da_cons de_str da_nil)))))))) (ds_one (ds_ret de_bl)) ds_nil)))))))))))))))))))
    (ds_one (ds_ret de_bl)))))
end
structure Fns (Z : Tab) : Prop where
  f0 : ∃ fd, Fun Z.K "is_integer" "is_integer" s0 (Z.fn 0) fd ∧ Binds Z.K fd p0 []
  f1 : ∃ fd, Fun Z.K "are_ascending" "are_ascending" s1 (Z.fn 1) fd ∧ Binds Z.K fd p1 []
  f2 : ∃ fd, Fun Z.K "is_signs" "is_signs" s2 (Z.fn 2) fd ∧ Binds Z.K fd p2 []
  f3 : ∃ fd, Fun Z.K "many_signs" "many_signs" s3 (Z.fn 3) fd ∧ Binds Z.K fd p3 []
  f4 : ∃ fd, Fun Z.K "is_word_of" "is_word_of" s4 (Z.fn 4) fd ∧ Binds Z.K fd p4 []
  f5 : ∃ fd, Fun Z.K "are_states" "are_states" s5 (Z.fn 5) fd ∧ Binds Z.K fd p5 []
  f6 : ∃ fd, Fun Z.K "check_word" "check_word" s6 (Z.fn 6) fd ∧ Binds Z.K fd p6 []
  f7 : ∃ fd, Fun Z.K "are_nexts" "are_nexts" s7 (Z.fn 7) fd ∧ Binds Z.K fd p7 []
  f8 : ∃ fd, Fun Z.K "is_row" "is_row" s8 (Z.fn 8) fd ∧ Binds Z.K fd p8 []
  f9 : ∃ fd, Fun Z.K "is_definite" "is_definite" s9 (Z.fn 9) fd ∧ Binds Z.K fd p9 []
  f10 : ∃ fd, Fun Z.K "check_definite" "check_definite" s10 (Z.fn 10) fd ∧ Binds Z.K fd p10 []
  f11 : ∃ fd, Fun Z.K "__init__" "Table.__init__" s11 (Z.fn 11) fd ∧ Binds Z.K fd p11 []
  f12 : ∃ fd, Fun Z.K "plain" "Table.plain" s12 (Z.fn 12) fd ∧ Binds Z.K fd p12 []
  f13 : ∃ fd, Fun Z.K "call" "Table.call" s13 (Z.fn 13) fd ∧ Binds Z.K fd p13 []
  f14 : ∃ fd, Fun Z.K "free" "Table.free" s14 (Z.fn 14) fd ∧ Binds Z.K fd p14 []
  f15 : ∃ fd, Fun Z.K "back" "Table.back" s15 (Z.fn 15) fd ∧ Binds Z.K fd p15 []
  f16 : ∃ fd, Fun Z.K "is_end" "Table.is_end" s16 (Z.fn 16) fd ∧ Binds Z.K fd p16 []
  f17 : ∃ fd, Fun Z.K "step" "Table.step" s17 (Z.fn 17) fd ∧ Binds Z.K fd p17 []
  f18 : ∃ fd, Fun Z.K "read" "Table.read" s18 (Z.fn 18) fd ∧ Binds Z.K fd p18 []
  f19 : ∃ fd, Fun Z.K "takes_definite" "takes_definite" s19 (Z.fn 19) fd ∧ Binds Z.K fd p19 []
  f20 : ∃ fd, Fun Z.K "opposite" "opposite" s20 (Z.fn 20) fd ∧ Binds Z.K fd p20 []
  f21 : ∃ fd, Fun Z.K "_law_tape" "_law_tape" s21 (Z.fn 21) fd ∧ Binds Z.K fd p21 []
  f22 : ∃ fd, Fun Z.K "_law_draw" "_law_draw" s22 (Z.fn 22) fd ∧ Binds Z.K fd p22 []
  f23 : ∃ fd, Fun Z.K "_law_pick" "_law_pick" s23 (Z.fn 23) fd ∧ Binds Z.K fd p23 []
  f24 : ∃ fd, Fun Z.K "_law_same" "_law_same" s24 (Z.fn 24) fd ∧ Binds Z.K fd p24 []
  f25 : ∃ fd, Fun Z.K "_law_signs" "_law_signs" s25 (Z.fn 25) fd ∧ Binds Z.K fd p25 []
  f26 : ∃ fd, Fun Z.K "_law_many" "_law_many" s26 (Z.fn 26) fd ∧ Binds Z.K fd p26 []
  f27 : ∃ fd, Fun Z.K "_law_word" "_law_word" s27 (Z.fn 27) fd ∧ Binds Z.K fd p27 []
  f28 : ∃ fd, Fun Z.K "_law_definite" "_law_definite" s28 (Z.fn 28) fd ∧ Binds Z.K fd p28 []
  f29 : ∃ fd, Fun Z.K "_law_step" "_law_step" s29 (Z.fn 29) fd ∧ Binds Z.K fd p29 []
  f30 : ∃ fd, Fun Z.K "_law_read" "_law_read" s30 (Z.fn 30) fd ∧ Binds Z.K fd p30 []
  f31 : ∃ fd, Fun Z.K "_law_is_taken" "_law_is_taken" s31 (Z.fn 31) fd ∧ Binds Z.K fd p31 []
  f32 : ∃ fd, Fun Z.K "_law_call" "_law_call" s32 (Z.fn 32) fd ∧ Binds Z.K fd p32 []
  f33 : ∃ fd, Fun Z.K "law" "law" s33 (Z.fn 33) fd ∧ Binds Z.K fd p33 []
theorem sc0 : FnScope N0 p0 (defScope s0) := ⟨rfl, rfl, rfl, by decide +kernel, rfl, by decide +kernel, by decide +kernel⟩
theorem sc1 : FnScope N1 p1 (defScope s1) := ⟨rfl, rfl, rfl, by decide +kernel, rfl, by decide +kernel, by decide +kernel⟩
theorem sc2 : FnScope N2 p2 (defScope s2) := ⟨rfl, rfl, rfl, by decide +kernel, rfl, by decide +kernel, by decide +kernel⟩
theorem sc3 : FnScope N3 p3 (defScope s3) := ⟨rfl, rfl, rfl, by decide +kernel, rfl, by decide +kernel, by decide +kernel⟩
theorem sc4 : FnScope N4 p4 (defScope s4) := ⟨rfl, rfl, rfl, by decide +kernel, rfl, by decide +kernel, by decide +kernel⟩
theorem sc5 : FnScope N5 p5 (defScope s5) := ⟨rfl, rfl, rfl, by decide +kernel, rfl, by decide +kernel, by decide +kernel⟩
theorem sc6 : FnScope N6 p6 (defScope s6) := ⟨rfl, rfl, rfl, by decide +kernel, rfl, by decide +kernel, by decide +kernel⟩
theorem sc7 : FnScope N7 p7 (defScope s7) := ⟨rfl, rfl, rfl, by decide +kernel, rfl, by decide +kernel, by decide +kernel⟩
theorem sc8 : FnScope N8 p8 (defScope s8) := ⟨rfl, rfl, rfl, by decide +kernel, rfl, by decide +kernel, by decide +kernel⟩
theorem sc9 : FnScope N9 p9 (defScope s9) := ⟨rfl, rfl, rfl, by decide +kernel, rfl, by decide +kernel, by decide +kernel⟩
theorem sc10 : FnScope N10 p10 (defScope s10) := ⟨rfl, rfl, rfl, by decide +kernel, rfl, by decide +kernel, by decide +kernel⟩
theorem sc11 : FnScope N11 p11 (defScope s11) := ⟨rfl, rfl, rfl, by decide +kernel, rfl, by decide +kernel, by decide +kernel⟩
theorem sc12 : FnScope N12 p12 (defScope s12) := ⟨rfl, rfl, rfl, by decide +kernel, rfl, by decide +kernel, by decide +kernel⟩
theorem sc13 : FnScope N13 p13 (defScope s13) := ⟨rfl, rfl, rfl, by decide +kernel, rfl, by decide +kernel, by decide +kernel⟩
theorem sc14 : FnScope N14 p14 (defScope s14) := ⟨rfl, rfl, rfl, by decide +kernel, rfl, by decide +kernel, by decide +kernel⟩
theorem sc15 : FnScope N15 p15 (defScope s15) := ⟨rfl, rfl, rfl, by decide +kernel, rfl, by decide +kernel, by decide +kernel⟩
theorem sc16 : FnScope N16 p16 (defScope s16) := ⟨rfl, rfl, rfl, by decide +kernel, rfl, by decide +kernel, by decide +kernel⟩
theorem sc17 : FnScope N17 p17 (defScope s17) := ⟨rfl, rfl, rfl, by decide +kernel, rfl, by decide +kernel, by decide +kernel⟩
theorem sc18 : FnScope N18 p18 (defScope s18) := ⟨rfl, rfl, rfl, by decide +kernel, rfl, by decide +kernel, by decide +kernel⟩
theorem sc19 : FnScope N19 p19 (defScope s19) := ⟨rfl, rfl, rfl, by decide +kernel, rfl, by decide +kernel, by decide +kernel⟩
theorem sc20 : FnScope N20 p20 (defScope s20) := ⟨rfl, rfl, rfl, by decide +kernel, rfl, by decide +kernel, by decide +kernel⟩
theorem sc21 : FnScope N21 p21 (defScope s21) := ⟨rfl, rfl, rfl, by decide +kernel, rfl, by decide +kernel, by decide +kernel⟩
theorem sc22 : FnScope N22 p22 (defScope s22) := ⟨rfl, rfl, rfl, by decide +kernel, rfl, by decide +kernel, by decide +kernel⟩
theorem sc23 : FnScope N23 p23 (defScope s23) := ⟨rfl, rfl, rfl, by decide +kernel, rfl, by decide +kernel, by decide +kernel⟩
theorem sc24 : FnScope N24 p24 (defScope s24) := ⟨rfl, rfl, rfl, by decide +kernel, rfl, by decide +kernel, by decide +kernel⟩
theorem sc25 : FnScope N25 p25 (defScope s25) := ⟨rfl, rfl, rfl, by decide +kernel, rfl, by decide +kernel, by decide +kernel⟩
theorem sc26 : FnScope N26 p26 (defScope s26) := ⟨rfl, rfl, rfl, by decide +kernel, rfl, by decide +kernel, by decide +kernel⟩
theorem sc27 : FnScope N27 p27 (defScope s27) := ⟨rfl, rfl, rfl, by decide +kernel, rfl, by decide +kernel, by decide +kernel⟩
theorem sc28 : FnScope N28 p28 (defScope s28) := ⟨rfl, rfl, rfl, by decide +kernel, rfl, by decide +kernel, by decide +kernel⟩
theorem sc29 : FnScope N29 p29 (defScope s29) := ⟨rfl, rfl, rfl, by decide +kernel, rfl, by decide +kernel, by decide +kernel⟩
theorem sc30 : FnScope N30 p30 (defScope s30) := ⟨rfl, rfl, rfl, by decide +kernel, rfl, by decide +kernel, by decide +kernel⟩
theorem sc31 : FnScope N31 p31 (defScope s31) := ⟨rfl, rfl, rfl, by decide +kernel, rfl, by decide +kernel, by decide +kernel⟩
theorem sc32 : FnScope N32 p32 (defScope s32) := ⟨rfl, rfl, rfl, by decide +kernel, rfl, by decide +kernel, by decide +kernel⟩
theorem sc33 : FnScope N33 p33 (defScope s33) := ⟨rfl, rfl, rfl, by decide +kernel, rfl, by decide +kernel, by decide +kernel⟩
theorem ft_all {Z : Tab} (Tx : Txt Z) (Fs : Fns Z) : ∀ k n, n < 34 → FT Z (2 * k) (callN k) n
  | 0, n, h => match n, h with
    | 0, _ => let ⟨_, F, hb⟩ := Fs.f0; ft_zero (fun _ _ => rfl) F hb
    | 1, _ => let ⟨_, F, hb⟩ := Fs.f1; ft_zero (fun _ _ => rfl) F hb
    | 2, _ => let ⟨_, F, hb⟩ := Fs.f2; ft_zero (fun _ _ => rfl) F hb
    | 3, _ => let ⟨_, F, hb⟩ := Fs.f3; ft_zero (fun _ _ => rfl) F hb
    | 4, _ => let ⟨_, F, hb⟩ := Fs.f4; ft_zero (fun _ _ => rfl) F hb
    | 5, _ => let ⟨_, F, hb⟩ := Fs.f5; ft_zero (fun _ _ => rfl) F hb
    | 6, _ => let ⟨_, F, hb⟩ := Fs.f6; ft_zero (fun _ _ => rfl) F hb
    | 7, _ => let ⟨_, F, hb⟩ := Fs.f7; ft_zero (fun _ _ => rfl) F hb
    | 8, _ => let ⟨_, F, hb⟩ := Fs.f8; ft_zero (fun _ _ => rfl) F hb
    | 9, _ => let ⟨_, F, hb⟩ := Fs.f9; ft_zero (fun _ _ => rfl) F hb
    | 10, _ => let ⟨_, F, hb⟩ := Fs.f10; ft_zero (fun _ _ => rfl) F hb
    | 11, _ => let ⟨_, F, hb⟩ := Fs.f11; ft_zero (fun _ _ => rfl) F hb
    | 12, _ => let ⟨_, F, hb⟩ := Fs.f12; ft_zero (fun _ _ => rfl) F hb
    | 13, _ => let ⟨_, F, hb⟩ := Fs.f13; ft_zero (fun _ _ => rfl) F hb
    | 14, _ => let ⟨_, F, hb⟩ := Fs.f14; ft_zero (fun _ _ => rfl) F hb
    | 15, _ => let ⟨_, F, hb⟩ := Fs.f15; ft_zero (fun _ _ => rfl) F hb
    | 16, _ => let ⟨_, F, hb⟩ := Fs.f16; ft_zero (fun _ _ => rfl) F hb
    | 17, _ => let ⟨_, F, hb⟩ := Fs.f17; ft_zero (fun _ _ => rfl) F hb
    | 18, _ => let ⟨_, F, hb⟩ := Fs.f18; ft_zero (fun _ _ => rfl) F hb
    | 19, _ => let ⟨_, F, hb⟩ := Fs.f19; ft_zero (fun _ _ => rfl) F hb
    | 20, _ => let ⟨_, F, hb⟩ := Fs.f20; ft_zero (fun _ _ => rfl) F hb
    | 21, _ => let ⟨_, F, hb⟩ := Fs.f21; ft_zero (fun _ _ => rfl) F hb
    | 22, _ => let ⟨_, F, hb⟩ := Fs.f22; ft_zero (fun _ _ => rfl) F hb
    | 23, _ => let ⟨_, F, hb⟩ := Fs.f23; ft_zero (fun _ _ => rfl) F hb
    | 24, _ => let ⟨_, F, hb⟩ := Fs.f24; ft_zero (fun _ _ => rfl) F hb
    | 25, _ => let ⟨_, F, hb⟩ := Fs.f25; ft_zero (fun _ _ => rfl) F hb
    | 26, _ => let ⟨_, F, hb⟩ := Fs.f26; ft_zero (fun _ _ => rfl) F hb
    | 27, _ => let ⟨_, F, hb⟩ := Fs.f27; ft_zero (fun _ _ => rfl) F hb
    | 28, _ => let ⟨_, F, hb⟩ := Fs.f28; ft_zero (fun _ _ => rfl) F hb
    | 29, _ => let ⟨_, F, hb⟩ := Fs.f29; ft_zero (fun _ _ => rfl) F hb
    | 30, _ => let ⟨_, F, hb⟩ := Fs.f30; ft_zero (fun _ _ => rfl) F hb
    | 31, _ => let ⟨_, F, hb⟩ := Fs.f31; ft_zero (fun _ _ => rfl) F hb
    | 32, _ => let ⟨_, F, hb⟩ := Fs.f32; ft_zero (fun _ _ => rfl) F hb
    | 33, _ => let ⟨_, F, hb⟩ := Fs.f33; ft_zero (fun _ _ => rfl) F hb
    | n + 34, h => absurd h (by omega)
  | k + 1, n, h => match n, h with
    | 0, _ => let ⟨_, F, hb⟩ := Fs.f0; def_ok (k := 2 * k + 1) (b := b_is_integer (callN k)) F sc0 rfl rfl hb fun X W hX xf => d0 Tx hX xf (ft_all Tx Fs k) (Nat.le_succ _) (Nat.le_refl _)
    | 1, _ => let ⟨_, F, hb⟩ := Fs.f1; def_ok (k := 2 * k + 1) (b := b_are_ascending (callN k)) F sc1 rfl rfl hb fun X W hX xf => d1 Tx hX xf (ft_all Tx Fs k) (Nat.le_succ _) (Nat.le_refl _)
    | 2, _ => let ⟨_, F, hb⟩ := Fs.f2; def_ok (k := 2 * k + 1) (b := b_is_signs (callN k)) F sc2 rfl rfl hb fun X W hX xf => d2 Tx hX xf (ft_all Tx Fs k) (Nat.le_succ _) (Nat.le_refl _)
    | 3, _ => let ⟨_, F, hb⟩ := Fs.f3; def_ok (k := 2 * k + 1) (b := b_many_signs (callN k)) F sc3 rfl rfl hb fun X W hX xf => d3 Tx hX xf (ft_all Tx Fs k) (Nat.le_succ _) (Nat.le_refl _)
    | 4, _ => let ⟨_, F, hb⟩ := Fs.f4; def_ok (k := 2 * k + 1) (b := b_is_word_of (callN k)) F sc4 rfl rfl hb fun X W hX xf => d4 Tx hX xf (ft_all Tx Fs k) (Nat.le_succ _) (Nat.le_refl _)
    | 5, _ => let ⟨_, F, hb⟩ := Fs.f5; def_ok (k := 2 * k + 1) (b := b_are_states (callN k)) F sc5 rfl rfl hb fun X W hX xf => d5 Tx hX xf (ft_all Tx Fs k) (Nat.le_succ _) (Nat.le_refl _)
    | 6, _ => let ⟨_, F, hb⟩ := Fs.f6; def_ok (k := 2 * k + 1) (b := b_check_word (callN k)) F sc6 rfl rfl hb fun X W hX xf => d6 Tx hX xf (ft_all Tx Fs k) (Nat.le_succ _) (Nat.le_refl _)
    | 7, _ => let ⟨_, F, hb⟩ := Fs.f7; def_ok (k := 2 * k + 1) (b := b_are_nexts (callN k)) F sc7 rfl rfl hb fun X W hX xf => d7 Tx hX xf (ft_all Tx Fs k) (Nat.le_succ _) (Nat.le_refl _)
    | 8, _ => let ⟨_, F, hb⟩ := Fs.f8; def_ok (k := 2 * k + 1) (b := b_is_row (callN k)) F sc8 rfl rfl hb fun X W hX xf => d8 Tx hX xf (ft_all Tx Fs k) (Nat.le_succ _) (Nat.le_refl _)
    | 9, _ => let ⟨_, F, hb⟩ := Fs.f9; def_ok (k := 2 * k + 1) (b := b_is_definite (callN k)) F sc9 rfl rfl hb fun X W hX xf => d9 Tx hX xf (ft_all Tx Fs k) (Nat.le_succ _) (Nat.le_refl _)
    | 10, _ => let ⟨_, F, hb⟩ := Fs.f10; def_ok (k := 2 * k + 1) (b := b_check_definite (callN k)) F sc10 rfl rfl hb fun X W hX xf => d10 Tx hX xf (ft_all Tx Fs k) (Nat.le_succ _) (Nat.le_refl _)
    | 11, _ => let ⟨_, F, hb⟩ := Fs.f11; def_ok (k := 2 * k + 1) (b := b_Table___init__ (callN k)) F sc11 rfl rfl hb fun X W hX xf => d11 Tx hX xf (ft_all Tx Fs k) (Nat.le_succ _) (Nat.le_refl _)
    | 12, _ => let ⟨_, F, hb⟩ := Fs.f12; def_ok (k := 2 * k + 1) (b := b_Table_plain (callN k)) F sc12 rfl rfl hb fun X W hX xf => d12 Tx hX xf (ft_all Tx Fs k) (Nat.le_succ _) (Nat.le_refl _)
    | 13, _ => let ⟨_, F, hb⟩ := Fs.f13; def_ok (k := 2 * k + 1) (b := b_Table_call (callN k)) F sc13 rfl rfl hb fun X W hX xf => d13 Tx hX xf (ft_all Tx Fs k) (Nat.le_succ _) (Nat.le_refl _)
    | 14, _ => let ⟨_, F, hb⟩ := Fs.f14; def_ok (k := 2 * k + 1) (b := b_Table_free (callN k)) F sc14 rfl rfl hb fun X W hX xf => d14 Tx hX xf (ft_all Tx Fs k) (Nat.le_succ _) (Nat.le_refl _)
    | 15, _ => let ⟨_, F, hb⟩ := Fs.f15; def_ok (k := 2 * k + 1) (b := b_Table_back (callN k)) F sc15 rfl rfl hb fun X W hX xf => d15 Tx hX xf (ft_all Tx Fs k) (Nat.le_succ _) (Nat.le_refl _)
    | 16, _ => let ⟨_, F, hb⟩ := Fs.f16; def_ok (k := 2 * k + 1) (b := b_Table_is_end (callN k)) F sc16 rfl rfl hb fun X W hX xf => d16 Tx hX xf (ft_all Tx Fs k) (Nat.le_succ _) (Nat.le_refl _)
    | 17, _ => let ⟨_, F, hb⟩ := Fs.f17; def_ok (k := 2 * k + 1) (b := b_Table_step (callN k)) F sc17 rfl rfl hb fun X W hX xf => d17 Tx hX xf (ft_all Tx Fs k) (Nat.le_succ _) (Nat.le_refl _)
    | 18, _ => let ⟨_, F, hb⟩ := Fs.f18; def_ok (k := 2 * k + 1) (b := b_Table_read (callN k)) F sc18 rfl rfl hb fun X W hX xf => d18 Tx hX xf (ft_all Tx Fs k) (Nat.le_succ _) (Nat.le_refl _)
    | 19, _ => let ⟨_, F, hb⟩ := Fs.f19; def_ok (k := 2 * k + 1) (b := b_takes_definite (callN k)) F sc19 rfl rfl hb fun X W hX xf => d19 Tx hX xf (ft_all Tx Fs k) (Nat.le_succ _) (Nat.le_refl _)
    | 20, _ => let ⟨_, F, hb⟩ := Fs.f20; def_ok (k := 2 * k + 1) (b := b_opposite (callN k)) F sc20 rfl rfl hb fun X W hX xf => d20 Tx hX xf (ft_all Tx Fs k) (Nat.le_succ _) (Nat.le_refl _)
    | 21, _ => let ⟨_, F, hb⟩ := Fs.f21; def_ok (k := 2 * k + 1) (b := b__law_tape (callN k)) F sc21 rfl rfl hb fun X W hX xf => d21 Tx hX xf (ft_all Tx Fs k) (Nat.le_succ _) (Nat.le_refl _)
    | 22, _ => let ⟨_, F, hb⟩ := Fs.f22; def_ok (k := 2 * k + 1) (b := b__law_draw (callN k)) F sc22 rfl rfl hb fun X W hX xf => d22 Tx hX xf (ft_all Tx Fs k) (Nat.le_succ _) (Nat.le_refl _)
    | 23, _ => let ⟨_, F, hb⟩ := Fs.f23; def_ok (k := 2 * k + 1) (b := b__law_pick (callN k)) F sc23 rfl rfl hb fun X W hX xf => d23 Tx hX xf (ft_all Tx Fs k) (Nat.le_succ _) (Nat.le_refl _)
    | 24, _ => let ⟨_, F, hb⟩ := Fs.f24; def_ok (k := 2 * k + 1) (b := b__law_same (callN k)) F sc24 rfl rfl hb fun X W hX xf => d24 Tx hX xf (ft_all Tx Fs k) (Nat.le_succ _) (Nat.le_refl _)
    | 25, _ => let ⟨_, F, hb⟩ := Fs.f25; def_ok (k := 2 * k + 1) (b := b__law_signs (callN k)) F sc25 rfl rfl hb fun X W hX xf => d25 Tx hX xf (ft_all Tx Fs k) (Nat.le_succ _) (Nat.le_refl _)
    | 26, _ => let ⟨_, F, hb⟩ := Fs.f26; def_ok (k := 2 * k + 1) (b := b__law_many (callN k)) F sc26 rfl rfl hb fun X W hX xf => d26 Tx hX xf (ft_all Tx Fs k) (Nat.le_succ _) (Nat.le_refl _)
    | 27, _ => let ⟨_, F, hb⟩ := Fs.f27; def_ok (k := 2 * k + 1) (b := b__law_word (callN k)) F sc27 rfl rfl hb fun X W hX xf => d27 Tx hX xf (ft_all Tx Fs k) (Nat.le_succ _) (Nat.le_refl _)
    | 28, _ => let ⟨_, F, hb⟩ := Fs.f28; def_ok (k := 2 * k + 1) (b := b__law_definite (callN k)) F sc28 rfl rfl hb fun X W hX xf => d28 Tx hX xf (ft_all Tx Fs k) (Nat.le_succ _) (Nat.le_refl _)
    | 29, _ => let ⟨_, F, hb⟩ := Fs.f29; def_ok (k := 2 * k + 1) (b := b__law_step (callN k)) F sc29 rfl rfl hb fun X W hX xf => d29 Tx hX xf (ft_all Tx Fs k) (Nat.le_succ _) (Nat.le_refl _)
    | 30, _ => let ⟨_, F, hb⟩ := Fs.f30; def_ok (k := 2 * k + 1) (b := b__law_read (callN k)) F sc30 rfl rfl hb fun X W hX xf => d30 Tx hX xf (ft_all Tx Fs k) (Nat.le_succ _) (Nat.le_refl _)
    | 31, _ => let ⟨_, F, hb⟩ := Fs.f31; def_ok (k := 2 * k + 1) (b := b__law_is_taken (callN k)) F sc31 rfl rfl hb fun X W hX xf => d31 Tx hX xf (ft_all Tx Fs k) (Nat.le_succ _) (Nat.le_refl _)
    | 32, _ => let ⟨_, F, hb⟩ := Fs.f32; def_ok (k := 2 * k + 1) (b := b__law_call (callN k)) F sc32 rfl rfl hb fun X W hX xf => d32 Tx hX xf (ft_all Tx Fs k) (Nat.le_succ _) (Nat.le_refl _)
    | 33, _ => let ⟨_, F, hb⟩ := Fs.f33; def_ok (k := 2 * k + 1) (b := b_law (callN k)) F sc33 rfl rfl hb fun X W hX xf => d33 Tx hX xf (ft_all Tx Fs k) (Nat.le_succ _) (Nat.le_refl _)
    | n + 34, h => absurd h (by omega)
theorem all_mk {P : Program} {w : World} {K : PySem.W.Frag} {h : Heap} {mg : Str → Option Value} {fa f0 f1 f2 f3 f4 f5 f6 f7 f8 f9 f10 f11 f12 f13 f14 f15 f16 f17 f18 f19 f20 f21 f22 f23 f24 f25 f26 f27 f28 f29 f30 f31 f32 f33 C0 E0 E1 E2 : Addr} {od0 an0 od1 an1 od2 an2 od3 an3 od4 an4 od5 an5 od6 an6 od7 an7 od8 an8 od9 an9 od10 an10 od11 an11 od12 an12 od13 an13 od14 an14 od15 an15 od16 an16 od17 an17 od18 an18 od19 an19 od20 an20 od21 an21 od22 an22 od23 an23 od24 an24 od25 an25 od26 an26 od27 an27 od28 an28 od29 an29 od30 an30 od31 an31 od32 an32 od33 an33 : Option Addr} {sl0 sl1 sl2 sl3 sl4 sl5 sl6 sl7 sl8 sl9 sl10 sl11 sl12 sl13 sl14 sl15 sl16 sl17 sl18 sl19 sl20 sl21 sl22 sl23 sl24 sl25 sl26 sl27 sl28 sl29 sl30 sl31 sl32 sl33 : Array (Option Value)} {oc0 kV0 dc0 pm0 cd0 ct0 oc1 kV1 dc1 pm1 cd1 ct1 oc2 kV2 dc2 pm2 cd2 ct2 oc3 kV3 dc3 pm3 cd3 ct3 oc4 kV4 dc4 pm4 cd4 ct4 oc5 kV5 dc5 pm5 cd5 ct5 oc6 kV6 dc6 pm6 cd6 ct6 oc7 kV7 dc7 pm7 cd7 ct7 oc8 kV8 dc8 pm8 cd8 ct8 oc9 kV9 dc9 pm9 cd9 ct9 oc10 kV10 dc10 pm10 cd10 ct10 oc11 kV11 dc11 pm11 cd11 ct11 oc12 kV12 dc12 pm12 cd12 ct12 oc13 kV13 dc13 pm13 cd13 ct13 oc14 kV14 dc14 pm14 cd14 ct14 oc15 kV15 dc15 pm15 cd15 ct15 oc16 kV16 dc16 pm16 cd16 ct16 oc17 kV17 dc17 pm17 cd17 ct17 oc18 kV18 dc18 pm18 cd18 ct18 oc19 kV19 dc19 pm19 cd19 ct19 oc20 kV20 dc20 pm20 cd20 ct20 oc21 kV21 dc21 pm21 cd21 ct21 oc22 kV22 dc22 pm22 cd22 ct22 oc23 kV23 dc23 pm23 cd23 ct23 oc24 kV24 dc24 pm24 cd24 ct24 oc25 kV25 dc25 pm25 cd25 ct25 oc26 kV26 dc26 pm26 cd26 ct26 oc27 kV27 dc27 pm27 cd27 ct27 oc28 kV28 dc28 pm28 cd28 ct28 oc29 kV29 dc29 pm29 cd29 ct29 oc30 kV30 dc30 pm30 cd30 ct30 oc31 kV31 dc31 pm31 cd31 ct31 oc32 kV32 dc32 pm32 cd32 ct32 oc33 kV33 dc33 pm33 cd33 ct33 : Value} {t_MOST_WORD : Tok} {t_MOST_KIND : Tok} {t_MOST_DEFINITE : Tok} (X : K.In h) (G : h.Ns mainGlobals mg) (hfa : mg "law" = some (.ref fa))
    (hlaw : ∀ ns : List Int, ns.length ≤ 63 → (∀ z ∈ ns, Builtin.Int.intBits z ≤ 1048576) → ∃ g, callN 115 33 [.rol ns] [] = .ok (.bl true) g)
    (aC0 : PySem.W.nsIn K mainGlobals "Table" = some (some (.ref C0)))
    (aE0 : PySem.W.nsIn K mainGlobals "StackError" = some (some (.ref E0)))
    (aE1 : PySem.W.nsIn K mainGlobals "BadSystem" = some (some (.ref E1)))
    (aE2 : PySem.W.nsIn K mainGlobals "BadWord" = some (some (.ref E2)))
    (a0 : PySem.W.nsIn K mainGlobals "is_integer" = some (some (.ref f0)))
    (l0 : K.lookup f0 = some ⟨oc0, od0, .func (PySem.W.fnOf "is_integer" "is_integer" (defArgs s0) (defBody s0) (defScope s0) .none kV0 dc0 pm0 an0 cd0 ct0), sl0⟩)
    (c0 : PySem.W.codeIn K cd0 "is_integer" = true)
    (k0 : PySem.W.keepIn K (.ref f0) = true)
    (a1 : PySem.W.nsIn K mainGlobals "are_ascending" = some (some (.ref f1)))
    (l1 : K.lookup f1 = some ⟨oc1, od1, .func (PySem.W.fnOf "are_ascending" "are_ascending" (defArgs s1) (defBody s1) (defScope s1) .none kV1 dc1 pm1 an1 cd1 ct1), sl1⟩)
    (c1 : PySem.W.codeIn K cd1 "are_ascending" = true)
    (k1 : PySem.W.keepIn K (.ref f1) = true)
    (a2 : PySem.W.nsIn K mainGlobals "is_signs" = some (some (.ref f2)))
    (l2 : K.lookup f2 = some ⟨oc2, od2, .func (PySem.W.fnOf "is_signs" "is_signs" (defArgs s2) (defBody s2) (defScope s2) .none kV2 dc2 pm2 an2 cd2 ct2), sl2⟩)
    (c2 : PySem.W.codeIn K cd2 "is_signs" = true)
    (k2 : PySem.W.keepIn K (.ref f2) = true)
    (a3 : PySem.W.nsIn K mainGlobals "many_signs" = some (some (.ref f3)))
    (l3 : K.lookup f3 = some ⟨oc3, od3, .func (PySem.W.fnOf "many_signs" "many_signs" (defArgs s3) (defBody s3) (defScope s3) .none kV3 dc3 pm3 an3 cd3 ct3), sl3⟩)
    (c3 : PySem.W.codeIn K cd3 "many_signs" = true)
    (k3 : PySem.W.keepIn K (.ref f3) = true)
    (a4 : PySem.W.nsIn K mainGlobals "is_word_of" = some (some (.ref f4)))
    (l4 : K.lookup f4 = some ⟨oc4, od4, .func (PySem.W.fnOf "is_word_of" "is_word_of" (defArgs s4) (defBody s4) (defScope s4) .none kV4 dc4 pm4 an4 cd4 ct4), sl4⟩)
    (c4 : PySem.W.codeIn K cd4 "is_word_of" = true)
    (k4 : PySem.W.keepIn K (.ref f4) = true)
    (a5 : PySem.W.nsIn K mainGlobals "are_states" = some (some (.ref f5)))
    (l5 : K.lookup f5 = some ⟨oc5, od5, .func (PySem.W.fnOf "are_states" "are_states" (defArgs s5) (defBody s5) (defScope s5) .none kV5 dc5 pm5 an5 cd5 ct5), sl5⟩)
    (c5 : PySem.W.codeIn K cd5 "are_states" = true)
    (k5 : PySem.W.keepIn K (.ref f5) = true)
    (a6 : PySem.W.nsIn K mainGlobals "check_word" = some (some (.ref f6)))
    (l6 : K.lookup f6 = some ⟨oc6, od6, .func (PySem.W.fnOf "check_word" "check_word" (defArgs s6) (defBody s6) (defScope s6) .none kV6 dc6 pm6 an6 cd6 ct6), sl6⟩)
    (c6 : PySem.W.codeIn K cd6 "check_word" = true)
    (k6 : PySem.W.keepIn K (.ref f6) = true)
    (a7 : PySem.W.nsIn K mainGlobals "are_nexts" = some (some (.ref f7)))
    (l7 : K.lookup f7 = some ⟨oc7, od7, .func (PySem.W.fnOf "are_nexts" "are_nexts" (defArgs s7) (defBody s7) (defScope s7) .none kV7 dc7 pm7 an7 cd7 ct7), sl7⟩)
    (c7 : PySem.W.codeIn K cd7 "are_nexts" = true)
    (k7 : PySem.W.keepIn K (.ref f7) = true)
    (a8 : PySem.W.nsIn K mainGlobals "is_row" = some (some (.ref f8)))
    (l8 : K.lookup f8 = some ⟨oc8, od8, .func (PySem.W.fnOf "is_row" "is_row" (defArgs s8) (defBody s8) (defScope s8) .none kV8 dc8 pm8 an8 cd8 ct8), sl8⟩)
    (c8 : PySem.W.codeIn K cd8 "is_row" = true)
    (k8 : PySem.W.keepIn K (.ref f8) = true)
    (a9 : PySem.W.nsIn K mainGlobals "is_definite" = some (some (.ref f9)))
    (l9 : K.lookup f9 = some ⟨oc9, od9, .func (PySem.W.fnOf "is_definite" "is_definite" (defArgs s9) (defBody s9) (defScope s9) .none kV9 dc9 pm9 an9 cd9 ct9), sl9⟩)
    (c9 : PySem.W.codeIn K cd9 "is_definite" = true)
    (k9 : PySem.W.keepIn K (.ref f9) = true)
    (a10 : PySem.W.nsIn K mainGlobals "check_definite" = some (some (.ref f10)))
    (l10 : K.lookup f10 = some ⟨oc10, od10, .func (PySem.W.fnOf "check_definite" "check_definite" (defArgs s10) (defBody s10) (defScope s10) .none kV10 dc10 pm10 an10 cd10 ct10), sl10⟩)
    (c10 : PySem.W.codeIn K cd10 "check_definite" = true)
    (k10 : PySem.W.keepIn K (.ref f10) = true)
    (a11 : PySem.W.findIn K (.ref C0) "__init__" = some (some (.ref f11)))
    (i11 : PySem.W.isFn K (.ref f11) = true)
    (l11 : K.lookup f11 = some ⟨oc11, od11, .func (PySem.W.fnOf "__init__" "Table.__init__" (defArgs s11) (defBody s11) (defScope s11) .none kV11 dc11 pm11 an11 cd11 ct11), sl11⟩)
    (c11 : PySem.W.codeIn K cd11 "Table.__init__" = true)
    (k11 : PySem.W.keepIn K (.ref f11) = true)
    (a12 : PySem.W.findIn K (.ref C0) "plain" = some (some (.ref f12)))
    (i12 : PySem.W.isFn K (.ref f12) = true)
    (l12 : K.lookup f12 = some ⟨oc12, od12, .func (PySem.W.fnOf "plain" "Table.plain" (defArgs s12) (defBody s12) (defScope s12) .none kV12 dc12 pm12 an12 cd12 ct12), sl12⟩)
    (c12 : PySem.W.codeIn K cd12 "Table.plain" = true)
    (k12 : PySem.W.keepIn K (.ref f12) = true)
    (a13 : PySem.W.findIn K (.ref C0) "call" = some (some (.ref f13)))
    (i13 : PySem.W.isFn K (.ref f13) = true)
    (l13 : K.lookup f13 = some ⟨oc13, od13, .func (PySem.W.fnOf "call" "Table.call" (defArgs s13) (defBody s13) (defScope s13) .none kV13 dc13 pm13 an13 cd13 ct13), sl13⟩)
    (c13 : PySem.W.codeIn K cd13 "Table.call" = true)
    (k13 : PySem.W.keepIn K (.ref f13) = true)
    (a14 : PySem.W.findIn K (.ref C0) "free" = some (some (.ref f14)))
    (i14 : PySem.W.isFn K (.ref f14) = true)
    (l14 : K.lookup f14 = some ⟨oc14, od14, .func (PySem.W.fnOf "free" "Table.free" (defArgs s14) (defBody s14) (defScope s14) .none kV14 dc14 pm14 an14 cd14 ct14), sl14⟩)
    (c14 : PySem.W.codeIn K cd14 "Table.free" = true)
    (k14 : PySem.W.keepIn K (.ref f14) = true)
    (a15 : PySem.W.findIn K (.ref C0) "back" = some (some (.ref f15)))
    (i15 : PySem.W.isFn K (.ref f15) = true)
    (l15 : K.lookup f15 = some ⟨oc15, od15, .func (PySem.W.fnOf "back" "Table.back" (defArgs s15) (defBody s15) (defScope s15) .none kV15 dc15 pm15 an15 cd15 ct15), sl15⟩)
    (c15 : PySem.W.codeIn K cd15 "Table.back" = true)
    (k15 : PySem.W.keepIn K (.ref f15) = true)
    (a16 : PySem.W.findIn K (.ref C0) "is_end" = some (some (.ref f16)))
    (i16 : PySem.W.isFn K (.ref f16) = true)
    (l16 : K.lookup f16 = some ⟨oc16, od16, .func (PySem.W.fnOf "is_end" "Table.is_end" (defArgs s16) (defBody s16) (defScope s16) .none kV16 dc16 pm16 an16 cd16 ct16), sl16⟩)
    (c16 : PySem.W.codeIn K cd16 "Table.is_end" = true)
    (k16 : PySem.W.keepIn K (.ref f16) = true)
    (a17 : PySem.W.findIn K (.ref C0) "step" = some (some (.ref f17)))
    (i17 : PySem.W.isFn K (.ref f17) = true)
    (l17 : K.lookup f17 = some ⟨oc17, od17, .func (PySem.W.fnOf "step" "Table.step" (defArgs s17) (defBody s17) (defScope s17) .none kV17 dc17 pm17 an17 cd17 ct17), sl17⟩)
    (c17 : PySem.W.codeIn K cd17 "Table.step" = true)
    (k17 : PySem.W.keepIn K (.ref f17) = true)
    (a18 : PySem.W.findIn K (.ref C0) "read" = some (some (.ref f18)))
    (i18 : PySem.W.isFn K (.ref f18) = true)
    (l18 : K.lookup f18 = some ⟨oc18, od18, .func (PySem.W.fnOf "read" "Table.read" (defArgs s18) (defBody s18) (defScope s18) .none kV18 dc18 pm18 an18 cd18 ct18), sl18⟩)
    (c18 : PySem.W.codeIn K cd18 "Table.read" = true)
    (k18 : PySem.W.keepIn K (.ref f18) = true)
    (a19 : PySem.W.nsIn K mainGlobals "takes_definite" = some (some (.ref f19)))
    (l19 : K.lookup f19 = some ⟨oc19, od19, .func (PySem.W.fnOf "takes_definite" "takes_definite" (defArgs s19) (defBody s19) (defScope s19) .none kV19 dc19 pm19 an19 cd19 ct19), sl19⟩)
    (c19 : PySem.W.codeIn K cd19 "takes_definite" = true)
    (k19 : PySem.W.keepIn K (.ref f19) = true)
    (a20 : PySem.W.nsIn K mainGlobals "opposite" = some (some (.ref f20)))
    (l20 : K.lookup f20 = some ⟨oc20, od20, .func (PySem.W.fnOf "opposite" "opposite" (defArgs s20) (defBody s20) (defScope s20) .none kV20 dc20 pm20 an20 cd20 ct20), sl20⟩)
    (c20 : PySem.W.codeIn K cd20 "opposite" = true)
    (k20 : PySem.W.keepIn K (.ref f20) = true)
    (a21 : PySem.W.nsIn K mainGlobals "_law_tape" = some (some (.ref f21)))
    (l21 : K.lookup f21 = some ⟨oc21, od21, .func (PySem.W.fnOf "_law_tape" "_law_tape" (defArgs s21) (defBody s21) (defScope s21) .none kV21 dc21 pm21 an21 cd21 ct21), sl21⟩)
    (c21 : PySem.W.codeIn K cd21 "_law_tape" = true)
    (k21 : PySem.W.keepIn K (.ref f21) = true)
    (a22 : PySem.W.nsIn K mainGlobals "_law_draw" = some (some (.ref f22)))
    (l22 : K.lookup f22 = some ⟨oc22, od22, .func (PySem.W.fnOf "_law_draw" "_law_draw" (defArgs s22) (defBody s22) (defScope s22) .none kV22 dc22 pm22 an22 cd22 ct22), sl22⟩)
    (c22 : PySem.W.codeIn K cd22 "_law_draw" = true)
    (k22 : PySem.W.keepIn K (.ref f22) = true)
    (a23 : PySem.W.nsIn K mainGlobals "_law_pick" = some (some (.ref f23)))
    (l23 : K.lookup f23 = some ⟨oc23, od23, .func (PySem.W.fnOf "_law_pick" "_law_pick" (defArgs s23) (defBody s23) (defScope s23) .none kV23 dc23 pm23 an23 cd23 ct23), sl23⟩)
    (c23 : PySem.W.codeIn K cd23 "_law_pick" = true)
    (k23 : PySem.W.keepIn K (.ref f23) = true)
    (a24 : PySem.W.nsIn K mainGlobals "_law_same" = some (some (.ref f24)))
    (l24 : K.lookup f24 = some ⟨oc24, od24, .func (PySem.W.fnOf "_law_same" "_law_same" (defArgs s24) (defBody s24) (defScope s24) .none kV24 dc24 pm24 an24 cd24 ct24), sl24⟩)
    (c24 : PySem.W.codeIn K cd24 "_law_same" = true)
    (k24 : PySem.W.keepIn K (.ref f24) = true)
    (a25 : PySem.W.nsIn K mainGlobals "_law_signs" = some (some (.ref f25)))
    (l25 : K.lookup f25 = some ⟨oc25, od25, .func (PySem.W.fnOf "_law_signs" "_law_signs" (defArgs s25) (defBody s25) (defScope s25) .none kV25 dc25 pm25 an25 cd25 ct25), sl25⟩)
    (c25 : PySem.W.codeIn K cd25 "_law_signs" = true)
    (k25 : PySem.W.keepIn K (.ref f25) = true)
    (a26 : PySem.W.nsIn K mainGlobals "_law_many" = some (some (.ref f26)))
    (l26 : K.lookup f26 = some ⟨oc26, od26, .func (PySem.W.fnOf "_law_many" "_law_many" (defArgs s26) (defBody s26) (defScope s26) .none kV26 dc26 pm26 an26 cd26 ct26), sl26⟩)
    (c26 : PySem.W.codeIn K cd26 "_law_many" = true)
    (k26 : PySem.W.keepIn K (.ref f26) = true)
    (a27 : PySem.W.nsIn K mainGlobals "_law_word" = some (some (.ref f27)))
    (l27 : K.lookup f27 = some ⟨oc27, od27, .func (PySem.W.fnOf "_law_word" "_law_word" (defArgs s27) (defBody s27) (defScope s27) .none kV27 dc27 pm27 an27 cd27 ct27), sl27⟩)
    (c27 : PySem.W.codeIn K cd27 "_law_word" = true)
    (k27 : PySem.W.keepIn K (.ref f27) = true)
    (a28 : PySem.W.nsIn K mainGlobals "_law_definite" = some (some (.ref f28)))
    (l28 : K.lookup f28 = some ⟨oc28, od28, .func (PySem.W.fnOf "_law_definite" "_law_definite" (defArgs s28) (defBody s28) (defScope s28) .none kV28 dc28 pm28 an28 cd28 ct28), sl28⟩)
    (c28 : PySem.W.codeIn K cd28 "_law_definite" = true)
    (k28 : PySem.W.keepIn K (.ref f28) = true)
    (a29 : PySem.W.nsIn K mainGlobals "_law_step" = some (some (.ref f29)))
    (l29 : K.lookup f29 = some ⟨oc29, od29, .func (PySem.W.fnOf "_law_step" "_law_step" (defArgs s29) (defBody s29) (defScope s29) .none kV29 dc29 pm29 an29 cd29 ct29), sl29⟩)
    (c29 : PySem.W.codeIn K cd29 "_law_step" = true)
    (k29 : PySem.W.keepIn K (.ref f29) = true)
    (a30 : PySem.W.nsIn K mainGlobals "_law_read" = some (some (.ref f30)))
    (l30 : K.lookup f30 = some ⟨oc30, od30, .func (PySem.W.fnOf "_law_read" "_law_read" (defArgs s30) (defBody s30) (defScope s30) .none kV30 dc30 pm30 an30 cd30 ct30), sl30⟩)
    (c30 : PySem.W.codeIn K cd30 "_law_read" = true)
    (k30 : PySem.W.keepIn K (.ref f30) = true)
    (a31 : PySem.W.nsIn K mainGlobals "_law_is_taken" = some (some (.ref f31)))
    (l31 : K.lookup f31 = some ⟨oc31, od31, .func (PySem.W.fnOf "_law_is_taken" "_law_is_taken" (defArgs s31) (defBody s31) (defScope s31) .none kV31 dc31 pm31 an31 cd31 ct31), sl31⟩)
    (c31 : PySem.W.codeIn K cd31 "_law_is_taken" = true)
    (k31 : PySem.W.keepIn K (.ref f31) = true)
    (a32 : PySem.W.nsIn K mainGlobals "_law_call" = some (some (.ref f32)))
    (l32 : K.lookup f32 = some ⟨oc32, od32, .func (PySem.W.fnOf "_law_call" "_law_call" (defArgs s32) (defBody s32) (defScope s32) .none kV32 dc32 pm32 an32 cd32 ct32), sl32⟩)
    (c32 : PySem.W.codeIn K cd32 "_law_call" = true)
    (k32 : PySem.W.keepIn K (.ref f32) = true)
    (a33 : PySem.W.nsIn K mainGlobals "law" = some (some (.ref f33)))
    (l33 : K.lookup f33 = some ⟨oc33, od33, .func (PySem.W.fnOf "law" "law" (defArgs s33) (defBody s33) (defScope s33) .none kV33 dc33 pm33 an33 cd33 ct33), sl33⟩)
    (c33 : PySem.W.codeIn K cd33 "law" = true)
    (k33 : PySem.W.keepIn K (.ref f33) = true)
    (pg0 : PySem.W.plainGet K C0 Str.empty = true)
    (hd0 : PySem.W.hasDictIn K C0 = true)
    (po0 : PySem.W.plainOver K C0 = true)
    (sa0 : PySem.W.findIn K (.ref C0) "__setattr__" = some (some (.builtin "object.__setattr__")))
    (mk0 : PySem.W.makesIn K C0 = true)
    (kc0 : PySem.W.keepIn K (.ref C0) = true)
    (n0_many : PySem.W.findIn K (.ref C0) "many" = some none)
    (n0_ends : PySem.W.findIn K (.ref C0) "ends" = some none)
    (n0_first : PySem.W.findIn K (.ref C0) "first" = some none)
    (n0_signs : PySem.W.findIn K (.ref C0) "signs" = some none)
    (n0_rows : PySem.W.findIn K (.ref C0) "rows" = some none)
    (xE0 : PySem.W.excIn K E0 [.type "ValueError", .type "Exception", .type "BaseException", .type "object"] "ValueError.__new__" = true)
    (kE0 : PySem.W.keepIn K (.ref E0) = true)
    (bE0 : PySem.W.subIn K (.ref E0) (.type "BaseException") = some true)
    (tE0 : PySem.W.typeIn K (.ref E0) = some (.type "type"))
    (xE1 : PySem.W.excIn K E1 [.type "ValueError", .type "Exception", .type "BaseException", .type "object"] "ValueError.__new__" = true)
    (kE1 : PySem.W.keepIn K (.ref E1) = true)
    (bE1 : PySem.W.subIn K (.ref E1) (.type "BaseException") = some true)
    (tE1 : PySem.W.typeIn K (.ref E1) = some (.type "type"))
    (xE2 : PySem.W.excIn K E2 [.type "ValueError", .type "Exception", .type "BaseException", .type "object"] "ValueError.__new__" = true)
    (kE2 : PySem.W.keepIn K (.ref E2) = true)
    (bE2 : PySem.W.subIn K (.ref E2) (.type "BaseException") = some true)
    (tE2 : PySem.W.typeIn K (.ref E2) = some (.type "type"))
    (iE1 : PySem.W.isClsIn K E1 = true)
    (sE0_1 : PySem.W.subIn K (.ref E0) (.ref E1) = some false)
    (sE1_1 : PySem.W.subIn K (.ref E1) (.ref E1) = some true)
    (sE2_1 : PySem.W.subIn K (.ref E2) (.ref E1) = some false)
    (iE2 : PySem.W.isClsIn K E2 = true)
    (sE0_2 : PySem.W.subIn K (.ref E0) (.ref E2) = some false)
    (sE1_2 : PySem.W.subIn K (.ref E1) (.ref E2) = some false)
    (sE2_2 : PySem.W.subIn K (.ref E2) (.ref E2) = some true)
    (t__MOST_WORD : PySem.W.nsIn K mainGlobals "MOST_WORD" = some (some (.int 300 t_MOST_WORD)))
    (t__MOST_KIND : PySem.W.nsIn K mainGlobals "MOST_KIND" = some (some (.int 3 t_MOST_KIND)))
    (t__MOST_DEFINITE : PySem.W.nsIn K mainGlobals "MOST_DEFINITE" = some (some (.int 40 t_MOST_DEFINITE)))
    (z_len : PySem.W.nsIn K mainGlobals "len" = some none)
    (z_int : PySem.W.nsIn K mainGlobals "int" = some none)
    (z_abs : PySem.W.nsIn K mainGlobals "abs" = some none)
    (z_all : PySem.W.nsIn K mainGlobals "all" = some none)
    (z_any : PySem.W.nsIn K mainGlobals "any" = some none)
    (z_tuple : PySem.W.nsIn K mainGlobals "tuple" = some none)
    (z_list : PySem.W.nsIn K mainGlobals "list" = some none)
    (z_max : PySem.W.nsIn K mainGlobals "max" = some none)
    (z_min : PySem.W.nsIn K mainGlobals "min" = some none)
    (z_range : PySem.W.nsIn K mainGlobals "range" = some none)
    (z_isinstance : PySem.W.nsIn K mainGlobals "isinstance" = some none)
    (z_zip : PySem.W.nsIn K mainGlobals "zip" = some none)
    (z_enumerate : PySem.W.nsIn K mainGlobals "enumerate" = some none)
    (z_sorted : PySem.W.nsIn K mainGlobals "sorted" = some none)
    (z_dict : PySem.W.nsIn K mainGlobals "dict" = some none)
    (z_sum : PySem.W.nsIn K mainGlobals "sum" = some none)
    (z_bool : PySem.W.nsIn K mainGlobals "bool" = some none)
    (z_str : PySem.W.nsIn K mainGlobals "str" = some none)
    (z_repr : PySem.W.nsIn K mainGlobals "repr" = some none)
    (z_set : PySem.W.nsIn K mainGlobals "set" = some none) :
    ∃ fd : FuncData, (∀ (s : Shared) (u : Value), BindsTo s fd ⟨[u], []⟩ [("script", u)]) ∧ ∀ base : Heap, K.In base → base.Ns mainGlobals mg → FnOk P w K mg base (L2.CX P w) 230 fa fd ["script"] (spLaw K) := by
  have e : f33 = fa := (Value.ref.inj (Option.some.inj (hfa.symm.trans (PySem.W.mg_of X G a33)))).symm
  subst e
  refine ⟨PySem.W.fnOf "law" "law" (defArgs s33) (defBody s33) (defScope s33) .none kV33 dc33 pm33 an33 cd33 ct33, fun s u => .of_eq rfl, fun base _ _ => ?_⟩
  let Z : Tab := { P := P, w := w, K := K, mg := mg, base := base, ne := 3, fn := fun n => match n with | 0 => f0 | 1 => f1 | 2 => f2 | 3 => f3 | 4 => f4 | 5 => f5 | 6 => f6 | 7 => f7 | 8 => f8 | 9 => f9 | 10 => f10 | 11 => f11 | 12 => f12 | 13 => f13 | 14 => f14 | 15 => f15 | 16 => f16 | 17 => f17 | 18 => f18 | 19 => f19 | 20 => f20 | 21 => f21 | 22 => f22 | 23 => f23 | 24 => f24 | 25 => f25 | 26 => f26 | 27 => f27 | 28 => f28 | 29 => f29 | 30 => f30 | 31 => f31 | 32 => f32 | 33 => f33 | _ => f33, cls := fun n => match n with | 0 => C0 | _ => f33, exc := fun n => match n with | 0 => E0 | 1 => E1 | 2 => E2 | _ => f33, xf := fun _ => none }
  have m : ∀ {x : Str} {v : Value}, PySem.W.nsIn K mainGlobals x = some (some v) → mg x = some v := fun e => PySem.W.mg_of X G e
  have z : ∀ {x : Str}, PySem.W.nsIn K mainGlobals x = some none → mg x = none := fun e => PySem.W.mg_none_of X G e
  have F0 := fun_mk (st := s0) l0 c0 k0
  have b0 := F0.binds (ps := p0) fun _ _ _ _ _ _ us hl => match us, hl with | [_, _, _], _ => rfl
  have F1 := fun_mk (st := s1) l1 c1 k1
  have b1 := F1.binds (ps := p1) fun _ _ _ _ _ _ us hl => match us, hl with | [_], _ => rfl
  have F2 := fun_mk (st := s2) l2 c2 k2
  have b2 := F2.binds (ps := p2) fun _ _ _ _ _ _ us hl => match us, hl with | [_], _ => rfl
  have F3 := fun_mk (st := s3) l3 c3 k3
  have b3 := F3.binds (ps := p3) fun _ _ _ _ _ _ us hl => match us, hl with | [_], _ => rfl
  have F4 := fun_mk (st := s4) l4 c4 k4
  have b4 := F4.binds (ps := p4) fun _ _ _ _ _ _ us hl => match us, hl with | [_, _], _ => rfl
  have F5 := fun_mk (st := s5) l5 c5 k5
  have b5 := F5.binds (ps := p5) fun _ _ _ _ _ _ us hl => match us, hl with | [_, _], _ => rfl
  have F6 := fun_mk (st := s6) l6 c6 k6
  have b6 := F6.binds (ps := p6) fun _ _ _ _ _ _ us hl => match us, hl with | [_, _], _ => rfl
  have F7 := fun_mk (st := s7) l7 c7 k7
  have b7 := F7.binds (ps := p7) fun _ _ _ _ _ _ us hl => match us, hl with | [_, _, _], _ => rfl
  have F8 := fun_mk (st := s8) l8 c8 k8
  have b8 := F8.binds (ps := p8) fun _ _ _ _ _ _ us hl => match us, hl with | [_, _, _], _ => rfl
  have F9 := fun_mk (st := s9) l9 c9 k9
  have b9 := F9.binds (ps := p9) fun _ _ _ _ _ _ us hl => match us, hl with | [_], _ => rfl
  have F10 := fun_mk (st := s10) l10 c10 k10
  have b10 := F10.binds (ps := p10) fun _ _ _ _ _ _ us hl => match us, hl with | [_], _ => rfl
  have F11 := fun_mk (st := s11) l11 c11 k11
  have b11 := F11.binds (ps := p11) fun _ _ _ _ _ _ us hl => match us, hl with | [_, _], _ => rfl
  have F12 := fun_mk (st := s12) l12 c12 k12
  have b12 := F12.binds (ps := p12) fun _ _ _ _ _ _ us hl => match us, hl with | [_, _, _], _ => rfl
  have F13 := fun_mk (st := s13) l13 c13 k13
  have b13 := F13.binds (ps := p13) fun _ _ _ _ _ _ us hl => match us, hl with | [_, _, _], _ => rfl
  have F14 := fun_mk (st := s14) l14 c14 k14
  have b14 := F14.binds (ps := p14) fun _ _ _ _ _ _ us hl => match us, hl with | [_, _, _], _ => rfl
  have F15 := fun_mk (st := s15) l15 c15 k15
  have b15 := F15.binds (ps := p15) fun _ _ _ _ _ _ us hl => match us, hl with | [_, _, _, _, _], _ => rfl
  have F16 := fun_mk (st := s16) l16 c16 k16
  have b16 := F16.binds (ps := p16) fun _ _ _ _ _ _ us hl => match us, hl with | [_, _], _ => rfl
  have F17 := fun_mk (st := s17) l17 c17 k17
  have b17 := F17.binds (ps := p17) fun _ _ _ _ _ _ us hl => match us, hl with | [_, _, _, _], _ => rfl
  have F18 := fun_mk (st := s18) l18 c18 k18
  have b18 := F18.binds (ps := p18) fun _ _ _ _ _ _ us hl => match us, hl with | [_, _], _ => rfl
  have F19 := fun_mk (st := s19) l19 c19 k19
  have b19 := F19.binds (ps := p19) fun _ _ _ _ _ _ us hl => match us, hl with | [_, _], _ => rfl
  have F20 := fun_mk (st := s20) l20 c20 k20
  have b20 := F20.binds (ps := p20) fun _ _ _ _ _ _ us hl => match us, hl with | [_], _ => rfl
  have F21 := fun_mk (st := s21) l21 c21 k21
  have b21 := F21.binds (ps := p21) fun _ _ _ _ _ _ us hl => match us, hl with | [_], _ => rfl
  have F22 := fun_mk (st := s22) l22 c22 k22
  have b22 := F22.binds (ps := p22) fun _ _ _ _ _ _ us hl => match us, hl with | [_, _], _ => rfl
  have F23 := fun_mk (st := s23) l23 c23 k23
  have b23 := F23.binds (ps := p23) fun _ _ _ _ _ _ us hl => match us, hl with | [_, _], _ => rfl
  have F24 := fun_mk (st := s24) l24 c24 k24
  have b24 := F24.binds (ps := p24) fun _ _ _ _ _ _ us hl => match us, hl with | [_, _], _ => rfl
  have F25 := fun_mk (st := s25) l25 c25 k25
  have b25 := F25.binds (ps := p25) fun _ _ _ _ _ _ us hl => match us, hl with | [_], _ => rfl
  have F26 := fun_mk (st := s26) l26 c26 k26
  have b26 := F26.binds (ps := p26) fun _ _ _ _ _ _ us hl => match us, hl with | [_], _ => rfl
  have F27 := fun_mk (st := s27) l27 c27 k27
  have b27 := F27.binds (ps := p27) fun _ _ _ _ _ _ us hl => match us, hl with | [_, _, _], _ => rfl
  have F28 := fun_mk (st := s28) l28 c28 k28
  have b28 := F28.binds (ps := p28) fun _ _ _ _ _ _ us hl => match us, hl with | [_, _, _], _ => rfl
  have F29 := fun_mk (st := s29) l29 c29 k29
  have b29 := F29.binds (ps := p29) fun _ _ _ _ _ _ us hl => match us, hl with | [_, _, _], _ => rfl
  have F30 := fun_mk (st := s30) l30 c30 k30
  have b30 := F30.binds (ps := p30) fun _ _ _ _ _ _ us hl => match us, hl with | [_, _], _ => rfl
  have F31 := fun_mk (st := s31) l31 c31 k31
  have b31 := F31.binds (ps := p31) fun _ _ _ _ _ _ us hl => match us, hl with | [_, _], _ => rfl
  have F32 := fun_mk (st := s32) l32 c32 k32
  have b32 := F32.binds (ps := p32) fun _ _ _ _ _ _ us hl => match us, hl with | [_, _, _], _ => rfl
  have F33 := fun_mk (st := s33) l33 c33 k33
  have b33 := F33.binds (ps := p33) fun _ _ _ _ _ _ us hl => match us, hl with | [_], _ => rfl
  have Fs : Fns Z := ⟨⟨_, F0, b0⟩, ⟨_, F1, b1⟩, ⟨_, F2, b2⟩, ⟨_, F3, b3⟩, ⟨_, F4, b4⟩, ⟨_, F5, b5⟩, ⟨_, F6, b6⟩, ⟨_, F7, b7⟩, ⟨_, F8, b8⟩, ⟨_, F9, b9⟩, ⟨_, F10, b10⟩, ⟨_, F11, b11⟩, ⟨_, F12, b12⟩, ⟨_, F13, b13⟩, ⟨_, F14, b14⟩, ⟨_, F15, b15⟩, ⟨_, F16, b16⟩, ⟨_, F17, b17⟩, ⟨_, F18, b18⟩, ⟨_, F19, b19⟩, ⟨_, F20, b20⟩, ⟨_, F21, b21⟩, ⟨_, F22, b22⟩, ⟨_, F23, b23⟩, ⟨_, F24, b24⟩, ⟨_, F25, b25⟩, ⟨_, F26, b26⟩, ⟨_, F27, b27⟩, ⟨_, F28, b28⟩, ⟨_, F29, b29⟩, ⟨_, F30, b30⟩, ⟨_, F31, b31⟩, ⟨_, F32, b32⟩, ⟨_, F33, b33⟩⟩
  have cl : ClsOk Z T := .of fun c k e => match c, e with
    | 0, e => by cases e; exact ⟨⟨pg0, hd0, po0, sa0⟩, (all_cons n0_many (all_cons n0_ends (all_cons n0_first (all_cons n0_signs (all_cons n0_rows all_nil))))), (all_cons ⟨a11, i11, k11⟩ (all_cons ⟨a12, i12, k12⟩ (all_cons ⟨a13, i13, k13⟩ (all_cons ⟨a14, i14, k14⟩ (all_cons ⟨a15, i15, k15⟩ (all_cons ⟨a16, i16, k16⟩ (all_cons ⟨a17, i17, k17⟩ (all_cons ⟨a18, i18, k18⟩ all_nil))))))))⟩
    | n + 1, e => by cases e
  have Tx : Txt Z := {
    B := ⟨z z_len, z z_int, z z_abs, z z_all, z z_any, z z_tuple, z z_list, z z_max, z z_min, z z_range, z z_isinstance, z z_zip, z z_enumerate, z z_sorted, z z_dict, z z_sum, z z_bool, z z_str, z z_repr, z z_set⟩
    C := cl
    mf_0 := m a0
    mf_1 := m a1
    mf_2 := m a2
    mf_3 := m a3
    mf_4 := m a4
    mf_5 := m a5
    mf_6 := m a6
    mf_7 := m a7
    mf_8 := m a8
    mf_9 := m a9
    mf_10 := m a10
    mf_19 := m a19
    mf_20 := m a20
    mf_21 := m a21
    mf_22 := m a22
    mf_23 := m a23
    mf_24 := m a24
    mf_25 := m a25
    mf_26 := m a26
    mf_27 := m a27
    mf_28 := m a28
    mf_29 := m a29
    mf_30 := m a30
    mf_31 := m a31
    mf_32 := m a32
    mf_33 := m a33
    mc_0 := m aC0
    mk_0 := ⟨mk0, a11, i11, kc0⟩
    mx_0 := m aE0
    xo_0 := exc_mk (show 0 < 3 from by decide) rfl xE0 kE0 bE0 tE0
    mx_1 := m aE1
    xo_1 := exc_mk (show 1 < 3 from by decide) rfl xE1 kE1 bE1 tE1
    mx_2 := m aE2
    xo_2 := exc_mk (show 2 < 3 from by decide) rfl xE2 kE2 bE2 tE2
    ex_1 := fun c hc => match c, hc with | 0, _ => exm_mk bE1 iE1 tE1 sE0_1 | 1, _ => exm_mk bE1 iE1 tE1 sE1_1 | 2, _ => exm_mk bE1 iE1 tE1 sE2_1 | n + 3, hc => absurd hc (by show ¬ n + 3 < 3; omega)
    ex_2 := fun c hc => match c, hc with | 0, _ => exm_mk bE2 iE2 tE2 sE0_2 | 1, _ => exm_mk bE2 iE2 tE2 sE1_2 | 2, _ => exm_mk bE2 iE2 tE2 sE2_2 | n + 3, hc => absurd hc (by show ¬ n + 3 < 3; omega)
    mi_MOST_WORD := ⟨_, m t__MOST_WORD⟩
    mi_MOST_KIND := ⟨_, m t__MOST_KIND⟩
    mi_MOST_DEFINITE := ⟨_, m t__MOST_DEFINITE⟩ }
  exact law_end (Z := Z) (cl := callN 115) (n := 33) (def_okF (Z := Z) (i := 33) (k := 229) (b := b_law (callN 114)) F33 sc33 rfl rfl (fun X W hX xf => d33 Tx hX xf (ft_all Tx Fs 114) (by decide) (by decide))) hlaw
end K32
end
section
set_option Elab.async false
set_option linter.all false
set_option maxRecDepth 100000
namespace DV
open PySem
/-! ### a call's end, where nothing of the caller's is changed -/
theorem oldOk_app (g t : G) : oldOk g (g ++ t) = true := by
  unfold oldOk
  rw [List.all_eq_true]
  intro p hp
  obtain ⟨i, hi⟩ := List.mem_iff_getElem?.mp hp
  rw [List.getElem?_zip_eq_some] at hi
  have hl := (List.getElem?_eq_some_iff.mp hi.1).1
  rw [List.getElem?_append_left hl] at hi
  have : p.1 = p.2 := Option.some.inj (hi.1.symm.trans hi.2)
  simp [this]
theorem gc_app (g t : G) (d : D) (h : d.low g.length = true) : DV.gc g d (g ++ t) = (d, g) := by
  unfold DV.gc
  rw [if_pos (oldOk_app g t), if_pos h]
  simp
theorem Rgc_app (g t : G) (d : D) (h : d.low g.length = true) : R.gc g (.ok d (g ++ t)) = .ok d g := by
  show R.ok (DV.gc g d (g ++ t)).1 (DV.gc g d (g ++ t)).2 = _
  rw [gc_app g t d h]
theorem Rgc_exc (g t : G) (c : Nat) : R.gc g (.exc c .non (g ++ t)) = .exc c .non g := by
  show (if (D.low g.length .non && oldOk g (g ++ t)) = true then R.exc c .non ((g ++ t).take g.length) else _) = _
  rw [oldOk_app]
  simp [D.low]
/-- a def's body that returns -/
theorem body_rt {np n : Nat} {b : Sm} {ds : List D} {g t : G} {d : D} (hn : ds.length = np) (h : b (start n ds) g = .ok (.rt d) (g ++ t)) (hl : d.low g.length = true) : body np n b ds g = .ok d g := by
  unfold body
  rw [if_pos hn, h]
  exact Rgc_app g t d hl
theorem body_rt0 {np n : Nat} {b : Sm} {ds : List D} {g : G} {d : D} (hn : ds.length = np) (h : b (start n ds) g = .ok (.rt d) g) (hl : d.low g.length = true) : body np n b ds g = .ok d g :=
  body_rt (t := []) hn (by rw [List.append_nil]; exact h) hl
theorem body_nx {np n : Nat} {b : Sm} {ds : List D} {g t : G} {δ : Env} (hn : ds.length = np) (h : b (start n ds) g = .ok (.nx δ) (g ++ t)) : body np n b ds g = .ok .non g := by
  unfold body
  rw [if_pos hn, h]
  exact Rgc_app g t .non rfl
theorem body_nx0 {np n : Nat} {b : Sm} {ds : List D} {g : G} {δ : Env} (hn : ds.length = np) (h : b (start n ds) g = .ok (.nx δ) g) : body np n b ds g = .ok .non g :=
  body_nx (t := []) hn (by rw [List.append_nil]; exact h)
theorem body_exc {np n : Nat} {b : Sm} {ds : List D} {g t : G} {c : Nat} {δ : Env} (hn : ds.length = np) (h : b (start n ds) g = .exc c .non δ (g ++ t)) : body np n b ds g = .exc c .non g := by
  unfold body
  rw [if_pos hn, h]
  exact Rgc_exc g t c
theorem body_exc0 {np n : Nat} {b : Sm} {ds : List D} {g : G} {c : Nat} {δ : Env} (hn : ds.length = np) (h : b (start n ds) g = .exc c .non δ g) : body np n b ds g = .exc c .non g :=
  body_exc (t := []) hn (by rw [List.append_nil]; exact h)

/-! ### steps -/
section
variable {a b : Sm} {e e2 : Ex} {es : Exs} {c c2 : Te} {δ δ' : Env} {g g1 g2 : G} {d d2 : D} {ds : List D} {i : Nat} {t : Tg} {it : Ie} {w : It} {k : Bool} {m : Nat} {x : D}
theorem st_nx (h : a δ g = .ok (.nx δ') g1) : Sm.seq a b δ g = b δ' g1 := by show (a δ g).seq b = _; rw [h]; rfl
theorem st_rt (h : a δ g = .ok (.rt d) g1) : Sm.seq a b δ g = .ok (.rt d) g1 := by show (a δ g).seq b = _; rw [h]; rfl
theorem st_exc (h : a δ g = .exc m x δ' g1) : Sm.seq a b δ g = .exc m x δ' g1 := by show (a δ g).seq b = _; rw [h]; rfl
theorem st_bk (h : a δ g = .ok (.bk δ') g1) : Sm.seq a b δ g = .ok (.bk δ') g1 := by show (a δ g).seq b = _; rw [h]; rfl
theorem st_ct (h : a δ g = .ok (.ct δ') g1) : Sm.seq a b δ g = .ok (.ct δ') g1 := by show (a δ g).seq b = _; rw [h]; rfl
theorem st_asg (h : e δ g = .ok d g1) (h2 : t d δ g1 = .ok δ' g2) : Sm.asg t e δ g = .ok (.nx δ') g2 := by show (e δ g).thenS δ _ = _; rw [h]; show (R.hush (t d δ g1)).thenS δ _ = _; rw [h2]; rfl
theorem st_set (h : e δ g = .ok d g1) : Sm.asg (Tg.name i) e δ g = .ok (.nx (δ.set i (some d))) g1 := st_asg h rfl
theorem st_ret (h : e δ g = .ok d g1) : Sm.ret e δ g = .ok (.rt d) g1 := by show (e δ g).thenS δ _ = _; rw [h]; rfl
theorem st_ex (h : e δ g = .ok d g1) : Sm.ex e δ g = .ok (.nx δ) g1 := by show (e δ g).thenS δ _ = _; rw [h]; rfl
theorem st_ite (h : c δ g = .ok k g1) : Sm.ite c a b δ g = if k then a δ g1 else b δ g1 := by show (c δ g).thenS δ _ = _; rw [h]; rfl
theorem st_if (h : c δ g = .ok true g1) : Sm.ite c a b δ g = a δ g1 := by rw [st_ite h]; rfl
theorem st_el (h : c δ g = .ok false g1) : Sm.ite c a b δ g = b δ g1 := by rw [st_ite h]; rfl
theorem st_no (h : c δ g = .ok false g1) : Sm.ite c a Sm.skip δ g = .ok (.nx δ) g1 := by rw [st_ite h]; rfl
theorem st_for (h : it δ g = .ok w g1) : Sm.for it t b δ g = forLoop w t b fuel 0 δ g1 := by show (it δ g).thenS δ _ = _; rw [h]; rfl
theorem st_raise : Sm.raise m (Ex.cst x) δ g = .exc m x δ g := rfl
theorem st_par {j : Nat} (h : e δ g = .ok d g1) (h2 : e2 δ g1 = .ok d2 g2) : Sm.par i j e e2 δ g = .ok (.nx ((δ.set i (some d)).set j (some d2))) g2 := by show (e δ g).thenS δ _ = _; rw [h]; show (e2 δ g1).thenS δ _ = _; rw [h2]; rfl
theorem x_call {cl : Cl} (h : es δ g = .ok ds g1) : Ex.call cl m es δ g = cl m ds g1 := by show (es δ g).bind _ = _; rw [h]; rfl
theorem x_bi {bb : Bi} (h : es δ g = .ok ds g1) : Ex.bi bb es δ g = DV.bi bb ds g1 := by show (es δ g).bind _ = _; rw [h]; rfl
theorem xs_cons (h : e δ g = .ok d g1) (h2 : es δ g1 = .ok ds g2) : exCons e es δ g = .ok (d :: ds) g2 := by show (e δ g).bind _ = _; rw [h]; show (es δ g1).bind _ = _; rw [h2]; rfl
theorem x_bin {o : Op} (h : e δ g = .ok d g1) (h2 : e2 δ g1 = .ok d2 g2) : Ex.bin o e e2 δ g = binop o d d2 g2 := by show (e δ g).bind _ = _; rw [h]; show (e2 δ g1).bind _ = _; rw [h2]; rfl
theorem x_cmp {o : Cmp} (h : e δ g = .ok d g1) (h2 : e2 δ g1 = .ok d2 g2) : Ex.cmp o e e2 δ g = liftO (cmpD o d d2 g2) g2 := by show (e δ g).bind _ = _; rw [h]; show (e2 δ g1).bind _ = _; rw [h2]; rfl
theorem x_idx (h : e δ g = .ok d g1) (h2 : e2 δ g1 = .ok d2 g2) : Ex.idx e e2 δ g = DV.idx d d2 g2 := by show (e δ g).bind _ = _; rw [h]; show (e2 δ g1).bind _ = _; rw [h2]; rfl
theorem x_tup (h : es δ g = .ok ds g1) (hl : ds.length ≤ LINE) : Ex.tup es δ g = .ok (.tup ds) g1 := by show (es δ g).bind _ = _; rw [h]; show (if ds.length ≤ LINE then _ else _) = _; rw [if_pos hl]
theorem x_lst (h : es δ g = .ok ds g1) (hl : ds.length ≤ LINE) : Ex.lst es δ g = .ok (.ref g1.length) (g1 ++ [.lst ds]) := by show (es δ g).bind _ = _; rw [h]; show (if ds.length ≤ LINE then _ else _) = _; rw [if_pos hl]
theorem x_comp {vs : List Nat} (h : it δ g = .ok w g1) (h2 : compLoop w t c e (DV.wipe δ vs) fuel 0 [] g1 = .ok ds g2) : Ex.comp vs it t c e δ g = .ok (.ref g2.length) (g2 ++ [.lst ds]) := by show (it δ g).bind _ = _; rw [h]; show (R.hush (compLoop w t c e (DV.wipe δ vs) fuel 0 [] g1)).bind _ = _; rw [h2]; rfl
theorem x_and (h : e δ g = .ok (.bl k) g1) : Ex.and e e2 δ g = if k then e2 δ g1 else .ok (.bl false) g1 := by show (e δ g).bind _ = _; rw [h]; cases k <;> rfl
theorem x_or (h : e δ g = .ok (.bl k) g1) : Ex.or e e2 δ g = if k then .ok (.bl true) g1 else e2 δ g1 := by show (e δ g).bind _ = _; rw [h]; cases k <;> rfl
theorem x_not (h : e δ g = .ok (.bl k) g1) : Ex.not e δ g = .ok (.bl (!k)) g1 := by show (e δ g).bind _ = _; rw [h]; rfl
theorem t_ex (h : e δ g = .ok (.bl k) g1) : Te.ex e δ g = .ok k g1 := by show (e δ g).bind _ = _; rw [h]; rfl
theorem t_not (h : c δ g = .ok k g1) : Te.not c δ g = .ok (!k) g1 := by show (c δ g).bind _ = _; rw [h]; rfl
theorem t_and (h : c δ g = .ok k g1) : Te.and c c2 δ g = if k then c2 δ g1 else .ok false g1 := by show (c δ g).bind _ = _; rw [h]; rfl
theorem t_or (h : c δ g = .ok k g1) : Te.or c c2 δ g = if k then .ok true g1 else c2 δ g1 := by show (c δ g).bind _ = _; rw [h]; rfl
theorem x_ite (h : c δ g = .ok k g1) : Ex.ite c e e2 δ g = if k then e δ g1 else e2 δ g1 := by show (c δ g).bind _ = _; rw [h]; rfl
end

/-! ### loops -/
theorem comp_steps {it : It} {xs : List D} {tg : Tg} {c : Te} {e : Ex} {δ : Env} (P : Nat → List D → G → Prop) (hit : ∀ i acc g, P i acc g → it.at i g = some xs[i]?)
    (step : ∀ i x acc g, xs[i]? = some x → P i acc g → ∃ δ' g1, tg x δ g = .ok δ' g1 ∧ ((∃ g2, c δ' g1 = .ok false g2 ∧ P (i + 1) acc g2) ∨ ∃ g2 y g3, c δ' g1 = .ok true g2 ∧ e δ' g2 = .ok y g3 ∧ acc.length < LINE ∧ P (i + 1) (acc ++ [y]) g3)) :
    ∀ n i acc g, P i acc g → i ≤ xs.length → xs.length - i < n → ∃ acc' g', compLoop it tg c e δ n i acc g = .ok acc' g' ∧ P xs.length acc' g'
  | 0, i, acc, g, _, _, h => absurd h (Nat.not_lt_zero _)
  | n + 1, i, acc, g, hP, hi, h => by
    rw [compLoop, hit i acc g hP]
    by_cases hl : i < xs.length
    · rw [List.getElem?_eq_getElem hl]
      obtain ⟨δ', g1, h1, h2⟩ := step i xs[i] acc g (List.getElem?_eq_getElem hl) hP
      dsimp only
      rw [h1, R.bind_ok]
      rcases h2 with ⟨g2, h3, h4⟩ | ⟨g2, y, g3, h3, h4, h5, h6⟩
      · rw [h3, R.bind_ok, if_neg (by decide)]
        exact comp_steps P hit step n (i + 1) acc g2 h4 hl (by omega)
      · rw [h3, R.bind_ok, if_pos rfl, h4, R.bind_ok, if_pos h5]
        exact comp_steps P hit step n (i + 1) _ g3 h6 hl (by omega)
    · have : i = xs.length := by omega
      subst this
      rw [List.getElem?_eq_none (Nat.le_refl _)]
      exact ⟨acc, g, rfl, hP⟩
/-- .. each item's value told, the state as it was -/
theorem comp_pure {it : It} {xs : List D} {tg : Tg} {e : Ex} {δ : Env} {g : G} {δ' : D → Env} (f : D → D) (hit : ∀ i, it.at i g = some xs[i]?) (ht : ∀ x ∈ xs, tg x δ g = .ok (δ' x) g) (he : ∀ x ∈ xs, e (δ' x) g = .ok (f x) g) (hl : xs.length ≤ LINE) :
    compLoop it tg Te.tt e δ fuel 0 [] g = .ok (xs.map f) g := by
  obtain ⟨acc', g', h, h1, h2⟩ := comp_steps (c := Te.tt) (e := e) (tg := tg) (δ := δ) (fun i acc g' => acc = (xs.take i).map f ∧ g' = g) (fun i acc g' h => by rw [h.2]; exact hit i) (fun i x acc g' hx h => by
    obtain ⟨rfl, rfl⟩ := h
    have hm := List.mem_of_getElem? hx
    have hi := (List.getElem?_eq_some_iff.mp hx).1
    refine ⟨δ' x, g', ht x hm, .inr ⟨g', f x, g', rfl, he x hm, by simp; omega, ?_, rfl⟩⟩
    rw [List.take_add_one, hx]
    simp) fuel 0 [] g ⟨rfl, rfl⟩ (Nat.zero_le _) (by unfold fuel; unfold LINE at hl; omega)
  rw [h, h1, h2, List.take_length]
/-- .. with a test -/
theorem comp_filter {it : It} {xs : List D} {tg : Tg} {c : Te} {e : Ex} {δ : Env} {g : G} {δ' : D → Env} (p : D → Bool) (f : D → D) (hit : ∀ i, it.at i g = some xs[i]?) (ht : ∀ x ∈ xs, tg x δ g = .ok (δ' x) g) (hc : ∀ x ∈ xs, c (δ' x) g = .ok (p x) g) (he : ∀ x ∈ xs, p x = true → e (δ' x) g = .ok (f x) g) (hl : xs.length ≤ LINE) :
    compLoop it tg c e δ fuel 0 [] g = .ok ((xs.filter p).map f) g := by
  obtain ⟨acc', g', h, h1, h2⟩ := comp_steps (c := c) (e := e) (tg := tg) (δ := δ) (fun i acc g' => acc = ((xs.take i).filter p).map f ∧ g' = g) (fun i acc g' h => by rw [h.2]; exact hit i) (fun i x acc g' hx h => by
    obtain ⟨rfl, rfl⟩ := h
    have hm := List.mem_of_getElem? hx
    have hi := (List.getElem?_eq_some_iff.mp hx).1
    refine ⟨δ' x, g', ht x hm, ?_⟩
    cases hp : p x with
    | false =>
      refine .inl ⟨g', by rw [hc x hm, hp], ?_, rfl⟩
      rw [List.take_add_one, hx]
      simp [hp]
    | true =>
      refine .inr ⟨g', f x, g', by rw [hc x hm, hp], he x hm hp, ?_, ?_, rfl⟩
      · have := List.length_filter_le p (xs.take i)
        simp at this ⊢
        omega
      · rw [List.take_add_one, hx]
        simp [hp]) fuel 0 [] g ⟨rfl, rfl⟩ (Nat.zero_le _) (by unfold fuel; unfold LINE at hl; omega)
  rw [h, h1, h2, List.take_length]
theorem for_steps {it : It} {xs : List D} {tg : Tg} {b : Sm} (P : Nat → Env → G → Prop) (Q : RS → Prop) (hit : ∀ i δ g, P i δ g → it.at i g = some xs[i]?)
    (step : ∀ i x δ g, xs[i]? = some x → P i δ g → ∃ δ1 g1, tg x δ g = .ok δ1 g1 ∧ ((∃ δ' g', (b δ1 g1 = .ok (.nx δ') g' ∨ b δ1 g1 = .ok (.ct δ') g') ∧ P (i + 1) δ' g') ∨ (∃ δ' g', b δ1 g1 = .ok (.bk δ') g' ∧ Q (.ok (.nx δ') g')) ∨ (∃ d g', b δ1 g1 = .ok (.rt d) g' ∧ Q (.ok (.rt d) g'))))
    (fin : ∀ δ g, P xs.length δ g → Q (.ok (.nx δ) g)) : ∀ n i δ g, P i δ g → i ≤ xs.length → xs.length - i < n → Q (forLoop it tg b n i δ g)
  | 0, i, δ, g, _, _, h => absurd h (Nat.not_lt_zero _)
  | n + 1, i, δ, g, hP, hi, h => by
    rw [forLoop, hit i δ g hP]
    by_cases hl : i < xs.length
    · rw [List.getElem?_eq_getElem hl]
      obtain ⟨δ1, g1, h1, h2⟩ := step i xs[i] δ g (List.getElem?_eq_getElem hl) hP
      dsimp only
      rw [h1, R.hush_ok, R.thenS_ok]
      rcases h2 with ⟨δ', g', h3 | h3, h4⟩ | ⟨δ', g', h3, h4⟩ | ⟨d, g', h3, h4⟩
      · rw [h3]; exact for_steps P Q hit step fin n (i + 1) δ' g' h4 hl (by omega)
      · rw [h3]; exact for_steps P Q hit step fin n (i + 1) δ' g' h4 hl (by omega)
      · rw [h3]; exact h4
      · rw [h3]; exact h4
    · have : i = xs.length := by omega
      subst this
      rw [List.getElem?_eq_none (Nat.le_refl _)]
      exact fin δ g hP
theorem while_steps {c : Te} {b : Sm} (P : Nat → Env → G → Prop) (Q : RS → Prop)
    (step : ∀ m δ g, P m δ g → ∃ k g1, c δ g = .ok k g1 ∧ ((k = false ∧ Q (.ok (.nx δ) g1)) ∨ (k = true ∧ ((∃ δ' g' m', (b δ g1 = .ok (.nx δ') g' ∨ b δ g1 = .ok (.ct δ') g') ∧ m' < m ∧ P m' δ' g') ∨ (∃ δ' g', b δ g1 = .ok (.bk δ') g' ∧ Q (.ok (.nx δ') g')) ∨ (∃ d g', b δ g1 = .ok (.rt d) g' ∧ Q (.ok (.rt d) g')) ∨ ∃ e x δ' g', b δ g1 = .exc e x δ' g' ∧ Q (.exc e x δ' g'))))) :
    ∀ n m δ g, P m δ g → m < n → Q (whileLoop c b n δ g)
  | 0, m, δ, g, _, h => absurd h (Nat.not_lt_zero _)
  | n + 1, m, δ, g, hP, h => by
    rw [whileLoop]
    obtain ⟨k, g1, h1, h2⟩ := step m δ g hP
    rw [h1, R.thenS_ok]
    rcases h2 with ⟨rfl, h2⟩ | ⟨rfl, h2⟩
    · exact h2
    · rw [if_pos rfl]
      rcases h2 with ⟨δ', g', m', h3 | h3, h4, h5⟩ | ⟨δ', g', h3, h4⟩ | ⟨d, g', h3, h4⟩ | ⟨e, x, δ', g', h3, h4⟩
      · rw [h3]; exact while_steps P Q step n m' δ' g' h5 (by omega)
      · rw [h3]; exact while_steps P Q step n m' δ' g' h5 (by omega)
      · rw [h3]; exact h4
      · rw [h3]; exact h4
      · rw [h3]; exact h4

/-! ### data as a tree -/
/-- data: no more than n deep, nothing long -/
def dat : Nat → G → D → Bool
  | 0, _, _ => false
  | n + 1, g, d => match d with
    | .non => true
    | .bl _ => true
    | .int _ => true
    | .str s => PyData.canLay0 (.str s) && decide (s.length ≤ 4096)
    | .tup xs => decide (xs.length ≤ 4096) && xs.all (dat n g)
    | .ref k => match g[k]? with
      | some (.lst xs) => decide (xs.length ≤ 4096) && xs.all (dat n g)
      | _ => false
    | .rol ns => decide (ns.length ≤ 4096)
    | _ => false
mutual
def sn : Nat → G → D → PyData
  | 0, _, _ => .none
  | n + 1, g, d => match d with
    | .bl b => .bool b
    | .int i => .int i
    | .str s => .str s
    | .tup xs => .tuple (xs.map (sn n g))
    | .ref k => match g[k]? with
      | some (.lst xs) => .list (xs.map (sn n g))
      | _ => .none
    | .rol ns => .list (ns.map .int)
    | _ => .none
end
theorem mapM_some {α β : Type} {f : α → Option β} {h : α → β} : ∀ {xs : List α}, (∀ x ∈ xs, f x = some (h x)) → xs.mapM f = some (xs.map h)
  | [], _ => rfl
  | x :: xs, H => by
    rw [List.mapM_cons, H x List.mem_cons_self, mapM_some fun y hy => H y (List.mem_cons_of_mem _ hy)]
    rfl
end DV
end
section
set_option Elab.async false
set_option linter.all false
set_option maxRecDepth 100000
namespace DV
open PySem
mutual
/-- a value without changing parts, as data -/
def tr : D → PyData
  | .bl b => .bool b
  | .int i => .int i
  | .str s => .str s
  | .tup xs => .tuple (trs xs)
  | _ => .none
def trs : List D → List PyData
  | [] => []
  | x :: xs => tr x :: trs xs
end
theorem trs_map : ∀ xs : List D, trs xs = xs.map tr
  | [] => rfl
  | x :: xs => by rw [trs, trs_map xs]; rfl
/-- .. not more than n deep, nothing long -/
def tree : Nat → D → Bool
  | 0, _ => false
  | n + 1, d => match d with
    | .non => true
    | .bl _ => true
    | .int _ => true
    | .str s => PyData.canLay0 (.str s) && decide (s.length ≤ 4096)
    | .tup xs => decide (xs.length ≤ 4096) && xs.all (tree n)
    | _ => false
theorem tree_mono : ∀ {n m : Nat} {d : D}, tree n d = true → n ≤ m → tree m d = true
  | 0, _, _, h, _ => by cases h
  | n + 1, m, d, h, hm => by
    obtain ⟨m, rfl⟩ : ∃ k, m = k + 1 := ⟨m - 1, by omega⟩
    cases d with
    | tup xs =>
      simp only [tree, Bool.and_eq_true, List.all_eq_true] at h ⊢
      exact ⟨h.1, fun x hx => tree_mono (h.2 x hx) (by omega)⟩
    | _ => exact h
theorem snap_tree (g : G) : ∀ {n m : Nat} {d : D}, tree n d = true → n ≤ m → snap m g d = some (tr d)
  | 0, _, _, h, _ => by cases h
  | n + 1, m, d, h, hm => by
    obtain ⟨m, rfl⟩ : ∃ k, m = k + 1 := ⟨m - 1, by omega⟩
    cases d with
    | tup xs =>
      simp only [tree, Bool.and_eq_true, List.all_eq_true] at h
      simp only [snap, tr]
      rw [mapM_some (h := tr) fun x hx => snap_tree g (h.2 x hx) (by omega), trs_map]
      rfl
    | str s =>
      simp only [tree, Bool.and_eq_true] at h
      simp only [snap, tr, h.1, if_true]
    | non => rfl
    | bl b => rfl
    | int i => rfl
    | _ => cases h
mutual
theorem tree_low (k : Nat) : ∀ {n : Nat} {d : D}, tree n d = true → d.low k = true
  | 0, _, h => by cases h
  | n + 1, d, h => by
    cases d with
    | tup xs =>
      simp only [tree, Bool.and_eq_true, List.all_eq_true] at h
      rw [D.low]
      exact trees_low k (n := n) h.2
    | ref _ => cases h
    | exc _ _ => cases h
    | _ => rfl
theorem trees_low (k : Nat) : ∀ {n : Nat} {xs : List D}, (∀ x ∈ xs, tree n x = true) → D.lows k xs = true
  | n, [], _ => rfl
  | n, x :: xs, h => by
    rw [D.lows, Bool.and_eq_true]
    exact ⟨tree_low k (h x List.mem_cons_self), trees_low k fun y hy => h y (List.mem_cons_of_mem _ hy)⟩
end
theorem lows_ints (k : Nat) : ∀ ns : List Int, D.lows k (ns.map .int) = true
  | [] => rfl
  | n :: ns => by rw [List.map_cons, D.lows, lows_ints k ns]; rfl

/-! ### comparisons told -/
theorem snap_int (g : G) (i : Int) : snap 64 g (.int i) = some (.int i) := rfl
theorem snap_bl (g : G) (i : Bool) : snap 64 g (.bl i) = some (.bool i) := rfl
theorem eqG_int (g : G) (i j : Int) : eqG g (.int i) (.int j) = some (decide (i = j)) := by
  simp only [eqG, unlikeLen, snap_int]
  show some (PyData.eqv (.int i) (.int j)) = _
  simp only [PyData.eqv]
  rfl
theorem neG_int (g : G) (i j : Int) : neG g (.int i) (.int j) = some (!decide (i = j)) := by
  simp only [neG, snap_int]
  show some (!PyData.eqv (.int i) (.int j)) = _
  simp only [PyData.eqv]
  rfl
theorem neG_bl (g : G) (i j : Bool) : neG g (.bl i) (.bl j) = some (!(i == j)) := by
  simp only [neG, snap_bl]
  show some (!PyData.eqv (.bool i) (.bool j)) = _
  simp only [PyData.eqv]
theorem eqG_bl (g : G) (i j : Bool) : eqG g (.bl i) (.bl j) = some (i == j) := by
  simp only [eqG, unlikeLen, snap_bl]
  show some (PyData.eqv (.bool i) (.bool j)) = _
  simp only [PyData.eqv]
theorem eqG_self {n : Nat} {d : D} (g : G) (h : tree n d = true) (hn : n ≤ 64) (hu : unlikeLen g d d = false) (hl : (tr d).canLay0 = true) : eqG g d d = some true := by
  unfold eqG
  rw [hu, snap_tree g h hn]
  show some (PyData.eqv (tr d) (tr d)) = _
  rw [PySem.SeqAt.eqv_refl _ hl]
theorem neG_str (g : G) {n : Nat} {d : D} {s : Str} (h : tree n d = true) (hn : n ≤ 64) (hs : PyData.canLay0 (.str s) = true) : neG g d (.str s) = some (!decide (d = .str s)) := by
  have e : snap 64 g (.str s) = some (.str s) := by show (if _ then _ else _) = _; rw [if_pos hs]
  unfold neG
  rw [snap_tree g h hn, e]
  dsimp only
  cases d with
  | str t =>
    simp only [tr, PyData.eqv]
    by_cases q : t = s
    · subst q; simp
    · simp [q]
  | tup xs => simp [tr, PyData.eqv]
  | _ => simp [tr, PyData.eqv]
theorem memG_ints (g : G) (i : Int) (ns : List Int) : memG g (.int i) (ns.map .int) = some (ns.contains i) := by
  unfold memG
  have : (ns.map D.int).mapM (snap 64 g) = some ((ns.map D.int).map tr) := mapM_some fun x hx => by
    obtain ⟨n, _, rfl⟩ := List.mem_map.mp hx
    rfl
  rw [this, snap_int]
  dsimp only
  congr 1
  rw [List.map_map, List.any_map]
  induction ns with
  | nil => rfl
  | cons n ns ih =>
    rw [List.any_cons, List.contains_cons]
    rw [ih]
    · simp only [Function.comp, tr, PyData.eqv]
      rw [show (n == i) = (i == n) from by rw [Bool.eq_iff_iff]; simp; exact eq_comm]
    · exact mapM_some fun x hx => by
        obtain ⟨n, _, rfl⟩ := List.mem_map.mp hx
        rfl
theorem allG_bls (g : G) (bs : List Bool) : allG g (bs.map .bl) = some (bs.all id) := by
  have : (bs.map D.bl).mapM (snap 64 g) = some (bs.map PyData.bool) := by
    rw [mapM_some (h := tr) fun x hx => by
      obtain ⟨n, _, rfl⟩ := List.mem_map.mp hx
      rfl]
    rw [List.map_map]; rfl
  have p1 : (bs.map PyData.bool).all okT = true := by
    rw [List.all_eq_true]
    intro x hx
    obtain ⟨n, _, rfl⟩ := List.mem_map.mp hx
    rfl
  have p2 : PyData.plainAll (bs.map PyData.bool) = true := by
    induction bs with
    | nil => rfl
    | cons b bs ih =>
      rw [List.map_cons, PyData.plainAll, ih]
      · rfl
      · exact by
          rw [mapM_some (h := tr) fun x hx => by
            obtain ⟨n, _, rfl⟩ := List.mem_map.mp hx
            rfl]
          rw [List.map_map]; rfl
      · rw [List.all_eq_true]
        intro x hx
        obtain ⟨n, _, rfl⟩ := List.mem_map.mp hx
        rfl
  unfold allG
  rw [this]
  dsimp only
  rw [p1, p2]
  simp only [Bool.and_true, if_true]
  congr 1
  rw [List.all_map]
  rfl
theorem plainAll_ints : ∀ ns : List Int, PyData.plainAll (ns.map PyData.int) = true
  | [] => rfl
  | n :: ns => by rw [List.map_cons, PyData.plainAll, plainAll_ints ns]; rfl
theorem anyG_ints (g : G) (ns : List Int) : anyG g (ns.map .int) = some (ns.any fun i => i != 0) := by
  have : (ns.map D.int).mapM (snap 64 g) = some (ns.map PyData.int) := by
    rw [mapM_some (h := tr) fun x hx => by
      obtain ⟨n, _, rfl⟩ := List.mem_map.mp hx
      rfl]
    rw [List.map_map]; rfl
  have p1 : (ns.map PyData.int).all okT = true := by
    rw [List.all_eq_true]
    intro x hx
    obtain ⟨n, _, rfl⟩ := List.mem_map.mp hx
    rfl
  unfold anyG
  rw [this]
  dsimp only
  rw [p1, plainAll_ints]
  simp only [Bool.and_true, if_true]
  congr 1
  rw [List.any_map]
  rfl

/-! ### the tape -/
def TapeAt (t c : Nat) (g : G) : Prop := t ≠ c ∧ ∃ (cs : List Int) (s : Int), g[t]? = some (.lst [.ref c, .int s]) ∧ g[c]? = some (.lst (cs.map .int)) ∧ cs.length ≤ 63
/-- but for the tape all is as it was, and there may be more -/
structure Ts (t c : Nat) (g g' : G) : Prop where
  tp : TapeAt t c g'
  len : g.length ≤ g'.length
  old : ∀ i, i < g.length → i ≠ t → i ≠ c → g'[i]? = g[i]?
theorem Ts.refl {t c : Nat} {g : G} (h : TapeAt t c g) : Ts t c g g := ⟨h, Nat.le_refl _, fun _ _ _ _ => rfl⟩
theorem Ts.trans {t c : Nat} {g g1 g2 : G} (a : Ts t c g g1) (b : Ts t c g1 g2) : Ts t c g g2 :=
  ⟨b.tp, Nat.le_trans a.len b.len, fun i hi h1 h2 => (b.old i (Nat.lt_of_lt_of_le hi a.len) h1 h2).trans (a.old i hi h1 h2)⟩
theorem TapeAt.lt {t c : Nat} {g : G} (h : TapeAt t c g) : t < g.length ∧ c < g.length := by
  obtain ⟨_, cs, s, h1, h2, _⟩ := h
  exact ⟨(List.getElem?_eq_some_iff.mp h1).1, (List.getElem?_eq_some_iff.mp h2).1⟩
theorem TapeAt.app {t c : Nat} {g : G} (h : TapeAt t c g) (x : G) : TapeAt t c (g ++ x) := by
  obtain ⟨l1, l2⟩ := h.lt
  obtain ⟨hne, cs, s, h1, h2, h3⟩ := h
  exact ⟨hne, cs, s, by rw [List.getElem?_append_left l1]; exact h1, by rw [List.getElem?_append_left l2]; exact h2, h3⟩
theorem Ts.app {t c : Nat} {g g' : G} (h : Ts t c g g') (x : G) : Ts t c g (g' ++ x) :=
  ⟨h.tp.app x, by rw [List.length_append]; have := h.len; omega, fun i hi h1 h2 => by rw [List.getElem?_append_left (Nat.lt_of_lt_of_le hi h.len)]; exact h.old i hi h1 h2⟩
theorem TapeAt.take {t c n : Nat} {g : G} (h : TapeAt t c g) (h1 : t < n) (h2 : c < n) : TapeAt t c (g.take n) := by
  obtain ⟨hne, cs, s, h3, h4, h5⟩ := h
  exact ⟨hne, cs, s, by rw [List.getElem?_take_of_lt h1]; exact h3, by rw [List.getElem?_take_of_lt h2]; exact h4, h5⟩
theorem Ts.cut {t c : Nat} {g g' : G} (h0 : TapeAt t c g) (h : Ts t c g g') : Ts t c g (g'.take g.length) :=
  ⟨h.tp.take h0.lt.1 h0.lt.2, by rw [List.length_take]; have := h.len; omega, fun i hi h1 h2 => by rw [List.getElem?_take_of_lt hi]; exact h.old i hi h1 h2⟩
theorem Ts.oldOk {t c : Nat} {g g' : G} (h0 : TapeAt t c g) (h : Ts t c g g') : oldOk g g' = true := by
  unfold DV.oldOk
  rw [List.all_eq_true]
  intro p hp
  obtain ⟨i, hi⟩ := List.mem_iff_getElem?.mp hp
  rw [List.getElem?_zip_eq_some] at hi
  have hl := (List.getElem?_eq_some_iff.mp hi.1).1
  rw [Bool.or_eq_true, decide_eq_true_eq]
  obtain ⟨hne, cs, s, h1, h2, _⟩ := h.tp
  by_cases e1 : i = t
  · subst e1
    right
    rw [h1] at hi
    rw [← Option.some.inj hi.2]
    have := h0.lt.2
    simp [O.low, D.lows, D.low, this]
  · by_cases e2 : i = c
    · subst e2
      right
      rw [h2] at hi
      rw [← Option.some.inj hi.2]
      exact lows_ints _ cs
    · left
      rw [h.old i hl e1 e2] at hi
      exact Option.some.inj (hi.1.symm.trans hi.2)
/-- a def's body that draws, and returns a value without changing parts -/
theorem body_tape {np n t c : Nat} {b : Sm} {ds : List D} {g g' : G} {d : D} (h0 : TapeAt t c g) (hn : ds.length = np) (h : b (start n ds) g = .ok (.rt d) g') (hT : Ts t c g g') (hl : d.low g.length = true) : ∃ g'', body np n b ds g = .ok d g'' ∧ Ts t c g g'' ∧ g''.length = g.length := by
  refine ⟨g'.take g.length, ?_, hT.cut h0, by rw [List.length_take]; have := hT.len; omega⟩
  unfold body
  rw [if_pos hn, h]
  show R.ok (DV.gc g d g').1 (DV.gc g d g').2 = _
  unfold DV.gc
  rw [if_pos (hT.oldOk h0), if_pos hl]
end DV
end
section
set_option Elab.async false
set_option linter.all false
set_option maxRecDepth 100000
namespace DV
open PySem
local macro_rules | `(tactic| trivial) => `(tactic| simp (config := { decide := true }) only [start, List.map, List.length, List.replicate, List.append, List.cons_append, List.nil_append, Nat.sub_self, Nat.reduceSub, Nat.reduceAdd, List.append_nil, Sm.seq, Sm.ite, Sm.ret, Sm.asg, Sm.skip, Sm.ex, Sm.par, Sm.raise, Tg.name, Te.ex, Te.and, Te.or, Te.not, Te.tt, Ex.loc, Ex.cst, Ex.bin, binop, Ex.and, Ex.or, Ex.not, Ex.isi, Ex.isi2, Ex.cmp, Ex.chain, Ex.ite, Ex.call, exNil, exCons, Ex.bi, bi, Ex.tup, Ex.lst, Ty.is, isTy, liftO, truth, cmpD, Bool.not_true, Bool.not_false, Bool.or_false, Bool.or_true, Bool.false_or, Bool.true_or, Option.bind_some, Option.map_some, List.getElem?_cons_succ, List.getElem?_cons_zero, List.set_cons_succ, List.set_cons_zero, R.bind_ok, R.thenS_ok, R.thenS_exc, R.hush_ok, RS.seq_nx, RS.seq_rt, RS.seq_exc, if_true, if_false, Bool.false_eq_true])
/-! ### is_integer -/
def bG_isint (cl : Cl) : Sm :=
  (.ret (.and (.isi (.loc 0) .int) (.and (.not (.isi (.loc 0) .bool)) (.chain .le .le (.loc 1) (.loc 0) (.loc 2)))))
/-- a whole number from lo to hi -/
def isInt (lo hi : Int) : D → Bool
  | .int i => decide (lo ≤ i) && decide (i ≤ hi)
  | _ => false
/-- its type is told -/
def tyOk (g : G) (d : D) : Bool := (isTy g .int d).isSome
theorem isint_spec {cl : Cl} {g : G} {v : D} {lo hi : Int} (h : tyOk g v = true) : body 3 3 (bG_isint cl) [v, .int lo, .int hi] g = .ok (.bl (isInt lo hi v)) g := by
  refine body_rt0 rfl ?_ rfl
  unfold bG_isint
  cases v with
  | int i =>
    trivial
    by_cases h1 : lo ≤ i
    · simp [h1, isInt]
    · simp [h1, isInt]
  | ref n =>
    simp only [tyOk, isTy] at h
    cases e : g[n]? with
    | none => rw [e] at h; cases h
    | some o => cases o with
      | lst xs => trivial; simp [e, isInt]
      | _ => rw [e] at h; cases h
  | fn n => cases h
  | exc c x => cases h
  | _ => trivial; simp [isInt]
theorem tyOk_tree {n : Nat} {d : D} {g : G} (h : tree n d = true) : tyOk g d = true := by
  cases n with
  | zero => cases h
  | succ n => cases d <;> first | rfl | cases h

/-! ### _law_draw -/
def bG_draw (cl : Cl) : Sm :=
  (.seq (.asg (.name 2) (.idx (.loc 0) (.cst (.int 0))))
  (.seq (.while (.and (.ex (.cmp .gt (.bi .len (exCons (.loc 2) exNil)) (.cst (.int 0)))) (.ex (.cmp .eq (.idx (.loc 2) (.cst (.int 0))) (.cst (.int 0))))) (.ex (.mth .popAt (.loc 2) (exCons (.cst (.int 0)) exNil))))
  (.seq (.ite (.ex (.cmp .gt (.bi .len (exCons (.loc 2) exNil)) (.cst (.int 0)))) (.seq (.asg (.name 3) (.idx (.loc 2) (.cst (.int 0))))
  (.seq (.asg (.sub (.loc 2) (.cst (.int 0))) (.bin .fdiv (.loc 3) (.loc 1)))
  (.ret (.bin .mod (.bi .int (exCons (.loc 3) exNil)) (.loc 1))))) .skip)
  (.seq (.asg (.sub (.loc 0) (.cst (.int 1))) (.bin .mod (.bi .int (exCons (.bin .add (.bin .mul (.idx (.loc 0) (.cst (.int 1))) (.cst (.int 48271))) (.cst (.int 12345))) exNil)) (.cst (.int 2147483647))))
  (.ret (.bin .mod (.bi .int (exCons (.bin .fdiv (.idx (.loc 0) (.cst (.int 1))) (.cst (.int 64))) exNil)) (.loc 1)))))))
theorem Rgc_len {g g' : G} {d : D} (hl : g'.length = g.length) (h : d.low g.length = true) : R.gc g (.ok d g') = .ok d g' := by
  show R.ok (DV.gc g d g').1 (DV.gc g d g').2 = _
  unfold DV.gc
  split
  · simp only [h, if_true]
    rw [← hl, List.take_length]
  · rfl
theorem ix0 (x : D) (xs : List D) : atI (x :: xs) 0 = some x := by
  unfold atI ixN
  simp
theorem ixN0 {α : Type} (x : α) (xs : List α) : ixN (x :: xs).length 0 = some 0 := by
  unfold ixN
  simp
theorem draw_spec {cl : Cl} {t c : Nat} {g : G} {many : Int} (h0 : TapeAt t c g) (h1 : 1 ≤ many) (h2 : many < 2 ^ 60) :
    ∃ (k : Int) (g' : G), body 2 4 (bG_draw cl) [.ref t, .int many] g = .ok (.int k) g' ∧ 0 ≤ k ∧ k < many ∧ Ts t c g g' ∧ g'.length = g.length := by
  obtain ⟨hne, cs, s, e1, e2, hl⟩ := id h0
  obtain ⟨lt, lc⟩ := h0.lt
  have hlog : many.natAbs.log2 < 9000 := by
    have q : many.natAbs.log2 < 60 := by
      rw [Nat.log2_lt (by omega)]; omega
    omega
  have hpos : 0 < many := by omega
  -- what the body comes to
  have key : ∃ (k : Int) (g' : G), bG_draw cl (start 4 [.ref t, .int many]) g = .ok (.rt (.int k)) g' ∧ 0 ≤ k ∧ k < many ∧ Ts t c g g' ∧ g'.length = g.length := by
    -- the loop
    have loop : ∃ cs' : List Int, cs'.length ≤ 63 ∧ Sm.while (.and (.ex (.cmp .gt (.bi .len (exCons (.loc 2) exNil)) (.cst (.int 0)))) (.ex (.cmp .eq (.idx (.loc 2) (.cst (.int 0))) (.cst (.int 0))))) (.ex (.mth .popAt (.loc 2) (exCons (.cst (.int 0)) exNil))) [some (.ref t), some (.int many), some (.ref c), none] g =
        .ok (.nx [some (.ref t), some (.int many), some (.ref c), none]) (g.set c (.lst (cs'.map .int))) := by
      refine while_steps (P := fun m δ g' => ∃ cs' : List Int, cs'.length ≤ 63 ∧ cs'.length = m ∧ δ = [some (.ref t), some (.int many), some (.ref c), none] ∧ g' = g.set c (.lst (cs'.map .int)))
        (Q := fun r => ∃ cs' : List Int, cs'.length ≤ 63 ∧ r = .ok (.nx [some (.ref t), some (.int many), some (.ref c), none]) (g.set c (.lst (cs'.map .int)))) ?_ fuel cs.length _ g ⟨cs, hl, rfl, rfl, ?_⟩ (by unfold fuel; omega)
      · rintro m δ g' ⟨cs', hl', rfl, rfl, rfl⟩
        have ec : (g.set c (.lst (cs'.map D.int)))[c]? = some (.lst (cs'.map .int)) := List.getElem?_set_self lc
        cases cs' with
        | nil =>
          refine ⟨false, g.set c (.lst []), ?_, .inl ⟨rfl, [], by simp, rfl⟩⟩
          trivial
          simp only [List.map_nil] at ec
          simp [ec, lenD]
        | cons x r =>
          have hc : ∀ b, decide (x = 0) = b → Te.and (.ex (.cmp .gt (.bi .len (exCons (.loc 2) exNil)) (.cst (.int 0)))) (.ex (.cmp .eq (.idx (.loc 2) (.cst (.int 0))) (.cst (.int 0)))) [some (.ref t), some (.int many), some (.ref c), none] (g.set c (.lst ((x :: r).map .int))) = .ok b (g.set c (.lst ((x :: r).map .int))) := by
            intro b hb
            trivial
            rw [List.map_cons] at ec
            simp only [lenD, Ex.idx, DV.idx, ec, ix0, oD, List.map_cons, R.bind_ok, eqG_int, hb, Ex.loc, Ex.cst, List.length_cons]
            simp [ec, ix0, oD, eqG_int, hb, truth]
          by_cases hx : x = 0
          · subst hx
            refine ⟨true, g.set c (.lst ((0 :: r).map .int)), hc true rfl, .inr ⟨rfl, .inl ⟨[some (.ref t), some (.int many), some (.ref c), none], g.set c (.lst (r.map .int)), r.length, .inl ?_, by simp, r, by simp at hl'; omega, rfl, rfl, rfl⟩⟩⟩
            trivial
            rw [List.map_cons] at ec
            simp [Ex.mth, isL, Mt.onLst, ec, DV.mth, ixN, Ex.loc, Ex.cst, exCons, exNil, Sm.ex]
          · exact ⟨false, g.set c (.lst ((x :: r).map .int)), hc false (decide_eq_false hx), .inl ⟨rfl, x :: r, hl', rfl⟩⟩
      · have : g.set c (.lst (cs.map .int)) = g := by
          rw [← (List.getElem?_eq_some_iff.mp e2).2]
          simp
        rw [this]
    obtain ⟨cs', hl', hw⟩ := loop
    have ec : (g.set c (.lst (cs'.map D.int)))[c]? = some (.lst (cs'.map .int)) := List.getElem?_set_self lc
    have et : (g.set c (.lst (cs'.map D.int)))[t]? = some (.lst [.ref c, .int s]) := by rw [List.getElem?_set_ne (Ne.symm hne)]; exact e1
    cases cs' with
    | nil =>
      refine ⟨(((s * 48271 + 12345) % 2147483647) / 64) % many, (g.set c (.lst [])).set t (.lst [.ref c, .int ((s * 48271 + 12345) % 2147483647)]), ?_, Int.emod_nonneg _ (by omega), Int.emod_lt_of_pos _ hpos, ⟨⟨hne, [], _, List.getElem?_set_self (by simpa using lt), ?_, by simp⟩, by simp, fun i hi h3 h4 => ?_⟩, by simp⟩
      · unfold bG_draw
        rw [show start 4 [D.ref t, D.int many] = [some (.ref t), some (.int many), none, none] from rfl]
        rw [st_nx (st_set (d := .ref c) (g1 := g) (by simp [Ex.idx, Ex.loc, Ex.cst, DV.idx, e1, ix0, oD]))]
        rw [show [some (D.ref t), some (D.int many), none, none].set 2 (some (D.ref c)) = [some (.ref t), some (.int many), some (.ref c), none] from rfl]
        rw [st_nx hw]
        simp only [List.map_nil] at ec et
        rw [st_nx (st_no (g1 := g.set c (.lst [])) (t_ex (k := false) (by simp [Ex.cmp, Ex.bi, bi, exCons, exNil, Ex.loc, Ex.cst, lenD, ec, cmpD, liftO])))]
        rw [st_nx (st_asg (d := .int ((s * 48271 + 12345) % 2147483647)) (g1 := g.set c (.lst [])) (δ' := [some (.ref t), some (.int many), some (.ref c), none]) (g2 := (g.set c (.lst [])).set t (.lst [.ref c, .int ((s * 48271 + 12345) % 2147483647)]))
          (by simp [Ex.bin, Ex.bi, bi, exCons, exNil, Ex.idx, DV.idx, Ex.loc, Ex.cst, et, binop, atI, ixN, oD]) (by simp [Tg.sub, Ex.loc, Ex.cst, setI, et, ixN]))]
        have et2 : ((g.set c (.lst [])).set t (.lst [.ref c, .int ((s * 48271 + 12345) % 2147483647)]))[t]? = some (.lst [.ref c, .int ((s * 48271 + 12345) % 2147483647)]) := List.getElem?_set_self (by simpa using lt)
        have l64 : Nat.log2 64 < 9000 := by decide +kernel
        refine st_ret ?_
        simp [Ex.bin, Ex.bi, bi, exCons, exNil, Ex.idx, DV.idx, Ex.loc, Ex.cst, et2, l64, binop, atI, ixN, oD, hpos]
      · rw [List.getElem?_set_ne hne]; exact List.getElem?_set_self lc
      · rw [List.getElem?_set_ne (Ne.symm h3), List.getElem?_set_ne (Ne.symm h4)]
    | cons x r =>
      refine ⟨x % many, g.set c (.lst ((x / many :: r).map .int)), ?_, Int.emod_nonneg _ (by omega), Int.emod_lt_of_pos _ hpos, ⟨⟨hne, x / many :: r, s, ?_, List.getElem?_set_self lc, hl'⟩, by simp, fun i hi h3 h4 => ?_⟩, by simp⟩
      · unfold bG_draw
        rw [show start 4 [D.ref t, D.int many] = [some (.ref t), some (.int many), none, none] from rfl]
        rw [st_nx (st_set (d := .ref c) (g1 := g) (by simp [Ex.idx, Ex.loc, Ex.cst, DV.idx, e1, ix0, oD]))]
        rw [show [some (D.ref t), some (D.int many), none, none].set 2 (some (D.ref c)) = [some (.ref t), some (.int many), some (.ref c), none] from rfl]
        rw [st_nx hw]
        rw [List.map_cons] at ec ⊢
        rw [st_rt (d := .int (x % many)) (g1 := g.set c (.lst ((x / many :: r).map .int)))]
        rw [st_if (t_ex (k := true) (g1 := g.set c (.lst (.int x :: r.map .int))) (by simp [Ex.cmp, Ex.bi, bi, exCons, exNil, Ex.loc, Ex.cst, lenD, ec, cmpD, liftO]))]
        rw [st_nx (st_set (d := .int x) (g1 := g.set c (.lst (.int x :: r.map .int))) (by simp [Ex.idx, Ex.loc, Ex.cst, DV.idx, ec, ix0, oD]))]
        rw [st_nx (st_asg (d := .int (x / many)) (g1 := g.set c (.lst (.int x :: r.map .int))) (δ' := [some (.ref t), some (.int many), some (.ref c), some (.int x)]) (g2 := g.set c (.lst ((x / many :: r).map .int)))
          (by simp [Ex.bin, Ex.loc, Ex.cst, binop, hpos, hlog]) (by simp [Tg.sub, Ex.loc, Ex.cst, setI, ec, ixN]))]
        refine st_ret ?_
        simp [Ex.bin, Ex.bi, bi, exCons, exNil, Ex.loc, binop, hpos]
      · rw [List.getElem?_set_ne (Ne.symm hne)]; exact e1
      · rw [List.getElem?_set_ne (Ne.symm h4)]
  obtain ⟨k, g', hk, k1, k2, k3, k4⟩ := key
  refine ⟨k, g', ?_, k1, k2, k3, k4⟩
  unfold body
  rw [if_pos (show [D.ref t, D.int many].length = 2 from rfl), hk]
  exact Rgc_len k4 rfl
end DV
end
section
set_option Elab.async false
set_option linter.all false
set_option maxRecDepth 100000
namespace DV
open PySem
/-! ### _law_tape -/
def bG_tape (cl : Cl) : Sm :=
  (.seq (.asg (.name 1) (.cst (.int 7)))
  (.seq (.for (.of (.loc 0)) (.name 2) (.asg (.name 1) (.bin .mod (.bi .int (exCons (.bin .add (.bin .mul (.loc 1) (.cst (.int 31))) (.loc 2)) exNil)) (.cst (.int 1000003)))))
  (.ret (.lst (exCons (.comp [2] (.of (.loc 0)) (.name 2) .tt (.bi .abs (exCons (.bi .int (exCons (.loc 2) exNil)) exNil))) (exCons (.bin .add (.loc 1) (.cst (.int 1))) exNil))))))
theorem tape_spec {cl : Cl} {ns : List Int} (hl : ns.length ≤ 63) : ∃ g, body 1 3 (bG_tape cl) [.rol ns] [] = .ok (.ref 1) g ∧ TapeAt 1 0 g ∧ g.length = 2 := by
  have loop : ∃ s x, forLoop (.seq (ns.map .int)) (.name 2) (.asg (.name 1) (.bin .mod (.bi .int (exCons (.bin .add (.bin .mul (.loc 1) (.cst (.int 31))) (.loc 2)) exNil)) (.cst (.int 1000003)))) fuel 0 [some (.rol ns), some (.int 7), none] [] = .ok (.nx [some (.rol ns), some (.int s), x]) [] := by
    refine for_steps (xs := ns.map D.int) (P := fun i δ g => g = [] ∧ ∃ s x, δ = [some (.rol ns), some (.int s), x]) (Q := fun r => ∃ s x, r = .ok (.nx [some (.rol ns), some (.int s), x]) []) (fun i δ g _ => rfl) ?_ ?_ fuel 0 _ _ ⟨rfl, 7, none, rfl⟩ (Nat.zero_le _) (by rw [List.length_map]; unfold fuel; omega)
    · rintro i x δ g hx ⟨rfl, s, y, rfl⟩
      obtain ⟨n, hn, rfl⟩ := List.mem_map.mp (List.mem_of_getElem? hx)
      refine ⟨[some (.rol ns), some (.int s), some (.int n)], [], rfl, .inl ⟨[some (.rol ns), some (.int ((s * 31 + n) % 1000003)), some (.int n)], [], .inl (st_set (d := .int ((s * 31 + n) % 1000003)) (g1 := []) ?_), rfl, _, _, rfl⟩⟩
      simp [Ex.bin, Ex.bi, bi, exCons, exNil, Ex.loc, Ex.cst, binop]
    · rintro δ g ⟨rfl, s, x, rfl⟩
      exact ⟨s, x, rfl⟩
  obtain ⟨s, x, hf⟩ := loop
  have hb : bG_tape cl (start 3 [.rol ns]) [] = .ok (.rt (.ref 1)) [.lst ((ns.map fun n : Int => if n < 0 then -n else n).map .int), .lst [.ref 0, .int (s + 1)]] := by
    unfold bG_tape
    rw [show start 3 [D.rol ns] = [some (.rol ns), none, none] from rfl]
    rw [st_nx (st_set (d := .int 7) (g1 := []) rfl)]
    rw [show [some (D.rol ns), none, none].set 1 (some (D.int 7)) = [some (.rol ns), some (.int 7), none] from rfl]
    rw [st_nx (δ' := [some (.rol ns), some (.int s), x]) (g1 := []) (by rw [st_for (w := .seq (ns.map .int)) (g1 := []) rfl]; exact hf)]
    refine st_ret ?_
    have hc := comp_pure (it := .seq (ns.map .int)) (xs := ns.map .int) (tg := Tg.name 2) (e := .bi .abs (exCons (.bi .int (exCons (.loc 2) exNil)) exNil)) (δ := [some (.rol ns), some (.int s), none]) (g := []) (δ' := fun y => [some (.rol ns), some (.int s), some y])
      (fun d => match d with | .int n => .int (if n < 0 then -n else n) | _ => .non) (fun _ => rfl) (fun y _ => rfl) (fun y hy => by
        obtain ⟨n, hn, rfl⟩ := List.mem_map.mp hy
        simp [Ex.bi, bi, exCons, exNil, Ex.loc]) (by rw [List.length_map]; unfold LINE; omega)
    rw [List.map_map] at hc
    rw [x_lst (ds := [.ref 0, .int (s + 1)]) (g1 := [.lst ((ns.map fun n : Int => if n < 0 then -n else n).map .int)]) ?_ (by show 2 ≤ LINE; decide)]
    · rfl
    · refine xs_cons (g1 := [.lst ((ns.map fun n : Int => if n < 0 then -n else n).map .int)]) ?_ ?_
      · rw [x_comp (w := .seq (ns.map .int)) (g1 := []) (g2 := []) rfl hc]
        rw [List.map_map]
        rfl
      · simp [Ex.bin, exCons, exNil, Ex.loc, Ex.cst, binop]
  refine ⟨[.lst ((ns.map fun n : Int => if n < 0 then -n else n).map .int), .lst [.ref 0, .int (s + 1)]], ?_, ⟨by decide, (ns.map fun n : Int => if n < 0 then -n else n), s + 1, rfl, rfl, by rw [List.length_map]; exact hl⟩, rfl⟩
  unfold body
  rw [if_pos (show [D.rol ns].length = 1 from rfl), hb]
  rfl

/-! ### _law_pick -/
/-- the def i draws from the tape at t -/
def DrawOk (cl : Cl) (i t c : Nat) : Prop := ∀ (g : G) (many : Int), TapeAt t c g → 1 ≤ many → many < 2 ^ 60 → ∃ (k : Int) (g' : G), cl i [.ref t, .int many] g = .ok (.int k) g' ∧ 0 ≤ k ∧ k < many ∧ Ts t c g g' ∧ g'.length = g.length
def bG_pick (cl : Cl) (i : Nat) : Sm := (.ret (.idx (.loc 1) (.call cl i (exCons (.loc 0) (exCons (.bi .len (exCons (.loc 1) exNil)) exNil)))))
theorem pick_spec {cl : Cl} {i t c r : Nat} {g : G} {xs : List D} (hd : DrawOk cl i t c) (h0 : TapeAt t c g) (hr : g[r]? = some (.lst xs)) (h1 : r ≠ t) (h2 : r ≠ c) (hx : xs ≠ []) (hl : xs.length ≤ 4096) (hlow : ∀ x ∈ xs, x.low g.length = true) :
    ∃ (x : D) (g' : G), body 2 2 (bG_pick cl i) [.ref t, .ref r] g = .ok x g' ∧ x ∈ xs ∧ Ts t c g g' ∧ g'.length = g.length := by
  have hlen : 0 < xs.length := List.length_pos_iff.mpr hx
  obtain ⟨k, g', hk, k0, k1, k2, k3⟩ := hd g xs.length h0 (by omega) (by omega)
  have hr' : g'[r]? = some (.lst xs) := by rw [k2.old r (List.getElem?_eq_some_iff.mp hr).1 h1 h2]; exact hr
  obtain ⟨j, rfl⟩ : ∃ j : Nat, k = j := ⟨k.toNat, by omega⟩
  have hj : j < xs.length := by omega
  refine ⟨xs[j], g', ?_, List.getElem_mem hj, k2, k3⟩
  have e : bG_pick cl i (start 2 [.ref t, .ref r]) g = .ok (.rt xs[j]) g' := by
    unfold bG_pick
    refine st_ret ?_
    rw [x_idx (d := .ref r) (g1 := g) (d2 := .int j) (g2 := g') rfl]
    · have : atI xs (j : Int) = some xs[j] := by
        unfold atI ixN
        rw [if_pos (by omega), if_pos (by omega)]
        simp [hj]
      simp [DV.idx, hr', this, oD]
    · rw [x_call (ds := [.ref t, .int xs.length]) (g1 := g)]
      · exact hk
      · refine xs_cons (g1 := g) rfl (xs_cons (g1 := g) ?_ rfl)
        rw [x_bi (ds := [.ref r]) (g1 := g) rfl]
        simp [bi, lenD, hr]
  unfold body
  rw [if_pos (show [D.ref t, D.ref r].length = 2 from rfl), e]
  exact Rgc_len k3 (hlow _ (List.getElem_mem hj))
end DV
end
section
set_option Elab.async false
set_option linter.all false
set_option maxRecDepth 100000
namespace DV
open PySem
/-! ### _law_same, of a thing with itself -/
def bG_same (cl : Cl) (i : Nat) : Sm :=
  (.seq (.ite (.ex (.cmp .isN (.loc 1) (.cst .non))) (.ret (.cmp .isN (.loc 0) (.cst .non))) .skip)
  (.seq (.ite (.ex (.isi (.loc 1) .bool)) (.ret (.and (.isi (.loc 0) .bool) (.cmp .eq (.loc 0) (.loc 1)))) .skip)
  (.seq (.ite (.ex (.isi (.loc 1) .int)) (.ret (.and (.isi (.loc 0) .int) (.and (.not (.isi (.loc 0) .bool)) (.cmp .eq (.loc 0) (.loc 1))))) .skip)
  (.seq (.ite (.ex (.isi (.loc 1) .str)) (.ret (.and (.isi (.loc 0) .str) (.cmp .eq (.loc 0) (.loc 1)))) .skip)
  (.seq (.ite (.or (.ex (.cmp .ne (.isi (.loc 1) .tuple) (.isi (.loc 0) .tuple))) (.ex (.cmp .ne (.isi (.loc 1) .list) (.isi (.loc 0) .list)))) (.ret (.cst (.bl false))) .skip)
  (.seq (.ite (.or (.not (.ex (.isi2 (.loc 0) .tuple .list))) (.ex (.cmp .ne (.bi .len (exCons (.loc 0) exNil)) (.bi .len (exCons (.loc 1) exNil))))) (.ret (.cst (.bl false))) .skip)
  (.ret (.cmp .notIn (.cst (.bl false)) (.comp [2] (.range1 (.bi .len (exCons (.loc 1) exNil))) (.name 2) .tt (.call cl i (exCons (.idx (.loc 0) (.loc 2)) (exCons (.idx (.loc 1) (.loc 2)) exNil))))))))))))
theorem memG_bls (g : G) (b : Bool) (bs : List Bool) : memG g (.bl b) (bs.map .bl) = some (bs.contains b) := by
  unfold memG
  have : (bs.map D.bl).mapM (snap 64 g) = some ((bs.map D.bl).map tr) := mapM_some fun x hx => by
    obtain ⟨n, _, rfl⟩ := List.mem_map.mp hx
    rfl
  rw [this, snap_bl]
  dsimp only
  congr 1
  rw [List.map_map, List.any_map]
  clear this
  induction bs with
  | nil => rfl
  | cons n ns ih =>
    rw [List.any_cons, List.contains_cons, ih]
    simp only [Function.comp, tr, PyData.eqv]
    rw [show (n == b) = (b == n) from by rw [Bool.eq_iff_iff]; simp; exact eq_comm]
theorem range1_it {e : Ex} {δ : Env} {g g' : G} {n : Nat} (h : e δ g = .ok (.int n) g') (hn : n ≤ 4096) : Ie.range1 e δ g = .ok (.seq (rangeD 0 n)) g' := by
  unfold Ie.range1
  rw [h, R.bind_ok]
  have : -(2 ^ 60) ≤ (n : Int) ∧ (n : Int) < 2 ^ 60 := by omega
  simp only [this, and_self, if_true]
theorem rangeD_len (n : Nat) : (rangeD 0 (n : Int)).length = n := by
  unfold rangeD
  rw [List.length_map, List.length_range]
  omega
theorem mem_rangeD {n : Nat} {x : D} (h : x ∈ rangeD 0 (n : Int)) : ∃ k : Nat, x = .int k ∧ k < n := by
  unfold rangeD at h
  obtain ⟨k, hk, rfl⟩ := List.mem_map.mp h
  rw [List.mem_range] at hk
  exact ⟨k, by simp, by omega⟩
theorem atI_nat {α : Type} {xs : List α} {k : Nat} (h : k < xs.length) : atI xs (k : Int) = some xs[k] := by
  unfold atI ixN
  rw [if_pos (by omega), if_pos (by omega)]
  simp [h]
theorem same_spec {C : Nat → Cl} {i : Nat} (hC : ∀ m ds g, C (m + 1) i ds g = body 2 3 (bG_same (C m) i) ds g) : ∀ (n : Nat) (d : D), tree n d = true → ∀ m, n ≤ m → ∀ g : G, C m i [d, d] g = .ok (.bl true) g
  | 0, _, h => by cases h
  | n + 1, d, h => by
    intro m hm g
    obtain ⟨m, rfl⟩ : ∃ k, m = k + 1 := ⟨m - 1, by omega⟩
    rw [hC]
    cases d with
    | non =>
      refine body_rt0 rfl ?_ rfl
      simp [bG_same, start, Sm.seq, Sm.ite, Te.ex, Ex.cmp, Ex.loc, Ex.cst, cmpD, liftO, truth, Sm.ret]
    | bl b =>
      refine body_rt0 rfl ?_ rfl
      simp [bG_same, start, Sm.seq, Sm.ite, Te.ex, Ex.cmp, Ex.loc, Ex.cst, cmpD, liftO, truth, Sm.ret, Ex.isi, isTy, Ty.is, Sm.skip, Ex.and, eqG_bl]
    | int k =>
      refine body_rt0 rfl ?_ rfl
      simp [bG_same, start, Sm.seq, Sm.ite, Te.ex, Ex.cmp, Ex.loc, Ex.cst, cmpD, liftO, truth, Sm.ret, Ex.isi, isTy, Ty.is, Sm.skip, Ex.and, Ex.not, eqG_int]
    | str s =>
      have he := eqG_self (n := 1) (d := .str s) g (by simp only [tree] at h ⊢; exact h) (by decide) rfl (by simp only [tree, Bool.and_eq_true] at h; exact h.1)
      refine body_rt0 rfl ?_ rfl
      simp [bG_same, start, Sm.seq, Sm.ite, Te.ex, Ex.cmp, Ex.loc, Ex.cst, cmpD, liftO, truth, Sm.ret, Ex.isi, isTy, Ty.is, Sm.skip, Ex.and, Ex.not, he]
    | tup xs =>
      simp only [tree, Bool.and_eq_true, decide_eq_true_eq, List.all_eq_true] at h
      refine body_rt (t := [.lst ((xs.map fun _ => true).map .bl)]) rfl ?_ rfl
      unfold bG_same
      rw [show start 3 [D.tup xs, D.tup xs] = [some (.tup xs), some (.tup xs), none] from rfl]
      rw [st_nx (st_no (g1 := g) (t_ex (k := false) (by simp [Ex.cmp, Ex.loc, Ex.cst, cmpD, liftO])))]
      rw [st_nx (st_no (g1 := g) (t_ex (k := false) (by simp [Ex.isi, Ex.loc, isTy, Ty.is, liftO])))]
      rw [st_nx (st_no (g1 := g) (t_ex (k := false) (by simp [Ex.isi, Ex.loc, isTy, Ty.is, liftO])))]
      rw [st_nx (st_no (g1 := g) (t_ex (k := false) (by simp [Ex.isi, Ex.loc, isTy, Ty.is, liftO])))]
      rw [st_nx (st_no (g1 := g) (by simp [Te.or, Te.ex, Ex.cmp, Ex.isi, Ex.loc, isTy, Ty.is, liftO, cmpD, neG_bl, truth]))]
      rw [st_nx (st_no (g1 := g) (by simp [Te.or, Te.ex, Te.not, Ex.cmp, Ex.isi2, Ex.loc, isTy, Ty.is, liftO, cmpD, neG_int, truth, Ex.bi, bi, exCons, exNil, lenD]))]
      refine st_ret ?_
      have hc := comp_pure (it := .seq (rangeD 0 (xs.length : Int))) (xs := rangeD 0 (xs.length : Int)) (tg := Tg.name 2) (e := .call (C m) i (exCons (.idx (.loc 0) (.loc 2)) (exCons (.idx (.loc 1) (.loc 2)) exNil))) (δ := [some (.tup xs), some (.tup xs), none]) (g := g) (δ' := fun y => [some (.tup xs), some (.tup xs), some y])
        (fun _ => .bl true) (fun _ => rfl) (fun y _ => rfl) (fun y hy => by
          obtain ⟨k, rfl, hk⟩ := mem_rangeD hy
          rw [x_call (ds := [xs[k], xs[k]]) (g1 := g)]
          · exact same_spec hC n xs[k] (h.2 _ (List.getElem_mem hk)) m (by omega) g
          · simp [exCons, exNil, Ex.idx, DV.idx, Ex.loc, atI_nat hk, oD]) (by rw [rangeD_len]; unfold LINE; omega)
      have e1 : (rangeD 0 (xs.length : Int)).map (fun _ => D.bl true) = (xs.map fun _ => true).map .bl := by
        rw [List.map_map]
        refine List.ext_getElem? fun j => ?_
        simp [rangeD_len, List.getElem?_map, rangeD]
        by_cases hj : j < xs.length <;> simp [hj]
      rw [e1] at hc
      rw [x_cmp (d := .bl false) (g1 := g) (d2 := .ref g.length) (g2 := g ++ [.lst ((xs.map fun _ => true).map .bl)]) rfl (x_comp (w := .seq (rangeD 0 (xs.length : Int))) (g1 := g) (range1_it (g' := g) (n := xs.length) (by simp [Ex.bi, bi, exCons, exNil, lenD, Ex.loc]) h.1) hc)]
      have : (xs.map fun _ => true).contains false = false := by simp
      simp only [cmpD]
      rw [List.getElem?_append_right (Nat.le_refl _), Nat.sub_self]
      simp only [List.getElem?_cons_zero, memG_bls, this]
      rfl
    | _ => cases h
end DV
end
section
set_option Elab.async false
set_option linter.all false
set_option maxRecDepth 100000
namespace DV
open PySem
/-! ### draws in a comprehension -/
theorem comp_ts {t c : Nat} {it : It} {xs : List D} {tg : Tg} {e : Ex} {δ : Env} {δ' : D → Env} (Pd : D → Prop) (hl : xs.length ≤ 4096) (hit : ∀ i g, it.at i g = some xs[i]?) (ht : ∀ x ∈ xs, ∀ g, tg x δ g = .ok (δ' x) g)
    (he : ∀ x ∈ xs, ∀ g, TapeAt t c g → ∃ y g', e (δ' x) g = .ok y g' ∧ Pd y ∧ Ts t c g g') {g : G} (h0 : TapeAt t c g) :
    ∃ ys g', compLoop it tg Te.tt e δ fuel 0 [] g = .ok ys g' ∧ ys.length = xs.length ∧ (∀ y ∈ ys, Pd y) ∧ Ts t c g g' := by
  obtain ⟨ys, g', h, h1, h2, h3⟩ := comp_steps (it := it) (c := Te.tt) (e := e) (tg := tg) (δ := δ) (xs := xs) (fun i acc g' => acc.length = i ∧ (∀ y ∈ acc, Pd y) ∧ Ts t c g g') (fun i acc g' _ => hit i g') (fun i x acc g1 hx ⟨h1, h2, h3⟩ => by
    have hm := List.mem_of_getElem? hx
    have hi := (List.getElem?_eq_some_iff.mp hx).1
    obtain ⟨y, g2, e1, e2, e3⟩ := he x hm g1 h3.tp
    refine ⟨δ' x, g1, ht x hm g1, .inr ⟨g1, y, g2, rfl, e1, by unfold LINE; omega, by simp [h1], fun z hz => ?_, h3.trans e3⟩⟩
    rcases List.mem_append.mp hz with hz | hz
    · exact h2 z hz
    · rw [List.mem_singleton] at hz; subst hz; exact e2) fuel 0 [] g ⟨rfl, by simp, .refl h0⟩ (Nat.zero_le _) (by unfold fuel; omega)
  exact ⟨ys, g', h, h1, h2, h3⟩
/-- .. that only keeps some of the walked -/
theorem comp_fts {t c : Nat} {it : It} {xs : List D} {tg : Tg} {cc : Te} {e : Ex} {δ : Env} {δ' : D → Env} (hl : xs.length ≤ 4096) (hit : ∀ i g, it.at i g = some xs[i]?) (ht : ∀ x ∈ xs, ∀ g, tg x δ g = .ok (δ' x) g)
    (hc : ∀ x ∈ xs, ∀ g, TapeAt t c g → ∃ k g', cc (δ' x) g = .ok k g' ∧ Ts t c g g') (he : ∀ x ∈ xs, ∀ g, e (δ' x) g = .ok x g) {g : G} (h0 : TapeAt t c g) :
    ∃ ys g', compLoop it tg cc e δ fuel 0 [] g = .ok ys g' ∧ ys.Sublist xs ∧ Ts t c g g' := by
  obtain ⟨ys, g', h, h1, h2⟩ := comp_steps (it := it) (c := cc) (e := e) (tg := tg) (δ := δ) (xs := xs) (fun i acc g' => acc.Sublist (xs.take i) ∧ Ts t c g g') (fun i acc g' _ => hit i g') (fun i x acc g1 hx ⟨h2, h3⟩ => by
    have hm := List.mem_of_getElem? hx
    have hi := (List.getElem?_eq_some_iff.mp hx).1
    obtain ⟨k, g2, e1, e3⟩ := hc x hm g1 h3.tp
    have ht2 : xs.take (i + 1) = xs.take i ++ [x] := by rw [List.take_add_one, hx]; rfl
    refine ⟨δ' x, g1, ht x hm g1, ?_⟩
    cases k with
    | false => exact .inl ⟨g2, e1, by rw [ht2]; exact h2.trans (List.sublist_append_left _ _), h3.trans e3⟩
    | true =>
      refine .inr ⟨g2, x, g2, e1, he x hm g2, ?_, by rw [ht2]; exact h2.append (List.Sublist.refl _), h3.trans e3⟩
      have := h2.length_le
      rw [List.length_take] at this
      unfold LINE; omega) fuel 0 [] g ⟨List.Sublist.refl _, .refl h0⟩ (Nat.zero_le _) (by unfold fuel; omega)
  rw [List.take_length] at h1
  exact ⟨ys, g', h, h1, h2⟩

/-! ### _law_signs, _law_many, _law_word -/
def PickOk (cl : Cl) (i t c : Nat) : Prop := ∀ (g : G) (r : Nat) (xs : List D), TapeAt t c g → g[r]? = some (.lst xs) → r ≠ t → r ≠ c → xs ≠ [] → xs.length ≤ 4096 → (∀ x ∈ xs, x.low g.length = true) →
  ∃ (x : D) (g' : G), cl i [.ref t, .ref r] g = .ok x g' ∧ x ∈ xs ∧ Ts t c g g' ∧ g'.length = g.length
def sgT (a b c : Nat) : D := .tup [.str (Str.ofString "signs"), .int a, .int b, .int c]
def sgAll : List D := [sgT 1 1 1, sgT 1 1 0, sgT 2 1 1, sgT 1 2 1, sgT 2 2 0, sgT 0 1 1, sgT 1 0 1]
/-- the drawn signs -/
def SgOk (d : D) : Prop := ∃ a b c : Nat, d = sgT a b c ∧ a ≤ 2 ∧ b ≤ 2 ∧ c ≤ 1 ∧ 1 ≤ a + b + c
theorem sgAll_ok : ∀ d ∈ sgAll, SgOk d := by
  intro d hd
  simp only [sgAll, List.mem_cons, List.not_mem_nil, or_false] at hd
  rcases hd with h | h | h | h | h | h | h <;> subst h <;> exact ⟨_, _, _, rfl, by decide, by decide, by decide, by decide⟩
def bG_signs (cl : Cl) (i : Nat) : Sm :=
  (.ret (.call cl i (exCons (.loc 0) (exCons (.lst (exCons (.tup (exCons (.cst (.str (Str.ofString "signs"))) (exCons (.cst (.int 1)) (exCons (.cst (.int 1)) (exCons (.cst (.int 1)) exNil))))) (exCons (.tup (exCons (.cst (.str (Str.ofString "signs"))) (exCons (.cst (.int 1)) (exCons (.cst (.int 1)) (exCons (.cst (.int 0)) exNil))))) (exCons (.tup (exCons (.cst (.str (Str.ofString "signs"))) (exCons (.cst (.int 2)) (exCons (.cst (.int 1)) (exCons (.cst (.int 1)) exNil))))) (exCons (.tup (exCons (.cst (.str (Str.ofString "signs"))) (exCons (.cst (.int 1)) (exCons (.cst (.int 2)) (exCons (.cst (.int 1)) exNil))))) (exCons (.tup (exCons (.cst (.str (Str.ofString "signs"))) (exCons (.cst (.int 2)) (exCons (.cst (.int 2)) (exCons (.cst (.int 0)) exNil))))) (exCons (.tup (exCons (.cst (.str (Str.ofString "signs"))) (exCons (.cst (.int 0)) (exCons (.cst (.int 1)) (exCons (.cst (.int 1)) exNil))))) (exCons (.tup (exCons (.cst (.str (Str.ofString "signs"))) (exCons (.cst (.int 1)) (exCons (.cst (.int 0)) (exCons (.cst (.int 1)) exNil))))) exNil)))))))) exNil))))
theorem signs_spec {cl : Cl} {i t c : Nat} {g : G} (hp : PickOk cl i t c) (h0 : TapeAt t c g) : ∃ (s : D) (g' : G), body 1 1 (bG_signs cl i) [.ref t] g = .ok s g' ∧ SgOk s ∧ Ts t c g g' ∧ g'.length = g.length := by
  have lt := h0.lt
  have hlow : ∀ x ∈ sgAll, ∀ k, x.low k = true := by
    intro x hx k
    obtain ⟨a, b, c, rfl, _⟩ := sgAll_ok x hx
    rfl
  obtain ⟨s, g2, h1, h2, h3, h4⟩ := hp (g ++ [.lst sgAll]) g.length sgAll (h0.app _) (by simp) (by omega) (by omega) (by decide) (by decide) (fun x hx => hlow x hx _)
  have e : bG_signs cl i (start 1 [.ref t]) g = .ok (.rt s) g2 := by
    unfold bG_signs
    refine st_ret ?_
    rw [x_call (ds := [.ref t, .ref g.length]) (g1 := g ++ [.lst sgAll])]
    · exact h1
    · refine xs_cons (g1 := g) rfl (xs_cons (g1 := g ++ [.lst sgAll]) ?_ rfl)
      exact x_lst (ds := sgAll) (g1 := g) rfl (by decide)
  obtain ⟨g3, h5, h6, h7⟩ := body_tape (np := 1) (n := 1) (ds := [.ref t]) h0 rfl e ((Ts.app (.refl h0) _).trans h3) (hlow s h2 _)
  exact ⟨s, g3, h5, sgAll_ok s h2, h6, h7⟩
def bG_many (cl : Cl) : Sm := (.ret (.bin .add (.bin .add (.idx (.loc 0) (.cst (.int 1))) (.idx (.loc 0) (.cst (.int 2)))) (.idx (.loc 0) (.cst (.int 3)))))
theorem many_spec {cl : Cl} {g : G} {a b c : Nat} : body 1 1 (bG_many cl) [sgT a b c] g = .ok (.int ((a + b + c : Nat) : Int)) g := by
  refine body_rt0 rfl ?_ rfl
  simp [bG_many, start, Sm.ret, Ex.bin, Ex.idx, Ex.loc, Ex.cst, sgT, DV.idx, atI, ixN, oD, binop]
def bG_word (cl : Cl) (dr mn : Nat) : Sm :=
  (.ret (.bi .tuple (exCons (.comp [3] (.range1 (.call cl dr (exCons (.loc 0) (exCons (.bin .add (.loc 2) (.cst (.int 1))) exNil)))) (.name 3) .tt (.call cl dr (exCons (.loc 0) (exCons (.call cl mn (exCons (.loc 1) exNil)) exNil)))) exNil)))
/-- whole numbers from 0, below n -/
def IntsBelow (n : Int) (ns : List Int) : Prop := ∀ x ∈ ns, 0 ≤ x ∧ x < n
theorem ints_of {n : Int} : ∀ {ys : List D}, (∀ y ∈ ys, ∃ k, y = .int k ∧ 0 ≤ k ∧ k < n) → ∃ ns : List Int, ys = ns.map .int ∧ IntsBelow n ns
  | [], _ => ⟨[], rfl, by simp [IntsBelow]⟩
  | y :: ys, h => by
    obtain ⟨k, rfl, h1, h2⟩ := h y List.mem_cons_self
    obtain ⟨ns, rfl, h3⟩ := ints_of (ys := ys) fun z hz => h z (List.mem_cons_of_mem _ hz)
    exact ⟨k :: ns, rfl, fun x hx => by rcases List.mem_cons.mp hx with rfl | hx; exact ⟨h1, h2⟩; exact h3 x hx⟩
theorem tree_ints {ns : List Int} (h : ns.length ≤ 4096) : tree 2 (.tup (ns.map .int)) = true := by
  simp only [tree, Bool.and_eq_true, decide_eq_true_eq, List.all_eq_true]
  exact ⟨by rw [List.length_map]; exact h, fun x hx => by obtain ⟨n, _, rfl⟩ := List.mem_map.mp hx; rfl⟩
/-- tuple([draw(many) for k in range(..)]): the comprehension, then the tuple of it -/
theorem x_tuple_of {e : Ex} {δ : Env} {g g1 : G} {ys : List D} (h : e δ g = .ok (.ref g1.length) (g1 ++ [.lst ys])) : Ex.bi .tuple (exCons e exNil) δ g = .ok (.tup ys) (g1 ++ [.lst ys]) := by
  rw [x_bi (ds := [.ref g1.length]) (g1 := g1 ++ [.lst ys]) (xs_cons h rfl)]
  simp [bi, itemsK]
theorem word_spec {cl : Cl} {dr mn t c : Nat} {g : G} {a b cc most : Nat} (hd : DrawOk cl dr t c) (hm : ∀ g, cl mn [sgT a b cc] g = .ok (.int ((a + b + cc : Nat) : Int)) g) (h0 : TapeAt t c g) (h1 : 1 ≤ a + b + cc) (h2 : a + b + cc ≤ 100) (h3 : most ≤ 400) :
    ∃ (ns : List Int) (g' : G), body 3 4 (bG_word cl dr mn) [.ref t, sgT a b cc, .int most] g = .ok (.tup (ns.map .int)) g' ∧ IntsBelow ((a + b + cc : Nat) : Int) ns ∧ ns.length ≤ most ∧ Ts t c g g' ∧ g'.length = g.length := by
  obtain ⟨k, g1, k1, k2, k3, k4, k5⟩ := hd g ((most : Int) + 1) h0 (by omega) (by omega)
  obtain ⟨j, rfl⟩ : ∃ j : Nat, k = j := ⟨k.toNat, by omega⟩
  obtain ⟨ys, g2, c1, c2, c3, c4⟩ := comp_ts (t := t) (c := c) (it := .seq (rangeD 0 (j : Int))) (xs := rangeD 0 (j : Int)) (tg := Tg.name 3) (e := .call cl dr (exCons (.loc 0) (exCons (.call cl mn (exCons (.loc 1) exNil)) exNil))) (δ := [some (.ref t), some (sgT a b cc), some (.int most), none])
    (δ' := fun y => [some (.ref t), some (sgT a b cc), some (.int most), some y]) (fun y => ∃ k, y = .int k ∧ 0 ≤ k ∧ k < ((a + b + cc : Nat) : Int)) (by rw [rangeD_len]; omega) (fun _ _ => rfl) (fun _ _ _ => rfl) (fun x _ g hg => by
      obtain ⟨k, g', e1, e2, e3, e4, _⟩ := hd g ((a + b + cc : Nat) : Int) hg (by omega) (by omega)
      refine ⟨.int k, g', ?_, ⟨k, rfl, e2, e3⟩, e4⟩
      rw [x_call (ds := [.ref t, .int ((a + b + cc : Nat) : Int)]) (g1 := g)]
      · exact e1
      · refine xs_cons (g1 := g) rfl (xs_cons (g1 := g) ?_ rfl)
        rw [x_call (ds := [sgT a b cc]) (g1 := g) rfl]
        exact hm g) k4.tp
  obtain ⟨ns, rfl, hn⟩ := ints_of c3
  rw [List.length_map, rangeD_len] at c2
  have e : bG_word cl dr mn (start 4 [.ref t, sgT a b cc, .int most]) g = .ok (.rt (.tup (ns.map .int))) (g2 ++ [.lst (ns.map .int)]) := by
    unfold bG_word
    refine st_ret (x_tuple_of (x_comp (w := .seq (rangeD 0 (j : Int))) (g1 := g1) (range1_it (g' := g1) ?_ (by omega)) c1))
    rw [x_call (ds := [.ref t, .int ((most : Int) + 1)]) (g1 := g)]
    · exact k1
    · refine xs_cons (g1 := g) rfl (xs_cons (g1 := g) ?_ rfl)
      rw [x_bin (d := .int most) (g1 := g) (d2 := .int 1) (g2 := g) rfl rfl]
      rfl
  obtain ⟨g3, h5, h6, h7⟩ := body_tape (np := 3) (n := 4) (ds := [.ref t, sgT a b cc, .int most]) h0 rfl e ((k4.trans c4).app _) (tree_low _ (tree_ints (by omega)))
  exact ⟨ns, g3, h5, hn, by omega, h6, h7⟩
end DV
end
section
set_option Elab.async false
set_option linter.all false
set_option maxRecDepth 100000
namespace DV
open PySem
/-! ### all(f(x) for x in a tuple), and the like -/
theorem t_or_f {c c2 : Te} {δ : Env} {g g1 : G} (h : c δ g = .ok false g1) : Te.or c c2 δ g = c2 δ g1 := by rw [t_or h]; rfl
theorem t_or_t {c c2 : Te} {δ : Env} {g g1 : G} (h : c δ g = .ok true g1) : Te.or c c2 δ g = .ok true g1 := by rw [t_or h]; rfl
theorem x_and_t {e e2 : Ex} {δ : Env} {g g1 : G} (h : e δ g = .ok (.bl true) g1) : Ex.and e e2 δ g = e2 δ g1 := by rw [x_and h]; rfl
theorem x_and_f {e e2 : Ex} {δ : Env} {g g1 : G} (h : e δ g = .ok (.bl false) g1) : Ex.and e e2 δ g = .ok (.bl false) g1 := by rw [x_and h]; rfl
theorem all_of {e : Ex} {δ : Env} {g g1 : G} {bs : List Bool} (h : e δ g = .ok (.ref g1.length) (g1 ++ [.lst (bs.map .bl)])) : Ex.bi .all (exCons e exNil) δ g = .ok (.bl (bs.all id)) (g1 ++ [.lst (bs.map .bl)]) := by
  rw [x_bi (ds := [.ref g1.length]) (g1 := g1 ++ [.lst (bs.map .bl)]) (xs_cons h rfl)]
  simp only [bi, items]
  rw [List.getElem?_append_right (Nat.le_refl _), Nat.sub_self]
  simp only [List.getElem?_cons_zero, allG_bls]
  rfl
/-- all([e for x in a tuple]), e told -/
theorem all_comp {vs : List Nat} {i : Ie} {w : It} {xs : List D} {tg : Tg} {e : Ex} {δ : Env} {g : G} {δ' : D → Env} (f : D → Bool) (hi : i δ g = .ok w g) (hw : ∀ i, w.at i g = some xs[i]?) (ht : ∀ x ∈ xs, tg x (DV.wipe δ vs) g = .ok (δ' x) g) (he : ∀ x ∈ xs, e (δ' x) g = .ok (.bl (f x)) g) (hl : xs.length ≤ 4096) :
    Ex.bi .all (exCons (Ex.comp vs i tg Te.tt e) exNil) δ g = .ok (.bl (xs.all f)) (g ++ [.lst ((xs.map f).map .bl)]) := by
  have hc := comp_pure (it := w) (xs := xs) (tg := tg) (e := e) (δ := DV.wipe δ vs) (g := g) (δ' := δ') (fun x => .bl (f x)) hw ht he (by unfold LINE; omega)
  have e1 : (xs.map fun x => D.bl (f x)) = (xs.map f).map .bl := by rw [List.map_map]; rfl
  rw [e1] at hc
  rw [all_of (x_comp hi hc), List.all_map]
  rfl
theorem cmp_int {o : Cmp} (f : Int → Int → Bool) (h : ∀ i j g, cmpD o (.int i) (.int j) g = some (f i j)) {a b : Ex} {δ : Env} {g : G} {i j : Int} (ha : a δ g = .ok (.int i) g) (hb : b δ g = .ok (.int j) g) : Ex.cmp o a b δ g = .ok (.bl (f i j)) g := by
  rw [x_cmp ha hb, h]
  rfl
theorem len_tup {a : Ex} {δ : Env} {g : G} {xs : List D} (ha : a δ g = .ok (.tup xs) g) : Ex.bi .len (exCons a exNil) δ g = .ok (.int xs.length) g := by
  rw [x_bi (ds := [.tup xs]) (g1 := g) (xs_cons ha rfl)]
  rfl
theorem isi_tup {a : Ex} {δ : Env} {g : G} {xs : List D} (ha : a δ g = .ok (.tup xs) g) : Ex.isi a .tuple δ g = .ok (.bl true) g := by
  show (a δ g).bind _ = _
  rw [ha]
  rfl
/-- no tuple -/
def noTup (g : G) (d : D) : Bool := match isTy g .tuple d with
  | some false => true
  | _ => false
theorem isi_notup {a : Ex} {δ : Env} {g : G} {d : D} (ha : a δ g = .ok d g) (h : noTup g d = true) : Ex.isi a .tuple δ g = .ok (.bl false) g := by
  show (a δ g).bind _ = _
  rw [ha]
  unfold noTup at h
  split at h
  · rename_i q
    show liftO (isTy g .tuple d) g = _
    rw [q]
    rfl
  · cases h
theorem notup_tree {n : Nat} {d : D} {g : G} (h : tree n d = true) (h2 : ∀ xs, d ≠ .tup xs) : noTup g d = true := by
  cases n with
  | zero => cases h
  | succ n => cases d <;> first | rfl | cases h | exact absurd rfl (h2 _)
def IntOk (cl : Cl) (i : Nat) : Prop := ∀ (g : G) (v : D) (lo hi : Int), tyOk g v = true → cl i [v, .int lo, .int hi] g = .ok (.bl (isInt lo hi v)) g
theorem tree_sub {n : Nat} {xs : List D} (h : tree (n + 1) (.tup xs) = true) : xs.length ≤ 4096 ∧ ∀ x ∈ xs, tree n x = true := by
  simp only [tree, Bool.and_eq_true, decide_eq_true_eq, List.all_eq_true] at h
  exact h
theorem tree_tup {n : Nat} {xs : List D} (h : xs.length ≤ 4096) (h2 : ∀ x ∈ xs, tree n x = true) : tree (n + 1) (.tup xs) = true := by
  simp only [tree, Bool.and_eq_true, decide_eq_true_eq, List.all_eq_true]
  exact ⟨h, h2⟩
/-- all([is_integer(x, 0, e) for x in a tuple]) -/
theorem all_ints {cl : Cl} {k : Nat} (hk : IntOk cl k) {n s : Nat} {a e : Ex} {δ : Env} {g : G} {xs : List D} {hi : Int} (ha : a δ g = .ok (.tup xs) g) (hx : tree (n + 1) (.tup xs) = true) (hs : s < δ.length)
    (he : ∀ x, e (δ.set s (some x)) g = .ok (.int hi) g) : Ex.bi .all (exCons (Ex.comp [s] (.of a) (.name s) .tt (.call cl k (exCons (.loc s) (exCons (.cst (.int 0)) (exCons e exNil))))) exNil) δ g = .ok (.bl (xs.all (isInt 0 hi))) (g ++ [.lst ((xs.map (isInt 0 hi)).map .bl)]) := by
  obtain ⟨h1, h2⟩ := tree_sub hx
  refine all_comp (w := .seq xs) (δ' := fun x => δ.set s (some x)) (isInt 0 hi) (by show (a δ g).bind _ = _; rw [ha]; rfl) (fun _ => rfl) (fun x _ => ?_) (fun x hxm => ?_) h1
  · show R.ok ((δ.set s none).set s (some x)) g = _
    rw [List.set_set]
  · rw [x_call (ds := [x, .int 0, .int hi]) (g1 := g)]
    · exact hk g x 0 hi (tyOk_tree (h2 x hxm))
    · refine xs_cons (g1 := g) ?_ (xs_cons (g1 := g) rfl (xs_cons (g1 := g) (he x) rfl))
      unfold Ex.loc
      rw [List.getElem?_set_self hs]
/-! ### are_ascending, of whole numbers -/
def bG_asc (cl : Cl) : Sm :=
  (.ret (.bi .all (exCons (.comp [1, 2] (.zip (.loc 0) (.slc (.loc 0) (.at (.cst (.int 1))) .no)) (.tup 2 (tgCons (.name 1) (tgCons (.name 2) tgNil))) .tt (.cmp .lt (.loc 1) (.loc 2))) exNil)))
def ascI : List Int → Bool
  | a :: b :: r => decide (a < b) && ascI (b :: r)
  | _ => true
theorem asc_pairs : ∀ ns : List Int, ((ns.zip (ns.drop 1)).map fun p => D.tup [.int p.1, .int p.2]).all (fun d => match d with | .tup [.int a, .int b] => decide (a < b) | _ => false) = ascI ns
  | [] => rfl
  | [a] => rfl
  | a :: b :: r => by
    have ih := asc_pairs (b :: r)
    simp only [List.drop_succ_cons, List.drop_zero, List.zip_cons_cons, List.map_cons, List.all_cons, ascI] at ih ⊢
    rw [ih]
theorem It_zip_at (t u : It) (i : Nat) (g : G) : (It.zip t u).at i g = match t.at i g, u.at i g with
    | some (some x), some (some y) => some (some (.tup [x, y]))
    | some _, some _ => some none
    | _, _ => none := rfl
theorem asc_spec {cl : Cl} {g : G} {ns : List Int} (h : ns.length ≤ 4096) : body 1 3 (bG_asc cl) [.tup (ns.map .int)] g = .ok (.bl (ascI ns)) g := by
  refine body_rt (t := [.lst ((((ns.zip (ns.drop 1)).map fun p => D.tup [.int p.1, .int p.2]).map (fun d => match d with | .tup [.int a, .int b] => decide (a < b) | _ => false)).map .bl)]) rfl ?_ rfl
  unfold bG_asc
  refine st_ret ?_
  have hcut : cut (ns.map D.int) (some 1) none = (ns.drop 1).map .int := by
    simp [cut, sIx, List.map_drop]
    rcases ns with _ | ⟨a, r⟩
    · simp
    · simp [List.take_of_length_le]
  rw [← asc_pairs]
  refine all_comp (w := .zip (.seq (ns.map .int)) (.seq ((ns.drop 1).map .int))) (xs := (ns.zip (ns.drop 1)).map fun p => D.tup [.int p.1, .int p.2]) (δ' := fun d => match d with | .tup [a, b] => [some (.tup (ns.map .int)), some a, some b] | _ => []) _ ?_ (fun i => ?_) (fun x hx => ?_) (fun x hx => ?_) ?_
  · simp [start, Ie.zip, Ex.loc, Ex.slc, Po.at, Po.no, Ex.cst, slc, hcut, walkOf, isTup]
  · rw [It_zip_at]
    show (match some (ns.map D.int)[i]?, some ((ns.drop 1).map D.int)[i]? with
      | some (some x), some (some y) => some (some (D.tup [x, y]))
      | some _, some _ => some none
      | _, _ => none) = _
    rw [List.getElem?_map, List.getElem?_map, List.getElem?_map, List.zip, List.getElem?_zipWith]
    cases ns[i]? <;> cases (ns.drop 1)[i]? <;> rfl
  · obtain ⟨p, _, rfl⟩ := List.mem_map.mp hx
    rfl
  · obtain ⟨p, _, rfl⟩ := List.mem_map.mp hx
    simp [Ex.cmp, Ex.loc, cmpD, liftO]
  · rw [List.length_map, List.length_zip]; omega
end DV
end
section
set_option Elab.async false
set_option linter.all false
set_option maxRecDepth 100000
set_option maxHeartbeats 1000000
namespace DV
open PySem
/-! ### is_signs, many_signs, is_word_of -/
def bG_issigns (cl : Cl) (k : Nat) : Sm :=
  (.seq (.ite (.or (.not (.ex (.isi (.loc 0) .tuple))) (.or (.ex (.cmp .ne (.bi .len (exCons (.loc 0) exNil)) (.cst (.int 4)))) (.ex (.cmp .ne (.idx (.loc 0) (.cst (.int 0))) (.cst (.str (Str.ofString "signs"))))))) (.ret (.cst (.bl false))) .skip)
  (.ret (.and (.bi .all (exCons (.comp [1] (.of (.slc (.loc 0) (.at (.cst (.int 1))) .no)) (.name 1) .tt (.call cl k (exCons (.loc 1) (exCons (.cst (.int 0)) (exCons (.cst (.int 3)) exNil))))) exNil)) (.bi .any (exCons (.slc (.loc 0) (.at (.cst (.int 1))) .no) exNil)))))
theorem canLay_str (s : String) (h : PyData.canLay0 (.str (Str.ofString s)) = true := by decide +kernel) : PyData.canLay0 (.str (Str.ofString s)) = true := h
theorem tree_sg (a b c : Nat) : tree 2 (sgT a b c) = true := by
  show (decide (4 ≤ 4096) && _) = true
  rw [Bool.and_eq_true]
  refine ⟨rfl, ?_⟩
  have : tree 1 (.str (Str.ofString "signs")) = true := by decide +kernel
  simp only [List.all_cons, List.all_nil, this]
  rfl
theorem issigns_spec {cl : Cl} {k : Nat} (hk : IntOk cl k) {g : G} {a b c : Nat} (ha : a ≤ 3) (hb : b ≤ 3) (hc : c ≤ 3) : body 1 2 (bG_issigns cl k) [sgT a b c] g = .ok (.bl (decide (1 ≤ a + b + c))) g := by
  have hs : neG g (.str (Str.ofString "signs")) (.str (Str.ofString "signs")) = some false := by
    rw [neG_str g (n := 1) (by decide +kernel) (by decide) (by decide +kernel)]; simp
  have hsl : ∀ δ : Env, δ[0]? = some (some (sgT a b c)) → Ex.slc (.loc 0) (.at (.cst (.int 1))) .no δ g = .ok (.tup (([a, b, c] : List Nat).map fun n : Nat => D.int n)) g := by
    intro δ h
    simp [Ex.slc, Ex.loc, h, Po.at, Po.no, Ex.cst, slc, sgT, cut, sIx]
  have hall := all_ints hk (n := 1) (s := 1) (a := .slc (.loc 0) (.at (.cst (.int 1))) .no) (e := .cst (.int 3)) (δ := [some (sgT a b c), none]) (g := g) (xs := ([a, b, c] : List Nat).map fun n : Nat => D.int n) (hi := 3) (hsl _ rfl) (by rfl) (by simp) (fun _ => rfl)
  have hv : (([a, b, c] : List Nat).map fun n : Nat => D.int n).all (isInt 0 3) = true := by
    simp [isInt]; omega
  rw [hv] at hall
  refine body_rt (t := ?t) rfl ?h rfl
  case h =>
    unfold bG_issigns
    rw [show start 2 [sgT a b c] = [some (sgT a b c), none] from rfl]
    rw [st_nx (st_no (g1 := g) (by simp [Te.or, Te.not, Te.ex, Ex.isi, Ex.loc, sgT, isTy, Ty.is, liftO, truth, Ex.cmp, Ex.bi, bi, exCons, exNil, lenD, Ex.cst, cmpD, neG_int, Ex.idx, DV.idx, atI, ixN, oD, hs]))]
    refine st_ret ?_
    rw [x_and_t hall]
    rw [x_bi (xs_cons (d := .tup (([a, b, c] : List Nat).map fun n : Nat => D.int n)) (g1 := g ++ [.lst ((((([a, b, c] : List Nat).map fun n : Nat => D.int n)).map (isInt 0 3)).map .bl)]) (by simp [Ex.slc, Ex.loc, Po.at, Po.no, Ex.cst, slc, sgT, cut, sIx]) rfl)]
    have e : (([a, b, c] : List Nat).map fun n : Nat => D.int n) = (([a, b, c] : List Nat).map fun n : Nat => (n : Int)).map .int := by simp
    simp only [bi, items]
    rw [e, anyG_ints]
    have : ((([a, b, c] : List Nat).map fun n : Nat => (n : Int)).any fun i => i != 0) = decide (1 ≤ a + b + c) := by
      rw [Bool.eq_iff_iff]; simp; omega
    rw [this]
    rfl
theorem many_spec' {cl : Cl} {g : G} {a b c : Nat} : body 1 1 (bG_many cl) [sgT a b c] g = .ok (.int ((a + b + c : Nat) : Int)) g := many_spec
def bG_isword (cl : Cl) (k mn : Nat) : Sm :=
  (.seq (.ite (.or (.not (.ex (.isi (.loc 1) .tuple))) (.ex (.cmp .gt (.bi .len (exCons (.loc 1) exNil)) (.cst (.int 300))))) (.ret (.cst (.bl false))) .skip)
  (.ret (.bi .all (exCons (.comp [2] (.of (.loc 1)) (.name 2) .tt (.call cl k (exCons (.loc 2) (exCons (.cst (.int 0)) (exCons (.bin .sub (.call cl mn (exCons (.loc 0) exNil)) (.cst (.int 1))) exNil))))) exNil))))
def ManyOk (cl : Cl) (mn : Nat) : Prop := ∀ (g : G) (a b c : Nat), cl mn [sgT a b c] g = .ok (.int ((a + b + c : Nat) : Int)) g
theorem isword_no {cl : Cl} {k mn : Nat} {g : G} {s v : D} (h : noTup g v = true) : body 2 3 (bG_isword cl k mn) [s, v] g = .ok (.bl false) g := by
  refine body_rt0 rfl ?_ rfl
  unfold bG_isword
  rw [show start 3 [s, v] = [some s, some v, none] from rfl]
  exact st_rt (by rw [st_if (t_or_t (t_not (k := false) (t_ex (isi_notup (d := v) rfl h))))]; rfl)
theorem isword_spec {cl : Cl} {k mn n : Nat} (hk : IntOk cl k) (hm : ManyOk cl mn) {g : G} {a b c : Nat} {xs : List D} (hx : tree (n + 1) (.tup xs) = true) :
    body 2 3 (bG_isword cl k mn) [sgT a b c, .tup xs] g = .ok (.bl (decide (xs.length ≤ 300) && xs.all (isInt 0 (((a + b + c : Nat) : Int) - 1)))) g := by
  by_cases hl : xs.length ≤ 300
  · refine body_rt (t := ?t) rfl ?h rfl
    case h =>
      unfold bG_isword
      rw [show start 3 [sgT a b c, .tup xs] = [some (sgT a b c), some (.tup xs), none] from rfl]
      rw [st_nx (st_no (g1 := g) (by
        rw [t_or_f (t_not (k := true) (t_ex (isi_tup (xs := xs) rfl)))]
        refine t_ex ?_
        rw [cmp_int (fun i j => decide (j < i)) (fun _ _ _ => rfl) (len_tup (xs := xs) rfl) (j := 300) rfl]
        rw [decide_eq_false (by omega)]))]
      refine st_ret ?_
      rw [all_ints hk (n := n) (s := 2) (xs := xs) (hi := ((a + b + c : Nat) : Int) - 1) rfl hx (by simp) (fun x => ?_)]
      · rw [decide_eq_true hl, Bool.true_and]
      · rw [x_bin (d := .int ((a + b + c : Nat) : Int)) (g1 := g) (d2 := .int 1) (g2 := g) (by rw [x_call (ds := [sgT a b c]) (g1 := g) rfl]; exact hm g a b c) rfl]
        rfl
  · refine body_rt0 rfl ?_ rfl
    unfold bG_isword
    rw [show start 3 [sgT a b c, .tup xs] = [some (sgT a b c), some (.tup xs), none] from rfl]
    refine st_rt ?_
    rw [st_if (g1 := g) (by
      rw [t_or_f (t_not (k := true) (t_ex (isi_tup (xs := xs) rfl)))]
      refine t_ex ?_
      rw [cmp_int (fun i j => decide (j < i)) (fun _ _ _ => rfl) (len_tup (xs := xs) rfl) (j := 300) rfl]
      rw [decide_eq_true (by omega)])]
    rw [decide_eq_false hl]
    rfl

/-! ### are_nexts, is_row, are_states, is_definite -/
def bG_nexts (cl : Cl) (k : Nat) : Sm :=
  (.ret (.and (.isi (.loc 0) .tuple) (.and (.cmp .eq (.bi .len (exCons (.loc 0) exNil)) (.loc 2)) (.bi .all (exCons (.comp [3] (.of (.loc 0)) (.name 3) .tt (.call cl k (exCons (.loc 3) (exCons (.cst (.int 0)) (exCons (.bin .sub (.loc 1) (.cst (.int 1))) exNil))))) exNil)))))
def isNexts (n len : Int) : D → Bool
  | .tup xs => decide ((xs.length : Int) = len) && xs.all (isInt 0 (n - 1))
  | _ => false
theorem nexts_spec {cl : Cl} {k m : Nat} (hk : IntOk cl k) {g : G} {v : D} {n len : Int} (hv : tree (m + 1) v = true) : body 3 4 (bG_nexts cl k) [v, .int n, .int len] g = .ok (.bl (isNexts n len v)) g := by
  cases v with
  | tup xs =>
    by_cases h : (xs.length : Int) = len
    · refine body_rt (t := ?t) rfl ?h rfl
      case h =>
        unfold bG_nexts
        rw [show start 4 [.tup xs, .int n, .int len] = [some (.tup xs), some (.int n), some (.int len), none] from rfl]
        refine st_ret ?_
        rw [x_and_t (isi_tup (xs := xs) rfl)]
        rw [x_and_t (g1 := g) (by
          rw [x_cmp (d := .int xs.length) (g1 := g) (d2 := .int len) (g2 := g) (len_tup (xs := xs) rfl) rfl]
          simp only [cmpD, eqG_int, h, decide_true]
          rfl)]
        rw [all_ints hk (n := m) (s := 3) (xs := xs) (hi := n - 1) rfl hv (by simp) (fun x => rfl)]
        simp only [isNexts, h, decide_true, Bool.true_and]
        rfl
    · refine body_rt0 rfl ?_ rfl
      unfold bG_nexts
      rw [show start 4 [.tup xs, .int n, .int len] = [some (.tup xs), some (.int n), some (.int len), none] from rfl]
      refine st_ret ?_
      rw [x_and_t (isi_tup (xs := xs) rfl)]
      rw [x_and_f (g1 := g) (by
          rw [x_cmp (d := .int xs.length) (g1 := g) (d2 := .int len) (g2 := g) (len_tup (xs := xs) rfl) rfl]
          simp only [cmpD, eqG_int, h, decide_false]
          rfl)]
      simp only [isNexts, h, decide_false, Bool.false_and]
  | _ =>
    refine body_rt0 rfl ?_ rfl
    unfold bG_nexts
    refine st_ret ?_
    exact x_and_f (isi_notup (g := g) rfl (notup_tree hv (by intro xs h; cases h)))
def NextsOk (cl : Cl) (i : Nat) : Prop := ∀ (g : G) (v : D) (m : Nat) (n len : Int), tree (m + 1) v = true → cl i [v, .int n, .int len] g = .ok (.bl (isNexts n len v)) g
def bG_row (cl : Cl) (k : Nat) : Sm :=
  (.seq (.asg (.tup 4 (tgCons (.name 3) (tgCons (.name 4) (tgCons (.name 5) (tgCons (.name 6) tgNil))))) (.loc 1))
  (.seq (.ite (.or (.not (.ex (.isi (.loc 0) .tuple))) (.ex (.cmp .ne (.bi .len (exCons (.loc 0) exNil)) (.cst (.int 4))))) (.ret (.cst (.bl false))) .skip)
  (.seq (.asg (.tup 4 (tgCons (.name 7) (tgCons (.name 8) (tgCons (.name 9) (tgCons (.name 10) tgNil))))) (.loc 0))
  (.seq (.ite (.or (.not (.ex (.call cl k (exCons (.loc 7) (exCons (.loc 2) (exCons (.loc 6) exNil)))))) (.or (.not (.ex (.call cl k (exCons (.loc 8) (exCons (.loc 2) (exCons (.loc 4) exNil)))))) (.not (.ex (.call cl k (exCons (.loc 9) (exCons (.loc 2) (exCons (.loc 5) exNil)))))))) (.ret (.cst (.bl false))) .skip)
  (.seq (.ite (.or (.not (.ex (.isi (.loc 10) .tuple))) (.ex (.cmp .ne (.bi .len (exCons (.loc 10) exNil)) (.loc 5)))) (.ret (.cst (.bl false))) .skip)
  (.ret (.bi .all (exCons (.comp [11] (.of (.loc 10)) (.name 11) .tt (.call cl k (exCons (.loc 11) (exCons (.loc 2) (exCons (.bin .mul (.loc 2) (.loc 4)) exNil))))) exNil))))))))
def isBacks (a b n : Nat) : D → Bool
  | .tup bs => decide (bs.length = b) && bs.all (isNexts n ((n : Int) * a))
  | _ => false
def isRow (a b c n : Nat) : D → Bool
  | .tup [p, q, f, k] => isNexts n c p && (isNexts n a q && (isNexts n b f && isBacks a b n k))
  | _ => false
theorem isRow_no {a b c n : Nat} {v : D} (h : ∀ xs, v ≠ .tup xs) : isRow a b c n v = false := by
  cases v with
  | tup xs => exact absurd rfl (h xs)
  | _ => rfl
theorem isRow_len {a b c n : Nat} {xs : List D} (h : xs.length ≠ 4) : isRow a b c n (.tup xs) = false := by
  match xs, h with
  | [], _ => rfl
  | [_], _ => rfl
  | [_, _], _ => rfl
  | [_, _, _], _ => rfl
  | [_, _, _, _], h => exact absurd rfl h
  | _ :: _ :: _ :: _ :: _ :: _, _ => rfl
theorem isBacks_no {a b n : Nat} {v : D} (h : ∀ xs, v ≠ .tup xs) : isBacks a b n v = false := by
  cases v with
  | tup xs => exact absurd rfl (h xs)
  | _ => rfl
theorem isRow4 {a b c n : Nat} {p q f k : D} : isRow a b c n (.tup [p, q, f, k]) = ((isNexts n c p && (isNexts n a q && isNexts n b f)) && isBacks a b n k) := by
  show (isNexts n c p && (isNexts n a q && (isNexts n b f && isBacks a b n k))) = _
  cases isNexts n c p <;> cases isNexts n a q <;> cases isNexts n b f <;> cases isBacks a b n k <;> rfl
theorem isTup_or (v : D) : (∃ xs, v = .tup xs) ∨ ∀ xs, v ≠ .tup xs := by
  cases v with
  | tup xs => exact .inl ⟨xs, rfl⟩
  | _ => exact .inr (fun _ h => by cases h)
theorem tree_le {n m : Nat} {xs : List D} (h : tree (n + 1) (.tup xs) = true) (x : D) (hx : x ∈ xs) (hn : n ≤ m) : tree m x = true := tree_mono ((tree_sub h).2 x hx) hn
theorem mul_int {i j : Int} {g : G} (h : i.natAbs < 2 ^ 60) : binop .mul (.int i) (.int j) g = .ok (.int (i * j)) g := by
  show (if bits i + bits j < 1000000 ∨ i.natAbs < 2 ^ 60 ∨ j.natAbs < 2 ^ 60 then _ else _) = _
  rw [if_pos (.inr (.inl h))]
theorem and4 : ∀ x y z w : Bool, (x && (y && (z && w))) = ((x && (y && z)) && w) := by decide
theorem row_spec {cl : Cl} {k : Nat} (hk : NextsOk cl k) {g : G} {v : D} {a b c n : Nat} (hn : n ≤ 100000) (hv : tree 4 v = true) : body 3 12 (bG_row cl k) [v, sgT a b c, .int n] g = .ok (.bl (isRow a b c n v)) g := by
  have s0 : bG_row cl k (start 12 [v, sgT a b c, .int n]) g = (Sm.seq (.ite (.or (.not (.ex (.isi (.loc 0) .tuple))) (.ex (.cmp .ne (.bi .len (exCons (.loc 0) exNil)) (.cst (.int 4))))) (.ret (.cst (.bl false))) .skip)
  (.seq (.asg (.tup 4 (tgCons (.name 7) (tgCons (.name 8) (tgCons (.name 9) (tgCons (.name 10) tgNil))))) (.loc 0))
  (.seq (.ite (.or (.not (.ex (.call cl k (exCons (.loc 7) (exCons (.loc 2) (exCons (.loc 6) exNil)))))) (.or (.not (.ex (.call cl k (exCons (.loc 8) (exCons (.loc 2) (exCons (.loc 4) exNil)))))) (.not (.ex (.call cl k (exCons (.loc 9) (exCons (.loc 2) (exCons (.loc 5) exNil)))))))) (.ret (.cst (.bl false))) .skip)
  (.seq (.ite (.or (.not (.ex (.isi (.loc 10) .tuple))) (.ex (.cmp .ne (.bi .len (exCons (.loc 10) exNil)) (.loc 5)))) (.ret (.cst (.bl false))) .skip)
  (.ret (.bi .all (exCons (.comp [11] (.of (.loc 10)) (.name 11) .tt (.call cl k (exCons (.loc 11) (exCons (.loc 2) (exCons (.bin .mul (.loc 2) (.loc 4)) exNil))))) exNil))))))) [some v, some (sgT a b c), some (.int n), some (.str (Str.ofString "signs")), some (.int a), some (.int b), some (.int c), none, none, none, none, none] g := by
    unfold bG_row
    rw [st_nx (st_asg (d := sgT a b c) (g1 := g) (g2 := g) rfl rfl)]
    rfl
  rcases isTup_or v with ⟨xs, rfl⟩ | hno
  · by_cases h4 : xs.length = 4
    · obtain ⟨p, q, f, k', rfl⟩ : ∃ p q f k', xs = [p, q, f, k'] := by
        match xs, h4 with
        | [p, q, f, k'], _ => exact ⟨p, q, f, k', rfl⟩
      have hsub := (tree_sub hv).2
      have tp := hsub p (by simp)
      have tq := hsub q (by simp)
      have tf := hsub f (by simp)
      have tk := hsub k' (by simp)
      have s1 : bG_row cl k (start 12 [.tup [p, q, f, k'], sgT a b c, .int n]) g = (Sm.seq (.ite (.or (.not (.ex (.call cl k (exCons (.loc 7) (exCons (.loc 2) (exCons (.loc 6) exNil)))))) (.or (.not (.ex (.call cl k (exCons (.loc 8) (exCons (.loc 2) (exCons (.loc 4) exNil)))))) (.not (.ex (.call cl k (exCons (.loc 9) (exCons (.loc 2) (exCons (.loc 5) exNil)))))))) (.ret (.cst (.bl false))) .skip)
  (.seq (.ite (.or (.not (.ex (.isi (.loc 10) .tuple))) (.ex (.cmp .ne (.bi .len (exCons (.loc 10) exNil)) (.loc 5)))) (.ret (.cst (.bl false))) .skip)
  (.ret (.bi .all (exCons (.comp [11] (.of (.loc 10)) (.name 11) .tt (.call cl k (exCons (.loc 11) (exCons (.loc 2) (exCons (.bin .mul (.loc 2) (.loc 4)) exNil))))) exNil))))) [some (.tup [p, q, f, k']), some (sgT a b c), some (.int n), some (.str (Str.ofString "signs")), some (.int a), some (.int b), some (.int c), some p, some q, some f, some k', none] g := by
        rw [s0]
        rw [st_nx (st_no (g1 := g) (by
          rw [t_or_f (t_not (k := true) (t_ex (isi_tup (xs := [p, q, f, k']) rfl)))]
          refine t_ex ?_
          rw [x_cmp (d := .int 4) (g1 := g) (d2 := .int 4) (g2 := g) (len_tup (xs := [p, q, f, k']) rfl) rfl]
          simp only [cmpD, neG_int]
          rfl))]
        rw [st_nx (st_asg (d := .tup [p, q, f, k']) (g1 := g) (g2 := g) rfl rfl)]
        rfl
      have nx : ∀ (w : D) (l : Nat), tree 3 w = true → cl k [w, .int n, .int l] g = .ok (.bl (isNexts n l w)) g := fun w l h => hk g w 2 n l h
      have t1 : Te.or (.not (.ex (.call cl k (exCons (.loc 7) (exCons (.loc 2) (exCons (.loc 6) exNil)))))) (.or (.not (.ex (.call cl k (exCons (.loc 8) (exCons (.loc 2) (exCons (.loc 4) exNil)))))) (.not (.ex (.call cl k (exCons (.loc 9) (exCons (.loc 2) (exCons (.loc 5) exNil))))))) [some (.tup [p, q, f, k']), some (sgT a b c), some (.int n), some (.str (Str.ofString "signs")), some (.int a), some (.int b), some (.int c), some p, some q, some f, some k', none] g = .ok (!(isNexts n c p && (isNexts n a q && isNexts n b f))) g := by
        have z : ∀ (δ : Env) (x y w : Ex) (d : D) (l : Nat), tree 3 d = true → x δ g = .ok d g → y δ g = .ok (.int n) g → w δ g = .ok (.int l) g → Te.not (.ex (.call cl k (exCons x (exCons y (exCons w exNil))))) δ g = .ok (!isNexts n l d) g := by
          intro δ x y w d l hd hx hy hw
          refine t_not (t_ex ?_)
          rw [x_call (xs_cons hx (xs_cons hy (xs_cons hw rfl)))]
          exact nx d l hd
        rw [t_or (z _ _ _ _ p c tp rfl rfl rfl)]
        cases isNexts n c p with
        | false => rfl
        | true =>
          rw [Bool.not_true, if_neg (by decide)]
          rw [t_or (z _ _ _ _ q a tq rfl rfl rfl)]
          cases isNexts n a q with
          | false => rfl
          | true =>
            rw [Bool.not_true, if_neg (by decide)]
            rw [z _ _ _ _ f b tf rfl rfl rfl]
            rfl
      cases hA : (isNexts n c p && (isNexts n a q && isNexts n b f)) with
      | false =>
        rw [hA] at t1
        refine body_rt0 rfl ?_ rfl
        rw [s1]
        refine st_rt ?_
        rw [st_if t1]
        rw [isRow4, hA]
        rfl
      | true =>
        rw [hA] at t1
        have hR : isRow a b c n (.tup [p, q, f, k']) = isBacks a b n k' := by rw [isRow4, hA, Bool.true_and]
        rcases isTup_or k' with ⟨bs, rfl⟩ | hno
        · by_cases hl : bs.length = b
          · refine body_rt (t := ?t) rfl ?h rfl
            case h =>
              rw [s1, st_nx (st_no t1)]
              rw [st_nx (st_no (g1 := g) (by
                rw [t_or_f (t_not (k := true) (t_ex (isi_tup (xs := bs) rfl)))]
                refine t_ex ?_
                rw [x_cmp (d := .int bs.length) (g1 := g) (d2 := .int b) (g2 := g) (len_tup (xs := bs) rfl) rfl]
                simp only [cmpD, neG_int, hl]
                simp [liftO]))]
              refine st_ret ?_
              rw [all_comp (w := .seq bs) (xs := bs) (g := g) (δ' := fun x => [some (.tup [p, q, f, .tup bs]), some (sgT a b c), some (.int n), some (.str (Str.ofString "signs")), some (.int a), some (.int b), some (.int c), some p, some q, some f, some (.tup bs), some x]) (isNexts n ((n : Int) * a)) rfl (fun _ => rfl) (fun x _ => rfl) (fun x hx => ?_) (tree_sub tk).1]
              · have e : isBacks a b n (.tup bs) = bs.all (isNexts n ((n : Int) * a)) := by
                  show (decide (bs.length = b) && _) = _
                  rw [decide_eq_true hl, Bool.true_and]
                rw [hR, e]
              · rw [x_call (ds := [x, .int n, .int ((n : Int) * a)]) (g1 := g)]
                · exact hk g x 1 n _ ((tree_sub tk).2 x hx)
                · refine xs_cons (g1 := g) rfl (xs_cons (g1 := g) rfl (xs_cons (g1 := g) ?_ rfl))
                  rw [x_bin (d := .int n) (g1 := g) (d2 := .int a) (g2 := g) rfl rfl]
                  exact mul_int (by omega)
          · refine body_rt0 rfl ?_ rfl
            rw [s1, st_nx (st_no t1)]
            refine st_rt ?_
            rw [st_if (g1 := g) (by
                rw [t_or_f (t_not (k := true) (t_ex (isi_tup (xs := bs) rfl)))]
                refine t_ex ?_
                rw [x_cmp (d := .int bs.length) (g1 := g) (d2 := .int b) (g2 := g) (len_tup (xs := bs) rfl) rfl]
                simp only [cmpD, neG_int]
                have : ¬ (bs.length : Int) = b := by omega
                simp [liftO, this])]
            have e : isBacks a b n (.tup bs) = false := by
              show (decide (bs.length = b) && _) = _
              rw [decide_eq_false hl, Bool.false_and]
            rw [hR, e]
            rfl
        · refine body_rt0 rfl ?_ rfl
          rw [s1, st_nx (st_no t1)]
          refine st_rt ?_
          rw [st_if (g1 := g) (t_or_t (t_not (k := false) (t_ex (isi_notup (d := k') rfl (notup_tree tk hno)))))]
          rw [hR, isBacks_no hno]
          rfl
    · refine body_rt0 rfl ?_ rfl
      rw [s0]
      refine st_rt ?_
      rw [st_if (g1 := g) (by
        rw [t_or_f (t_not (k := true) (t_ex (isi_tup (xs := xs) rfl)))]
        refine t_ex ?_
        rw [x_cmp (d := .int xs.length) (g1 := g) (d2 := .int 4) (g2 := g) (len_tup (xs := xs) rfl) rfl]
        simp only [cmpD, neG_int]
        have : ¬ (xs.length : Int) = 4 := by omega
        simp [liftO, this])]
      rw [isRow_len h4]
      rfl
  · refine body_rt0 rfl ?_ rfl
    rw [s0]
    refine st_rt ?_
    rw [st_if (g1 := g) (t_or_t (t_not (k := false) (t_ex (isi_notup (d := v) rfl (notup_tree hv hno)))))]
    rw [isRow_no hno]
    rfl
end DV
end
section
set_option Elab.async false
set_option linter.all false
set_option maxRecDepth 100000
set_option maxHeartbeats 1000000
namespace DV
open PySem
def bG_states (cl : Cl) (k as : Nat) : Sm :=
  (.seq (.ite (.or (.not (.ex (.isi (.loc 0) .tuple))) (.not (.ex (.bi .all (exCons (.comp [2] (.of (.loc 0)) (.name 2) .tt (.call cl k (exCons (.loc 2) (exCons (.cst (.int 0)) (exCons (.bin .sub (.loc 1) (.cst (.int 1))) exNil))))) exNil))))) (.ret (.cst (.bl false))) .skip)
  (.ret (.call cl as (exCons (.loc 0) exNil))))
/-- ascending whole numbers from 0, below n -/
def isStates (n : Int) : D → Bool
  | .tup xs => match ints? xs with
    | some ns => ns.all (fun i => decide (0 ≤ i) && decide (i ≤ n - 1)) && ascI ns
    | none => false
  | _ => false
def AscOk (cl : Cl) (i : Nat) : Prop := ∀ (g : G) (ns : List Int), ns.length ≤ 4096 → cl i [.tup (ns.map .int)] g = .ok (.bl (ascI ns)) g
theorem ints?_map : ∀ ns : List Int, ints? (ns.map .int) = some ns
  | [] => rfl
  | n :: ns => by rw [List.map_cons, ints?, ints?_map ns]; rfl
theorem ints?_some : ∀ {xs : List D} {ns : List Int}, ints? xs = some ns → xs = ns.map .int
  | [], ns, h => by cases h; rfl
  | .int i :: r, ns, h => by
    rw [ints?] at h
    cases q : ints? r with
    | none => rw [q] at h; cases h
    | some ms => rw [q] at h; cases h; rw [ints?_some q]; rfl
  | .non :: _, _, h => by cases h
  | .bl _ :: _, _, h => by cases h
  | .str _ :: _, _, h => by cases h
  | .tup _ :: _, _, h => by cases h
  | .ref _ :: _, _, h => by cases h
  | .fn _ :: _, _, h => by cases h
  | .exc _ _ :: _, _, h => by cases h
  | .rol _ :: _, _, h => by cases h
theorem all_isInt {n : Int} {ns : List Int} : (ns.map D.int).all (isInt 0 n) = ns.all (fun i => decide (0 ≤ i) && decide (i ≤ n)) := by
  rw [List.all_map]; rfl
theorem all_isInt_ints {n : Int} : ∀ {xs : List D}, xs.all (isInt 0 n) = true → ∃ ns, ints? xs = some ns
  | [], _ => ⟨[], rfl⟩
  | x :: xs, h => by
    rw [List.all_cons, Bool.and_eq_true] at h
    obtain ⟨ns, e⟩ := all_isInt_ints h.2
    have h1 := h.1
    cases x with
    | int i => exact ⟨i :: ns, by rw [ints?, e]; rfl⟩
    | _ => cases h1
theorem states_no {cl : Cl} {k as : Nat} {g : G} {v n : D} (h : noTup g v = true) : body 2 3 (bG_states cl k as) [v, n] g = .ok (.bl false) g := by
  refine body_rt0 rfl ?_ rfl
  unfold bG_states
  rw [show start 3 [v, n] = [some v, some n, none] from rfl]
  refine st_rt ?_
  rw [st_if (g1 := g) (t_or_t (t_not (k := false) (t_ex (isi_notup (d := v) rfl h))))]
  rfl
theorem states_spec {cl : Cl} {k as m : Nat} (hk : IntOk cl k) (ha : AscOk cl as) {g : G} {xs : List D} {n : Int} (hx : tree (m + 1) (.tup xs) = true) : body 2 3 (bG_states cl k as) [.tup xs, .int n] g = .ok (.bl (isStates n (.tup xs))) g := by
  have hall := all_ints hk (n := m) (s := 2) (a := .loc 0) (e := .bin .sub (.loc 1) (.cst (.int 1))) (δ := [some (.tup xs), some (.int n), none]) (g := g) (xs := xs) (hi := n - 1) rfl hx (by simp) (fun x => rfl)
  cases hA : xs.all (isInt 0 (n - 1)) with
  | false =>
    rw [hA] at hall
    have e : isStates n (.tup xs) = false := by
      cases q : ints? xs with
      | none => simp only [isStates, q]
      | some ns =>
        have e1 := ints?_some q
        subst e1
        rw [all_isInt] at hA
        simp only [isStates, ints?_map, hA, Bool.false_and]
    refine body_rt (t := ?t) rfl ?h rfl
    case h =>
      unfold bG_states
      rw [show start 3 [.tup xs, .int n] = [some (.tup xs), some (.int n), none] from rfl]
      refine st_rt ?_
      rw [st_if (g1 := g ++ [.lst ((xs.map (isInt 0 (n - 1))).map .bl)]) (by
        rw [t_or_f (t_not (k := true) (t_ex (isi_tup (xs := xs) rfl)))]
        exact t_not (k := false) (t_ex hall))]
      rw [e]
      rfl
  | true =>
    rw [hA] at hall
    obtain ⟨ns, q⟩ := all_isInt_ints hA
    have e1 := ints?_some q
    subst e1
    have e : isStates n (.tup (ns.map .int)) = ascI ns := by
      rw [all_isInt] at hA
      simp only [isStates, ints?_map, hA, Bool.true_and]
    have hl := (tree_sub hx).1
    rw [List.length_map] at hl
    refine body_rt (t := ?t2) rfl ?h2 rfl
    case h2 =>
      unfold bG_states
      rw [show start 3 [.tup (ns.map .int), .int n] = [some (.tup (ns.map .int)), some (.int n), none] from rfl]
      rw [st_nx (st_no (g1 := g ++ [.lst (((ns.map D.int).map (isInt 0 (n - 1))).map .bl)]) (by
        rw [t_or_f (t_not (k := true) (t_ex (isi_tup (xs := ns.map .int) rfl)))]
        exact t_not (k := true) (t_ex hall)))]
      refine st_ret ?_
      rw [x_call (ds := [.tup (ns.map .int)]) (g1 := g ++ [.lst (((ns.map D.int).map (isInt 0 (n - 1))).map .bl)]) rfl, ha _ ns hl, e]
def bG_isdef (cl : Cl) (sg st rw' : Nat) : Sm :=
  (.seq (.ite (.or (.not (.ex (.isi (.loc 0) .tuple))) (.or (.ex (.cmp .ne (.bi .len (exCons (.loc 0) exNil)) (.cst (.int 4)))) (.or (.ex (.cmp .ne (.idx (.loc 0) (.cst (.int 0))) (.cst (.str (Str.ofString "definite"))))) (.not (.ex (.call cl sg (exCons (.idx (.loc 0) (.cst (.int 1))) exNil))))))) (.ret (.cst (.bl false))) .skip)
  (.seq (.asg (.tup 4 (tgCons (.name 1) (tgCons (.name 2) (tgCons (.name 3) (tgCons (.name 4) tgNil))))) (.loc 0))
  (.seq (.ite (.or (.not (.ex (.isi (.loc 3) .tuple))) (.or (.not (.ex (.chain .le .le (.cst (.int 1)) (.bi .len (exCons (.loc 3) exNil)) (.cst (.int 40))))) (.not (.ex (.call cl st (exCons (.loc 4) (exCons (.bi .len (exCons (.loc 3) exNil)) exNil))))))) (.ret (.cst (.bl false))) .skip)
  (.ret (.bi .all (exCons (.comp [5] (.of (.loc 3)) (.name 5) .tt (.call cl rw' (exCons (.loc 5) (exCons (.loc 2) (exCons (.bi .len (exCons (.loc 3) exNil)) exNil))))) exNil))))))
theorem isdef_no {cl : Cl} {sg st rw' : Nat} {g : G} {v : D} (h : noTup g v = true) : body 1 6 (bG_isdef cl sg st rw') [v] g = .ok (.bl false) g := by
  refine body_rt0 rfl ?_ rfl
  unfold bG_isdef
  rw [show start 6 [v] = [some v, none, none, none, none, none] from rfl]
  refine st_rt ?_
  rw [st_if (g1 := g) (t_or_t (t_not (k := false) (t_ex (isi_notup (d := v) rfl h))))]
  rfl
theorem isdef_len {cl : Cl} {sg st rw' : Nat} {g : G} {xs : List D} (h : xs.length ≠ 4) : body 1 6 (bG_isdef cl sg st rw') [.tup xs] g = .ok (.bl false) g := by
  refine body_rt0 rfl ?_ rfl
  unfold bG_isdef
  rw [show start 6 [.tup xs] = [some (.tup xs), none, none, none, none, none] from rfl]
  refine st_rt ?_
  rw [st_if (g1 := g) (by
    rw [t_or_f (t_not (k := true) (t_ex (isi_tup (xs := xs) rfl)))]
    refine t_or_t (t_ex ?_)
    rw [x_cmp (d := .int xs.length) (g1 := g) (d2 := .int 4) (g2 := g) (len_tup (xs := xs) rfl) rfl]
    simp only [cmpD, neG_int]
    have : ¬ (xs.length : Int) = 4 := by omega
    simp [liftO, this])]
  rfl
/-- what it asks of a tuple of four whose signs are told -/
def isDef (a b c : Nat) (rw' en : D) : Bool := match rw' with
  | .tup rows => decide (1 ≤ rows.length) && (decide (rows.length ≤ 40) && (isStates rows.length en && rows.all (isRow a b c rows.length)))
  | _ => false
def SignsOk (cl : Cl) (i : Nat) : Prop := ∀ (g : G) (a b c : Nat), a ≤ 3 → b ≤ 3 → c ≤ 3 → cl i [sgT a b c] g = .ok (.bl (decide (1 ≤ a + b + c))) g
def StatesOk (cl : Cl) (i : Nat) : Prop := ∀ (g : G) (xs : List D) (m : Nat) (n : Int), tree (m + 1) (.tup xs) = true → cl i [.tup xs, .int n] g = .ok (.bl (isStates n (.tup xs))) g
def RowOk (cl : Cl) (i : Nat) : Prop := ∀ (g : G) (v : D) (a b c n : Nat), n ≤ 100000 → tree 4 v = true → cl i [v, sgT a b c, .int n] g = .ok (.bl (isRow a b c n v)) g
section
variable {cl : Cl} {sg st rw' : Nat} {g : G} {h : D} {a b c : Nat} {rws en : D}
theorem isdef_start (hs : SignsOk cl sg) (th : tree 1 h = true) (ha : a ≤ 3) (hb : b ≤ 3) (hc : c ≤ 3) : Te.or (.not (.ex (.isi (.loc 0) .tuple))) (.or (.ex (.cmp .ne (.bi .len (exCons (.loc 0) exNil)) (.cst (.int 4)))) (.or (.ex (.cmp .ne (.idx (.loc 0) (.cst (.int 0))) (.cst (.str (Str.ofString "definite"))))) (.not (.ex (.call cl sg (exCons (.idx (.loc 0) (.cst (.int 1))) exNil))))))
    [some (.tup [h, sgT a b c, rws, en]), none, none, none, none, none] g = .ok (!decide (h = .str (Str.ofString "definite")) || !decide (1 ≤ a + b + c)) g := by
  rw [t_or_f (t_not (k := true) (t_ex (isi_tup (xs := [h, sgT a b c, rws, en]) rfl)))]
  rw [t_or_f (g1 := g) (by
    refine t_ex ?_
    rw [x_cmp (d := .int 4) (g1 := g) (d2 := .int 4) (g2 := g) (len_tup (xs := [h, sgT a b c, rws, en]) rfl) rfl]
    simp only [cmpD, neG_int]
    rfl)]
  have e1 : Te.ex (.cmp .ne (.idx (.loc 0) (.cst (.int 0))) (.cst (.str (Str.ofString "definite")))) [some (.tup [h, sgT a b c, rws, en]), none, none, none, none, none] g = .ok (!decide (h = .str (Str.ofString "definite"))) g := by
    refine t_ex ?_
    rw [x_cmp (d := h) (g1 := g) (d2 := .str (Str.ofString "definite")) (g2 := g) (by simp [Ex.idx, Ex.loc, Ex.cst, DV.idx, atI, ixN, oD]) rfl]
    simp only [cmpD]
    rw [neG_str g th (by decide) (by decide +kernel)]
    rfl
  rw [t_or e1]
  cases decide (h = .str (Str.ofString "definite")) with
  | false => rfl
  | true =>
    rw [Bool.not_true, if_neg (by decide), Bool.false_or]
    refine t_not (t_ex ?_)
    rw [x_call (ds := [sgT a b c]) (g1 := g) (xs_cons (g1 := g) (by simp [Ex.idx, Ex.loc, Ex.cst, DV.idx, atI, ixN, oD]) rfl)]
    exact hs g a b c ha hb hc
theorem isdef_bad (hs : SignsOk cl sg) (th : tree 1 h = true) (ha : a ≤ 3) (hb : b ≤ 3) (hc : c ≤ 3) (hbad : (!decide (h = .str (Str.ofString "definite")) || !decide (1 ≤ a + b + c)) = true) : body 1 6 (bG_isdef cl sg st rw') [.tup [h, sgT a b c, rws, en]] g = .ok (.bl false) g := by
  refine body_rt0 rfl ?_ rfl
  unfold bG_isdef
  rw [show start 6 [.tup [h, sgT a b c, rws, en]] = [some (.tup [h, sgT a b c, rws, en]), none, none, none, none, none] from rfl]
  refine st_rt ?_
  rw [st_if (by rw [isdef_start hs th ha hb hc, hbad])]
  rfl
theorem isdef_notup (hs : SignsOk cl sg) (ha : a ≤ 3) (hb : b ≤ 3) (hc : c ≤ 3) (h1 : 1 ≤ a + b + c) (hn : noTup g rws = true) : body 1 6 (bG_isdef cl sg st rw') [.tup [.str (Str.ofString "definite"), sgT a b c, rws, en]] g = .ok (.bl false) g := by
  refine body_rt0 rfl ?_ rfl
  unfold bG_isdef
  rw [show start 6 [.tup [.str (Str.ofString "definite"), sgT a b c, rws, en]] = [some (.tup [.str (Str.ofString "definite"), sgT a b c, rws, en]), none, none, none, none, none] from rfl]
  rw [st_nx (st_no (by rw [isdef_start hs (by decide +kernel) ha hb hc, decide_eq_true rfl, decide_eq_true h1]; rfl))]
  rw [st_nx (st_asg (d := .tup [.str (Str.ofString "definite"), sgT a b c, rws, en]) (g1 := g) (g2 := g) (δ' := [some (.tup [.str (Str.ofString "definite"), sgT a b c, rws, en]), some (.str (Str.ofString "definite")), some (sgT a b c), some rws, some en, none]) rfl rfl)]
  refine st_rt ?_
  rw [st_if (g1 := g) (t_or_t (t_not (k := false) (t_ex (isi_notup (d := rws) rfl hn))))]
  rfl
theorem isdef_spec (hs : SignsOk cl sg) (hst : StatesOk cl st) (hrw : RowOk cl rw') (ha : a ≤ 3) (hb : b ≤ 3) (hc : c ≤ 3) (h1 : 1 ≤ a + b + c) {rows xs : List D} {m : Nat} (hr : tree 5 (.tup rows) = true) (he : tree (m + 1) (.tup xs) = true) :
    body 1 6 (bG_isdef cl sg st rw') [.tup [.str (Str.ofString "definite"), sgT a b c, .tup rows, .tup xs]] g = .ok (.bl (isDef a b c (.tup rows) (.tup xs))) g := by
  have hlr := (tree_sub hr).1
  have pre : ∀ r : RS, Sm.seq (.ite (.or (.not (.ex (.isi (.loc 3) .tuple))) (.or (.not (.ex (.chain .le .le (.cst (.int 1)) (.bi .len (exCons (.loc 3) exNil)) (.cst (.int 40))))) (.not (.ex (.call cl st (exCons (.loc 4) (exCons (.bi .len (exCons (.loc 3) exNil)) exNil))))))) (.ret (.cst (.bl false))) .skip)
        (.ret (.bi .all (exCons (.comp [5] (.of (.loc 3)) (.name 5) .tt (.call cl rw' (exCons (.loc 5) (exCons (.loc 2) (exCons (.bi .len (exCons (.loc 3) exNil)) exNil))))) exNil))) [some (.tup [.str (Str.ofString "definite"), sgT a b c, .tup rows, .tup xs]), some (.str (Str.ofString "definite")), some (sgT a b c), some (.tup rows), some (.tup xs), none] g = r →
      bG_isdef cl sg st rw' (start 6 [.tup [.str (Str.ofString "definite"), sgT a b c, .tup rows, .tup xs]]) g = r := by
    intro r h
    unfold bG_isdef
    rw [show start 6 [.tup [.str (Str.ofString "definite"), sgT a b c, .tup rows, .tup xs]] = [some (.tup [.str (Str.ofString "definite"), sgT a b c, .tup rows, .tup xs]), none, none, none, none, none] from rfl]
    rw [st_nx (st_no (by rw [isdef_start hs (by decide +kernel) ha hb hc, decide_eq_true rfl, decide_eq_true h1]; rfl))]
    rw [st_nx (st_asg (d := .tup [.str (Str.ofString "definite"), sgT a b c, .tup rows, .tup xs]) (g1 := g) (g2 := g) (δ' := [some (.tup [.str (Str.ofString "definite"), sgT a b c, .tup rows, .tup xs]), some (.str (Str.ofString "definite")), some (sgT a b c), some (.tup rows), some (.tup xs), none]) rfl rfl)]
    exact h
  have e2 : Te.not (.ex (.chain .le .le (.cst (.int 1)) (.bi .len (exCons (.loc 3) exNil)) (.cst (.int 40)))) [some (.tup [.str (Str.ofString "definite"), sgT a b c, .tup rows, .tup xs]), some (.str (Str.ofString "definite")), some (sgT a b c), some (.tup rows), some (.tup xs), none] g = .ok (!(decide (1 ≤ rows.length) && decide (rows.length ≤ 40))) g := by
    refine t_not (t_ex ?_)
    show (R.ok (D.int 1) g).bind _ = _
    rw [R.bind_ok, len_tup (xs := rows) rfl, R.bind_ok]
    show (match some (decide ((1 : Int) ≤ rows.length)) with
      | some true => (R.ok (D.int 40) g).bind fun z g => liftO (cmpD .le (.int rows.length) z g) g
      | some false => .ok (.bl false) g
      | none => .stuck) = _
    by_cases q : 1 ≤ rows.length
    · have q' : (1 : Int) ≤ rows.length := by omega
      rw [decide_eq_true q, decide_eq_true q', Bool.true_and]
      show R.ok (D.bl (decide ((rows.length : Int) ≤ 40))) g = _
      have z : decide ((rows.length : Int) ≤ 40) = decide (rows.length ≤ 40) := by rw [decide_eq_decide]; omega
      rw [z]
    · have q' : ¬ (1 : Int) ≤ rows.length := by omega
      rw [decide_eq_false q, decide_eq_false q']
      rfl
  have e3 : Te.not (.ex (.call cl st (exCons (.loc 4) (exCons (.bi .len (exCons (.loc 3) exNil)) exNil)))) [some (.tup [.str (Str.ofString "definite"), sgT a b c, .tup rows, .tup xs]), some (.str (Str.ofString "definite")), some (sgT a b c), some (.tup rows), some (.tup xs), none] g = .ok (!isStates rows.length (.tup xs)) g := by
    refine t_not (t_ex ?_)
    rw [x_call (ds := [.tup xs, .int rows.length]) (g1 := g) (xs_cons (g1 := g) rfl (xs_cons (g1 := g) (len_tup (xs := rows) rfl) rfl))]
    exact hst g xs m _ he
  have t1 : Te.or (.not (.ex (.isi (.loc 3) .tuple))) (.or (.not (.ex (.chain .le .le (.cst (.int 1)) (.bi .len (exCons (.loc 3) exNil)) (.cst (.int 40))))) (.not (.ex (.call cl st (exCons (.loc 4) (exCons (.bi .len (exCons (.loc 3) exNil)) exNil)))))) [some (.tup [.str (Str.ofString "definite"), sgT a b c, .tup rows, .tup xs]), some (.str (Str.ofString "definite")), some (sgT a b c), some (.tup rows), some (.tup xs), none] g
      = .ok (!((decide (1 ≤ rows.length) && decide (rows.length ≤ 40)) && isStates rows.length (.tup xs))) g := by
    rw [t_or_f (t_not (k := true) (t_ex (isi_tup (xs := rows) rfl)))]
    rw [t_or e2]
    cases (decide (1 ≤ rows.length) && decide (rows.length ≤ 40)) with
    | false => rfl
    | true =>
      rw [Bool.not_true, if_neg (by decide), e3, Bool.true_and]
  have eD : isDef a b c (.tup rows) (.tup xs) = (((decide (1 ≤ rows.length) && decide (rows.length ≤ 40)) && isStates rows.length (.tup xs)) && rows.all (isRow a b c rows.length)) := by
    show (_ && (_ && (_ && _))) = _
    generalize decide (1 ≤ rows.length) = x
    generalize decide (rows.length ≤ 40) = y
    generalize isStates rows.length (.tup xs) = z
    generalize rows.all (isRow a b c rows.length) = w
    revert x y z w
    decide
  cases hA : ((decide (1 ≤ rows.length) && decide (rows.length ≤ 40)) && isStates rows.length (.tup xs)) with
  | false =>
    refine body_rt0 rfl (pre _ ?_) rfl
    rw [hA] at t1 eD
    refine st_rt ?_
    rw [st_if t1, eD]
    rfl
  | true =>
    rw [hA] at t1 eD
    refine body_rt (t := ?t3) rfl ?h3 rfl
    case h3 =>
      refine pre _ ?_
      rw [st_nx (st_no t1)]
      refine st_ret ?_
      rw [all_comp (w := .seq rows) (xs := rows) (g := g) (δ' := fun x => [some (.tup [.str (Str.ofString "definite"), sgT a b c, .tup rows, .tup xs]), some (.str (Str.ofString "definite")), some (sgT a b c), some (.tup rows), some (.tup xs), some x]) (isRow a b c rows.length) rfl (fun _ => rfl) (fun x _ => rfl) (fun x hx => ?_) hlr]
      · rw [eD, Bool.true_and]
      · rw [x_call (ds := [x, sgT a b c, .int rows.length]) (g1 := g) (xs_cons (g1 := g) rfl (xs_cons (g1 := g) rfl (xs_cons (g1 := g) (len_tup (xs := rows) rfl) rfl)))]
        exact hrw g x a b c rows.length (by omega) ((tree_sub hr).2 x hx)
end
end DV
end
section
set_option Elab.async false
set_option linter.all false
set_option maxRecDepth 100000
set_option maxHeartbeats 1000000
namespace DV
open PySem
/-! ### _law_definite: a drawn machine -/
structure RowL where
  p : List Int
  q : List Int
  f : List Int
  k : List (List Int)
def iT (ns : List Int) : D := .tup (ns.map .int)
def rowD (r : RowL) : D := .tup [iT r.p, iT r.q, iT r.f, .tup (r.k.map iT)]
def machD (a b c : Nat) (rows : List RowL) (ends : List Int) : D := .tup [.str (Str.ofString "definite"), sgT a b c, .tup (rows.map rowD), iT ends]
structure RowGood (a b c n : Nat) (r : RowL) : Prop where
  p1 : r.p.length = c
  p2 : IntsBelow n r.p
  q1 : r.q.length = a
  q2 : IntsBelow n r.q
  f1 : r.f.length = b
  f2 : IntsBelow n r.f
  k1 : r.k.length = b
  k2 : ∀ l ∈ r.k, l.length = n * a ∧ IntsBelow n l
/-- tuple([draw(n) for s in range(e)]) -/
def drawsE (cl : Cl) (dr s : Nat) (e : Ex) : Ex := .bi .tuple (exCons (.comp [s] (.range1 e) (.name s) .tt (.call cl dr (exCons (.loc 0) (exCons (.loc 3) exNil)))) exNil)
theorem x_draws {cl : Cl} {dr t c s m : Nat} {e : Ex} {δ : Env} {g : G} {n : Int} (hd : DrawOk cl dr t c) (h0 : TapeAt t c g) (d0 : δ[0]? = some (some (.ref t))) (d3 : δ[3]? = some (some (.int n))) (s0 : s ≠ 0) (s3 : s ≠ 3) (n1 : 1 ≤ n) (n2 : n < 2 ^ 60) (hm : m ≤ 4096) (he : e δ g = .ok (.int m) g) :
    ∃ ns g', drawsE cl dr s e δ g = .ok (iT ns) g' ∧ ns.length = m ∧ IntsBelow n ns ∧ Ts t c g g' := by
  have w0 : ∀ x : Option D, ((δ.set s none).set s x)[0]? = some (some (.ref t)) := fun x => by rw [List.set_set, List.getElem?_set_ne s0]; exact d0
  have w3 : ∀ x : Option D, ((δ.set s none).set s x)[3]? = some (some (.int n)) := fun x => by rw [List.set_set, List.getElem?_set_ne s3]; exact d3
  obtain ⟨ys, g2, c1, c2, c3, c4⟩ := comp_ts (t := t) (c := c) (it := .seq (rangeD 0 (m : Int))) (xs := rangeD 0 (m : Int)) (tg := Tg.name s) (e := .call cl dr (exCons (.loc 0) (exCons (.loc 3) exNil))) (δ := DV.wipe δ [s])
    (δ' := fun y => (δ.set s none).set s (some y)) (fun y => ∃ k, y = .int k ∧ 0 ≤ k ∧ k < n) (by rw [rangeD_len]; omega) (fun _ _ => rfl) (fun _ _ _ => rfl) (fun x _ g hg => by
      obtain ⟨k, g', e1, e2, e3, e4, _⟩ := hd g n hg n1 n2
      refine ⟨.int k, g', ?_, ⟨k, rfl, e2, e3⟩, e4⟩
      rw [x_call (ds := [.ref t, .int n]) (g1 := g)]
      · exact e1
      · refine xs_cons (g1 := g) ?_ (xs_cons (g1 := g) ?_ rfl)
        · unfold Ex.loc; rw [w0]
        · unfold Ex.loc; rw [w3]) h0
  obtain ⟨ns, rfl, hn⟩ := ints_of c3
  rw [List.length_map, rangeD_len] at c2
  exact ⟨ns, g2 ++ [O.lst (ns.map D.int)], x_tuple_of (x_comp (w := .seq (rangeD 0 (m : Int))) (g1 := g) (range1_it he hm) c1), c2, hn, c4.app _⟩
def bG_def (cl : Cl) (dr : Nat) : Sm :=
  (.seq (.asg (.name 3) (.bin .add (.cst (.int 1)) (.call cl dr (exCons (.loc 0) (exCons (.loc 2) exNil)))))
  (.seq (.asg (.name 4) (.lst exNil))
  (.seq (.for (.range1 (.loc 3)) (.name 5) (.seq (.asg (.name 7) (.bi .tuple (exCons (.comp [11] (.range1 (.idx (.loc 1) (.cst (.int 3)))) (.name 11) .tt (.call cl dr (exCons (.loc 0) (exCons (.loc 3) exNil)))) exNil)))
  (.seq (.asg (.name 8) (.bi .tuple (exCons (.comp [11] (.range1 (.idx (.loc 1) (.cst (.int 1)))) (.name 11) .tt (.call cl dr (exCons (.loc 0) (exCons (.loc 3) exNil)))) exNil)))
  (.seq (.asg (.name 9) (.bi .tuple (exCons (.comp [11] (.range1 (.idx (.loc 1) (.cst (.int 2)))) (.name 11) .tt (.call cl dr (exCons (.loc 0) (exCons (.loc 3) exNil)))) exNil)))
  (.seq (.asg (.name 10) (.bi .tuple (exCons (.comp [12] (.range1 (.idx (.loc 1) (.cst (.int 2)))) (.name 12) .tt (.bi .tuple (exCons (.comp [11] (.range1 (.bin .mul (.loc 3) (.idx (.loc 1) (.cst (.int 1))))) (.name 11) .tt (.call cl dr (exCons (.loc 0) (exCons (.loc 3) exNil)))) exNil))) exNil)))
  (.ex (.mth .append (.loc 4) (exCons (.tup (exCons (.loc 7) (exCons (.loc 8) (exCons (.loc 9) (exCons (.loc 10) exNil))))) exNil))))))))
  (.seq (.asg (.name 6) (.bi .tuple (exCons (.comp [5] (.range1 (.loc 3)) (.name 5) (.ex (.cmp .eq (.call cl dr (exCons (.loc 0) (exCons (.cst (.int 2)) exNil))) (.cst (.int 0)))) (.loc 5)) exNil)))
  (.ret (.tup (exCons (.cst (.str (Str.ofString "definite"))) (exCons (.loc 1) (exCons (.bi .tuple (exCons (.loc 4) exNil)) (exCons (.loc 6) exNil))))))))))
theorem sub_range {n : Nat} {ys : List D} (h : ys.Sublist (rangeD 0 (n : Int))) : ∃ ns : List Int, ys = ns.map .int ∧ ns.length ≤ n ∧ IntsBelow n ns ∧ ascI ns = true := by
  have e : rangeD 0 (n : Int) = ((List.range n).map fun k : Nat => (k : Int)).map .int := by
    unfold rangeD
    rw [List.map_map]
    have : ((n : Int) - 0).toNat = n := by omega
    rw [this]
    refine List.map_congr_left fun k _ => ?_
    simp
  rw [e] at h
  obtain ⟨l, hl, rfl⟩ := List.sublist_map_iff.mp h
  obtain ⟨m, hm, rfl⟩ := List.sublist_map_iff.mp hl
  refine ⟨m.map fun k : Nat => (k : Int), rfl, ?_, ?_, ?_⟩
  · rw [List.length_map]; have := hm.length_le; rwa [List.length_range] at this
  · intro x hx
    obtain ⟨k, hk, rfl⟩ := List.mem_map.mp hx
    have := List.mem_range.mp (hm.subset hk)
    omega
  · have hp : m.Pairwise (· < ·) := List.Pairwise.sublist hm List.pairwise_lt_range
    clear hm hl h e
    induction m with
    | nil => rfl
    | cons a r ih =>
      cases r with
      | nil => rfl
      | cons b r =>
        rw [List.pairwise_cons] at hp
        have h1 := hp.1 b List.mem_cons_self
        have h2 := ih hp.2
        simp only [List.map_cons, ascI] at h2 ⊢
        rw [h2, Bool.and_true, decide_eq_true_eq]
        omega
theorem machD_low (k : Nat) {a b c : Nat} {rows : List RowL} {ends : List Int} : (machD a b c rows ends).low k = true := by
  have hi : ∀ ns : List Int, (iT ns).low k = true := fun ns => by show D.lows k _ = true; exact lows_ints k ns
  have hk : ∀ ls : List (List Int), D.lows k (ls.map iT) = true := fun ls => by
    induction ls with
    | nil => rfl
    | cons l r ih => rw [List.map_cons, D.lows, hi, ih]; rfl
  have hr : ∀ rs : List RowL, D.lows k (rs.map rowD) = true := fun rs => by
    induction rs with
    | nil => rfl
    | cons r rs ih =>
      rw [List.map_cons, D.lows, ih, Bool.and_true]
      show (D.low k (iT r.p) && (D.low k (iT r.q) && (D.low k (iT r.f) && (D.lows k (r.k.map iT) && true)))) = true
      rw [hi, hi, hi, hk]
      rfl
  show (true && ((D.low k (sgT a b c)) && (D.lows k (rows.map rowD) && ((iT ends).low k && true)))) = true
  rw [hr, hi]
  rfl
theorem IntsBelow.mono {n m : Int} {ns : List Int} (h : IntsBelow n ns) (hm : n ≤ m) : IntsBelow m ns := fun x hx => ⟨(h x hx).1, Int.lt_of_lt_of_le (h x hx).2 hm⟩
theorem def_spec {cl : Cl} {dr t c : Nat} {g : G} {a b cc most : Nat} (hd : DrawOk cl dr t c) (h0 : TapeAt t c g) (ha : a ≤ 3) (hb : b ≤ 3) (hc : cc ≤ 3) (hm1 : 1 ≤ most) (hm : most ≤ 50) :
    ∃ (rows : List RowL) (ends : List Int) (g' : G), body 3 13 (bG_def cl dr) [.ref t, sgT a b cc, .int most] g = .ok (machD a b cc rows ends) g' ∧ 1 ≤ rows.length ∧ rows.length ≤ most ∧ (∀ r ∈ rows, RowGood a b cc rows.length r) ∧ ends.length ≤ rows.length ∧ IntsBelow rows.length ends ∧ ascI ends = true ∧ Ts t c g g' ∧ g'.length = g.length := by
  obtain ⟨k, g1, k1, k2, k3, k4, k5⟩ := hd g (most : Int) h0 (by omega) (by omega)
  obtain ⟨j, rfl⟩ : ∃ j : Nat, k = j := ⟨k.toNat, by omega⟩
  have lt := h0.lt
  generalize hn : j + 1 = n
  have hnN : ((1 : Int) + (j : Int)) = (n : Int) := by omega
  -- the list of rows
  have rl : g1.length ≠ t ∧ g1.length ≠ c := by omega
  have loop : ∃ (rows : List RowL) (δ : Env) (g2 : G), forLoop (.seq (rangeD 0 (n : Int))) (.name 5) (Sm.seq (.asg (.name 7) (drawsE cl dr 11 (.idx (.loc 1) (.cst (.int 3)))))
      (.seq (.asg (.name 8) (drawsE cl dr 11 (.idx (.loc 1) (.cst (.int 1)))))
      (.seq (.asg (.name 9) (drawsE cl dr 11 (.idx (.loc 1) (.cst (.int 2)))))
      (.seq (.asg (.name 10) (.bi .tuple (exCons (.comp [12] (.range1 (.idx (.loc 1) (.cst (.int 2)))) (.name 12) .tt (drawsE cl dr 11 (.bin .mul (.loc 3) (.idx (.loc 1) (.cst (.int 1)))))) exNil)))
      (.ex (.mth .append (.loc 4) (exCons (.tup (exCons (.loc 7) (exCons (.loc 8) (exCons (.loc 9) (exCons (.loc 10) exNil))))) exNil))))))) fuel 0
      [some (.ref t), some (sgT a b cc), some (.int most), some (.int n), some (.ref g1.length), none, none, none, none, none, none, none, none] (g1 ++ [O.lst []]) = .ok (.nx δ) g2 ∧
      rows.length = n ∧ (∀ r ∈ rows, RowGood a b cc n r) ∧ Ts t c g g2 ∧ g2[g1.length]? = some (.lst (rows.map rowD)) ∧
      ∃ v5 v7 v8 v9 v10, δ = [some (.ref t), some (sgT a b cc), some (.int most), some (.int n), some (.ref g1.length), v5, none, v7, v8, v9, v10, none, none] := by
    refine for_steps (xs := rangeD 0 (n : Int)) (P := fun i δ g2 => ∃ rows : List RowL, rows.length = i ∧ (∀ r ∈ rows, RowGood a b cc n r) ∧ Ts t c g g2 ∧ g1.length < g2.length ∧ g2[g1.length]? = some (.lst (rows.map rowD)) ∧
      ∃ v5 v7 v8 v9 v10, δ = [some (.ref t), some (sgT a b cc), some (.int most), some (.int n), some (.ref g1.length), v5, none, v7, v8, v9, v10, none, none])
      (Q := fun r => ∃ (rows : List RowL) (δ : Env) (g2 : G), r = .ok (.nx δ) g2 ∧ rows.length = n ∧ (∀ r ∈ rows, RowGood a b cc n r) ∧ Ts t c g g2 ∧ g2[g1.length]? = some (.lst (rows.map rowD)) ∧
      ∃ v5 v7 v8 v9 v10, δ = [some (.ref t), some (sgT a b cc), some (.int most), some (.int n), some (.ref g1.length), v5, none, v7, v8, v9, v10, none, none]) (fun _ _ _ _ => rfl) ?_ ?_ fuel 0 _ _ ?_ (Nat.zero_le _) (by rw [rangeD_len]; unfold fuel; omega)
    · rintro i x δ g2 hx ⟨rows, r1, r2, r3, r4, r5, v5, v7, v8, v9, v10, rfl⟩
      have hi := (List.getElem?_eq_some_iff.mp hx).1
      rw [rangeD_len] at hi
      refine ⟨[some (.ref t), some (sgT a b cc), some (.int most), some (.int n), some (.ref g1.length), some x, none, v7, v8, v9, v10, none, none], g2, rfl, .inl ?_⟩
      have n2 : (n : Int) < 2 ^ 60 := by omega
      have n1 : (1 : Int) ≤ n := by omega
      obtain ⟨p, ga, pa, pb, pc, pd⟩ := x_draws (s := 11) (m := cc) (e := .idx (.loc 1) (.cst (.int 3))) (δ := [some (.ref t), some (sgT a b cc), some (.int most), some (.int n), some (.ref g1.length), some x, none, v7, v8, v9, v10, none, none]) hd r3.tp rfl rfl (by decide) (by decide) n1 n2 (by omega) (by simp [Ex.idx, Ex.loc, Ex.cst, sgT, DV.idx, atI, ixN, oD])
      obtain ⟨q, gb, qa, qb, qc, qd⟩ := x_draws (s := 11) (m := a) (e := .idx (.loc 1) (.cst (.int 1))) (δ := [some (.ref t), some (sgT a b cc), some (.int most), some (.int n), some (.ref g1.length), some x, none, some (iT p), v8, v9, v10, none, none]) hd pd.tp rfl rfl (by decide) (by decide) n1 n2 (by omega) (by simp [Ex.idx, Ex.loc, Ex.cst, sgT, DV.idx, atI, ixN, oD])
      obtain ⟨f, gc, fa, fb, fc, fd⟩ := x_draws (s := 11) (m := b) (e := .idx (.loc 1) (.cst (.int 2))) (δ := [some (.ref t), some (sgT a b cc), some (.int most), some (.int n), some (.ref g1.length), some x, none, some (iT p), some (iT q), v9, v10, none, none]) hd qd.tp rfl rfl (by decide) (by decide) n1 n2 (by omega) (by simp [Ex.idx, Ex.loc, Ex.cst, sgT, DV.idx, atI, ixN, oD])
      obtain ⟨ys, gd, c1, c2, c3, c4⟩ := comp_ts (t := t) (c := c) (it := .seq (rangeD 0 (b : Int))) (xs := rangeD 0 (b : Int)) (tg := Tg.name 12) (e := drawsE cl dr 11 (.bin .mul (.loc 3) (.idx (.loc 1) (.cst (.int 1))))) (δ := [some (.ref t), some (sgT a b cc), some (.int most), some (.int n), some (.ref g1.length), some x, none, some (iT p), some (iT q), some (iT f), v10, none, none])
        (δ' := fun y => [some (.ref t), some (sgT a b cc), some (.int most), some (.int n), some (.ref g1.length), some x, none, some (iT p), some (iT q), some (iT f), v10, none, some y]) (fun y => ∃ l : List Int, y = iT l ∧ l.length = n * a ∧ IntsBelow n l) (by rw [rangeD_len]; omega) (fun _ _ => rfl) (fun _ _ _ => rfl) (fun y _ g' hg => by
          have hna : n * a ≤ 4096 := by
            have : n * a ≤ 51 * 3 := Nat.mul_le_mul (by omega) ha
            omega
          obtain ⟨l, g'', l1, l2, l3, l4⟩ := x_draws (s := 11) (m := n * a) (e := .bin .mul (.loc 3) (.idx (.loc 1) (.cst (.int 1)))) (δ := [some (.ref t), some (sgT a b cc), some (.int most), some (.int n), some (.ref g1.length), some x, none, some (iT p), some (iT q), some (iT f), v10, none, some y]) hd hg rfl rfl (by decide) (by decide) n1 n2 hna (by
            rw [x_bin (d := .int n) (g1 := g') (d2 := .int a) (g2 := g') rfl (by simp [Ex.idx, Ex.loc, Ex.cst, sgT, DV.idx, atI, ixN, oD])]
            rw [mul_int (by omega)]
            simp)
          exact ⟨_, g'', l1, ⟨l, rfl, l2, l3⟩, l4⟩) fd.tp
      obtain ⟨ks, rfl, hks⟩ : ∃ ks : List (List Int), ys = ks.map iT ∧ ∀ l ∈ ks, l.length = n * a ∧ IntsBelow n l := by
        clear c1 c2
        induction ys with
        | nil => exact ⟨[], rfl, by simp⟩
        | cons y ys ih =>
          obtain ⟨l, rfl, l1⟩ := c3 y List.mem_cons_self
          obtain ⟨ks, rfl, h⟩ := ih fun z hz => c3 z (List.mem_cons_of_mem _ hz)
          exact ⟨l :: ks, rfl, fun z hz => by rcases List.mem_cons.mp hz with rfl | hz; exact l1; exact h z hz⟩
      rw [List.length_map, rangeD_len] at c2
      have Tf : Ts t c g2 (gd ++ [O.lst (ks.map iT)]) := (((pd.trans qd).trans fd).trans c4).app _
      have hrow : (gd ++ [O.lst (ks.map iT)])[g1.length]? = some (.lst (rows.map rowD)) := by
        rw [Tf.old _ r4 rl.1 rl.2]; exact r5
      have hlt : g1.length < (gd ++ [O.lst (ks.map iT)]).length := Nat.lt_of_lt_of_le r4 Tf.len
      let R : RowL := ⟨p, q, f, ks⟩
      refine ⟨[some (.ref t), some (sgT a b cc), some (.int most), some (.int n), some (.ref g1.length), some x, none, some (iT p), some (iT q), some (iT f), some (.tup (ks.map iT)), none, none], (gd ++ [O.lst (ks.map iT)]).set g1.length (.lst ((rows ++ [R]).map rowD)), .inl ?_, rows ++ [R], by simp [r1], fun r hr => ?_, ?_, by simpa using hlt, List.getElem?_set_self hlt, _, _, _, _, _, rfl⟩
      · rw [st_nx (st_set (i := 7) pa)]
        simp only [List.set_cons_succ, List.set_cons_zero]
        rw [st_nx (st_set (i := 8) qa)]
        simp only [List.set_cons_succ, List.set_cons_zero]
        rw [st_nx (st_set (i := 9) fa)]
        simp only [List.set_cons_succ, List.set_cons_zero]
        rw [st_nx (st_set (i := 10) (x_tuple_of (x_comp (w := .seq (rangeD 0 (b : Int))) (g1 := gc) (range1_it (n := b) (by simp [Ex.idx, Ex.loc, Ex.cst, sgT, DV.idx, atI, ixN, oD]) (by omega)) c1)))]
        simp only [List.set_cons_succ, List.set_cons_zero]
        refine st_ex (d := .non) ?_
        simp [Ex.mth, Ex.loc, isL, Mt.onLst, hrow, exCons, exNil, Ex.tup, DV.mth, LINE, R, rowD]
        omega
      · rcases List.mem_append.mp hr with hr | hr
        · exact r2 r hr
        · rw [List.mem_singleton] at hr
          subst hr
          exact ⟨pb, pc, qb, qc, fb, fc, c2, hks⟩
      · have T2 := r3.trans Tf
        refine ⟨?_, by simpa using T2.len, fun i hi e1 e2 => ?_⟩
        · obtain ⟨z1, cs, s, z2, z3, z4⟩ := T2.tp
          exact ⟨z1, cs, s, by rw [List.getElem?_set_ne rl.1]; exact z2, by rw [List.getElem?_set_ne rl.2]; exact z3, z4⟩
        · rw [List.getElem?_set_ne (by omega)]; exact T2.old i hi e1 e2
    · rintro δ g2 ⟨rows, r1, r2, r3, r4, r5, r6⟩
      rw [rangeD_len] at r1
      exact ⟨rows, δ, g2, rfl, r1, r2, r3, r5, r6⟩
    · exact ⟨[], rfl, by simp, k4.app _, by simp, by simp, none, none, none, none, none, rfl⟩
  obtain ⟨rows, δ, g2, hf, r1, r2, r3, r5, v5, v7, v8, v9, v10, rfl⟩ := loop
  -- the ends
  obtain ⟨ys, g3, c1, c2, c3⟩ := comp_fts (t := t) (c := c) (it := .seq (rangeD 0 (n : Int))) (xs := rangeD 0 (n : Int)) (tg := Tg.name 5) (cc := .ex (.cmp .eq (.call cl dr (exCons (.loc 0) (exCons (.cst (.int 2)) exNil))) (.cst (.int 0)))) (e := .loc 5) (δ := [some (.ref t), some (sgT a b cc), some (.int most), some (.int n), some (.ref g1.length), none, none, v7, v8, v9, v10, none, none])
    (δ' := fun y => [some (.ref t), some (sgT a b cc), some (.int most), some (.int n), some (.ref g1.length), some y, none, v7, v8, v9, v10, none, none]) (by rw [rangeD_len]; omega) (fun _ _ => rfl) (fun _ _ _ => rfl) (fun y _ g' hg => by
      obtain ⟨k, g'', e1, e2, e3, e4, _⟩ := hd g' 2 hg (by omega) (by omega)
      refine ⟨decide (k = 0), g'', t_ex ?_, e4⟩
      rw [x_cmp (d := .int k) (g1 := g'') (d2 := .int 0) (g2 := g'') (by rw [x_call (ds := [.ref t, .int 2]) (g1 := g') rfl]; exact e1) rfl]
      simp only [cmpD, eqG_int]
      rfl) (fun y _ g' => rfl) r3.tp
  obtain ⟨ends, rfl, e1, e2, e3⟩ := sub_range c2
  have hrow : (g3 ++ [O.lst (ends.map .int)])[g1.length]? = some (.lst (rows.map rowD)) := by
    have lt2 := (List.getElem?_eq_some_iff.mp r5).1
    rw [List.getElem?_append_left (Nat.lt_of_lt_of_le lt2 c3.len), c3.old _ lt2 rl.1 rl.2]; exact r5
  have e : bG_def cl dr (start 13 [.ref t, sgT a b cc, .int most]) g = .ok (.rt (machD a b cc rows ends)) (g3 ++ [O.lst (ends.map .int)]) := by
    unfold bG_def
    rw [show start 13 [.ref t, sgT a b cc, .int most] = [some (.ref t), some (sgT a b cc), some (.int most), none, none, none, none, none, none, none, none, none, none] from rfl]
    rw [st_nx (st_set (i := 3) (d := .int n) (g1 := g1) (by
      rw [x_bin (d := .int 1) (g1 := g) (d2 := .int j) (g2 := g1) rfl (by rw [x_call (ds := [.ref t, .int most]) (g1 := g) rfl]; exact k1)]
      show R.ok (D.int (1 + (j : Int))) g1 = _
      rw [hnN]))]
    simp only [List.set_cons_succ, List.set_cons_zero]
    rw [st_nx (st_set (i := 4) (d := .ref g1.length) (g1 := g1 ++ [O.lst []]) (x_lst (ds := []) (g1 := g1) rfl (by decide)))]
    simp only [List.set_cons_succ, List.set_cons_zero]
    rw [st_nx (by rw [st_for (range1_it (n := n) (g' := g1 ++ [O.lst []]) rfl (by omega))]; exact hf)]
    rw [st_nx (st_set (i := 6) (x_tuple_of (x_comp (w := .seq (rangeD 0 (n : Int))) (g1 := g2) (range1_it (n := n) rfl (by omega)) c1)))]
    simp only [List.set_cons_succ, List.set_cons_zero]
    refine st_ret ?_
    refine x_tup (ds := [.str (Str.ofString "definite"), sgT a b cc, .tup (rows.map rowD), iT ends]) (xs_cons (g1 := g3 ++ [O.lst (ends.map .int)]) rfl (xs_cons (g1 := g3 ++ [O.lst (ends.map .int)]) rfl (xs_cons (g1 := g3 ++ [O.lst (ends.map .int)]) ?_ rfl))) (by show 4 ≤ LINE; decide)
    rw [x_bi (ds := [.ref g1.length]) (g1 := g3 ++ [O.lst (ends.map .int)]) rfl]
    simp [bi, itemsK, hrow]
  obtain ⟨g4, h5, h6, h7⟩ := body_tape (np := 3) (n := 13) (ds := [.ref t, sgT a b cc, .int most]) h0 rfl e ((r3.trans c3).app _) (machD_low _)
  exact ⟨rows, ends, g4, h5, by omega, by omega, by rw [r1]; exact r2, by omega, by rw [r1]; exact e2, e3, h6, h7⟩
end DV
end
section
set_option Elab.async false
set_option linter.all false
set_option maxRecDepth 100000
set_option maxHeartbeats 1000000
namespace K32
open PySem DV
theorem c0 (m : Nat) : callN (m + 1) 0 = body 3 3 (b_is_integer (callN m)) := rfl
theorem c1 (m : Nat) : callN (m + 1) 1 = body 1 3 (b_are_ascending (callN m)) := rfl
theorem c2 (m : Nat) : callN (m + 1) 2 = body 1 2 (b_is_signs (callN m)) := rfl
theorem c3 (m : Nat) : callN (m + 1) 3 = body 1 1 (b_many_signs (callN m)) := rfl
theorem c4 (m : Nat) : callN (m + 1) 4 = body 2 3 (b_is_word_of (callN m)) := rfl
theorem c5 (m : Nat) : callN (m + 1) 5 = body 2 3 (b_are_states (callN m)) := rfl
theorem c6 (m : Nat) : callN (m + 1) 6 = body 2 2 (b_check_word (callN m)) := rfl
theorem c7 (m : Nat) : callN (m + 1) 7 = body 3 4 (b_are_nexts (callN m)) := rfl
theorem c8 (m : Nat) : callN (m + 1) 8 = body 3 12 (b_is_row (callN m)) := rfl
theorem c9 (m : Nat) : callN (m + 1) 9 = body 1 6 (b_is_definite (callN m)) := rfl
theorem c10 (m : Nat) : callN (m + 1) 10 = body 1 1 (b_check_definite (callN m)) := rfl
theorem c11 (m : Nat) : callN (m + 1) 11 = body 2 5 (b_Table___init__ (callN m)) := rfl
theorem c12 (m : Nat) : callN (m + 1) 12 = body 3 3 (b_Table_plain (callN m)) := rfl
theorem c13 (m : Nat) : callN (m + 1) 13 = body 3 3 (b_Table_call (callN m)) := rfl
theorem c14 (m : Nat) : callN (m + 1) 14 = body 3 3 (b_Table_free (callN m)) := rfl
theorem c15 (m : Nat) : callN (m + 1) 15 = body 5 5 (b_Table_back (callN m)) := rfl
theorem c16 (m : Nat) : callN (m + 1) 16 = body 2 2 (b_Table_is_end (callN m)) := rfl
theorem c17 (m : Nat) : callN (m + 1) 17 = body 4 7 (b_Table_step (callN m)) := rfl
theorem c18 (m : Nat) : callN (m + 1) 18 = body 2 5 (b_Table_read (callN m)) := rfl
theorem c19 (m : Nat) : callN (m + 1) 19 = body 2 3 (b_takes_definite (callN m)) := rfl
theorem c20 (m : Nat) : callN (m + 1) 20 = body 1 6 (b_opposite (callN m)) := rfl
theorem c21 (m : Nat) : callN (m + 1) 21 = body 1 3 (b__law_tape (callN m)) := rfl
theorem c22 (m : Nat) : callN (m + 1) 22 = body 2 4 (b__law_draw (callN m)) := rfl
theorem c23 (m : Nat) : callN (m + 1) 23 = body 2 2 (b__law_pick (callN m)) := rfl
theorem c24 (m : Nat) : callN (m + 1) 24 = body 2 3 (b__law_same (callN m)) := rfl
theorem c25 (m : Nat) : callN (m + 1) 25 = body 1 1 (b__law_signs (callN m)) := rfl
theorem c26 (m : Nat) : callN (m + 1) 26 = body 1 1 (b__law_many (callN m)) := rfl
theorem c27 (m : Nat) : callN (m + 1) 27 = body 3 4 (b__law_word (callN m)) := rfl
theorem c28 (m : Nat) : callN (m + 1) 28 = body 3 13 (b__law_definite (callN m)) := rfl
theorem c29 (m : Nat) : callN (m + 1) 29 = body 3 13 (b__law_step (callN m)) := rfl
theorem c30 (m : Nat) : callN (m + 1) 30 = body 2 4 (b__law_read (callN m)) := rfl
theorem c31 (m : Nat) : callN (m + 1) 31 = body 2 2 (b__law_is_taken (callN m)) := rfl
theorem c32 (m : Nat) : callN (m + 1) 32 = body 3 4 (b__law_call (callN m)) := rfl
theorem c33 (m : Nat) : callN (m + 1) 33 = body 1 22 (b_law (callN m)) := rfl
/-! ### the small defs -/
theorem intOk (m : Nat) : IntOk (callN (m + 1)) 0 := fun g v lo hi h => isint_spec (cl := callN m) h
theorem ascOk (m : Nat) : AscOk (callN (m + 1)) 1 := fun g ns h => asc_spec (cl := callN m) h
theorem signsOk (m : Nat) : SignsOk (callN (m + 2)) 2 := fun g a b c ha hb hc => issigns_spec (cl := callN (m + 1)) (intOk m) ha hb hc
theorem manyOk (m : Nat) : ManyOk (callN (m + 1)) 3 := fun g a b c => many_spec (cl := callN m)
theorem isword (m n : Nat) (g : G) (a b c : Nat) (xs : List D) (h : tree (n + 1) (.tup xs) = true) : callN (m + 2) 4 [sgT a b c, .tup xs] g = .ok (.bl (decide (xs.length ≤ 300) && xs.all (isInt 0 (((a + b + c : Nat) : Int) - 1)))) g := isword_spec (cl := callN (m + 1)) (intOk m) (manyOk m) h
theorem statesOk (m : Nat) : StatesOk (callN (m + 2)) 5 := fun g xs k n h => states_spec (cl := callN (m + 1)) (intOk m) (ascOk m) h
theorem nextsOk (m : Nat) : NextsOk (callN (m + 2)) 7 := fun g v k n len h => nexts_spec (cl := callN (m + 1)) (intOk m) h
theorem rowOk (m : Nat) : RowOk (callN (m + 3)) 8 := fun g v a b c n hn h => row_spec (cl := callN (m + 2)) (nextsOk m) hn h
theorem isdef (m k : Nat) (g : G) (a b c : Nat) (ha : a ≤ 3) (hb : b ≤ 3) (hc : c ≤ 3) (h1 : 1 ≤ a + b + c) (rows xs : List D) (hr : tree 5 (.tup rows) = true) (he : tree (k + 1) (.tup xs) = true) :
    callN (m + 4) 9 [.tup [.str (Str.ofString "definite"), sgT a b c, .tup rows, .tup xs]] g = .ok (.bl (isDef a b c (.tup rows) (.tup xs))) g := isdef_spec (cl := callN (m + 3)) (signsOk (m + 1)) (statesOk (m + 1)) (rowOk m) ha hb hc h1 hr he
theorem drawOk (m t c : Nat) : DrawOk (callN (m + 1)) 22 t c := fun g many h0 h1 h2 => draw_spec (cl := callN m) h0 h1 h2
theorem pickOk (m t c : Nat) : PickOk (callN (m + 2)) 23 t c := fun g r xs h0 h1 h2 h3 h4 h5 h6 => pick_spec (cl := callN (m + 1)) (drawOk m t c) h0 h1 h2 h3 h4 h5 h6
theorem same (n : Nat) (d : D) (h : tree n d = true) (m : Nat) (hm : n ≤ m) (g : G) : callN m 24 [d, d] g = .ok (.bl true) g := same_spec (C := callN) (i := 24) (fun _ _ _ => rfl) n d h m hm g

/-! ### a machine's steps -/
abbrev Kept := List (Int × Int)
def kD (kp : Kept) : D := .tup (kp.map fun p => .tup [.int p.1, .int p.2])
def nth (ns : List Int) (i : Int) : Int := ns.getD i.toNat 0
def rowAt (rows : List RowL) (s : Int) : RowL := rows.getD s.toNat ⟨[], [], [], []⟩
def stepM (a b : Nat) (rows : List RowL) (s : Int) (kp : Kept) (x : Int) : Int × Kept :=
  if x < a then (nth (rowAt rows s).q x, (s, x) :: kp)
  else if (a : Int) + b ≤ x then (nth (rowAt rows s).p (x - a - b), kp)
  else match kp with
    | [] => (nth (rowAt rows s).f (x - a), [])
    | p :: r => (nth ((rowAt rows s).k.getD (x - a).toNat []) (p.1 * a + p.2), r)
structure StOk (a n : Nat) (s : Int) (kp : Kept) : Prop where
  s0 : 0 ≤ s
  s1 : s < n
  k : ∀ p ∈ kp, 0 ≤ p.1 ∧ p.1 < n ∧ 0 ≤ p.2 ∧ p.2 < a
theorem atI_iT {ns : List Int} {i : Int} (h0 : 0 ≤ i) (h1 : i < ns.length) : atI (ns.map D.int) i = some (.int (nth ns i)) := by
  obtain ⟨j, rfl⟩ : ∃ j : Nat, i = j := ⟨i.toNat, by omega⟩
  have hj : j < ns.length := by omega
  rw [atI_nat (by rw [List.length_map]; exact hj)]
  simp [nth, hj]
theorem atI_rows {rows : List RowL} {s : Int} (h0 : 0 ≤ s) (h1 : s < rows.length) : atI (rows.map rowD) s = some (rowD (rowAt rows s)) ∧ rowAt rows s ∈ rows := by
  obtain ⟨j, rfl⟩ : ∃ j : Nat, s = j := ⟨s.toNat, by omega⟩
  have hj : j < rows.length := by omega
  rw [atI_nat (by rw [List.length_map]; exact hj)]
  have : rowAt rows (j : Int) = rows[j] := by simp [rowAt, hj]
  rw [this]
  exact ⟨by simp, List.getElem_mem hj⟩
theorem atI_k {ks : List (List Int)} {i : Int} (h0 : 0 ≤ i) (h1 : i < ks.length) : atI (ks.map iT) i = some (iT (ks.getD i.toNat [])) ∧ ks.getD i.toNat [] ∈ ks := by
  obtain ⟨j, rfl⟩ : ∃ j : Nat, i = j := ⟨i.toNat, by omega⟩
  have hj : j < ks.length := by omega
  rw [atI_nat (by rw [List.length_map]; exact hj)]
  have : ks.getD (j : Int).toNat [] = ks[j] := by simp [hj]
  rw [this]
  exact ⟨by simp, List.getElem_mem hj⟩
theorem nth_below {n : Int} {ns : List Int} {i : Int} (h : IntsBelow n ns) (h0 : 0 ≤ i) (h1 : i < ns.length) : 0 ≤ nth ns i ∧ nth ns i < n := by
  obtain ⟨j, rfl⟩ : ∃ j : Nat, i = j := ⟨i.toNat, by omega⟩
  have hj : j < ns.length := by omega
  have : nth ns (j : Int) = ns[j] := by simp [nth, hj]
  rw [this]
  exact h _ (List.getElem_mem hj)
theorem back_ix {a n : Nat} {u v : Int} (h1 : 0 ≤ u) (h2 : u < n) (h3 : 0 ≤ v) (h4 : v < a) : 0 ≤ u * a + v ∧ u * a + v < ((n * a : Nat) : Int) := by
  obtain ⟨x, rfl⟩ : ∃ x : Nat, u = x := ⟨u.toNat, by omega⟩
  obtain ⟨y, rfl⟩ : ∃ y : Nat, v = y := ⟨v.toNat, by omega⟩
  have hx' : x + 1 ≤ n := by omega
  have hy' : y < a := by omega
  have := Nat.mul_le_mul_right a hx'
  rw [Nat.add_mul] at this
  have e : ((x : Int) * a + y) = ((x * a + y : Nat) : Int) := by simp
  rw [e]
  omega
theorem stepM_ok {a b c : Nat} {rows : List RowL} (hg : ∀ r ∈ rows, RowGood a b c rows.length r) {s : Int} {kp : Kept} {x : Int} (h : StOk a rows.length s kp) (x0 : 0 ≤ x) (x1 : x < ((a + b + c : Nat) : Int)) : StOk a rows.length (stepM a b rows s kp x).1 (stepM a b rows s kp x).2 := by
  obtain ⟨_, hm⟩ := atI_rows h.s0 h.s1
  have R := hg _ hm
  unfold stepM
  by_cases h1 : x < a
  · rw [if_pos h1]
    obtain ⟨z1, z2⟩ := nth_below R.q2 x0 (by rw [R.q1]; exact h1)
    refine ⟨z1, z2, fun p hp => ?_⟩
    rcases List.mem_cons.mp hp with rfl | hp
    · exact ⟨h.s0, h.s1, x0, h1⟩
    · exact h.k p hp
  · rw [if_neg h1]
    by_cases h2 : (a : Int) + b ≤ x
    · rw [if_pos h2]
      obtain ⟨z1, z2⟩ := nth_below (i := x - a - b) R.p2 (by omega) (by rw [R.p1]; omega)
      exact ⟨z1, z2, h.k⟩
    · rw [if_neg h2]
      cases kp with
      | nil =>
        obtain ⟨z1, z2⟩ := nth_below (i := x - a) R.f2 (by omega) (by rw [R.f1]; omega)
        exact ⟨z1, z2, by simp⟩
      | cons p r =>
        obtain ⟨_, hk⟩ := atI_k (ks := (rowAt rows s).k) (i := x - a) (by omega) (by rw [R.k1]; omega)
        obtain ⟨l1, l2⟩ := R.k2 _ hk
        obtain ⟨p0, p1, p2, p3⟩ := h.k p List.mem_cons_self
        obtain ⟨b1, b2⟩ := back_ix p0 p1 p2 p3
        obtain ⟨z1, z2⟩ := nth_below l2 b1 (by rw [l1]; exact b2)
        exact ⟨z1, z2, fun q hq => h.k q (List.mem_cons_of_mem _ hq)⟩
/-! ### the law's step -/
theorem atI_last {α : Type} (xs : List α) (y : α) : atI (xs ++ [y]) (-1) = some y := by
  unfold atI ixN
  rw [if_neg (by decide), if_pos (by simp; omega)]
  simp
  have : ((-1 : Int) + (xs.length + 1)).toNat = xs.length := by omega
  rw [this]
  simp
theorem cut_init {α : Type} (xs : List α) (y : α) : cut (xs ++ [y]) none (some (xs.length : Int)) = xs := by
  unfold cut sIx
  simp
  rw [if_neg (by omega)]
  simp
theorem x_slc {e : Ex} {lo hi : Po} {δ : DV.Env} {g g1 g2 g3 : G} {d : D} {l u : Option Int} (h : e δ g = .ok d g1) (h1 : lo δ g1 = .ok l g2) (h2 : hi δ g2 = .ok u g3) : Ex.slc e lo hi δ g = slc d l u g3 := by
  show (e δ g).bind _ = _
  rw [h]
  show (lo δ g1).bind _ = _
  rw [h1]
  show (hi δ g2).bind _ = _
  rw [h2]
  rfl
theorem po_at {e : Ex} {δ : DV.Env} {g g1 : G} {i : Int} (h : e δ g = .ok (.int i) g1) : Po.at e δ g = .ok (some i) g1 := by
  show (e δ g).bind _ = _
  rw [h]
  rfl
theorem mul_comm_int {i j : Int} {g : G} (h : j.natAbs < 2 ^ 60) : binop .mul (.int i) (.int j) g = .ok (.int (i * j)) g := by
  show (if bits i + bits j < 1000000 ∨ i.natAbs < 2 ^ 60 ∨ j.natAbs < 2 ^ 60 then _ else _) = _
  rw [if_pos (.inr (.inr h))]

def kL (kp : Kept) : D := kD kp.reverse
theorem lstep {m : Nat} {g : G} {a b c : Nat} {rows : List RowL} {ends : List Int} (hg : ∀ r ∈ rows, RowGood a b c rows.length r) (ha3 : a ≤ 3) {s : Int} {kp : Kept} {x : Int} (h : StOk a rows.length s kp) (hl : kp.length ≤ 1000) (x0 : 0 ≤ x) (x1 : x < ((a + b + c : Nat) : Int)) :
    callN (m + 1) 29 [machD a b c rows ends, .tup [.int s, kL kp], .int x] g = .ok (.tup [.int (stepM a b rows s kp x).1, kL (stepM a b rows s kp x).2]) g := by
  obtain ⟨er, hm⟩ := atI_rows h.s0 h.s1
  have R := hg _ hm
  have hlow : ∀ (v : Int) (k : Kept), (D.tup [.int v, kL k]).low g.length = true := by
    intro v k
    have : ∀ l : Kept, D.lows g.length (l.map fun p => .tup [.int p.1, .int p.2]) = true := fun l => by
      induction l with
      | nil => rfl
      | cons p r ih => rw [List.map_cons, D.lows, ih]; rfl
    show (true && (D.lows g.length _ && true)) = true
    rw [this]; rfl
  rw [c29]
  refine body_rt0 rfl ?_ (hlow _ _)
  unfold b__law_step
  rw [show start 13 [machD a b c rows ends, .tup [.int s, kL kp], .int x] = [some (machD a b c rows ends), some (.tup [.int s, kL kp]), some (.int x), none, none, none, none, none, none, none, none, none, none] from rfl]
  rw [st_nx (st_par (d := sgT a b c) (g1 := g) (d2 := .tup (rows.map rowD)) (g2 := g) (by simp [Ex.idx, Ex.loc, Ex.cst, machD, DV.idx, atI, ixN, oD]) (by simp [Ex.idx, Ex.loc, Ex.cst, machD, DV.idx, atI, ixN, oD]))]
  simp only [List.set_cons_succ, List.set_cons_zero]
  rw [st_nx (st_asg (d := .tup [.int s, kL kp]) (g1 := g) (g2 := g) (δ' := [some (machD a b c rows ends), some (.tup [.int s, kL kp]), some (.int x), some (sgT a b c), some (.tup (rows.map rowD)), some (.int s), some (kL kp), none, none, none, none, none, none]) rfl rfl)]
  rw [st_nx (st_asg (d := rowD (rowAt rows s)) (g1 := g) (g2 := g) (δ' := [some (machD a b c rows ends), some (.tup [.int s, kL kp]), some (.int x), some (sgT a b c), some (.tup (rows.map rowD)), some (.int s), some (kL kp), some (iT (rowAt rows s).p), some (iT (rowAt rows s).q), some (iT (rowAt rows s).f), some (.tup ((rowAt rows s).k.map iT)), none, none]) (by rw [x_idx (d := .tup (rows.map rowD)) (g1 := g) (d2 := .int s) (g2 := g) rfl rfl]; show oD (atI _ _) g = _; rw [er]; rfl) rfl)]
  have s1 : ∀ δ : DV.Env, δ[3]? = some (some (sgT a b c)) → Ex.idx (.loc 3) (.cst (.int 1)) δ g = .ok (.int a) g := fun δ h => by simp [Ex.idx, Ex.loc, Ex.cst, h, sgT, DV.idx, atI, ixN, oD]
  have s2 : ∀ δ : DV.Env, δ[3]? = some (some (sgT a b c)) → Ex.idx (.loc 3) (.cst (.int 2)) δ g = .ok (.int b) g := fun δ h => by simp [Ex.idx, Ex.loc, Ex.cst, h, sgT, DV.idx, atI, ixN, oD]
  by_cases h1 : x < a
  · refine st_rt ?_
    rw [st_if (g1 := g) (t_ex (by rw [cmp_int (fun i j => decide (i < j)) (fun _ _ _ => rfl) (i := x) rfl (s1 _ rfl), decide_eq_true h1]))]
    have e : stepM a b rows s kp x = (nth (rowAt rows s).q x, (s, x) :: kp) := by unfold stepM; rw [if_pos h1]
    rw [e]
    refine st_ret (x_tup (ds := [.int (nth (rowAt rows s).q x), kL ((s, x) :: kp)]) (xs_cons (g1 := g) ?_ (xs_cons (g1 := g) ?_ rfl)) (by show 2 ≤ LINE; decide))
    · rw [x_idx (d := iT (rowAt rows s).q) (g1 := g) (d2 := .int x) (g2 := g) rfl rfl]
      show oD (atI _ _) g = _
      rw [atI_iT x0 (by rw [R.q1]; exact h1)]
      rfl
    · rw [x_bin (d := kL kp) (g1 := g) (d2 := .tup [.tup [.int s, .int x]]) (g2 := g) rfl rfl]
      show (if _ then _ else _) = _
      rw [if_pos (by simp [LINE]; omega)]
      simp [kL, kD]
  · rw [st_nx (st_no (g1 := g) (t_ex (by rw [cmp_int (fun i j => decide (i < j)) (fun _ _ _ => rfl) (i := x) rfl (s1 _ rfl), decide_eq_false h1])))]
    have sab : ∀ δ : DV.Env, δ[3]? = some (some (sgT a b c)) → Ex.bin .add (.idx (.loc 3) (.cst (.int 1))) (.idx (.loc 3) (.cst (.int 2))) δ g = .ok (.int ((a : Int) + b)) g := fun δ h => by rw [x_bin (s1 δ h) (s2 δ h)]; rfl
    by_cases h2 : (a : Int) + b ≤ x
    · refine st_rt ?_
      rw [st_if (g1 := g) (t_ex (by rw [cmp_int (fun i j => decide (j ≤ i)) (fun _ _ _ => rfl) (i := x) rfl (sab _ rfl), decide_eq_true h2]))]
      have e : stepM a b rows s kp x = (nth (rowAt rows s).p (x - a - b), kp) := by unfold stepM; rw [if_neg h1, if_pos h2]
      rw [e]
      refine st_ret (x_tup (ds := [.int (nth (rowAt rows s).p (x - a - b)), kL kp]) (xs_cons (g1 := g) ?_ (xs_cons (g1 := g) rfl rfl)) (by show 2 ≤ LINE; decide))
      rw [x_idx (d := iT (rowAt rows s).p) (g1 := g) (d2 := .int (x - a - b)) (g2 := g) rfl (by rw [x_bin (d := .int (x - a)) (g1 := g) (d2 := .int b) (g2 := g) (by rw [x_bin (d := .int x) (g1 := g) rfl (s1 _ rfl)]; rfl) (s2 _ rfl)]; rfl)]
      show oD (atI _ _) g = _
      rw [atI_iT (by omega) (by rw [R.p1]; omega)]
      rfl
    · rw [st_nx (st_no (g1 := g) (t_ex (by rw [cmp_int (fun i j => decide (j ≤ i)) (fun _ _ _ => rfl) (i := x) rfl (sab _ rfl), decide_eq_false h2])))]
      have sx : ∀ δ : DV.Env, δ[3]? = some (some (sgT a b c)) → δ[2]? = some (some (.int x)) → Ex.bin .sub (.loc 2) (.idx (.loc 3) (.cst (.int 1))) δ g = .ok (.int (x - a)) g := fun δ h h' => by rw [x_bin (d := .int x) (g1 := g) (by unfold Ex.loc; rw [h']) (s1 δ h)]; rfl
      cases kp with
      | nil =>
        refine st_rt ?_
        rw [st_if (g1 := g) (t_ex (by
          rw [x_cmp (d := .int 0) (g1 := g) (d2 := .int 0) (g2 := g) (len_tup (xs := []) rfl) rfl]
          simp only [cmpD, eqG_int]
          rfl))]
        have e : stepM a b rows s [] x = (nth (rowAt rows s).f (x - a), []) := by unfold stepM; rw [if_neg h1, if_neg h2]
        rw [e]
        refine st_ret (x_tup (ds := [.int (nth (rowAt rows s).f (x - a)), kL []]) (xs_cons (g1 := g) ?_ (xs_cons (g1 := g) rfl rfl)) (by show 2 ≤ LINE; decide))
        rw [x_idx (d := iT (rowAt rows s).f) (g1 := g) (d2 := .int (x - a)) (g2 := g) rfl (sx _ rfl rfl)]
        show oD (atI _ _) g = _
        rw [atI_iT (by omega) (by rw [R.f1]; omega)]
        rfl
      | cons p r =>
        have ek : kL (p :: r) = .tup ((r.reverse.map fun p : Int × Int => D.tup [.int p.1, .int p.2]) ++ [.tup [.int p.1, .int p.2]]) := by simp [kL, kD]
        obtain ⟨ekk, hk⟩ := atI_k (ks := (rowAt rows s).k) (i := x - a) (by omega) (by rw [R.k1]; omega)
        obtain ⟨l1, l2⟩ := R.k2 _ hk
        obtain ⟨p0, p1, p2, p3⟩ := h.k p List.mem_cons_self
        obtain ⟨b1, b2⟩ := back_ix p0 p1 p2 p3
        have e : stepM a b rows s (p :: r) x = (nth ((rowAt rows s).k.getD (x - a).toNat []) (p.1 * a + p.2), r) := by unfold stepM; rw [if_neg h1, if_neg h2]
        rw [e, ek]
        rw [st_nx (st_no (g1 := g) (t_ex (by
          rw [x_cmp (d := .int ((r.length + 1 : Nat) : Int)) (g1 := g) (d2 := .int 0) (g2 := g) (by rw [len_tup (xs := (r.reverse.map fun p : Int × Int => D.tup [.int p.1, .int p.2]) ++ [.tup [.int p.1, .int p.2]]) rfl]; simp) rfl]
          simp only [cmpD, eqG_int]
          have : ¬ (((r.length + 1 : Nat) : Int) = 0) := by omega
          rw [decide_eq_false this]
          rfl)))]
        rw [st_nx (st_asg (d := .tup [.int p.1, .int p.2]) (g1 := g) (g2 := g) (δ' := [some (machD a b c rows ends), some (.tup [.int s, .tup ((r.reverse.map fun p : Int × Int => D.tup [.int p.1, .int p.2]) ++ [.tup [.int p.1, .int p.2]])]), some (.int x), some (sgT a b c), some (.tup (rows.map rowD)), some (.int s), some (.tup ((r.reverse.map fun p : Int × Int => D.tup [.int p.1, .int p.2]) ++ [.tup [.int p.1, .int p.2]])), some (iT (rowAt rows s).p), some (iT (rowAt rows s).q), some (iT (rowAt rows s).f), some (.tup ((rowAt rows s).k.map iT)), some (.int p.1), some (.int p.2)]) (by
          rw [x_idx (d := .tup ((r.reverse.map fun p : Int × Int => D.tup [.int p.1, .int p.2]) ++ [.tup [.int p.1, .int p.2]])) (g1 := g) (d2 := .int (-1)) (g2 := g) rfl rfl]
          show oD (atI _ _) g = _
          rw [atI_last]
          rfl) rfl)]
        refine st_ret (x_tup (ds := [.int (nth ((rowAt rows s).k.getD (x - a).toNat []) (p.1 * a + p.2)), kL r]) (xs_cons (g1 := g) ?_ (xs_cons (g1 := g) ?_ rfl)) (by show 2 ≤ LINE; decide))
        · rw [x_idx (d := iT ((rowAt rows s).k.getD (x - a).toNat [])) (g1 := g) (d2 := .int (p.1 * a + p.2)) (g2 := g)]
          · show oD (atI _ _) g = _
            rw [atI_iT b1 (by rw [l1]; exact b2)]
            rfl
          · rw [x_idx (d := .tup ((rowAt rows s).k.map iT)) (g1 := g) (d2 := .int (x - a)) (g2 := g) rfl (sx _ rfl rfl)]
            show oD (atI _ _) g = _
            rw [ekk]
            rfl
          · rw [x_bin (d := .int (p.1 * a)) (g1 := g) (d2 := .int p.2) (g2 := g) ?_ rfl]
            · rfl
            · rw [x_bin (d := .int p.1) (g1 := g) rfl (s1 _ rfl)]
              exact mul_comm_int (by omega)
        · rw [x_slc (d := .tup ((r.reverse.map fun p : Int × Int => D.tup [.int p.1, .int p.2]) ++ [.tup [.int p.1, .int p.2]])) (g1 := g) (l := none) (g2 := g) (u := some (((r.reverse.map fun p : Int × Int => D.tup [.int p.1, .int p.2]).length : Nat) : Int)) (g3 := g) rfl rfl (po_at (by
            rw [x_bin (d := .int ((r.length + 1 : Nat) : Int)) (g1 := g) (d2 := .int 1) (g2 := g) (by rw [len_tup (xs := (r.reverse.map fun p : Int × Int => D.tup [.int p.1, .int p.2]) ++ [.tup [.int p.1, .int p.2]]) rfl]; simp) rfl]
            show DV.R.ok (D.int _) g = _
            simp))]
          show DV.R.ok (D.tup (cut _ _ _)) g = _
          rw [cut_init]
          rfl
end K32
end
section
set_option Elab.async false
set_option linter.all false
set_option maxRecDepth 100000
set_option maxHeartbeats 1000000
namespace K32
open PySem DV
abbrev stp (a b : Nat) (rows : List RowL) (st : Int × Kept) (x : Int) : Int × Kept := stepM a b rows st.1 st.2 x
def runM (a b : Nat) (rows : List RowL) (w : List Int) : Int × Kept := w.foldl (stp a b rows) (0, [])
theorem step_len {a b : Nat} {rows : List RowL} {s : Int} {kp : Kept} {x : Int} : (stepM a b rows s kp x).2.length ≤ kp.length + 1 := by
  unfold stepM
  split
  · simp
  · split
    · simp
    · cases kp with
      | nil => simp
      | cons p r => simp; omega
theorem fold_ok {a b c : Nat} {rows : List RowL} (hg : ∀ r ∈ rows, RowGood a b c rows.length r) : ∀ (w : List Int) (st : Int × Kept), StOk a rows.length st.1 st.2 → IntsBelow ((a + b + c : Nat) : Int) w → StOk a rows.length (w.foldl (stp a b rows) st).1 (w.foldl (stp a b rows) st).2 ∧ (w.foldl (stp a b rows) st).2.length ≤ st.2.length + w.length
  | [], st, h, _ => ⟨h, Nat.le_refl _⟩
  | x :: w, st, h, hw => by
    obtain ⟨x0, x1⟩ := hw x List.mem_cons_self
    obtain ⟨i1, i2⟩ := fold_ok hg w (stp a b rows st x) (stepM_ok hg h x0 x1) fun y hy => hw y (List.mem_cons_of_mem _ hy)
    have := step_len (a := a) (b := b) (rows := rows) (s := st.1) (kp := st.2) (x := x)
    exact ⟨i1, by rw [List.foldl_cons, List.length_cons]; show _ ≤ _; have e : (stp a b rows st x).2.length ≤ st.2.length + 1 := this; omega⟩
theorem run_ok {a b c : Nat} {rows : List RowL} (hg : ∀ r ∈ rows, RowGood a b c rows.length r) (h1 : 1 ≤ rows.length) (w : List Int) (hw : IntsBelow ((a + b + c : Nat) : Int) w) : StOk a rows.length (runM a b rows w).1 (runM a b rows w).2 ∧ (runM a b rows w).2.length ≤ w.length := by
  have := fold_ok hg w (0, []) ⟨by decide, by show (0 : Int) < _; omega, by simp⟩ hw
  simpa [runM] using this
theorem below_take {n : Int} {w : List Int} (h : IntsBelow n w) (i : Nat) : IntsBelow n (w.take i) := fun x hx => h x (List.mem_of_mem_take hx)
theorem run_take {a b : Nat} {rows : List RowL} {w : List Int} {i : Nat} {x : Int} (h : w[i]? = some x) : runM a b rows (w.take (i + 1)) = stp a b rows (runM a b rows (w.take i)) x := by
  rw [List.take_add_one, h]
  simp [runM]
theorem lread {m : Nat} {g : G} {a b c : Nat} {rows : List RowL} {ends : List Int} (hg : ∀ r ∈ rows, RowGood a b c rows.length r) (ha3 : a ≤ 3) (h1 : 1 ≤ rows.length) {w : List Int} (hw : IntsBelow ((a + b + c : Nat) : Int) w) (hl : w.length ≤ 400) :
    callN (m + 2) 30 [machD a b c rows ends, iT w] g = .ok (.tup [.int (runM a b rows w).1, kL (runM a b rows w).2]) g := by
  have hlow : ∀ (v : Int) (k : Kept), (D.tup [.int v, kL k]).low g.length = true := by
    intro v k
    have : ∀ l : Kept, D.lows g.length (l.map fun p => .tup [.int p.1, .int p.2]) = true := fun l => by
      induction l with
      | nil => rfl
      | cons p r ih => rw [List.map_cons, D.lows, ih]; rfl
    show (true && (D.lows g.length _ && true)) = true
    rw [this]; rfl
  rw [c30]
  have loop : ∃ v, forLoop (.seq (w.map .int)) (.name 3) (.asg (.name 2) (.call (callN (m + 1)) 29 (exCons (.loc 0) (exCons (.loc 2) (exCons (.loc 3) exNil))))) fuel 0 [some (machD a b c rows ends), some (iT w), some (.tup [.int 0, .tup []]), none] g =
      .ok (.nx [some (machD a b c rows ends), some (iT w), some (.tup [.int (runM a b rows w).1, kL (runM a b rows w).2]), v]) g := by
    refine for_steps (xs := w.map D.int) (P := fun i δ g' => g' = g ∧ ∃ v, δ = [some (machD a b c rows ends), some (iT w), some (.tup [.int (runM a b rows (w.take i)).1, kL (runM a b rows (w.take i)).2]), v]) (Q := fun r => ∃ v, r = .ok (.nx [some (machD a b c rows ends), some (iT w), some (.tup [.int (runM a b rows w).1, kL (runM a b rows w).2]), v]) g) (fun _ _ _ _ => rfl) ?_ ?_ fuel 0 _ _ ⟨rfl, none, rfl⟩ (Nat.zero_le _) (by rw [List.length_map]; unfold fuel; omega)
    · rintro i y δ g' hy ⟨rfl, v, rfl⟩
      rw [List.getElem?_map] at hy
      cases hx : w[i]? with
      | none => rw [hx] at hy; cases hy
      | some x =>
        rw [hx] at hy
        cases hy
        obtain ⟨x0, x1⟩ := hw x (List.mem_of_getElem? hx)
        obtain ⟨i1, i2⟩ := run_ok hg h1 (w.take i) (below_take hw i)
        have hlen : (runM a b rows (w.take i)).2.length ≤ 1000 := by rw [List.length_take] at i2; omega
        refine ⟨[some (machD a b c rows ends), some (iT w), some (.tup [.int (runM a b rows (w.take i)).1, kL (runM a b rows (w.take i)).2]), some (.int x)], g', rfl, .inl ⟨_, g', .inl (st_set (i := 2) (d := .tup [.int (stp a b rows (runM a b rows (w.take i)) x).1, kL (stp a b rows (runM a b rows (w.take i)) x).2]) (g1 := g') ?_), rfl, some (.int x), ?_⟩⟩
        · rw [x_call (ds := [machD a b c rows ends, .tup [.int (runM a b rows (w.take i)).1, kL (runM a b rows (w.take i)).2], .int x]) (g1 := g') rfl]
          exact lstep hg ha3 i1 hlen x0 x1
        · rw [run_take hx]
          rfl
    · rintro δ g' ⟨rfl, v, rfl⟩
      rw [List.length_map, List.take_length]
      exact ⟨v, rfl⟩
  obtain ⟨v, hf⟩ := loop
  refine body_rt0 rfl ?_ (hlow _ _)
  unfold b__law_read
  rw [show start 4 [machD a b c rows ends, iT w] = [some (machD a b c rows ends), some (iT w), none, none] from rfl]
  rw [st_nx (st_set (i := 2) (d := .tup [.int 0, .tup []]) (g1 := g) rfl)]
  simp only [List.set_cons_succ, List.set_cons_zero]
  rw [st_nx (by rw [st_for (w := .seq (w.map .int)) (g1 := g) rfl]; exact hf)]
  exact st_ret rfl
theorem ltaken {m : Nat} {g : G} {a b c : Nat} {rows : List RowL} {ends : List Int} (hg : ∀ r ∈ rows, RowGood a b c rows.length r) (ha3 : a ≤ 3) (h1 : 1 ≤ rows.length) {w : List Int} (hw : IntsBelow ((a + b + c : Nat) : Int) w) (hl : w.length ≤ 400) :
    callN (m + 3) 31 [machD a b c rows ends, iT w] g = .ok (.bl (ends.contains (runM a b rows w).1)) g := by
  rw [c31]
  refine body_rt0 rfl ?_ rfl
  unfold b__law_is_taken
  refine st_ret ?_
  rw [x_cmp (d := .int (runM a b rows w).1) (g1 := g) (d2 := iT ends) (g2 := g)]
  · show liftO (memG g _ _) g = _
    rw [memG_ints]
    rfl
  · rw [x_idx (d := .tup [.int (runM a b rows w).1, kL (runM a b rows w).2]) (g1 := g) (d2 := .int 0) (g2 := g) (by rw [x_call (ds := [machD a b c rows ends, iT w]) (g1 := g) rfl]; exact lread hg ha3 h1 hw hl) rfl]
    simp [DV.idx, atI, ixN, oD]
  · simp [Ex.idx, Ex.loc, Ex.cst, DV.start, machD, DV.idx, atI, ixN, oD]
/-! ### the program's table -/
def tabO (a b c : Nat) (rows : List RowL) (e : Nat) : O := .ins 0 [(Str.ofString "signs", sgT a b c), (Str.ofString "rows", .tup (rows.map rowD)), (Str.ofString "many", .int rows.length), (Str.ofString "ends", .ref e), (Str.ofString "first", .int 0)]
section
variable {g : G} {r e a b c : Nat} {rows : List RowL} (h : g[r]? = some (tabO a b c rows e))
include h
theorem fld_at {f : Str} {d : D} (hc : ((T[0]?.map fun k => k.fields.contains f) = some true) := by decide +kernel) (hl : ([(Str.ofString "signs", sgT a b c), (Str.ofString "rows", .tup (rows.map rowD)), (Str.ofString "many", .int rows.length), (Str.ofString "ends", .ref e), (Str.ofString "first", .int 0)] : List (Str × D)).lookup f = some d) : DV.fld T (.ref r) f g = .ok d g := by
  have e0 : DV.fld T (.ref r) f g = (match g[r]? with
    | some (.ins c fs) => match T[c]? with
      | some k => if k.fields.contains f then oD (fs.lookup f) g else .stuck
      | none => .stuck
    | _ => .stuck) := rfl
  rw [e0, h]
  show (match T[0]? with
    | some k => if k.fields.contains f then oD (([(Str.ofString "signs", sgT a b c), (Str.ofString "rows", .tup (rows.map rowD)), (Str.ofString "many", .int rows.length), (Str.ofString "ends", .ref e), (Str.ofString "first", .int 0)] : List (Str × D)).lookup f) g else .stuck
    | none => .stuck) = _
  cases q : T[0]? with
  | none => rw [q] at hc; cases hc
  | some k =>
    rw [q] at hc
    have hc' : k.fields.contains f = true := by simpa using hc
    dsimp only
    rw [if_pos hc', hl]
    rfl
theorem f_signs : DV.fld T (.ref r) (Str.ofString "signs") g = .ok (sgT a b c) g := fld_at h (hl := rfl)
theorem f_rows : DV.fld T (.ref r) (Str.ofString "rows") g = .ok (.tup (rows.map rowD)) g := fld_at h (hl := rfl)
theorem f_ends : DV.fld T (.ref r) (Str.ofString "ends") g = .ok (.ref e) g := fld_at h (hl := rfl)
theorem f_first : DV.fld T (.ref r) (Str.ofString "first") g = .ok (.int 0) g := fld_at h (hl := rfl)
theorem m_at {ex : Ex} {es : Exs} {δ : DV.Env} {g0 g2 : G} {mn : Str} {f : Nat} {cl : Cl} {ds : List D} (he : ex δ g0 = .ok (.ref r) g) (hs : es δ g = .ok ds g2) (hm : (T[0]?.bind fun k => k.meths.lookup mn) = some f := by decide +kernel) (hn : ([(Str.ofString "signs", sgT a b c), (Str.ofString "rows", .tup (rows.map rowD)), (Str.ofString "many", .int rows.length), (Str.ofString "ends", .ref e), (Str.ofString "first", .int 0)] : List (Str × D)).lookup mn = none := by rfl) : Ex.meth T cl ex mn es δ g0 = cl f (.ref r :: ds) g2 := by
  show (ex δ g0).bind _ = _
  rw [he, R.bind_ok]
  show (match g[r]? with
    | some (.ins c fs) => match T[c]? with
      | some t => match t.meths.lookup mn, fs.lookup mn with
        | some f, none => (es δ g).bind fun ds g => cl f (.ref r :: ds) g
        | _, _ => .stuck
      | none => .stuck
    | _ => .stuck) = _
  rw [h]
  show (match T[0]? with
    | some t => match t.meths.lookup mn, ([(Str.ofString "signs", sgT a b c), (Str.ofString "rows", .tup (rows.map rowD)), (Str.ofString "many", .int rows.length), (Str.ofString "ends", .ref e), (Str.ofString "first", .int 0)] : List (Str × D)).lookup mn with
      | some f, none => (es δ g).bind fun ds g => cl f (.ref r :: ds) g
      | _, _ => .stuck
    | none => .stuck) = _
  cases q : T[0]? with
  | none => rw [q] at hm; cases hm
  | some k =>
    rw [q] at hm
    have hm' : k.meths.lookup mn = some f := hm
    dsimp only
    rw [hm', hn]
    dsimp only
    rw [hs]
    rfl
end
end K32
end
section
set_option Elab.async false
set_option linter.all false
set_option maxRecDepth 100000
set_option maxHeartbeats 1000000
namespace K32
open PySem DV
theorem x_fld {ex : Ex} {δ : DV.Env} {g g1 : G} {f : Str} {d x : D} (h : ex δ g = .ok x g1) (hf : DV.fld T x f g1 = .ok d g1) : Ex.fld T ex f δ g = .ok d g1 := by
  show (ex δ g).bind _ = _
  rw [h]
  exact hf
section
variable {g : G} {r e a b c : Nat} {rows : List RowL} (h : g[r]? = some (tabO a b c rows e))
include h
theorem t_row {δ : DV.Env} {s i : Int} {w : D} (d0 : δ[0]? = some (some (.ref r))) (d1 : δ[1]? = some (some (.int s))) (s0 : 0 ≤ s) (s1 : s < rows.length) (hw : atI [iT (rowAt rows s).p, iT (rowAt rows s).q, iT (rowAt rows s).f, .tup ((rowAt rows s).k.map iT)] i = some w) :
    Ex.idx (.idx (.fld T (.loc 0) (Str.ofString "rows")) (.loc 1)) (.cst (.int i)) δ g = .ok w g := by
  obtain ⟨er, _⟩ := atI_rows s0 s1
  rw [x_idx (d := rowD (rowAt rows s)) (g1 := g) (d2 := .int i) (g2 := g) ?_ rfl]
  · show oD (atI _ _) g = _
    rw [show ([iT (rowAt rows s).p, iT (rowAt rows s).q, iT (rowAt rows s).f, .tup ((rowAt rows s).k.map iT)] : List D) = [iT (rowAt rows s).p, iT (rowAt rows s).q, iT (rowAt rows s).f, .tup ((rowAt rows s).k.map iT)] from rfl, hw]
    rfl
  · rw [x_idx (d := .tup (rows.map rowD)) (g1 := g) (d2 := .int s) (g2 := g) (x_fld (x := .ref r) (by unfold Ex.loc; rw [d0]) (f_rows h)) (by unfold Ex.loc; rw [d1])]
    show oD (atI _ _) g = _
    rw [er]
    rfl
theorem t_plain {m : Nat} {s i : Int} (s0 : 0 ≤ s) (s1 : s < rows.length) (i0 : 0 ≤ i) (i1 : i < (rowAt rows s).p.length) : callN (m + 1) 12 [.ref r, .int s, .int i] g = .ok (.int (nth (rowAt rows s).p i)) g := by
  rw [c12]
  refine body_rt0 rfl ?_ rfl
  unfold b_Table_plain
  refine st_ret ?_
  rw [x_idx (d := iT (rowAt rows s).p) (g1 := g) (d2 := .int i) (g2 := g) (t_row h rfl rfl s0 s1 rfl) rfl]
  show oD (atI _ _) g = _
  rw [atI_iT i0 i1]
  rfl
theorem t_call {m : Nat} {s i : Int} (s0 : 0 ≤ s) (s1 : s < rows.length) (i0 : 0 ≤ i) (i1 : i < (rowAt rows s).q.length) : callN (m + 1) 13 [.ref r, .int s, .int i] g = .ok (.int (nth (rowAt rows s).q i)) g := by
  rw [c13]
  refine body_rt0 rfl ?_ rfl
  unfold b_Table_call
  refine st_ret ?_
  rw [x_idx (d := iT (rowAt rows s).q) (g1 := g) (d2 := .int i) (g2 := g) (t_row h rfl rfl s0 s1 rfl) rfl]
  show oD (atI _ _) g = _
  rw [atI_iT i0 i1]
  rfl
theorem t_free {m : Nat} {s i : Int} (s0 : 0 ≤ s) (s1 : s < rows.length) (i0 : 0 ≤ i) (i1 : i < (rowAt rows s).f.length) : callN (m + 1) 14 [.ref r, .int s, .int i] g = .ok (.int (nth (rowAt rows s).f i)) g := by
  rw [c14]
  refine body_rt0 rfl ?_ rfl
  unfold b_Table_free
  refine st_ret ?_
  rw [x_idx (d := iT (rowAt rows s).f) (g1 := g) (d2 := .int i) (g2 := g) (t_row h rfl rfl s0 s1 rfl) rfl]
  show oD (atI _ _) g = _
  rw [atI_iT i0 i1]
  rfl
theorem t_back {m : Nat} {s i u v : Int} (ha3 : a ≤ 3) (s0 : 0 ≤ s) (s1 : s < rows.length) (i0 : 0 ≤ i) (i1 : i < (rowAt rows s).k.length) (b1 : 0 ≤ u * a + v) (b2 : u * a + v < ((rowAt rows s).k.getD i.toNat []).length) :
    callN (m + 1) 15 [.ref r, .int s, .int i, .int u, .int v] g = .ok (.int (nth ((rowAt rows s).k.getD i.toNat []) (u * a + v))) g := by
  rw [c15]
  refine body_rt0 rfl ?_ rfl
  unfold b_Table_back
  refine st_ret ?_
  obtain ⟨ekk, _⟩ := atI_k i0 i1
  rw [x_idx (d := iT ((rowAt rows s).k.getD i.toNat [])) (g1 := g) (d2 := .int (u * a + v)) (g2 := g)]
  · show oD (atI _ _) g = _
    rw [atI_iT b1 b2]
    rfl
  · rw [x_idx (d := .tup ((rowAt rows s).k.map iT)) (g1 := g) (d2 := .int i) (g2 := g) (t_row h rfl rfl s0 s1 rfl) rfl]
    show oD (atI _ _) g = _
    rw [ekk]
    rfl
  · rw [x_bin (d := .int (u * a)) (g1 := g) (d2 := .int v) (g2 := g) ?_ rfl]
    · rfl
    · rw [x_bin (d := .int u) (g1 := g) (d2 := .int a) (g2 := g) rfl]
      · exact mul_comm_int (by omega)
      · rw [x_idx (d := sgT a b c) (g1 := g) (d2 := .int 1) (g2 := g) (x_fld (x := .ref r) rfl (f_signs h)) rfl]
        rfl
theorem kD_low (k : Nat) (v : Int) (kp : Kept) : (D.tup [.int v, kD kp]).low k = true := by
  have : ∀ l : Kept, D.lows k (l.map fun p => .tup [.int p.1, .int p.2]) = true := fun l => by
    induction l with
    | nil => rfl
    | cons p r ih => rw [List.map_cons, D.lows, ih]; rfl
  show (true && (D.lows k _ && true)) = true
  rw [this]; rfl
theorem tree_kD {kp : Kept} (hl : kp.length ≤ 1000) : tree 3 (kD kp) = true := by
  refine tree_tup (by rw [List.length_map]; omega) fun x hx => ?_
  obtain ⟨p, _, rfl⟩ := List.mem_map.mp hx
  rfl
theorem pstep {m : Nat} (hg : ∀ r ∈ rows, RowGood a b c rows.length r) (ha3 : a ≤ 3) {s : Int} {kp : Kept} {x : Int} (hs : StOk a rows.length s kp) (hl : kp.length ≤ 1000) (x0 : 0 ≤ x) (x1 : x < ((a + b + c : Nat) : Int)) :
    callN (m + 2) 17 [.ref r, .int s, kD kp, .int x] g = .ok (.tup [.int (stepM a b rows s kp x).1, kD (stepM a b rows s kp x).2]) g := by
  obtain ⟨er, hm⟩ := atI_rows hs.s0 hs.s1
  have R := hg _ hm
  rw [c17]
  refine body_rt0 rfl ?_ (kD_low h _ _ _)
  unfold b_Table_step
  rw [show DV.start 7 [.ref r, .int s, kD kp, .int x] = [some (.ref r), some (.int s), some (kD kp), some (.int x), none, none, none] from rfl]
  rw [st_nx (st_asg (d := sgT a b c) (g1 := g) (g2 := g) (δ' := [some (.ref r), some (.int s), some (kD kp), some (.int x), some (.int c), some (.int a), some (.int b)]) (x_fld (x := .ref r) rfl (f_signs h)) rfl)]
  by_cases h1 : x < a
  · refine st_rt ?_
    rw [st_if (g1 := g) (t_ex (by rw [cmp_int (fun i j => decide (i < j)) (fun _ _ _ => rfl) (i := x) (j := a) rfl rfl, decide_eq_true h1]))]
    have e : stepM a b rows s kp x = (nth (rowAt rows s).q x, (s, x) :: kp) := by unfold stepM; rw [if_pos h1]
    rw [e]
    refine st_ret (x_tup (ds := [.int (nth (rowAt rows s).q x), kD ((s, x) :: kp)]) (xs_cons (g1 := g) ?_ (xs_cons (g1 := g) ?_ rfl)) (by show 2 ≤ LINE; decide))
    · rw [m_at h (f := 13) (ds := [.int s, .int x]) (g2 := g) rfl rfl]
      exact t_call h hs.s0 hs.s1 x0 (by rw [R.q1]; exact h1)
    · rw [x_bin (d := .tup [.tup [.int s, .int x]]) (g1 := g) (d2 := kD kp) (g2 := g) rfl rfl]
      show (if _ then _ else _) = _
      rw [if_pos (by simp [LINE]; omega)]
      rfl
  · rw [st_nx (st_no (g1 := g) (t_ex (by rw [cmp_int (fun i j => decide (i < j)) (fun _ _ _ => rfl) (i := x) (j := a) rfl rfl, decide_eq_false h1])))]
    by_cases h2 : (a : Int) + b ≤ x
    · refine st_rt ?_
      rw [st_if (g1 := g) (t_ex (by rw [cmp_int (fun i j => decide (j ≤ i)) (fun _ _ _ => rfl) (i := x) (j := (a : Int) + b) rfl rfl, decide_eq_true h2]))]
      have e : stepM a b rows s kp x = (nth (rowAt rows s).p (x - a - b), kp) := by unfold stepM; rw [if_neg h1, if_pos h2]
      rw [e]
      refine st_ret (x_tup (ds := [.int (nth (rowAt rows s).p (x - a - b)), kD kp]) (xs_cons (g1 := g) ?_ (xs_cons (g1 := g) rfl rfl)) (by show 2 ≤ LINE; decide))
      rw [m_at h (f := 12) (ds := [.int s, .int (x - a - b)]) (g2 := g) rfl rfl]
      exact t_plain h hs.s0 hs.s1 (by omega) (by rw [R.p1]; omega)
    · rw [st_nx (st_no (g1 := g) (t_ex (by rw [cmp_int (fun i j => decide (j ≤ i)) (fun _ _ _ => rfl) (i := x) (j := (a : Int) + b) rfl rfl, decide_eq_false h2])))]
      cases kp with
      | nil =>
        refine st_rt ?_
        rw [st_if (g1 := g) (t_ex (k := true) (by rw [x_cmp (d := kD []) (g1 := g) (d2 := .tup []) (g2 := g) rfl rfl]; rfl))]
        have e : stepM a b rows s [] x = (nth (rowAt rows s).f (x - a), []) := by unfold stepM; rw [if_neg h1, if_neg h2]
        rw [e]
        refine st_ret (x_tup (ds := [.int (nth (rowAt rows s).f (x - a)), kD []]) (xs_cons (g1 := g) ?_ (xs_cons (g1 := g) rfl rfl)) (by show 2 ≤ LINE; decide))
        rw [m_at h (f := 14) (ds := [.int s, .int (x - a)]) (g2 := g) rfl rfl]
        exact t_free h hs.s0 hs.s1 (by omega) (by rw [R.f1]; omega)
      | cons p r' =>
        obtain ⟨ekk, hk⟩ := atI_k (ks := (rowAt rows s).k) (i := x - a) (by omega) (by rw [R.k1]; omega)
        obtain ⟨l1, l2⟩ := R.k2 _ hk
        obtain ⟨p0, p1, p2, p3⟩ := hs.k p List.mem_cons_self
        obtain ⟨b1, b2⟩ := back_ix p0 p1 p2 p3
        have e : stepM a b rows s (p :: r') x = (nth ((rowAt rows s).k.getD (x - a).toNat []) (p.1 * a + p.2), r') := by unfold stepM; rw [if_neg h1, if_neg h2]
        rw [e]
        rw [st_nx (st_no (g1 := g) (t_ex (k := false) (by
          rw [x_cmp (d := kD (p :: r')) (g1 := g) (d2 := .tup []) (g2 := g) rfl rfl]
          show liftO (eqG g (kD (p :: r')) (.tup [])) g = _
          have z1 := snap_tree g (tree_kD h hl) (m := 64) (by decide)
          have z2 : snap 64 g (.tup []) = some (.tuple []) := rfl
          unfold eqG
          rw [z1, z2]
          rfl)))]
        refine st_ret (x_tup (ds := [.int (nth ((rowAt rows s).k.getD (x - a).toNat []) (p.1 * a + p.2)), kD r']) (xs_cons (g1 := g) ?_ (xs_cons (g1 := g) ?_ rfl)) (by show 2 ≤ LINE; decide))
        · rw [m_at h (f := 15) (ds := [.int s, .int (x - a), .int p.1, .int p.2]) (g2 := g) rfl (by simp [exCons, exNil, Ex.loc, Ex.bin, binop, Ex.idx, Ex.cst, kD, DV.idx, atI, ixN, oD])]
          exact t_back h ha3 hs.s0 hs.s1 (by omega) (by rw [R.k1]; omega) b1 (by rw [l1]; exact b2)
        · rw [x_slc (d := kD (p :: r')) (g1 := g) (l := some 1) (g2 := g) (u := none) (g3 := g) rfl rfl rfl]
          show DV.R.ok (D.tup (cut _ _ _)) g = _
          have : cut (((p :: r').map fun p : Int × Int => D.tup [.int p.1, .int p.2])) (some 1) none = (r'.map fun p : Int × Int => D.tup [.int p.1, .int p.2]) := by
            simp [cut, sIx, List.take_of_length_le]
          rw [this]
          rfl
theorem pread {m : Nat} (hg : ∀ r ∈ rows, RowGood a b c rows.length r) (ha3 : a ≤ 3) (h1 : 1 ≤ rows.length) {w : List Int} (hw : IntsBelow ((a + b + c : Nat) : Int) w) (hl : w.length ≤ 400) :
    callN (m + 3) 18 [.ref r, iT w] g = .ok (.tup [.int (runM a b rows w).1, kD (runM a b rows w).2]) g := by
  rw [c18]
  have loop : ∃ v, forLoop (.seq (w.map .int)) (.name 2) (.asg (.tup 2 (tgCons (.name 3) (tgCons (.name 4) tgNil))) (.meth T (callN (m + 2)) (.loc 0) (Str.ofString "step") (exCons (.loc 3) (exCons (.loc 4) (exCons (.loc 2) exNil))))) fuel 0 [some (.ref r), some (iT w), none, some (.int 0), some (.tup [])] g =
      .ok (.nx [some (.ref r), some (iT w), v, some (.int (runM a b rows w).1), some (kD (runM a b rows w).2)]) g := by
    refine for_steps (xs := w.map D.int) (P := fun i δ g' => g' = g ∧ ∃ v, δ = [some (.ref r), some (iT w), v, some (.int (runM a b rows (w.take i)).1), some (kD (runM a b rows (w.take i)).2)]) (Q := fun q => ∃ v, q = .ok (.nx [some (.ref r), some (iT w), v, some (.int (runM a b rows w).1), some (kD (runM a b rows w).2)]) g) (fun _ _ _ _ => rfl) ?_ ?_ fuel 0 _ _ ⟨rfl, none, rfl⟩ (Nat.zero_le _) (by rw [List.length_map]; unfold fuel; omega)
    · rintro i y δ g' hy ⟨rfl, v, rfl⟩
      rw [List.getElem?_map] at hy
      cases hx : w[i]? with
      | none => rw [hx] at hy; cases hy
      | some x =>
        rw [hx] at hy
        cases hy
        obtain ⟨x0, x1⟩ := hw x (List.mem_of_getElem? hx)
        obtain ⟨i1, i2⟩ := run_ok hg h1 (w.take i) (below_take hw i)
        have hlen : (runM a b rows (w.take i)).2.length ≤ 1000 := by rw [List.length_take] at i2; omega
        refine ⟨[some (.ref r), some (iT w), some (.int x), some (.int (runM a b rows (w.take i)).1), some (kD (runM a b rows (w.take i)).2)], g', rfl, .inl ⟨[some (.ref r), some (iT w), some (.int x), some (.int (stp a b rows (runM a b rows (w.take i)) x).1), some (kD (stp a b rows (runM a b rows (w.take i)) x).2)], g', .inl (st_asg (d := .tup [.int (stp a b rows (runM a b rows (w.take i)) x).1, kD (stp a b rows (runM a b rows (w.take i)) x).2]) (g1 := g') ?_ rfl), rfl, some (.int x), ?_⟩⟩
        · rw [m_at h (f := 17) (ds := [.int (runM a b rows (w.take i)).1, kD (runM a b rows (w.take i)).2, .int x]) (g2 := g') rfl rfl]
          exact pstep h hg ha3 i1 hlen x0 x1
        · rw [run_take hx]
    · rintro δ g' ⟨rfl, v, rfl⟩
      rw [List.length_map, List.take_length]
      exact ⟨v, rfl⟩
  obtain ⟨v, hf⟩ := loop
  refine body_rt0 rfl ?_ (kD_low h _ _ _)
  unfold b_Table_read
  rw [show DV.start 5 [.ref r, iT w] = [some (.ref r), some (iT w), none, none, none] from rfl]
  rw [st_nx (st_par (i := 3) (j := 4) (d := .int 0) (g1 := g) (d2 := .tup []) (g2 := g) (x_fld (x := .ref r) rfl (f_first h)) rfl)]
  simp only [List.set_cons_succ, List.set_cons_zero]
  rw [st_nx (by rw [st_for (w := .seq (w.map .int)) (g1 := g) rfl]; exact hf)]
  exact st_ret (x_tup (ds := [.int (runM a b rows w).1, kD (runM a b rows w).2]) rfl (by show 2 ≤ LINE; decide))
end
end K32
end
section
set_option Elab.async false
set_option linter.all false
set_option maxRecDepth 100000
set_option maxHeartbeats 1000000
namespace K32
open PySem DV
theorem dput_len (k v : D) : ∀ l : List (D × D), (dput l k v).length ≤ l.length + 1
  | [] => Nat.le_refl _
  | (k', v') :: r => by
    unfold dput
    split
    · simp
    · have := dput_len k v r
      simp only [List.length_cons]; omega
theorem dcomp_pure {xs : List D} {tg : Tg} {kx vx : Ex} {δ : DV.Env} {g : G} {δ' : D → DV.Env} (fk fv : D → D) (ht : ∀ x ∈ xs, tg x δ g = .ok (δ' x) g) (hk : ∀ x ∈ xs, kx (δ' x) g = .ok (fk x) g ∧ vx (δ' x) g = .ok (fv x) g ∧ keyOk 7 (fk x) = true) (hl : xs.length ≤ 4096) :
    ∀ (n i : Nat) (acc : List (D × D)), i ≤ xs.length → acc.length ≤ i → xs.length - i < n → dcompLoop (.seq xs) tg Te.tt kx vx δ n i acc g = .ok ((xs.drop i).foldl (fun a x => dput a (fk x) (fv x)) acc) g
  | 0, i, acc, _, _, h => absurd h (Nat.not_lt_zero _)
  | n + 1, i, acc, hi, ha, h => by
    rw [dcompLoop]
    show (match some xs[i]? with
      | none => DV.R.stuck
      | some none => DV.R.ok acc g
      | some (some d) => (tg d δ g).bind fun δ' g => (Te.tt δ' g).bind fun b g => if b then (kx δ' g).bind fun x g => (vx δ' g).bind fun y g => if acc.length < LINE ∧ keyOk 7 x then dcompLoop (.seq xs) tg Te.tt kx vx δ n (i + 1) (dput acc x y) g else .stuck
        else dcompLoop (.seq xs) tg Te.tt kx vx δ n (i + 1) acc g) = _
    by_cases hl' : i < xs.length
    · rw [List.getElem?_eq_getElem hl']
      have hm := List.getElem_mem hl'
      obtain ⟨h1, h2, h3⟩ := hk _ hm
      dsimp only
      rw [ht _ hm, R.bind_ok, show Te.tt (δ' xs[i]) g = .ok true g from rfl, R.bind_ok, if_pos rfl, h1, R.bind_ok, h2, R.bind_ok, if_pos ⟨by unfold LINE; omega, h3⟩]
      have := dput_len (fk xs[i]) (fv xs[i]) acc
      rw [dcomp_pure fk fv ht hk hl n (i + 1) _ hl' (by omega) (by omega), List.drop_eq_getElem_cons hl', List.foldl_cons]
    · have : i = xs.length := by omega
      subst this
      rw [List.getElem?_eq_none (Nat.le_refl _), List.drop_length]
      rfl
def dk (ends : List Int) : List (D × D) := (ends.map D.int).foldl (fun a x => dput a x (.bl true)) []
theorem dget_dput (k j v : D) : ∀ l : List (D × D), (dget (dput l k v) j).isSome = (decide (j = k) || (dget l j).isSome)
  | [] => by
    by_cases h : j = k
    · simp [dput, dget, h]
    · have : ¬ k = j := fun e => h e.symm
      simp [dput, dget, h, this]
  | (k', v') :: r => by
    unfold dput
    by_cases e : k' = k
    · rw [if_pos e]
      by_cases h : k' = j
      · simp [dget, h]
      · have : ¬ j = k := fun z => h (by rw [e, z])
        simp [dget, h, this]
    · rw [if_neg e]
      have ih := dget_dput k j v r
      by_cases h : k' = j
      · simp [dget, h]
      · simp only [dget, List.find?_cons, h, decide_false] at ih ⊢
        exact ih
theorem dk_get (ends : List Int) (s : Int) : (dget (dk ends) (.int s)).isSome = ends.contains s := by
  have : ∀ (l : List Int) (acc : List (D × D)), (dget ((l.map D.int).foldl (fun a x => dput a x (.bl true)) acc) (.int s)).isSome = (l.contains s || (dget acc (.int s)).isSome) := by
    intro l
    induction l with
    | nil => intro acc; simp
    | cons x r ih =>
      intro acc
      rw [List.map_cons, List.foldl_cons, ih, dget_dput, List.contains_cons]
      have : decide (D.int s = D.int x) = (s == x) := by rw [Bool.eq_iff_iff]; simp
      rw [this]
      cases r.contains s <;> cases (s == x) <;> simp
  have h := this ends []
  rw [show (dget [] (D.int s)).isSome = false from rfl, Bool.or_false] at h
  exact h
theorem setF_app {g t : G} {fs : List (Str × D)} {f : Str} {v : D} (hc : ((T[0]?.map fun k => k.fields.contains f) = some true) := by decide +kernel) (hl : fs.length < 1000) : setF T (.ref g.length) f v (g ++ ([.ins 0 fs] ++ t)) = .ok () (g ++ ([.ins 0 (DV.putF f v fs)] ++ t)) := by
  have e : (g ++ ([.ins 0 fs] ++ t))[g.length]? = some (O.ins 0 fs) := by simp
  have e0 : setF T (.ref g.length) f v (g ++ ([.ins 0 fs] ++ t)) = (match (g ++ ([.ins 0 fs] ++ t))[g.length]? with
    | some (O.ins c fs') => match T[c]? with
      | some k => if k.fields.contains f && decide (fs'.length < 1000) then DV.R.ok () ((g ++ ([O.ins 0 fs] ++ t)).set g.length (O.ins c (DV.putF f v fs'))) else DV.R.stuck
      | none => DV.R.stuck
    | _ => DV.R.stuck) := rfl
  rw [e0, e]
  show (match T[0]? with
      | some k => if k.fields.contains f && decide (fs.length < 1000) then DV.R.ok () ((g ++ ([O.ins 0 fs] ++ t)).set g.length (O.ins 0 (DV.putF f v fs))) else DV.R.stuck
      | none => DV.R.stuck) = _
  cases q : T[0]? with
  | none => rw [q] at hc; cases hc
  | some k =>
    rw [q] at hc
    have hc' : k.fields.contains f = true := by simpa using hc
    dsimp only
    rw [hc', decide_eq_true hl, Bool.true_and, if_pos rfl]
    congr 1
    simp
theorem tg_fld {o : Ex} {f : Str} {v x : D} {δ : DV.Env} {g g1 : G} (h : o δ g = .ok x g) (hs : setF T x f v g = .ok () g1) : Tg.fld T o f v δ g = .ok δ g1 := by
  show (o δ g).bind _ = _
  rw [h]
  show (setF T x f v g).bind _ = _
  rw [hs]
  rfl
theorem tg_tup {n : Nat} {u : Tgs} {ds : List D} {δ : DV.Env} {g : G} (h : ds.length = n) : Tg.tup n u (.tup ds) δ g = u ds δ g := by
  unfold Tg.tup
  dsimp only
  rw [if_pos h]
theorem tg_cons {t : Tg} {u : Tgs} {d : D} {ds : List D} {δ δ' : DV.Env} {g g1 : G} (h : t d δ g = .ok δ' g1) : tgCons t u (d :: ds) δ g = u ds δ' g1 := by
  show (t d δ g).bind _ = _
  rw [h]
  rfl
abbrev sSig : Str := Str.ofString "signs"
abbrev sRows : Str := Str.ofString "rows"
abbrev sMany : Str := Str.ofString "many"
abbrev sEnds : Str := Str.ofString "ends"
abbrev sFirst : Str := Str.ofString "first"
theorem pF (f k : Str) (v d : D) (l : List (Str × D)) (h : ¬ k = f) : DV.putF f v ((k, d) :: l) = (k, d) :: DV.putF f v l := by
  show (if k = f then _ else _) = _
  rw [if_neg h]
theorem pinit {m : Nat} {g : G} {a b c : Nat} {rows : List RowL} {ends : List Int} (hr : rows.length ≤ 4096) (he : ends.length ≤ 4096) :
    callN (m + 1) 11 [.ref g.length, machD a b c rows ends] (g ++ [.ins 0 []]) = .ok .non (g ++ [tabO a b c rows (g.length + 1), .dic (dk ends)]) := by
  have hb : b_Table___init__ (callN m) (DV.start 5 [.ref g.length, machD a b c rows ends]) (g ++ [.ins 0 []]) = .ok (.nx [some (.ref g.length), some (machD a b c rows ends), some (.str (Str.ofString "definite")), some (iT ends), none]) (g ++ [tabO a b c rows (g.length + 1), .dic (dk ends)]) := by
    unfold b_Table___init__
    rw [show DV.start 5 [.ref g.length, machD a b c rows ends] = [some (.ref g.length), some (machD a b c rows ends), none, none, none] from rfl]
    -- signs and rows
    have t1 : Tg.tup 4 (tgCons (.name 2) (tgCons (.fld T (.loc 0) (Str.ofString "signs")) (tgCons (.fld T (.loc 0) (Str.ofString "rows")) (tgCons (.name 3) tgNil)))) (machD a b c rows ends) [some (.ref g.length), some (machD a b c rows ends), none, none, none] (g ++ [.ins 0 []]) = .ok [some (.ref g.length), some (machD a b c rows ends), some (.str (Str.ofString "definite")), some (iT ends), none] (g ++ ([.ins 0 [(sSig, sgT a b c), (sRows, .tup (rows.map rowD))]] ++ [])) := by
      refine Eq.trans (tg_tup (n := 4) (ds := [.str (Str.ofString "definite"), sgT a b c, .tup (rows.map rowD), iT ends]) rfl) ?_
      rw [tg_cons (t := .name 2) (δ' := [some (.ref g.length), some (machD a b c rows ends), some (.str (Str.ofString "definite")), none, none]) (g1 := g ++ ([.ins 0 []] ++ [])) (by rw [List.append_nil]; rfl)]
      rw [tg_cons (tg_fld (x := .ref g.length) rfl (setF_app (by decide +kernel) (by decide)))]
      rw [tg_cons (tg_fld (x := .ref g.length) rfl (setF_app (by decide +kernel) (by show 1 < 1000; decide)))]
      rw [show DV.putF (Str.ofString "signs") (sgT a b c) [] = [(sSig, sgT a b c)] from rfl, pF sRows sSig _ _ _ (by decide +kernel)]
      rfl
    rw [st_nx (st_asg (d := machD a b c rows ends) (g1 := g ++ [.ins 0 []]) rfl t1)]
    -- many
    have g2r : ∀ (fs : List (Str × D)) (t : G), (g ++ ([O.ins 0 fs] ++ t))[g.length]? = some (.ins 0 fs) := fun fs t => by simp
    have frows : DV.fld T (.ref g.length) (Str.ofString "rows") (g ++ ([O.ins 0 [(sSig, sgT a b c), (sRows, .tup (rows.map rowD))]] ++ [])) = .ok (.tup (rows.map rowD)) (g ++ ([O.ins 0 [(sSig, sgT a b c), (sRows, .tup (rows.map rowD))]] ++ [])) := by
      have e0 : DV.fld T (.ref g.length) (Str.ofString "rows") (g ++ ([O.ins 0 [(sSig, sgT a b c), (sRows, .tup (rows.map rowD))]] ++ [])) = (match (g ++ ([O.ins 0 [(sSig, sgT a b c), (sRows, .tup (rows.map rowD))]] ++ []))[g.length]? with
        | some (O.ins ci fs) => match T[ci]? with
          | some k => if k.fields.contains (Str.ofString "rows") then oD (fs.lookup (Str.ofString "rows")) (g ++ ([O.ins 0 [(sSig, sgT a b c), (sRows, .tup (rows.map rowD))]] ++ [])) else DV.R.stuck
          | none => DV.R.stuck
        | _ => DV.R.stuck) := rfl
      rw [e0, g2r]
      rfl
    rw [st_nx (st_asg (d := .int rows.length) (g1 := g ++ ([O.ins 0 [(sSig, sgT a b c), (sRows, .tup (rows.map rowD))]] ++ [])) (δ' := [some (.ref g.length), some (machD a b c rows ends), some (.str (Str.ofString "definite")), some (iT ends), none]) (g2 := g ++ ([O.ins 0 [(sSig, sgT a b c), (sRows, .tup (rows.map rowD)), (sMany, .int rows.length)]] ++ [])) (by
      rw [len_tup (xs := rows.map rowD) (x_fld (x := .ref g.length) rfl frows), List.length_map]) (by
      rw [tg_fld (x := .ref g.length) rfl (setF_app (by decide +kernel) (by show 2 < 1000; decide))]
      rw [pF (Str.ofString "many") sSig _ _ _ (by decide +kernel), pF (Str.ofString "many") sRows _ _ _ (by decide +kernel)]
      rfl))]
    -- ends
    have hd := dcomp_pure (xs := ends.map .int) (tg := Tg.name 4) (kx := .loc 4) (vx := .cst (.bl true)) (δ := [some (.ref g.length), some (machD a b c rows ends), some (.str (Str.ofString "definite")), some (iT ends), none]) (g := g ++ ([O.ins 0 [(sSig, sgT a b c), (sRows, .tup (rows.map rowD)), (sMany, .int rows.length)]] ++ []))
      (δ' := fun y => [some (.ref g.length), some (machD a b c rows ends), some (.str (Str.ofString "definite")), some (iT ends), some y]) (fun x => x) (fun _ => .bl true) (fun _ _ => rfl) (fun x hx => ⟨rfl, rfl, by obtain ⟨n, _, rfl⟩ := List.mem_map.mp hx; rfl⟩) (by rw [List.length_map]; exact he) fuel 0 [] (Nat.zero_le _) (Nat.le_refl _) (by rw [List.length_map]; unfold fuel; omega)
    rw [List.drop_zero] at hd
    have ed : Ex.dcomp [4] (.of (.loc 3)) (.name 4) .tt (.loc 4) (.cst (.bl true)) [some (.ref g.length), some (machD a b c rows ends), some (.str (Str.ofString "definite")), some (iT ends), none] (g ++ ([O.ins 0 [(sSig, sgT a b c), (sRows, .tup (rows.map rowD)), (sMany, .int rows.length)]] ++ [])) =
        .ok (.ref (g.length + 1)) (g ++ ([O.ins 0 [(sSig, sgT a b c), (sRows, .tup (rows.map rowD)), (sMany, .int rows.length)]] ++ [.dic (dk ends)])) := by
      show (DV.R.ok (It.seq (ends.map .int)) _).bind _ = _
      rw [R.bind_ok]
      show (R.hush (dcompLoop (.seq (ends.map .int)) (.name 4) .tt (.loc 4) (.cst (.bl true)) [some (.ref g.length), some (machD a b c rows ends), some (.str (Str.ofString "definite")), some (iT ends), none] fuel 0 [] _)).bind _ = _
      rw [hd, R.hush_ok, R.bind_ok]
      simp [dk]
    rw [st_nx (st_asg (δ' := [some (.ref g.length), some (machD a b c rows ends), some (.str (Str.ofString "definite")), some (iT ends), none]) (g2 := g ++ ([O.ins 0 [(sSig, sgT a b c), (sRows, .tup (rows.map rowD)), (sMany, .int rows.length), (sEnds, .ref (g.length + 1))]] ++ [.dic (dk ends)])) ed (by
      rw [tg_fld (x := .ref g.length) rfl (setF_app (by decide +kernel) (by show 3 < 1000; decide))]
      rw [pF (Str.ofString "ends") sSig _ _ _ (by decide +kernel), pF (Str.ofString "ends") sRows _ _ _ (by decide +kernel), pF (Str.ofString "ends") sMany _ _ _ (by decide +kernel)]
      rfl))]
    refine st_asg (d := .int 0) (g1 := g ++ ([O.ins 0 [(sSig, sgT a b c), (sRows, .tup (rows.map rowD)), (sMany, .int rows.length), (sEnds, .ref (g.length + 1))]] ++ [.dic (dk ends)])) rfl ?_
    rw [tg_fld (x := .ref g.length) rfl (setF_app (by decide +kernel) (by show 4 < 1000; decide))]
    rw [pF (Str.ofString "first") sSig _ _ _ (by decide +kernel), pF (Str.ofString "first") sRows _ _ _ (by decide +kernel), pF (Str.ofString "first") sMany _ _ _ (by decide +kernel), pF (Str.ofString "first") sEnds _ _ _ (by decide +kernel)]
    rfl
  rw [c11]
  unfold body
  rw [if_pos (show [D.ref g.length, machD a b c rows ends].length = 2 from rfl), hb]
  show DV.R.ok (DV.gc _ _ _).1 (DV.gc _ _ _).2 = _
  have hold : oldOk (g ++ [O.ins 0 []]) (g ++ [tabO a b c rows (g.length + 1), .dic (dk ends)]) = false := by
    rw [Bool.eq_false_iff]
    intro hc
    unfold oldOk at hc
    have := List.all_eq_true.mp hc (O.ins 0 [], tabO a b c rows (g.length + 1)) (by
      refine List.mem_iff_getElem?.mpr ⟨g.length, ?_⟩
      rw [List.getElem?_zip_eq_some]
      exact ⟨by simp, by simp⟩)
    simp [tabO, O.low, D.low] at this
  unfold DV.gc
  rw [hold]
  rfl
end K32
end
section
set_option Elab.async false
set_option linter.all false
set_option maxRecDepth 100000
set_option maxHeartbeats 1000000
namespace K32
open PySem DV
theorem chk_no {m : Nat} {v : D} {g : G} (h : callN m 9 [v] g = .ok (.bl false) g) : callN (m + 1) 10 [v] g = .exc 1 .non g := by
  rw [c10]
  refine body_exc0 (δ := [some v]) rfl ?_
  unfold b_check_definite
  rw [st_if (g1 := g) (t_not (k := false) (t_ex (by rw [x_call (ds := [v]) (g1 := g) rfl]; exact h)))]
  rfl
theorem chk_ok {m : Nat} {v : D} {g : G} (h : callN m 9 [v] g = .ok (.bl true) g) : callN (m + 1) 10 [v] g = .ok .non g := by
  rw [c10]
  refine body_nx0 (δ := [some v]) rfl ?_
  unfold b_check_definite
  exact st_no (g1 := g) (t_not (k := true) (t_ex (by rw [x_call (ds := [v]) (g1 := g) rfl]; exact h)))
theorem chw_no {m : Nat} {v w : D} {g : G} (h : callN m 4 [v, w] g = .ok (.bl false) g) : callN (m + 1) 6 [v, w] g = .exc 2 .non g := by
  rw [c6]
  refine body_exc0 (δ := [some v, some w]) rfl ?_
  unfold b_check_word
  rw [st_if (g1 := g) (t_not (k := false) (t_ex (by rw [x_call (ds := [v, w]) (g1 := g) rfl]; exact h)))]
  rfl
theorem chw_ok {m : Nat} {v w : D} {g : G} (h : callN m 4 [v, w] g = .ok (.bl true) g) : callN (m + 1) 6 [v, w] g = .ok .non g := by
  rw [c6]
  refine body_nx0 (δ := [some v, some w]) rfl ?_
  unfold b_check_word
  exact st_no (g1 := g) (t_not (k := true) (t_ex (by rw [x_call (ds := [v, w]) (g1 := g) rfl]; exact h)))
/-- what is drawn -/
structure MachOk (a b c : Nat) (rows : List RowL) (ends : List Int) : Prop where
  ha : a ≤ 3
  hb : b ≤ 3
  hc : c ≤ 3
  h1 : 1 ≤ a + b + c
  r1 : 1 ≤ rows.length
  r2 : rows.length ≤ 40
  rg : ∀ r ∈ rows, RowGood a b c rows.length r
  e0 : ends.length ≤ rows.length
  e1 : IntsBelow rows.length ends
  e2 : ascI ends = true
theorem isInt_below {n : Int} {ns : List Int} (h : IntsBelow n ns) : (ns.map D.int).all (isInt 0 (n - 1)) = true := by
  rw [List.all_eq_true]
  intro x hx
  obtain ⟨k, hk, rfl⟩ := List.mem_map.mp hx
  obtain ⟨h0, h1⟩ := h k hk
  simp only [isInt, Bool.and_eq_true, decide_eq_true_eq]
  omega
theorem nexts_iT {n len : Int} {ns : List Int} (h : IntsBelow n ns) (hl : (ns.length : Int) = len) : isNexts n len (iT ns) = true := by
  show (decide (((ns.map D.int).length : Int) = len) && (ns.map D.int).all (isInt 0 (n - 1))) = true
  rw [isInt_below h, List.length_map, decide_eq_true hl]
  rfl
theorem row_good {a b c n : Nat} {r : RowL} (h : RowGood a b c n r) : isRow a b c n (rowD r) = true := by
  show isRow a b c n (.tup [iT r.p, iT r.q, iT r.f, .tup (r.k.map iT)]) = true
  rw [isRow4, nexts_iT h.p2 (by rw [h.p1]), nexts_iT h.q2 (by rw [h.q1]), nexts_iT h.f2 (by rw [h.f1])]
  show (decide ((r.k.map iT).length = b) && (r.k.map iT).all (isNexts n ((n : Int) * a))) = true
  rw [List.length_map, decide_eq_true h.k1, Bool.true_and, List.all_eq_true]
  intro x hx
  obtain ⟨l, hl, rfl⟩ := List.mem_map.mp hx
  obtain ⟨l1, l2⟩ := h.k2 l hl
  exact nexts_iT l2 (by rw [l1]; simp)
theorem tree_iT {ns : List Int} (h : ns.length ≤ 4096) : tree 2 (iT ns) = true := tree_ints h
theorem tree_row {a b c n : Nat} {r : RowL} (h : RowGood a b c n r) (ha : a ≤ 3) (hb : b ≤ 3) (hc : c ≤ 3) (hn : n ≤ 1000) : tree 4 (rowD r) = true := by
  have hna : n * a ≤ 3000 := by
    have := Nat.mul_le_mul hn ha
    omega
  refine tree_tup (by show 4 ≤ 4096; decide) fun x hx => ?_
  simp only [List.mem_cons, List.not_mem_nil, or_false] at hx
  rcases hx with rfl | rfl | rfl | rfl
  · exact tree_mono (tree_iT (by rw [h.p1]; omega)) (by decide)
  · exact tree_mono (tree_iT (by rw [h.q1]; omega)) (by decide)
  · exact tree_mono (tree_iT (by rw [h.f1]; omega)) (by decide)
  · refine tree_tup (by rw [List.length_map, h.k1]; omega) fun y hy => ?_
    obtain ⟨l, hl, rfl⟩ := List.mem_map.mp hy
    exact tree_iT (by rw [(h.k2 l hl).1]; omega)
section
variable {a b c : Nat} {rows : List RowL} {ends : List Int} (M : MachOk a b c rows ends)
include M
theorem tree_rows : tree 5 (.tup (rows.map rowD)) = true := by
  refine tree_tup (by rw [List.length_map]; have := M.r2; omega) fun x hx => ?_
  obtain ⟨r, hr, rfl⟩ := List.mem_map.mp hx
  exact tree_row (M.rg r hr) M.ha M.hb M.hc (by have := M.r2; omega)
theorem states_ok : isStates rows.length (iT ends) = true := by
  show (match ints? (ends.map D.int) with
    | some ns => ns.all (fun i => decide (0 ≤ i) && decide (i ≤ (rows.length : Int) - 1)) && ascI ns
    | none => false) = true
  rw [ints?_map]
  have := isInt_below M.e1
  rw [all_isInt] at this
  dsimp only
  rw [this, M.e2]
  rfl
theorem mach_def (m : Nat) (g : G) : callN (m + 4) 9 [machD a b c rows ends] g = .ok (.bl true) g := by
  have h := isdef m 1 g a b c M.ha M.hb M.hc M.h1 (rows.map rowD) (ends.map D.int) (tree_rows M) (tree_iT (by have := M.e0; have := M.r2; omega))
  have e : isDef a b c (.tup (rows.map rowD)) (.tup (ends.map D.int)) = true := by
    show (decide (1 ≤ (rows.map rowD).length) && (decide ((rows.map rowD).length ≤ 40) && (isStates (rows.map rowD).length (.tup (ends.map D.int)) && (rows.map rowD).all (isRow a b c (rows.map rowD).length)))) = true
    rw [List.length_map, decide_eq_true M.r1, decide_eq_true M.r2, show isStates (rows.length : Int) (.tup (ends.map D.int)) = true from states_ok M, Bool.true_and, Bool.true_and, Bool.true_and, List.all_eq_true]
    intro x hx
    obtain ⟨r, hr, rfl⟩ := List.mem_map.mp hx
    exact row_good (M.rg r hr)
  rw [e] at h
  exact h
theorem takes_ok (m : Nat) (g : G) {w : List Int} (hw : IntsBelow ((a + b + c : Nat) : Int) w) (hl : w.length ≤ 300) : callN (m + 6) 19 [machD a b c rows ends, iT w] g = .ok (.bl (ends.contains (runM a b rows w).1)) g := by
  have hr := M.r2
  have he := M.e0
  have hword : callN (m + 4) 4 [sgT a b c, iT w] g = .ok (.bl true) g := by
    have h := isword (m + 2) 1 g a b c (w.map D.int) (tree_iT (by omega))
    rw [isInt_below hw, List.length_map, decide_eq_true hl] at h
    exact h
  have hT : (g ++ [tabO a b c rows (g.length + 1), O.dic (dk ends)])[g.length]? = some (tabO a b c rows (g.length + 1)) := by simp
  have hD : (g ++ [tabO a b c rows (g.length + 1), O.dic (dk ends)])[g.length + 1]? = some (O.dic (dk ends)) := by
    rw [List.getElem?_append_right (by omega)]
    simp
  rw [c19]
  refine body_rt (t := [tabO a b c rows (g.length + 1), O.dic (dk ends)]) rfl ?_ rfl
  unfold b_takes_definite
  rw [show DV.start 3 [machD a b c rows ends, iT w] = [some (machD a b c rows ends), some (iT w), none] from rfl]
  rw [st_nx (st_ex (d := .non) (g1 := g) (by rw [x_call (ds := [machD a b c rows ends]) (g1 := g) rfl]; exact chk_ok (mach_def M m g)))]
  rw [st_nx (st_ex (d := .non) (g1 := g) (by
    rw [x_call (ds := [sgT a b c, iT w]) (g1 := g) (xs_cons (g1 := g) (by simp [Ex.idx, Ex.loc, Ex.cst, machD, DV.idx, atI, ixN, oD]) rfl)]
    exact chw_ok hword))]
  rw [st_nx (st_set (i := 2) (d := .ref g.length) (g1 := g ++ [tabO a b c rows (g.length + 1), O.dic (dk ends)]) (by
    show (DV.R.ok ([machD a b c rows ends] : List D) g).bind _ = _
    rw [R.bind_ok]
    show (callN (m + 5) 11 [.ref g.length, machD a b c rows ends] (g ++ [.ins 0 []])).bind _ = _
    rw [pinit (by omega) (by omega)]
    rfl))]
  simp only [List.set_cons_succ, List.set_cons_zero]
  refine st_ret ?_
  rw [m_at hT (f := 16) (ds := [.int (runM a b rows w).1]) (g2 := g ++ [tabO a b c rows (g.length + 1), O.dic (dk ends)]) rfl (xs_cons (g1 := g ++ [tabO a b c rows (g.length + 1), O.dic (dk ends)]) (by
    rw [x_idx (d := .tup [.int (runM a b rows w).1, kD (runM a b rows w).2]) (g1 := g ++ [tabO a b c rows (g.length + 1), O.dic (dk ends)]) (d2 := .int 0) (g2 := g ++ [tabO a b c rows (g.length + 1), O.dic (dk ends)]) (by
      rw [m_at hT (f := 18) (ds := [iT w]) (g2 := g ++ [tabO a b c rows (g.length + 1), O.dic (dk ends)]) rfl rfl]
      exact pread hT M.rg M.ha M.r1 hw (by omega)) rfl]
    rfl) rfl)]
  rw [c16]
  refine body_rt0 rfl ?_ rfl
  unfold b_Table_is_end
  refine st_ret ?_
  rw [x_cmp (d := .int (runM a b rows w).1) (g1 := g ++ [tabO a b c rows (g.length + 1), O.dic (dk ends)]) (d2 := .ref (g.length + 1)) (g2 := g ++ [tabO a b c rows (g.length + 1), O.dic (dk ends)]) rfl (x_fld (x := .ref g.length) rfl (f_ends hT))]
  have e : cmpD .in_ (.int (runM a b rows w).1) (.ref (g.length + 1)) (g ++ [tabO a b c rows (g.length + 1), O.dic (dk ends)]) = some (ends.contains (runM a b rows w).1) := by
    simp only [cmpD, hD, keyOk, if_true, dk_get]
  rw [e]
  rfl
theorem takes_word {m : Nat} {g : G} {v : D} (h : callN (m + 4) 4 [sgT a b c, v] g = .ok (.bl false) g) : callN (m + 6) 19 [machD a b c rows ends, v] g = .exc 2 .non g := by
  rw [c19]
  refine body_exc0 (δ := [some (machD a b c rows ends), some v, none]) rfl ?_
  unfold b_takes_definite
  rw [show DV.start 3 [machD a b c rows ends, v] = [some (machD a b c rows ends), some v, none] from rfl]
  rw [st_nx (st_ex (d := .non) (g1 := g) (by rw [x_call (ds := [machD a b c rows ends]) (g1 := g) rfl]; exact chk_ok (mach_def M m g)))]
  refine st_exc ?_
  show (Ex.call _ _ _ _ g).thenS _ _ = _
  rw [x_call (ds := [sgT a b c, v]) (g1 := g) (xs_cons (g1 := g) (by simp [Ex.idx, Ex.loc, Ex.cst, machD, DV.idx, atI, ixN, oD]) rfl), chw_no h]
  rfl
/-- the states that are no ends -/
def compl (n : Nat) (ends : List Int) : List D := (rangeD 0 (n : Int)).filter fun d => match d with | .int i => !ends.contains i | _ => false
theorem opp_comp {δ : DV.Env} {g : G} {s : Nat} {e1 e2 : Ex} {n : Nat} (hn : n ≤ 4096) (h1 : e1 δ g = .ok (.int n) g) (hs : s < δ.length) (h2 : ∀ x, e2 ((δ.set s none).set s (some x)) g = .ok (iT ends) g) :
    Ex.bi .tuple (exCons (.comp [s] (.range1 e1) (.name s) (.ex (.cmp .notIn (.loc s) e2)) (.loc s)) exNil) δ g = .ok (.tup (compl n ends)) (g ++ [O.lst (compl n ends)]) := by
  have hl : ∀ x, ((δ.set s none).set s (some x))[s]? = some (some x) := fun x => List.getElem?_set_self (by simpa using hs)
  have hc := comp_filter (it := .seq (rangeD 0 (n : Int))) (xs := rangeD 0 (n : Int)) (tg := Tg.name s) (c := .ex (.cmp .notIn (.loc s) e2)) (e := .loc s) (δ := DV.wipe δ [s]) (g := g) (δ' := fun y => (δ.set s none).set s (some y)) (fun d => match d with | .int i => !ends.contains i | _ => false) (fun x => x) (fun _ => rfl) (fun _ _ => rfl) (fun x hx => by
      obtain ⟨k, rfl, _⟩ := mem_rangeD hx
      refine t_ex ?_
      rw [x_cmp (d := .int k) (g1 := g) (d2 := iT ends) (g2 := g) (by unfold Ex.loc; rw [hl]) (h2 _)]
      show liftO ((memG g _ _).map not) g = _
      rw [memG_ints]
      rfl) (fun x _ _ => by unfold Ex.loc; rw [hl]) (by rw [rangeD_len]; unfold LINE; omega)
  rw [List.map_id'] at hc
  exact x_tuple_of (x_comp (w := .seq (rangeD 0 (n : Int))) (g1 := g) (range1_it h1 hn) hc)
theorem tree_compl {n : Nat} (hn : n ≤ 4096) : tree 2 (.tup (compl n ends)) = true := by
  refine tree_tup ?_ fun x hx => ?_
  · have := List.length_filter_le (fun d => match d with | .int i => !ends.contains i | _ => false) (rangeD 0 (n : Int))
    rw [rangeD_len] at this
    unfold compl
    omega
  · obtain ⟨k, rfl, _⟩ := mem_rangeD (List.mem_filter.mp hx).1
    rfl
theorem opp_ok (m : Nat) (g : G) : callN (m + 6) 20 [machD a b c rows ends] g = .ok (.tup [.str (Str.ofString "definite"), sgT a b c, .tup (rows.map rowD), .tup (compl rows.length ends)]) g := by
  have hr := M.r2
  rw [c20]
  have hlow : (D.tup [.str (Str.ofString "definite"), sgT a b c, .tup (rows.map rowD), .tup (compl rows.length ends)]).low g.length = true := by
    refine tree_low (n := 6) _ (tree_tup (by show 4 ≤ 4096; decide) fun x hx => ?_)
    simp only [List.mem_cons, List.not_mem_nil, or_false] at hx
    rcases hx with rfl | rfl | rfl | rfl
    · exact tree_mono (n := 1) (by decide +kernel) (by decide)
    · exact tree_mono (tree_sg a b c) (by decide)
    · exact tree_rows M
    · exact tree_mono (tree_compl M (by omega)) (by decide)
  refine body_rt (t := [O.lst (compl rows.length ends)]) rfl ?_ hlow
  unfold b_opposite
  rw [show DV.start 6 [machD a b c rows ends] = [some (machD a b c rows ends), none, none, none, none, none] from rfl]
  rw [st_nx (st_ex (d := .non) (g1 := g) (by rw [x_call (ds := [machD a b c rows ends]) (g1 := g) rfl]; exact chk_ok (mach_def M (m + 0) g)))]
  rw [st_nx (st_asg (d := machD a b c rows ends) (g1 := g) (g2 := g) (δ' := [some (machD a b c rows ends), some (.str (Str.ofString "definite")), some (sgT a b c), some (.tup (rows.map rowD)), some (iT ends), none]) rfl rfl)]
  refine st_ret (x_tup (ds := [.str (Str.ofString "definite"), sgT a b c, .tup (rows.map rowD), .tup (compl rows.length ends)]) (xs_cons (g1 := g) rfl (xs_cons (g1 := g) rfl (xs_cons (g1 := g) rfl (xs_cons (g1 := g ++ [O.lst (compl rows.length ends)]) ?_ rfl)))) (by show 4 ≤ LINE; decide))
  exact opp_comp M (n := rows.length) (s := 5) (by omega) (by rw [len_tup (xs := rows.map rowD) rfl, List.length_map]) (by show 5 < 6; decide) (fun x => rfl)
end
theorem takes_sys {m : Nat} {v w : D} {g : G} (h : callN m 9 [v] g = .ok (.bl false) g) : callN (m + 2) 19 [v, w] g = .exc 1 .non g := by
  rw [c19]
  refine body_exc0 (δ := [some v, some w, none]) rfl ?_
  unfold b_takes_definite
  refine st_exc ?_
  show (Ex.call _ _ _ _ g).thenS _ _ = _
  rw [x_call (ds := [v]) (g1 := g) rfl, chk_no h]
  rfl
theorem opp_sys {m : Nat} {v : D} {g : G} (h : callN m 9 [v] g = .ok (.bl false) g) : callN (m + 2) 20 [v] g = .exc 1 .non g := by
  rw [c20]
  refine body_exc0 (δ := [some v, none, none, none, none, none]) rfl ?_
  unfold b_opposite
  refine st_exc ?_
  show (Ex.call _ _ _ _ g).thenS _ _ = _
  rw [x_call (ds := [v]) (g1 := g) rfl, chk_no h]
  rfl
end K32
end
section
set_option Elab.async false
set_option linter.all false
set_option maxRecDepth 100000
set_option maxHeartbeats 1000000
namespace K32
open PySem DV
/-! ### _law_call -/
abbrev sOne : D := .str (Str.ofString "one")
abbrev sWord : D := .str (Str.ofString "word")
abbrev sSys : D := .str (Str.ofString "system")
theorem x_callV {cl : Cl} {i f : Nat} {es : Exs} {δ : DV.Env} {g g1 : G} {ds : List D} (h0 : δ[i]? = some (some (.fn f))) (hf : f < 34) (h : es δ g = .ok ds g1) : Ex.callV cl 34 i es δ g = cl f ds g1 := by
  show (Ex.loc i δ g).bind _ = _
  have : Ex.loc i δ g = .ok (.fn f) g := by unfold Ex.loc; rw [h0]
  rw [this, R.bind_ok]
  show (if f < 34 then _ else _) = _
  rw [if_pos hf]
  show (es δ g).bind _ = _
  rw [h]
  rfl
/-- what the call comes to, as the law writes it -/
def told : R D → Option D
  | .ok d _ => some d
  | .exc 2 _ _ => some sWord
  | .exc 1 _ _ => some sSys
  | _ => none
theorem lcall {m f : Nat} {one other d : D} {g : G} {k : Bool} (hf : f < 34) (hk : eqG g other sOne = some k) (h : (callN m f (if k then [one] else [one, other]) g = .ok d g ∧ d.low g.length = true) ∨ (callN m f (if k then [one] else [one, other]) g = .exc 2 .non g ∧ d = sWord) ∨ (callN m f (if k then [one] else [one, other]) g = .exc 1 .non g ∧ d = sSys)) :
    callN (m + 1) 32 [.fn f, one, other] g = .ok d g := by
  have e1 : Ex.ite (.ex (.cmp .eq (.loc 2) (.cst sOne))) (.callV (callN m) 34 0 (exCons (.loc 1) exNil)) (.callV (callN m) 34 0 (exCons (.loc 1) (exCons (.loc 2) exNil))) [some (.fn f), some one, some other, none] g = callN m f (if k then [one] else [one, other]) g := by
    rw [x_ite (k := k) (g1 := g) (t_ex (by rw [x_cmp (d := other) (g1 := g) (d2 := sOne) (g2 := g) rfl rfl]; show liftO (eqG g _ _) g = _; rw [hk]; rfl))]
    cases k with
    | true => exact x_callV rfl hf rfl
    | false => exact x_callV rfl hf rfl
  rw [c32]
  rcases h with ⟨h, hl⟩ | ⟨h, rfl⟩ | ⟨h, rfl⟩
  · refine body_rt0 rfl ?_ hl
    unfold b__law_call
    rw [show DV.start 4 [.fn f, one, other] = [some (.fn f), some one, some other, none] from rfl]
    rw [st_nx (δ' := [some (.fn f), some one, some other, some d]) (g1 := g)]
    · exact st_ret rfl
    · unfold Sm.try
      rw [st_set (i := 3) (d := d) (g1 := g) (by rw [e1]; exact h)]
      rfl
  · refine body_rt0 rfl ?_ rfl
    unfold b__law_call
    rw [show DV.start 4 [.fn f, one, other] = [some (.fn f), some one, some other, none] from rfl]
    refine st_rt ?_
    unfold Sm.try
    have : Sm.asg (.name 3) (Ex.ite (.ex (.cmp .eq (.loc 2) (.cst sOne))) (.callV (callN m) 34 0 (exCons (.loc 1) exNil)) (.callV (callN m) 34 0 (exCons (.loc 1) (exCons (.loc 2) exNil)))) [some (.fn f), some one, some other, none] g = .exc 2 .non [some (.fn f), some one, some other, none] g := by
      show (Ex.ite _ _ _ _ g).thenS _ _ = _
      rw [e1, h]
      rfl
    rw [this]
    rfl
  · refine body_rt0 rfl ?_ rfl
    unfold b__law_call
    rw [show DV.start 4 [.fn f, one, other] = [some (.fn f), some one, some other, none] from rfl]
    refine st_rt ?_
    unfold Sm.try
    have : Sm.asg (.name 3) (Ex.ite (.ex (.cmp .eq (.loc 2) (.cst sOne))) (.callV (callN m) 34 0 (exCons (.loc 1) exNil)) (.callV (callN m) 34 0 (exCons (.loc 1) (exCons (.loc 2) exNil)))) [some (.fn f), some one, some other, none] g = .exc 1 .non [some (.fn f), some one, some other, none] g := by
      show (Ex.ite _ _ _ _ g).thenS _ _ = _
      rw [e1, h]
      rfl
    rw [this]
    rfl
theorem one_one (g : G) : eqG g sOne sOne = some true := eqG_self (n := 1) g (by decide +kernel) (by decide) rfl (by decide +kernel)
theorem one_tree {n : Nat} {d : D} (g : G) (h : tree n d = true) (hn : n ≤ 64) (h1 : ∀ s, d ≠ .str s) : eqG g d sOne = some false := by
  have e : snap 64 g sOne = some (.str (Str.ofString "one")) := by show (if _ then _ else _) = _; rw [if_pos (by decide +kernel)]
  have hu : unlikeLen g d sOne = false := by cases d <;> rfl
  unfold eqG
  rw [hu, snap_tree g h hn, e]
  cases d with
  | str s => exact absurd rfl (h1 s)
  | non => rfl
  | bl _ => rfl
  | int _ => rfl
  | tup _ => rfl
  | _ => rfl
theorem one_ref {g : G} {r : Nat} {ns : List Int} (h : g[r]? = some (.lst (ns.map .int))) : eqG g (.ref r) sOne = some false := by
  have e : snap 64 g sOne = some (.str (Str.ofString "one")) := by show (if _ then _ else _) = _; rw [if_pos (by decide +kernel)]
  have e2 : snap 64 g (.ref r) = some (.list ((ns.map D.int).map tr)) := by
    have e3 : snap 64 g (.ref r) = (match g[r]? with
      | some (.lst xs) => (xs.mapM (snap 63 g)).map .list
      | _ => none) := rfl
    rw [e3, h]
    have : (ns.map D.int).mapM (snap 63 g) = some ((ns.map D.int).map tr) := mapM_some fun x hx => by
      obtain ⟨n, _, rfl⟩ := List.mem_map.mp hx
      rfl
    dsimp only
    rw [this]
    rfl
  have hu : unlikeLen g (.ref r) sOne = false := rfl
  unfold eqG
  rw [hu, e2, e]
  rfl
/-! ### what is wrong, and what is odd -/
/-- is_definite says no -/
def Bad (m : Nat) (g : G) (v : D) : Prop := callN (m + 4) 9 [v] g = .ok (.bl false) g
theorem bad_no {m : Nat} {g : G} {v : D} (h : noTup g v = true) : Bad m g v := isdef_no (cl := callN (m + 3)) h
theorem bad_len {m : Nat} {g : G} {xs : List D} (h : xs.length ≠ 4) : Bad m g (.tup xs) := isdef_len (cl := callN (m + 3)) h
section
variable {a b c : Nat} {rows : List RowL} {ends : List Int} (M : MachOk a b c rows ends)
include M
theorem bad_mach {m k : Nat} {g : G} {rs xs : List D} (hr : tree 5 (.tup rs) = true) (he : tree (k + 1) (.tup xs) = true) (h : isDef a b c (.tup rs) (.tup xs) = false) : Bad m g (.tup [.str (Str.ofString "definite"), sgT a b c, .tup rs, .tup xs]) := by
  have := isdef m k g a b c M.ha M.hb M.hc M.h1 rs xs hr he
  rw [h] at this
  exact this
theorem isDef_rows {rs xs : List D} {r : D} (hm : r ∈ rs) (h : isRow a b c rs.length r = false) : isDef a b c (.tup rs) (.tup xs) = false := by
  show (_ && (_ && (_ && rs.all (isRow a b c rs.length)))) = false
  have : rs.all (isRow a b c rs.length) = false := by
    rw [Bool.eq_false_iff]
    intro hc
    rw [List.all_eq_true] at hc
    rw [hc r hm] at h
    cases h
  rw [this]
  simp
theorem isDef_ends {rs xs : List D} (h : isStates rs.length (.tup xs) = false) : isDef a b c (.tup rs) (.tup xs) = false := by
  show (_ && (_ && (isStates rs.length (.tup xs) && _))) = false
  rw [h]
  simp
end
end K32
end
section
set_option Elab.async false
set_option linter.all false
set_option maxRecDepth 100000
set_option maxHeartbeats 1000000
namespace K32
open PySem DV
theorem len_rep {α : Type} (k : Nat) (xs : List α) : (List.replicate k xs).flatten.length = k * xs.length := by simp
abbrev sDef : D := .str (Str.ofString "definite")
/-- low, and no machine, wherever r0 is a list -/
def WOk (rows : List RowL) (r0 : Nat) (v : D) : Prop := (∀ k, r0 < k → v.low k = true) ∧ ∀ (m : Nat) (g : G), g[r0]? = some (.lst (rows.map rowD)) → Bad m g v
section
variable {a b c : Nat} {rows : List RowL} {ends : List Int} {r0 : Nat} (M : MachOk a b c rows ends)
include M
theorem w_of {rs xs : List D} (hr : tree 5 (.tup rs) = true) (he : tree 3 (.tup xs) = true) (h : isDef a b c (.tup rs) (.tup xs) = false) : WOk rows r0 (.tup [sDef, sgT a b c, .tup rs, .tup xs]) := by
  refine ⟨fun k _ => ?_, fun m g _ => bad_mach M hr he h⟩
  refine tree_low (n := 6) _ (tree_tup (by show 4 ≤ 4096; decide) fun x hx => ?_)
  simp only [List.mem_cons, List.not_mem_nil, or_false] at hx
  rcases hx with rfl | rfl | rfl | rfl
  · exact tree_mono (n := 1) (by decide +kernel) (by decide)
  · exact tree_mono (tree_sg a b c) (by decide)
  · exact hr
  · exact tree_mono he (by decide)
theorem tEnds : tree 3 (.tup (ends.map D.int)) = true := tree_mono (tree_iT (by have := M.e0; have := M.r2; omega)) (by decide)
theorem tRowsOf {rs : List D} (h : ∀ x ∈ rs, tree 4 x = true) (hl : rs.length ≤ 4096) : tree 5 (.tup rs) = true := tree_tup hl h
theorem tRow {x : D} (hx : x ∈ rows.map rowD) : tree 4 x = true := (tree_sub (tree_rows M)).2 x hx
theorem w1 : WOk rows r0 .non := ⟨fun _ _ => rfl, fun m g _ => bad_no rfl⟩
theorem w2 : WOk rows r0 (.tup [sDef, sgT a b c, .tup (rows.map rowD)]) := by
  refine ⟨fun k _ => ?_, fun m g _ => bad_len (by show 3 ≠ 4; decide)⟩
  refine tree_low (n := 6) _ (tree_tup (by show 3 ≤ 4096; decide) fun x hx => ?_)
  simp only [List.mem_cons, List.not_mem_nil, or_false] at hx
  rcases hx with rfl | rfl | rfl
  · exact tree_mono (n := 1) (by decide +kernel) (by decide)
  · exact tree_mono (tree_sg a b c) (by decide)
  · exact tree_rows M
theorem w3 : WOk rows r0 (.tup [.str (Str.ofString "definites"), sgT a b c, .tup (rows.map rowD), iT ends]) := by
  refine ⟨fun k _ => ?_, fun m g _ => isdef_bad (cl := callN (m + 3)) (signsOk (m + 1)) (by decide +kernel) M.ha M.hb M.hc (by rw [show decide (D.str (Str.ofString "definites") = .str (Str.ofString "definite")) = false from by decide +kernel]; rfl)⟩
  refine tree_low (n := 6) _ (tree_tup (by show 4 ≤ 4096; decide) fun x hx => ?_)
  simp only [List.mem_cons, List.not_mem_nil, or_false] at hx
  rcases hx with rfl | rfl | rfl | rfl
  · exact tree_mono (n := 1) (by decide +kernel) (by decide)
  · exact tree_mono (tree_sg a b c) (by decide)
  · exact tree_rows M
  · exact tree_mono (tEnds M) (by decide)
theorem w4 : WOk rows r0 (.tup [sDef, sgT a b c, .tup [], .tup []]) := w_of M (by rfl) (by rfl) (by rfl)
theorem w5 : WOk rows r0 (.tup [sDef, sgT a b c, .ref r0, iT ends]) := by
  refine ⟨fun k hk => ?_, fun m g hg => isdef_notup (cl := callN (m + 3)) (signsOk (m + 1)) M.ha M.hb M.hc M.h1 (by simp [noTup, isTy, hg, Ty.is])⟩
  show (true && (D.low k (sgT a b c) && (decide (r0 < k) && (D.low k (iT ends) && true)))) = true
  have hE : (iT ends).low k = true := tree_low k (tEnds M)
  rw [decide_eq_true hk, hE]
  rfl
theorem w6 : WOk rows r0 (.tup [sDef, sgT a b c, .tup (rows.map rowD), .tup (ends.map D.int ++ [.int rows.length])]) := by
  have e : ends.map D.int ++ [.int rows.length] = (ends ++ [(rows.length : Int)]).map .int := by simp
  rw [e]
  refine w_of M (tree_rows M) (tree_mono (tree_iT (by rw [List.length_append]; have := M.e0; have := M.r2; simp; omega)) (by decide)) (isDef_ends M ?_)
  show (match ints? ((ends ++ [(rows.length : Int)]).map D.int) with
    | some ns => ns.all (fun i => decide (0 ≤ i) && decide (i ≤ ((rows.map rowD).length : Int) - 1)) && ascI ns
    | none => false) = false
  rw [ints?_map]
  dsimp only
  have : (ends ++ [(rows.length : Int)]).all (fun i => decide (0 ≤ i) && decide (i ≤ ((rows.map rowD).length : Int) - 1)) = false := by
    rw [Bool.eq_false_iff]
    intro hc
    rw [List.all_eq_true] at hc
    have := hc rows.length (by simp)
    simp at this
    omega
  rw [this]
  rfl
theorem w7 : WOk rows r0 (.tup [sDef, sgT a b c, .tup (List.replicate 41 (rows.map rowD)).flatten, .tup []]) := by
  have hl : ((List.replicate 41 (rows.map rowD)).flatten).length = 41 * rows.length := by rw [len_rep, List.length_map]
  refine w_of M (tRowsOf M (fun x hx => ?_) (by rw [hl]; have := M.r2; omega)) (by rfl) ?_
  · obtain ⟨l, hl, hx⟩ := List.mem_flatten.mp hx
    rw [(List.mem_replicate.mp hl).2] at hx
    exact tRow M hx
  · show (_ && (decide (_ ≤ 40) && _)) = false
    rw [hl, decide_eq_false (p := 41 * rows.length ≤ 40) (by have := M.r1; omega)]
    simp
theorem w_row {r : D} (ht : tree 4 r = true) (h : ∀ n, n = rows.length → isRow a b c n r = false) : WOk rows r0 (.tup [sDef, sgT a b c, .tup (r :: (rows.map rowD).drop 1), iT ends]) := by
  have hr := M.r1
  have hl : (r :: (rows.map rowD).drop 1).length = rows.length := by simp; omega
  refine w_of M (tRowsOf M (fun x hx => ?_) (by rw [hl]; have := M.r2; omega)) (tEnds M) (isDef_rows M (r := r) List.mem_cons_self (h _ hl))
  rcases List.mem_cons.mp hx with rfl | hx
  · exact ht
  · exact tRow M (List.mem_of_mem_drop hx)
theorem w13 : WOk rows r0 (.tup [sDef, sgT 0 0 0, .tup (rows.map rowD), iT ends]) := by
  refine ⟨fun k _ => ?_, fun m g _ => isdef_bad (cl := callN (m + 3)) (signsOk (m + 1)) (by decide +kernel) (by decide) (by decide) (by decide) (by simp)⟩
  refine tree_low (n := 6) _ (tree_tup (by show 4 ≤ 4096; decide) fun x hx => ?_)
  simp only [List.mem_cons, List.not_mem_nil, or_false] at hx
  rcases hx with rfl | rfl | rfl | rfl
  · exact tree_mono (n := 1) (by decide +kernel) (by decide)
  · exact tree_mono (tree_sg 0 0 0) (by decide)
  · exact tree_rows M
  · exact tree_mono (tEnds M) (by decide)
theorem w14 : WOk rows r0 (.tup [sDef, sgT a b c, .tup (rows.map rowD), .tup [.int 0, .int 0]]) := by
  refine w_of M (tree_rows M) (by rfl) (isDef_ends M ?_)
  show (match ints? (([0, 0] : List Int).map D.int) with
    | some ns => ns.all (fun i => decide (0 ≤ i) && decide (i ≤ ((rows.map rowD).length : Int) - 1)) && ascI ns
    | none => false) = false
  rw [ints?_map]
  show (_ && ascI [0, 0]) = false
  rw [show ascI [0, 0] = false from rfl, Bool.and_false]
theorem w15 (ha : 1 ≤ a) (hb : 1 ≤ b) : WOk rows r0 (.tup [sDef, sgT a b c, .tup (rows.map rowD ++ (rows.map rowD).take 1), iT ends]) := by
  obtain ⟨x, rs, hx⟩ : ∃ x rs, rows = x :: rs := by
    have := M.r1
    cases rows with
    | nil => simp at this
    | cons x rs => exact ⟨x, rs, rfl⟩
  have hm : rowD x ∈ rows.map rowD := List.mem_map_of_mem (by rw [hx]; exact List.mem_cons_self)
  have R := M.rg x (by rw [hx]; exact List.mem_cons_self)
  have hl : (rows.map rowD ++ (rows.map rowD).take 1).length = rows.length + 1 := by rw [hx]; simp
  refine w_of M (tRowsOf M (fun y hy => ?_) (by rw [hl]; have := M.r2; omega)) (tEnds M) (isDef_rows M (r := rowD x) (List.mem_append_left _ hm) ?_)
  · rcases List.mem_append.mp hy with hy | hy
    · exact tRow M hy
    · exact tRow M (List.mem_of_mem_take hy)
  · rw [hl]
    show isRow a b c (rows.length + 1) (.tup [iT x.p, iT x.q, iT x.f, .tup (x.k.map iT)]) = false
    rw [isRow4]
    have : isBacks a b (rows.length + 1) (.tup (x.k.map iT)) = false := by
      show (_ && (x.k.map iT).all _) = false
      have : (x.k.map iT).all (isNexts ((rows.length + 1 : Nat) : Int) (((rows.length + 1 : Nat) : Int) * a)) = false := by
        rw [Bool.eq_false_iff]
        intro hc
        rw [List.all_eq_true] at hc
        obtain ⟨l, ls, hk⟩ : ∃ l ls, x.k = l :: ls := by
          have := R.k1
          cases hk : x.k with
          | nil => rw [hk] at this; simp at this; omega
          | cons l ls => exact ⟨l, ls, rfl⟩
        have h1 := hc (iT l) (List.mem_map_of_mem (by rw [hk]; exact List.mem_cons_self))
        have h2 := (R.k2 l (by rw [hk]; exact List.mem_cons_self)).1
        have h3 : (decide (((l.map D.int).length : Int) = ((rows.length + 1 : Nat) : Int) * a) && _) = true := h1
        rw [Bool.and_eq_true, decide_eq_true_eq, List.length_map, h2] at h3
        have h4 : rows.length * a = (rows.length + 1) * a := by have := h3.1; exact_mod_cast this
        rw [Nat.add_mul] at h4
        omega
      rw [this, Bool.and_false]
    rw [this, Bool.and_false]
theorem w_five : WOk rows r0 (.int 5) := ⟨fun _ _ => rfl, fun m g _ => bad_no rfl⟩
end
/-- a row with one thing wrong -/
theorem row_bad4 {a b c n : Nat} {p q f k : D} (h : (isNexts n c p && (isNexts n a q && isNexts n b f)) = false ∨ isBacks a b n k = false) : isRow a b c n (.tup [p, q, f, k]) = false := by
  rw [isRow4]
  rcases h with h | h
  · rw [h]; rfl
  · rw [h, Bool.and_false]
theorem nexts_more {n : Int} {ns : List Int} {l : Nat} (h : ns.length = l) (x : D) : isNexts n l (.tup (ns.map .int ++ [x])) = false := by
  show (decide (((ns.map D.int ++ [x]).length : Int) = l) && _) = false
  rw [decide_eq_false (by simp; omega)]
  rfl
theorem backs_more {a b n : Nat} {ks : List (List Int)} (h : ks.length = b) (x : D) : isBacks a b n (.tup (ks.map iT ++ [x])) = false := by
  show (decide ((ks.map iT ++ [x]).length = b) && _) = false
  rw [decide_eq_false (by simp; omega)]
  rfl
end K32
end
section
set_option Elab.async false
set_option linter.all false
set_option maxRecDepth 100000
set_option maxHeartbeats 1000000
namespace K32
open PySem DV
theorem x_t4 {e1 e2 e3 e4 : Ex} {δ : DV.Env} {g : G} {d1 d2 d3 d4 : D} (h1 : e1 δ g = .ok d1 g) (h2 : e2 δ g = .ok d2 g) (h3 : e3 δ g = .ok d3 g) (h4 : e4 δ g = .ok d4 g) : Ex.tup (exCons e1 (exCons e2 (exCons e3 (exCons e4 exNil)))) δ g = .ok (.tup [d1, d2, d3, d4]) g :=
  x_tup (xs_cons h1 (xs_cons h2 (xs_cons h3 (xs_cons h4 rfl)))) (by show 4 ≤ LINE; decide)
theorem x_t1 {e1 : Ex} {δ : DV.Env} {g : G} {d1 : D} (h1 : e1 δ g = .ok d1 g) : Ex.tup (exCons e1 exNil) δ g = .ok (.tup [d1]) g := x_tup (xs_cons h1 rfl) (by show 1 ≤ LINE; decide)
theorem x_cat {e1 e2 : Ex} {δ : DV.Env} {g : G} {xs ys : List D} (h1 : e1 δ g = .ok (.tup xs) g) (h2 : e2 δ g = .ok (.tup ys) g) (hl : xs.length + ys.length ≤ 10000) : Ex.bin .add e1 e2 δ g = .ok (.tup (xs ++ ys)) g := by
  rw [x_bin h1 h2]
  show (if xs.length + ys.length ≤ LINE then _ else _) = _
  rw [if_pos (by unfold LINE; omega)]
theorem x_from1 {e : Ex} {δ : DV.Env} {g : G} {xs : List D} (h : e δ g = .ok (.tup xs) g) : Ex.slc e (.at (.cst (.int 1))) .no δ g = .ok (.tup (xs.drop 1)) g := by
  rw [x_slc h (l := some 1) (g2 := g) (u := none) (g3 := g) rfl rfl]
  show DV.R.ok (D.tup (cut xs _ _)) g = _
  have : cut xs (some 1) none = xs.drop 1 := by
    cases xs with
    | nil => rfl
    | cons x r => simp [cut, sIx, List.take_of_length_le]
  rw [this]
theorem x_to {e : Ex} {δ : DV.Env} {g : G} {xs : List D} {n : Nat} (h : e δ g = .ok (.tup xs) g) (hn : n ≤ xs.length) : Ex.slc e .no (.at (.cst (.int n))) δ g = .ok (.tup (xs.take n)) g := by
  rw [x_slc h (l := none) (g2 := g) (u := some (n : Int)) (g3 := g) rfl rfl]
  show DV.R.ok (D.tup (cut xs _ _)) g = _
  have : cut xs none (some (n : Int)) = xs.take n := by
    have h2 : ¬ ((n : Int) < 0) := by omega
    simp only [cut, sIx, h2, if_false, List.drop_zero]
    simp
  rw [this]
theorem x_rep {e : Ex} {δ : DV.Env} {g : G} {xs : List D} {n : Nat} (h : e δ g = .ok (.tup xs) g) (h0 : xs ≠ []) (h1 : 2 ≤ n) (h2 : n ≤ 1000) (h3 : xs.length ≤ 1000) : Ex.bin .mul e (.cst (.int n)) δ g = .ok (.tup (List.replicate n xs).flatten) g := by
  rw [x_bin h (d2 := .int n) (g2 := g) rfl]
  show (if xs ≠ [] ∧ (2 : Int) ≤ n ∧ (n : Int) ≤ 1000 ∧ xs.length ≤ 1000 then DV.R.ok (D.tup (List.replicate (n : Int).toNat xs).flatten) g else DV.R.stuck) = _
  rw [if_pos ⟨h0, by omega, by omega, h3⟩]
  rfl
/-- wrong = wrong + [..] -/
theorem x_more {i : Nat} {es : Exs} {δ : DV.Env} {g : G} {r : Nat} {xs ys : List D} (h0 : δ[i]? = some (some (.ref r))) (hr : g[r]? = some (.lst xs)) (h : es δ g = .ok ys g) (hl : xs.length + ys.length ≤ 10000) :
    Ex.bin .add (.loc i) (.lst es) δ g = .ok (.ref (g.length + 1)) (g ++ [.lst ys] ++ [.lst (xs ++ ys)]) := by
  have hr' : (g ++ [O.lst ys])[r]? = some (.lst xs) := by rw [List.getElem?_append_left (List.getElem?_eq_some_iff.mp hr).1]; exact hr
  have hy : (g ++ [O.lst ys])[g.length]? = some (.lst ys) := by simp
  rw [x_bin (d := .ref r) (g1 := g) (d2 := .ref g.length) (g2 := g ++ [.lst ys]) (by unfold Ex.loc; rw [h0]) (x_lst h (by unfold LINE; omega))]
  have e : binop .add (.ref r) (.ref g.length) (g ++ [O.lst ys]) = (match (g ++ [O.lst ys])[r]?, (g ++ [O.lst ys])[g.length]? with
    | some (.lst xs), some (.lst ys') => if xs.length + ys'.length ≤ LINE then DV.R.ok (.ref (g ++ [O.lst ys]).length) ((g ++ [O.lst ys]) ++ [.lst (xs ++ ys')]) else DV.R.stuck
    | _, _ => DV.R.stuck) := rfl
  rw [e, hr', hy]
  dsimp only
  rw [if_pos (by unfold LINE; omega)]
  simp
/-- no word, and not the text one -/
def OddOk (a b c : Nat) (o : D) (g : G) : Prop := (∀ m, callN (m + 4) 4 [sgT a b c, o] g = .ok (.bl false) g) ∧ eqG g o sOne = some false
theorem odd_none {a b c : Nat} {g : G} : OddOk a b c .non g := ⟨fun m => isword_no (cl := callN (m + 3)) (k := 0) (mn := 3) (s := sgT a b c) (v := .non) rfl, one_tree g (n := 1) rfl (by decide) (by intro s h; cases h)⟩
theorem odd_tup {a b c n : Nat} {g : G} {xs : List D} (ht : tree (n + 1) (.tup xs) = true) (hn : n + 1 ≤ 64) (h : (decide (xs.length ≤ 300) && xs.all (isInt 0 (((a + b + c : Nat) : Int) - 1))) = false) : OddOk a b c (.tup xs) g := by
  refine ⟨fun m => ?_, one_tree g ht hn (by intro s h; cases h)⟩
  have := isword (m + 2) n g a b c xs ht
  rw [h] at this
  exact this
theorem odd_ref {a b c r : Nat} {g : G} (h : g[r]? = some (.lst [.int 0])) : OddOk a b c (.ref r) g := ⟨fun m => isword_no (cl := callN (m + 3)) (k := 0) (mn := 3) (s := sgT a b c) (by simp [noTup, isTy, h, Ty.is]), one_ref (ns := [0]) h⟩
abbrev tWSS : D := .tup [sWord, sSys, sSys]
theorem wss (g : G) : neG g tWSS tWSS = some false := by
  have z := snap_tree g (n := 2) (m := 64) (d := tWSS) (by decide +kernel) (by decide)
  have e : PyData.eqv (tr tWSS) (tr tWSS) = true := SeqAt.eqv_refl _ (by decide +kernel)
  unfold neG
  rw [z]
  dsimp only
  rw [e]
  rfl
end K32
end
section
set_option Elab.async false
set_option linter.all false
set_option maxRecDepth 100000
set_option maxHeartbeats 2000000
namespace K32
open PySem DV
def b_again (cl : Cl) : Sm :=
  (.seq (.asg (.name 16) (.call cl 27 (exCons (.loc 1) (exCons (.loc 3) (exCons (.cst (.int 12)) exNil)))))
  (.ite (.not (.ex (.call cl 24 (exCons (.call cl 32 (exCons (.cst (.fn 19)) (exCons (.loc 4) (exCons (.loc 16) exNil)))) (exCons (.call cl 31 (exCons (.loc 4) (exCons (.loc 16) exNil))) exNil))))) (.ret (.cst (.bl false))) .skip))
def b_turn (cl : Cl) : Sm :=
  (.seq (.asg (.name 3) (.call cl 25 (exCons (.loc 1) exNil)))
  (.seq (.asg (.name 4) (.call cl 28 (exCons (.loc 1) (exCons (.loc 3) (exCons (.cst (.int 5)) exNil)))))
  (.seq (.asg (.tup 4 (tgCons (.name 12) (tgCons (.name 13) (tgCons (.name 14) (tgCons (.name 15) tgNil))))) (.loc 4))
  (.seq (.asg (.name 5) (.bi .len (exCons (.loc 14) exNil)))
  (.seq (.asg (.name 6) (.tup (exCons (.cst (.str (Str.ofString "definite"))) (exCons (.loc 3) (exCons (.loc 14) (exCons (.bi .tuple (exCons (.comp [21] (.range1 (.loc 5)) (.name 21) (.ex (.cmp .notIn (.loc 21) (.loc 15))) (.loc 21)) exNil)) exNil))))))
  (.seq (.ite (.or (.not (.ex (.call cl 24 (exCons (.call cl 9 (exCons (.loc 4) exNil)) (exCons (.cst (.bl true)) exNil))))) (.not (.ex (.call cl 24 (exCons (.call cl 32 (exCons (.cst (.fn 20)) (exCons (.loc 4) (exCons (.cst (.str (Str.ofString "one"))) exNil)))) (exCons (.loc 6) exNil)))))) (.ret (.cst (.bl false))) .skip)
  (.seq (.for (.range1 (.cst (.int 6))) (.name 7) (.seq (.asg (.name 16) (.call cl 27 (exCons (.loc 1) (exCons (.loc 3) (exCons (.cst (.int 12)) exNil)))))
  (.ite (.not (.ex (.call cl 24 (exCons (.call cl 32 (exCons (.cst (.fn 19)) (exCons (.loc 4) (exCons (.loc 16) exNil)))) (exCons (.call cl 31 (exCons (.loc 4) (exCons (.loc 16) exNil))) exNil))))) (.ret (.cst (.bl false))) .skip)))
  (.seq (.asg (.tup 4 (tgCons (.name 17) (tgCons (.name 18) (tgCons (.name 19) (tgCons (.name 20) tgNil))))) (.idx (.loc 14) (.cst (.int 0))))
  (.seq (.asg (.name 8) (.lst (exCons (.cst .non) (exCons (.slc (.loc 4) .no (.at (.cst (.int 3)))) (exCons (.bin .add (.tup (exCons (.cst (.str (Str.ofString "definites"))) exNil)) (.slc (.loc 4) (.at (.cst (.int 1))) .no)) (exCons (.tup (exCons (.loc 12) (exCons (.loc 3) (exCons (.tup exNil) (exCons (.tup exNil) exNil))))) (exCons (.tup (exCons (.loc 12) (exCons (.loc 3) (exCons (.bi .list (exCons (.loc 14) exNil)) (exCons (.loc 15) exNil))))) (exCons (.tup (exCons (.loc 12) (exCons (.loc 3) (exCons (.loc 14) (exCons (.bin .add (.loc 15) (.tup (exCons (.loc 5) exNil))) exNil))))) (exCons (.tup (exCons (.loc 12) (exCons (.loc 3) (exCons (.bin .mul (.loc 14) (.cst (.int 41))) (exCons (.tup exNil) exNil))))) exNil)))))))))
  (.seq (.asg (.name 8) (.bin .add (.loc 8) (.lst (exCons (.tup (exCons (.loc 12) (exCons (.loc 3) (exCons (.bin .add (.tup (exCons (.tup (exCons (.bin .add (.loc 17) (.tup (exCons (.cst (.int 0)) exNil))) (exCons (.loc 18) (exCons (.loc 19) (exCons (.loc 20) exNil))))) exNil)) (.slc (.loc 14) (.at (.cst (.int 1))) .no)) (exCons (.loc 15) exNil))))) (exCons (.tup (exCons (.loc 12) (exCons (.loc 3) (exCons (.bin .add (.tup (exCons (.tup (exCons (.loc 17) (exCons (.bin .add (.loc 18) (.tup (exCons (.cst (.int 0)) exNil))) (exCons (.loc 19) (exCons (.loc 20) exNil))))) exNil)) (.slc (.loc 14) (.at (.cst (.int 1))) .no)) (exCons (.loc 15) exNil))))) exNil)))))
  (.seq (.asg (.name 8) (.bin .add (.loc 8) (.lst (exCons (.tup (exCons (.loc 12) (exCons (.loc 3) (exCons (.bin .add (.tup (exCons (.tup (exCons (.loc 17) (exCons (.loc 18) (exCons (.bin .add (.loc 19) (.tup (exCons (.cst (.int 0)) exNil))) (exCons (.loc 20) exNil))))) exNil)) (.slc (.loc 14) (.at (.cst (.int 1))) .no)) (exCons (.loc 15) exNil))))) (exCons (.tup (exCons (.loc 12) (exCons (.loc 3) (exCons (.bin .add (.tup (exCons (.tup (exCons (.loc 17) (exCons (.loc 18) (exCons (.loc 19) (exCons (.bin .add (.loc 20) (.tup (exCons (.tup exNil) exNil))) exNil))))) exNil)) (.slc (.loc 14) (.at (.cst (.int 1))) .no)) (exCons (.loc 15) exNil))))) exNil)))))
  (.seq (.asg (.name 8) (.bin .add (.loc 8) (.lst (exCons (.tup (exCons (.loc 12) (exCons (.loc 3) (exCons (.bin .add (.tup (exCons (.slc (.idx (.loc 14) (.cst (.int 0))) .no (.at (.cst (.int 3)))) exNil)) (.slc (.loc 14) (.at (.cst (.int 1))) .no)) (exCons (.loc 15) exNil))))) (exCons (.tup (exCons (.loc 12) (exCons (.tup (exCons (.cst (.str (Str.ofString "signs"))) (exCons (.cst (.int 0)) (exCons (.cst (.int 0)) (exCons (.cst (.int 0)) exNil))))) (exCons (.loc 14) (exCons (.loc 15) exNil))))) (exCons (.tup (exCons (.loc 12) (exCons (.loc 3) (exCons (.loc 14) (exCons (.tup (exCons (.cst (.int 0)) (exCons (.cst (.int 0)) exNil))) exNil))))) exNil))))))
  (.seq (.asg (.name 8) (.bin .add (.loc 8) (.lst (exCons (.ite (.ex (.cmp .gt (.bin .mul (.idx (.loc 3) (.cst (.int 1))) (.idx (.loc 3) (.cst (.int 2)))) (.cst (.int 0)))) (.tup (exCons (.loc 12) (exCons (.loc 3) (exCons (.bin .add (.loc 14) (.slc (.loc 14) .no (.at (.cst (.int 1))))) (exCons (.loc 15) exNil))))) (.cst (.int 5))) exNil))))
  (.seq (.asg (.name 9) (.call cl 23 (exCons (.loc 1) (exCons (.loc 8) exNil))))
  (.seq (.asg (.name 10) (.call cl 23 (exCons (.loc 1) (exCons (.lst (exCons (.cst .non) (exCons (.tup (exCons (.call cl 26 (exCons (.loc 3) exNil)) exNil)) (exCons (.tup (exCons (.neg (.cst (.int 1))) exNil)) (exCons (.lst (exCons (.cst (.int 0)) exNil)) (exCons (.bin .mul (.tup (exCons (.cst (.int 0)) exNil)) (.cst (.int 301))) exNil)))))) exNil))))
  (.seq (.asg (.name 11) (.tup (exCons (.call cl 32 (exCons (.cst (.fn 19)) (exCons (.loc 4) (exCons (.loc 10) exNil)))) (exCons (.call cl 32 (exCons (.cst (.fn 19)) (exCons (.loc 9) (exCons (.loc 10) exNil)))) (exCons (.call cl 32 (exCons (.cst (.fn 20)) (exCons (.loc 9) (exCons (.cst (.str (Str.ofString "one"))) exNil)))) exNil)))))
  (.ite (.or (.not (.ex (.call cl 24 (exCons (.call cl 9 (exCons (.loc 9) exNil)) (exCons (.cst (.bl false)) exNil))))) (.ex (.cmp .ne (.loc 11) (.tup (exCons (.cst (.str (Str.ofString "word"))) (exCons (.cst (.str (Str.ofString "system"))) (exCons (.cst (.str (Str.ofString "system"))) exNil))))))) (.ret (.cst (.bl false))) .skip)))))))))))))))))
theorem idx_hd {x : D} {r : List D} {g : G} : idx (.tup (x :: r)) (.int 0) g = .ok x g := by
  simp [idx, atI, ixN, oD]
theorem law_true (ns : List Int) (hl : ns.length ≤ 63) : ∃ g, callN 115 33 [.rol ns] [] = .ok (.bl true) g := by
  obtain ⟨gt, ht1, ht2, ht3⟩ := tape_spec (cl := callN 113) hl
  have ht : callN 114 21 [.rol ns] [] = .ok (.ref 1) gt := ht1
  have loop : ∃ δ g, forLoop (.seq (rangeD 0 ((3 : Nat) : Int))) (.name 2) (b_turn (callN 114)) fuel 0 [some (.rol ns), some (.ref 1), none, none, none, none, none, none, none, none, none, none, none, none, none, none, none, none, none, none, none, none] gt = .ok (.nx δ) g := by
    refine for_steps (xs := rangeD 0 ((3 : Nat) : Int)) (P := fun i δ g => TapeAt 1 0 g ∧ ∃ v2 v3 v4 v5 v6 v7 v8 v9 v10 v11 v12 v13 v14 v15 v16 v17 v18 v19 v20 v21, δ = [some (.rol ns), some (.ref 1), v2, v3, v4, v5, v6, v7, v8, v9, v10, v11, v12, v13, v14, v15, v16, v17, v18, v19, v20, v21]) (Q := fun r => ∃ δ g, r = .ok (.nx δ) g) (fun _ _ _ _ => rfl) ?_ ?_ fuel 0 _ _ ⟨ht2, _, _, _, _, _, _, _, _, _, _, _, _, _, _, _, _, _, _, _, _, rfl⟩ (Nat.zero_le _) (by rw [rangeD_len]; unfold fuel; omega)
    · rintro i x δ g hx ⟨h0, v2, v3, v4, v5, v6, v7, v8, v9, v10, v11, v12, v13, v14, v15, v16, v17, v18, v19, v20, v21, rfl⟩
      -- signs, machine
      obtain ⟨s, g1, hs, ⟨a, b, c, rfl, a2, b2, c1, s1⟩, T1, l1⟩ := signs_spec (cl := callN 113) (i := 23) (pickOk 111 1 0) h0
      obtain ⟨rows, ends, g2, hd, r1, r2, rg, e0, e1, e2, T2, l2⟩ := def_spec (cl := callN 113) (dr := 22) (a := a) (b := b) (cc := c) (most := 5) (drawOk 112 1 0) T1.tp (by omega) (by omega) (by omega) (by decide) (by decide)
      have M : MachOk a b c rows ends := ⟨by omega, by omega, by omega, s1, r1, by omega, rg, e0, e1, e2⟩
      have hs' : callN 114 25 [.ref 1] g = .ok (sgT a b c) g1 := hs
      have hd' : callN 114 28 [.ref 1, sgT a b c, .int 5] g1 = .ok (machD a b c rows ends) g2 := hd
      obtain ⟨row0, rrest, hrow⟩ : ∃ x rs, rows = x :: rs := by
        cases hr : rows with
        | nil => rw [hr] at r1; simp at r1
        | cons x rs => exact ⟨x, rs, rfl⟩
      -- others
      generalize hoth : D.tup [sDef, sgT a b c, .tup (rows.map rowD), .tup (compl rows.length ends)] = oth
      have hoth_t : tree 6 oth = true := by
        rw [← hoth]
        refine tree_tup (by show 4 ≤ 4096; decide) fun x hx => ?_
        simp only [List.mem_cons, List.not_mem_nil, or_false] at hx
        rcases hx with rfl | rfl | rfl | rfl
        · exact tree_mono (n := 1) (by decide +kernel) (by decide)
        · exact tree_mono (tree_sg a b c) (by decide)
        · exact tree_rows M
        · exact tree_mono (tree_compl M (by omega)) (by decide)
      -- the words
      have g3 : ∃ g3, g3 = g2 ++ [O.lst (compl rows.length ends)] := ⟨_, rfl⟩
      obtain ⟨g3, hg3⟩ := g3
      have T3 : TapeAt 1 0 g3 := by rw [hg3]; exact T2.tp.app _
      have words : ∃ v7' v16' g4, forLoop (.seq (rangeD 0 ((6 : Nat) : Int))) (.name 7) (b_again (callN 114)) fuel 0 [some (.rol ns), some (.ref 1), some x, some (sgT a b c), some (machD a b c rows ends), some (.int rows.length), some oth, v7, v8, v9, v10, v11, some sDef, some (sgT a b c), some (.tup (rows.map rowD)), some (iT ends), v16, v17, v18, v19, v20, v21] g3 =
          .ok (.nx [some (.rol ns), some (.ref 1), some x, some (sgT a b c), some (machD a b c rows ends), some (.int rows.length), some oth, v7', v8, v9, v10, v11, some sDef, some (sgT a b c), some (.tup (rows.map rowD)), some (iT ends), v16', v17, v18, v19, v20, v21]) g4 ∧ TapeAt 1 0 g4 := by
        refine for_steps (xs := rangeD 0 ((6 : Nat) : Int)) (P := fun i δ g => TapeAt 1 0 g ∧ ∃ v7 v16, δ = [some (.rol ns), some (.ref 1), some x, some (sgT a b c), some (machD a b c rows ends), some (.int rows.length), some oth, v7, v8, v9, v10, v11, some sDef, some (sgT a b c), some (.tup (rows.map rowD)), some (iT ends), v16, v17, v18, v19, v20, v21]) (Q := fun r => ∃ v7' v16' g4, r = .ok (.nx [some (.rol ns), some (.ref 1), some x, some (sgT a b c), some (machD a b c rows ends), some (.int rows.length), some oth, v7', v8, v9, v10, v11, some sDef, some (sgT a b c), some (.tup (rows.map rowD)), some (iT ends), v16', v17, v18, v19, v20, v21]) g4 ∧ TapeAt 1 0 g4) (fun _ _ _ _ => rfl) ?_ ?_ fuel 0 _ _ ⟨T3, _, _, rfl⟩ (Nat.zero_le _) (by rw [rangeD_len]; unfold fuel; omega)
        · rintro i y δ g' hy ⟨h0', u7, u16, rfl⟩
          obtain ⟨w, g'', hw, w1, w2, w3, w4⟩ := word_spec (cl := callN 113) (dr := 22) (mn := 26) (a := a) (b := b) (cc := c) (most := 12) (drawOk 112 1 0) (fun g => many_spec (cl := callN 112)) h0' s1 (by omega) (by decide)
          have hw' : callN 114 27 [.ref 1, sgT a b c, .int 12] g' = .ok (iT w) g'' := hw
          have hk : eqG g'' (iT w) sOne = some false := one_tree g'' (tree_iT (by omega)) (by decide) (by intro s h; cases h)
          have hc1 : callN 114 32 [.fn 19, machD a b c rows ends, iT w] g'' = .ok (.bl (ends.contains (runM a b rows w).1)) g'' := lcall (by decide) hk (.inl ⟨takes_ok M 107 g'' w1 (by omega), rfl⟩)
          have hc2 : callN 114 31 [machD a b c rows ends, iT w] g'' = .ok (.bl (ends.contains (runM a b rows w).1)) g'' := ltaken (m := 111) rg (by omega) r1 w1 (by omega)
          refine ⟨_, g', rfl, .inl ⟨[some (.rol ns), some (.ref 1), some x, some (sgT a b c), some (machD a b c rows ends), some (.int rows.length), some oth, some y, v8, v9, v10, v11, some sDef, some (sgT a b c), some (.tup (rows.map rowD)), some (iT ends), some (iT w), v17, v18, v19, v20, v21], g'', .inl ?_, w3.tp, some y, some (iT w), rfl⟩⟩
          unfold b_again
          rw [st_nx (st_set (i := 16) (d := iT w) (g1 := g'') (by rw [x_call (ds := [.ref 1, sgT a b c, .int 12]) (g1 := g') rfl]; exact hw'))]
          simp only [List.set_cons_succ, List.set_cons_zero]
          refine st_no (g1 := g'') (t_not (k := true) (t_ex ?_))
          rw [x_call (ds := [.bl (ends.contains (runM a b rows w).1), .bl (ends.contains (runM a b rows w).1)]) (g1 := g'')]
          · exact same 1 _ rfl 114 (by decide) g''
          · refine xs_cons (g1 := g'') (by rw [x_call (ds := [.fn 19, machD a b c rows ends, iT w]) (g1 := g'') rfl]; exact hc1) (xs_cons (g1 := g'') (by rw [x_call (ds := [machD a b c rows ends, iT w]) (g1 := g'') rfl]; exact hc2) rfl)
        · rintro δ g' ⟨h0', u7, u16, rfl⟩
          exact ⟨u7, u16, g', rfl, h0'⟩
      obtain ⟨u7, u16, g4, hwd, T4⟩ := words
      have R0 := rg row0 (by rw [hrow]; exact List.mem_cons_self)
      have rows0 : rows.map rowD = rowD row0 :: rrest.map rowD := by rw [hrow]; rfl
      -- the wrong ones
      generalize hr0 : g4.length = r0
      have lt4 := T4.lt
      generalize hp : row0.p = p at *
      generalize hq : row0.q = q at *
      generalize hf : row0.f = f at *
      generalize hks : row0.k = ks at *
      have erow : rowD row0 = .tup [iT p, iT q, iT f, .tup (ks.map iT)] := by rw [← hp, ← hq, ← hf, ← hks]; rfl
      have p1 : p.length = c := by rw [← hp]; exact R0.p1
      have q1 : q.length = a := by rw [← hq]; exact R0.q1
      have f1 : f.length = b := by rw [← hf]; exact R0.f1
      have k1 : ks.length = b := by rw [← hks]; exact R0.k1
      have tr0 : tree 4 (.tup [iT p, iT q, iT f, .tup (ks.map iT)]) = true := by rw [← erow]; exact tree_row R0 (by omega) (by omega) (by omega) (by omega)
      have tp : tree 3 (iT p) = true := (tree_sub tr0).2 _ (by simp)
      have tq : tree 3 (iT q) = true := (tree_sub tr0).2 _ (by simp)
      have tf : tree 3 (iT f) = true := (tree_sub tr0).2 _ (by simp)
      have tk : tree 3 (.tup (ks.map iT)) = true := (tree_sub tr0).2 _ (by simp)
      have t0 : ∀ l : List Int, l.length ≤ 4000 → tree 3 (.tup (l.map D.int ++ [.int 0])) = true := fun l h => by
        have : l.map D.int ++ [.int 0] = (l ++ [0]).map .int := by simp
        rw [this]
        exact tree_mono (tree_iT (by simp; omega)) (by decide)
      have tkk : tree 3 (.tup (ks.map iT ++ [.tup []])) = true := by
        refine tree_tup (by simp; omega) fun y hy => ?_
        rcases List.mem_append.mp hy with hy | hy
        · exact (tree_sub tk).2 y hy
        · rw [List.mem_singleton] at hy; subst hy; rfl
      have t4 : ∀ {w1 w2 w3 w4 : D}, tree 3 w1 = true → tree 3 w2 = true → tree 3 w3 = true → tree 3 w4 = true → tree 4 (.tup [w1, w2, w3, w4]) = true := fun h1 h2 h3 h4 => tree_tup (by show 4 ≤ 4096; decide) fun x hx => by
        simp only [List.mem_cons, List.not_mem_nil, or_false] at hx
        rcases hx with rfl | rfl | rfl | rfl <;> assumption
      have t3 : tree 4 (.tup [iT p, iT q, iT f]) = true := tree_tup (by show 3 ≤ 4096; decide) fun x hx => by
        simp only [List.mem_cons, List.not_mem_nil, or_false] at hx
        rcases hx with rfl | rfl | rfl <;> assumption
      let rd : List D := (rows.map rowD).drop 1
      let W2 : D := .tup [sDef, sgT a b c, .tup (rows.map rowD)]
      let W3 : D := .tup [.str (Str.ofString "definites"), sgT a b c, .tup (rows.map rowD), iT ends]
      let W4 : D := .tup [sDef, sgT a b c, .tup [], .tup []]
      let W5 : D := .tup [sDef, sgT a b c, .ref r0, iT ends]
      let W6 : D := .tup [sDef, sgT a b c, .tup (rows.map rowD), .tup (ends.map D.int ++ [.int rows.length])]
      let W7 : D := .tup [sDef, sgT a b c, .tup (List.replicate 41 (rows.map rowD)).flatten, .tup []]
      let W8 : D := .tup [sDef, sgT a b c, .tup (.tup [.tup (p.map D.int ++ [.int 0]), iT q, iT f, .tup (ks.map iT)] :: rd), iT ends]
      let W9 : D := .tup [sDef, sgT a b c, .tup (.tup [iT p, .tup (q.map D.int ++ [.int 0]), iT f, .tup (ks.map iT)] :: rd), iT ends]
      let W10 : D := .tup [sDef, sgT a b c, .tup (.tup [iT p, iT q, .tup (f.map D.int ++ [.int 0]), .tup (ks.map iT)] :: rd), iT ends]
      let W11 : D := .tup [sDef, sgT a b c, .tup (.tup [iT p, iT q, iT f, .tup (ks.map iT ++ [.tup []])] :: rd), iT ends]
      let W12 : D := .tup [sDef, sgT a b c, .tup (.tup [iT p, iT q, iT f] :: rd), iT ends]
      let W13 : D := .tup [sDef, sgT 0 0 0, .tup (rows.map rowD), iT ends]
      let W14 : D := .tup [sDef, sgT a b c, .tup (rows.map rowD), .tup [.int 0, .int 0]]
      let W15 : D := if a * b > 0 then .tup [sDef, sgT a b c, .tup (rows.map rowD ++ (rows.map rowD).take 1), iT ends] else .int 5
      have nm : ∀ (n : Nat) (l : List Int) (k : Nat), l.length = k → isNexts n k (.tup (l.map D.int ++ [.int 0])) = false := fun n l k h => nexts_more h _
      have wOk : ∀ w ∈ [D.non, W2, W3, W4, W5, W6, W7, W8, W9, W10, W11, W12, W13, W14, W15], WOk rows r0 w := by
        intro w hw
        simp only [List.mem_cons, List.not_mem_nil, or_false] at hw
        rcases hw with rfl | rfl | rfl | rfl | rfl | rfl | rfl | rfl | rfl | rfl | rfl | rfl | rfl | rfl | rfl
        · exact w1 M
        · exact w2 M
        · exact w3 M
        · exact w4 M
        · exact w5 M
        · exact w6 M
        · exact w7 M
        · exact w_row M (t4 (t0 p (by omega)) tq tf tk) fun n hn => row_bad4 (.inl (by rw [nm n p c p1]; rfl))
        · exact w_row M (t4 tp (t0 q (by omega)) tf tk) fun n hn => row_bad4 (.inl (by rw [nm n q a q1]; simp))
        · exact w_row M (t4 tp tq (t0 f (by omega)) tk) fun n hn => row_bad4 (.inl (by rw [nm n f b f1]; simp))
        · exact w_row M (t4 tp tq tf tkk) fun n hn => row_bad4 (.inr (backs_more k1 _))
        · exact w_row M t3 fun n hn => isRow_len (by show 3 ≠ 4; decide)
        · exact w13 M
        · exact w14 M
        · show WOk rows r0 (if a * b > 0 then _ else _)
          by_cases hab : a * b > 0
          · rw [if_pos hab]
            exact w15 M (Nat.pos_of_ne_zero fun z => by rw [z] at hab; simp at hab) (Nat.pos_of_ne_zero fun z => by rw [z] at hab; simp at hab)
          · rw [if_neg hab]; exact w_five M
      -- the list of the wrong ones, in four steps
      have hrl : rows.length ≤ 50 := by omega
      have hel : ends.length ≤ 50 := by omega
      have rl : (rows.map rowD).length ≤ 50 := by rw [List.length_map]; omega
      have rdl : rd.length ≤ 50 := by show ((rows.map rowD).drop 1).length ≤ 50; rw [List.length_drop]; omega
      let L1 : List D := [.non, W2, W3, W4, W5, W6, W7]
      let L2 : List D := L1 ++ [W8, W9]
      let L3 : List D := L2 ++ [W10, W11]
      let L4 : List D := L3 ++ [W12, W13, W14]
      let L5 : List D := L4 ++ [W15]
      let g5 : G := g4 ++ [O.lst (rows.map rowD)]
      let g6 : G := g5 ++ [O.lst L1]
      let g7 : G := g6 ++ [O.lst [W8, W9]] ++ [O.lst L2]
      let g8 : G := g7 ++ [O.lst [W10, W11]] ++ [O.lst L3]
      let g9 : G := g8 ++ [O.lst [W12, W13, W14]] ++ [O.lst L4]
      let ga : G := g9 ++ [O.lst [W15]] ++ [O.lst L5]
      let E : Option D → DV.Env := fun w => [some (.rol ns), some (.ref 1), some x, some (sgT a b c), some (machD a b c rows ends), some (.int rows.length), some oth, u7, w, v9, v10, v11, some sDef, some (sgT a b c), some (.tup (rows.map rowD)), some (iT ends), u16, some (iT p), some (iT q), some (iT f), some (.tup (ks.map iT)), v21]
      have l6 : g6[r0 + 1]? = some (.lst L1) := by
        show (g4 ++ [O.lst (rows.map rowD)] ++ [O.lst L1])[r0 + 1]? = _
        rw [← hr0, List.getElem?_append_right (by simp)]
        simp
      have lst_last : ∀ (G : G) (o1 o2 : O), (G ++ [o1] ++ [o2])[G.length + 1]? = some o2 := fun G o1 o2 => by
        rw [List.getElem?_append_right (by simp)]
        simp
      have l7 : g7[g6.length + 1]? = some (.lst L2) := lst_last g6 _ _
      have l8 : g8[g7.length + 1]? = some (.lst L3) := lst_last g7 _ _
      have l9 : g9[g8.length + 1]? = some (.lst L4) := lst_last g8 _ _
      have la : ga[g9.length + 1]? = some (.lst L5) := lst_last g9 _ _
      have c1' : Ex.lst (exCons (.cst .non) (exCons (.slc (.loc 4) .no (.at (.cst (.int 3)))) (exCons (.bin .add (.tup (exCons (.cst (.str (Str.ofString "definites"))) exNil)) (.slc (.loc 4) (.at (.cst (.int 1))) .no)) (exCons (.tup (exCons (.loc 12) (exCons (.loc 3) (exCons (.tup exNil) (exCons (.tup exNil) exNil))))) (exCons (.tup (exCons (.loc 12) (exCons (.loc 3) (exCons (.bi .list (exCons (.loc 14) exNil)) (exCons (.loc 15) exNil))))) (exCons (.tup (exCons (.loc 12) (exCons (.loc 3) (exCons (.loc 14) (exCons (.bin .add (.loc 15) (.tup (exCons (.loc 5) exNil))) exNil))))) (exCons (.tup (exCons (.loc 12) (exCons (.loc 3) (exCons (.bin .mul (.loc 14) (.cst (.int 41))) (exCons (.tup exNil) exNil))))) exNil))))))) (E v8) g4 = .ok (.ref (r0 + 1)) g6 := by
        have hlist : Ex.bi .list (exCons (.loc 14) exNil) (E v8) g4 = .ok (.ref r0) g5 := by rw [← hr0]; rfl
        have e5 : Ex.tup (exCons (.loc 12) (exCons (.loc 3) (exCons (.bi .list (exCons (.loc 14) exNil)) (exCons (.loc 15) exNil)))) (E v8) g4 = .ok W5 g5 := x_tup (ds := [sDef, sgT a b c, .ref r0, iT ends]) (xs_cons (g1 := g4) rfl (xs_cons (g1 := g4) rfl (xs_cons hlist (xs_cons rfl rfl)))) (by show 4 ≤ LINE; decide)
        refine (x_lst (ds := L1) (g1 := g5) (xs_cons (g1 := g4) rfl (xs_cons (g1 := g4) (x_to (n := 3) (xs := [sDef, sgT a b c, .tup (rows.map rowD), iT ends]) rfl (by simp)) (xs_cons (g1 := g4) (x_cat (x_t1 rfl) (x_from1 (xs := [sDef, sgT a b c, .tup (rows.map rowD), iT ends]) rfl) (by simp)) (xs_cons (g1 := g4) (x_t4 rfl rfl rfl rfl) (xs_cons e5
          (xs_cons (x_t4 rfl rfl rfl (x_cat (xs := ends.map .int) rfl (x_t1 rfl) (by simp; omega))) (xs_cons (x_t4 rfl rfl (x_rep (n := 41) (xs := rows.map rowD) rfl (by rw [rows0]; simp) (by decide) (by decide) (by omega)) rfl) rfl))))))) (by show 7 ≤ LINE; decide)).trans ?_
        show DV.R.ok (D.ref (g4 ++ [O.lst (rows.map rowD)]).length) g6 = _
        rw [List.length_append, ← hr0]
        rfl
      have h140 : Ex.idx (.loc 14) (.cst (.int 0)) (E (some (.ref (g7.length + 1)))) g8 = .ok (.tup [iT p, iT q, iT f, .tup (ks.map iT)]) g8 := by
        rw [x_idx (d := .tup (rows.map rowD)) (g1 := g8) (d2 := .int 0) (g2 := g8) rfl rfl, rows0, erow]
        exact idx_hd
      have e15 : Ex.ite (.ex (.cmp .gt (.bin .mul (.idx (.loc 3) (.cst (.int 1))) (.idx (.loc 3) (.cst (.int 2)))) (.cst (.int 0)))) (.tup (exCons (.loc 12) (exCons (.loc 3) (exCons (.bin .add (.loc 14) (.slc (.loc 14) .no (.at (.cst (.int 1))))) (exCons (.loc 15) exNil))))) (.cst (.int 5)) (E (some (.ref (g8.length + 1)))) g9 = .ok W15 g9 := by
        have hm : Ex.bin .mul (.idx (.loc 3) (.cst (.int 1))) (.idx (.loc 3) (.cst (.int 2))) (E (some (.ref (g8.length + 1)))) g9 = .ok (.int ((a : Int) * b)) g9 := by
          rw [x_bin (d := .int a) (g1 := g9) (d2 := .int b) (g2 := g9) (by rw [x_idx (d := sgT a b c) (g1 := g9) (d2 := .int 1) (g2 := g9) rfl rfl]; rfl) (by rw [x_idx (d := sgT a b c) (g1 := g9) (d2 := .int 2) (g2 := g9) rfl rfl]; rfl), mul_int (by omega)]
        have hc : (Te.ex (.cmp .gt (.bin .mul (.idx (.loc 3) (.cst (.int 1))) (.idx (.loc 3) (.cst (.int 2)))) (.cst (.int 0)))) (E (some (.ref (g8.length + 1)))) g9 = .ok (decide (a * b > 0)) g9 := by
          refine t_ex ?_
          rw [x_cmp hm (d2 := .int 0) (g2 := g9) rfl]
          have : decide ((0 : Int) < (a : Int) * b) = decide (a * b > 0) := by
            rw [← Int.natCast_mul]
            exact decide_eq_decide.mpr (by omega)
          rw [← this]
          rfl
        rw [x_ite hc]
        show (if decide (a * b > 0) = true then _ else _) = DV.R.ok (if a * b > 0 then _ else _) g9
        by_cases hab : a * b > 0
        · rw [if_pos (decide_eq_true hab), if_pos hab]
          exact x_t4 rfl rfl (x_cat (xs := rows.map rowD) (ys := (rows.map rowD).take 1) rfl (x_to (n := 1) (xs := rows.map rowD) rfl (by rw [rows0]; simp)) (by simp; omega)) rfl
        · rw [if_neg (by simpa using hab), if_neg hab]
          rfl
      have c2' : Ex.bin .add (.loc 8) (.lst (exCons (.tup (exCons (.loc 12) (exCons (.loc 3) (exCons (.bin .add (.tup (exCons (.tup (exCons (.bin .add (.loc 17) (.tup (exCons (.cst (.int 0)) exNil))) (exCons (.loc 18) (exCons (.loc 19) (exCons (.loc 20) exNil))))) exNil)) (.slc (.loc 14) (.at (.cst (.int 1))) .no)) (exCons (.loc 15) exNil))))) (exCons (.tup (exCons (.loc 12) (exCons (.loc 3) (exCons (.bin .add (.tup (exCons (.tup (exCons (.loc 17) (exCons (.bin .add (.loc 18) (.tup (exCons (.cst (.int 0)) exNil))) (exCons (.loc 19) (exCons (.loc 20) exNil))))) exNil)) (.slc (.loc 14) (.at (.cst (.int 1))) .no)) (exCons (.loc 15) exNil))))) exNil))) (E (some (.ref (r0 + 1)))) g6 = .ok (.ref (g6.length + 1)) g7 := x_more rfl l6 (xs_cons (x_t4 rfl rfl (x_cat (x_t1 (x_t4 (x_cat (xs := p.map D.int) rfl (x_t1 rfl) (by simp; omega)) rfl rfl rfl)) (x_from1 (xs := rows.map rowD) rfl) (by simp; omega)) rfl) (xs_cons (x_t4 rfl rfl (x_cat (x_t1 (x_t4 rfl (x_cat (xs := q.map D.int) rfl (x_t1 rfl) (by simp; omega)) rfl rfl)) (x_from1 (xs := rows.map rowD) rfl) (by simp; omega)) rfl) rfl)) (by show 7 + 2 ≤ 10000; decide)
      have c3' : Ex.bin .add (.loc 8) (.lst (exCons (.tup (exCons (.loc 12) (exCons (.loc 3) (exCons (.bin .add (.tup (exCons (.tup (exCons (.loc 17) (exCons (.loc 18) (exCons (.bin .add (.loc 19) (.tup (exCons (.cst (.int 0)) exNil))) (exCons (.loc 20) exNil))))) exNil)) (.slc (.loc 14) (.at (.cst (.int 1))) .no)) (exCons (.loc 15) exNil))))) (exCons (.tup (exCons (.loc 12) (exCons (.loc 3) (exCons (.bin .add (.tup (exCons (.tup (exCons (.loc 17) (exCons (.loc 18) (exCons (.loc 19) (exCons (.bin .add (.loc 20) (.tup (exCons (.tup exNil) exNil))) exNil))))) exNil)) (.slc (.loc 14) (.at (.cst (.int 1))) .no)) (exCons (.loc 15) exNil))))) exNil))) (E (some (.ref (g6.length + 1)))) g7 = .ok (.ref (g7.length + 1)) g8 := x_more rfl l7 (xs_cons (x_t4 rfl rfl (x_cat (x_t1 (x_t4 rfl rfl (x_cat (xs := f.map D.int) rfl (x_t1 rfl) (by simp; omega)) rfl)) (x_from1 (xs := rows.map rowD) rfl) (by simp; omega)) rfl) (xs_cons (x_t4 rfl rfl (x_cat (x_t1 (x_t4 rfl rfl rfl (x_cat (xs := ks.map iT) rfl (x_t1 rfl) (by simp; omega)))) (x_from1 (xs := rows.map rowD) rfl) (by simp; omega)) rfl) rfl)) (by show 9 + 2 ≤ 10000; decide)
      have c4' : Ex.bin .add (.loc 8) (.lst (exCons (.tup (exCons (.loc 12) (exCons (.loc 3) (exCons (.bin .add (.tup (exCons (.slc (.idx (.loc 14) (.cst (.int 0))) .no (.at (.cst (.int 3)))) exNil)) (.slc (.loc 14) (.at (.cst (.int 1))) .no)) (exCons (.loc 15) exNil))))) (exCons (.tup (exCons (.loc 12) (exCons (.tup (exCons (.cst (.str (Str.ofString "signs"))) (exCons (.cst (.int 0)) (exCons (.cst (.int 0)) (exCons (.cst (.int 0)) exNil))))) (exCons (.loc 14) (exCons (.loc 15) exNil))))) (exCons (.tup (exCons (.loc 12) (exCons (.loc 3) (exCons (.loc 14) (exCons (.tup (exCons (.cst (.int 0)) (exCons (.cst (.int 0)) exNil))) exNil))))) exNil)))) (E (some (.ref (g7.length + 1)))) g8 = .ok (.ref (g8.length + 1)) g9 := x_more rfl l8 (xs_cons (x_t4 rfl rfl (x_cat (x_t1 (x_to (n := 3) (xs := [iT p, iT q, iT f, .tup (ks.map iT)]) h140 (by simp))) (x_from1 (xs := rows.map rowD) rfl) (by simp; omega)) rfl) (xs_cons (x_t4 rfl rfl rfl rfl) (xs_cons (x_t4 rfl rfl rfl rfl) rfl))) (by show 11 + 3 ≤ 10000; decide)
      have c5' : Ex.bin .add (.loc 8) (.lst (exCons (.ite (.ex (.cmp .gt (.bin .mul (.idx (.loc 3) (.cst (.int 1))) (.idx (.loc 3) (.cst (.int 2)))) (.cst (.int 0)))) (.tup (exCons (.loc 12) (exCons (.loc 3) (exCons (.bin .add (.loc 14) (.slc (.loc 14) .no (.at (.cst (.int 1))))) (exCons (.loc 15) exNil))))) (.cst (.int 5))) exNil)) (E (some (.ref (g8.length + 1)))) g9 = .ok (.ref (g9.length + 1)) ga := x_more rfl l9 (xs_cons e15 rfl) (by show 14 + 1 ≤ 10000; decide)
      have keep : ∀ {Y X : DV.G} {i : Nat} {o : O}, Y[i]? = some o → (Y ++ X)[i]? = some o := fun {Y X i o} h => by
        rw [List.getElem?_append_left (List.getElem?_eq_some_iff.mp h).1]
        exact h
      have Ta : TapeAt 1 0 ga := ((((((((((T4.app _).app _).app _).app _).app _).app _).app _).app _).app _).app _)
      have o5 : g5[r0]? = some (.lst (rows.map rowD)) := by
        show (g4 ++ [O.lst (rows.map rowD)])[r0]? = _
        rw [← hr0]
        simp
      have oa : ga[r0]? = some (.lst (rows.map rowD)) := keep (keep (keep (keep (keep (keep (keep (keep (keep o5))))))))
      have lga : r0 < ga.length := (List.getElem?_eq_some_iff.mp oa).1
      have hl9 : g9.length = r0 + 8 := by
        show (g4 ++ [O.lst (rows.map rowD)] ++ [O.lst L1] ++ [O.lst [W8, W9]] ++ [O.lst L2] ++ [O.lst [W10, W11]] ++ [O.lst L3] ++ [O.lst [W12, W13, W14]] ++ [O.lst L4]).length = _
        simp only [List.length_append, List.length_cons, List.length_nil, hr0]
      have r0g : 1 < r0 := by omega
      obtain ⟨w, gb, hp1, hw, Tb, lb⟩ := pickOk 112 1 0 ga (g9.length + 1) L5 Ta la (by omega) (by omega) (List.cons_ne_nil D.non ([W2, W3, W4, W5, W6, W7, W8, W9, W10, W11, W12, W13, W14, W15])) (by show 15 ≤ 4096; decide) (fun x hx => (wOk x hx).1 _ lga)
      have hbad := (wOk w hw).2
      have ob : gb[r0]? = some (.lst (rows.map rowD)) := (Tb.old r0 lga (by omega) (by omega)).trans oa
      -- no words
      let X : D := .tup (List.replicate 301 [D.int 0]).flatten
      let O5 : List D := [.non, .tup [.int ((a + b + c : Nat) : Int)], .tup [.int (-1)], .ref gb.length, X]
      let gc : G := gb ++ [O.lst [.int 0]]
      let gd : G := gc ++ [O.lst O5]
      have tX : tree 3 X = true := tree_tup (by decide +kernel) fun y hy => by
        obtain ⟨l, hl, hy⟩ := List.mem_flatten.mp hy
        rw [(List.mem_replicate.mp hl).2, List.mem_singleton] at hy
        subst hy
        rfl
      have ld : gd[gc.length]? = some (.lst O5) := by show (gc ++ [O.lst O5])[gc.length]? = _; simp
      have oc : gc[gb.length]? = some (.lst [.int 0]) := by show (gb ++ [O.lst [.int 0]])[gb.length]? = _; simp
      have od : gd[gb.length]? = some (.lst [.int 0]) := keep oc
      have or' : gd[r0]? = some (.lst (rows.map rowD)) := keep (keep ob)
      have lgb : r0 < gb.length := (List.getElem?_eq_some_iff.mp ob).1
      have lgd : gb.length < gd.length := (List.getElem?_eq_some_iff.mp od).1
      have lgc : gc.length = gb.length + 1 := by show (gb ++ [O.lst [.int 0]]).length = _; simp
      obtain ⟨o, ge, hp2, ho, Te', le'⟩ := pickOk 112 1 0 gd gc.length O5 ((Tb.tp.app _).app _) ld (by omega) (by omega) (List.cons_ne_nil D.non [.tup [.int ((a + b + c : Nat) : Int)], .tup [.int (-1)], .ref gb.length, X]) (by show 5 ≤ 4096; decide) (fun x hx => by
        simp only [O5, List.mem_cons, List.not_mem_nil, or_false] at hx
        rcases hx with rfl | rfl | rfl | rfl | rfl
        · rfl
        · rfl
        · rfl
        · exact decide_eq_true lgd
        · exact tree_low (n := 3) _ tX)
      have oe : ge[gb.length]? = some (.lst [.int 0]) := (Te'.old _ lgd (by omega) (by omega)).trans od
      have oer : ge[r0]? = some (.lst (rows.map rowD)) := (Te'.old _ (by omega) (by omega) (by omega)).trans or'
      have hodd : OddOk a b c o ge := by
        simp only [O5, List.mem_cons, List.not_mem_nil, or_false] at ho
        rcases ho with rfl | rfl | rfl | rfl | rfl
        · exact odd_none
        · exact odd_tup (n := 1) rfl (by decide) (by simp [isInt]; try omega)
        · exact odd_tup (n := 1) rfl (by decide) (by simp [isInt]; try omega)
        · exact odd_ref oe
        · exact odd_tup (n := 2) tX (by decide) (by rw [show decide ((List.replicate 301 [D.int 0]).flatten.length ≤ 300) = false by decide +kernel, Bool.false_and])
      have hbe : ∀ m, Bad m ge w := fun m => hbad m ge oer
      have t1 : callN 114 32 [.fn 19, machD a b c rows ends, o] ge = .ok sWord ge := lcall (k := false) (by decide) hodd.2 (.inr (.inl ⟨takes_word M (hodd.1 107), rfl⟩))
      have t2 : callN 114 32 [.fn 19, w, o] ge = .ok sSys ge := lcall (k := false) (by decide) hodd.2 (.inr (.inr ⟨takes_sys (m := 111) (hbe 107), rfl⟩))
      have t3' : callN 114 32 [.fn 20, w, sOne] ge = .ok sSys ge := lcall (k := true) (by decide) (one_one ge) (.inr (.inr ⟨opp_sys (m := 111) (hbe 107), rfl⟩))
      have t4' : callN 114 9 [w] ge = .ok (.bl false) ge := hbe 110
      have hmany : callN 114 26 [sgT a b c] gb = .ok (.int ((a + b + c : Nat) : Int)) gb := many_spec (cl := callN 113)
      let F : Option D → Option D → Option D → DV.Env := fun y9 y10 y11 => [some (.rol ns), some (.ref 1), some x, some (sgT a b c), some (machD a b c rows ends), some (.int rows.length), some oth, u7, some (.ref (g9.length + 1)), y9, y10, y11, some sDef, some (sgT a b c), some (.tup (rows.map rowD)), some (iT ends), u16, some (iT p), some (iT q), some (iT f), some (.tup (ks.map iT)), v21]
      have codd : Ex.lst (exCons (.cst .non) (exCons (.tup (exCons (.call (callN 114) 26 (exCons (.loc 3) exNil)) exNil)) (exCons (.tup (exCons (.neg (.cst (.int 1))) exNil)) (exCons (.lst (exCons (.cst (.int 0)) exNil)) (exCons (.bin .mul (.tup (exCons (.cst (.int 0)) exNil)) (.cst (.int 301))) exNil))))) (F (some w) v10 v11) gb = .ok (.ref gc.length) gd :=
        x_lst (ds := O5) (g1 := gc) (xs_cons (g1 := gb) rfl (xs_cons (g1 := gb) (x_t1 (by rw [x_call (ds := [sgT a b c]) (g1 := gb) rfl]; exact hmany)) (xs_cons (g1 := gb) (x_t1 rfl) (xs_cons (g1 := gc) (x_lst (ds := [.int 0]) (g1 := gb) rfl (by show 1 ≤ LINE; decide)) (xs_cons (g1 := gc) (x_rep (n := 301) (xs := [.int 0]) rfl (by intro h; cases h) (by decide) (by decide) (by decide)) rfl))))) (by show 5 ≤ LINE; decide)
      have ctold : Ex.tup (exCons (.call (callN 114) 32 (exCons (.cst (.fn 19)) (exCons (.loc 4) (exCons (.loc 10) exNil)))) (exCons (.call (callN 114) 32 (exCons (.cst (.fn 19)) (exCons (.loc 9) (exCons (.loc 10) exNil)))) (exCons (.call (callN 114) 32 (exCons (.cst (.fn 20)) (exCons (.loc 9) (exCons (.cst (.str (Str.ofString "one"))) exNil)))) exNil))) (F (some w) (some o) v11) ge = .ok tWSS ge :=
        x_tup (xs_cons (g1 := ge) (by rw [x_call (ds := [.fn 19, machD a b c rows ends, o]) (g1 := ge) rfl]; exact t1) (xs_cons (g1 := ge) (by rw [x_call (ds := [.fn 19, w, o]) (g1 := ge) rfl]; exact t2) (xs_cons (g1 := ge) (by rw [x_call (ds := [.fn 20, w, sOne]) (g1 := ge) rfl]; exact t3') rfl))) (by show 3 ≤ LINE; decide)
      have cend : (Te.or (.not (.ex (.call (callN 114) 24 (exCons (.call (callN 114) 9 (exCons (.loc 9) exNil)) (exCons (.cst (.bl false)) exNil))))) (.ex (.cmp .ne (.loc 11) (.tup (exCons (.cst (.str (Str.ofString "word"))) (exCons (.cst (.str (Str.ofString "system"))) (exCons (.cst (.str (Str.ofString "system"))) exNil))))))) (F (some w) (some o) (some tWSS)) ge = .ok false ge := by
        rw [t_or_f (g1 := ge) (t_not (k := true) (t_ex (by
          rw [x_call (ds := [.bl false, .bl false]) (g1 := ge) (xs_cons (g1 := ge) (by rw [x_call (ds := [w]) (g1 := ge) rfl]; exact t4') rfl)]
          exact same 1 _ rfl 114 (by decide) ge)))]
        refine t_ex ?_
        rw [x_cmp (d := tWSS) (g1 := ge) (d2 := tWSS) (g2 := ge) rfl rfl]
        show liftO (neG ge tWSS tWSS) ge = _
        rw [wss]
        rfl
      -- the other machine
      have hmd : callN 114 9 [machD a b c rows ends] g3 = .ok (.bl true) g3 := mach_def M 110 g3
      have htr : callN 114 32 [.fn 20, machD a b c rows ends, sOne] g3 = .ok oth g3 := lcall (k := true) (by decide) (one_one g3) (.inl ⟨by rw [← hoth]; exact opp_ok M 107 g3, tree_low (n := 6) _ hoth_t⟩)
      have ceq : (Te.or (.not (.ex (.call (callN 114) 24 (exCons (.call (callN 114) 9 (exCons (.loc 4) exNil)) (exCons (.cst (.bl true)) exNil))))) (.not (.ex (.call (callN 114) 24 (exCons (.call (callN 114) 32 (exCons (.cst (.fn 20)) (exCons (.loc 4) (exCons (.cst (.str (Str.ofString "one"))) exNil)))) (exCons (.loc 6) exNil)))))) [some (.rol ns), some (.ref 1), some x, some (sgT a b c), some (machD a b c rows ends), some (.int rows.length), some oth, v7, v8, v9, v10, v11, some sDef, some (sgT a b c), some (.tup (rows.map rowD)), some (iT ends), v16, v17, v18, v19, v20, v21] g3 = .ok false g3 := by
        rw [t_or_f (g1 := g3) (t_not (k := true) (t_ex (by
          rw [x_call (ds := [.bl true, .bl true]) (g1 := g3) (xs_cons (g1 := g3) (by rw [x_call (ds := [machD a b c rows ends]) (g1 := g3) rfl]; exact hmd) rfl)]
          exact same 1 _ rfl 114 (by decide) g3)))]
        refine t_not (k := true) (t_ex ?_)
        rw [x_call (ds := [oth, oth]) (g1 := g3) (xs_cons (g1 := g3) (by rw [x_call (ds := [.fn 20, machD a b c rows ends, sOne]) (g1 := g3) rfl]; exact htr) rfl)]
        exact same 6 _ hoth_t 114 (by decide) g3
      have hlen : Ex.bi .len (exCons (.loc 14) exNil) [some (.rol ns), some (.ref 1), some x, some (sgT a b c), some (machD a b c rows ends), v5, v6, v7, v8, v9, v10, v11, some sDef, some (sgT a b c), some (.tup (rows.map rowD)), some (iT ends), v16, v17, v18, v19, v20, v21] g2 = .ok (.int rows.length) g2 := by
        rw [len_tup (xs := rows.map rowD) rfl, List.length_map]
      have hoc : Ex.tup (exCons (.cst (.str (Str.ofString "definite"))) (exCons (.loc 3) (exCons (.loc 14) (exCons (.bi .tuple (exCons (.comp [21] (.range1 (.loc 5)) (.name 21) (.ex (.cmp .notIn (.loc 21) (.loc 15))) (.loc 21)) exNil)) exNil)))) [some (.rol ns), some (.ref 1), some x, some (sgT a b c), some (machD a b c rows ends), some (.int rows.length), v6, v7, v8, v9, v10, v11, some sDef, some (sgT a b c), some (.tup (rows.map rowD)), some (iT ends), v16, v17, v18, v19, v20, v21] g2 = .ok oth g3 := by
        rw [← hoth, hg3]
        exact x_tup (xs_cons (g1 := g2) rfl (xs_cons (g1 := g2) rfl (xs_cons (g1 := g2) rfl (xs_cons (opp_comp M (n := rows.length) (by omega) rfl (by show 21 < 22; decide) (fun _ => rfl)) rfl)))) (by show 4 ≤ LINE; decide)
      have h14 : Ex.idx (.loc 14) (.cst (.int 0)) [some (.rol ns), some (.ref 1), some x, some (sgT a b c), some (machD a b c rows ends), some (.int rows.length), some oth, u7, v8, v9, v10, v11, some sDef, some (sgT a b c), some (.tup (rows.map rowD)), some (iT ends), u16, v17, v18, v19, v20, v21] g4 = .ok (.tup [iT p, iT q, iT f, .tup (ks.map iT)]) g4 := by
        rw [x_idx (d := .tup (rows.map rowD)) (g1 := g4) (d2 := .int 0) (g2 := g4) rfl rfl, rows0, erow]
        exact idx_hd
      refine ⟨_, g, rfl, .inl ⟨F (some w) (some o) (some tWSS), ge, .inl ?_, Te'.tp, _, _, _, _, _, _, _, _, _, _, _, _, _, _, _, _, _, _, _, _, rfl⟩⟩
      unfold b_turn
      rw [st_nx (st_set (i := 3) (d := sgT a b c) (g1 := g1) (by rw [x_call (ds := [.ref 1]) (g1 := g) rfl]; exact hs'))]
      simp only [List.set_cons_succ, List.set_cons_zero]
      rw [st_nx (st_set (i := 4) (d := machD a b c rows ends) (g1 := g2) (by rw [x_call (ds := [.ref 1, sgT a b c, .int 5]) (g1 := g1) rfl]; exact hd'))]
      simp only [List.set_cons_succ, List.set_cons_zero]
      rw [st_nx (st_asg (d := machD a b c rows ends) (g1 := g2) (g2 := g2) (δ' := [some (.rol ns), some (.ref 1), some x, some (sgT a b c), some (machD a b c rows ends), v5, v6, v7, v8, v9, v10, v11, some sDef, some (sgT a b c), some (.tup (rows.map rowD)), some (iT ends), v16, v17, v18, v19, v20, v21]) rfl rfl)]
      rw [st_nx (st_set (i := 5) hlen)]
      simp only [List.set_cons_succ, List.set_cons_zero]
      rw [st_nx (st_set (i := 6) hoc)]
      simp only [List.set_cons_succ, List.set_cons_zero]
      rw [st_nx (st_no ceq)]
      have hwd2 : Sm.for (.range1 (.cst (.int 6))) (.name 7) (b_again (callN 114)) _ g3 = _ := (st_for (g1 := g3) (w := .seq (rangeD 0 ((6 : Nat) : Int))) rfl).trans hwd
      refine (st_nx hwd2).trans ?_
      rw [st_nx (st_asg (g2 := g4) (δ' := E v8) h14 rfl)]
      rw [st_nx (st_set (i := 8) c1'), show (E v8).set 8 (some (.ref (r0 + 1))) = E (some (.ref (r0 + 1))) from rfl]
      rw [st_nx (st_set (i := 8) c2'), show (E (some (.ref (r0 + 1)))).set 8 (some (.ref (g6.length + 1))) = E (some (.ref (g6.length + 1))) from rfl]
      rw [st_nx (st_set (i := 8) c3'), show (E (some (.ref (g6.length + 1)))).set 8 (some (.ref (g7.length + 1))) = E (some (.ref (g7.length + 1))) from rfl]
      rw [st_nx (st_set (i := 8) c4'), show (E (some (.ref (g7.length + 1)))).set 8 (some (.ref (g8.length + 1))) = E (some (.ref (g8.length + 1))) from rfl]
      rw [st_nx (st_set (i := 8) c5'), show (E (some (.ref (g8.length + 1)))).set 8 (some (.ref (g9.length + 1))) = E (some (.ref (g9.length + 1))) from rfl]
      rw [st_nx (st_set (i := 9) (d := w) (g1 := gb) (by rw [x_call (ds := [.ref 1, .ref (g9.length + 1)]) (g1 := ga) rfl]; exact hp1)), show (E (some (.ref (g9.length + 1)))).set 9 (some w) = F (some w) v10 v11 from rfl]
      rw [st_nx (st_set (i := 10) (d := o) (g1 := ge) (by rw [x_call (ds := [.ref 1, .ref gc.length]) (g1 := gd) (xs_cons (g1 := gb) rfl (xs_cons codd rfl))]; exact hp2)), show (F (some w) v10 v11).set 10 (some o) = F (some w) (some o) v11 from rfl]
      rw [st_nx (st_set (i := 11) ctold), show (F (some w) (some o) v11).set 11 (some tWSS) = F (some w) (some o) (some tWSS) from rfl]
      exact st_no cend
    · rintro δ g ⟨h0, v2, v3, v4, v5, v6, v7, v8, v9, v10, v11, v12, v13, v14, v15, v16, v17, v18, v19, v20, v21, rfl⟩
      exact ⟨_, _, rfl⟩
  obtain ⟨δ, g, hloop⟩ := loop
  have hb : b_law (callN 114) (DV.start 22 [.rol ns]) [] = .ok (.rt (.bl true)) g := by
    unfold b_law
    rw [show DV.start 22 [.rol ns] = [some (.rol ns), none, none, none, none, none, none, none, none, none, none, none, none, none, none, none, none, none, none, none, none, none] from rfl]
    rw [st_nx (st_set (i := 1) (d := .ref 1) (g1 := gt) (by rw [x_call (ds := [.rol ns]) (g1 := []) rfl]; exact ht))]
    simp only [List.set_cons_succ, List.set_cons_zero]
    rw [st_nx (st_no (g1 := gt) (t_not (k := true) (t_ex (by
      rw [x_call (ds := [.int 40, .int 40]) (g1 := gt) rfl]
      exact same 1 _ rfl 114 (by decide) gt))))]
    have h2 : Sm.for (.range1 (.cst (.int 3))) (.name 2) (b_turn (callN 114)) _ gt = _ := (st_for (g1 := gt) (w := .seq (rangeD 0 ((3 : Nat) : Int))) rfl).trans hloop
    refine (st_nx h2).trans ?_
    exact st_ret rfl
  exact ⟨[], body_rt (t := g) rfl hb rfl⟩
end K32
end
open PySem PySem.W PyProof.Rows in
set_option maxRecDepth 100000 in
set_option maxHeartbeats 0 in
theorem PySem.Challenge.cw_stackstead_k32_definite_machines_holds : PySem.Challenge.rw_stackstead_k32_definite_machines.Holds := by
  w_on; o_law; k_head; (case hw => w_witness2)
  k_fill
  refine DV.walkDV (l := PySem.Challenge.rw_stackstead_k32_definite_machines) rfl rfl (fun w h Y => PySem.W.kIn_of Y) ?F
  case F =>
    intro w mg fa h KX G hmg
    refine' K32.all_mk KX G hmg (fun ns h _ => K32.law_true ns h) ?aC0 ?aE0 ?aE1 ?aE2 ?a0 ?l0 ?c0 ?k0 ?a1 ?l1 ?c1 ?k1 ?a2 ?l2 ?c2 ?k2 ?a3 ?l3 ?c3 ?k3 ?a4 ?l4 ?c4 ?k4 ?a5 ?l5 ?c5 ?k5 ?a6 ?l6 ?c6 ?k6 ?a7 ?l7 ?c7 ?k7 ?a8 ?l8 ?c8 ?k8 ?a9 ?l9 ?c9 ?k9 ?a10 ?l10 ?c10 ?k10 ?a11 ?i11 ?l11 ?c11 ?k11 ?a12 ?i12 ?l12 ?c12 ?k12 ?a13 ?i13 ?l13 ?c13 ?k13 ?a14 ?i14 ?l14 ?c14 ?k14 ?a15 ?i15 ?l15 ?c15 ?k15 ?a16 ?i16 ?l16 ?c16 ?k16 ?a17 ?i17 ?l17 ?c17 ?k17 ?a18 ?i18 ?l18 ?c18 ?k18 ?a19 ?l19 ?c19 ?k19 ?a20 ?l20 ?c20 ?k20 ?a21 ?l21 ?c21 ?k21 ?a22 ?l22 ?c22 ?k22 ?a23 ?l23 ?c23 ?k23 ?a24 ?l24 ?c24 ?k24 ?a25 ?l25 ?c25 ?k25 ?a26 ?l26 ?c26 ?k26 ?a27 ?l27 ?c27 ?k27 ?a28 ?l28 ?c28 ?k28 ?a29 ?l29 ?c29 ?k29 ?a30 ?l30 ?c30 ?k30 ?a31 ?l31 ?c31 ?k31 ?a32 ?l32 ?c32 ?k32 ?a33 ?l33 ?c33 ?k33 ?pg0 ?hd0 ?po0 ?sa0 ?mk0 ?kc0 ?n0_many ?n0_ends ?n0_first ?n0_signs ?n0_rows ?xE0 ?kE0 ?bE0 ?tE0 ?xE1 ?kE1 ?bE1 ?tE1 ?xE2 ?kE2 ?bE2 ?tE2 ?iE1 ?sE0_1 ?sE1_1 ?sE2_1 ?iE2 ?sE0_2 ?sE1_2 ?sE2_2 ?t__MOST_WORD ?t__MOST_KIND ?t__MOST_DEFINITE ?z_len ?z_int ?z_abs ?z_all ?z_any ?z_tuple ?z_list ?z_max ?z_min ?z_range ?z_isinstance ?z_zip ?z_enumerate ?z_sorted ?z_dict ?z_sum ?z_bool ?z_str ?z_repr ?z_set
    (case aC0 => k_is)
    (case aE0 => k_is)
    (case aE1 => k_is)
    (case aE2 => k_is)
    (case a0 => k_is)
    (case l0 => k_is)
    (case c0 => k_is)
    (case k0 => k_is)
    (case a1 => k_is)
    (case l1 => k_is)
    (case c1 => k_is)
    (case k1 => k_is)
    (case a2 => k_is)
    (case l2 => k_is)
    (case c2 => k_is)
    (case k2 => k_is)
    (case a3 => k_is)
    (case l3 => k_is)
    (case c3 => k_is)
    (case k3 => k_is)
    (case a4 => k_is)
    (case l4 => k_is)
    (case c4 => k_is)
    (case k4 => k_is)
    (case a5 => k_is)
    (case l5 => k_is)
    (case c5 => k_is)
    (case k5 => k_is)
    (case a6 => k_is)
    (case l6 => k_is)
    (case c6 => k_is)
    (case k6 => k_is)
    (case a7 => k_is)
    (case l7 => k_is)
    (case c7 => k_is)
    (case k7 => k_is)
    (case a8 => k_is)
    (case l8 => k_is)
    (case c8 => k_is)
    (case k8 => k_is)
    (case a9 => k_is)
    (case l9 => k_is)
    (case c9 => k_is)
    (case k9 => k_is)
    (case a10 => k_is)
    (case l10 => k_is)
    (case c10 => k_is)
    (case k10 => k_is)
    (case a11 => k_is)
    (case i11 => k_is)
    (case l11 => k_is)
    (case c11 => k_is)
    (case k11 => k_is)
    (case a12 => k_is)
    (case i12 => k_is)
    (case l12 => k_is)
    (case c12 => k_is)
    (case k12 => k_is)
    (case a13 => k_is)
    (case i13 => k_is)
    (case l13 => k_is)
    (case c13 => k_is)
    (case k13 => k_is)
    (case a14 => k_is)
    (case i14 => k_is)
    (case l14 => k_is)
    (case c14 => k_is)
    (case k14 => k_is)
    (case a15 => k_is)
    (case i15 => k_is)
    (case l15 => k_is)
    (case c15 => k_is)
    (case k15 => k_is)
    (case a16 => k_is)
    (case i16 => k_is)
    (case l16 => k_is)
    (case c16 => k_is)
    (case k16 => k_is)
    (case a17 => k_is)
    (case i17 => k_is)
    (case l17 => k_is)
    (case c17 => k_is)
    (case k17 => k_is)
    (case a18 => k_is)
    (case i18 => k_is)
    (case l18 => k_is)
    (case c18 => k_is)
    (case k18 => k_is)
    (case a19 => k_is)
    (case l19 => k_is)
    (case c19 => k_is)
    (case k19 => k_is)
    (case a20 => k_is)
    (case l20 => k_is)
    (case c20 => k_is)
    (case k20 => k_is)
    (case a21 => k_is)
    (case l21 => k_is)
    (case c21 => k_is)
    (case k21 => k_is)
    (case a22 => k_is)
    (case l22 => k_is)
    (case c22 => k_is)
    (case k22 => k_is)
    (case a23 => k_is)
    (case l23 => k_is)
    (case c23 => k_is)
    (case k23 => k_is)
    (case a24 => k_is)
    (case l24 => k_is)
    (case c24 => k_is)
    (case k24 => k_is)
    (case a25 => k_is)
    (case l25 => k_is)
    (case c25 => k_is)
    (case k25 => k_is)
    (case a26 => k_is)
    (case l26 => k_is)
    (case c26 => k_is)
    (case k26 => k_is)
    (case a27 => k_is)
    (case l27 => k_is)
    (case c27 => k_is)
    (case k27 => k_is)
    (case a28 => k_is)
    (case l28 => k_is)
    (case c28 => k_is)
    (case k28 => k_is)
    (case a29 => k_is)
    (case l29 => k_is)
    (case c29 => k_is)
    (case k29 => k_is)
    (case a30 => k_is)
    (case l30 => k_is)
    (case c30 => k_is)
    (case k30 => k_is)
    (case a31 => k_is)
    (case l31 => k_is)
    (case c31 => k_is)
    (case k31 => k_is)
    (case a32 => k_is)
    (case l32 => k_is)
    (case c32 => k_is)
    (case k32 => k_is)
    (case a33 => k_is)
    (case l33 => k_is)
    (case c33 => k_is)
    (case k33 => k_is)
    (case pg0 => k_is)
    (case hd0 => k_is)
    (case po0 => k_is)
    (case sa0 => k_is)
    (case mk0 => k_is)
    (case kc0 => k_is)
    (case n0_many => k_is)
    (case n0_ends => k_is)
    (case n0_first => k_is)
    (case n0_signs => k_is)
    (case n0_rows => k_is)
    (case xE0 => k_exc)
    (case kE0 => k_is)
    (case bE0 => k_is)
    (case tE0 => k_is)
    (case xE1 => k_exc)
    (case kE1 => k_is)
    (case bE1 => k_is)
    (case tE1 => k_is)
    (case xE2 => k_exc)
    (case kE2 => k_is)
    (case bE2 => k_is)
    (case tE2 => k_is)
    (case iE1 => k_is)
    (case sE0_1 => k_is)
    (case sE1_1 => first | rfl | k_is)
    (case sE2_1 => k_is)
    (case iE2 => k_is)
    (case sE0_2 => k_is)
    (case sE1_2 => k_is)
    (case sE2_2 => first | rfl | k_is)
    (case t__MOST_WORD => k_is)
    (case t__MOST_KIND => k_is)
    (case t__MOST_DEFINITE => k_is)
    (case z_len => k_is)
    (case z_int => k_is)
    (case z_abs => k_is)
    (case z_all => k_is)
    (case z_any => k_is)
    (case z_tuple => k_is)
    (case z_list => k_is)
    (case z_max => k_is)
    (case z_min => k_is)
    (case z_range => k_is)
    (case z_isinstance => k_is)
    (case z_zip => k_is)
    (case z_enumerate => k_is)
    (case z_sorted => k_is)
    (case z_dict => k_is)
    (case z_sum => k_is)
    (case z_bool => k_is)
    (case z_str => k_is)
    (case z_repr => k_is)
    (case z_set => k_is)

