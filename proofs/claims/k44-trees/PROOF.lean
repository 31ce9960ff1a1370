import PyProof.Rows.All
import Wide.All
import OpenK.AllK
import Wide.FinOn
import PySem.Str
import PySem.PyData
import PyProof.P3Statements
import PyProof.Lay0
import KE.DataCmp
import KE.SortData
import KE.DataAny
import KE.KDictKeyed
import HandS.ForMost
import HandS.ForExc
import HandS.TryMany
import HandS.Wide
import HandS.EndBits
import HandS.SortRule
import HandS.RevTup
import HandS.IsInst
import HandS.TupMul
import HandS.TupAny
import HandS.Zip
import HandS.RevRange
import HandS.WordsExc
import HandS.DictComp
import HandS.Style
import PyProof.P3Eq
import PySem.Challenge.RW_stackstead_k44_words_as_trees
set_option Elab.async false
section
set_option linter.all false
namespace DV
open PySem

/-- a value: what does not change is a tree; what changes stands under a number -/
inductive D where
  | non | bl (b : Bool) | int (i : Int) | str (s : Str) | tup (xs : List D) | ref (n : Nat) | fn (n : Nat) | exc (c : Nat) (x : D) | rol (ns : List Int)
  deriving Inhabited, Repr
mutual
def D.beq : D → D → Bool
  | .non, .non => true
  | .bl a, .bl b => decide (a = b)
  | .int a, .int b => decide (a = b)
  | .str a, .str b => decide (a = b)
  | .tup a, .tup b => D.beqs a b
  | .ref a, .ref b => decide (a = b)
  | .fn a, .fn b => decide (a = b)
  | .exc c x, .exc d y => decide (c = d) && D.beq x y
  | .rol a, .rol b => decide (a = b)
  | _, _ => false
def D.beqs : List D → List D → Bool
  | [], [] => true
  | x :: xs, y :: ys => D.beq x y && D.beqs xs ys
  | _, _ => false
end
mutual
theorem D.beq_iff : ∀ a b : D, D.beq a b = true ↔ a = b
  | .non, b => by cases b <;> simp [D.beq]
  | .bl _, b => by cases b <;> simp [D.beq]
  | .int _, b => by cases b <;> simp [D.beq]
  | .str _, b => by cases b <;> simp [D.beq]
  | .tup xs, b => by
    cases b with
    | tup ys => simp only [D.beq, D.tup.injEq]; exact D.beqs_iff xs ys
    | _ => simp [D.beq]
  | .ref _, b => by cases b <;> simp [D.beq]
  | .fn _, b => by cases b <;> simp [D.beq]
  | .rol _, b => by cases b <;> simp [D.beq]
  | .exc c x, b => by
    cases b with
    | exc d y => simp only [D.beq, Bool.and_eq_true, decide_eq_true_eq, D.exc.injEq, D.beq_iff x y]
    | _ => simp [D.beq]
theorem D.beqs_iff : ∀ a b : List D, D.beqs a b = true ↔ a = b
  | [], [] => by simp [D.beqs]
  | [], _ :: _ => by simp [D.beqs]
  | _ :: _, [] => by simp [D.beqs]
  | x :: xs, y :: ys => by simp only [D.beqs, Bool.and_eq_true, D.beq_iff x y, D.beqs_iff xs ys, List.cons.injEq]
end
instance : DecidableEq D := fun a b => decidable_of_iff _ (D.beq_iff a b)

mutual
/-- no number of k or more within -/
def D.low (k : Nat) : D → Bool
  | .tup xs => D.lows k xs
  | .ref n => decide (n < k)
  | .exc _ x => x.low k
  | _ => true
def D.lows (k : Nat) : List D → Bool
  | [] => true
  | x :: xs => x.low k && D.lows k xs
end

inductive O where
  | lst (xs : List D) | dic (kvs : List (D × D)) | ins (c : Nat) (fs : List (Str × D))
  | dit (kvs : List (D × D))
  deriving Inhabited, Repr, DecidableEq
def O.low (k : Nat) : O → Bool
  | .lst xs => D.lows k xs
  | .dic kvs => kvs.all fun p => p.1.low k && p.2.low k
  | .ins _ fs => fs.all fun p => p.2.low k
  | .dit kvs => kvs.all fun p => p.1.low k && p.2.low k
abbrev G := List O

inductive R (α : Type) where
  | ok (a : α) (g : G)
  | exc (c : Nat) (x : D) (g : G)
  | stuck
  deriving Repr, Inhabited
def R.bind {α β : Type} (r : R α) (f : α → G → R β) : R β := match r with
  | .ok a g => f a g
  | .exc c x g => .exc c x g
  | .stuck => .stuck
@[simp] theorem R.bind_ok {α β : Type} (a : α) (g : G) (f : α → G → R β) : (R.ok a g).bind f = f a g := rfl
@[simp] theorem R.bind_exc {α β : Type} (c : Nat) (x : D) (g : G) (f : α → G → R β) : (R.exc c x g : R α).bind f = .exc c x g := rfl
@[simp] theorem R.bind_stuck {α β : Type} (f : α → G → R β) : (R.stuck : R α).bind f = .stuck := rfl

/-- an exception does not leave a comprehension, a target -/
def R.hush {α : Type} : R α → R α
  | .exc _ _ _ => .stuck
  | r => r
@[simp] theorem R.hush_ok {α : Type} (a : α) (g : G) : (R.ok a g).hush = .ok a g := rfl
/-! ### a call's end: what only the callee made goes, where nothing of the caller's knows it -/
def oldOk (g g' : G) : Bool := (g.zip g').all fun p => decide (p.1 = p.2) || p.2.low g.length
def gc (g : G) (d : D) (g' : G) : D × G :=
  if oldOk g g' then
    if d.low g.length then (d, g'.take g.length)
    else match d with
      | .ref n => match g'[n]? with
        | some o => if o.low g.length then (.ref g.length, g'.take g.length ++ [o]) else (d, g')
        | none => (d, g')
      | _ => (d, g')
  else (d, g')
def R.gc (g : G) : R D → R D
  | .ok d g' => .ok (DV.gc g d g').1 (DV.gc g d g').2
  | .exc c x g' => if x.low g.length && oldOk g g' then .exc c x (g'.take g.length) else .exc c x g'
  | .stuck => .stuck

abbrev Env := List (Option D)
abbrev Ex := Env → G → R D
abbrev Exs := Env → G → R (List D)

/-- as a tree: lists at what they hold now -/
def snap : Nat → G → D → Option PyData
  | 0, _, _ => none
  | n + 1, g, d => match d with
    | .non => some .none
    | .bl b => some (.bool b)
    | .int i => some (.int i)
    | .str s => if PyData.canLay0 (.str s) then some (.str s) else none
    | .tup xs => (xs.mapM (snap n g)).map .tuple
    | .ref k => match g[k]? with
      | some (.lst xs) => (xs.mapM (snap n g)).map .list
      | _ => none
    | .rol ns => some (.list (ns.map .int))
    | _ => none
/-- two lists of unlike lengths -/
def unlikeLen (g : G) : D → D → Bool
  | .ref a, .ref b => match g[a]?, g[b]? with
    | some (.lst xs), some (.lst ys) => xs.length != ys.length
    | _, _ => false
  | _, _ => false
def eqG (g : G) (x y : D) : Option Bool := if unlikeLen g x y then some false else match snap 64 g x, snap 64 g y with
  | some a, some b => some (PyData.eqv a b)
  | _, _ => none

def strLine : Nat := 16777216
def LINE : Nat := 16777216

def Ex.cst (d : D) : Ex := fun _ g => .ok d g
def Ex.loc (i : Nat) : Ex := fun δ g => match δ[i]? with
  | some (some d) => .ok d g
  | _ => .stuck
def exNil : Exs := fun _ g => .ok [] g
def exCons (e : Ex) (es : Exs) : Exs := fun δ g => (e δ g).bind fun d g => (es δ g).bind fun ds g => .ok (d :: ds) g
def Ex.tup (es : Exs) : Ex := fun δ g => (es δ g).bind fun ds g => if ds.length ≤ LINE then .ok (.tup ds) g else .stuck
def Ex.lst (es : Exs) : Ex := fun δ g => (es δ g).bind fun ds g => if ds.length ≤ LINE then .ok (.ref g.length) (g ++ [.lst ds]) else .stuck

inductive Op where
  | add | sub | mul | fdiv | mod | pow | shl
  deriving DecidableEq, Repr
def bits (i : Int) : Nat := i.natAbs.log2
def binop : Op → D → D → G → R D
  | .add, .int i, .int j, g => .ok (.int (i + j)) g
  | .add, .str s, .str t, g => if s.length + t.length ≤ LINE then .ok (.str (s ++ t)) g else .stuck
  | .add, .tup xs, .tup ys, g => if xs.length + ys.length ≤ LINE then .ok (.tup (xs ++ ys)) g else .stuck
  | .add, .ref a, .ref b, g => match g[a]?, g[b]? with
    | some (.lst xs), some (.lst ys) => if xs.length + ys.length ≤ LINE then .ok (.ref g.length) (g ++ [.lst (xs ++ ys)]) else .stuck
    | _, _ => .stuck
  | .sub, .int i, .int j, g => .ok (.int (i - j)) g
  | .mul, .int i, .int j, g => if bits i + bits j < 1000000 ∨ i.natAbs < 2 ^ 60 ∨ j.natAbs < 2 ^ 60 then .ok (.int (i * j)) g else .stuck
  | .mul, .tup xs, .int k, g => if xs ≠ [] ∧ 2 ≤ k ∧ k ≤ 1000 ∧ xs.length ≤ 1000 then .ok (.tup (List.replicate k.toNat xs).flatten) g else .stuck
  | .mul, .ref a, .int k, g => match g[a]? with
    | some (.lst xs) => if -(2 ^ 62) ≤ k ∧ k < 2 ^ 62 ∧ xs.length * k.toNat ≤ LINE then .ok (.ref g.length) (g ++ [.lst (List.replicate k.toNat xs).flatten]) else .stuck
    | _ => .stuck
  | .fdiv, .int i, .int j, g => if 0 < j ∧ j.natAbs.log2 < 9000 then .ok (.int (i / j)) g else .stuck
  | .mod, .int i, .int j, g => if 0 < j then .ok (.int (i % j)) g else .stuck
  | .pow, .int i, .int j, g => if 0 ≤ j ∧ j ≤ 1000 ∧ i.natAbs < 2 ^ 30 then .ok (.int (i ^ j.toNat)) g else .stuck
  | .shl, .int i, .int j, g => if 0 ≤ j ∧ j ≤ 1000 ∧ i.natAbs < 2 ^ 30 then .ok (.int (i * 2 ^ j.toNat)) g else .stuck
  | _, _, _, _ => .stuck
def Ex.bin (o : Op) (a b : Ex) : Ex := fun δ g => (a δ g).bind fun x g => (b δ g).bind fun y g => binop o x y g
def Ex.neg (a : Ex) : Ex := fun δ g => (a δ g).bind fun x g => match x with
  | .int i => .ok (.int (-i)) g
  | _ => .stuck

/-- a value's truth -/
def truth (g : G) : D → Option Bool
  | .non => some false
  | .bl b => some b
  | .int i => some (i != 0)
  | .str s => if s.length ≤ LINE then some ((s.length : Int) != 0) else none
  | .tup xs => some (!xs.isEmpty)
  | .ref k => match g[k]? with
    | some (.lst xs) => some (!xs.isEmpty)
    | some (.dic _) => none
    | _ => none
  | _ => none

/-- a key of a dict: ints, texts -/
def keyOk : Nat → D → Bool
  | _, .int _ => true
  | _, .str _ => true
  | _, _ => false
def dget (kvs : List (D × D)) (k : D) : Option D := (kvs.find? fun p => decide (p.1 = k)).map (·.2)
def dput : List (D × D) → D → D → List (D × D)
  | [], k, v => [(k, v)]
  | (k', v') :: r, k, v => if k' = k then (k', v) :: r else (k', v') :: dput r k v
def ddel (kvs : List (D × D)) (k : D) : List (D × D) := kvs.filter fun p => !decide (p.1 = k)

inductive Cmp where
  | eq | ne | lt | le | gt | ge | in_ | notIn | isN | notN
  deriving DecidableEq, Repr
/-- x in xs -/
def memG (g : G) (x : D) (xs : List D) : Option Bool := match xs.mapM (snap 64 g), snap 64 g x with
  | some ts, some t => some (ts.any fun y => PyData.eqv y t)
  | _, _ => none
def neG (g : G) (x y : D) : Option Bool := match snap 64 g x, snap 64 g y with
  | some a, some b => some (!PyData.eqv a b)
  | _, _ => none
def isNone : PyData → Bool
  | .none => true
  | _ => false
/-- of alike data: f says which of the two ways it is asked -/
def ordG (f : PyData → PyData → Bool) (g : G) (x y : D) : Option Bool := match snap 64 g x, snap 64 g y with
  | some a, some b => if W.alike a b && !isNone a then some (f a b) else none
  | _, _ => none
def ints? : List D → Option (List Int)
  | [] => some []
  | .int i :: r => (ints? r).map (i :: ·)
  | _ :: _ => none
def cmpD : Cmp → D → D → G → Option Bool
  | .eq, x, y, g => eqG g x y
  | .ne, x, y, g => neG g x y
  | .lt, .int i, .int j, _ => some (decide (i < j))
  | .le, .int i, .int j, _ => some (decide (i ≤ j))
  | .gt, .int i, .int j, _ => some (decide (j < i))
  | .ge, .int i, .int j, _ => some (decide (j ≤ i))
  | .in_, x, .tup ys, g => memG g x ys
  | .in_, x, .ref a, g => match g[a]? with
    | some (.lst ys) => memG g x ys
    | some (.dic kvs) => if keyOk 7 x then some (dget kvs x).isSome else none
    | _ => none
  | .notIn, x, .tup ys, g => (memG g x ys).map not
  | .notIn, x, .ref a, g => match g[a]? with
    | some (.lst ys) => (memG g x ys).map not
    | some (.dic kvs) => if keyOk 7 x then some (!(dget kvs x).isSome) else none
    | _ => none
  | .lt, x, y, g => ordG (fun a b => W.dataLt a b) g x y
  | .gt, x, y, g => ordG (fun a b => W.dataLt b a) g x y
  | .le, x, y, g => ordG (fun a b => !W.dataLt b a) g x y
  | .ge, x, y, g => ordG (fun a b => !W.dataLt a b) g x y
  | .isN, x, .non, _ => some (decide (x = .non))
  | .notN, x, .non, _ => some (!decide (x = .non))
  | _, _, _, _ => none
def liftO (o : Option Bool) (g : G) : R D := match o with
  | some b => .ok (.bl b) g
  | none => .stuck
def Ex.cmp (o : Cmp) (a b : Ex) : Ex := fun δ g => (a δ g).bind fun x g => (b δ g).bind fun y g => liftO (cmpD o x y g) g
def Ex.chain (o o' : Cmp) (a b c : Ex) : Ex := fun δ g => (a δ g).bind fun x g => (b δ g).bind fun y g => match cmpD o x y g with
  | some true => (c δ g).bind fun z g => liftO (cmpD o' y z g) g
  | some false => .ok (.bl false) g
  | none => .stuck

/-! ### tests -/
abbrev Te := Env → G → R Bool
def Te.ex (e : Ex) : Te := fun δ g => (e δ g).bind fun x g => match truth g x with
  | some b => .ok b g
  | none => .stuck
def Te.and (a b : Te) : Te := fun δ g => (a δ g).bind fun c g => if c then b δ g else .ok false g
def Te.or (a b : Te) : Te := fun δ g => (a δ g).bind fun c g => if c then .ok true g else b δ g
def Te.not (a : Te) : Te := fun δ g => (a δ g).bind fun c g => .ok (!c) g
def Te.tt : Te := fun _ g => .ok true g
/-- and, or, not as values: of bools (but the last) -/
def Ex.and (a b : Ex) : Ex := fun δ g => (a δ g).bind fun x g => match x with
  | .bl true => b δ g
  | .bl false => .ok (.bl false) g
  | _ => .stuck
def Ex.or (a b : Ex) : Ex := fun δ g => (a δ g).bind fun x g => match x with
  | .bl true => .ok (.bl true) g
  | .bl false => b δ g
  | _ => .stuck
def Ex.not (a : Ex) : Ex := fun δ g => (a δ g).bind fun x g => match x with
  | .bl b => .ok (.bl (!b)) g
  | _ => .stuck
def Ex.ite (c : Te) (a b : Ex) : Ex := fun δ g => (c δ g).bind fun t g => if t then a δ g else b δ g

/-! ### subscripts -/
def ixN (n : Nat) (i : Int) : Option Nat := if 0 ≤ i then (if i < n then some i.toNat else none) else if -(n : Int) ≤ i then some (i + n).toNat else none
def atI {α : Type} (xs : List α) (i : Int) : Option α := (ixN xs.length i).bind fun j => xs[j]?
def sIx (n d : Nat) : Option Int → Nat
  | none => d
  | some v => if v < 0 then (v + (n : Int)).toNat else min v.toNat n
def cut {α : Type} (xs : List α) (lo hi : Option Int) : List α := (xs.drop (sIx xs.length 0 lo)).take (sIx xs.length xs.length hi - sIx xs.length 0 lo)
def oD (o : Option D) (g : G) : R D := match o with
  | some d => .ok d g
  | none => .stuck
def idx (x i : D) (g : G) : R D := match x, i with
  | .rol ns, .int i => oD ((atI ns i).map .int) g
  | .tup xs, .int i => oD (atI xs i) g
  | .ref a, i => match g[a]?, i with
    | some (.lst xs), .int i => oD (atI xs i) g
    | some (.dic _), _ => .stuck
    | _, _ => .stuck
  | _, _ => .stuck
def Ex.idx (a b : Ex) : Ex := fun δ g => (a δ g).bind fun x g => (b δ g).bind fun y g => DV.idx x y g
abbrev Po := Env → G → R (Option Int)
def Po.no : Po := fun _ g => .ok none g
def Po.at (e : Ex) : Po := fun δ g => (e δ g).bind fun x g => match x with
  | .int i => .ok (some i) g
  | _ => .stuck
def slc (x : D) (lo hi : Option Int) (g : G) : R D := match x with
  | .tup xs => .ok (.tup (cut xs lo hi)) g
  | .ref a => match g[a]? with
    | some (.lst xs) => .ok (.ref g.length) (g ++ [.lst (cut xs lo hi)])
    | _ => .stuck
  | _ => .stuck
def Ex.slc (a : Ex) (lo hi : Po) : Ex := fun δ g => (a δ g).bind fun x g => (lo δ g).bind fun l g => (hi δ g).bind fun h g => DV.slc x l h g

/-! ### builtins -/
inductive Ty where
  | int | bool | str | tuple | list
  deriving DecidableEq, Repr
def Ty.is : Ty → Ty → Bool
  | .int, .int => true
  | .bool, .bool => true
  | .str, .str => true
  | .tuple, .tuple => true
  | .list, .list => true
  | _, _ => false
def isTy (g : G) (t : Ty) : D → Option Bool
  | .non => some false
  | .bl _ => some (t.is .int || t.is .bool)
  | .int _ => some (t.is .int)
  | .str _ => some (t.is .str)
  | .tup _ => some (t.is .tuple)
  | .ref k => match g[k]? with
    | some (.lst _) => some (t.is .list)
    | _ => none
  | .rol _ => some (t.is .list)
  | _ => none
/-- isinstance(e, T), isinstance(e, (T1, T2)) -/
def Ex.isi (a : Ex) (t : Ty) : Ex := fun δ g => (a δ g).bind fun x g => liftO (isTy g t x) g
def Ex.isi2 (a : Ex) (t u : Ty) : Ex := fun δ g => (a δ g).bind fun x g => liftO ((isTy g t x).bind fun b => (isTy g u x).map fun c => b || c) g
def lenD (g : G) : D → Option Nat
  | .str s => if s.length ≤ LINE then some s.length else none
  | .tup xs => some xs.length
  | .ref k => match g[k]? with
    | some (.lst xs) => some xs.length
    | some (.dic _) => none
    | _ => none
  | .rol ns => some ns.length
  | _ => none
inductive Bi where
  | len | int | abs | all | any | tuple | list | max2 | min2 | max1 | min1 | sorted | dict | set | sum | str | repr
  deriving DecidableEq, Repr
/-- the items of a list or a tuple -/
def items (g : G) : D → Option (List D)
  | .tup xs => some xs
  | .ref k => match g[k]? with
    | some (.lst xs) => some xs
    | _ => none
  | .rol ns => some (ns.map .int)
  | _ => none
/-- its truth is told by all(..), any(..) -/
def okT (t : PyData) : Bool := t.plain && (match t with
  | .str x => decide (x.length ≤ LINE)
  | .list xs => decide (xs.length ≤ LINE)
  | .tuple xs => decide (xs.length ≤ LINE)
  | _ => true)
def allG (g : G) (xs : List D) : Option Bool := match xs.mapM (snap 64 g) with
  | some ts => if ts.all okT && PyData.plainAll ts then some (ts.all PyData.truthy) else none
  | none => none
def anyG (g : G) (xs : List D) : Option Bool := match xs.mapM (snap 64 g) with
  | some ts => if ts.all okT && PyData.plainAll ts then some (ts.any PyData.truthy) else none
  | none => none
/-- the items of what is sorted, counted ..: a list, a tuple, a dict's keys -/
def itemsK (g : G) : D → Option (List D)
  | .tup xs => some xs
  | .ref k => match g[k]? with
    | some (.lst xs) => some xs
    | some (.dic _) => none
    | _ => none
  | .rol ns => some (ns.map .int)
  | _ => none
/-- all alike, and all tuples with an item, or none a tuple or None -/
def canSort (ts : List PyData) : Bool := (ts.all fun a => ts.all fun b => W.alike a b) && ((ts.all fun t => match t with | .tuple (_ :: _) => true | _ => false) || (ts.all fun t => match t with | .tuple _ => false | .none => false | _ => true))
def sortD (g : G) (xs : List D) : Option (List D) := match xs.mapM (snap 64 g) with
  | some ts => if canSort ts then some (((xs.zip ts).mergeSort (W.dataLe false (·.2))).map (·.1)) else none
  | none => none
def pairs? : List D → Option (List (D × D))
  | [] => some []
  | .tup [k, v] :: r => if keyOk 7 k then (pairs? r).map ((k, v) :: ·) else none
  | _ :: _ => none
def toDict (ps : List (D × D)) : List (D × D) := ps.foldl (fun kvs p => dput kvs p.1 p.2) []
def bi : Bi → List D → G → R D
  | .sorted, [x], g => match (itemsK g x).bind (sortD g) with
    | some ys => .ok (.ref g.length) (g ++ [.lst ys])
    | none => .stuck
  | .dict, [.ref a], g => match g[a]? with
    | some (.lst xs) => match pairs? xs with
      | some ps => .ok (.ref g.length) (g ++ [.dic (toDict ps)])
      | none => .stuck
    | some (.dic kvs) => .ok (.ref g.length) (g ++ [.dic kvs])
    | _ => .stuck
  | .dict, [.tup xs], g => match pairs? xs with
      | some ps => .ok (.ref g.length) (g ++ [.dic (toDict ps)])
      | none => .stuck
  | .sum, [x], g => match (items g x).bind ints? with
    | some ns => .ok (.int ns.sum) g
    | none => .stuck
  | .max1, [x], g => match (items g x).bind ints? with
    | some (n :: ns) => .ok (.int (ns.foldl max n)) g
    | _ => .stuck
  | .min1, [x], g => match (items g x).bind ints? with
    | some (n :: ns) => .ok (.int (ns.foldl min n)) g
    | _ => .stuck
  | .str, [.int i], g => if bits i < 1900 then .ok (.str (Str.ofString (toString i))) g else .stuck
  | .repr, [.bl b], g => .ok (.str (Str.ofString (if b then "True" else "False"))) g
  | .len, [x], g => match lenD g x with
    | some n => .ok (.int n) g
    | none => .stuck
  | .int, [.int i], g => .ok (.int i) g
  | .int, [.bl b], g => .ok (.int (if b then 1 else 0)) g
  | .abs, [.int i], g => .ok (.int (if i < 0 then -i else i)) g
  | .all, [x], g => match items g x with
    | some xs => liftO (allG g xs) g
    | none => .stuck
  | .any, [x], g => match items g x with
    | some xs => liftO (anyG g xs) g
    | none => .stuck
  | .tuple, [x], g => match itemsK g x with
    | some xs => .ok (.tup xs) g
    | none => .stuck
  | .list, [x], g => match itemsK g x with
    | some xs => .ok (.ref g.length) (g ++ [.lst xs])
    | none => .stuck
  | .max2, [.int i, .int j], g => .ok (.int (if j > i then j else i)) g
  | .min2, [.int i, .int j], g => .ok (.int (if j < i then j else i)) g
  | _, _, _ => .stuck
def Ex.bi (b : Bi) (es : Exs) : Ex := fun δ g => (es δ g).bind fun ds g => DV.bi b ds g

/-! ### methods of lists and dicts -/
inductive Mt where
  | append | pop | popAt | extend | get1 | get2 | setdefault
  deriving DecidableEq, Repr
def mth : Mt → D → List D → G → R D
  | .append, .ref a, [x], g => match g[a]? with
    | some (.lst xs) => if xs.length < LINE then .ok .non (g.set a (.lst (xs ++ [x]))) else .stuck
    | _ => .stuck
  | .pop, .ref a, [], g => match g[a]? with
    | some (.lst xs) => match xs.getLast? with
      | some y => .ok y (g.set a (.lst xs.dropLast))
      | none => .stuck
    | _ => .stuck
  | .popAt, .ref a, [.int i], g => match g[a]? with
    | some (.lst xs) => match (if i < 2 ^ 62 ∧ -(2 ^ 62) ≤ i then ixN xs.length i else none) with
      | some j => match xs[j]? with
        | some y => .ok y (g.set a (.lst (xs.eraseIdx j)))
        | none => .stuck
      | none => .stuck
    | _ => .stuck
  | .extend, .ref a, [.ref b], g => match g[a]?, g[b]? with
    | some (.lst xs), some (.lst ys) => if xs.length + ys.length ≤ LINE then .ok .non (g.set a (.lst (xs ++ ys))) else .stuck
    | _, _ => .stuck
  | .get1, .ref a, [k], g => match g[a]? with
    | some (.dic kvs) => if keyOk 7 k then .ok ((dget kvs k).getD .non) g else .stuck
    | _ => .stuck
  | .get2, .ref a, [k, x], g => match g[a]? with
    | some (.dic kvs) => if keyOk 7 k then .ok ((dget kvs k).getD x) g else .stuck
    | _ => .stuck
  | .setdefault, .ref a, [k, x], g => match g[a]? with
    | some (.dic kvs) => if keyOk 7 k then (match dget kvs k with
        | some v => .ok v g
        | none => if kvs.length < LINE then .ok x (g.set a (.dic (dput kvs k x))) else .stuck) else .stuck
    | _ => .stuck
  | _, _, _, _ => .stuck
def Mt.onLst : Mt → Bool
  | .append => true
  | .pop => true
  | .popAt => true
  | .extend => true
  | _ => false
/-- a list, a dict -/
def isL (l : Bool) (g : G) : D → Bool
  | .ref a => match g[a]? with
    | some (.lst _) => l
    | some (.dic _) => !l
    | _ => false
  | _ => false
def Ex.mth (m : Mt) (a : Ex) (es : Exs) : Ex := fun δ g => (a δ g).bind fun x g => if isL m.onLst g x then (es δ g).bind fun ds g => DV.mth m x ds g else .stuck

/-! ### the program: defs and classes by number -/
abbrev Cl := Nat → List D → G → R D
def Ex.call (cl : Cl) (f : Nat) (es : Exs) : Ex := fun δ g => (es δ g).bind fun ds g => cl f ds g
/-- a call of a value -/
def Ex.callV (cl : Cl) (cnt i : Nat) (es : Exs) : Ex := fun δ g => (Ex.loc i δ g).bind fun f g => match f with
  | .fn n => if n < cnt then (es δ g).bind fun ds g => cl n ds g else .stuck
  | _ => .stuck
def putF (f : Str) (v : D) : List (Str × D) → List (Str × D)
  | [] => [(f, v)]
  | (k, x) :: r => if k = f then (k, v) :: r else (k, x) :: putF f v r
/-- C(..), C's own __init__ the def i -/
def Ex.new (cl : Cl) (c i : Nat) (es : Exs) : Ex := fun δ g => (es δ g).bind fun ds g =>
  (cl i (.ref g.length :: ds) (g ++ [.ins c []])).bind fun v g' => match v with
    | .non => .ok (.ref g.length) g'
    | _ => .stuck
/-- which attributes instances of a class have; its methods -/
structure Cls where
  fields : List Str
  meths : List (Str × Nat)
  deriving Repr, Inhabited
abbrev Clss := List Cls
def fld (T : Clss) (x : D) (f : Str) (g : G) : R D := match x with
  | .ref a => match g[a]? with
    | some (.ins c fs) => match T[c]? with
      | some k => if k.fields.contains f then oD (fs.lookup f) g else .stuck
      | none => .stuck
    | _ => .stuck
  | _ => .stuck
def Ex.fld (T : Clss) (a : Ex) (f : Str) : Ex := fun δ g => (a δ g).bind fun x g => DV.fld T x f g
/-- o.m(..), an own method -/
def Ex.meth (T : Clss) (cl : Cl) (a : Ex) (m : Str) (es : Exs) : Ex := fun δ g => (a δ g).bind fun x g => match x with
  | .ref k => match g[k]? with
    | some (.ins c fs) => match T[c]? with
      | some t => match t.meths.lookup m, fs.lookup m with
        | some f, none => (es δ g).bind fun ds g => cl f (x :: ds) g
        | _, _ => .stuck
      | none => .stuck
    | _ => .stuck
  | _ => .stuck

/-! ### targets -/
abbrev Tg := D → Env → G → R Env
def Tg.name (i : Nat) : Tg := fun d δ g => .ok (δ.set i (some d)) g
abbrev Tgs := List D → Env → G → R Env
def tgNil : Tgs := fun ds δ g => match ds with
  | [] => .ok δ g
  | _ => .stuck
def tgCons (t : Tg) (u : Tgs) : Tgs := fun ds δ g => match ds with
  | d :: r => (t d δ g).bind fun δ g => u r δ g
  | [] => .stuck
/-- a, b = a tuple of n -/
def Tg.tup (n : Nat) (u : Tgs) : Tg := fun d δ g => match d with
  | .tup ds => if ds.length = n then u ds δ g else .stuck
  | _ => .stuck
def setI (o i v : D) (g : G) : R Unit := match o with
  | .ref a => match g[a]?, i with
    | some (.lst xs), .int k => match ixN xs.length k with
      | some j => .ok () (g.set a (.lst (xs.set j v)))
      | none => .stuck
    | some (.dic _), _ => .stuck
    | _, _ => .stuck
  | _ => .stuck
def Tg.sub (o i : Ex) : Tg := fun d δ g => (o δ g).bind fun x g => (i δ g).bind fun k g => (setI x k d g).bind fun _ g => .ok δ g
def setF (T : Clss) (o : D) (f : Str) (v : D) (g : G) : R Unit := match o with
  | .ref a => match g[a]? with
    | some (.ins c fs) => match T[c]? with
      | some k => if k.fields.contains f && decide (fs.length < 1000) then .ok () (g.set a (.ins c (putF f v fs))) else .stuck
      | none => .stuck
    | _ => .stuck
  | _ => .stuck
def Tg.fld (T : Clss) (o : Ex) (f : Str) : Tg := fun d δ g => (o δ g).bind fun x g => (setF T x f d g).bind fun _ g => .ok δ g

/-! ### what a loop walks -/
inductive It where
  | keys (h : Nat) (kvs : List (D × D))   -- a dict, not to be changed meanwhile
  | items (h : Nat) (kvs : List (D × D))
  | values (h : Nat) (kvs : List (D × D))
  | seq (xs : List D)      -- fixed items
  | lst (h : Nat)          -- a list as it stands at each turn
  | zip (a b : It)
  | enum (a : It)
  deriving Repr, Inhabited
def It.at : It → Nat → G → Option (Option D)
  | .keys h kvs, i, g => if g[h]? = some (.dic kvs) then some ((kvs[i]?).map (·.1)) else none
  | .items h kvs, i, g => if g[h]? = some (.dic kvs) then some ((kvs[i]?).map fun p => .tup [p.1, p.2]) else none
  | .values h kvs, i, g => if g[h]? = some (.dic kvs) then some ((kvs[i]?).map (·.2)) else none
  | .seq xs, i, _ => some xs[i]?
  | .lst h, i, g => match g[h]? with
    | some (.lst xs) => some xs[i]?
    | _ => none
  | .zip a b, i, g => match a.at i g, b.at i g with
    | some (some x), some (some y) => some (some (.tup [x, y]))
    | some _, some _ => some none
    | _, _ => none
  | .enum a, i, g => match a.at i g with
    | some (some x) => some (some (.tup [.int i, x]))
    | some none => some none
    | none => none
abbrev Ie := Env → G → R It
def walkOf (g : G) : D → Option It
  | .tup xs => some (.seq xs)
  | .ref k => match g[k]? with
    | some (.lst _) => some (.lst k)
    | some (.dic _) => none
    | _ => none
  | .rol ns => some (.seq (ns.map .int))
  | _ => none
def dictOf (g : G) : D → Option (Nat × List (D × D))
  | .ref k => match g[k]? with
    | some (.dic kvs) => some (k, kvs)
    | _ => none
  | _ => none
def Ie.items (e : Ex) : Ie := fun δ g => (e δ g).bind fun x g => match dictOf g x with
  | some (k, kvs) => .ok (.items k kvs) g
  | none => .stuck
def Ie.values (e : Ex) : Ie := fun δ g => (e δ g).bind fun x g => match dictOf g x with
  | some (k, kvs) => .ok (.values k kvs) g
  | none => .stuck
def Ie.range3 (a b c : Ex) : Ie := fun δ g => (a δ g).bind fun x g => (b δ g).bind fun y g => (c δ g).bind fun z g => match x, y, z with
  | .int i, .int j, .int (-1) => if -(2 ^ 60) ≤ i ∧ i < 2 ^ 60 ∧ -(2 ^ 60) ≤ j ∧ j < 2 ^ 60 then .ok (.seq ((List.range (i - j).toNat).map fun k => .int (i - (k : Nat)))) g else .stuck
  | _, _, _ => .stuck
def Ie.of (e : Ex) : Ie := fun δ g => (e δ g).bind fun x g => match walkOf g x with
  | some t => .ok t g
  | none => .stuck
def rangeD (lo hi : Int) : List D := (List.range (hi - lo).toNat).map fun i => .int (lo + (i : Nat))
def Ie.range1 (e : Ex) : Ie := fun δ g => (e δ g).bind fun x g => match x with
  | .int j => if -(2 ^ 60) ≤ j ∧ j < 2 ^ 60 then .ok (.seq (rangeD 0 j)) g else .stuck
  | _ => .stuck
def Ie.range2 (a b : Ex) : Ie := fun δ g => (a δ g).bind fun x g => (b δ g).bind fun y g => match x, y with
  | .int i, .int j => if -(2 ^ 60) ≤ i ∧ i < 2 ^ 60 ∧ -(2 ^ 60) ≤ j ∧ j < 2 ^ 60 then .ok (.seq (rangeD i j)) g else .stuck
  | _, _ => .stuck
def isTup : D → Bool
  | .tup _ => true
  | _ => false
def Ie.zip (a b : Ex) : Ie := fun δ g => (a δ g).bind fun x g => (b δ g).bind fun y g => match walkOf g x, walkOf g y with
  | some t, some u => if isTup x = isTup y then .ok (.zip t u) g else .stuck
  | _, _ => .stuck
def Ie.enum (a : Ex) : Ie := fun δ g => (a δ g).bind fun x g => match walkOf g x with
  | some t => .ok (.enum t) g
  | _ => .stuck

/-! ### comprehensions -/
def fuel : Nat := 33554432
def compLoop (it : It) (tg : Tg) (c : Te) (e : Ex) (δ : Env) : Nat → Nat → List D → G → R (List D)
  | 0, _, _, _ => .stuck
  | n + 1, i, acc, g => match it.at i g with
    | none => .stuck
    | some none => .ok acc g
    | some (some d) => (tg d δ g).bind fun δ' g => (c δ' g).bind fun b g => if b then (e δ' g).bind fun y g => if acc.length < LINE then compLoop it tg c e δ n (i + 1) (acc ++ [y]) g else .stuck
      else compLoop it tg c e δ n (i + 1) acc g
def wipe (δ : Env) : List Nat → Env
  | [] => δ
  | v :: vs => (wipe δ vs).set v none
def Ex.comp (vs : List Nat) (it : Ie) (tg : Tg) (c : Te) (e : Ex) : Ex := fun δ g => (it δ g).bind fun t g => (R.hush (compLoop t tg c e (wipe δ vs) fuel 0 [] g)).bind fun ds g => .ok (.ref g.length) (g ++ [.lst ds])

abbrev Kvs := Env → G → R (List (D × D))
def kvNil : Kvs := fun _ g => .ok [] g
def kvCons (k v : Ex) (r : Kvs) : Kvs := fun δ g => (k δ g).bind fun x g => (v δ g).bind fun y g => if keyOk 7 x then (r δ g).bind fun kvs g => .ok ((x, y) :: kvs) g else .stuck
def Ex.dct (r : Kvs) : Ex := fun δ g => (r δ g).bind fun kvs g => .ok (.ref g.length) (g ++ [.dic (toDict kvs)])
def dcompLoop (it : It) (tg : Tg) (c : Te) (k v : Ex) (δ : Env) : Nat → Nat → List (D × D) → G → R (List (D × D))
  | 0, _, _, _ => .stuck
  | n + 1, i, acc, g => match it.at i g with
    | none => .stuck
    | some none => .ok acc g
    | some (some d) => (tg d δ g).bind fun δ' g => (c δ' g).bind fun b g => if b then (k δ' g).bind fun x g => (v δ' g).bind fun y g => if acc.length < LINE ∧ keyOk 7 x then dcompLoop it tg c k v δ n (i + 1) (dput acc x y) g else .stuck
      else dcompLoop it tg c k v δ n (i + 1) acc g
def Ex.dcomp (vs : List Nat) (it : Ie) (tg : Tg) (c : Te) (k v : Ex) : Ex := fun δ g => (it δ g).bind fun t g => (R.hush (dcompLoop t tg c k v (wipe δ vs) fuel 0 [] g)).bind fun kvs g => .ok (.ref g.length) (g ++ [.dic kvs])
def Ex.rev (a : Ex) : Ex := fun δ g => (a δ g).bind fun x g => match x with
  | .tup xs => .ok (.tup xs.reverse) g
  | .ref k => match g[k]? with
    | some (.lst xs) => .ok (.ref g.length) (g ++ [.lst xs.reverse])
    | _ => .stuck
  | _ => .stuck
def Ex.xfld (i : Nat) : Ex := fun δ g => match δ[i]? with
  | some (some (.exc _ x)) => .ok x g
  | _ => .stuck

/-! ### statements -/
inductive Fl where
  | nx (δ : Env) | rt (d : D) | bk (δ : Env) | ct (δ : Env)
  deriving Repr, Inhabited
inductive RS where
  | ok (f : Fl) (g : G)
  | exc (c : Nat) (x : D) (δ : Env) (g : G)
  | stuck
  deriving Repr, Inhabited
abbrev Sm := Env → G → RS
/-- from an expression: the exception flies from these slots -/
def R.thenS {α : Type} (δ : Env) (r : R α) (f : α → G → RS) : RS := match r with
  | .ok a g => f a g
  | .exc c x g => .exc c x δ g
  | .stuck => .stuck
@[simp] theorem R.thenS_ok {α : Type} (δ : Env) (a : α) (g : G) (f : α → G → RS) : (R.ok a g).thenS δ f = f a g := rfl
@[simp] theorem R.thenS_exc {α : Type} (δ : Env) (c : Nat) (x : D) (g : G) (f : α → G → RS) : (R.exc c x g : R α).thenS δ f = .exc c x δ g := rfl
@[simp] theorem R.thenS_stuck {α : Type} (δ : Env) (f : α → G → RS) : (R.stuck : R α).thenS δ f = .stuck := rfl
def Sm.skip : Sm := fun δ g => .ok (.nx δ) g
def Sm.brk : Sm := fun δ g => .ok (.bk δ) g
def Sm.cnt : Sm := fun δ g => .ok (.ct δ) g
def RS.seq (r : RS) (f : Env → G → RS) : RS := match r with
  | .ok (.nx δ) g => f δ g
  | r => r
@[simp] theorem RS.seq_nx (δ : Env) (g : G) (f : Env → G → RS) : (RS.ok (.nx δ) g).seq f = f δ g := rfl
@[simp] theorem RS.seq_rt (d : D) (g : G) (f : Env → G → RS) : (RS.ok (.rt d) g).seq f = .ok (.rt d) g := rfl
@[simp] theorem RS.seq_bk (δ : Env) (g : G) (f : Env → G → RS) : (RS.ok (.bk δ) g).seq f = .ok (.bk δ) g := rfl
@[simp] theorem RS.seq_ct (δ : Env) (g : G) (f : Env → G → RS) : (RS.ok (.ct δ) g).seq f = .ok (.ct δ) g := rfl
@[simp] theorem RS.seq_exc (c : Nat) (x : D) (δ : Env) (g : G) (f : Env → G → RS) : (RS.exc c x δ g).seq f = .exc c x δ g := rfl
@[simp] theorem RS.seq_stuck (f : Env → G → RS) : RS.stuck.seq f = .stuck := rfl
def Sm.seq (a b : Sm) : Sm := fun δ g => (a δ g).seq b
def Sm.asg (t : Tg) (e : Ex) : Sm := fun δ g => (e δ g).thenS δ fun d g => (R.hush (t d δ g)).thenS δ fun δ' g => .ok (.nx δ') g
/-- a, b = x, y of plain local names -/
def Sm.par (i j : Nat) (a b : Ex) : Sm := fun δ g => (a δ g).thenS δ fun x g => (b δ g).thenS δ fun y g => .ok (.nx ((δ.set i (some x)).set j (some y))) g
def Sm.aug (o : Op) (i : Nat) (e : Ex) : Sm := fun δ g => (Ex.loc i δ g).thenS δ fun x g => (e δ g).thenS δ fun y g => (binop o x y g).thenS δ fun z g => .ok (.nx (δ.set i (some z))) g
def Sm.ex (e : Ex) : Sm := fun δ g => (e δ g).thenS δ fun _ g => .ok (.nx δ) g
def Sm.ret (e : Ex) : Sm := fun δ g => (e δ g).thenS δ fun d g => .ok (.rt d) g
def Sm.ite (c : Te) (a b : Sm) : Sm := fun δ g => (c δ g).thenS δ fun t g => if t then a δ g else b δ g
def Sm.raise (c : Nat) (e : Ex) : Sm := fun δ g => (e δ g).thenS δ fun x g => .exc c x δ g
def whileLoop (c : Te) (b : Sm) : Nat → Env → G → RS
  | 0, _, _ => .stuck
  | n + 1, δ, g => (c δ g).thenS δ fun t g => if t then match b δ g with
      | .ok (.nx δ') g' => whileLoop c b n δ' g'
      | .ok (.ct δ') g' => whileLoop c b n δ' g'
      | .ok (.bk δ') g' => .ok (.nx δ') g'
      | r => r
    else .ok (.nx δ) g
def Sm.while (c : Te) (b : Sm) : Sm := whileLoop c b fuel
def forLoop (it : It) (tg : Tg) (b : Sm) : Nat → Nat → Env → G → RS
  | 0, _, _, _ => .stuck
  | n + 1, i, δ, g => match it.at i g with
    | none => .stuck
    | some none => .ok (.nx δ) g
    | some (some d) => (R.hush (tg d δ g)).thenS δ fun δ1 g1 => match b δ1 g1 with
      | .ok (.nx δ') g' => forLoop it tg b n (i + 1) δ' g'
      | .ok (.ct δ') g' => forLoop it tg b n (i + 1) δ' g'
      | .ok (.bk δ') g' => .ok (.nx δ') g'
      | r => r
def Sm.for (it : Ie) (tg : Tg) (b : Sm) : Sm := fun δ g => (it δ g).thenS δ fun t g => forLoop t tg b fuel 0 δ g
/-- try: b except C1 [as x1]: s1 except C2: s2 .. -/
structure Hd where
  c : Nat
  slot : Option Nat
  s : Sm
def unset (i : Nat) : RS → RS
  | .ok (.nx δ) g => .ok (.nx (δ.set i none)) g
  | .ok (.bk δ) g => .ok (.bk (δ.set i none)) g
  | .ok (.ct δ) g => .ok (.ct (δ.set i none)) g
  | r => r
/-- nothing is raised in an except suite -/
def RS.hush : RS → RS
  | .exc _ _ _ _ => .stuck
  | r => r
def handle (hs : List Hd) (c : Nat) (x : D) (δ : Env) (g : G) : RS := match hs with
  | [] => .exc c x δ g
  | h :: r => if h.c = c then (match h.slot with
      | none => RS.hush (h.s δ g)
      | some i => RS.hush (unset i (h.s (δ.set i (some (.exc c x))) g))) else handle r c x δ g
def Sm.try (b : Sm) (hs : List Hd) : Sm := fun δ g => match b δ g with
  | .exc c x δ' g' => handle hs c x δ' g'
  | r => r
/-- a def's body, called with values -/
def start (n : Nat) (ds : List D) : Env := ds.map some ++ List.replicate (n - ds.length) none
def body (np n : Nat) (b : Sm) (ds : List D) (g : G) : R D :=
  if ds.length = np then R.gc g (match b (start n ds) g with
    | .ok (.nx _) g' => .ok .non g'
    | .ok (.rt d) g' => .ok d g'
    | .exc c x _ g' => .exc c x g'
    | _ => .stuck)
  else .stuck
end DV
end
section
set_option Elab.async false
set_option linter.all false
set_option maxRecDepth 100000
namespace DV
open PySem
/-! ### keys that are tuples, as the library's nested keys -/
def kNs (f : D → Option NestedKey) : List D → Option (List NestedKey)
  | [] => some []
  | x :: xs => (f x).bind fun k => (kNs f xs).map (k :: ·)
/-- a key of depth n at the most: None, ints, texts, tuples of such -/
def kN : Nat → D → Option NestedKey
  | _, .non => some .none
  | _, .int i => some (.num i)
  | _, .str x => some (.text x)
  | n + 1, .tup xs => (kNs (kN n) xs).map .tup
  | _, _ => none
theorem kNs_inj {f : D → Option NestedKey} (hf : ∀ a b k, f a = some k → f b = some k → a = b) : ∀ {xs ys : List D} {ks : List NestedKey}, kNs f xs = some ks → kNs f ys = some ks → xs = ys
  | [], [], _, _, _ => rfl
  | [], y :: ys, ks, h1, h2 => by
    simp only [kNs, Option.some.injEq] at h1
    subst h1
    simp only [kNs, Option.bind_eq_some_iff, Option.map_eq_some_iff] at h2
    obtain ⟨_, _, _, _, h⟩ := h2
    cases h
  | x :: xs, [], ks, h1, h2 => by
    simp only [kNs, Option.some.injEq] at h2
    subst h2
    simp only [kNs, Option.bind_eq_some_iff, Option.map_eq_some_iff] at h1
    obtain ⟨_, _, _, _, h⟩ := h1
    cases h
  | x :: xs, y :: ys, ks, h1, h2 => by
    simp only [kNs, Option.bind_eq_some_iff, Option.map_eq_some_iff] at h1 h2
    obtain ⟨k1, a1, l1, b1, rfl⟩ := h1
    obtain ⟨k2, a2, l2, b2, e⟩ := h2
    cases e
    rw [hf _ _ _ a1 a2, kNs_inj hf b1 b2]
theorem kN_inj : ∀ (n : Nat) (a b : D) (k : NestedKey), kN n a = some k → kN n b = some k → a = b := by
  intro n
  induction n with
  | zero =>
    intro a b k h1 h2
    cases a <;> cases b <;> simp only [kN, Option.some.injEq, reduceCtorEq] at h1 h2 <;> subst h1 <;> cases h2 <;> rfl
  | succ n ih =>
    intro a b k h1 h2
    cases a <;> cases b <;> simp only [kN, Option.some.injEq, reduceCtorEq, Option.map_eq_some_iff] at h1 h2
    case tup.tup xs ys =>
      obtain ⟨l1, a1, rfl⟩ := h1
      obtain ⟨l2, a2, e⟩ := h2
      cases e
      rw [kNs_inj ih a1 a2]
    all_goals first
      | (subst h1; cases h2; rfl)
      | (subst h1; obtain ⟨_, _, e⟩ := h2; cases e)
      | (subst h2; obtain ⟨_, _, e⟩ := h1; cases e)
      | (subst h1; cases h2)
end DV
end
section
set_option Elab.async false
set_option linter.all false
set_option maxRecDepth 100000
namespace DV
open PySem PySem.Spec PyProof.Rows L2

/-- what the text's top left: the addresses of its defs, classes, classes of exceptions; the field of an exception with an own __init__ -/
structure Tab where
  P : Program
  w : World
  K : PySem.W.Frag
  mg : Str → Option Value
  base : Heap
  ne : Nat
  fn : Nat → Addr
  cls : Nat → Addr
  exc : Nat → Addr
  xf : Nat → Option Str

/-- a list that is only read -/
def Rol (K : PySem.W.Frag) (H : Hp) (a : Addr) (ns : List Int) : Prop :=
  (∃ o, H a = some (.frz o (.lst (ns.map V.int)))) ∨
    ∃ (o : Obj) (its : Array Value) (n : Nat), K.lookup a = some o ∧ o.cls = .type "list" ∧ o.dict = none ∧ o.data = .seq its n ∧ its.size ≤ sizeLine ∧ Vals (ns.map V.int) its.toList

mutual
inductive RelD (Z : Tab) (ρ : List Addr) (H : Hp) : V → D → Prop
  | non : RelD Z ρ H .non .non
  | bl (b : Bool) : RelD Z ρ H (.bl b) (.bl b)
  | int (i : Int) : RelD Z ρ H (.int i) (.int i)
  | str (s : Str) : RelD Z ρ H (.str s) (.str s)
  | tup {a : Addr} {xs : List V} {ds : List D} : SqT Z.K H a xs → RelDs Z ρ H xs ds → RelD Z ρ H (.ref a) (.tup ds)
  | ref {a : Addr} {n : Nat} : ρ[n]? = some a → RelD Z ρ H (.ref a) (.ref n)
  | fn (n : Nat) : RelD Z ρ H (.ref (Z.fn n)) (.fn n)
  | rol {a : Addr} {ns : List Int} : Rol Z.K H a ns → RelD Z ρ H (.ref a) (.rol ns)
inductive RelDs (Z : Tab) (ρ : List Addr) (H : Hp) : List V → List D → Prop
  | nil : RelDs Z ρ H [] []
  | cons {x : V} {xs : List V} {d : D} {ds : List D} : RelD Z ρ H x d → RelDs Z ρ H xs ds → RelDs Z ρ H (x :: xs) (d :: ds)
end

/-- what does not change stands -/
structure Ext (H H' : Hp) : Prop where
  tup : ∀ a xs, H a = some (.tup xs) → H' a = some (.tup xs)
  frz : ∀ a o u, H a = some (.frz o u) → H' a = some (.frz o u)
theorem Ext.refl (H : Hp) : Ext H H := ⟨fun _ _ h => h, fun _ _ _ h => h⟩
theorem Ext.trans {H H1 H2 : Hp} (a : Ext H H1) (b : Ext H1 H2) : Ext H H2 := ⟨fun c xs h => b.tup c xs (a.tup c xs h), fun c o u h => b.frz c o u (a.frz c o u h)⟩
theorem Ext.same {H H' : Hp} (s : Same H H') : Ext H H' := ⟨fun a _ h => s a _ h, fun a _ _ h => s a _ h⟩
theorem same_new {H : Hp} {p : Addr} {o : HO} (hp : H p = none) : Same H (upd H p o) := fun b u e => by rw [upd_ne (ne_of_none e hp)]; exact e
theorem Ext.new {H : Hp} {p : Addr} {o : HO} (hp : H p = none) : Ext H (upd H p o) := .same (same_new hp)
/-- a store into what changes -/
theorem Ext.upd {H : Hp} {p : Addr} {o : HO} (h1 : ∀ xs, H p ≠ some (.tup xs)) (h2 : ∀ ob u, H p ≠ some (.frz ob u)) : Ext H (upd H p o) :=
  ⟨fun a xs h => by rw [upd_ne (fun e => h1 xs (by rw [← e]; exact h))]; exact h, fun a ob u h => by rw [upd_ne (fun e => h2 ob u (by rw [← e]; exact h))]; exact h⟩
theorem Ext.sqT {H H' : Hp} (e : Ext H H') {K : PySem.W.Frag} {a : Addr} {xs : List V} (h : SqT K H a xs) : SqT K H' a xs := by
  rcases h with (h | ⟨o, h⟩) | h
  · exact .inl (.inl (e.tup _ _ h))
  · exact .inl (.inr ⟨o, e.frz _ _ _ h⟩)
  · exact .inr h
theorem Ext.rol {H H' : Hp} (e : Ext H H') {K : PySem.W.Frag} {a : Addr} {ns : List Int} (h : Rol K H a ns) : Rol K H' a ns := by
  rcases h with ⟨o, h⟩ | h
  · exact .inl ⟨o, e.frz _ _ _ h⟩
  · exact .inr h
theorem Rol.sqL {K : PySem.W.Frag} {H : Hp} {a : Addr} {ns : List Int} (h : Rol K H a ns) : SqL K H a (ns.map V.int) := by
  rcases h with ⟨o, h⟩ | h
  · exact .inl (.inr ⟨o, h⟩)
  · exact .inr h

/-- the state may have moved on -/
structure Mw (ρ : List Addr) (H : Hp) (ρ' : List Addr) (H' : Hp) : Prop where
  pre : ∃ t, ρ' = ρ ++ t
  ext : Ext H H'
/-- .. and what is none of ours is as it was -/
structure Mv (ρ : List Addr) (H : Hp) (ρ' : List Addr) (H' : Hp) : Prop extends Mw ρ H ρ' H' where
  fr : ∀ a u, H a = some u → a ∉ ρ → H' a = some u
  nw : ∀ a, a ∈ ρ' → a ∉ ρ → H a = none
theorem Mv.refl (ρ : List Addr) (H : Hp) : Mv ρ H ρ H := ⟨⟨⟨[], by simp⟩, .refl H⟩, fun _ _ h _ => h, fun _ h n => absurd h n⟩
theorem Mv.trans {ρ ρ1 ρ2 : List Addr} {H H1 H2 : Hp} (a : Mv ρ H ρ1 H1) (b : Mv ρ1 H1 ρ2 H2) : Mv ρ H ρ2 H2 := by
  have n1 : ∀ c u, H c = some u → c ∉ ρ → c ∉ ρ1 := fun c u h n z => by rw [a.nw c z n] at h; cases h
  refine ⟨⟨?_, a.ext.trans b.ext⟩, fun c u h n => b.fr c u (a.fr c u h n) (n1 c u h n), fun c h n => ?_⟩
  · obtain ⟨t, rfl⟩ := a.pre
    obtain ⟨u, rfl⟩ := b.pre
    exact ⟨t ++ u, by rw [List.append_assoc]⟩
  · cases q : H c with
    | none => rfl
    | some u =>
      have h1 := a.fr c u q n
      rw [b.nw c h (n1 c u q n)] at h1; cases h1
theorem Mv.of_same {ρ : List Addr} {H H' : Hp} (s : Same H H') : Mv ρ H ρ H' := ⟨⟨⟨[], by simp⟩, .same s⟩, fun a u h _ => s a u h, fun _ h n => absurd h n⟩
/-- a new one of the loop's own is written -/
theorem Mv.updNew {ρ ρ' : List Addr} {H H' : Hp} {p : Addr} {o : HO} (m : Mv ρ H ρ' H') (hp : H p = none) (h1 : ∀ xs, H' p ≠ some (.tup xs)) (h2 : ∀ ob u, H' p ≠ some (.frz ob u)) : Mv ρ H ρ' (upd H' p o) :=
  ⟨⟨m.pre, m.ext.trans (.upd h1 h2)⟩, fun a u h n => by rw [upd_ne (ne_of_none h hp)]; exact m.fr a u h n, m.nw⟩
theorem Mw.get {ρ ρ' : List Addr} {H H' : Hp} (m : Mw ρ H ρ' H') {n : Nat} {a : Addr} (h : ρ[n]? = some a) : ρ'[n]? = some a := by
  obtain ⟨t, rfl⟩ := m.pre
  rw [List.getElem?_append_left (List.getElem?_eq_some_iff.mp h).1]; exact h

section
variable {Z : Tab} {ρ ρ' : List Addr} {H H' : Hp}
mutual
theorem RelD.monoW (m : Mw ρ H ρ' H') : ∀ {v : V} {d : D}, RelD Z ρ H v d → RelD Z ρ' H' v d
  | _, _, .non => .non
  | _, _, .bl b => .bl b
  | _, _, .int i => .int i
  | _, _, .str s => .str s
  | _, _, .tup h r => .tup (m.ext.sqT h) (RelDs.monoW m r)
  | _, _, .ref h => .ref (m.get h)
  | _, _, .fn n => .fn n
  | _, _, .rol h => .rol (m.ext.rol h)
theorem RelDs.monoW (m : Mw ρ H ρ' H') : ∀ {xs : List V} {ds : List D}, RelDs Z ρ H xs ds → RelDs Z ρ' H' xs ds
  | _, _, .nil => .nil
  | _, _, .cons h t => .cons (RelD.monoW m h) (RelDs.monoW m t)
end
theorem RelD.mono {v : V} {d : D} (m : Mv ρ H ρ' H') (r : RelD Z ρ H v d) : RelD Z ρ' H' v d := r.monoW m.toMw
theorem RelDs.mono {v : List V} {d : List D} (m : Mv ρ H ρ' H') (r : RelDs Z ρ H v d) : RelDs Z ρ' H' v d := r.monoW m.toMw
theorem RelDs.length : ∀ {xs : List V} {ds : List D}, RelDs Z ρ H xs ds → xs.length = ds.length
  | _, _, .nil => rfl
  | _, _, .cons _ t => by simp [RelDs.length t]
theorem RelDs.append : ∀ {xs ys : List V} {ds es : List D}, RelDs Z ρ H xs ds → RelDs Z ρ H ys es → RelDs Z ρ H (xs ++ ys) (ds ++ es)
  | _, _, _, _, .nil, s => s
  | _, _, _, _, .cons h t, s => .cons h (RelDs.append t s)
theorem RelDs.get : ∀ {xs : List V} {ds : List D} {i : Nat} {d : D}, RelDs Z ρ H xs ds → ds[i]? = some d → ∃ x, xs[i]? = some x ∧ RelD Z ρ H x d
  | _, _, _, _, .nil, e => by simp at e
  | _, _, 0, _, .cons h t, e => by simp at e; subst e; exact ⟨_, rfl, h⟩
  | _, _, i + 1, _, .cons h t, e => by
    obtain ⟨x, h1, h2⟩ := RelDs.get (i := i) t (by simpa using e)
    exact ⟨x, by simpa using h1, h2⟩
theorem RelDs.getV : ∀ {xs : List V} {ds : List D} {i : Nat} {x : V}, RelDs Z ρ H xs ds → xs[i]? = some x → ∃ d, ds[i]? = some d ∧ RelD Z ρ H x d
  | _, _, _, _, .nil, e => by simp at e
  | _, _, 0, _, .cons h t, e => by simp at e; subst e; exact ⟨_, rfl, h⟩
  | _, _, i + 1, _, .cons h t, e => by
    obtain ⟨x, h1, h2⟩ := RelDs.getV (i := i) t (by simpa using e)
    exact ⟨x, by simpa using h1, h2⟩
theorem RelDs.set {x : V} {d : D} (r : RelD Z ρ H x d) : ∀ {xs : List V} {ds : List D} (i : Nat), RelDs Z ρ H xs ds → RelDs Z ρ H (xs.set i x) (ds.set i d)
  | _, _, _, .nil => .nil
  | _, _, 0, .cons _ t => .cons r t
  | _, _, i + 1, .cons q t => .cons q (RelDs.set r i t)
theorem RelDs.drop : ∀ {xs : List V} {ds : List D} (n : Nat), RelDs Z ρ H xs ds → RelDs Z ρ H (xs.drop n) (ds.drop n)
  | _, _, 0, r => r
  | _, _, _ + 1, .nil => .nil
  | _, _, n + 1, .cons _ t => RelDs.drop n t
theorem RelDs.take : ∀ {xs : List V} {ds : List D} (n : Nat), RelDs Z ρ H xs ds → RelDs Z ρ H (xs.take n) (ds.take n)
  | _, _, 0, _ => .nil
  | _, _, _ + 1, .nil => .nil
  | _, _, n + 1, .cons r t => .cons r (RelDs.take n t)
theorem RelDs.eraseIdx : ∀ {xs : List V} {ds : List D} (n : Nat), RelDs Z ρ H xs ds → RelDs Z ρ H (xs.eraseIdx n) (ds.eraseIdx n)
  | _, _, _, .nil => .nil
  | _, _, 0, .cons _ t => t
  | _, _, n + 1, .cons r t => .cons r (RelDs.eraseIdx n t)
theorem RelDs.dropLast : ∀ {xs : List V} {ds : List D}, RelDs Z ρ H xs ds → RelDs Z ρ H xs.dropLast ds.dropLast
  | _, _, .nil => .nil
  | _, _, .cons r .nil => .nil
  | _, _, .cons r (.cons q t) => .cons r (RelDs.dropLast (.cons q t))
theorem RelDs.reverse : ∀ {xs : List V} {ds : List D}, RelDs Z ρ H xs ds → RelDs Z ρ H xs.reverse ds.reverse
  | _, _, .nil => .nil
  | _, _, .cons r t => by rw [List.reverse_cons, List.reverse_cons]; exact RelDs.append (RelDs.reverse t) (.cons r .nil)
theorem RelDs.ints : ∀ {ns : List Int}, RelDs Z ρ H (ns.map V.int) (ns.map D.int)
  | [] => .nil
  | n :: ns => .cons (.int n) RelDs.ints
theorem RelDs.flatten {xs : List V} {ds : List D} (r : RelDs Z ρ H xs ds) : ∀ k : Nat, RelDs Z ρ H (List.replicate k xs).flatten (List.replicate k ds).flatten
  | 0 => .nil
  | k + 1 => by rw [List.replicate_succ, List.replicate_succ, List.flatten_cons, List.flatten_cons]; exact RelDs.append r (RelDs.flatten r k)
end

/-- fields, entries -/
inductive RelF (Z : Tab) (ρ : List Addr) (H : Hp) : List (Str × V) → List (Str × D) → Prop
  | nil : RelF Z ρ H [] []
  | cons {f : Str} {x : V} {d : D} {xs : List (Str × V)} {ds : List (Str × D)} : RelD Z ρ H x d → RelF Z ρ H xs ds → RelF Z ρ H ((f, x) :: xs) ((f, d) :: ds)
theorem RelF.monoW {Z : Tab} {ρ ρ' : List Addr} {H H' : Hp} (m : Mw ρ H ρ' H') : ∀ {xs : List (Str × V)} {ds : List (Str × D)}, RelF Z ρ H xs ds → RelF Z ρ' H' xs ds
  | _, _, .nil => .nil
  | _, _, .cons h t => .cons (h.monoW m) (RelF.monoW m t)

/-- the entries of a dict whose keys are ints and texts -/
def kD : L2.Key → D
  | .inl i => .int i
  | .inr s => .str s
inductive RelK (Z : Tab) (ρ : List Addr) (H : Hp) : List (L2.Key × V) → List (D × D) → Prop
  | nil : RelK Z ρ H [] []
  | cons {k : L2.Key} {x : V} {d : D} {xs : List (L2.Key × V)} {ds : List (D × D)} : RelD Z ρ H x d → RelK Z ρ H xs ds → RelK Z ρ H ((k, x) :: xs) ((kD k, d) :: ds)
theorem RelK.monoW {Z : Tab} {ρ ρ' : List Addr} {H H' : Hp} (m : Mw ρ H ρ' H') : ∀ {xs : List (L2.Key × V)} {ds : List (D × D)}, RelK Z ρ H xs ds → RelK Z ρ' H' xs ds
  | _, _, .nil => .nil
  | _, _, .cons h t => .cons (h.monoW m) (RelK.monoW m t)
/-- a dict whose keys are tuples, by its one object -/
def dN (P : Program) (w : World) (a : Addr) (xs : List (NestedKey × Addr × Value)) : HO := .ext fun h => (a == sysModules) = false ∧ xs.length ≤ sizeLine ∧ (xs.map (·.1)).Nodup ∧
  ∃ o es ep, h.get? a = some o ∧ o.ExactDict ∧ o.data = .dict es ep ∧ es.toList = xs.map (entryOfKey (nestedKind P w))
inductive RelN (Z : Tab) (ρ : List Addr) (H : Hp) : List (NestedKey × Addr × Value) → List (D × D) → Prop
  | nil : RelN Z ρ H [] []
  | cons {k : NestedKey} {b : Addr} {u : Value} {v : V} {kd d : D} {xs : List (NestedKey × Addr × Value)} {ds : List (D × D)} : kN 8 kd = some k → RelD Z ρ H (.ref b) kd → RelD Z ρ H v d → RelV v u → RelN Z ρ H xs ds → RelN Z ρ H ((k, b, u) :: xs) ((kd, d) :: ds)
theorem RelN.monoW {ρ' : List Addr} {H' : Hp} (m : Mw ρ H ρ' H') : ∀ {xs : List (NestedKey × Addr × Value)} {ds : List (D × D)}, RelN Z ρ H xs ds → RelN Z ρ' H' xs ds
  | _, _, .nil => .nil
  | _, _, .cons e r rv ru t => .cons e (r.monoW m) (rv.monoW m) ru (RelN.monoW m t)
/-- a changing object -/
def RelO (Z : Tab) (ρ : List Addr) (H : Hp) (a : Addr) : O → Prop
  | .lst ds => ∃ xs, H a = some (.lst xs) ∧ RelDs Z ρ H xs ds
  | .ins c fs => ∃ dx xs, H a = some (.ins (Z.cls c) dx xs) ∧ RelF Z ρ H xs fs
  | .dic ds => ∃ kvs, H a = some (.dK kvs) ∧ RelK Z ρ H kvs ds
  | .dit ds => ∃ xs, H a = some (dN Z.P Z.w a xs) ∧ RelN Z ρ H xs ds
theorem RelO.monoW {Z : Tab} {ρ ρ' : List Addr} {H H' : Hp} (m : Mw ρ H ρ' H') {a : Addr} (ha : H' a = H a) : ∀ {o : O}, RelO Z ρ H a o → RelO Z ρ' H' a o
  | .lst _, ⟨xs, h, r⟩ => ⟨xs, by rw [ha]; exact h, r.monoW m⟩
  | .ins _ _, ⟨dx, xs, h, r⟩ => ⟨dx, xs, by rw [ha]; exact h, r.monoW m⟩
  | .dic _, ⟨xs, h, r⟩ => ⟨xs, by rw [ha]; exact h, r.monoW m⟩
  | .dit _, ⟨xs, h, r⟩ => ⟨xs, by rw [ha]; exact h, r.monoW m⟩
theorem RelO.mono {Z : Tab} {ρ ρ' : List Addr} {H H' : Hp} (m : Mv ρ H ρ' H') {a : Addr} (ha : H' a = H a) {o : O} (r : RelO Z ρ H a o) : RelO Z ρ' H' a o := r.monoW m.toMw ha
theorem RelO.mut {Z : Tab} {ρ : List Addr} {H : Hp} {a : Addr} : ∀ {o : O}, RelO Z ρ H a o → ∃ u, H a = some u ∧ Mut (some u) ∧ (∀ xs, u ≠ .tup xs) ∧ ∀ ob w, u ≠ .frz ob w
  | .lst _, ⟨xs, h, r⟩ => ⟨_, h, trivial, fun _ z => (by cases z), fun _ _ z => (by cases z)⟩
  | .ins _ _, ⟨dx, xs, h, r⟩ => ⟨_, h, trivial, fun _ z => (by cases z), fun _ _ z => (by cases z)⟩
  | .dic _, ⟨xs, h, r⟩ => ⟨_, h, trivial, fun _ z => (by cases z), fun _ _ z => (by cases z)⟩
  | .dit _, ⟨xs, h, r⟩ => ⟨_, h, trivial, fun _ z => (by cases z), fun _ _ z => (by cases z)⟩

structure RelG (Z : Tab) (ρ : List Addr) (H : Hp) (g : G) : Prop where
  len : ρ.length = g.length
  nd : ρ.Nodup
  obj : ∀ (i : Nat) (o : O) (a : Addr), g[i]? = some o → ρ[i]? = some a → RelO Z ρ H a o
theorem RelG.at {Z : Tab} {ρ : List Addr} {H : Hp} {g : G} (G : RelG Z ρ H g) {i : Nat} {o : O} (h : g[i]? = some o) : ∃ a, ρ[i]? = some a ∧ RelO Z ρ H a o := by
  have hi : i < ρ.length := by rw [G.len]; exact (List.getElem?_eq_some_iff.mp h).1
  exact ⟨ρ[i], List.getElem?_eq_getElem hi, G.obj i o _ h (List.getElem?_eq_getElem hi)⟩
theorem RelG.tracked {Z : Tab} {ρ : List Addr} {H : Hp} {g : G} (G : RelG Z ρ H g) {a : Addr} (h : a ∈ ρ) : ∃ u, H a = some u := by
  obtain ⟨i, hi, e⟩ := List.getElem_of_mem h
  have hg : i < g.length := by rw [← G.len]; exact hi
  obtain ⟨u, hu, _⟩ := (G.obj i g[i] a (List.getElem?_eq_getElem hg) (by rw [List.getElem?_eq_getElem hi, e])).mut
  exact ⟨u, hu⟩
/-- other objects are laid -/
theorem RelG.same {Z : Tab} {ρ : List Addr} {H H' : Hp} {g : G} (G : RelG Z ρ H g) (s : Same H H') : RelG Z ρ H' g :=
  ⟨G.len, G.nd, fun i o a h1 h2 => by
    have r := G.obj i o a h1 h2
    obtain ⟨u, hu, _⟩ := r.mut
    exact r.mono (.of_same s) (by rw [hu]; exact s a u hu)⟩
theorem Mv.new {ρ : List Addr} {H : Hp} {p : Addr} {o : HO} (hp : H p = none) : Mv ρ H ρ (upd H p o) := .of_same (same_new hp)
theorem Mv.push {ρ : List Addr} {H : Hp} {p : Addr} {o : HO} (hp : H p = none) : Mv ρ H (ρ ++ [p]) (upd H p o) := ⟨⟨⟨[p], rfl⟩, .new hp⟩, fun a u h _ => same_new hp a u h, fun a h n => by
  rcases List.mem_append.mp h with h | h
  · exact absurd h n
  · simp at h; subst h; exact hp⟩
/-- one that was made on the way is ours now -/
theorem Mv.snoc {ρ ρ' : List Addr} {H H' : Hp} {p : Addr} (m : Mv ρ H ρ' H') (hp : H p = none) : Mv ρ H (ρ' ++ [p]) H' := ⟨⟨by obtain ⟨t, rfl⟩ := m.pre; exact ⟨t ++ [p], by simp⟩, m.ext⟩, m.fr, fun a h n => by
  rcases List.mem_append.mp h with h | h
  · exact m.nw a h n
  · simp at h; subst h; exact hp⟩
theorem RelG.other {Z : Tab} {ρ : List Addr} {H : Hp} {g : G} {p : Addr} {o : HO} (G : RelG Z ρ H g) (hp : p ∉ ρ) (h1 : ∀ xs, H p ≠ some (.tup xs)) (h2 : ∀ ob u, H p ≠ some (.frz ob u)) : RelG Z ρ (upd H p o) g :=
  ⟨G.len, G.nd, fun i u a e1 e2 => (G.obj i u a e1 e2).monoW ⟨⟨[], by simp⟩, .upd h1 h2⟩ (upd_ne fun e => hp (by subst e; exact List.mem_of_getElem? e2))⟩
theorem RelG.snoc {Z : Tab} {ρ : List Addr} {H : Hp} {g : G} {p : Addr} {o : O} (G : RelG Z ρ H g) (hp : p ∉ ρ) (r : RelO Z (ρ ++ [p]) H p o) : RelG Z (ρ ++ [p]) H (g ++ [o]) := by
  refine ⟨by simp [G.len], ?_, fun i u a h1 h2 => ?_⟩
  · rw [List.nodup_append]
    refine ⟨G.nd, by simp, fun a ha b hb => ?_⟩
    simp at hb; subst hb
    rintro rfl
    exact hp ha
  · by_cases hi : i < g.length
    · rw [List.getElem?_append_left hi] at h1
      rw [List.getElem?_append_left (by rw [G.len]; exact hi)] at h2
      exact (G.obj i u a h1 h2).monoW ⟨⟨[p], rfl⟩, .refl H⟩ rfl
    · rw [List.getElem?_append_right (by omega)] at h1
      rw [List.getElem?_append_right (by rw [G.len]; omega), G.len] at h2
      have e : i - g.length = 0 := by
        have := (List.getElem?_eq_some_iff.mp h1).1
        simp at this; omega
      rw [e] at h1 h2
      simp at h1 h2
      subst h1 h2
      exact r
theorem RelG.push {Z : Tab} {ρ : List Addr} {H : Hp} {g : G} {p : Addr} {ho : HO} {o : O} (G : RelG Z ρ H g) (hp : H p = none) (r : RelO Z (ρ ++ [p]) (upd H p ho) p o) : RelG Z (ρ ++ [p]) (upd H p ho) (g ++ [o]) := by
  refine ⟨by simp [G.len], ?_, fun i u a h1 h2 => ?_⟩
  · rw [List.nodup_append]
    refine ⟨G.nd, by simp, fun a ha b hb => ?_⟩
    simp at hb; subst hb
    rintro rfl
    obtain ⟨u, hu⟩ := G.tracked ha
    rw [hp] at hu; cases hu
  · by_cases hi : i < g.length
    · rw [List.getElem?_append_left hi] at h1
      rw [List.getElem?_append_left (by rw [G.len]; exact hi)] at h2
      have r0 := G.obj i u a h1 h2
      obtain ⟨x, hx, _⟩ := r0.mut
      exact r0.mono (Mv.push hp) (by rw [upd_ne (ne_of_none hx hp)])
    · rw [List.getElem?_append_right (by omega)] at h1
      rw [List.getElem?_append_right (by rw [G.len]; omega), G.len] at h2
      have e : i - g.length = 0 := by
        have := (List.getElem?_eq_some_iff.mp h1).1
        simp at this; omega
      rw [e] at h1 h2
      simp at h1 h2
      subst h1 h2
      exact r
theorem RelG.get_push {ρ : List Addr} {g : G} {p : Addr} (h : ρ.length = g.length) : (ρ ++ [p])[g.length]? = some p := by
  rw [← h]; simp
/-- a changing object is written -/
theorem RelG.set {Z : Tab} {ρ : List Addr} {H : Hp} {g : G} {i : Nat} {a : Addr} {o0 o : O} {ho : HO} (G : RelG Z ρ H g) (h0 : g[i]? = some o0) (ha : ρ[i]? = some a) (r : RelO Z ρ (upd H a ho) a o) :
    RelG Z ρ (upd H a ho) (g.set i o) ∧ Mv ρ H ρ (upd H a ho) := by
  obtain ⟨u, hu, _, n1, n2⟩ := (G.obj i o0 a h0 ha).mut
  have m : Mv ρ H ρ (upd H a ho) := ⟨⟨⟨[], by simp⟩, .upd (fun xs e => n1 xs (Option.some.inj (hu.symm.trans e))) (fun ob w e => n2 ob w (Option.some.inj (hu.symm.trans e)))⟩, fun b w h n => by rw [upd_ne (fun e => n (by rw [e]; exact List.mem_of_getElem? ha))]; exact h, fun _ h n => absurd h n⟩
  refine ⟨⟨by simp [G.len], G.nd, fun j u b h1 h2 => ?_⟩, m⟩
  by_cases hj : j = i
  · subst hj
    rw [List.getElem?_set_self (List.getElem?_eq_some_iff.mp h0).1] at h1
    cases h1
    rw [ha] at h2; cases h2
    exact r
  · rw [List.getElem?_set_ne (Ne.symm hj)] at h1
    have ne : b ≠ a := fun e => hj (by
      subst e
      obtain ⟨l1, e1⟩ := List.getElem?_eq_some_iff.mp h2
      obtain ⟨l2, e2⟩ := List.getElem?_eq_some_iff.mp ha
      exact (List.getElem_inj G.nd).mp (e1.trans e2.symm))
    exact (G.obj j u b h1 h2).mono m (upd_ne ne)

/-- the slots -/
structure RelS (Z : Tab) (ρ : List Addr) (H : Hp) (σ : L2.St) (δ : Env) : Prop where
  len : σ.length = δ.length
  get : ∀ (i : Nat) (d : D), δ[i]? = some (some d) → ∃ v, σ[i]? = some (some v) ∧ RelD Z ρ H v d
theorem RelS.mono {Z : Tab} {ρ ρ' : List Addr} {H H' : Hp} {σ : L2.St} {δ : Env} (m : Mv ρ H ρ' H') (S : RelS Z ρ H σ δ) : RelS Z ρ' H' σ δ :=
  ⟨S.len, fun i d h => let ⟨v, h1, h2⟩ := S.get i d h; ⟨v, h1, h2.mono m⟩⟩
theorem RelS.set {Z : Tab} {ρ : List Addr} {H : Hp} {σ : L2.St} {δ : Env} {v : V} {d : D} (S : RelS Z ρ H σ δ) (i : Nat) (r : RelD Z ρ H v d) : RelS Z ρ H (σ.set i (some v)) (δ.set i (some d)) := by
  refine ⟨by simp [S.len], fun j e h => ?_⟩
  by_cases hj : j = i
  · subst hj
    by_cases hl : j < δ.length
    · rw [List.getElem?_set_self hl] at h; cases h
      exact ⟨v, List.getElem?_set_self (by rw [S.len]; exact hl), r⟩
    · rw [List.getElem?_eq_none (by simpa using hl)] at h; cases h
  · rw [List.getElem?_set_ne (Ne.symm hj)] at h
    rw [List.getElem?_set_ne (Ne.symm hj)]
    exact S.get j e h
theorem RelS.unset {Z : Tab} {ρ : List Addr} {H : Hp} {σ : L2.St} {δ : Env} (S : RelS Z ρ H σ δ) (i : Nat) : RelS Z ρ H (σ.set i none) (δ.set i none) := by
  refine ⟨by simp [S.len], fun j e h => ?_⟩
  by_cases hj : j = i
  · subst hj
    by_cases hl : j < δ.length
    · rw [List.getElem?_set_self hl] at h; cases h
    · rw [List.getElem?_eq_none (by simpa using hl)] at h; cases h
  · rw [List.getElem?_set_ne (Ne.symm hj)] at h
    rw [List.getElem?_set_ne (Ne.symm hj)]
    exact S.get j e h
theorem RelS.wipe {Z : Tab} {ρ : List Addr} {H : Hp} {σ : L2.St} {δ : Env} (S : RelS Z ρ H σ δ) : ∀ vs : List Nat, RelS Z ρ H (L2.wipe σ vs) (DV.wipe δ vs)
  | [] => S
  | v :: vs => (RelS.wipe S vs).unset v

/-- an exception -/
def RelX (Z : Tab) (ρ : List Addr) (H : Hp) (cls : Value) (dd : Option Addr) (c : Nat) (x : D) : Prop :=
  c < Z.ne ∧ cls = .ref (Z.exc c) ∧ match Z.xf c with
    | none => dd = none ∧ x = .non
    | some f => ∃ d v, dd = some d ∧ H d = some (.xd [(f, v)]) ∧ RelD Z ρ H v x

/-! ### what holds behind a denotation -/
def PostR {α : Type} (Z : Tab) (ρ : List Addr) (H : Hp) (r : R α) (k : α → List Addr → Hp → G → Prop) (e : Nat → D → List Addr → Hp → G → Prop) : Prop := match r with
  | .ok a g => ∀ ρ' H', Mv ρ H ρ' H' → RelG Z ρ' H' g → k a ρ' H' g
  | .exc c x g => ∀ ρ' H', Mv ρ H ρ' H' → RelG Z ρ' H' g → e c x ρ' H' g
  | .stuck => False
section
variable {α β : Type} {Z : Tab} {ρ ρ' : List Addr} {H H' : Hp} {r : R α} {k k' : α → List Addr → Hp → G → Prop} {e e' : Nat → D → List Addr → Hp → G → Prop}
theorem PostR.mv (m : Mv ρ H ρ' H') (h : PostR Z ρ H r k e) : PostR Z ρ' H' r k e := by
  cases r with
  | ok a g => exact fun ρ2 H2 m2 => h ρ2 H2 (m.trans m2)
  | exc c x g => exact fun ρ2 H2 m2 => h ρ2 H2 (m.trans m2)
  | stuck => exact h
theorem PostR.bind {f : α → G → R β} {k : β → List Addr → Hp → G → Prop} (h : PostR Z ρ H (r.bind f) k e) : PostR Z ρ H r (fun a ρ1 H1 g1 => PostR Z ρ1 H1 (f a g1) k e) e := by
  cases r with
  | ok a g =>
    intro ρ1 H1 m _
    exact PostR.mv m (show PostR Z ρ H (f a g) k e from h)
  | exc c x g => exact h
  | stuck => exact h
theorem PostR.imp (h : PostR Z ρ H r k e) (hk : ∀ a ρ1 H1 g1, Mv ρ H ρ1 H1 → RelG Z ρ1 H1 g1 → k a ρ1 H1 g1 → k' a ρ1 H1 g1) (he : ∀ c x ρ1 H1 g1, Mv ρ H ρ1 H1 → RelG Z ρ1 H1 g1 → e c x ρ1 H1 g1 → e' c x ρ1 H1 g1) : PostR Z ρ H r k' e' := by
  cases r with
  | ok a g => exact fun ρ1 H1 m G => hk a ρ1 H1 g m G (h ρ1 H1 m G)
  | exc c x g => exact fun ρ1 H1 m G => he c x ρ1 H1 g m G (h ρ1 H1 m G)
  | stuck => exact h
theorem PostR.ok {a : α} {g : G} (h : PostR Z ρ H (.ok a g) k e) (G : RelG Z ρ H g) : k a ρ H g := h ρ H (.refl ρ H) G
end

/-- what is wanted of an exception of an expression: the slots are as they were -/
def eX (Z : Tab) (W : WX) (σ : L2.St) : Nat → D → List Addr → Hp → G → Prop := fun c x ρ H _ => ∀ cls dd, RelX Z ρ H cls dd c x → W cls dd σ H
def kV (Z : Tab) (Q : VK) : D → List Addr → Hp → G → Prop := fun d ρ H _ => ∀ v, RelD Z ρ H v d → Q v H
def kT (Q : Bool → Hp → Prop) : Bool → List Addr → Hp → G → Prop := fun b _ H _ => Q b H
def kA (Z : Tab) (Q : List V → Hp → Prop) : List D → List Addr → Hp → G → Prop := fun ds ρ H _ => ∀ vs, RelDs Z ρ H vs ds → Q vs H
theorem PostR.val {Z : Tab} {ρ : List Addr} {H : Hp} {d : D} {g : G} {Q : VK} {e : Nat → D → List Addr → Hp → G → Prop} {v : V} (h : PostR Z ρ H (.ok d g) (kV Z Q) e) (G : RelG Z ρ H g) (r : RelD Z ρ H v d) : Q v H := h ρ H (.refl ρ H) G v r
/-- the readings -/
def rdE (Z : Tab) (W : WX) (f : Ex) : TE := fun σ H Q => ∃ δ ρ g, RelG Z ρ H g ∧ RelS Z ρ H σ δ ∧ PostR Z ρ H (f δ g) (kV Z Q) (eX Z W σ)
def rdT (Z : Tab) (W : WX) (f : Te) : TT := fun σ H Q => ∃ δ ρ g, RelG Z ρ H g ∧ RelS Z ρ H σ δ ∧ PostR Z ρ H (f δ g) (kT Q) (eX Z W σ)
def rdA (Z : Tab) (W : WX) (f : Exs) : TA := fun σ H Q => ∃ δ ρ g, RelG Z ρ H g ∧ RelS Z ρ H σ δ ∧ PostR Z ρ H (f δ g) (kA Z Q) (eX Z W σ)
def PostS (Z : Tab) (W : WX) (D : Ends) (ρ : List Addr) (H : Hp) (r : RS) : Prop := match r with
  | .ok (.nx δ) g => ∀ ρ' H' σ, Mv ρ H ρ' H' → RelG Z ρ' H' g → RelS Z ρ' H' σ δ → D.nx σ H'
  | .ok (.bk δ) g => ∀ ρ' H' σ, Mv ρ H ρ' H' → RelG Z ρ' H' g → RelS Z ρ' H' σ δ → D.bk σ H'
  | .ok (.ct δ) g => ∀ ρ' H' σ, Mv ρ H ρ' H' → RelG Z ρ' H' g → RelS Z ρ' H' σ δ → D.ct σ H'
  | .ok (.rt d) g => ∀ ρ' H' v, Mv ρ H ρ' H' → RelG Z ρ' H' g → RelD Z ρ' H' v d → D.rt v H'
  | .exc c x δ g => ∀ ρ' H' σ cls dd, Mv ρ H ρ' H' → RelG Z ρ' H' g → RelS Z ρ' H' σ δ → RelX Z ρ' H' cls dd c x → W cls dd σ H'
  | .stuck => False
def rdS (Z : Tab) (W : WX) (f : Sm) : TS := fun D σ H => ∃ δ ρ g, RelG Z ρ H g ∧ RelS Z ρ H σ δ ∧ PostS Z W D ρ H (f δ g)
end DV
end
section
set_option Elab.async false
set_option linter.all false
set_option maxRecDepth 100000
namespace DV
open PySem PySem.Spec PyProof.Rows L2

theorem PE_imp {X : Cx} {e : Expr} {t t' : TE} (h : PE X e t) (f : ∀ σ H Q, t' σ H Q → t σ H Q) : PE X e t' := ⟨fun pins s σ H Q I q => h.run pins s σ H Q I (f σ H Q q)⟩
theorem PT_imp {X : Cx} {e : Expr} {t t' : TT} (h : PT X e t) (f : ∀ σ H Q, t' σ H Q → t σ H Q) : PT X e t' := ⟨fun pins s σ H Q I q => h.run pins s σ H Q I (f σ H Q q)⟩
theorem PW_imp {X : Cx} {e : Expr} {t t' : TT} (h : PW X e t) (f : ∀ σ H Q, t' σ H Q → t σ H Q) : PW X e t' := ⟨fun wh pins s σ H Q I q => h.run wh pins s σ H Q I (f σ H Q q)⟩
theorem PA_imp {X : Cx} {e : List Expr} {t t' : TA} (h : PA X e t) (f : ∀ σ H Q, t' σ H Q → t σ H Q) : PA X e t' := ⟨fun pos pins s σ H Q I q => h.run pos pins s σ H Q I (f σ H Q q)⟩
theorem PS_imp {X : Cx} {e : Stmt} {t t' : TS} (h : PS X e t) (f : ∀ D σ H, t' D σ H → t D σ H) : PS X e t' := ⟨fun pins s σ H D I q => h.run pins s σ H D I (f D σ H q)⟩
theorem PSs_imp {X : Cx} {e : List Stmt} {t t' : TS} (h : PSs X e t) (f : ∀ D σ H, t' D σ H → t D σ H) : PSs X e t' := ⟨fun pins s σ H D I q => h.run pins s σ H D I (f D σ H q)⟩

/-- where one stands -/
structure XOk (Z : Tab) (X : Cx) (N : List Str) (sc : Scope) (W : WX) (m : Nat) : Prop where
  hN : X.N = N
  hK : X.K = Z.K
  hP : X.prog = Z.P
  hw : X.w = Z.w
  hM : X.mg = Z.mg
  hB : X.base = Z.base
  sc : X.env.scope = sc
  nd : N.Nodup
  room : Room m X.A
  calm : X.calm = true
  takes : Takes X W

section
variable {Z : Tab} {X : Cx} {N : List Str} {sc : Scope} {W : WX} {m : Nat} {a b c e : Expr} {es : List Expr} {fa fb fc : Ex} {fs : Exs} {pos : Pos}

/-! ### names, constants -/
theorem de_loc (hX : XOk Z X N sc W m) (i : Nat) {x : Str} (hi : N[i]? = some x := by rfl) (hv : Vis sc x := by first | exact Or.inl rfl | exact Or.inr (Or.inl rfl) | exact Or.inr (Or.inr rfl)) (hd : (x == ("__debug__" : Str)) = false := by decide)
    (hcd : (x == ("__classdict__" : Str)) = false := by decide) : PE X (.Name x pos) (rdE Z W (Ex.loc i)) := by
  refine PE_imp (pe_var (i := i) (by rw [hX.hN]; exact hi) (by rw [hX.sc]; exact hv) hd hcd) fun σ H Q ⟨δ, ρ, g, G, S, h⟩ => ?_
  unfold Ex.loc at h
  split at h
  · rename_i d e
    obtain ⟨v, h1, h2⟩ := S.get i d e
    exact ⟨v, h1, h.ok G v h2⟩
  · exact h.elim
theorem de_cst {v : V} {d : D} (h : PE X e (tC v)) (r : ∀ ρ H, RelD Z ρ H v d) : PE X e (rdE Z W (Ex.cst d)) :=
  PE_imp h fun σ H Q ⟨δ, ρ, g, G, S, h⟩ => PostR.ok (a := d) h G v (r ρ H)
theorem de_int {i j} : PE X (.Constant (.int i) j pos) (rdE Z W (Ex.cst (.int i))) := de_cst pe_int fun _ _ => .int i
theorem de_bl {i j} : PE X (.Constant (.bool i) j pos) (rdE Z W (Ex.cst (.bl i))) := de_cst pe_bl fun _ _ => .bl i
theorem de_non {j} : PE X (.Constant .none j pos) (rdE Z W (Ex.cst .non)) := de_cst pe_non fun _ _ => .non
theorem de_str {s j} : PE X (.Constant (.str s) j pos) (rdE Z W (Ex.cst (.str s))) := de_cst pe_str fun _ _ => .str s
/-- a module's constant, a def as a value -/
theorem de_globI (hX : XOk Z X N sc W m) {x : Str} {i : Int} (hg : sc.names.lookup x = some .globalImplicit) (hm : ∃ t, X.mg x = some (.int i t)) (hd : (x == ("__debug__" : Str)) = false := by decide) : PE X (.Name x pos) (rdE Z W (Ex.cst (.int i))) := by
  obtain ⟨t, hm⟩ := hm
  exact de_cst (pe_glob (v := .int i) (by show X.env.scope.names.lookup x = _; rw [hX.sc]; exact hg) hm ⟨t, rfl⟩ hd) fun _ _ => .int i
theorem de_globF (hX : XOk Z X N sc W m) {x : Str} {n : Nat} (hg : sc.names.lookup x = some .globalImplicit) (hm : X.mg x = some (.ref (Z.fn n))) (hd : (x == ("__debug__" : Str)) = false := by decide) : PE X (.Name x pos) (rdE Z W (Ex.cst (.fn n))) :=
  de_cst (pe_glob (v := .ref (Z.fn n)) (by show X.env.scope.names.lookup x = _; rw [hX.sc]; exact hg) hm rfl hd) fun _ _ => .fn n

/-! ### rows of expressions -/
theorem da_nil : PA X [] (rdA Z W exNil) := PA_imp pa_nil fun σ H Q ⟨δ, ρ, g, G, S, h⟩ => PostR.ok (a := []) h G [] .nil
theorem da_cons (ha : PE X e (rdE Z W fa)) (hr : PA X es (rdA Z W fs)) (hs : starEach (e :: es) X.env = (false, eval e X.env) :: starEach es X.env := by rfl) : PA X (e :: es) (rdA Z W (exCons fa fs)) := by
  refine PA_imp (pa_cons ha hr hs) fun σ H Q ⟨δ, ρ, g, G, S, h⟩ => ?_
  refine ⟨δ, ρ, g, G, S, (PostR.bind h).imp (fun d ρ1 H1 g1 m1 G1 h1 v rv => ?_) fun _ _ _ _ _ _ _ q => q⟩
  refine ⟨δ, ρ1, g1, G1, S.mono m1, (PostR.bind h1).imp (fun ds ρ2 H2 g2 m2 G2 h2 vs rvs => ?_) fun _ _ _ _ _ _ _ q => q⟩
  exact PostR.ok (a := d :: ds) h2 G2 _ (.cons (rv.mono m2) rvs)

theorem line_eq : LINE = sizeLine := by rw [sizeLine_eq]; rfl
theorem de_tup {x1} (h : PA X es (rdA Z W fs)) : PE X (.Tuple es x1 pos) (rdE Z W (Ex.tup fs)) := by
  refine PE_imp (pe_tup h) fun σ H Q ⟨δ, ρ, g, G, S, h⟩ => ?_
  refine ⟨δ, ρ, g, G, S, (PostR.bind h).imp (fun ds ρ1 H1 g1 m1 G1 h1 vs rv => ?_) fun _ _ _ _ _ _ _ q => q⟩
  split at h1
  · rename_i hl
    refine ⟨by rw [rv.length, ← line_eq]; exact hl, fun p hp => ?_⟩
    exact h1 ρ1 _ (Mv.new hp) (G1.same (same_new hp)) _ (.tup (SqT.of upd_same) (rv.mono (Mv.new hp)))
  · exact h1.elim
theorem de_lst (h : PA X es (rdA Z W fs)) : PE X (.List es pos) (rdE Z W (Ex.lst fs)) := by
  refine PE_imp (pe_lst h) fun σ H Q ⟨δ, ρ, g, G, S, h⟩ => ?_
  refine ⟨δ, ρ, g, G, S, (PostR.bind h).imp (fun ds ρ1 H1 g1 m1 G1 h1 vs rv => ?_) fun _ _ _ _ _ _ _ q => q⟩
  split at h1
  · rename_i hl
    refine ⟨by rw [rv.length, ← line_eq]; exact hl, fun p hp => ?_⟩
    exact h1 (ρ1 ++ [p]) _ (Mv.push hp) (G1.push hp ⟨vs, upd_same, rv.mono (Mv.push hp)⟩) _ (.ref (RelG.get_push G1.len))
  · exact h1.elim

/-! ### operators by values -/
/-- an operation on two values -/
def OpD (Z : Tab) (X : Cx) (W : WX) (f : Value → Value → Sem Value) (o : D → D → G → R D) : Prop :=
  ∀ (pins : List (Addr × Obj)) (s : Shared) (σ : L2.St) (H : Hp) (x y : V) (v u : Value) (dx dy : D) (ρ : List Addr) (g : G) (Q : VK) (e : Nat → D → List Addr → Hp → G → Prop), Inv X pins σ H s → RelV x v → RelV y u → RelG Z ρ H g → RelD Z ρ H x dx → RelD Z ρ H y dy →
    PostR Z ρ H (o dx dy g) (kV Z Q) e → wpAny (model X.prog X.w) X.A (f v u) (EP X pins σ Q) X.xe s
/-- one that HandS has, read at related values -/
theorem OpD.of {f : Value → Value → Sem Value} {o : D → D → G → R D} {r : R2} (h : OpR X f r)
    (q : ∀ (H : Hp) (x y : V) (dx dy : D) (ρ : List Addr) (g : G) (Q : VK) (e : Nat → D → List Addr → Hp → G → Prop), RelG Z ρ H g → RelD Z ρ H x dx → RelD Z ρ H y dy → PostR Z ρ H (o dx dy g) (kV Z Q) e → r x y H Q) : OpD Z X W f o :=
  fun pins s σ H x y v u dx dy ρ g Q e I rx ry G dxr dyr p => h pins s σ H x y v u Q I rx ry (q H x y dx dy ρ g Q e G dxr dyr p)
theorem de_bin {op : Operator} {o : Op} (ho : OpD Z X W (binaryOp op) (binop o)) (ha : PE X a (rdE Z W fa)) (hb : PE X b (rdE Z W fb)) : PE X (.BinOp a op b pos) (rdE Z W (Ex.bin o fa fb)) := by
  refine ⟨fun pins s σ H Q I ⟨δ, ρ, g, G, S, h⟩ => ?_⟩
  refine wpAny_BinOp (bin ha hb (R := fun x y H2 => ∃ dx dy ρ2 g2, RelG Z ρ2 H2 g2 ∧ RelD Z ρ2 H2 x dx ∧ RelD Z ρ2 H2 y dy ∧ PostR Z ρ2 H2 (binop o dx dy g2) (kV Z Q) (eX Z W σ)) I ?_ ?_)
  · refine ⟨δ, ρ, g, G, S, (PostR.bind h).imp (fun d ρ1 H1 g1 m1 G1 h1 v rv => ?_) fun _ _ _ _ _ _ _ q => q⟩
    exact ⟨δ, ρ1, g1, G1, S.mono m1, (PostR.bind h1).imp (fun d2 ρ2 H2 g2 m2 G2 h2 v2 rv2 => ⟨d, d2, ρ2, g2, G2, rv.mono m2, rv2, h2⟩) fun _ _ _ _ _ _ _ q => q⟩
  · intro v u s2 x y H2 I2 rx ry ⟨dx, dy, ρ2, g2, G2, r1, r2, p⟩
    exact ho pins s2 σ H2 x y v u dx dy ρ2 g2 Q _ I2 rx ry G2 r1 r2 p
end
end DV
end
section
set_option Elab.async false
set_option linter.all false
set_option maxRecDepth 100000
namespace DV
open PySem PySem.Spec PyProof.Rows L2
section
variable {Z : Tab} {X : Cx} {W : WX}

theorem cat_tup0 {prog : Program} {w : World} {A : Around} {E : Value → Shared → Prop} {s : Shared} {t b : Addr} {ws : List Value} {Q : Value → Shared → Prop} (ht : IsTup s.heap t ([] : List Value).toArray) (hb : IsTup s.heap b ws.toArray)
    (h1 : Q (.ref b) s) : wpAny (model prog w) A (binaryOp .Add (.ref t) (.ref b)) Q E s := by
  obtain ⟨⟨cls, dd, data, sl⟩, ho, hc, n, hd⟩ := id ht
  obtain ⟨⟨cls2, dd2, data2, sl2⟩, ho2, hc2, n2, hd2⟩ := id hb
  simp only at hc hd hc2 hd2
  subst hc hd hc2 hd2
  exact concat_meets ⟨_, ho, rfl⟩ ⟨_, ho2, rfl⟩ noFill_tuple_add seq_tuple_add PySem.F.slot_tuple_add PySem.F.entry_tuple_add (PySem.F.args_tuple_add_2 _ _)
      (tuple_addW0 t b ([] : List Value).toArray ws.toArray n n2 dd dd2 sl sl2 (by simp)) ⟨ho, ho2, h1⟩

/-- any two tuples -/
def rCat2 (K : PySem.W.Frag) : R2 := fun x y H Q => ∃ a b xs ys, x = .ref a ∧ y = .ref b ∧ SqT K H a xs ∧ SqT K H b ys ∧ xs.length + ys.length ≤ sizeLine ∧
  (∀ (p : Addr) (H' : Hp), Same H H' → SqT K H' p (xs ++ ys) → Q (.ref p) H')
theorem op_cat2 : OpR X (binaryOp .Add) (rCat2 X.K) := by
  intro pins s σ H x y v u Q I rx ry h
  obtain ⟨a, b, xs, ys, rfl, rfl, ha, hb, hz, q⟩ := h
  by_cases hx : xs = []
  · subst hx
    cases rx
    cases ry
    obtain ⟨its, r1, p1, _⟩ := I.tuple ha
    obtain ⟨its2, r2, p2, _⟩ := I.tuple hb
    cases r1
    exact cat_tup0 p1 p2 ⟨.ref b, H, I, rfl, q b H (.refl H) hb⟩
  · refine op_catT pins s σ H _ _ v u Q I rx ry ⟨a, b, xs, ys, rfl, rfl, ha, hb, hx, hz, fun e => ?_, fun _ p hp => q p _ (same_new hp) (SqT.of upd_same)⟩
    subst e
    exact q a H (.refl H) (by rw [List.append_nil]; exact ha)

theorem mv_same {ρ : List Addr} {H H' : Hp} (s : Same H H') : Mv ρ H ρ H' := .of_same s

/-- a list of the state -/
theorem RelG.lst {ρ : List Addr} {H : Hp} {g : G} (G : RelG Z ρ H g) {n : Nat} {a : Addr} {ds : List D} (hn : ρ[n]? = some a) (h : g[n]? = some (.lst ds)) : ∃ xs, H a = some (.lst xs) ∧ RelDs Z ρ H xs ds := G.obj n _ a h hn
theorem RelG.ins {ρ : List Addr} {H : Hp} {g : G} (G : RelG Z ρ H g) {n : Nat} {a : Addr} {c : Nat} {fs : List (Str × D)} (hn : ρ[n]? = some a) (h : g[n]? = some (.ins c fs)) : ∃ dx xs, H a = some (.ins (Z.cls c) dx xs) ∧ RelF Z ρ H xs fs := G.obj n _ a h hn

theorem opd_add (hK : X.K = Z.K) : OpD Z X W (binaryOp .Add) (binop .add) := by
  intro pins s σ H x y v u dx dy ρ g Q e I rx ry G r1 r2 p
  cases r1 with
  | int i => cases r2 with
    | int j => exact op_add pins s σ H _ _ v u Q I rx ry ⟨i, j, rfl, rfl, p.val G (.int _)⟩
    | _ => exact (show False from p).elim
  | str i => cases r2 with
    | str j =>
      simp only [binop] at p
      split at p
      · rename_i hl
        exact op_add_str pins s σ H _ _ v u Q I rx ry ⟨i, j, rfl, rfl, by rw [← line_eq]; exact hl, p.val G (.str _)⟩
      · exact p.elim
    | _ => exact (show False from p).elim
  | tup h1 q1 => cases r2 with
    | tup h2 q2 =>
      simp only [binop] at p
      split at p
      · rename_i hl
        refine op_cat2 pins s σ H _ _ v u Q I rx ry ⟨_, _, _, _, rfl, rfl, by rw [hK]; exact h1, by rw [hK]; exact h2, by rw [← line_eq, q1.length, q2.length]; exact hl, fun t H' sm hT => ?_⟩
        exact p ρ H' (mv_same sm) (G.same sm) _ (.tup (by rw [← hK]; exact hT) ((q1.append q2).mono (mv_same sm)))
      · exact p.elim
    | _ => exact (show False from p).elim
  | ref h1 => cases r2 with
    | ref h2 =>
      simp only [binop] at p
      split at p
      · rename_i xs ys e1 e2
        obtain ⟨vs, a1, a2⟩ := G.lst h1 e1
        obtain ⟨ws, b1, b2⟩ := G.lst h2 e2
        split at p
        · rename_i hl
          refine op_cat pins s σ H _ _ v u Q I rx ry ⟨_, _, _, _, rfl, rfl, a1, b1, by rw [← line_eq, a2.length, b2.length]; exact hl, fun t ht => ?_⟩
          exact p (ρ ++ [t]) _ (Mv.push ht) (G.push ht ⟨_, upd_same, (a2.append b2).mono (Mv.push ht)⟩) _ (.ref (RelG.get_push G.len))
        · exact p.elim
      · exact p.elim
    | _ => exact (show False from p).elim
  | _ => cases r2 <;> exact (show False from p).elim
theorem opd_sub : OpD Z X W (binaryOp .Sub) (binop .sub) := by
  intro pins s σ H x y v u dx dy ρ g Q e I rx ry G r1 r2 p
  cases r1 with
  | int i => cases r2 with
    | int j => exact op_sub pins s σ H _ _ v u Q I rx ry ⟨i, j, rfl, rfl, p.val G (.int _)⟩
    | _ => exact (show False from p).elim
  | _ => cases r2 <;> exact (show False from p).elim
theorem opd_mul (hK : X.K = Z.K) : OpD Z X W (binaryOp .Mult) (binop .mul) := by
  intro pins s σ H x y v u dx dy ρ g Q e I rx ry G r1 r2 p
  cases r1 with
  | int i => cases r2 with
    | int j =>
      simp only [binop] at p
      split at p
      · rename_i hc
        have q := p.val G (.int _)
        by_cases c1 : i.natAbs < 2 ^ 60
        · exact op_mul pins s σ H _ _ v u Q I rx ry ⟨i, j, rfl, rfl, .inl ⟨by omega, by omega⟩, q⟩
        · by_cases c2 : j.natAbs < 2 ^ 60
          · exact op_mul pins s σ H _ _ v u Q I rx ry ⟨i, j, rfl, rfl, .inr ⟨by omega, by omega⟩, q⟩
          · exact op_mulW pins s σ H _ _ v u Q I rx ry ⟨i, j, rfl, rfl, hc.resolve_right (fun z => z.elim c1 c2), q⟩
      · exact p.elim
    | _ => exact (show False from p).elim
  | tup h1 q1 => cases r2 with
    | int k =>
      simp only [binop] at p
      split at p
      · rename_i hc
        refine op_repT pins s σ H _ _ v u Q I rx ry ⟨_, k, _, rfl, rfl, by rw [hK]; exact h1, fun z => hc.1 ?_, hc.2.1, hc.2.2.1, by rw [q1.length]; exact hc.2.2.2, fun t ht => ?_⟩
        · subst z; cases q1; rfl
        · exact p ρ _ (Mv.new ht) (G.same (same_new ht)) _ (.tup (SqT.of upd_same) ((q1.flatten _).mono (Mv.new ht)))
      · exact p.elim
    | _ => exact (show False from p).elim
  | ref h1 => cases r2 with
    | int k =>
      simp only [binop] at p
      split at p
      · rename_i xs e1
        obtain ⟨vs, a1, a2⟩ := G.lst h1 e1
        split at p
        · rename_i hc
          refine op_rep pins s σ H _ _ v u Q I rx ry ⟨_, k, _, rfl, rfl, a1, by omega, by omega, by rw [← line_eq, a2.length]; exact hc.2.2, fun t ht => ?_⟩
          exact p (ρ ++ [t]) _ (Mv.push ht) (G.push ht ⟨_, upd_same, (a2.flatten _).mono (Mv.push ht)⟩) _ (.ref (RelG.get_push G.len))
        · exact p.elim
      · exact p.elim
    | _ => exact (show False from p).elim
  | _ => cases r2 <;> exact (show False from p).elim
theorem opd_fdiv : OpD Z X W (binaryOp .FloorDiv) (binop .fdiv) := by
  intro pins s σ H x y v u dx dy ρ g Q e I rx ry G r1 r2 p
  cases r1 with
  | int i => cases r2 with
    | int j =>
      simp only [binop] at p
      split at p
      · rename_i hc
        exact op_fdivW pins s σ H _ _ v u Q I rx ry ⟨i, j, rfl, rfl, hc, p.val G (.int _)⟩
      · exact p.elim
    | _ => exact (show False from p).elim
  | _ => cases r2 <;> exact (show False from p).elim
theorem opd_mod : OpD Z X W (binaryOp .Mod) (binop .mod) := by
  intro pins s σ H x y v u dx dy ρ g Q e I rx ry G r1 r2 p
  cases r1 with
  | int i => cases r2 with
    | int j =>
      simp only [binop] at p
      split at p
      · rename_i hc
        exact op_mod pins s σ H _ _ v u Q I rx ry ⟨i, j, rfl, rfl, hc, p.val G (.int _)⟩
      · exact p.elim
    | _ => exact (show False from p).elim
  | _ => cases r2 <;> exact (show False from p).elim
theorem opd_pow : OpD Z X W (binaryOp .Pow) (binop .pow) := by
  intro pins s σ H x y v u dx dy ρ g Q e I rx ry G r1 r2 p
  cases r1 with
  | int i => cases r2 with
    | int j =>
      simp only [binop] at p
      split at p
      · rename_i hc
        exact op_pow pins s σ H _ _ v u Q I rx ry ⟨i, j, rfl, rfl, ⟨hc.1, by omega, by omega⟩, p.val G (.int _)⟩
      · exact p.elim
    | _ => exact (show False from p).elim
  | _ => cases r2 <;> exact (show False from p).elim

/-! ### == of data -/
theorem ints_dp {ns : List Int} : ∀ {K : PySem.W.Frag} {H : Hp}, DpAll K H (ns.map V.int) (ns.map PyData.int) ∧ PyData.canLayAll0 (ns.map PyData.int) = true ∧ PyData.depthAll (ns.map PyData.int) = 0 := by
  induction ns with
  | nil => exact ⟨.nil, rfl, rfl⟩
  | cons n ns ih =>
    intro K H
    obtain ⟨a, b, c⟩ := @ih K H
    refine ⟨.cons (.int n) a, ?_, ?_⟩
    · show (PyData.canLay0 (.int n) && PyData.canLayAll0 (ns.map PyData.int)) = true
      rw [b]; rfl
    · show max (PyData.depth (.int n)) (PyData.depthAll (ns.map PyData.int)) = 0
      rw [c]; rfl
mutual
theorem snap_dp {ρ : List Addr} {H : Hp} {g : G} (G : RelG Z ρ H g) : ∀ (n : Nat) {v : V} {d : D} {t : PyData}, RelD Z ρ H v d → snap n g d = some t → Dp Z.K H v t ∧ t.canLay0 = true ∧ t.depth ≤ n
  | 0, _, _, _, _, h => by simp [snap] at h
  | n + 1, _, _, _, .non, h => by simp [snap] at h; subst h; exact ⟨.non, rfl, Nat.zero_le _⟩
  | n + 1, _, _, _, .bl b, h => by simp [snap] at h; subst h; exact ⟨.bl b, rfl, Nat.zero_le _⟩
  | n + 1, _, _, _, .int i, h => by simp [snap] at h; subst h; exact ⟨.int i, rfl, Nat.zero_le _⟩
  | n + 1, _, _, _, .str s, h => by
    simp only [snap] at h
    split at h
    · rename_i hc
      cases h
      exact ⟨.str s, hc, Nat.zero_le _⟩
    · cases h
  | n + 1, _, _, _, .tup hq hr, h => by
    simp only [snap, Option.map_eq_some_iff] at h
    obtain ⟨ts, h1, rfl⟩ := h
    obtain ⟨a1, a2, a3⟩ := snaps_dp G n hr h1
    exact ⟨.tup hq a1, a2, by show PyData.depthAll ts + 1 ≤ n + 1; omega⟩
  | n + 1, _, _, _, .ref hn, h => by
    simp only [snap] at h
    split at h
    · rename_i xs e
      obtain ⟨vs, q1, q2⟩ := G.lst hn e
      simp only [Option.map_eq_some_iff] at h
      obtain ⟨ts, h1, rfl⟩ := h
      obtain ⟨a1, a2, a3⟩ := snaps_dp G n q2 h1
      exact ⟨.lst (SqL.of q1) a1, a2, by show PyData.depthAll ts + 1 ≤ n + 1; omega⟩
    · cases h
  | n + 1, _, _, _, .fn k, h => by simp [snap] at h
  | n + 1, _, _, _, .rol (ns := ns) hq, h => by
    simp [snap] at h; subst h
    obtain ⟨a, b, c⟩ := @ints_dp ns Z.K H
    exact ⟨.lst hq.sqL a, b, by show PyData.depthAll _ + 1 ≤ n + 1; rw [c]; omega⟩
theorem snaps_dp {ρ : List Addr} {H : Hp} {g : G} (G : RelG Z ρ H g) : ∀ (n : Nat) {vs : List V} {ds : List D} {ts : List PyData}, RelDs Z ρ H vs ds → ds.mapM (snap n g) = some ts → DpAll Z.K H vs ts ∧ PyData.canLayAll0 ts = true ∧ PyData.depthAll ts ≤ n
  | n, _, _, _, .nil, h => by simp at h; subst h; exact ⟨.nil, rfl, Nat.zero_le _⟩
  | n, _, _, _, .cons r rs, h => by
    simp only [List.mapM_cons, Option.pure_def, Option.bind_eq_bind, Option.bind_eq_some_iff, Option.some.injEq] at h
    obtain ⟨t, h1, ts, h2, rfl⟩ := h
    obtain ⟨a1, a2, a3⟩ := snap_dp G n r h1
    obtain ⟨b1, b2, b3⟩ := snaps_dp G n rs h2
    exact ⟨.cons a1 b1, by show (_ && _) = true; rw [a2, b2]; rfl, by show max _ _ ≤ n; omega⟩
end
end
end DV
end
section
set_option Elab.async false
set_option linter.all false
set_option maxRecDepth 100000
namespace DV
open PySem PySem.Spec PyProof.Rows L2
section
variable {Z : Tab} {X : Cx} {W : WX} {N : List Str} {sc : Scope} {m : Nat}

/-- a datum of the state is read -/
theorem snap_reads {pins : List (Addr × Obj)} {s : Shared} {σ : L2.St} {H : Hp} {ρ : List Addr} {g : G} {n : Nat} {v : V} {u : Value} {d : D} {t : PyData} (hK : X.K = Z.K) (I : Inv X pins σ H s) (G : RelG Z ρ H g) (r : RelD Z ρ H v d) (rv : RelV v u) (h : snap n g d = some t) :
    (∃ as, Reads s.heap u t as) ∧ t.canLay0 = true ∧ t.depth ≤ n := by
  obtain ⟨a, b, c⟩ := snap_dp G n r h
  exact ⟨Dp.reads I t v u (by rw [hK]; exact a) rv, b, c⟩
theorem snaps_reads {pins : List (Addr × Obj)} {s : Shared} {σ : L2.St} {H : Hp} {ρ : List Addr} {g : G} {n : Nat} {vs : List V} {us : List Value} {ds : List D} {ts : List PyData} (hK : X.K = Z.K) (I : Inv X pins σ H s) (G : RelG Z ρ H g) (r : RelDs Z ρ H vs ds) (rv : Vals vs us) (h : ds.mapM (snap n g) = some ts) :
    (∃ as, ReadsAll s.heap us ts as) ∧ PyData.canLayAll0 ts = true ∧ PyData.depthAll ts ≤ n := by
  obtain ⟨a, b, c⟩ := snaps_dp G n r h
  exact ⟨Dp.readsAll I ts vs us (by rw [hK]; exact a) rv, b, c⟩
theorem fin_b {pins : List (Addr × Obj)} {σ : L2.St} {H : Hp} {s : Shared} {Q : VK} {ρ : List Addr} {g : G} {b : Bool} {e : Nat → D → List Addr → Hp → G → Prop} (I : Inv X pins σ H s) (G : RelG Z ρ H g) (p : PostR Z ρ H (.ok (.bl b) g) (kV Z Q) e) : EP X pins σ Q (.bool b) s :=
  ⟨.bl b, H, I, rfl, p.val G (.bl b)⟩
theorem liftO_some {ρ : List Addr} {H : Hp} {o : Option Bool} {g : G} {k : D → List Addr → Hp → G → Prop} {e : Nat → D → List Addr → Hp → G → Prop} (p : PostR Z ρ H (liftO o g) k e) : ∃ b, o = some b ∧ PostR Z ρ H (.ok (.bl b) g) k e := by
  cases o with
  | none => exact (show False from p).elim
  | some b => exact ⟨b, rfl, p⟩
theorem IsList_of {pins : List (Addr × Obj)} {s : Shared} {σ : L2.St} {H : Hp} {a : Addr} {xs : List V} (I : Inv X pins σ H s) (h : H a = some (.lst xs)) : ∃ its : List Value, Vals xs its ∧ s.heap.IsList a its.toArray := by
  obtain ⟨its, r, p, _⟩ := I.list (SqL.of h)
  exact ⟨its, r, p.isList⟩

theorem opc_eq (hK : X.K = Z.K) (hu : X.A.units + 64 < cLine) : OpD Z X W (compareOp .Eq) (fun x y g => liftO (cmpD .eq x y g) g) := by
  intro pins s σ H x y v u dx dy ρ g Q e I rx ry G r1 r2 p
  obtain ⟨b, hb, p'⟩ := liftO_some p
  simp only [cmpD, eqG] at hb
  split at hb
  · rename_i hl
    cases hb
    unfold unlikeLen at hl
    cases r1 with
    | ref n1 => cases r2 with
      | ref n2 =>
        simp only at hl
        split at hl
        · rename_i xs ys e1 e2
          obtain ⟨vs, a1, a2⟩ := G.lst n1 e1
          obtain ⟨ws, b1, b2⟩ := G.lst n2 e2
          obtain ⟨its, q1, l1⟩ := IsList_of I a1
          obtain ⟨its2, q2, l2⟩ := IsList_of I b1
          cases rx
          cases ry
          refine SeqAt.eq_list_lengthsAt l1 l2 ?_ (by omega) (fin_b I G p')
          have z1 := q1.length
          have z2 := q2.length
          have y1 := a2.length
          have y2 := b2.length
          simp only [List.size_toArray]
          rw [← z1, ← z2, y1, y2]
          exact hl
        · cases hl
      | _ => exact absurd hl (by simp)
    | _ => cases r2 <;> exact absurd hl (by simp)
  · split at hb
    · rename_i a c ha hc
      cases hb
      obtain ⟨⟨as, A1⟩, c1, d1⟩ := snap_reads hK I G r1 rx ha
      obtain ⟨⟨bs, B1⟩, c2, d2⟩ := snap_reads hK I G r2 ry hc
      exact SeqAt.compareEq_shaped A1 B1 (by unfold SeqAt.shaped; rw [c1, decide_eq_true d1]; rfl) (by unfold SeqAt.shaped; rw [c2, decide_eq_true d2]; rfl) hu (fin_b I G p')
    · cases hb
theorem opc_ne (hK : X.K = Z.K) (hu : X.A.units + 64 < cLine) : OpD Z X W (compareOp .NotEq) (fun x y g => liftO (cmpD .ne x y g) g) := by
  intro pins s σ H x y v u dx dy ρ g Q e I rx ry G r1 r2 p
  obtain ⟨b, hb, p'⟩ := liftO_some p
  simp only [cmpD, neG] at hb
  split at hb
  · rename_i a c ha hc
    cases hb
    obtain ⟨⟨as, A1⟩, c1, d1⟩ := snap_reads hK I G r1 rx ha
    obtain ⟨⟨bs, B1⟩, c2, d2⟩ := snap_reads hK I G r2 ry hc
    exact SeqAt.compareNe_shaped A1 B1 (by unfold SeqAt.shaped; rw [c1, decide_eq_true d1]; rfl) (by unfold SeqAt.shaped; rw [c2, decide_eq_true d2]; rfl) hu (fin_b I G p')
  · cases hb

theorem ordG_some {f : PyData → PyData → Bool} {g : G} {x y : D} {b : Bool} (h : ordG f g x y = some b) : ∃ a c, snap 64 g x = some a ∧ snap 64 g y = some c ∧ PySem.W.alike a c = true ∧ a ≠ .none ∧ f a c = b := by
  unfold ordG at h
  split at h
  · rename_i a c ha hc
    split at h
    · rename_i hq
      rw [Bool.and_eq_true] at hq
      refine ⟨a, c, ha, hc, hq.1, ?_, Option.some.inj h⟩
      rintro rfl
      exact absurd hq.2 (by simp [isNone])
    · cases h
  · cases h
theorem opc_ord {op : CmpOp} {o : Cmp} {f : PyData → PyData → Bool} (hK : X.K = Z.K) (hu : X.A.units + 64 < cLine) (ho : ∀ x y g, (∃ i j, x = D.int i ∧ y = D.int j) ∨ cmpD o x y g = ordG f g x y)
    (hi : ∀ i j, ∃ k, (∀ g, cmpD o (.int i) (.int j) g = some k) ∧ ∀ (pins : List (Addr × Obj)) (s : Shared) (σ : L2.St) (H : Hp) (v u : Value) (Q : VK), Inv X pins σ H s → RelV (.int i) v → RelV (.int j) u → Q (.bl k) H → wpAny (model X.prog X.w) X.A (compareOp op v u) (EP X pins σ Q) X.xe s)
    (hd : ∀ {s : Shared} {a b : Value} {da db : PyData} {as bs : List Addr} {Q : Value → Shared → Prop}, Reads s.heap a da as → Reads s.heap b db bs → PySem.W.alike da db = true → da ≠ .none → X.A.units + min da.depth db.depth < cLine → Q (.bool (f da db)) s → wpAny (model X.prog X.w) X.A (compareOp op a b) Q X.xe s) :
    OpD Z X W (compareOp op) (fun x y g => liftO (cmpD o x y g) g) := by
  intro pins s σ H x y v u dx dy ρ g Q e I rx ry G r1 r2 p
  obtain ⟨b, hb, p'⟩ := liftO_some p
  rcases ho dx dy g with ⟨i, j, rfl, rfl⟩ | h
  · obtain ⟨k, h1, h2⟩ := hi i j
    rw [h1] at hb
    cases hb
    cases r1
    cases r2
    exact h2 pins s σ H v u Q I rx ry (p'.val G (.bl b))
  · rw [h] at hb
    obtain ⟨a, c, ha, hc, hal, hn, rfl⟩ := ordG_some hb
    obtain ⟨⟨as, A1⟩, c1, d1⟩ := snap_reads hK I G r1 rx ha
    obtain ⟨⟨bs, B1⟩, c2, d2⟩ := snap_reads hK I G r2 ry hc
    exact hd A1 B1 hal hn (by have := Nat.min_le_left a.depth c.depth; omega) (fin_b I G p')
theorem opc_lt (hK : X.K = Z.K) (hu : X.A.units + 64 < cLine) : OpD Z X W (compareOp .Lt) (fun x y g => liftO (cmpD .lt x y g) g) :=
  opc_ord hK hu (fun x y g => by cases x <;> cases y <;> first | exact .inl ⟨_, _, rfl, rfl⟩ | exact .inr rfl) (fun i j => ⟨_, fun _ => rfl, fun pins s σ H v u Q I rx ry q => op_lt pins s σ H _ _ v u Q I rx ry ⟨i, j, rfl, rfl, q⟩⟩) fun A B h n hu q => PySem.W.lt_data A B h n hu q
theorem opc_gt (hK : X.K = Z.K) (hu : X.A.units + 64 < cLine) : OpD Z X W (compareOp .Gt) (fun x y g => liftO (cmpD .gt x y g) g) :=
  opc_ord hK hu (fun x y g => by cases x <;> cases y <;> first | exact .inl ⟨_, _, rfl, rfl⟩ | exact .inr rfl) (fun i j => ⟨_, fun _ => rfl, fun pins s σ H v u Q I rx ry q => op_gt pins s σ H _ _ v u Q I rx ry ⟨i, j, rfl, rfl, q⟩⟩) fun A B h n hu q => PySem.W.gt_data A B h n hu q
theorem opc_le (hK : X.K = Z.K) (hu : X.A.units + 64 < cLine) : OpD Z X W (compareOp .LtE) (fun x y g => liftO (cmpD .le x y g) g) :=
  opc_ord hK hu (fun x y g => by cases x <;> cases y <;> first | exact .inl ⟨_, _, rfl, rfl⟩ | exact .inr rfl) (fun i j => ⟨_, fun _ => rfl, fun pins s σ H v u Q I rx ry q => op_le pins s σ H _ _ v u Q I rx ry ⟨i, j, rfl, rfl, q⟩⟩) fun A B h n hu q => PySem.W.le_data A B h n hu q
theorem opc_ge (hK : X.K = Z.K) (hu : X.A.units + 64 < cLine) : OpD Z X W (compareOp .GtE) (fun x y g => liftO (cmpD .ge x y g) g) :=
  opc_ord hK hu (fun x y g => by cases x <;> cases y <;> first | exact .inl ⟨_, _, rfl, rfl⟩ | exact .inr rfl) (fun i j => ⟨_, fun _ => rfl, fun pins s σ H v u Q I rx ry q => op_ge pins s σ H _ _ v u Q I rx ry ⟨i, j, rfl, rfl, q⟩⟩) fun A B h n hu q => PySem.W.ge_data A B h n hu q

/-! ### in, not in -/
theorem memG_some {g : G} {x : D} {xs : List D} {b : Bool} (h : memG g x xs = some b) : ∃ ts t, xs.mapM (snap 64 g) = some ts ∧ snap 64 g x = some t ∧ (ts.any fun y => PyData.eqv y t) = b := by
  unfold memG at h
  split at h
  · rename_i ts t h1 h2
    exact ⟨ts, t, h1, h2, Option.some.inj h⟩
  · cases h
theorem in_seq_ok {neg : Bool} (hK : X.K = Z.K) (hu : X.A.units + 64 + 1 < cLine) {pins : List (Addr × Obj)} {s : Shared} {σ : L2.St} {H : Hp} {ρ : List Addr} {g : G} {x : V} {v : Value} {dx : D} {a : Addr} {xs : List V} {ds : List D} {b : Bool} {Q : Value → Shared → Prop} (I : Inv X pins σ H s) (G : RelG Z ρ H g) (rx : RelV x v) (r1 : RelD Z ρ H x dx)
    (hq : SqL X.K H a xs ∨ SqT X.K H a xs) (r : RelDs Z ρ H xs ds) (h : memG g dx ds = some b) (q : Q (.bool (if neg then !b else b)) s) : wpAny (model X.prog X.w) X.A (compareOp (if neg then .NotIn else .In) v (.ref a)) Q X.xe s := by
  obtain ⟨ts, t, h1, h2, rfl⟩ := memG_some h
  obtain ⟨⟨bs, B1⟩, c2, d2⟩ := snap_reads hK I G r1 rx h2
  have hm := Nat.min_le_right (PyData.depthAll ts) t.depth
  rcases hq with hq | hq
  · obtain ⟨its, rv, pl, _⟩ := I.list hq
    obtain ⟨⟨as, A1⟩, c1, d1⟩ := snaps_reads hK I G r rv h1
    cases neg with
    | false => exact SeqAt.in_listAt _ pl.isList (SeqAt.items_eqAt (vs := its.toArray) (by simpa using A1) B1 c1 c2 (by omega)) (by rw [SeqAt.any_by_data (vs := its.toArray) (by simpa using A1) c1]; exact q)
    | true => exact SeqAt.notIn_listAt _ pl.isList (SeqAt.items_eqAt (vs := its.toArray) (by simpa using A1) B1 c1 c2 (by omega)) (by rw [SeqAt.any_by_data (vs := its.toArray) (by simpa using A1) c1]; exact q)
  · obtain ⟨its, rv, pl, _⟩ := I.tuple hq
    obtain ⟨⟨as, A1⟩, c1, d1⟩ := snaps_reads hK I G r rv h1
    cases neg with
    | false => exact SeqAt.in_tupleAt _ pl (SeqAt.items_eqAt (vs := its.toArray) (by simpa using A1) B1 c1 c2 (by omega)) (by rw [SeqAt.any_by_data (vs := its.toArray) (by simpa using A1) c1]; exact q)
    | true => exact SeqAt.notIn_tupleAt _ pl (SeqAt.items_eqAt (vs := its.toArray) (by simpa using A1) B1 c1 c2 (by omega)) (by rw [SeqAt.any_by_data (vs := its.toArray) (by simpa using A1) c1]; exact q)
end
end DV
end
section
set_option Elab.async false
set_option linter.all false
set_option maxRecDepth 100000
namespace DV
open PySem PySem.Spec PyProof.Rows L2
section
variable {Z : Tab} {X : Cx} {W : WX} {N : List Str} {sc : Scope} {m : Nat}

theorem kD_inj {a b : L2.Key} (h : kD a = kD b) : a = b := by
  cases a <;> cases b <;> simp [kD] at h <;> rw [h]
theorem RelK.some {ρ : List Addr} {H : Hp} : ∀ {xs : List (L2.Key × V)} {ds : List (D × D)}, RelK Z ρ H xs ds → ∀ k, (valV xs k).isSome = (dget ds (kD k)).isSome
  | _, _, .nil, k => rfl
  | _, _, .cons (k := j) (x := x) (d := d) (xs := xs) (ds := ds) h t, k => by
    have ih := RelK.some t k
    by_cases e : j = k
    · rw [valV_pos e]
      simp [dget, e]
    · rw [valV_neg e, ih]
      have e' : ¬ kD j = kD k := fun z => e (kD_inj z)
      simp [dget, e']
theorem opc_in_ {neg : Bool} (hK : X.K = Z.K) (hu : X.A.units + 64 + 1 < cLine) {pins : List (Addr × Obj)} {s : Shared} {σ : L2.St} {H : Hp} {x y : V} {v u : Value} {dx dy : D} {ρ : List Addr} {g : G} {Q : VK} {e : Nat → D → List Addr → Hp → G → Prop} (I : Inv X pins σ H s) (rx : RelV x v) (ry : RelV y u) (G : RelG Z ρ H g) (r1 : RelD Z ρ H x dx) (r2 : RelD Z ρ H y dy)
    (p : PostR Z ρ H (liftO (cmpD (if neg then .notIn else .in_) dx dy g) g) (kV Z Q) e) : wpAny (model X.prog X.w) X.A (compareOp (if neg then .NotIn else .In) v u) (EP X pins σ Q) X.xe s := by
  obtain ⟨b, hb, p'⟩ := liftO_some p
  cases r2 with
  | tup hq rs =>
    cases ry
    rename_i a vs ds
    have hb' : ∃ c, memG g dx ds = some c ∧ (if neg then !c else c) = b := by
      cases neg with
      | false => exact ⟨b, hb, rfl⟩
      | true =>
        obtain ⟨c, h1, h2⟩ := Option.map_eq_some_iff.mp (show (memG g dx ds).map not = some b from hb)
        exact ⟨c, h1, h2⟩
    obtain ⟨c, h1, h2⟩ := hb'
    exact in_seq_ok hK hu I G rx r1 (.inr (by rw [hK]; exact hq)) rs h1 (by rw [h2]; exact fin_b I G p')
  | ref hn =>
    cases ry
    rename_i a n
    by_cases hdic : ∃ kvs, g[n]? = some (.dic kvs)
    · obtain ⟨kvs, e1⟩ := hdic
      obtain ⟨ks, a1, a2⟩ := G.obj n _ a e1 hn
      have key : ∃ k, dx = kD k ∧ (if neg then !(dget kvs dx).isSome else (dget kvs dx).isSome) = b := by
        cases neg with
        | false =>
          simp [cmpD, e1] at hb
          cases dx <;> simp [keyOk] at hb
          · exact ⟨.inl _, rfl, hb⟩
          · exact ⟨.inr _, rfl, hb⟩
        | true =>
          simp [cmpD, e1] at hb
          cases dx <;> simp [keyOk] at hb
          · exact ⟨.inl _, rfl, by simpa using hb⟩
          · exact ⟨.inr _, rfl, by simpa using hb⟩
      obtain ⟨k, rfl, hv⟩ := key
      have hx : x = L2.kV k := by
        cases k with
        | inl i => cases r1; rfl
        | inr s => cases r1; rfl
      subst hx
      have hs : (valV ks k).isSome = (dget kvs (kD k)).isSome := a2.some k
      have hu1 : X.A.units + 1 < cLine := by omega
      cases neg with
      | false =>
        refine d_in hu1 I (.k a1) rx fun s' I' => ?_
        rw [hs]
        have hv' : (dget kvs (kD k)).isSome = b := hv
        rw [hv']
        exact fin_b I' G p'
      | true =>
        refine d_notIn hu1 I (.k a1) rx fun s' I' => ?_
        rw [hs]
        have hv' : (!(dget kvs (kD k)).isSome) = b := hv
        rw [hv']
        exact fin_b I' G p'
    have hb' : ∃ ds, g[n]? = some (.lst ds) ∧ ∃ c, memG g dx ds = some c ∧ (if neg then !c else c) = b := by
      cases e1 : g[n]? with
      | none => cases neg <;> simp [cmpD, e1] at hb
      | some o => cases o with
        | lst ds =>
          refine ⟨ds, rfl, ?_⟩
          cases neg with
          | false => simp [cmpD, e1] at hb; exact ⟨b, hb, rfl⟩
          | true =>
            simp [cmpD, e1] at hb
            exact ⟨!b, hb, by simp⟩
        | dic kvs => exact absurd ⟨kvs, e1⟩ hdic
        | ins c fs => cases neg <;> simp [cmpD, e1] at hb
        | dit kvs => cases neg <;> simp [cmpD, e1] at hb
    obtain ⟨ds, e1, c, h1, h2⟩ := hb'
    obtain ⟨vs, a1, a2⟩ := G.lst hn e1
    exact in_seq_ok hK hu I G rx r1 (.inl (SqL.of a1)) a2 h1 (by rw [h2]; exact fin_b I G p')
  | _ => cases neg <;> exact absurd hb (by simp [cmpD])
theorem opc_in (hK : X.K = Z.K) (hu : X.A.units + 64 + 1 < cLine) : OpD Z X W (compareOp .In) (fun x y g => liftO (cmpD .in_ x y g) g) :=
  fun pins s σ H x y v u dx dy ρ g Q e I rx ry G r1 r2 p => opc_in_ (neg := false) hK hu I rx ry G r1 r2 p
theorem opc_notIn (hK : X.K = Z.K) (hu : X.A.units + 64 + 1 < cLine) : OpD Z X W (compareOp .NotIn) (fun x y g => liftO (cmpD .notIn x y g) g) :=
  fun pins s σ H x y v u dx dy ρ g Q e I rx ry G r1 r2 p => opc_in_ (neg := true) hK hu I rx ry G r1 r2 p
theorem relD_non {ρ : List Addr} {H : Hp} {v : V} {d : D} (r : RelD Z ρ H v d) : decide (v = .non) = decide (d = .non) := by
  cases r <;> simp
theorem opc_isN : OpD Z X W (compareOp .Is) (fun x y g => liftO (cmpD .isN x y g) g) := by
  intro pins s σ H x y v u dx dy ρ g Q e I rx ry G r1 r2 p
  obtain ⟨b, hb, p'⟩ := liftO_some p
  cases r2 with
  | non =>
    refine op_isN pins s σ H _ _ v u Q I rx ry ⟨rfl, ?_⟩
    rw [relD_non r1]
    cases hb
    exact p'.val G (.bl _)
  | _ => exact absurd hb (by cases dx <;> simp [cmpD])
theorem opc_notN : OpD Z X W (compareOp .IsNot) (fun x y g => liftO (cmpD .notN x y g) g) := by
  intro pins s σ H x y v u dx dy ρ g Q e I rx ry G r1 r2 p
  obtain ⟨b, hb, p'⟩ := liftO_some p
  cases r2 with
  | non =>
    refine op_notN pins s σ H _ _ v u Q I rx ry ⟨rfl, ?_⟩
    rw [relD_non r1]
    cases hb
    exact p'.val G (.bl _)
  | _ => exact absurd hb (by cases dx <;> simp [cmpD])

variable {a b c e : Expr} {es : List Expr} {fa fb fc : Ex} {fs : Exs} {pos : Pos}
theorem de_cmp {op : CmpOp} {o : Cmp} (ho : OpD Z X W (compareOp op) (fun x y g => liftO (cmpD o x y g) g)) (ha : PE X a (rdE Z W fa)) (hb : PE X b (rdE Z W fb)) (hm : behindInMarks op b = false := by first | exact nomark _ | rfl) : PE X (.Compare a [op] [b] pos) (rdE Z W (Ex.cmp o fa fb)) := by
  refine ⟨fun pins s σ H Q I ⟨δ, ρ, g, G, S, h⟩ => ?_⟩
  refine wpAny_Compare1 (binT ha hb (R := fun x y H2 => ∃ dx dy ρ2 g2, RelG Z ρ2 H2 g2 ∧ RelD Z ρ2 H2 x dx ∧ RelD Z ρ2 H2 y dy ∧ PostR Z ρ2 H2 (liftO (cmpD o dx dy g2) g2) (kV Z Q) (eX Z W σ)) I ?_ ?_) hm
  · refine ⟨δ, ρ, g, G, S, (PostR.bind h).imp (fun d ρ1 H1 g1 m1 G1 h1 v rv => ?_) fun _ _ _ _ _ _ _ q => q⟩
    exact ⟨δ, ρ1, g1, G1, S.mono m1, (PostR.bind h1).imp (fun d2 ρ2 H2 g2 m2 G2 h2 v2 rv2 => ⟨d, d2, ρ2, g2, G2, rv.mono m2, rv2, h2⟩) fun _ _ _ _ _ _ _ q => q⟩
  · intro v u s2 x y H2 I2 rx ry ⟨dx, dy, ρ2, g2, G2, r1, r2, p⟩
    exact ho pins s2 σ H2 x y v u dx dy ρ2 g2 Q _ I2 rx ry G2 r1 r2 p
/-- a < b < c: by bools -/
theorem de_chain {op op' : CmpOp} {o o' : Cmp} (ho : OpD Z X W (compareOp op) (fun x y g => liftO (cmpD o x y g) g)) (ho' : OpD Z X W (compareOp op') (fun x y g => liftO (cmpD o' x y g) g)) (ha : PE X a (rdE Z W fa)) (hb : PE X b (rdE Z W fb)) (hc : PE X c (rdE Z W fc))
    (hm : lastMarks [op, op'] [b, c] = false := by with_unfolding_all rfl) : PE X (.Compare a [op, op'] [b, c] pos) (rdE Z W (Ex.chain o o' fa fb fc)) := by
  refine ⟨fun pins s σ H Q I ⟨δ, ρ, g, G, S, h⟩ => ?_⟩
  refine Compare_chain (thn (ha.run pins s σ H (fun x H1 => ∃ dx ρ1 g1, Mv ρ H ρ1 H1 ∧ RelG Z ρ1 H1 g1 ∧ RelD Z ρ1 H1 x dx ∧ PostR Z ρ1 H1 ((fb δ g1).bind fun y g => match cmpD o dx y g with
      | some true => (fc δ g).bind fun z g => liftO (cmpD o' y z g) g
      | some false => .ok (.bl false) g
      | none => .stuck) (kV Z Q) (eX Z W σ)) I ⟨δ, ρ, g, G, S, (PostR.bind h).imp (fun d ρ1 H1 g1 m1 G1 h1 v rv => ⟨d, ρ1, g1, m1, G1, rv, h1⟩) fun _ _ _ _ _ _ _ q => q⟩)
    fun v s1 ⟨x, H1, I1, r1, dx, ρ1, g1, m1, G1, q1, h1⟩ => chain_link ?_) hm
  refine thn (hb.run pins s1 σ H1 (fun y H2 => ∃ dy ρ2 g2, Mv ρ1 H1 ρ2 H2 ∧ RelG Z ρ2 H2 g2 ∧ RelD Z ρ2 H2 y dy ∧ PostR Z ρ2 H2 (match cmpD o dx dy g2 with
      | some true => (fc δ g2).bind fun z g => liftO (cmpD o' dy z g) g
      | some false => .ok (.bl false) g2
      | none => .stuck) (kV Z Q) (eX Z W σ)) I1 ⟨δ, ρ1, g1, G1, S.mono m1, (PostR.bind h1).imp (fun d ρ2 H2 g2 m2 G2 h2 v rv => ⟨d, ρ2, g2, m2, G2, rv, h2⟩) fun _ _ _ _ _ _ _ q => q⟩)
    fun u s2 ⟨y, H2, I2, r2, dy, ρ2, g2, m2, G2, q2, h2⟩ => ?_
  -- the first comparison: its bool
  cases hk : cmpD o dx dy g2 with
  | none => rw [hk] at h2; exact h2.elim
  | some k =>
    rw [hk] at h2
    refine thn (ho pins s2 σ H2 x y v u dx dy ρ2 g2 (fun z H3 => z = .bl k ∧ ∃ ρ3, Mv ρ2 H2 ρ3 H3 ∧ RelG Z ρ3 H3 g2) (fun _ _ _ _ _ => False) I2 r1 r2 G2 (q1.mono m2) q2 ?_) fun d s3 ⟨z, H3, I3, r3, e3, ρ3, m3, G3⟩ => ?_
    · show PostR Z ρ2 H2 (liftO (cmpD o dx dy g2) g2) _ _
      rw [hk]
      exact fun ρ3 H3 m3 G3 v3 r3 => by cases r3; exact ⟨rfl, ρ3, m3, G3⟩
    · subst e3
      cases r3
      refine wpAny_truthy_bool ?_
      cases k with
      | false => exact ite_ff ⟨.bl false, H3, I3, rfl, PostR.val (PostR.mv m3 h2) G3 (.bl false)⟩
      | true =>
        refine ite_tt (chain_last (thn (hc.run pins s3 σ H3 (fun z H4 => ∃ dz ρ4 g4, Mv ρ3 H3 ρ4 H4 ∧ RelG Z ρ4 H4 g4 ∧ RelD Z ρ4 H4 z dz ∧ PostR Z ρ4 H4 (liftO (cmpD o' dy dz g4) g4) (kV Z Q) (eX Z W σ)) I3
          ⟨δ, ρ3, g2, G3, ((S.mono m1).mono m2).mono m3, (PostR.bind (PostR.mv m3 h2)).imp (fun d ρ4 H4 g4 m4 G4 h4 v rv => ⟨d, ρ4, g4, m4, G4, rv, h4⟩) fun _ _ _ _ _ _ _ q => q⟩) fun w' s4 ⟨z', H4, I4, r4, dz, ρ4, g4, m4, G4, q4, h4⟩ => ?_))
        exact ho' pins s4 σ H4 y z' u w' dy dz ρ4 g4 Q _ I4 r2 r4 G4 ((q2.mono m3).mono m4) q4 h4

/-! ### tests -/
theorem truth_ok {ρ : List Addr} {H : Hp} {g : G} (G : RelG Z ρ H g) {x : V} {d : D} {k : Bool} (r : RelD Z ρ H x d) (h : truth g d = some k) : TruV Z.K x H k := by
  cases r with
  | non => exact (Option.some.inj h).symm
  | bl b => exact (Option.some.inj h).symm
  | int i => exact (Option.some.inj h).symm
  | str s =>
    simp only [truth] at h
    split at h
    · rename_i hl
      exact ⟨by rw [← line_eq]; exact hl, (Option.some.inj h).symm⟩
    · cases h
  | tup hq rs =>
    refine .inr (.inl ⟨_, hq, ?_⟩)
    have h' := Option.some.inj h
    rw [← h']
    have hl := rs.length
    cases rs <;> rfl
  | ref hn =>
    simp only [truth] at h
    split at h
    · rename_i xs e1
      obtain ⟨vs, a1, a2⟩ := G.lst hn e1
      refine .inl ⟨vs, SqL.of a1, ?_⟩
      rw [← Option.some.inj h]
      cases a2 <;> rfl
    · rename_i kvs e1
      cases h
    · cases h
  | _ => cases h
/-- an expression as a test: of whatever value -/
theorem dt_ex (hK : X.K = Z.K) (ha : PE X a (rdE Z W fa)) (he : ∀ whole, isTrue a X.env whole = (do let v ← whole; standAt a.pos; holding [v] (truthy v)) := by intro _; rfl) : PT X a (rdT Z W (Te.ex fa)) := by
  refine PT_imp (pt_truth ha he) fun σ H Q ⟨δ, ρ, g, G, S, h⟩ => ?_
  refine ⟨δ, ρ, g, G, S, (PostR.bind h).imp (fun d ρ1 H1 g1 m1 G1 h1 v rv => ?_) fun _ _ _ _ _ _ _ q => q⟩
  split at h1
  · rename_i k hk
    exact ⟨k, by rw [hK]; exact truth_ok G1 rv hk, PostR.ok (a := k) h1 G1⟩
  · exact h1.elim
/-- a comparison as a test -/
theorem dt_cmp {op : CmpOp} {o : Cmp} (ho : OpD Z X W (compareOp op) (fun x y g => liftO (cmpD o x y g) g)) (ha : PE X a (rdE Z W fa)) (hb : PE X b (rdE Z W fb)) (hm : behindInMarks op b = false := by first | exact nomark _ | rfl) : PT X (.Compare a [op] [b] pos) (rdT Z W (Te.ex (Ex.cmp o fa fb))) := by
  refine ⟨fun pins s σ H Q I ⟨δ, ρ, g, G, S, h⟩ => ?_⟩
  have h' : PostR Z ρ H ((Ex.cmp o fa fb δ g).bind fun x g => match truth g x with
    | some b => .ok b g
    | none => .stuck) (kT Q) (eX Z W σ) := h
  have h2 := PostR.bind (PostR.bind h')
  refine wpAny_isTrue_Compare1 (thn (ha.run pins s σ H (fun x H1 => ∃ dx ρ1 g1, Mv ρ H ρ1 H1 ∧ RelG Z ρ1 H1 g1 ∧ RelD Z ρ1 H1 x dx ∧ PostR Z ρ1 H1 ((fb δ g1).bind fun y g => liftO (cmpD o dx y g) g) (fun d ρ2 H2 g2 => PostR Z ρ2 H2 (match truth g2 d with
    | some b => .ok b g2
    | none => .stuck) (kT Q) (eX Z W σ)) (eX Z W σ)) I ⟨δ, ρ, g, G, S, h2.imp (fun d ρ1 H1 g1 m1 G1 h1 v rv => ⟨d, ρ1, g1, m1, G1, rv, h1⟩) fun _ _ _ _ _ _ _ q => q⟩) fun v s1 ⟨x, H1, I1, r1, dx, ρ1, g1, m1, G1, q1, h1⟩ => ?_) hm
  refine thn (hb.run pins s1 σ H1 (fun y H2 => ∃ dy ρ2 g2, Mv ρ1 H1 ρ2 H2 ∧ RelG Z ρ2 H2 g2 ∧ RelD Z ρ2 H2 y dy ∧ PostR Z ρ2 H2 (liftO (cmpD o dx dy g2) g2) (fun d ρ2 H2 g2 => PostR Z ρ2 H2 (match truth g2 d with
    | some b => .ok b g2
    | none => .stuck) (kT Q) (eX Z W σ)) (eX Z W σ)) I1 ⟨δ, ρ1, g1, G1, S.mono m1, (PostR.bind h1).imp (fun d ρ1 H1 g1 m1 G1 h1 v rv => ⟨d, ρ1, g1, m1, G1, rv, h1⟩) fun _ _ _ _ _ _ _ q => q⟩) fun u s2 ⟨y, H2, I2, r2, dy, ρ2, g2, m2, G2, q2, h2⟩ => ?_
  obtain ⟨k, hk, h3⟩ := liftO_some h2
  refine thn (ho pins s2 σ H2 x y v u dx dy ρ2 g2 (fun z H3 => z = .bl k ∧ ∃ ρ3, Mv ρ2 H2 ρ3 H3 ∧ RelG Z ρ3 H3 g2) (fun _ _ _ _ _ => False) I2 r1 r2 G2 (q1.mono m2) q2 ?_) fun d s3 ⟨z, H3, I3, r3, e3, ρ3, m3, G3⟩ => ?_
  · show PostR Z ρ2 H2 (liftO (cmpD o dx dy g2) g2) _ _
    rw [hk]
    exact fun ρ3 H3 m3 G3 v3 r3 => by cases r3; exact ⟨rfl, ρ3, m3, G3⟩
  · subst e3
    cases r3
    exact wpAny_truthy_bool ⟨H3, I3, PostR.ok (a := k) (PostR.ok (PostR.mv m3 h3) G3) G3⟩
theorem dt_not {ta : Te} (ha : PT X a (rdT Z W ta)) : PT X (.UnaryOp .Not a pos) (rdT Z W (Te.not ta)) := by
  refine PT_imp (pt_not ha) fun σ H Q ⟨δ, ρ, g, G, S, h⟩ => ?_
  exact ⟨δ, ρ, g, G, S, (PostR.bind h).imp (fun d ρ1 H1 g1 m1 G1 h1 => PostR.ok (a := !d) h1 G1) fun _ _ _ _ _ _ _ q => q⟩
theorem dw_and1 {ta : Te} (ha : PT X a (rdT Z W ta)) : PW X (.BoolOp .And [a] pos) (rdT Z W ta) := pw_and1 ha
theorem dw_or1 {ta : Te} (ha : PT X a (rdT Z W ta)) : PW X (.BoolOp .Or [a] pos) (rdT Z W ta) := pw_or1 ha
theorem dw_and {ta tb : Te} {rest : List Expr} (ha : PT X a (rdT Z W ta)) (hb : PW X (.BoolOp .And (b :: rest) pos) (rdT Z W tb)) : PW X (.BoolOp .And (a :: b :: rest) pos) (rdT Z W (Te.and ta tb)) := by
  refine PW_imp (pw_and ha hb) fun σ H Q ⟨δ, ρ, g, G, S, h⟩ => ?_
  refine ⟨δ, ρ, g, G, S, (PostR.bind h).imp (fun d ρ1 H1 g1 m1 G1 h1 => ?_) fun _ _ _ _ _ _ _ q => q⟩
  show if d = true then _ else _
  cases d with
  | true => exact ⟨δ, ρ1, g1, G1, S.mono m1, h1⟩
  | false => exact PostR.ok (a := false) h1 G1
theorem dw_or {ta tb : Te} {rest : List Expr} (ha : PT X a (rdT Z W ta)) (hb : PW X (.BoolOp .Or (b :: rest) pos) (rdT Z W tb)) : PW X (.BoolOp .Or (a :: b :: rest) pos) (rdT Z W (Te.or ta tb)) := by
  refine PW_imp (pw_or ha hb) fun σ H Q ⟨δ, ρ, g, G, S, h⟩ => ?_
  refine ⟨δ, ρ, g, G, S, (PostR.bind h).imp (fun d ρ1 H1 g1 m1 G1 h1 => ?_) fun _ _ _ _ _ _ _ q => q⟩
  show if d = true then _ else _
  cases d with
  | false => exact ⟨δ, ρ1, g1, G1, S.mono m1, h1⟩
  | true => exact PostR.ok (a := true) h1 G1
theorem dt_w {ta : Te} (h : PW X a (rdT Z W ta)) : PT X a (rdT Z W ta) := h.pt

/-! ### and, or, not, if as values -/
theorem de_not (ha : PE X a (rdE Z W fa)) : PE X (.UnaryOp .Not a pos) (rdE Z W (Ex.not fa)) := by
  refine PE_imp (pe_not ha) fun σ H Q ⟨δ, ρ, g, G, S, h⟩ => ?_
  refine ⟨δ, ρ, g, G, S, (PostR.bind h).imp (fun d ρ1 H1 g1 m1 G1 h1 v rv => ?_) fun _ _ _ _ _ _ _ q => q⟩
  cases rv with
  | bl b => exact ⟨b, rfl, h1.val G1 (.bl _)⟩
  | _ => exact (show False from h1).elim
theorem de_one {op} (h : PE X a (rdE Z W fa)) : PE X (.BoolOp op [a] pos) (rdE Z W fa) := pe_one h
theorem de_and {rest : List Expr} (ha : PE X a (rdE Z W fa)) (hb : PE X (.BoolOp .And (b :: rest) pos) (rdE Z W fb)) : PE X (.BoolOp .And (a :: b :: rest) pos) (rdE Z W (Ex.and fa fb)) := by
  refine PE_imp (pe_and ha hb) fun σ H Q ⟨δ, ρ, g, G, S, h⟩ => ?_
  refine ⟨δ, ρ, g, G, S, (PostR.bind h).imp (fun d ρ1 H1 g1 m1 G1 h1 v rv => ?_) fun _ _ _ _ _ _ _ q => q⟩
  cases rv with
  | bl b =>
    refine ⟨b, rfl, ?_⟩
    cases b with
    | true => exact ⟨δ, ρ1, g1, G1, S.mono m1, h1⟩
    | false => exact PostR.val (d := .bl false) h1 G1 (.bl false)
  | _ => exact (show False from h1).elim
theorem de_or {rest : List Expr} (ha : PE X a (rdE Z W fa)) (hb : PE X (.BoolOp .Or (b :: rest) pos) (rdE Z W fb)) : PE X (.BoolOp .Or (a :: b :: rest) pos) (rdE Z W (Ex.or fa fb)) := by
  refine PE_imp (pe_or ha hb) fun σ H Q ⟨δ, ρ, g, G, S, h⟩ => ?_
  refine ⟨δ, ρ, g, G, S, (PostR.bind h).imp (fun d ρ1 H1 g1 m1 G1 h1 v rv => ?_) fun _ _ _ _ _ _ _ q => q⟩
  cases rv with
  | bl b =>
    refine ⟨b, rfl, ?_⟩
    cases b with
    | false => exact ⟨δ, ρ1, g1, G1, S.mono m1, h1⟩
    | true => exact PostR.val (d := .bl true) h1 G1 (.bl true)
  | _ => exact (show False from h1).elim
theorem de_ite {tc : Te} (hc : PT X c (rdT Z W tc)) (ha : PE X a (rdE Z W fa)) (hb : PE X b (rdE Z W fb)) : PE X (.IfExp c a b pos) (rdE Z W (Ex.ite tc fa fb)) := by
  refine PE_imp (pe_ifExp hc ha hb) fun σ H Q ⟨δ, ρ, g, G, S, h⟩ => ?_
  refine ⟨δ, ρ, g, G, S, (PostR.bind h).imp (fun d ρ1 H1 g1 m1 G1 h1 => ?_) fun _ _ _ _ _ _ _ q => q⟩
  show if d = true then _ else _
  cases d with
  | true => exact ⟨δ, ρ1, g1, G1, S.mono m1, h1⟩
  | false => exact ⟨δ, ρ1, g1, G1, S.mono m1, h1⟩
theorem de_neg (ha : PE X a (rdE Z W fa)) : PE X (.UnaryOp .USub a pos) (rdE Z W (Ex.neg fa)) := by
  refine PE_imp (pe_un un_neg ha) fun σ H Q ⟨δ, ρ, g, G, S, h⟩ => ?_
  refine ⟨δ, ρ, g, G, S, (PostR.bind h).imp (fun d ρ1 H1 g1 m1 G1 h1 v rv => ?_) fun _ _ _ _ _ _ _ q => q⟩
  cases rv with
  | int i => exact ⟨i, rfl, h1.val G1 (.int _)⟩
  | _ => exact (show False from h1).elim
end
end DV
end
section
set_option Elab.async false
set_option linter.all false
set_option maxRecDepth 100000
namespace DV
open PySem PySem.Spec PyProof.Rows L2

/-- no name of the builtins is bound in the text -/
structure Blt (mg : Str → Option Value) : Prop where
  len : mg "len" = none
  int : mg "int" = none
  abs : mg "abs" = none
  all : mg "all" = none
  any : mg "any" = none
  tuple : mg "tuple" = none
  list : mg "list" = none
  max : mg "max" = none
  min : mg "min" = none
  range : mg "range" = none
  isinstance : mg "isinstance" = none
  zip : mg "zip" = none
  enumerate : mg "enumerate" = none
  sorted : mg "sorted" = none
  dict : mg "dict" = none
  sum : mg "sum" = none
  bool : mg "bool" = none
  str : mg "str" = none
  repr : mg "repr" = none
  set : mg "set" = none

section
variable {Z : Tab} {X : Cx} {W : WX} {N : List Str} {sc : Scope} {m : Nat} {a b c e : Expr} {es : List Expr} {fa fb fc : Ex} {fs : Exs} {pos p p2 : Pos}

theorem Gl_of (hX : XOk Z X N sc W m) {x : Str} (h : sc.names.lookup x = some .globalImplicit) : Gl X x := by
  show X.env.scope.names.lookup x = _
  rw [hX.sc]; exact h

/-! ### a[i] -/
theorem ixN_eq (n : Nat) (i : Int) : DV.ixN n i = L2.ixN n i := rfl
theorem RelDs.atI {ρ : List Addr} {H : Hp} {xs : List V} {ds : List D} {i : Int} {d : D} (r : RelDs Z ρ H xs ds) (h : DV.atI ds i = some d) : ∃ v, L2.atI xs i = some v ∧ RelD Z ρ H v d := by
  unfold DV.atI at h
  obtain ⟨j, h1, h2⟩ := Option.bind_eq_some_iff.mp h
  obtain ⟨v, h3, h4⟩ := r.get h2
  refine ⟨v, ?_, h4⟩
  unfold L2.atI
  rw [r.length]
  exact Option.bind_eq_some_iff.mpr ⟨j, h1, h3⟩
theorem atI_ints {ns : List Int} {i : Int} {k : Int} (h : DV.atI ns i = some k) : L2.atI (ns.map V.int) i = some (.int k) := by
  unfold DV.atI at h
  obtain ⟨j, h1, h2⟩ := Option.bind_eq_some_iff.mp h
  unfold L2.atI
  rw [List.length_map]
  exact Option.bind_eq_some_iff.mpr ⟨j, h1, by rw [List.getElem?_map, h2]; rfl⟩
theorem oD_some {ρ : List Addr} {H : Hp} {o : Option D} {g : G} {k : D → List Addr → Hp → G → Prop} {e : Nat → D → List Addr → Hp → G → Prop} (p : PostR Z ρ H (oD o g) k e) : ∃ d, o = some d ∧ PostR Z ρ H (.ok d g) k e := by
  cases o with
  | none => exact (show False from p).elim
  | some d => exact ⟨d, rfl, p⟩
theorem de_idx (hK : X.K = Z.K) (ha : PE X a (rdE Z W fa)) (hb : PE X b (rdE Z W fb)) (hs : PlainIx b := by exact fun _ _ => rfl) : PE X (.Subscript a b pos) (rdE Z W (Ex.idx fa fb)) := by
  refine PE_imp (pe_ix ix_seq ha hb hs) fun σ H Q ⟨δ, ρ, g, G, S, h⟩ => ?_
  refine ⟨δ, ρ, g, G, S, (PostR.bind h).imp (fun d ρ1 H1 g1 m1 G1 h1 v rv => ?_) fun _ _ _ _ _ _ _ q => q⟩
  refine ⟨δ, ρ1, g1, G1, S.mono m1, (PostR.bind h1).imp (fun d2 ρ2 H2 g2 m2 G2 h2 v2 rv2 => ?_) fun _ _ _ _ _ _ _ q => q⟩
  have rv' := rv.mono m2
  rw [hK]
  cases rv' with
  | tup hq rs => cases rv2 with
    | int i =>
      obtain ⟨x, e1, q⟩ := oD_some h2
      obtain ⟨w, e2, r⟩ := rs.atI e1
      exact .inr (.inl ⟨_, _, i, w, rfl, rfl, hq, e2, q.val G2 r⟩)
    | _ => exact (show False from h2).elim
  | rol hq => cases rv2 with
    | int i =>
      obtain ⟨x, e1, q⟩ := oD_some h2
      obtain ⟨k, e2, rfl⟩ := Option.map_eq_some_iff.mp e1
      exact .inl ⟨_, _, i, _, rfl, rfl, hq.sqL, atI_ints e2, q.val G2 (.int k)⟩
    | _ => exact (show False from h2).elim
  | ref hn =>
    rename_i a' n
    cases e0 : g2[n]? with
    | none => simp only [DV.idx, e0] at h2; exact h2.elim
    | some o => cases o with
      | lst xs =>
        cases rv2 with
        | int i =>
          simp only [DV.idx, e0] at h2
          obtain ⟨x, e1, q⟩ := oD_some h2
          obtain ⟨vs, a1, a2⟩ := G2.lst hn e0
          obtain ⟨w, e2, r⟩ := a2.atI e1
          exact .inl ⟨_, _, i, w, rfl, rfl, SqL.of a1, e2, q.val G2 r⟩
        | _ => simp only [DV.idx, e0] at h2; exact (show False from h2).elim
      | dic kvs => cases rv2 <;> (simp only [DV.idx, e0] at h2; exact (show False from h2).elim)
      | dit kvs => cases rv2 <;> (simp only [DV.idx, e0] at h2; exact (show False from h2).elim)
      | ins c fs => cases rv2 <;> (simp only [DV.idx, e0] at h2; exact (show False from h2).elim)
  | _ => cases rv2 <;> exact (show False from h2).elim

/-! ### a[lo:hi] -/
theorem cut_eq (xs : List V) (lo hi : Option Int) : cutV xs lo hi = DV.cut xs lo hi := rfl
theorem RelDs.cut {ρ : List Addr} {H : Hp} {xs : List V} {ds : List D} (r : RelDs Z ρ H xs ds) (lo hi : Option Int) : RelDs Z ρ H (cutV xs lo hi) (DV.cut ds lo hi) := by
  rw [cut_eq]
  unfold DV.cut
  rw [r.length]
  exact (r.drop _).take _
theorem cut_whole {xs : List V} {lo hi : Option Int} (h1 : HT.sIx xs.length 0 lo = 0) (h2 : HT.sIx xs.length xs.length hi = xs.length) : cutV xs lo hi = xs := by
  unfold cutV
  rw [h1, h2]
  simp
abbrev rdO (Z : Tab) (W : WX) (f : Po) : TO := fun σ H Q => ∃ δ ρ g, RelG Z ρ H g ∧ RelS Z ρ H σ δ ∧ PostR Z ρ H (f δ g) (fun o _ H' _ => Q o H') (eX Z W σ)
theorem do_no : PO X none (rdO Z W Po.no) := ⟨fun pins s σ H Q I ⟨δ, ρ, g, G, S, h⟩ => (po_none (X := X)).run pins s σ H Q I (PostR.ok (a := Option.none) h G)⟩
theorem do_at (he : PE X e (rdE Z W fa)) : PO X (some e) (rdO Z W (Po.at fa)) := ⟨fun pins s σ H Q I ⟨δ, ρ, g, G, S, h⟩ => (po_some he).run pins s σ H Q I ⟨δ, ρ, g, G, S, (PostR.bind h).imp (fun d ρ1 H1 g1 m1 G1 h1 v rv => by
    cases rv with
    | int i => exact ⟨i, rfl, PostR.ok (a := some i) h1 G1⟩
    | _ => exact (show False from h1).elim) fun _ _ _ _ _ _ _ q => q⟩⟩
theorem de_slc {lo hi : Option Expr} {fl fh : Po} {pp : Pos} (hK : X.K = Z.K) (ha : PE X a (rdE Z W fa)) (hl : PO X lo (rdO Z W fl)) (hh : PO X hi (rdO Z W fh)) : PE X (.Subscript a (.Slice lo hi none pp) pos) (rdE Z W (Ex.slc fa fl fh)) := by
  refine PE_imp (pe_slice (SlR.or sl_list sl_tupA) ha hl hh) fun σ H Q ⟨δ, ρ, g, G, S, h⟩ => ?_
  refine ⟨δ, ρ, g, G, S, (PostR.bind h).imp (fun d ρ1 H1 g1 m1 G1 h1 v rv => ?_) fun _ _ _ _ _ _ _ q => q⟩
  refine ⟨δ, ρ1, g1, G1, S.mono m1, (PostR.bind h1).imp (fun l ρ2 H2 g2 m2 G2 h2 => ?_) fun _ _ _ _ _ _ _ q => q⟩
  refine ⟨δ, ρ2, g2, G2, (S.mono m1).mono m2, (PostR.bind h2).imp (fun u ρ3 H3 g3 m3 G3 h3 => ?_) fun _ _ _ _ _ _ _ q => q⟩
  have rv' := (rv.mono m2).mono m3
  rw [hK]
  cases rv' with
  | tup hq rs =>
    rename_i aa xs ds
    have h4 : PostR Z ρ3 H3 (.ok (.tup (DV.cut ds l u)) g3) (kV Z Q) (eX Z W σ) := h3
    refine .inr ⟨_, _, rfl, hq, fun hw => ?_, fun _ q hq' => ?_⟩
    · refine PostR.val h4 G3 (.tup (xs := xs) hq ?_)
      have r2 := rs.cut l u
      rw [cut_whole hw.1 hw.2] at r2
      exact r2
    · exact h4 ρ3 _ (Mv.new hq') (G3.same (same_new hq')) _ (.tup (SqT.of upd_same) ((rs.cut l u).mono (Mv.new hq')))
  | ref hn =>
    rename_i a' n
    cases e0 : g3[n]? with
    | none => simp only [slc, e0] at h3; exact h3.elim
    | some o => cases o with
      | lst xs =>
        simp only [slc, e0] at h3
        obtain ⟨vs, a1, a2⟩ := G3.lst hn e0
        exact .inl ⟨_, _, rfl, SqL.of a1, fun q hq' => h3 (ρ3 ++ [q]) _ (Mv.push hq') (G3.push hq' ⟨_, upd_same, (a2.cut l u).mono (Mv.push hq')⟩) _ (.ref (RelG.get_push G3.len))⟩
      | _ => simp only [slc, e0] at h3; exact (show False from h3).elim
  | _ => exact (show False from h3).elim

/-! ### isinstance -/
def tyName : Ty → String
  | .int => "int" | .bool => "bool" | .str => "str" | .tuple => "tuple" | .list => "list"
theorem kit_non (t : Ty) : kitB "NoneType" (tyName t) = some false := by cases t <;> decide +kernel
theorem kit_bool (t : Ty) : kitB "bool" (tyName t) = some (t.is .int || t.is .bool) := by cases t <;> decide +kernel
theorem kit_int (t : Ty) : kitB "int" (tyName t) = some (t.is .int) := by cases t <;> decide +kernel
theorem kit_str (t : Ty) : kitB "str" (tyName t) = some (t.is .str) := by cases t <;> decide +kernel
theorem kit_tuple (t : Ty) : kitB "tuple" (tyName t) = some (t.is .tuple) := by cases t <;> decide +kernel
theorem kit_list (t : Ty) : kitB "list" (tyName t) = some (t.is .list) := by cases t <;> decide +kernel
theorem tyx_of {ρ : List Addr} {H : Hp} {g : G} (G : RelG Z ρ H g) {v : V} {d : D} (r : RelD Z ρ H v d) : ∀ t b, isTy g t d = some b → ∃ T, TyX Z.K H v (.type T) ∧ ∀ t b, isTy g t d = some b → kitB T (tyName t) = some b := by
  intro t b h
  cases r with
  | non => exact ⟨_, .base .non, fun t b h => by rw [kit_non]; exact h⟩
  | bl k => exact ⟨_, .base (.bl k), fun t b h => by rw [kit_bool]; exact h⟩
  | int i => exact ⟨_, .base (.int i), fun t b h => by rw [kit_int]; exact h⟩
  | str s => exact ⟨_, .base (.str s), fun t b h => by rw [kit_str]; exact h⟩
  | tup hq rs =>
    refine ⟨"tuple", ?_, fun t b h => by rw [kit_tuple]; exact h⟩
    rcases hq with (hq | ⟨o, hq⟩) | ⟨o, its, n, h1, h2, _⟩
    · exact .base (.tup hq)
    · exact .fTuple hq
    · exact .kTuple h1 h2
  | rol hq =>
    refine ⟨"list", ?_, fun t b h => by rw [kit_list]; exact h⟩
    rcases hq with ⟨o, hq⟩ | ⟨o, its, n, h1, h2, _⟩
    · exact .base (.frz hq)
    · exact .kList h1 h2
  | ref hn =>
    rename_i a' n
    cases e0 : g[n]? with
    | none => simp only [isTy, e0] at h; cases h
    | some o => cases o with
      | lst xs =>
        obtain ⟨vs, a1, a2⟩ := G.lst hn e0
        exact ⟨"list", .base (.lst a1), fun t b h => by rw [kit_list]; simpa only [isTy, e0] using h⟩
      | _ => simp only [isTy, e0] at h; cases h
  | fn n => cases h
theorem de_isi (hX : XOk Z X N sc W m) (B : Blt X.mg) (t : Ty) {T : Str} (ha : PE X a (rdE Z W fa)) (hg : sc.names.lookup ("isinstance" : Str) = some .globalImplicit := by rfl) (hg2 : sc.names.lookup T = some .globalImplicit := by rfl) (hm2 : X.mg T = none) (hv : bootBuiltins T = some (.type (tyName t)) := by decide +kernel)
    (hn : T ≠ "__name__" := by decide) (hdb : (T == ("__debug__" : Str)) = false := by decide) (he : starEach (a :: [.Name T p2]) X.env = (false, eval a X.env) :: starEach [.Name T p2] X.env := by rfl) :
    PE X (.Call (.Name "isinstance" p) [a, .Name T p2] [] pos) (rdE Z W (Ex.isi fa t)) := by
  refine PE_imp (pe_callB call_isi (Gl_of hX hg) B.isinstance (by decide +kernel) (pa_cons ha (pa_cons (pe_bltn (v := .ty (tyName t)) (Gl_of hX hg2) hm2 hv rfl hn hdb) pa_nil) he) (by decide) (by decide) he) fun σ H Q ⟨δ, ρ, g, G, S, h⟩ => ?_
  refine ⟨δ, ρ, g, G, S, (PostR.bind h).imp (fun d ρ1 H1 g1 m1 G1 h1 v rv => ?_) fun _ _ _ _ _ _ _ q => q⟩
  obtain ⟨b, e1, q⟩ := liftO_some h1
  obtain ⟨T', ty, k⟩ := tyx_of G1 rv t b e1
  exact ⟨v, .ty (tyName t), .type T', .type (tyName t), b, rfl, .ty _, by rw [hX.hK]; exact ty, kit_ty (k t b e1), q.val G1 (.bl b)⟩
theorem de_isi2 (hX : XOk Z X N sc W m) (B : Blt X.mg) (t t' : Ty) {T T' : Str} {p3 p4 : Pos} {x1 : Nat} (ha : PE X a (rdE Z W fa)) (hg : sc.names.lookup ("isinstance" : Str) = some .globalImplicit := by rfl) (hg2 : sc.names.lookup T = some .globalImplicit := by rfl) (hm2 : X.mg T = none) (hg3 : sc.names.lookup T' = some .globalImplicit := by rfl) (hm3 : X.mg T' = none)
    (hv : bootBuiltins T = some (.type (tyName t)) := by decide +kernel) (hv' : bootBuiltins T' = some (.type (tyName t')) := by decide +kernel)
    (hn : T ≠ "__name__" := by decide) (hdb : (T == ("__debug__" : Str)) = false := by decide) (hn' : T' ≠ "__name__" := by decide) (hdb' : (T' == ("__debug__" : Str)) = false := by decide) (he : starEach (a :: [.Tuple [.Name T p2, .Name T' p3] x1 p4]) X.env = (false, eval a X.env) :: starEach [.Tuple [.Name T p2, .Name T' p3] x1 p4] X.env := by rfl) :
    PE X (.Call (.Name "isinstance" p) [a, .Tuple [.Name T p2, .Name T' p3] x1 p4] [] pos) (rdE Z W (Ex.isi2 fa t t')) := by
  refine PE_imp (pe_callB call_isiT (Gl_of hX hg) B.isinstance (by decide +kernel) (pa_cons ha (pa_cons (pe_tup (pa_cons (pe_bltn (v := .ty (tyName t)) (Gl_of hX hg2) hm2 hv rfl hn hdb) (pa_cons (pe_bltn (v := .ty (tyName t')) (Gl_of hX hg3) hm3 hv' rfl hn' hdb') pa_nil))) pa_nil) he) (by decide) (by decide) he) fun σ H Q ⟨δ, ρ, g, G, S, h⟩ => ?_
  refine ⟨δ, ρ, g, G, S, (PostR.bind h).imp (fun d ρ1 H1 g1 m1 G1 h1 v rv => ?_) fun _ _ _ _ _ _ _ q => q⟩
  refine ⟨by show 2 ≤ sizeLine; rw [sizeLine_eq]; decide, fun q hq => ?_⟩
  obtain ⟨b, e1, h2⟩ := liftO_some h1
  obtain ⟨b1, e2, e3⟩ := Option.bind_eq_some_iff.mp e1
  obtain ⟨b2, e4, e5⟩ := Option.map_eq_some_iff.mp e3
  have G2 := G1.same (same_new (o := .tup [V.ty (tyName t), V.ty (tyName t')]) hq)
  have m2 : Mv ρ1 H1 ρ1 (upd H1 q (.tup [V.ty (tyName t), V.ty (tyName t')])) := Mv.new hq
  obtain ⟨T', ty, k⟩ := tyx_of G2 (rv.mono m2) t b1 e2
  have z1 := k t b1 e2
  have z2 := k t' b2 e4
  subst e5
  refine ⟨v, q, [.ty (tyName t), .ty (tyName t')], .type T', [.type (tyName t), .type (tyName t')], b1 || b2, rfl, upd_same, .cons (.ty _) (.cons (.ty _) .nil), by rw [hX.hK]; exact ty, ?_, PostR.val (PostR.mv m2 h2) G2 (.bl _)⟩
  refine kitAny_cons (kit_ty z1) (fun hb => ?_) (fun hb => by rw [hb]; rfl)
  rw [hb]
  exact kitAny_cons (kit_ty z2) (fun hb2 => by rw [hb2]; exact kitAny_nil) (fun hb2 => by rw [hb2]; rfl)
end
end DV
end
section
set_option Elab.async false
set_option linter.all false
set_option maxRecDepth 100000
namespace DV
open PySem PySem.Spec PyProof.Rows L2
section
variable {Z : Tab} {X : Cx} {W : WX} {N : List Str} {sc : Scope} {m : Nat} {a b c e : Expr} {es : List Expr} {fa fb fc fe : Ex} {fs : Exs} {pos p p2 : Pos} {st : Stmt} {sts sts2 : List Stmt} {tc : Te} {s1 s2 : Sm}

/-! ### the readings of statements move on -/
theorem PostS.mv {D : Ends} {ρ ρ' : List Addr} {H H' : Hp} {r : RS} (m : Mv ρ H ρ' H') (h : PostS Z W D ρ H r) : PostS Z W D ρ' H' r := by
  cases r with
  | ok f g => cases f <;> exact fun ρ2 H2 x m2 => h ρ2 H2 x (m.trans m2)
  | exc c x δ g => exact fun ρ2 H2 σ cls dd m2 => h ρ2 H2 σ cls dd (m.trans m2)
  | stuck => exact h
theorem PostS.thenS {α : Type} {D : Ends} {ρ : List Addr} {H : Hp} {σ : L2.St} {δ : Env} {r : R α} {f : α → G → RS} (S : RelS Z ρ H σ δ) (h : PostS Z W D ρ H (r.thenS δ f)) : PostR Z ρ H r (fun a ρ1 H1 g1 => PostS Z W D ρ1 H1 (f a g1)) (eX Z W σ) := by
  cases r with
  | ok a g => exact fun ρ1 H1 m _ => PostS.mv m (show PostS Z W D ρ H (f a g) from h)
  | exc c x g => exact fun ρ1 H1 m G cls dd rx => (show PostS Z W D ρ H (.exc c x δ g) from h) ρ1 H1 σ cls dd m G (S.mono m) rx
  | stuck => exact h
theorem PostS.nx {D : Ends} {ρ : List Addr} {H : Hp} {σ : L2.St} {δ : Env} {g : G} (h : PostS Z W D ρ H (.ok (.nx δ) g)) (G : RelG Z ρ H g) (S : RelS Z ρ H σ δ) : D.nx σ H := h ρ H σ (.refl ρ H) G S
theorem PostR.hushE {α : Type} {ρ : List Addr} {H : Hp} {r : R α} {k : α → List Addr → Hp → G → Prop} {e e' : Nat → D → List Addr → Hp → G → Prop} (h : PostR Z ρ H (R.hush r) k e) : PostR Z ρ H r k e' := by
  cases r with
  | ok a g => exact h
  | exc c x g => exact (show False from h).elim
  | stuck => exact h
abbrev eF : Nat → D → List Addr → Hp → G → Prop := fun _ _ _ _ _ => False
theorem PostR.eF_to {α : Type} {ρ : List Addr} {H : Hp} {r : R α} {k : α → List Addr → Hp → G → Prop} {e : Nat → D → List Addr → Hp → G → Prop} (h : PostR Z ρ H r k eF) : PostR Z ρ H r k e := h.imp (fun _ _ _ _ _ _ q => q) fun _ _ _ _ _ _ _ q => q.elim

/-! ### statements -/
theorem ds_nil : PSs X [] (rdS Z W Sm.skip) := PSs_imp pss_nil fun D σ H ⟨δ, ρ, g, G, S, h⟩ => PostS.nx (Z := Z) (W := W) h G S
theorem ds_cons (h1 : PS X st (rdS Z W s1)) (h2 : PSs X sts (rdS Z W s2)) : PSs X (st :: sts) (rdS Z W (Sm.seq s1 s2)) := by
  refine PSs_imp (pss_cons h1 h2) fun D σ H ⟨δ, ρ, g, G, S, h⟩ => ⟨δ, ρ, g, G, S, ?_⟩
  unfold Sm.seq at h
  cases q : s1 δ g with
  | ok f g' =>
    rw [q] at h
    cases f with
    | nx δ' => exact fun ρ1 H1 σ1 m1 G1 S1 => ⟨δ', ρ1, g', G1, S1, PostS.mv m1 h⟩
    | _ => exact h
  | exc c x δ' g' => rw [q] at h; exact h
  | stuck => rw [q] at h; exact h
theorem ds_one (h1 : PS X st (rdS Z W s1)) : PSs X [st] (rdS Z W s1) := pss_one h1
theorem ds_pass : PS X (.Pass pos) (rdS Z W Sm.skip) := PS_imp ps_pass fun D σ H ⟨δ, ρ, g, G, S, h⟩ => PostS.nx (Z := Z) (W := W) h G S
theorem ds_doc {x j pos'} : PS X (.Expr (.Constant (.str x) j pos) pos') (rdS Z W Sm.skip) := PS_imp ps_doc fun D σ H ⟨δ, ρ, g, G, S, h⟩ => PostS.nx (Z := Z) (W := W) h G S
theorem ds_brk : PS X (.Break pos) (rdS Z W Sm.brk) := PS_imp ps_break fun D σ H ⟨δ, ρ, g, G, S, h⟩ => (show PostS Z W D ρ H (.ok (.bk δ) g) from h) ρ H σ (.refl ρ H) G S
theorem ds_cnt : PS X (.Continue pos) (rdS Z W Sm.cnt) := PS_imp ps_continue fun D σ H ⟨δ, ρ, g, G, S, h⟩ => (show PostS Z W D ρ H (.ok (.ct δ) g) from h) ρ H σ (.refl ρ H) G S
theorem ds_ex (he : PE X e (rdE Z W fe)) (hs : swapsWith e none pos.line X.env = pure false := by rfl) : PS X (.Expr e pos) (rdS Z W (Sm.ex fe)) := by
  refine PS_imp (ps_expr he hs) fun D σ H ⟨δ, ρ, g, G, S, h⟩ => ⟨δ, ρ, g, G, S, (PostS.thenS S h).imp (fun d ρ1 H1 g1 m1 G1 h1 v rv => ?_) fun _ _ _ _ _ _ _ q => q⟩
  exact PostS.nx h1 G1 (S.mono m1)
theorem ds_ret (he : PE X e (rdE Z W fe)) : PS X (.Return (some e) pos) (rdS Z W (Sm.ret fe)) := by
  refine PS_imp (ps_ret he) fun D σ H ⟨δ, ρ, g, G, S, h⟩ => ⟨δ, ρ, g, G, S, (PostS.thenS S h).imp (fun d ρ1 H1 g1 m1 G1 h1 v rv => ?_) fun _ _ _ _ _ _ _ q => q⟩
  exact (show PostS Z W D ρ1 H1 (.ok (.rt d) g1) from h1) ρ1 H1 v (.refl ρ1 H1) G1 rv
theorem ds_retN : PS X (.Return none pos) (rdS Z W (Sm.ret (Ex.cst .non))) := by
  refine PS_imp ps_retN fun D σ H ⟨δ, ρ, g, G, S, h⟩ => ?_
  exact (show PostS Z W D ρ H (.ok (.rt .non) g) from h) ρ H .non (.refl ρ H) G .non
theorem ds_if (hc : PT X c (rdT Z W tc)) (ha : PSs X sts (rdS Z W s1)) (hb : PSs X sts2 (rdS Z W s2)) : PS X (.If c sts sts2 pos) (rdS Z W (Sm.ite tc s1 s2)) := by
  refine PS_imp (ps_if hc ha hb) fun D σ H ⟨δ, ρ, g, G, S, h⟩ => ⟨δ, ρ, g, G, S, (PostS.thenS S h).imp (fun d ρ1 H1 g1 m1 G1 h1 => ?_) fun _ _ _ _ _ _ _ q => q⟩
  show if d = true then _ else _
  cases d with
  | true => exact ⟨δ, ρ1, g1, G1, S.mono m1, h1⟩
  | false => exact ⟨δ, ρ1, g1, G1, S.mono m1, h1⟩

/-! ### targets -/
/-- only these slots are written -/
def OnlyAt (ws : List Nat) (σ σ' : L2.St) : Prop := ∀ vs : List Nat, (∀ i ∈ ws, i ∈ vs) → L2.wipe σ' vs = L2.wipe σ vs
def rdG (Z : Tab) (ws : List Nat) (t : Tg) : TG := fun v σ H Q => ∃ d δ ρ g, RelG Z ρ H g ∧ RelS Z ρ H σ δ ∧ RelD Z ρ H v d ∧ PostR Z ρ H (t d δ g) (fun δ' ρ' H' _ => ∀ σ', RelS Z ρ' H' σ' δ' → OnlyAt ws σ σ' → Q σ' H') eF
def rdGs (Z : Tab) (ws : List Nat) (t : Tgs) : TGs := fun vs σ H Q => ∃ ds δ ρ g, RelG Z ρ H g ∧ RelS Z ρ H σ δ ∧ RelDs Z ρ H vs ds ∧ PostR Z ρ H (t ds δ g) (fun δ' ρ' H' _ => ∀ σ', RelS Z ρ' H' σ' δ' → OnlyAt ws σ σ' → Q σ' H') eF
theorem wipe_get (σ : L2.St) (j : Nat) : ∀ vs : List Nat, (L2.wipe σ vs)[j]? = if j ∈ vs then σ[j]?.map (fun _ => none) else σ[j]?
  | [] => by simp [L2.wipe]
  | v :: vs => by
    have ih := wipe_get σ j vs
    unfold L2.wipe
    by_cases h : v = j
    · subst h
      rw [if_pos List.mem_cons_self]
      by_cases hl : v < σ.length
      · rw [List.getElem?_set_self (by rw [L2.wipe_length]; exact hl), List.getElem?_eq_getElem hl]; rfl
      · rw [List.getElem?_eq_none (by rw [List.length_set, L2.wipe_length]; omega), List.getElem?_eq_none (by omega)]; rfl
    · rw [List.getElem?_set_ne h, ih]
      by_cases k : j ∈ vs
      · rw [if_pos k, if_pos (List.mem_cons_of_mem _ k)]
      · rw [if_neg k, if_neg (fun z => by rcases List.mem_cons.mp z with z | z; exact h z.symm; exact k z)]
theorem OnlyAt.refl {ws : List Nat} {σ : L2.St} : OnlyAt ws σ σ := fun _ _ => rfl
theorem OnlyAt.set {σ : L2.St} (i : Nat) (v : Option V) : OnlyAt [i] σ (σ.set i v) := by
  intro vs h
  have hi := h i List.mem_cons_self
  refine List.ext_getElem? fun j => ?_
  rw [wipe_get, wipe_get]
  by_cases k : j ∈ vs
  · rw [if_pos k, if_pos k]
    by_cases e : i = j
    · subst e
      by_cases hl : i < σ.length
      · rw [List.getElem?_set_self hl, List.getElem?_eq_getElem hl]; rfl
      · rw [List.getElem?_eq_none (by simpa using hl), List.getElem?_eq_none (by simpa using hl)]
    · rw [List.getElem?_set_ne e]
  · rw [if_neg k, if_neg k, List.getElem?_set_ne (fun e => k (by rw [← e]; exact hi))]
theorem OnlyAt.comp {ws us : List Nat} {σ σ1 σ2 : L2.St} (a : OnlyAt ws σ σ1) (b : OnlyAt us σ1 σ2) : OnlyAt (ws ++ us) σ σ2 := fun vs h => (b vs fun i hi => h i (List.mem_append_right _ hi)).trans (a vs fun i hi => h i (List.mem_append_left _ hi))
theorem PG_imp {X : Cx} {e : Expr} {t t' : TG} (h : PG X e t) (f : ∀ v σ H Q, t' v σ H Q → t v σ H Q) : PG X e t' := ⟨fun pins s σ H v u Q I r q => h.run pins s σ H v u Q I r (f v σ H Q q)⟩
theorem PGs_imp {X : Cx} {e : List Expr} {t t' : TGs} (h : PGs X e t) (f : ∀ v σ H Q, t' v σ H Q → t v σ H Q) : PGs X e t' := ⟨fun pins s σ H v u Q I r q => h.run pins s σ H v u Q I r (f v σ H Q q)⟩
variable {t : Tg} {u : Tgs} {ws us : List Nat} {eu : List Expr} {i : Nat} {x : Str}
theorem dg_name (hX : XOk Z X N sc W m) (i : Nat) {x : Str} (hi : N[i]? = some x := by rfl) (hx : Loc sc x := by first | exact Or.inl rfl | exact Or.inr rfl) (hf : X.fn x = true ∨ sc.names.lookup x = some .local := by first | exact Or.inr rfl | exact Or.inl rfl) : PG X (.Name x pos) (rdG Z [i] (Tg.name i)) := by
  refine PG_imp (pg_name (i := i) (by rw [hX.hN]; exact hX.nd) (by rw [hX.hN]; exact hi) (by rw [hX.sc]; exact hx) (by rw [hX.sc]; exact hf)) fun v σ H Q ⟨d, δ, ρ, g, G, S, r, h⟩ => ?_
  exact (PostR.ok (a := δ.set i (some d)) h G) _ (S.set i r) (.set i _)
theorem dgs_nil : PGs X [] (rdGs Z [] tgNil) := PGs_imp pgs_nil fun vs σ H Q ⟨ds, δ, ρ, g, G, S, r, h⟩ => by
  cases r with
  | nil => exact ⟨rfl, (PostR.ok (a := δ) h G) σ S .refl⟩
  | cons => exact (show False from h).elim
theorem dgs_cons {e : Expr} {es : List Expr} (h1 : PG X e (rdG Z ws t)) (h2 : PGs X es (rdGs Z us u)) (hs : (assignEach (e :: es) X.env).map (·.2) = assign e X.env :: (assignEach es X.env).map (·.2) := by rfl) : PGs X (e :: es) (rdGs Z (ws ++ us) (tgCons t u)) := by
  refine PGs_imp (pgs_cons h1 h2 hs) fun vs σ H Q ⟨ds, δ, ρ, g, G, S, r, h⟩ => ?_
  cases r with
  | nil => exact (show False from h).elim
  | cons rv rr =>
    refine ⟨_, _, rfl, _, δ, ρ, g, G, S, rv, (PostR.bind h).imp (fun δ1 ρ1 H1 g1 m1 G1 h1 σ1 S1 l1 => ?_) fun _ _ _ _ _ _ _ q => q⟩
    exact ⟨_, δ1, ρ1, g1, G1, S1, rr.mono m1, h1.imp (fun δ2 ρ2 H2 g2 m2 G2 h2 σ2 S2 l2 => h2 σ2 S2 (l1.comp l2)) fun _ _ _ _ _ _ _ q => q⟩
theorem dg_tup {k n : Nat} (hX : XOk Z X N sc W m) (h : PGs X eu (rdGs Z ws u)) (hn : (assignEach eu X.env).length = n := by rfl) (hst : (assignEach eu X.env).findIdx? (·.1) = none := by rfl) : PG X (.Tuple eu k pos) (rdG Z ws (Tg.tup n u)) := by
  refine PG_imp (pg_tup hX.calm h hn hst) fun v σ H Q ⟨d, δ, ρ, g, G, S, r, h⟩ => ?_
  cases r with
  | tup hq rs =>
    simp only [Tg.tup] at h
    split at h
    · rename_i hl
      exact ⟨_, _, rfl, by rw [hX.hK]; exact hq, by rw [rs.length]; exact hl, _, δ, ρ, g, G, S, rs, h⟩
    · exact h.elim
  | _ => exact (show False from h).elim
/-- target = e -/
theorem ds_asg {tg : Expr} (he : PE X e (rdE Z W fe)) (hg : PG X tg (rdG Z ws t)) (hs : swapsWithSole [tg] e pos.line X.env = pure false := by rfl) (hw : swappedStores [tg] e X.env = pure none := by rfl)
    (h1 : (assignEach [tg] X.env).map (·.2) = [assign tg X.env] := by rfl) : PS X (.Assign [tg] e pos) (rdS Z W (Sm.asg t fe)) := by
  refine PS_imp (ps_asg he hg hs hw h1) fun D σ H ⟨δ, ρ, g, G, S, h⟩ => ⟨δ, ρ, g, G, S, (PostS.thenS S h).imp (fun d ρ1 H1 g1 m1 G1 h1 v rv => ?_) fun _ _ _ _ _ _ _ q => q⟩
  refine ⟨d, δ, ρ1, g1, G1, S.mono m1, rv, (PostR.hushE (PostS.thenS (S.mono m1) h1)).imp (fun δ2 ρ2 H2 g2 m2 G2 h2 σ2 S2 _ => PostS.nx h2 G2 S2) fun _ _ _ _ _ _ _ q => q⟩
theorem ds_set (hX : XOk Z X N sc W m) (i : Nat) {x : Str} {pos' : Pos} (he : PE X e (rdE Z W fe)) (hi : N[i]? = some x := by rfl) (hx : Loc sc x := by first | exact Or.inl rfl | exact Or.inr rfl) (hs : swapsWith e (some (.Name x pos')) pos.line X.env = pure false := by rfl) (hf : X.fn x = true ∨ sc.names.lookup x = some .local := by first | exact Or.inr rfl | exact Or.inl rfl) :
    PS X (.Assign [.Name x pos'] e pos) (rdS Z W (Sm.asg (Tg.name i) fe)) := by
  refine PS_imp (ps_set (i := i) (by rw [hX.hN]; exact hX.nd) (by rw [hX.hN]; exact hi) (by rw [hX.sc]; exact hx) he hs (by rw [hX.sc]; exact hf)) fun D σ H ⟨δ, ρ, g, G, S, h⟩ => ⟨δ, ρ, g, G, S, (PostS.thenS S h).imp (fun d ρ1 H1 g1 m1 G1 h1 v rv => ?_) fun _ _ _ _ _ _ _ q => q⟩
  exact PostS.nx (δ := δ.set i (some d)) h1 G1 ((S.mono m1).set i rv)
theorem ds_par {x y : Str} {px py pt : Pos} {kt k2 pt2} (hX : XOk Z X N sc W m) (i j : Nat) (ha : PE X a (rdE Z W fa)) (hb : PE X b (rdE Z W fb)) (hw : swappedStores [.Tuple [.Name x px, .Name y py] kt pt] (.Tuple [a, b] k2 pt2) X.env = pure (some [x, y])) (hi : N[i]? = some x := by rfl) (hj : N[j]? = some y := by rfl) (hij : i ≠ j := by decide)
    (hx : sc.names.lookup x = some .local := by rfl) (hy : sc.names.lookup y = some .local := by rfl) (hea : starEach [a, b] X.env = (false, eval a X.env) :: starEach [b] X.env := by rfl) (heb : starEach [b] X.env = (false, eval b X.env) :: starEach [] X.env := by rfl)
    (hs : swapsWithSole [.Tuple [.Name x px, .Name y py] kt pt] (.Tuple [a, b] k2 pt2) pos.line X.env = pure false := by rfl) :
    PS X (.Assign [.Tuple [.Name x px, .Name y py] kt pt] (.Tuple [a, b] k2 pt2) pos) (rdS Z W (Sm.par i j fa fb)) := by
  refine PS_imp (ps_par hX.calm (by rw [hX.hN]; exact hX.nd) (by rw [hX.hN]; exact hi) (by rw [hX.hN]; exact hj) hij (by rw [hX.sc]; exact hx) (by rw [hX.sc]; exact hy) (pa_cons ha (pa_cons hb pa_nil heb) hea) hw hs) fun D σ H ⟨δ, ρ, g, G, S, h⟩ => ?_
  refine ⟨δ, ρ, g, G, S, (PostS.thenS S h).imp (fun d ρ1 H1 g1 m1 G1 h1 v rv => ?_) fun _ _ _ _ _ _ _ q => q⟩
  refine ⟨δ, ρ1, g1, G1, S.mono m1, (PostS.thenS (S.mono m1) h1).imp (fun d2 ρ2 H2 g2 m2 G2 h2 v2 rv2 => ?_) fun _ _ _ _ _ _ _ q => q⟩
  exact ⟨v, v2, rfl, PostS.nx (δ := (δ.set i (some d)).set j (some d2)) h2 G2 ((((S.mono m1).mono m2).set i (rv.mono m2)).set j rv2)⟩

/-! ### what a loop walks -/
def ItR (Z : Tab) (ρ0 : List Addr) (H0 : Hp) (J : L2.It) (t : DV.It) : Prop := ∀ (ρ : List Addr) (H : Hp) (g : G) (i : Nat), Mv ρ0 H0 ρ H → RelG Z ρ H g → match t.at i g with
  | none => True
  | some none => J.stop i H
  | some (some d) => J.go i H ∧ ∀ x H', J.yld i H x H' → ∃ ρ', Mv ρ H ρ' H' ∧ RelG Z ρ' H' g ∧ RelD Z ρ' H' x d
theorem ItR.mv {ρ ρ' : List Addr} {H H' : Hp} {J : L2.It} {t : DV.It} (m : Mv ρ H ρ' H') (h : ItR Z ρ H J t) : ItR Z ρ' H' J t := fun ρ2 H2 g i m2 G => h ρ2 H2 g i (m.trans m2) G
def rdI (Z : Tab) (W : WX) (f : Ie) : TI := fun σ H R => ∃ δ ρ g, RelG Z ρ H g ∧ RelS Z ρ H σ δ ∧ PostR Z ρ H (f δ g) (fun t ρ' H' _ => ∀ J, ItR Z ρ' H' J t → R J H') (eX Z W σ)
theorem PI_imp {X : Cx} {tg e : Expr} {t t' : TI} (h : PI X tg e t) (f : ∀ σ H Q, t' σ H Q → t σ H Q) : PI X tg e t' := ⟨fun pins s σ H R I q => h.run pins s σ H R I (f σ H R q)⟩
/-- a list or a tuple -/
def iSeq (K : PySem.W.Frag) (tl : TE) : TI := fun σ H R => tl σ H fun x H1 => ∃ a, x = .ref a ∧ (((∃ xs, SqL K H1 a xs) ∧ R (Itl K a) H1) ∨ ((∃ xs, SqT K H1 a xs) ∧ R (Itt K a) H1))
theorem pi_seq {tg l : Expr} {tl : TE} (hl : PE X l tl) : PI X tg l (iSeq X.K tl) := by
  refine ⟨fun pins s σ H R I h => ?_⟩
  refine thn (hl.run pins s σ H _ I h) fun v s1 ⟨x, H1, I1, r1, q1⟩ => ?_
  obtain ⟨a, e, (⟨⟨xs, hq⟩, q⟩ | ⟨⟨xs, hq⟩, q⟩)⟩ := q1
  · subst e
    cases r1
    obtain ⟨its, rv, p, hz⟩ := I1.list hq
    refine wpAny_pyIter_list p.isList ?_
    refine ⟨s1.heap.objs.size, [s1.heap.objs.size], _, _, H1, rfl, I1.kept (t' := s1.toks) fun b o e => Heap.get?_push_of_some _ e, turn_list a _, ⟨_, Heap.get?_push_size _ rfl, rfl, rfl⟩, fun b hb => ?_, q⟩
    have e : b = s1.heap.objs.size := by simpa using hb
    subst e
    exact I1.fpOk (Nat.le_refl _) (I1.hok.fresh (Nat.le_refl _))
  · subst e
    cases r1
    obtain ⟨its, rv, p, hz⟩ := I1.tuple hq
    refine wpAny_pyIter_tuple (show s1.heap.IsTuple a its.toArray from p) ?_
    refine ⟨s1.heap.objs.size, [s1.heap.objs.size], _, _, H1, rfl, I1.kept (t' := s1.toks) fun b o e => Heap.get?_push_of_some _ e, turn_tuple a _, ⟨_, Heap.get?_push_size _ rfl, rfl, rfl⟩, fun b hb => ?_, q⟩
    have e : b = s1.heap.objs.size := by simpa using hb
    subst e
    exact I1.fpOk (Nat.le_refl _) (I1.hok.fresh (Nat.le_refl _))
theorem itR_tup {ρ : List Addr} {H : Hp} {a : Addr} {xs : List V} {ds : List D} (hq : SqT Z.K H a xs) (rs : RelDs Z ρ H xs ds) : ItR Z ρ H (Itt Z.K a) (.seq ds) := by
  intro ρ1 H1 g i m G
  have hq' := m.ext.sqT hq
  have rs' := rs.mono m
  show match some ds[i]? with
    | none => True
    | some none => _
    | some (some d) => _
  cases e : ds[i]? with
  | none => exact ⟨xs, hq', by rw [rs.length]; exact List.getElem?_eq_none_iff.mp e⟩
  | some d =>
    obtain ⟨x, h1, h2⟩ := rs'.get e
    refine ⟨⟨xs, x, hq', h1⟩, fun y H' ⟨e1, e2⟩ => ?_⟩
    subst e1
    have := e2 xs hq'
    rw [h1] at this
    cases this
    exact ⟨ρ1, .refl _ _, G, h2⟩
theorem itR_rol {ρ : List Addr} {H : Hp} {a : Addr} {ns : List Int} (hq : Rol Z.K H a ns) : ItR Z ρ H (Itl Z.K a) (.seq (ns.map .int)) := by
  intro ρ1 H1 g i m G
  have hq' := (m.ext.rol hq).sqL
  show match some (ns.map D.int)[i]? with
    | none => True
    | some none => _
    | some (some d) => _
  rw [List.getElem?_map]
  cases e : ns[i]? with
  | none => exact ⟨_, hq', by simpa using List.getElem?_eq_none_iff.mp e⟩
  | some n =>
    refine ⟨⟨_, .int n, hq', by rw [List.getElem?_map, e]; rfl⟩, fun y H' ⟨e1, e2⟩ => ?_⟩
    subst e1
    have := e2 _ hq'
    rw [List.getElem?_map, e] at this
    cases this
    exact ⟨ρ1, .refl _ _, G, .int n⟩
theorem itR_lst {ρ : List Addr} {H : Hp} {a : Addr} {n : Nat} (hn : ρ[n]? = some a) : ItR Z ρ H (Itl Z.K a) (.lst n) := by
  intro ρ1 H1 g i m G
  have hn' := m.get hn
  show match (match g[n]? with
    | some (.lst xs) => some xs[i]?
    | _ => none) with
    | none => True
    | some none => _
    | some (some d) => _
  cases e0 : g[n]? with
  | none => trivial
  | some o => cases o with
    | lst xs =>
      obtain ⟨vs, a1, a2⟩ := G.lst hn' e0
      cases e : xs[i]? with
      | none =>
        simp only [e]
        exact ⟨vs, SqL.of a1, by rw [a2.length]; exact List.getElem?_eq_none_iff.mp e⟩
      | some d =>
        simp only [e]
        obtain ⟨x, h1, h2⟩ := a2.get e
        refine ⟨⟨vs, x, SqL.of a1, h1⟩, fun y H' ⟨e1, e2⟩ => ?_⟩
        subst e1
        have := e2 vs (SqL.of a1)
        rw [h1] at this
        cases this
        exact ⟨ρ1, .refl _ _, G, h2⟩
    | _ => trivial
theorem rangeD_get (lo hi : Int) (i : Nat) : (rangeD lo hi)[i]? = if i < (hi - lo).toNat then some (.int (lo + (i : Nat))) else none := by
  unfold rangeD
  rw [List.getElem?_map]
  by_cases h : i < (hi - lo).toNat
  · rw [List.getElem?_range h, if_pos h]; rfl
  · rw [if_neg h, List.getElem?_eq_none (by simpa using h)]; rfl
theorem itR_rng {ρ : List Addr} {H : Hp} (lo hi : Int) : ItR Z ρ H (Itr lo (hi - lo).toNat) (.seq (rangeD lo hi)) := by
  intro ρ1 H1 g i m G
  show match some (rangeD lo hi)[i]? with
    | none => True
    | some none => _
    | some (some d) => _
  rw [rangeD_get]
  by_cases h : i < (hi - lo).toNat
  · rw [if_pos h]
    refine ⟨h, fun y H' ⟨e1, e2⟩ => ?_⟩
    subst e1 e2
    exact ⟨ρ1, .refl _ _, G, .int _⟩
  · rw [if_neg h]
    exact Nat.le_of_not_lt h
theorem itR_rngDown {ρ : List Addr} {H : Hp} {J : L2.It} {lo hi : Int} (hJ : ∀ i H, (i < (lo - hi).toNat → J.go i H) ∧ (¬ i < (lo - hi).toNat → J.stop i H) ∧ ∀ x H', J.yld i H x H' → H' = H ∧ x = .int (lo - (i : Nat))) :
    ItR Z ρ H J (.seq ((List.range (lo - hi).toNat).map fun k => .int (lo - (k : Nat)))) := by
  intro ρ1 H1 g i m G
  show match some ((List.range (lo - hi).toNat).map fun k => D.int (lo - (k : Nat)))[i]? with
    | none => True
    | some none => _
    | some (some d) => _
  rw [List.getElem?_map]
  by_cases h : i < (lo - hi).toNat
  · rw [List.getElem?_range h]
    refine ⟨(hJ i H1).1 h, fun y H' q => ?_⟩
    obtain ⟨e1, e2⟩ := (hJ i H1).2.2 y H' q
    subst e1 e2
    exact ⟨ρ1, .refl _ _, G, .int _⟩
  · rw [List.getElem?_eq_none (by simpa using h)]
    exact (hJ i H1).2.1 h
theorem di_of {tg : Expr} (hK : X.K = Z.K) (hl : PE X e (rdE Z W fe)) : PI X tg e (rdI Z W (Ie.of fe)) := by
  refine PI_imp (pi_seq hl) fun σ H R ⟨δ, ρ, g, G, S, h⟩ => ⟨δ, ρ, g, G, S, (PostR.bind h).imp (fun d ρ1 H1 g1 m1 G1 h1 v rv => ?_) fun _ _ _ _ _ _ _ q => q⟩
  rw [hK]
  cases rv with
  | tup hq rs => exact ⟨_, rfl, .inr ⟨⟨_, hq⟩, (PostR.ok (a := DV.It.seq _) h1 G1) _ (itR_tup hq rs)⟩⟩
  | rol hq => exact ⟨_, rfl, .inl ⟨⟨_, hq.sqL⟩, (PostR.ok (a := DV.It.seq _) h1 G1) _ (itR_rol hq)⟩⟩
  | ref hn =>
    rename_i a n
    cases e0 : g1[n]? with
    | none => simp only [walkOf, e0] at h1; exact h1.elim
    | some o => cases o with
      | lst xs =>
        simp only [walkOf, e0] at h1
        obtain ⟨vs, a1, a2⟩ := G1.lst hn e0
        exact ⟨_, rfl, .inl ⟨⟨_, SqL.of a1⟩, (PostR.ok (a := DV.It.lst n) h1 G1) _ (itR_lst hn)⟩⟩
      | dic kvs => simp only [walkOf, e0] at h1; exact h1.elim
      | dit kvs => simp only [walkOf, e0] at h1; exact h1.elim
      | ins c fs => simp only [walkOf, e0] at h1; exact h1.elim
  | _ => exact (show False from h1).elim
end
end DV
end
section
set_option Elab.async false
set_option linter.all false
set_option maxRecDepth 100000
namespace DV
open PySem PySem.Spec PyProof.Rows L2 RZ
section
variable {Z : Tab} {X : Cx} {W : WX} {N : List Str} {sc : Scope} {m : Nat} {a b c e : Expr} {es : List Expr} {fa fb fc fe : Ex} {fs : Exs} {pos p p2 : Pos} {st : Stmt} {sts sts2 : List Stmt} {tc : Te} {s1 s2 : Sm} {t : Tg} {u : Tgs} {ws : List Nat} {tg : Expr} {fi : Ie}

theorem di_range1 (hX : XOk Z X N sc W m) (B : Blt X.mg) (ha : PE X a (rdE Z W fa)) (hg : sc.names.lookup ("range" : Str) = some .globalImplicit := by rfl) (hs : starEach [a] X.env = (false, eval a X.env) :: starEach [] X.env := by rfl) (hs2 : starEach [a] X.env = [(false, eval a X.env)] := by rfl) : PI X tg (.Call (.Name "range" p) [a] [] pos) (rdI Z W (Ie.range1 fa)) := by
  refine PI_imp (pi_range1 (Gl_of hX hg) B.range (pa_cons ha pa_nil hs) hs2) fun σ H R ⟨δ, ρ, g, G, S, h⟩ => ⟨δ, ρ, g, G, S, (PostR.bind h).imp (fun d ρ1 H1 g1 m1 G1 h1 v rv => ?_) fun _ _ _ _ _ _ _ q => q⟩
  cases rv with
  | int j =>
    simp only at h1
    split at h1
    · rename_i hj
      have e : (j - 0).toNat = j.toNat := by rw [Int.sub_zero]
      refine ⟨j, rfl, by omega, by omega, (PostR.ok (a := DV.It.seq (rangeD 0 j)) h1 G1) _ ?_⟩
      have q := itR_rng (Z := Z) (ρ := ρ1) (H := H1) 0 j
      rw [e] at q
      exact q
    · exact h1.elim
  | _ => exact (show False from h1).elim
theorem di_range2 (hX : XOk Z X N sc W m) (B : Blt X.mg) (ha : PE X a (rdE Z W fa)) (hb : PE X b (rdE Z W fb)) (hg : sc.names.lookup ("range" : Str) = some .globalImplicit := by rfl) (hs : starEach [a, b] X.env = (false, eval a X.env) :: starEach [b] X.env := by rfl) (hs2 : starEach [b] X.env = (false, eval b X.env) :: starEach [] X.env := by rfl) (hs3 : starEach [a, b] X.env = [(false, eval a X.env), (false, eval b X.env)] := by rfl) (hs4 : starEach [b] X.env = [(false, eval b X.env)] := by rfl) : PI X tg (.Call (.Name "range" p) [a, b] [] pos) (rdI Z W (Ie.range2 fa fb)) := by
  refine PI_imp (pi_range2 (Gl_of hX hg) B.range (pa_cons ha (pa_cons hb pa_nil hs2) hs) hs3 hs4) fun σ H R ⟨δ, ρ, g, G, S, h⟩ => ⟨δ, ρ, g, G, S, (PostR.bind h).imp (fun d ρ1 H1 g1 m1 G1 h1 v rv => ?_) fun _ _ _ _ _ _ _ q => q⟩
  refine ⟨δ, ρ1, g1, G1, S.mono m1, (PostR.bind h1).imp (fun d2 ρ2 H2 g2 m2 G2 h2 v2 rv2 => ?_) fun _ _ _ _ _ _ _ q => q⟩
  cases rv with
  | int i => cases rv2 with
    | int j =>
      simp only at h2
      split at h2
      · rename_i hj
        exact ⟨i, j, rfl, ⟨by omega, by omega, by omega, by omega⟩, (PostR.ok (a := DV.It.seq (rangeD i j)) h2 G2) _ (itR_rng i j)⟩
      · exact h2.elim
    | _ => exact (show False from h2).elim
  | _ => cases rv2 <;> exact (show False from h2).elim

/-! ### zip -/
theorem zip_at (t u : DV.It) (i : Nat) (g : G) : (DV.It.zip t u).at i g = match t.at i g, u.at i g with
    | some (some x), some (some y) => some (some (.tup [x, y]))
    | some _, some _ => some none
    | _, _ => none := rfl
theorem itR_zipL {ρ : List Addr} {H : Hp} {a b : Addr} {t u : DV.It} (h1 : ItR Z ρ H (Itl Z.K a) t) (h2 : ItR Z ρ H (Itl Z.K b) u) : ItR Z ρ H (Itz Z.K a b) (.zip t u) := by
  intro ρ1 H1 g i m G
  have q1 := h1 ρ1 H1 g i m G
  have q2 := h2 ρ1 H1 g i m G
  rw [zip_at]
  cases e1 : t.at i g with
  | none => trivial
  | some o1 =>
    rw [e1] at q1
    cases e2 : u.at i g with
    | none => cases o1 <;> trivial
    | some o2 =>
      rw [e2] at q2
      cases o1 with
      | none =>
        obtain ⟨xs, k1, k2⟩ := q1
        cases o2 with
        | none =>
          obtain ⟨ys, l1, l2⟩ := q2
          exact ⟨xs, ys, k1, l1, .inl k2⟩
        | some y =>
          obtain ⟨⟨ys, y', l1, l2⟩, _⟩ := q2
          exact ⟨xs, ys, k1, l1, .inl k2⟩
      | some x =>
        obtain ⟨⟨xs, x', k1, k2⟩, k3⟩ := q1
        cases o2 with
        | none =>
          obtain ⟨ys, l1, l2⟩ := q2
          exact ⟨xs, ys, k1, l1, .inr l2⟩
        | some y =>
          obtain ⟨⟨ys, y', l1, l2⟩, l3⟩ := q2
          refine ⟨⟨xs, ys, x', y', k1, l1, k2, l2⟩, fun v H' ⟨T, xv, yv, ev, hT, eH, z1, z2⟩ => ?_⟩
          subst ev eH
          obtain ⟨ρa, ma, Ga, ra⟩ := k3 xv H1 ⟨rfl, z1⟩
          obtain ⟨ρb, mb, Gb, rb⟩ := l3 yv H1 ⟨rfl, z2⟩
          have la : ρa = ρ1 := by
            obtain ⟨t, rfl⟩ := ma.pre
            have := Ga.len; rw [List.length_append, G.len] at this
            have : t = [] := List.length_eq_zero_iff.mp (by omega)
            subst this; simp
          have lb : ρb = ρ1 := by
            obtain ⟨t, rfl⟩ := mb.pre
            have := Gb.len; rw [List.length_append, G.len] at this
            have : t = [] := List.length_eq_zero_iff.mp (by omega)
            subst this; simp
          subst la
          rw [lb] at rb
          exact ⟨_, Mv.new hT, G.same (same_new hT), .tup (SqT.of upd_same) (.cons (ra.mono (Mv.new hT)) (.cons (rb.mono (Mv.new hT)) .nil))⟩
theorem itR_zipT {ρ : List Addr} {H : Hp} {a b : Addr} {t u : DV.It} (h1 : ItR Z ρ H (Itt Z.K a) t) (h2 : ItR Z ρ H (Itt Z.K b) u) : ItR Z ρ H (ItzT Z.K a b) (.zip t u) := by
  intro ρ1 H1 g i m G
  have q1 := h1 ρ1 H1 g i m G
  have q2 := h2 ρ1 H1 g i m G
  rw [zip_at]
  cases e1 : t.at i g with
  | none => trivial
  | some o1 =>
    rw [e1] at q1
    cases e2 : u.at i g with
    | none => cases o1 <;> trivial
    | some o2 =>
      rw [e2] at q2
      cases o1 with
      | none =>
        obtain ⟨xs, k1, k2⟩ := q1
        cases o2 with
        | none =>
          obtain ⟨ys, l1, l2⟩ := q2
          exact ⟨xs, ys, k1, l1, .inl k2⟩
        | some y =>
          obtain ⟨⟨ys, y', l1, l2⟩, _⟩ := q2
          exact ⟨xs, ys, k1, l1, .inl k2⟩
      | some x =>
        obtain ⟨⟨xs, x', k1, k2⟩, k3⟩ := q1
        cases o2 with
        | none =>
          obtain ⟨ys, l1, l2⟩ := q2
          exact ⟨xs, ys, k1, l1, .inr l2⟩
        | some y =>
          obtain ⟨⟨ys, y', l1, l2⟩, l3⟩ := q2
          refine ⟨⟨xs, ys, x', y', k1, l1, k2, l2⟩, fun v H' ⟨T, xv, yv, ev, hT, eH, z1, z2⟩ => ?_⟩
          subst ev eH
          obtain ⟨ρa, ma, Ga, ra⟩ := k3 xv H1 ⟨rfl, z1⟩
          obtain ⟨ρb, mb, Gb, rb⟩ := l3 yv H1 ⟨rfl, z2⟩
          have la : ρa = ρ1 := by
            obtain ⟨t, rfl⟩ := ma.pre
            have := Ga.len; rw [List.length_append, G.len] at this
            have : t = [] := List.length_eq_zero_iff.mp (by omega)
            subst this; simp
          have lb : ρb = ρ1 := by
            obtain ⟨t, rfl⟩ := mb.pre
            have := Gb.len; rw [List.length_append, G.len] at this
            have : t = [] := List.length_eq_zero_iff.mp (by omega)
            subst this; simp
          subst la
          rw [lb] at rb
          exact ⟨_, Mv.new hT, G.same (same_new hT), .tup (SqT.of upd_same) (.cons (ra.mono (Mv.new hT)) (.cons (rb.mono (Mv.new hT)) .nil))⟩
/-- what is walked, as a list or as a tuple -/
theorem walk_of {ρ : List Addr} {H : Hp} {g : G} (G : RelG Z ρ H g) {v : V} {d : D} {t : DV.It} (r : RelD Z ρ H v d) (h : walkOf g d = some t) :
    ∃ a, v = .ref a ∧ ((isTup d = true ∧ (∃ xs, SqT Z.K H a xs) ∧ ItR Z ρ H (Itt Z.K a) t) ∨ (isTup d = false ∧ (∃ xs, SqL Z.K H a xs) ∧ ItR Z ρ H (Itl Z.K a) t)) := by
  cases r with
  | tup hq rs => cases h; exact ⟨_, rfl, .inl ⟨rfl, ⟨_, hq⟩, itR_tup hq rs⟩⟩
  | rol hq => cases h; exact ⟨_, rfl, .inr ⟨rfl, ⟨_, hq.sqL⟩, itR_rol hq⟩⟩
  | ref hn =>
    rename_i a n
    cases e0 : g[n]? with
    | none => simp only [walkOf, e0] at h; cases h
    | some o => cases o with
      | lst xs =>
        simp only [walkOf, e0] at h
        cases h
        obtain ⟨vs, a1, a2⟩ := G.lst hn e0
        exact ⟨_, rfl, .inr ⟨rfl, ⟨_, SqL.of a1⟩, itR_lst hn⟩⟩
      | dic kvs => simp only [walkOf, e0] at h; cases h
      | dit kvs => simp only [walkOf, e0] at h; cases h
      | ins c fs => simp only [walkOf, e0] at h; cases h
  | _ => cases h
theorem ItR.back {ρ ρ' : List Addr} {H H' : Hp} {J : L2.It} {t : DV.It} (m : Mv ρ H ρ' H') (h : ItR Z ρ H J t) : ItR Z ρ' H' J t := h.mv m
theorem di_zip {elts : List Expr} {kk : Nat} {tpos : Pos} (hX : XOk Z X N sc W m) (B : Blt X.mg) (ha : PE X a (rdE Z W fa)) (hb : PE X b (rdE Z W fb)) (hg : sc.names.lookup ("zip" : Str) = some .globalImplicit := by rfl) (hs : starEach [a, b] X.env = (false, eval a X.env) :: starEach [b] X.env := by rfl) (hs2 : starEach [b] X.env = (false, eval b X.env) :: starEach [] X.env := by rfl)
    (hpl : (backTo pos (starEach [b] X.env)).any (·.1) = false := by rfl) : PI X (.Tuple elts kk tpos) (.Call (.Name "zip" p) [a, b] [] pos) (rdI Z W (Ie.zip fa fb)) := by
  refine PI_imp (pi_zipA (Gl_of hX hg) B.zip (pa_cons ha (pa_cons hb pa_nil hs2) hs) hs hpl) fun σ H R ⟨δ, ρ, g, G, S, h⟩ => ⟨δ, ρ, g, G, S, (PostR.bind h).imp (fun d ρ1 H1 g1 m1 G1 h1 v rv => ?_) fun _ _ _ _ _ _ _ q => q⟩
  refine ⟨δ, ρ1, g1, G1, S.mono m1, (PostR.bind h1).imp (fun d2 ρ2 H2 g2 m2 G2 h2 v2 rv2 => ?_) fun _ _ _ _ _ _ _ q => q⟩
  cases e1 : walkOf g2 d with
  | none => simp only [e1] at h2; exact h2.elim
  | some t => cases e2 : walkOf g2 d2 with
    | none => simp only [e1, e2] at h2; exact h2.elim
    | some u =>
      simp only [e1, e2] at h2
      split at h2
      · rename_i hk
        obtain ⟨x, rfl, w1⟩ := walk_of G2 (rv.mono m2) e1
        obtain ⟨y, rfl, w2⟩ := walk_of G2 rv2 e2
        have q := PostR.ok (a := DV.It.zip t u) h2 G2
        rw [hX.hK]
        rcases w1 with ⟨k1, ⟨xs, l1⟩, r1⟩ | ⟨k1, ⟨xs, l1⟩, r1⟩ <;> rcases w2 with ⟨k2, ⟨ys, l2⟩, r2⟩ | ⟨k2, ⟨ys, l2⟩, r2⟩
        · exact ⟨x, y, xs, ys, rfl, .inr ⟨l1, l2, q _ (itR_zipT r1 r2)⟩⟩
        · rw [k1, k2] at hk; cases hk
        · rw [k1, k2] at hk; cases hk
        · exact ⟨x, y, xs, ys, rfl, .inl ⟨l1, l2, q _ (itR_zipL r1 r2)⟩⟩
      · exact h2.elim

/-! ### loops -/
theorem ds_for (hX : XOk Z X N sc W m) (hp : PassesOwn (model X.prog X.w) X.A X.env X.xe) (hi : PI X tg e (rdI Z W fi)) (hg : PG X tg (rdG Z ws t)) (hb : PSs X sts (rdS Z W s1)) (hs : ∀ x, foldedSetIterable e X.env x = pure x := by intro _; rfl) :
    PS X (.For tg e sts [] pos) (rdS Z W (Sm.for fi t s1)) := by
  refine PS_imp (ps_for hp hX.calm hi hg hb hs) fun D σ H ⟨δ, ρ, g, G, S, h⟩ => ⟨δ, ρ, g, G, S, (PostS.thenS S h).imp (fun it ρ1 H1 g1 m1 G1 h1 J hJ => ?_) fun _ _ _ _ _ _ _ q => q⟩
  refine ⟨fun i n σ' H' => ∃ δ' ρ' g', Mv ρ1 H1 ρ' H' ∧ RelG Z ρ' H' g' ∧ RelS Z ρ' H' σ' δ' ∧ PostS Z W D ρ' H' (forLoop it t s1 n i δ' g'), ⟨fuel, δ, ρ1, g1, .refl _ _, G1, S.mono m1, h1⟩, ?_⟩
  rintro i n σ2 H2 ⟨δ2, ρ2, g2, m2, G2, S2, h2⟩
  cases n with
  | zero => exact (show False from h2).elim
  | succ n =>
    rw [forLoop] at h2
    have q := hJ ρ2 H2 g2 i m2 G2
    cases e : it.at i g2 with
    | none => simp only [e] at h2; exact h2.elim
    | some o => cases o with
      | none =>
        simp only [e] at h2 q
        exact .inl ⟨q, PostS.nx h2 G2 S2⟩
      | some d =>
        simp only [e] at h2 q
        refine .inr ⟨q.1, _, fun σ' H' w => ⟨n, Nat.lt_succ_self n, w⟩, fun x H' y => ?_⟩
        obtain ⟨ρ3, m3, G3, r3⟩ := q.2 x H' y
        refine ⟨d, δ2, ρ3, g2, G3, S2.mono m3, r3, (PostR.hushE (PostS.thenS (S2.mono m3) (PostS.mv m3 h2))).imp (fun δ4 ρ4 H4 g4 m4 G4 h4 σ4 S4 l4 => ⟨δ4, ρ4, g4, G4, S4, ?_⟩) fun _ _ _ _ _ _ _ q => q⟩
        cases e5 : s1 δ4 g4 with
        | ok f g5 =>
          rw [e5] at h4
          cases f with
          | nx δ5 => exact fun ρ5 H5 σ5 m5 G5 S5 => ⟨δ5, ρ5, g5, ((m2.trans m3).trans m4).trans m5, G5, S5, PostS.mv m5 h4⟩
          | ct δ5 => exact fun ρ5 H5 σ5 m5 G5 S5 => ⟨δ5, ρ5, g5, ((m2.trans m3).trans m4).trans m5, G5, S5, PostS.mv m5 h4⟩
          | bk δ5 => exact fun ρ5 H5 σ5 m5 G5 S5 => PostS.nx (PostS.mv m5 h4) G5 S5
          | rt d5 => exact h4
        | exc c x δ5 g5 => rw [e5] at h4; exact h4
        | stuck => rw [e5] at h4; exact h4
theorem ds_while (hp : PassesOwn (model X.prog X.w) X.A X.env X.xe) (hc : PT X c (rdT Z W tc)) (hb : PSs X sts (rdS Z W s1)) : PS X (.While c sts [] pos) (rdS Z W (Sm.while tc s1)) := by
  refine PS_imp (ps_while hp hc hb) fun D σ H ⟨δ, ρ, g, G, S, h⟩ => ?_
  refine ⟨fun n σ' H' => ∃ δ' ρ' g', RelG Z ρ' H' g' ∧ RelS Z ρ' H' σ' δ' ∧ PostS Z W D ρ' H' (whileLoop tc s1 n δ' g'), ⟨fuel, δ, ρ, g, G, S, h⟩, ?_⟩
  rintro n σ2 H2 ⟨δ2, ρ2, g2, G2, S2, h2⟩
  cases n with
  | zero => exact (show False from h2).elim
  | succ n =>
    rw [whileLoop] at h2
    refine ⟨δ2, ρ2, g2, G2, S2, (PostS.thenS S2 h2).imp (fun k ρ3 H3 g3 m3 G3 h3 => ?_) fun _ _ _ _ _ _ _ q => q⟩
    show if k = true then _ else _
    cases k with
    | false => exact PostS.nx h3 G3 (S2.mono m3)
    | true =>
      refine ⟨_, fun σ' H' w => ⟨n, Nat.lt_succ_self n, w⟩, δ2, ρ3, g3, G3, S2.mono m3, ?_⟩
      rw [if_pos rfl] at h3
      cases e5 : s1 δ2 g3 with
      | ok f g5 =>
        rw [e5] at h3
        cases f with
        | nx δ5 => exact fun ρ5 H5 σ5 m5 G5 S5 => ⟨δ5, ρ5, g5, G5, S5, PostS.mv m5 h3⟩
        | ct δ5 => exact fun ρ5 H5 σ5 m5 G5 S5 => ⟨δ5, ρ5, g5, G5, S5, PostS.mv m5 h3⟩
        | bk δ5 => exact fun ρ5 H5 σ5 m5 G5 S5 => PostS.nx (PostS.mv m5 h3) G5 S5
        | rt d5 => exact h3
      | exc c x δ5 g5 => rw [e5] at h3; exact h3
      | stuck => rw [e5] at h3; exact h3
end
end DV
end
section
set_option Elab.async false
set_option linter.all false
set_option maxRecDepth 100000
namespace DV
open PySem PySem.Spec PyProof.Rows L2 RZ
theorem PostR.bind0 {α β : Type} {Z : Tab} {ρ : List Addr} {H : Hp} {r : R α} {f : α → G → R β} {k : β → List Addr → Hp → G → Prop} {e : Nat → D → List Addr → Hp → G → Prop} (h : PostR Z ρ H (r.bind f) k e) : PostR Z ρ H r (fun a _ _ g1 => PostR Z ρ H (f a g1) k e) e := by
  cases r with
  | ok a g => exact fun ρ1 H1 _ _ => h
  | exc c x g => exact h
  | stuck => exact h
theorem Mv.own {ρ ρ' : List Addr} {H H' : Hp} {p : Addr} {u : HO} (m : Mv ρ H ρ' H') (h : H p = some u) (n : p ∉ ρ) : H' p = some u ∧ p ∉ ρ' := ⟨m.fr p u h n, fun z => by rw [m.nw p z n] at h; cases h⟩
theorem Mv.at0 {ρ ρ' ρ2 : List Addr} {H H' H2 : Hp} (m : Mv ρ H ρ' H') (m2 : Mv ρ' H' ρ2 H2) : Mv ρ H ρ2 H2 := m.trans m2
abbrev W0 : WX := fun _ _ _ _ => False
theorem W0_take {X : Cx} : Takes X W0 := fun _ _ x => by
  obtain ⟨_, _, _, _, _, _, _, _, _, _, _, _, _, _, _, _, z⟩ := x
  exact z.elim
section
variable {Z : Tab} {X : Cx} {W : WX} {N : List Str} {sc : Scope} {m : Nat} {a b c e elt : Expr} {es ifs : List Expr} {fa fb fc fe : Ex} {fs : Exs} {pos p p2 : Pos} {tc : Te} {t : Tg} {ws : List Nat} {tg iter : Expr} {fi : Ie} {scope : Scope} {own : List (Str × Nat)}

/-- within a comprehension's block -/
theorem XOk.blk (hX : XOk Z X N sc W m) (s : Shared) (H : Hp) (C : Addr) (cl : List (Str × Addr)) (fp : List Addr) : XOk Z (X.blk s H scope (compEnvC scope cl C X.env) fp) N (relS scope sc) W0 m :=
  ⟨hX.hN, hX.hK, hX.hP, hX.hw, hX.hM, hX.hB, by rw [← hX.sc]; rfl, hX.nd, hX.room, hX.calm, W0_take⟩
theorem PTs_imp {X : Cx} {e : List Expr} {t t' : TT} (h : PTs X e t) (f : ∀ σ H Q, t' σ H Q → t σ H Q) : PTs X e t' := ⟨fun pins s σ H Q I q => h.run pins s σ H Q I (f σ H Q q)⟩
theorem dts_nil : PTs X [] (rdT Z W Te.tt) := PTs_imp pts_nil fun σ H Q ⟨δ, ρ, g, G, S, h⟩ => PostR.ok (a := true) h G
theorem dts_one (h : PT X c (rdT Z W tc)) : PTs X [c] (rdT Z W tc) := pts_one h
theorem tLc_of {wi : TI} {σ : L2.St} {H : Hp} {Q : VK} (hsub : ∀ i ∈ ws, i ∈ own.map (·.2)) (h : rdE Z W (Ex.comp (own.map (·.2)) fi t tc fe) σ H Q) (hi : wi = rdI Z W fi) : tLc wi (rdG Z ws t) (rdT Z W0 tc) (rdE Z W0 fe) (own.map (·.2)) σ H Q := by
  subst hi
  obtain ⟨δ, ρ, g, G, S, h⟩ := h
  refine ⟨δ, ρ, g, G, S, (PostR.bind h).imp (fun it ρ1 H1 g1 m1 G1 h1 J hJ D hD => ?_) fun _ _ _ _ _ _ _ q => q⟩
  have h1' := PostR.hushE (e' := eF) (PostR.bind0 h1)
  have S1 := S.mono m1
  have nD1 : D ∉ ρ1 := fun z => by obtain ⟨u, hu⟩ := G1.tracked z; rw [hD] at hu; cases hu
  refine ⟨fun i n H' => ∃ ρ' g' acc vs', Mv ρ1 H1 ρ' H' ∧ RelG Z ρ' H' g' ∧ D ∉ ρ' ∧ H' D = some (.lst vs') ∧ RelDs Z ρ' H' vs' acc ∧
    PostR Z ρ1 H1 (compLoop it t tc fe (DV.wipe δ (own.map (·.2))) n i acc g') (fun ds _ _ g2 => PostR Z ρ1 H1 (.ok (.ref g2.length) (g2 ++ [.lst ds])) (kV Z Q) (eX Z W σ)) eF,
    ⟨fuel, ρ1, g1, [], [], Mv.new hD, G1.same (same_new hD), nD1, upd_same, .nil, h1'⟩, ?_⟩
  rintro i n H2 ⟨ρ2, g2, acc, vs2, m2, G2, n2, l2, r2, h2⟩
  cases n with
  | zero => exact (show False from h2).elim
  | succ n =>
    rw [compLoop] at h2
    have q := hJ ρ2 H2 g2 i m2 G2
    cases e : it.at i g2 with
    | none => simp only [e] at h2; exact h2.elim
    | some o => cases o with
      | none =>
        simp only [e] at h2 q
        refine .inl ⟨q, ?_⟩
        have h3 := h2 ρ2 H2 m2 G2
        exact h3 (ρ2 ++ [D]) H2 (m2.snoc hD) (G2.snoc n2 ⟨vs2, l2, r2.monoW ⟨⟨[D], rfl⟩, .refl _⟩⟩) _ (.ref (RelG.get_push G2.len))
      | some d =>
        simp only [e] at h2 q
        refine .inr ⟨q.1, _, fun H' w => ⟨n, Nat.lt_succ_self n, w⟩, fun x H' y => ?_⟩
        obtain ⟨ρ3, m3, G3, r3⟩ := q.2 x H' y
        obtain ⟨l3, n3⟩ := m3.own l2 n2
        have b3 := m2.trans m3
        refine ⟨d, _, ρ3, g2, G3, ((S1.mono b3).wipe _), r3, (PostR.mv b3 (PostR.bind0 h2)).imp (fun δ4 ρ4 H4 g4 m4 G4 h4 σ4 S4 w4 => ⟨?_, ?_⟩) fun _ _ _ _ _ _ _ q => q⟩
        · rw [w4 _ hsub]
          refine List.ext_getElem? fun j => ?_
          rw [wipe_get, wipe_get]
          split <;> first | rfl | (cases σ[j]? <;> rfl)
        obtain ⟨l4, n4⟩ := m4.own l3 n3
        have b4 := b3.trans m4
        refine ⟨δ4, ρ4, g4, G4, S4, (PostR.eF_to (PostR.mv b4 (PostR.bind0 h4))).imp (fun k ρ5 H5 g5 m5 G5 h5 => ?_) fun _ _ _ _ _ _ _ q => q⟩
        obtain ⟨l5, n5⟩ := m5.own l4 n4
        have b5 := b4.trans m5
        show if k = true then _ else _
        cases k with
        | false => exact ⟨ρ5, g5, acc, vs2, b5, G5, n5, l5, r2.mono ((m3.trans m4).trans m5), h5⟩
        | true =>
          rw [if_pos rfl] at h5
          refine ⟨δ4, ρ5, g5, G5, S4.mono m5, (PostR.eF_to (PostR.mv b5 (PostR.bind0 h5))).imp (fun yv ρ6 H6 g6 m6 G6 h6 v rv => ?_) fun _ _ _ _ _ _ _ q => q⟩
          obtain ⟨l6, n6⟩ := m6.own l5 n5
          have b6 := b5.trans m6
          split at h6
          · rename_i hz
            have r6 := r2.mono (((m3.trans m4).trans m5).trans m6)
            refine ⟨vs2, l6, by rw [r6.length, ← line_eq]; exact hz, ρ6, g6, acc ++ [yv], vs2 ++ [v], b6.updNew hD (fun xs z => by rw [l6] at z; cases z) (fun ob u z => by rw [l6] at z; cases z),
              G6.other n6 (fun xs z => by rw [l6] at z; cases z) (fun ob u z => by rw [l6] at z; cases z), n6, upd_same, ?_, h6⟩
            exact RelDs.monoW ⟨⟨[], by simp⟩, .upd (fun xs z => by rw [l6] at z; cases z) (fun ob u z => by rw [l6] at z; cases z)⟩ (r6.append (.cons rv .nil))
          · exact h6.elim
theorem de_comp (hX : XOk Z X N sc W m) (own : List (Str × Nat)) (hi : PI X tg iter (rdI Z W fi)) (hg : ∀ (s : Shared) (H : Hp) (C : Addr) (cl : List (Str × Addr)) (fp : List Addr), PG (X.blk s H scope (compEnvC scope cl C X.env) fp) tg (rdG Z ws t))
    (ht : ∀ (s : Shared) (H : Hp) (C : Addr) (cl : List (Str × Addr)) (fp : List Addr), PTs (X.blk s H scope (compEnvC scope cl C X.env) fp) ifs (rdT Z W0 tc)) (he : ∀ (s : Shared) (H : Hp) (C : Addr) (cl : List (Str × Addr)) (fp : List Addr), PE (X.blk s H scope (compEnvC scope cl C X.env) fp) elt (rdE Z W0 fe))
    (ok : blkC N sc scope own = true := by decide +kernel) (hsub : ∀ i ∈ ws, i ∈ own.map (·.2) := by decide) (hs : ∀ x, foldedSetIterable iter X.env x = pure x := by intro _; rfl) : PE X (.ListComp elt [⟨tg, iter, ifs, 0⟩] scope pos) (rdE Z W (Ex.comp (own.map (·.2)) fi t tc fe)) :=
  PE_imp (pe_lc hX.calm (by rw [hX.hN]; exact hX.nd) hi (by rw [hX.hN, hX.sc]; exact blkOk_by ok) hg ht he hs) fun σ H Q h => tLc_of hsub h rfl
/-- name = [..] on one line -/
theorem ds_setLc {y : Str} {py spos : Pos} (hX : XOk Z X N sc W m) (i : Nat) (own : List (Str × Nat)) (hi : PI X tg iter (rdI Z W fi)) (hg : ∀ (s : Shared) (H : Hp) (C : Addr) (cl : List (Str × Addr)) (fp : List Addr), PG (X.blk s H scope (compEnvC scope cl C X.env) fp) tg (rdG Z ws t))
    (ht : ∀ (s : Shared) (H : Hp) (C : Addr) (cl : List (Str × Addr)) (fp : List Addr), PTs (X.blk s H scope (compEnvC scope cl C X.env) fp) ifs (rdT Z W0 tc)) (he : ∀ (s : Shared) (H : Hp) (C : Addr) (cl : List (Str × Addr)) (fp : List Addr), PE (X.blk s H scope (compEnvC scope cl C X.env) fp) elt (rdE Z W0 fe))
    (hsw : swapsWith (.ListComp elt [⟨tg, iter, ifs, 0⟩] scope pos) (some (.Name y py)) spos.line X.env = pure true) (hy : N[i]? = some y := by rfl) (hyl : sc.names.lookup y = some .local := by rfl) (ok : blkC N sc scope own = true := by decide +kernel) (hsub : ∀ i ∈ ws, i ∈ own.map (·.2) := by decide) (hs : ∀ x, foldedSetIterable iter X.env x = pure x := by intro _; rfl) :
    PS X (.Assign [.Name y py] (.ListComp elt [⟨tg, iter, ifs, 0⟩] scope pos) spos) (rdS Z W (Sm.asg (Tg.name i) (Ex.comp (own.map (·.2)) fi t tc fe))) := by
  refine PS_imp (ps_setLc hX.calm (by rw [hX.hN]; exact hX.nd) (by rw [hX.hN]; exact hy) (by rw [hX.sc]; exact hyl) hsw hi (by rw [hX.hN, hX.sc]; exact blkOk_by ok) hg ht he hs) fun D σ H ⟨δ, ρ, g, G, S, h⟩ => ?_
  refine tLc_of hsub ⟨δ, ρ, g, G, S, (PostS.thenS S h).imp (fun d ρ1 H1 g1 m1 G1 h1 v rv => ?_) fun _ _ _ _ _ _ _ q => q⟩ rfl
  exact PostS.nx (δ := δ.set i (some d)) h1 G1 ((S.mono m1).set i rv)
end
end DV
end
section
set_option Elab.async false
set_option linter.all false
set_option maxRecDepth 100000
namespace DV
open PySem PySem.Spec PyProof.Rows L2 RZ
section
variable {Z : Tab} {X : Cx} {W : WX} {N : List Str} {sc : Scope} {m : Nat} {a b c e elt : Expr} {es ifs : List Expr} {fa fb fc fe : Ex} {fs : Exs} {pos p p2 : Pos} {tc : Te} {t : Tg} {ws : List Nat} {tg iter : Expr} {fi : Ie}

/-- a builtin, by values -/
def rB (Z : Tab) (b : Bi) : List V → Hp → VK → Prop := fun vs H Q => ∃ ds ρ g e, RelG Z ρ H g ∧ RelDs Z ρ H vs ds ∧ PostR Z ρ H (bi b ds g) (kV Z Q) e
theorem de_biF {x : Str} {i : String} (b : Bi) (hX : XOk Z X N sc W m) (hc : CallR X (.builtin i) (rB Z b)) (hm : X.mg x = none) (ha : PA X (e :: es) (rdA Z W fs)) (hg : sc.names.lookup x = some .globalImplicit := by rfl) (hv : bootBuiltins x = some (.builtin i) := by decide +kernel) (hn : x ≠ "__name__" := by decide) (hdb : (x == ("__debug__" : Str)) = false := by decide)
    (he : starEach (e :: es) X.env = (false, eval e X.env) :: starEach es X.env := by rfl) (hpl : (backTo pos (starEach es X.env)).any (·.1) = false := by rfl) : PE X (.Call (.Name x p) (e :: es) [] pos) (rdE Z W (Ex.bi b fs)) := by
  refine PE_imp (pe_callB hc (Gl_of hX hg) hm hv ha hn hdb he hpl) fun σ H Q ⟨δ, ρ, g, G, S, h⟩ => ⟨δ, ρ, g, G, S, (PostR.bind h).imp (fun ds ρ1 H1 g1 m1 G1 h1 vs rv => ?_) fun _ _ _ _ _ _ _ q => q⟩
  exact ⟨ds, ρ1, g1, _, G1, rv, h1⟩
theorem de_biT {x : Str} {T : String} (b : Bi) (hX : XOk Z X N sc W m) (hc : CallR X (.type T) (rB Z b)) (hm : X.mg x = none) (ha : PA X (e :: es) (rdA Z W fs)) (hg : sc.names.lookup x = some .globalImplicit := by rfl) (hv : bootBuiltins x = some (.type T) := by decide +kernel) (hn : x ≠ "__name__" := by decide) (hdb : (x == ("__debug__" : Str)) = false := by decide)
    (he : starEach (e :: es) X.env = (false, eval e X.env) :: starEach es X.env := by rfl) (hpl : (backTo pos (starEach es X.env)).any (·.1) = false := by rfl) : PE X (.Call (.Name x p) (e :: es) [] pos) (rdE Z W (Ex.bi b fs)) := by
  refine PE_imp (pe_callTy hc (Gl_of hX hg) hm hv ha hn hdb he hpl) fun σ H Q ⟨δ, ρ, g, G, S, h⟩ => ⟨δ, ρ, g, G, S, (PostR.bind h).imp (fun ds ρ1 H1 g1 m1 G1 h1 vs rv => ?_) fun _ _ _ _ _ _ _ q => q⟩
  exact ⟨ds, ρ1, g1, _, G1, rv, h1⟩
theorem RelDs.one {ρ : List Addr} {H : Hp} {vs : List V} {d : D} (r : RelDs Z ρ H vs [d]) : ∃ v, vs = [v] ∧ RelD Z ρ H v d := by
  cases r with
  | cons a b => cases b; exact ⟨_, rfl, a⟩
theorem RelDs.two {ρ : List Addr} {H : Hp} {vs : List V} {d e : D} (r : RelDs Z ρ H vs [d, e]) : ∃ v w, vs = [v, w] ∧ RelD Z ρ H v d ∧ RelD Z ρ H w e := by
  cases r with
  | cons a b => obtain ⟨w, rfl, h⟩ := b.one; exact ⟨_, w, rfl, a, h⟩
theorem relD_non' {ρ : List Addr} {H : Hp} {v : V} (r : RelD Z ρ H v .non) : v = .non := by cases r; rfl
theorem relD_int {ρ : List Addr} {H : Hp} {v : V} {i : Int} (r : RelD Z ρ H v (.int i)) : v = .int i := by cases r; rfl
theorem relD_bl {ρ : List Addr} {H : Hp} {v : V} {i : Bool} (r : RelD Z ρ H v (.bl i)) : v = .bl i := by cases r; rfl
/-- a list or a tuple by its items -/
theorem items_of {ρ : List Addr} {H : Hp} {g : G} (G : RelG Z ρ H g) {v : V} {d : D} {xs : List D} (r : RelD Z ρ H v d) (h : items g d = some xs) : ∃ p ys, v = .ref p ∧ RelDs Z ρ H ys xs ∧ ((isTup d = false ∧ SqL Z.K H p ys) ∨ (d = .tup xs ∧ SqT Z.K H p ys)) := by
  cases r with
  | tup hq rs => cases h; exact ⟨_, _, rfl, rs, .inr ⟨rfl, hq⟩⟩
  | rol hq => cases h; exact ⟨_, _, rfl, RelDs.ints, .inl ⟨rfl, hq.sqL⟩⟩
  | ref hn =>
    rename_i a n
    cases e0 : g[n]? with
    | none => simp only [items, e0] at h; cases h
    | some o => cases o with
      | lst ys =>
        simp only [items, e0] at h
        cases h
        obtain ⟨vs, a1, a2⟩ := G.lst hn e0
        exact ⟨_, _, rfl, a2, .inl ⟨rfl, SqL.of a1⟩⟩
      | _ => simp only [items, e0] at h; cases h
  | _ => cases h
theorem itemsK_of {ρ : List Addr} {H : Hp} {g : G} (G : RelG Z ρ H g) {v : V} {d : D} {xs : List D} (r : RelD Z ρ H v d) (h : itemsK g d = some xs) : items g d = some xs := by
  cases d with
  | ref n =>
    cases r with
    | ref hn =>
      simp only [itemsK, items] at h ⊢
      cases e0 : g[n]? with
      | none => rw [e0] at h; cases h
      | some o => cases o with
        | lst ys => rw [e0] at h; exact h
        | dic kvs => rw [e0] at h; cases h
        | dit kvs => rw [e0] at h; cases h
        | ins c fs => rw [e0] at h; cases h
  | _ => exact h
theorem bi_len (hK : X.K = Z.K) : CallR X (.builtin "len") (rB Z .len) := by
  intro pins s σ H xs us Q I r ⟨ds, ρ, g, e, G, rs, p⟩
  match ds, rs, p with
  | [x], rs, p =>
    obtain ⟨v, rfl, rv⟩ := rs.one
    simp only [bi] at p
    cases q : lenD g x with
    | none => simp only [q] at p; exact p.elim
    | some n =>
      simp only [q] at p
      refine call_len pins s σ H _ us Q I r ⟨v, n, rfl, ?_, p.val G (.int _)⟩
      rw [hK]
      cases rv with
      | str y =>
        simp only [lenD] at q
        split at q
        · rename_i hl
          exact ⟨by rw [← line_eq]; exact hl, (Option.some.inj q).symm⟩
        · cases q
      | tup hq rq => exact .inr ⟨_, hq, by rw [rq.length]; exact (Option.some.inj q).symm⟩
      | rol hq => exact .inl ⟨_, hq.sqL, by simpa using (Option.some.inj q).symm⟩
      | ref hn =>
        simp only [lenD] at q
        split at q
        · rename_i ys e1
          obtain ⟨vs, a1, a2⟩ := G.lst hn e1
          exact .inl ⟨_, SqL.of a1, by rw [a2.length]; exact (Option.some.inj q).symm⟩
        · rename_i kvs e1
          cases q
        · cases q
      | _ => cases q
  | [], _, p => exact (show False from p).elim
  | x :: y :: z, _, p => exact (show False by cases x <;> exact p).elim
theorem bi_int : CallR X (.type "int") (rB Z .int) := by
  intro pins s σ H xs us Q I r ⟨ds, ρ, g, e, G, rs, p⟩
  match ds, rs, p with
  | [.int i], rs, p =>
    obtain ⟨v, rfl, rv⟩ := rs.one
    cases rv
    exact call_int1 pins s σ H _ us Q I r (.inl ⟨i, rfl, PostR.val (d := .int i) p G (.int _)⟩)
  | [.bl i], rs, p =>
    obtain ⟨v, rfl, rv⟩ := rs.one
    cases rv
    exact call_int1 pins s σ H _ us Q I r (.inr ⟨i, rfl, PostR.val (d := .int _) p G (.int _)⟩)
  | [.non], _, p => exact (show False from p).elim
  | [.str _], _, p => exact (show False from p).elim
  | [.tup _], _, p => exact (show False from p).elim
  | [.ref _], _, p => exact (show False from p).elim
  | [.fn _], _, p => exact (show False from p).elim
  | [.exc _ _], _, p => exact (show False from p).elim
  | [.rol _], _, p => exact (show False from p).elim
  | [], _, p => exact (show False from p).elim
  | x :: y :: z, _, p => exact (show False by cases x <;> exact p).elim
theorem bi_abs : CallR X (.builtin "abs") (rB Z .abs) := by
  intro pins s σ H xs us Q I r ⟨ds, ρ, g, e, G, rs, p⟩
  match ds, rs, p with
  | [.int i], rs, p =>
    obtain ⟨v, rfl, rv⟩ := rs.one
    cases rv
    exact call_abs pins s σ H _ us Q I r ⟨i, rfl, PostR.val (d := .int _) p G (.int _)⟩
  | [.bl _], _, p => exact (show False from p).elim
  | [.non], _, p => exact (show False from p).elim
  | [.str _], _, p => exact (show False from p).elim
  | [.tup _], _, p => exact (show False from p).elim
  | [.ref _], _, p => exact (show False from p).elim
  | [.fn _], _, p => exact (show False from p).elim
  | [.exc _ _], _, p => exact (show False from p).elim
  | [.rol _], _, p => exact (show False from p).elim
  | [], _, p => exact (show False from p).elim
  | x :: y :: z, _, p => exact (show False by cases x <;> exact p).elim
theorem bi_tuple (hK : X.K = Z.K) : CallR X (.type "tuple") (rB Z .tuple) := by
  intro pins s σ H xs us Q I r ⟨ds, ρ, g, e, G, rs, p⟩
  match ds, rs, p with
  | [x], rs, p =>
    obtain ⟨v, rfl, rv⟩ := rs.one
    simp only [bi] at p
    cases q : itemsK g x with
    | none => simp only [q] at p; exact p.elim
    | some ys =>
      simp only [q] at p
      obtain ⟨a, zs, rfl, rz, (⟨_, hl⟩ | ⟨rfl, hl⟩)⟩ := items_of G rv (itemsK_of G rv q)
      · refine call_tuple_of pins s σ H _ us Q I r ⟨a, zs, rfl, .inl ⟨by rw [hK]; exact hl, fun l hq => ?_⟩⟩
        exact p ρ _ (Mv.new hq) (G.same (same_new hq)) _ (.tup (SqT.of upd_same) (rz.mono (Mv.new hq)))
      · exact call_tuple_of pins s σ H _ us Q I r ⟨a, zs, rfl, .inr ⟨by rw [hK]; exact hl, p.val G (.tup hl rz)⟩⟩
  | [], _, p => exact (show False from p).elim
  | x :: y :: z, _, p => exact (show False by cases x <;> exact p).elim
theorem bi_list (hK : X.K = Z.K) : CallR X (.type "list") (rB Z .list) := by
  intro pins s σ H xs us Q I r ⟨ds, ρ, g, e, G, rs, p⟩
  match ds, rs, p with
  | [x], rs, p =>
    obtain ⟨v, rfl, rv⟩ := rs.one
    simp only [bi] at p
    cases q : itemsK g x with
    | none => simp only [q] at p; exact p.elim
    | some ys =>
      simp only [q] at p
      obtain ⟨a, zs, rfl, rz, hl⟩ := items_of G rv (itemsK_of G rv q)
      refine call_list_of pins s σ H _ us Q I r ⟨a, zs, rfl, by rw [hK]; exact hl.imp (fun h => h.2) fun h => h.2, fun l hq => ?_⟩
      exact p (ρ ++ [l]) _ (Mv.push hq) (G.push hq ⟨zs, upd_same, rz.mono (Mv.push hq)⟩) _ (.ref (RelG.get_push G.len))
  | [], _, p => exact (show False from p).elim
  | x :: y :: z, _, p => exact (show False by cases x <;> exact p).elim
theorem okT_fits {t : PyData} (h : okT t = true) : t.fits63 := by
  unfold okT at h
  rw [Bool.and_eq_true] at h
  have := h.2
  cases t <;> first | trivial | (have q : _ ≤ 16777216 := of_decide_eq_true this; show _ < _; have e : ((2 : Int) ^ 63) = 9223372036854775808 := rfl; rw [e]; omega)
theorem Inv.tok2 {pins : List (Addr × Obj)} {σ : L2.St} {H : Hp} {s : Shared} (I : Inv X pins σ H s) {h' : Heap} {tk : Nat} (k : ∀ b o, s.heap.get? b = some o → h'.get? b = some o) : Inv X pins σ H { s with heap := h', toks := tk } := I.kept k
theorem bi_any (hK : X.K = Z.K) (hc : X.calm = true) : CallR X (.builtin "any") (rB Z .any) := by
  intro pins s σ H xs us Q I r ⟨ds, ρ, g, e, G, rs, p⟩
  match ds, rs, p with
  | [x], rs, p =>
    obtain ⟨v, rfl, rv⟩ := rs.one
    simp only [bi] at p
    cases q : items g x with
    | none => simp only [q] at p; exact p.elim
    | some ys =>
      simp only [q] at p
      obtain ⟨a, zs, rfl, rz, hl⟩ := items_of G rv q
      obtain ⟨k, hk, p⟩ := liftO_some p
      unfold anyG at hk
      split at hk
      · rename_i ts ht
        split at hk
        · rename_i hok
          rw [Bool.and_eq_true] at hok
          cases hk
          obtain ⟨u, rfl, ru⟩ := vals1 r
          cases ru
          have fin : ∀ (h' : Heap) (tk : Nat), (∀ b o, s.heap.get? b = some o → h'.get? b = some o) → EP X pins σ Q (.bool (ts.any PyData.truthy)) { s with heap := h', toks := tk } := fun h' tk kp => ⟨.bl _, H, I.kept kp, rfl, p.val G (.bl _)⟩
          rcases hl with ⟨_, hl⟩ | ⟨_, hl⟩
          · obtain ⟨its, r', pl, hz⟩ := I.list (by rw [hK]; exact hl)
            obtain ⟨⟨as, ra⟩, _⟩ := snaps_reads hK I G rz r' ht
            exact PySem.W.any_list_data (I.ok.hd hc) pl.isList (by simpa using ra) hok.2 (fun t h => okT_fits (List.all_eq_true.mp hok.1 t h)) fin
          · obtain ⟨its, r', pl, hz⟩ := I.tuple (by rw [hK]; exact hl)
            obtain ⟨⟨as, ra⟩, _⟩ := snaps_reads hK I G rz r' ht
            exact PySem.W.any_tuple_data (I.ok.hd hc) (show s.heap.IsTuple a its.toArray from pl) (by simpa using ra) hok.2 (fun t h => okT_fits (List.all_eq_true.mp hok.1 t h)) fin
        · cases hk
      · cases hk
  | [], _, p => exact (show False from p).elim
  | x :: y :: z, _, p => exact (show False by cases x <;> exact p).elim
theorem bi_all (hK : X.K = Z.K) (hc : X.calm = true) : CallR X (.builtin "all") (rB Z .all) := by
  intro pins s σ H xs us Q I r ⟨ds, ρ, g, e, G, rs, p⟩
  match ds, rs, p with
  | [x], rs, p =>
    obtain ⟨v, rfl, rv⟩ := rs.one
    simp only [bi] at p
    cases q : items g x with
    | none => simp only [q] at p; exact p.elim
    | some ys =>
      simp only [q] at p
      obtain ⟨a, zs, rfl, rz, hl⟩ := items_of G rv q
      obtain ⟨k, hk, p⟩ := liftO_some p
      unfold allG at hk
      split at hk
      · rename_i ts ht
        split at hk
        · rename_i hok
          rw [Bool.and_eq_true] at hok
          cases hk
          obtain ⟨u, rfl, ru⟩ := vals1 r
          cases ru
          have fin : ∀ (h' : Heap) (tk : Nat), (∀ b o, s.heap.get? b = some o → h'.get? b = some o) → EP X pins σ Q (.bool (ts.all PyData.truthy)) { s with heap := h', toks := tk } := fun h' tk kp => ⟨.bl _, H, I.kept kp, rfl, p.val G (.bl _)⟩
          rcases hl with ⟨_, hl⟩ | ⟨_, hl⟩
          · obtain ⟨its, r', pl, hz⟩ := I.list (by rw [hK]; exact hl)
            obtain ⟨⟨as, ra⟩, _⟩ := snaps_reads hK I G rz r' ht
            exact PySem.W.all_list_data (I.ok.hd hc) pl.isList (by simpa using ra) hok.2 (fun t h => okT_fits (List.all_eq_true.mp hok.1 t h)) fin
          · obtain ⟨its, r', pl, hz⟩ := I.tuple (by rw [hK]; exact hl)
            obtain ⟨⟨as, ra⟩, _⟩ := snaps_reads hK I G rz r' ht
            exact PySem.W.all_tuple_data (I.ok.hd hc) (show s.heap.IsTuple a its.toArray from pl) (by simpa using ra) hok.2 (fun t h => okT_fits (List.all_eq_true.mp hok.1 t h)) fin
        · cases hk
      · cases hk
  | [], _, p => exact (show False from p).elim
  | x :: y :: z, _, p => exact (show False by cases x <;> exact p).elim
end
end DV
end
section
set_option Elab.async false
set_option linter.all false
set_option maxRecDepth 100000
namespace DV
open PySem PySem.Spec PyProof.Rows L2 RZ
/-- the classes: what the table tells of them is so -/
structure ClsOk (Z : Tab) (T : Clss) : Prop where
  cls : ∀ c k, T[c]? = some k → L2.Cls Z.K (Z.cls c)
  fld : ∀ c k f, T[c]? = some k → k.fields.contains f = true → NoAttr Z.K (Z.cls c) f
  mth : ∀ c k m f, T[c]? = some k → k.meths.lookup m = some f → Meth Z.K (Z.cls c) m (Z.fn f)
section
variable {Z : Tab} {X : Cx} {W : WX} {N : List Str} {sc : Scope} {m : Nat} {T : Clss} {a b c e o elt : Expr} {es ifs : List Expr} {fa fb fc fe fo fi : Ex} {fs : Exs} {pos p p2 apos cpos : Pos} {tc : Te} {t : Tg} {ws : List Nat} {tg iter : Expr} {f : Str}

/-! ### fields -/
theorem RelF.lookup {ρ : List Addr} {H : Hp} : ∀ {xs : List (Str × V)} {ds : List (Str × D)} {d : D}, RelF Z ρ H xs ds → ds.lookup f = some d → ∃ v, xs.lookup f = some v ∧ RelD Z ρ H v d
  | _, _, _, .nil, h => by cases h
  | _, _, d, .cons (f := k) r t, h => by
    rw [List.lookup_cons] at h ⊢
    cases q : f == k with
    | true => rw [q] at h; cases h; exact ⟨_, rfl, r⟩
    | false => rw [q] at h; exact RelF.lookup t h
theorem RelF.none {ρ : List Addr} {H : Hp} : ∀ {xs : List (Str × V)} {ds : List (Str × D)}, RelF Z ρ H xs ds → ds.lookup f = Option.none → xs.lookup f = Option.none
  | _, _, .nil, h => rfl
  | _, _, .cons (f := k) r t, h => by
    rw [List.lookup_cons] at h ⊢
    cases q : f == k with
    | true => rw [q] at h; cases h
    | false => rw [q] at h; exact RelF.none t h
theorem RelF.put {ρ : List Addr} {H : Hp} {v : V} {d : D} (r : RelD Z ρ H v d) : ∀ {xs : List (Str × V)} {ds : List (Str × D)}, RelF Z ρ H xs ds → RelF Z ρ H (L2.putF f v xs) (DV.putF f d ds)
  | _, _, .nil => .cons r .nil
  | _, _, .cons (f := k) q t => by
    unfold L2.putF DV.putF
    by_cases e : k = f
    · rw [if_pos e, if_pos e]; exact .cons r t
    · rw [if_neg e, if_neg e]; exact .cons q (RelF.put r t)
theorem RelF.length {ρ : List Addr} {H : Hp} : ∀ {xs : List (Str × V)} {ds : List (Str × D)}, RelF Z ρ H xs ds → xs.length = ds.length
  | _, _, .nil => rfl
  | _, _, .cons _ t => by simp [RelF.length t]
theorem de_fld (hK : X.K = Z.K) (C : ClsOk Z T) (ha : PE X a (rdE Z W fa)) (hb : attributeBase a f X.env (eval a X.env) = eval a X.env := by rfl) : PE X (.Attribute a f pos) (rdE Z W (Ex.fld T fa f)) := by
  refine PE_imp (pe_fld ha hb) fun σ H Q ⟨δ, ρ, g, G, S, h⟩ => ⟨δ, ρ, g, G, S, (PostR.bind h).imp (fun d ρ1 H1 g1 m1 G1 h1 v rv => ?_) fun _ _ _ _ _ _ _ q => q⟩
  cases rv with
  | ref hn =>
    rename_i a' n
    cases e0 : g1[n]? with
    | none => simp only [DV.fld, e0] at h1; exact h1.elim
    | some o => cases o with
      | ins c fs =>
        simp only [DV.fld, e0] at h1
        cases e1 : T[c]? with
        | none => simp only [e1] at h1; exact h1.elim
        | some k =>
          simp only [e1] at h1
          split at h1
          · rename_i hc
            obtain ⟨d, e2, q⟩ := oD_some h1
            obtain ⟨dx, xs, a1, a2⟩ := G1.ins hn e0
            obtain ⟨w, e3, r⟩ := a2.lookup e2
            rw [hK]
            exact ⟨a', _, dx, xs, w, rfl, a1, C.cls c k e1, C.fld c k f e1 hc, e3, q.val G1 r⟩
          · exact h1.elim
      | _ => simp only [DV.fld, e0] at h1; exact (show False from h1).elim
  | _ => exact (show False from h1).elim
theorem pg_attr {o : Expr} {to : TE} (ho : PE X o to) (ha : ∀ v, assign (.Attribute o f pos) X.env v = (do
      let ov ← holding [v] (eval o X.env)
      standAt pos.atName
      holding [v, ov] (setAttr ov f v)
      release [v, ov] []) := by intro _; rfl) : PG X (.Attribute o f pos) (fun v σ H Q => to σ H fun x H1 => ∃ a C dx fs, x = .ref a ∧ H1 a = some (.ins C dx fs) ∧ L2.Cls X.K C ∧ NoAttr X.K C f ∧ fs.length < 1000 ∧ Q σ (upd H1 a (.ins C dx (L2.putF f v fs)))) := by
  refine ⟨fun pins s σ H v u Q I r h => ?_⟩
  rw [ha]
  refine wpAny_bind (wpAny_holding (thn (ho.run pins s σ H _ I h) fun ov s1 ⟨x, H1, I1, r1, a, C, dx, fs, ex, ea, c, n, l, q1⟩ => ?_))
  subst ex
  obtain rfl : ov = Value.ref a := r1
  refine wpAny_bind (wpAny_standAt (wpAny_bind (wpAny_holding (setattr_ok I1 ea c n l r fun s3 I3 => ?_))))
  exact wpAny_release ⟨σ, _, I3, q1⟩
theorem dg_fld (hX : XOk Z X N sc W m) (C : ClsOk Z T) (ho : PE X o (rdE Z W fo)) (ha : ∀ v, assign (.Attribute o f pos) X.env v = (do
      let ov ← holding [v] (eval o X.env)
      standAt pos.atName
      holding [v, ov] (setAttr ov f v)
      release [v, ov] []) := by intro _; rfl) : PG X (.Attribute o f pos) (rdG Z [] (Tg.fld T fo f)) := by
  refine PG_imp (pg_attr ho ha) fun v σ H Q ⟨d, δ, ρ, g, G, S, r, h⟩ => ⟨δ, ρ, g, G, S, (PostR.eF_to (PostR.bind h)).imp (fun x ρ1 H1 g1 m1 G1 h1 w rw' => ?_) fun _ _ _ _ _ _ _ q => q⟩
  cases rw' with
  | ref hn =>
    rename_i a' n
    cases e0 : g1[n]? with
    | none => simp only [setF, e0] at h1; exact h1.elim
    | some o => cases o with
      | ins c fs =>
        simp only [setF, e0] at h1
        cases e1 : T[c]? with
        | none => simp only [e1] at h1; exact h1.elim
        | some k =>
          simp only [e1] at h1
          split at h1
          · rename_i hc
            rw [Bool.and_eq_true, decide_eq_true_eq] at hc
            obtain ⟨dx, xs, a1, a2⟩ := G1.ins hn e0
            rw [hX.hK]
            refine ⟨a', _, dx, xs, rfl, a1, C.cls c k e1, C.fld c k f e1 hc.1, by rw [a2.length]; exact hc.2, ?_⟩
            have mm := Mw.mk (ρ := ρ1) (H := H1) (ρ' := ρ1) (H' := upd H1 a' (.ins (Z.cls c) dx (L2.putF f v xs))) ⟨[], by simp⟩ (.upd (fun ys z => by rw [a1] at z; cases z) (fun ob u z => by rw [a1] at z; cases z))
            have q := G1.set (o := .ins c (DV.putF f d fs)) (ho := .ins (Z.cls c) dx (L2.putF f v xs)) e0 hn ⟨dx, _, upd_same, RelF.put ((r.mono m1).monoW mm) (a2.monoW mm)⟩
            exact (show PostR Z ρ1 H1 (.ok δ (g1.set n (.ins c (DV.putF f d fs)))) _ _ from h1) ρ1 _ q.2 q.1 σ ((S.mono m1).mono q.2) .refl
          · exact h1.elim
      | _ => simp only [setF, e0] at h1; exact (show False from h1).elim
  | _ => exact (show False from h1).elim

/-! ### o[i] = v -/
theorem dg_sub {i : Expr} (hX : XOk Z X N sc W m) (ho : PE X o (rdE Z W fo)) (hi : PE X i (rdE Z W fi)) (ha : ∀ v, assign (.Subscript o i pos) X.env v = (do
      let ov ← holding [v] (eval o X.env)
      let iv ← holding [v, ov] (eval i X.env)
      standAt pos
      holding [v, ov, iv] (setItem ov iv v)
      release [v, ov, iv] []) := by intro _; rfl) : PG X (.Subscript o i pos) (rdG Z [] (Tg.sub fo fi)) := by
  refine PG_imp (pg_sub ho hi set_list ha) fun v σ H Q ⟨d, δ, ρ, g, G, S, r, h⟩ => ⟨δ, ρ, g, G, S, (PostR.eF_to (PostR.bind h)).imp (fun x ρ1 H1 g1 m1 G1 h1 w rw' => ?_) fun _ _ _ _ _ _ _ q => q⟩
  refine ⟨δ, ρ1, g1, G1, S.mono m1, (PostR.eF_to (PostR.bind h1)).imp (fun y ρ2 H2 g2 m2 G2 h2 u ru => ?_) fun _ _ _ _ _ _ _ q => q⟩
  have rw2 := rw'.mono m2
  cases rw2 with
  | ref hn =>
    rename_i a' n
    cases e0 : g2[n]? with
    | none => simp only [setI, e0] at h2; exact h2.elim
    | some o => cases o with
      | lst xs =>
        cases ru with
        | int k =>
          simp only [setI, e0] at h2
          cases e1 : DV.ixN xs.length k with
          | none => simp only [e1] at h2; exact h2.elim
          | some j =>
            simp only [e1] at h2
            obtain ⟨vs, a1, a2⟩ := G2.lst hn e0
            refine ⟨a', vs, k, j, rfl, rfl, a1, by rw [a2.length]; exact e1, ?_⟩
            have mm := Mw.mk (ρ := ρ2) (H := H2) (ρ' := ρ2) (H' := upd H2 a' (.lst (vs.set j v))) ⟨[], by simp⟩ (.upd (fun ys z => by rw [a1] at z; cases z) (fun ob u z => by rw [a1] at z; cases z))
            have q := G2.set (o := .lst (xs.set j d)) (ho := .lst (vs.set j v)) e0 hn ⟨_, upd_same, RelDs.set (((r.mono m1).mono m2).monoW mm) j (a2.monoW mm)⟩
            exact (show PostR Z ρ2 H2 (.ok δ (g2.set n (.lst (xs.set j d)))) _ _ from h2) ρ2 _ q.2 q.1 σ (((S.mono m1).mono m2).mono q.2) .refl
        | _ => simp only [setI, e0] at h2; exact (show False from h2).elim
      | dic kvs => simp only [setI, e0] at h2; exact (show False from h2).elim
      | dit kvs => simp only [setI, e0] at h2; exact (show False from h2).elim
      | ins c fs => simp only [setI, e0] at h2; exact (show False from h2).elim
  | _ => exact (show False from h2).elim

/-! ### methods of lists -/
/-- a method, by values -/
def rM (Z : Tab) (b : Mt) : V → List V → Hp → VK → Prop := fun v vs H Q => ∃ d ds ρ g e, RelG Z ρ H g ∧ RelD Z ρ H v d ∧ RelDs Z ρ H vs ds ∧ PostR Z ρ H (DV.mth b d ds g) (kV Z Q) e
theorem isL_lst {ρ : List Addr} {H : Hp} {g : G} (G : RelG Z ρ H g) {v : V} {d : D} (r : RelD Z ρ H v d) (h : isL true g d = true) : tyV Z.K "list" v H := by
  cases r with
  | ref hn =>
    simp only [isL] at h
    split at h
    · rename_i xs e0
      obtain ⟨vs, a1, a2⟩ := G.lst hn e0
      exact .inl ⟨rfl, vs, SqL.of a1⟩
    · cases h
    · cases h
  | _ => cases h
theorem de_mth0 {name : Str} {id : String} (b : Mt) (hK : X.K = Z.K) (slot : Slot "list" name id) (hty : typeOf (.builtin id) = pure (.type "method_descriptor")) (hm : MtR X id (rM Z b)) (ho : PE X o (rdE Z W fo)) (hb : b.onLst = true := by rfl)
    (hbase : attributeBase o name X.env (eval o X.env) = eval o X.env := by rfl) (hline : (apos.endLine == cpos.line) = true := by rfl) : PE X (.Call (.Attribute o name apos) [] [] cpos) (rdE Z W (Ex.mth b fo exNil)) := by
  refine PE_imp (pe_bm0 PySem.F.plainAttrs_list slot hty hm ho hbase hline) fun σ H Q ⟨δ, ρ, g, G, S, h⟩ => ⟨δ, ρ, g, G, S, (PostR.bind h).imp (fun d ρ1 H1 g1 m1 G1 h1 v rv => ?_) fun _ _ _ _ _ _ _ q => q⟩
  rw [hb] at h1
  split at h1
  · rename_i hl
    exact ⟨by rw [hK]; exact isL_lst G1 rv hl, d, [], ρ1, g1, _, G1, rv, .nil, h1⟩
  · exact h1.elim
theorem de_mth {name : Str} {id : String} (b : Mt) (hK : X.K = Z.K) (slot : Slot "list" name id) (hty : typeOf (.builtin id) = pure (.type "method_descriptor")) (hm : MtR X id (rM Z b)) (ho : PE X o (rdE Z W fo)) (ha : PA X (e :: es) (rdA Z W fs)) (hb : b.onLst = true := by rfl)
    (hbase : attributeBase o name X.env (eval o X.env) = eval o X.env := by rfl)
    (hfew : ((backTo cpos (starEach (e :: es) X.env)).all (fun x => !x.1) && (backToKw cpos (keywordEach [] X.env)).all (fun x => x.1.isSome)
      && decide ((e :: es).length + ([] : List Keyword).length + (if ([] : List Keyword).isEmpty then 0 else 1) < 30)) = true := by rfl)
    (hline : (apos.endLine == cpos.line) = true := by rfl) (hs : starEach (e :: es) X.env = (false, eval e X.env) :: starEach es X.env := by rfl) (hplain : (backTo cpos (starEach es X.env)).any (·.1) = false := by rfl) : PE X (.Call (.Attribute o name apos) (e :: es) [] cpos) (rdE Z W (Ex.mth b fo fs)) := by
  refine PE_imp (pe_bm PySem.F.plainAttrs_list slot hty hm ho ha hbase hfew hline hs hplain) fun σ H Q ⟨δ, ρ, g, G, S, h⟩ => ⟨δ, ρ, g, G, S, (PostR.bind h).imp (fun d ρ1 H1 g1 m1 G1 h1 v rv => ?_) fun _ _ _ _ _ _ _ q => q⟩
  rw [hb] at h1
  split at h1
  · rename_i hl
    exact ⟨by rw [hK]; exact isL_lst G1 rv hl, δ, ρ1, g1, G1, S.mono m1, (PostR.bind h1).imp (fun ds ρ2 H2 g2 m2 G2 h2 vs rvs => ⟨d, ds, ρ2, g2, _, G2, rv.mono m2, rvs, h2⟩) fun _ _ _ _ _ _ _ q => q⟩
  · exact h1.elim
theorem updL {ρ : List Addr} {H : Hp} {a : Addr} {vs : List V} {o : HO} (a1 : H a = some (.lst vs)) : Mw ρ H ρ (upd H a o) := ⟨⟨[], by simp⟩, .upd (fun ys z => by rw [a1] at z; cases z) (fun ob u z => by rw [a1] at z; cases z)⟩
theorem m_append : MtR X "list.append" (rM Z .append) := by
  intro pins s σ H x xs v us Q I rx rxs ⟨d, ds, ρ, g, e, G, r, rs, h⟩
  cases r with
  | @ref a' n hn =>
    match ds, rs, h with
    | [y], rs, h =>
      obtain ⟨w, rfl, rv⟩ := rs.one
      simp only [DV.mth] at h
      split at h
      · rename_i zs e0
        split at h
        · rename_i hl
          obtain ⟨vs, a1, a2⟩ := G.lst hn e0
          have q := G.set (o := .lst (zs ++ [y])) (ho := .lst (vs ++ [w])) e0 hn ⟨_, upd_same, (a2.monoW (updL a1)).append (.cons (rv.monoW (updL a1)) .nil)⟩
          exact mt_append pins s σ H _ _ v us Q I rx rxs ⟨a', vs, w, rfl, rfl, a1, by rw [a2.length, ← line_eq]; exact hl, h ρ _ q.2 q.1 _ .non⟩
        · exact h.elim
      · exact h.elim
    | [], _, h => exact (show False from h).elim
    | _ :: _ :: _, _, h => exact (show False from h).elim
  | _ => exact (show False by match ds, h with
    | [], h => exact h
    | [_], h => exact h
    | _ :: _ :: _, h => exact h).elim
theorem m_pop : MtR X "list.pop" (rM Z .pop) := by
  intro pins s σ H x xs v us Q I rx rxs ⟨d, ds, ρ, g, e, G, r, rs, h⟩
  cases r with
  | @ref a' n hn =>
    match ds, rs, h with
    | [], rs, h =>
      cases rs
      simp only [DV.mth] at h
      split at h
      · rename_i zs e0
        split at h
        · rename_i y hl
          obtain ⟨vs, a1, a2⟩ := G.lst hn e0
          rw [List.getLast?_eq_getElem?] at hl
          obtain ⟨w, w1, w2⟩ := a2.get hl
          have q := G.set (o := .lst zs.dropLast) (ho := .lst vs.dropLast) e0 hn ⟨_, upd_same, (a2.monoW (updL a1)).dropLast⟩
          exact mt_pop pins s σ H _ _ v us Q I rx rxs ⟨a', vs, w, rfl, rfl, a1, by rw [a2.length]; exact w1, h ρ _ q.2 q.1 _ (w2.mono q.2)⟩
        · exact h.elim
      · exact h.elim
    | _ :: _, _, h => exact (show False from h).elim
  | _ => exact (show False by match ds, h with
    | [], h => exact h
    | [_], h => exact h
    | _ :: _ :: _, h => exact h).elim
theorem m_popAt : MtR X "list.pop" (rM Z .popAt) := by
  intro pins s σ H x xs v us Q I rx rxs ⟨d, ds, ρ, g, e, G, r, rs, h⟩
  cases r with
  | @ref a' n hn =>
    match ds, rs, h with
    | [.int i], rs, h =>
      obtain ⟨w, rfl, rv⟩ := rs.one
      cases rv
      simp only [DV.mth] at h
      split at h
      · rename_i zs e0
        split at h
        · rename_i j hj
          split at h
          · rename_i y hy
            split at hj
            · rename_i hb
              obtain ⟨vs, a1, a2⟩ := G.lst hn e0
              obtain ⟨w, w1, w2⟩ := a2.get hy
              have q := G.set (o := .lst (zs.eraseIdx j)) (ho := .lst (vs.eraseIdx j)) e0 hn ⟨_, upd_same, (a2.monoW (updL a1)).eraseIdx j⟩
              exact mt_popAt pins s σ H _ _ v us Q I rx rxs ⟨a', vs, i, j, w, rfl, rfl, a1, by omega, by omega, by rw [a2.length]; exact (ixN_seq hj).1, w1, h ρ _ q.2 q.1 _ (w2.mono q.2)⟩
            · cases hj
          · exact h.elim
        · exact h.elim
      · exact h.elim
    | [.bl _], _, h => exact (show False from h).elim
    | [.non], _, h => exact (show False from h).elim
    | [.str _], _, h => exact (show False from h).elim
    | [.tup _], _, h => exact (show False from h).elim
    | [.ref _], _, h => exact (show False from h).elim
    | [.fn _], _, h => exact (show False from h).elim
    | [.exc _ _], _, h => exact (show False from h).elim
    | [.rol _], _, h => exact (show False from h).elim
    | [], _, h => exact (show False from h).elim
    | x :: _ :: _, _, h => exact (show False by cases x <;> exact h).elim
  | _ => exact (show False by match ds, h with
    | [], h => exact h
    | [x], h => cases x <;> exact h
    | x :: _ :: _, h => cases x <;> exact h).elim
theorem m_extend : MtR X "list.extend" (rM Z .extend) := by
  intro pins s σ H x xs v us Q I rx rxs ⟨d, ds, ρ, g, e, G, r, rs, h⟩
  cases r with
  | @ref a' n hn =>
    match ds, rs, h with
    | [.ref k], rs, h =>
      obtain ⟨w, rfl, rv⟩ := rs.one
      cases rv with
      | @ref b' _ hk =>
        simp only [DV.mth] at h
        split at h
        · rename_i zs ys e0 e1
          split at h
          · rename_i hl
            obtain ⟨vs, a1, a2⟩ := G.lst hn e0
            obtain ⟨us2, b1, b2⟩ := G.lst hk e1
            have q := G.set (o := .lst (zs ++ ys)) (ho := .lst (vs ++ us2)) e0 hn ⟨_, upd_same, (a2.monoW (updL a1)).append (b2.monoW (updL a1))⟩
            exact mt_extend pins s σ H _ _ v us Q I rx rxs ⟨a', b', vs, us2, rfl, rfl, a1, b1, by rw [a2.length, b2.length, ← line_eq]; exact hl, h ρ _ q.2 q.1 _ .non⟩
          · exact h.elim
        · exact h.elim
    | [.bl _], _, h => exact (show False from h).elim
    | [.non], _, h => exact (show False from h).elim
    | [.str _], _, h => exact (show False from h).elim
    | [.tup _], _, h => exact (show False from h).elim
    | [.int _], _, h => exact (show False from h).elim
    | [.fn _], _, h => exact (show False from h).elim
    | [.exc _ _], _, h => exact (show False from h).elim
    | [.rol _], _, h => exact (show False from h).elim
    | [], _, h => exact (show False from h).elim
    | x :: _ :: _, _, h => exact (show False by cases x <;> exact h).elim
  | _ => exact (show False by match ds, h with
    | [], h => exact h
    | [x], h => cases x <;> exact h
    | x :: _ :: _, h => cases x <;> exact h).elim
end
end DV
end
section
set_option Elab.async false
set_option linter.all false
set_option maxRecDepth 100000
namespace DV
open PySem PySem.Spec PyProof.Rows L2 RZ

/-! ### a call's end -/
section
variable {Z : Tab} {ρ ρ' : List Addr} {H H' : Hp}
theorem get_low {t : List Addr} {n : Nat} {a : Addr} (h : (ρ ++ t)[n]? = some a) (hl : n < ρ.length) : ρ[n]? = some a := by rw [List.getElem?_append_left hl] at h; exact h
mutual
theorem RelD.lower {t : List Addr} : ∀ {v : V} {d : D}, RelD Z (ρ ++ t) H v d → d.low ρ.length = true → RelD Z ρ H v d
  | _, _, .non, _ => .non
  | _, _, .bl b, _ => .bl b
  | _, _, .int i, _ => .int i
  | _, _, .str s, _ => .str s
  | _, _, .tup h r, l => .tup h (RelDs.lower r (by rw [D.low] at l; exact l))
  | _, _, .ref h, l => .ref (get_low h (by rw [D.low, decide_eq_true_eq] at l; exact l))
  | _, _, .fn n, _ => .fn n
  | _, _, .rol h, _ => .rol h
theorem RelDs.lower {t : List Addr} : ∀ {v : List V} {d : List D}, RelDs Z (ρ ++ t) H v d → D.lows ρ.length d = true → RelDs Z ρ H v d
  | _, _, .nil, _ => .nil
  | _, _, .cons r rs, l => by
    rw [D.lows, Bool.and_eq_true] at l
    exact .cons (RelD.lower r l.1) (RelDs.lower rs l.2)
end
mutual
theorem RelD.isLow : ∀ {v : V} {d : D}, RelD Z ρ H v d → d.low ρ.length = true
  | _, _, .non => rfl
  | _, _, .bl b => rfl
  | _, _, .int i => rfl
  | _, _, .str s => rfl
  | _, _, .tup h r => by rw [D.low]; exact RelDs.isLow r
  | _, _, .ref h => by rw [D.low, decide_eq_true_eq]; exact (List.getElem?_eq_some_iff.mp h).1
  | _, _, .fn n => rfl
  | _, _, .rol h => rfl
theorem RelDs.isLow : ∀ {v : List V} {d : List D}, RelDs Z ρ H v d → D.lows ρ.length d = true
  | _, _, .nil => rfl
  | _, _, .cons r rs => by rw [D.lows, Bool.and_eq_true]; exact ⟨RelD.isLow r, RelDs.isLow rs⟩
end
theorem RelF.lower {t : List Addr} : ∀ {v : List (Str × V)} {d : List (Str × D)}, RelF Z (ρ ++ t) H v d → (d.all fun p => p.2.low ρ.length) = true → RelF Z ρ H v d
  | _, _, .nil, _ => .nil
  | _, _, .cons r rs, l => by
    rw [List.all_cons, Bool.and_eq_true] at l
    exact .cons (r.lower l.1) (RelF.lower rs l.2)
theorem RelF.isLow : ∀ {v : List (Str × V)} {d : List (Str × D)}, RelF Z ρ H v d → (d.all fun p => p.2.low ρ.length) = true
  | _, _, .nil => rfl
  | _, _, .cons r rs => by rw [List.all_cons, Bool.and_eq_true]; exact ⟨r.isLow, RelF.isLow rs⟩
theorem RelK.lower {t : List Addr} : ∀ {v : List (L2.Key × V)} {d : List (D × D)}, RelK Z (ρ ++ t) H v d → (d.all fun p => p.1.low ρ.length && p.2.low ρ.length) = true → RelK Z ρ H v d
  | _, _, .nil, _ => .nil
  | _, _, .cons r rs, l => by
    rw [List.all_cons, Bool.and_eq_true, Bool.and_eq_true] at l
    exact .cons (r.lower l.1.2) (RelK.lower rs l.2)
theorem RelK.isLow : ∀ {v : List (L2.Key × V)} {d : List (D × D)}, RelK Z ρ H v d → (d.all fun p => p.1.low ρ.length && p.2.low ρ.length) = true
  | _, _, .nil => rfl
  | _, _, .cons (k := k) r rs => by rw [List.all_cons, Bool.and_eq_true, Bool.and_eq_true]; exact ⟨⟨by cases k <;> rfl, r.isLow⟩, RelK.isLow rs⟩
theorem RelN.lower {t : List Addr} : ∀ {v : List (NestedKey × Addr × Value)} {d : List (D × D)}, RelN Z (ρ ++ t) H v d → (d.all fun p => p.1.low ρ.length && p.2.low ρ.length) = true → RelN Z ρ H v d
  | _, _, .nil, _ => .nil
  | _, _, .cons e rk r ru rs, l => by
    rw [List.all_cons, Bool.and_eq_true, Bool.and_eq_true] at l
    exact .cons e (rk.lower l.1.1) (r.lower l.1.2) ru (RelN.lower rs l.2)
theorem RelN.isLow : ∀ {v : List (NestedKey × Addr × Value)} {d : List (D × D)}, RelN Z ρ H v d → (d.all fun p => p.1.low ρ.length && p.2.low ρ.length) = true
  | _, _, .nil => rfl
  | _, _, .cons e rk r ru rs => by rw [List.all_cons, Bool.and_eq_true, Bool.and_eq_true]; exact ⟨⟨rk.isLow, r.isLow⟩, RelN.isLow rs⟩
theorem RelO.lower {t : List Addr} {a : Addr} : ∀ {o : O}, RelO Z (ρ ++ t) H a o → o.low ρ.length = true → RelO Z ρ H a o
  | .lst _, ⟨xs, h, r⟩, l => ⟨xs, h, r.lower l⟩
  | .ins _ _, ⟨dx, xs, h, r⟩, l => ⟨dx, xs, h, r.lower l⟩
  | .dic _, ⟨xs, h, r⟩, l => ⟨xs, h, r.lower l⟩
  | .dit _, ⟨xs, h, r⟩, l => ⟨xs, h, r.lower l⟩
theorem RelO.isLow {a : Addr} : ∀ {o : O}, RelO Z ρ H a o → o.low ρ.length = true
  | .lst _, ⟨xs, h, r⟩ => r.isLow
  | .ins _ _, ⟨dx, xs, h, r⟩ => r.isLow
  | .dic _, ⟨xs, h, r⟩ => r.isLow
  | .dit _, ⟨xs, h, r⟩ => r.isLow
theorem RelX.lower {t : List Addr} {cls : Value} {dd : Option Addr} {c : Nat} {x : D} (r : RelX Z (ρ ++ t) H cls dd c x) (l : x.low ρ.length = true) : RelX Z ρ H cls dd c x := by
  refine ⟨r.1, r.2.1, ?_⟩
  have r2 := r.2.2
  cases q : Z.xf c with
  | none => rw [q] at r2; exact r2
  | some f =>
    rw [q] at r2
    obtain ⟨d, v, h1, h2, h3⟩ := r2
    exact ⟨d, v, h1, h2, h3.lower l⟩
theorem RelX.isLow {cls : Value} {dd : Option Addr} {c : Nat} {x : D} (r : RelX Z ρ H cls dd c x) : x.low ρ.length = true := by
  have r2 := r.2.2
  cases q : Z.xf c with
  | none => rw [q] at r2; rw [r2.2]; rfl
  | some f =>
    rw [q] at r2
    obtain ⟨d, v, h1, h2, h3⟩ := r2
    exact h3.isLow
theorem Mv.cut (m : Mv ρ H ρ' H') : Mv ρ H ρ H' := ⟨⟨⟨[], by simp⟩, m.ext⟩, m.fr, fun _ h n => absurd h n⟩
theorem RelG.cut {g g' : G} (G : RelG Z ρ H g) (m : Mv ρ H ρ' H') (G' : RelG Z ρ' H' g') (ho : oldOk g g' = true) : RelG Z ρ H' (g'.take g.length) := by
  obtain ⟨t, rfl⟩ := m.pre
  have hl : g.length ≤ g'.length := by rw [← G.len, ← G'.len, List.length_append]; omega
  refine ⟨by rw [List.length_take, G.len]; omega, G.nd, fun i o a h1 h2 => ?_⟩
  have hi : i < g.length := by rw [← G.len]; exact (List.getElem?_eq_some_iff.mp h2).1
  rw [List.getElem?_take_of_lt hi] at h1
  have r' := G'.obj i o a h1 (by rw [List.getElem?_append_left (by rw [G.len]; exact hi)]; exact h2)
  refine r'.lower ?_
  have z : (g[i], o) ∈ g.zip g' := by
    refine List.mem_iff_getElem?.mpr ⟨i, ?_⟩
    rw [List.getElem?_zip_eq_some]
    exact ⟨List.getElem?_eq_getElem hi, h1⟩
  have q := List.all_eq_true.mp ho _ z
  rw [Bool.or_eq_true, decide_eq_true_eq] at q
  rcases q with q | q
  · have r0 := (G.obj i g[i] a (List.getElem?_eq_getElem hi) h2).isLow
    dsimp only at q
    rw [← q]; exact r0
  · rw [G.len]; exact q
theorem PostR.gc {g : G} {r : R D} {Q : VK} {E : XK} (G : RelG Z ρ H g) (h : PostR Z ρ H (R.gc g r) (kV Z Q) (fun c x ρ' H' _ => ∀ cls dd, RelX Z ρ' H' cls dd c x → E cls dd H')) : PostR Z ρ H r (kV Z Q) (fun c x ρ' H' _ => ∀ cls dd, RelX Z ρ' H' cls dd c x → E cls dd H') := by
  cases r with
  | stuck => exact h
  | exc c x g' =>
    intro ρ' H' m G' cls dd rx
    simp only [R.gc] at h
    split at h
    · rename_i hc
      rw [Bool.and_eq_true] at hc
      have G2 := G.cut m G' hc.2
      obtain ⟨t, rfl⟩ := m.pre
      exact h ρ H' m.cut G2 cls dd (rx.lower (by rw [G.len]; exact hc.1))
    · exact h ρ' H' m G' cls dd rx
  | ok d g' =>
    intro ρ' H' m G' v rv
    have keep : PostR Z ρ H (.ok d g') (kV Z Q) (fun c x ρ' H' _ => ∀ cls dd, RelX Z ρ' H' cls dd c x → E cls dd H') → Q v H' := fun h => h ρ' H' m G' v rv
    simp only [R.gc, DV.gc] at h
    by_cases ho : oldOk g g' = true
    · have G2 := G.cut m G' ho
      rw [if_pos ho] at h
      by_cases hd : d.low g.length = true
      · rw [if_pos hd] at h
        obtain ⟨t, rfl⟩ := m.pre
        exact h ρ H' m.cut G2 v (rv.lower (by rw [G.len]; exact hd))
      · rw [if_neg hd] at h
        cases d with
        | ref n =>
          dsimp only at h
          cases e0 : g'[n]? with
          | none => rw [e0] at h; exact keep h
          | some o =>
            rw [e0] at h
            dsimp only at h
            by_cases hl : o.low g.length = true
            · rw [if_pos hl] at h
              have hn : g.length ≤ n := by
                simp only [D.low, decide_eq_true_eq] at hd
                omega
              obtain ⟨t, rfl⟩ := m.pre
              cases rv with
              | ref ha =>
                rename_i a
                have na : a ∉ ρ := fun z => by
                  obtain ⟨i, hi, e⟩ := List.getElem_of_mem z
                  have nd := G'.nd
                  have h1 : (ρ ++ t)[i]? = some a := by rw [List.getElem?_append_left hi, List.getElem?_eq_getElem hi, e]
                  obtain ⟨l1, e1⟩ := List.getElem?_eq_some_iff.mp h1
                  obtain ⟨l2, e2⟩ := List.getElem?_eq_some_iff.mp ha
                  have := (List.getElem_inj nd).mp (e1.trans e2.symm)
                  rw [← G.len] at hn
                  omega
                have ro := (G'.obj n o a e0 ha).lower (by rw [G.len]; exact hl)
                have hH : H a = none := m.nw a (List.mem_of_getElem? ha) na
                exact h (ρ ++ [a]) H' (m.cut.snoc hH) (G2.snoc na (ro.monoW ⟨⟨[a], rfl⟩, .refl H'⟩ rfl)) _ (.ref (RelG.get_push G.len))
            · rw [if_neg hl] at h
              exact keep h
        | _ => exact keep h
    · rw [if_neg ho] at h
      exact keep h
end

/-! ### defs -/
/-- an exception that a call lets out -/
abbrev eE (Z : Tab) (E : XK) : Nat → D → List Addr → Hp → G → Prop := fun c x ρ H _ => ∀ cls dd, RelX Z ρ H cls dd c x → E cls dd H
/-- what the def n does -/
def spD (Z : Tab) (cl : Cl) (n : Nat) : Sp := fun vs H Q E => ∃ ds ρ g, RelG Z ρ H g ∧ RelDs Z ρ H vs ds ∧ PostR Z ρ H (cl n ds g) (kV Z Q) (eE Z E)
/-- the def n, by a table -/
structure FT (Z : Tab) (lev : Nat) (cl : Cl) (n : Nat) : Prop where
  ex : ∃ (fd : FuncData) (ps : List Str), FnOk Z.P Z.w Z.K Z.mg Z.base (L2.CX Z.P Z.w) lev (Z.fn n) fd ps (spD Z cl n) ∧ PySem.W.keepIn Z.K (.ref (Z.fn n)) = true ∧ Binds Z.K fd ps []
theorem FT.mono {Z : Tab} {j k : Nat} {cl : Cl} {n : Nat} (F : FT Z j cl n) (h : j ≤ k) : FT Z k cl n := let ⟨fd, ps, a, b⟩ := F.ex; ⟨fd, ps, a.mono h, b⟩
/-- in the def itself (not in a block) -/
structure XFn (X : Cx) : Prop where
  pass : PassesOwn (model X.prog X.w) X.A X.env X.xe
  stk : X.stack = X.env :: X.outer
  frm : X.env.frame = some X.env.locals
  fn : ∀ x, X.fn x = true
theorem relS_start {Z : Tab} {ρ : List Addr} {H : Hp} {vs : List V} {ds : List D} {N : List Str} (r : RelDs Z ρ H vs ds) : RelS Z ρ H (L2.start N vs) (DV.start N.length ds) := by
  have hl := r.length
  refine ⟨by simp [L2.start, DV.start, hl], fun i d h => ?_⟩
  unfold DV.start at h
  unfold L2.start
  by_cases hi : i < ds.length
  · rw [List.getElem?_append_left (by simpa using hi), List.getElem?_map] at h
    cases q : ds[i]? with
    | none => rw [q] at h; cases h
    | some e =>
      rw [q] at h
      cases h
      obtain ⟨v, h1, h2⟩ := r.get q
      exact ⟨v, by rw [List.getElem?_append_left (by simpa [hl] using hi), List.getElem?_map, h1]; rfl, h2⟩
  · rw [List.getElem?_append_right (by simpa using hi), List.getElem?_replicate] at h
    split at h <;> cases h
theorem def_okF {Z : Tab} {i np k : Nat} {cl' : Cl} {x qual : Str} {st : Stmt} {fd : FuncData} {N ps : List Str} {b : Sm} (F : Fun Z.K x qual st (Z.fn i) fd) (S : FnScope N ps (defScope st)) (hcl : cl' i = body np N.length b) (hnp : np = ps.length)
    (hbody : ∀ (X : Cx) (W : WX), XOk Z X N (defScope st) W k → XFn X → PSs X (defBody st) (rdS Z W b)) : FnOk Z.P Z.w Z.K Z.mg Z.base (L2.CX Z.P Z.w) (k + 1) (Z.fn i) fd ps (spD Z cl' i) := by
  refine Fun.okX F S (fun vs H Q E h => ?_) (fun cdv A outer s H vs Q E hr hsp => ?_)
  · obtain ⟨ds, ρ, g, G, r, h⟩ := h
    rw [hcl, body] at h
    split at h
    · rename_i hl
      rw [r.length, hl, hnp]
    · exact h.elim
  · obtain ⟨ds, ρ, g, G, r, h⟩ := hsp
    rw [hcl, body] at h
    split at h
    · rename_i hl
      refine ⟨_, hbody _ (fun cls d _ H => E cls d H) ⟨rfl, rfl, rfl, rfl, rfl, rfl, rfl, S.nd, hr, rfl, takes_of rfl rfl rfl rfl⟩ ⟨passes_of rfl, rfl, rfl, fun _ => rfl⟩, DV.start N.length ds, ρ, g, G, relS_start r, ?_⟩
      have h2 := PostR.gc G h
      cases e : b (DV.start N.length ds) g with
      | stuck => rw [e] at h2; exact h2
      | exc c x δ g' =>
        rw [e] at h2
        exact fun ρ' H' σ cls dd m G' _ rx => h2 ρ' H' m G' cls dd rx
      | ok f g' =>
        rw [e] at h2
        cases f with
        | nx δ => exact fun ρ' H' σ m G' _ => h2 ρ' H' m G' _ .non
        | rt d => exact fun ρ' H' v m G' rv => h2 ρ' H' m G' v rv
        | bk δ => exact (show False from h2).elim
        | ct δ => exact (show False from h2).elim
    · exact h.elim

theorem def_ok {Z : Tab} {i np k : Nat} {cl' : Cl} {x qual : Str} {st : Stmt} {fd : FuncData} {N ps : List Str} {b : Sm} (F : Fun Z.K x qual st (Z.fn i) fd) (S : FnScope N ps (defScope st)) (hcl : cl' i = body np N.length b) (hnp : np = ps.length) (hb : Binds Z.K fd ps [])
    (hbody : ∀ (X : Cx) (W : WX), XOk Z X N (defScope st) W k → XFn X → PSs X (defBody st) (rdS Z W b)) : FT Z (k + 1) cl' i := ⟨fd, ps, def_okF F S hcl hnp hbody, F.kp, hb⟩

/-! ### calls -/
section
variable {Z : Tab} {X : Cx} {W : WX} {N : List Str} {sc : Scope} {m lev n : Nat} {T : Clss} {cl : Cl} {a b c e o elt : Expr} {es ifs : List Expr} {fa fb fc fe fo fi : Ex} {fs : Exs} {pos p p2 apos cpos : Pos} {x : Str}
theorem FT.at {cl : Cl} (F : FT Z lev cl n) (hX : XOk Z X N sc W m) : ∃ fd ps, FnOk X.prog X.w X.K X.mg X.base (L2.CX X.prog X.w) lev (Z.fn n) fd ps (spD Z cl n) ∧ PySem.W.keepIn X.K (.ref (Z.fn n)) = true ∧ Binds X.K fd ps [] := by
  obtain ⟨fd, ps, h⟩ := F.ex
  exact ⟨fd, ps, by rw [hX.hP, hX.hw, hX.hK, hX.hM, hX.hB]; exact h⟩
theorem de_call (hX : XOk Z X N sc W m) (F : FT Z lev cl n) (hl : lev ≤ m) (hm : Z.mg x = some (.ref (Z.fn n))) (ha : PA X (e :: es) (rdA Z W fs)) (hg : sc.names.lookup x = some .globalImplicit := by rfl) (hdb : (x == ("__debug__" : Str)) = false := by decide)
    (he : starEach (e :: es) X.env = (false, eval e X.env) :: starEach es X.env := by rfl) (hpl : (backTo pos (starEach es X.env)).any (·.1) = false := by rfl) : PE X (.Call (.Name x p) (e :: es) [] pos) (rdE Z W (Ex.call cl n fs)) := by
  obtain ⟨fd, ps, F, hk, hb⟩ := F.at hX
  refine PE_imp (pe_callS F (hX.room.mono hl) (Gl_of hX hg) (by rw [hX.hM]; exact hm) hk hb (fun σ => passAt hX.takes σ) ha hdb he hpl) fun σ H Q ⟨δ, ρ, g, G, S, h⟩ => ⟨δ, ρ, g, G, S, (PostR.bind h).imp (fun ds ρ1 H1 g1 m1 G1 h1 vs rv => ?_) fun _ _ _ _ _ _ _ q => q⟩
  exact ⟨ds, ρ1, g1, G1, rv, h1⟩
/-- a call of a local name that holds a def -/
theorem de_callV {cnt : Nat} (hX : XOk Z X N sc W m) (F : ∀ n, n < cnt → FT Z lev cl n) (hl : lev ≤ m) (i : Nat) {x : Str} (ha : PA X (e :: es) (rdA Z W fs)) (hi : N[i]? = some x := by rfl) (hv : Vis sc x := by first | exact Or.inl rfl | exact Or.inr (Or.inl rfl) | exact Or.inr (Or.inr rfl)) (hdb : (x == ("__debug__" : Str)) = false := by decide) (hcd : (x == ("__classdict__" : Str)) = false := by decide)
    (he : starEach (e :: es) X.env = (false, eval e X.env) :: starEach es X.env := by rfl) (hpl : (backTo pos (starEach es X.env)).any (·.1) = false := by rfl) : PE X (.Call (.Name x p) (e :: es) [] pos) (rdE Z W (Ex.callV cl cnt i fs)) := by
  refine ⟨fun pins s σ H Q I ⟨δ, ρ, g, G, S, h⟩ => ?_⟩
  unfold Ex.callV Ex.loc at h
  split at h
  · rename_i d e0
    obtain ⟨v, h1, h2⟩ := S.get i d e0
    rw [R.bind_ok] at h
    cases h2 with
    | fn n =>
      dsimp only at h
      split at h
      · rename_i hn
        obtain ⟨fd, ps, F, hk, hb⟩ := (F n hn).at hX
        refine wpAny_Call_Name_kw (thn ((pe_var (pos := p) (by rw [hX.hN]; exact hi) (by rw [hX.sc]; exact hv) hdb hcd).run pins s σ H (fun v H1 => v = .ref (Z.fn n) ∧ H1 = H) I ⟨_, h1, rfl, rfl⟩) fun u s1 ⟨v, H1, I1, r1, q1⟩ => ?_)
        obtain ⟨rfl, rfl⟩ := q1
        cases r1
        refine PySem.W.callWith_K (h₀ := X.base) I.ok.mod.kin hk (thn (ha.run pos pins s1 σ _ (fun vs H1 => spD Z cl n vs H1 Q (WE W σ)) I1 ⟨δ, ρ, g, G, S, (PostR.bind h).imp (fun ds ρ1 H1 g1 m1 G1 h1 vs rv => ⟨ds, ρ1, g1, G1, rv, h1⟩) fun _ _ _ _ _ _ _ q => q⟩) fun us s2 ⟨vs, H2, I2, r, q⟩ => ⟨I2.kIn, ?_⟩) he hpl
        exact run_fnS F (hX.room.mono hl) hb (passAt hX.takes σ) I2 r q
      · exact (show False from h).elim
    | _ => exact (show False from h).elim
  · exact (show False from h).elim
/-! C(..) -/
theorem run_makeS {CX : CXT} {k : Nat} {f C : Addr} {fd : FuncData} {ps : List Str} {sp : Sp} {E : L2.St → XK} {pins : List (Addr × Obj)} {σ : L2.St} {H : Hp} {s : Shared} {Q : VK} {us : List Value} {vs : List V} (M : Mk X.K C f) (F : FnOk X.prog X.w X.K X.mg X.base CX k f fd ps sp) (hr : Room (k + 1) X.A) (hb : Binds X.K fd ps [])
    (hx : PassesAt CX X σ (E σ)) (I : L2.Inv X pins σ H s) (r : Vals vs us)
    (h : ∀ x dx, H x = none → H dx = none → dx ≠ x → sp (.ref x :: vs) (upd (upd H dx (.own x)) x (.ins C dx [])) (fun v H2 => v = .non ∧ Q (.ref x) H2) (E σ)) :
    wpAny (model X.prog X.w) X.A (PySem.call (.ref C) us) (EP X pins σ Q) X.xe s := by
  have hq := h (s.heap.objs.size + 1) s.heap.objs.size (I.hok.fresh (Nat.le_succ _)) (I.hok.fresh (Nat.le_refl _)) (Nat.ne_of_lt (Nat.lt_succ_self _))
  have I2 := L2.Inv.made (C := C) I
  have r2 : Vals (V.ref (s.heap.objs.size + 1) :: vs) (Value.ref (s.heap.objs.size + 1) :: us) := .cons rfl r
  have hl : (Value.ref (s.heap.objs.size + 1) :: us).length = ps.length := by
    have e := r2.length
    rw [F.len _ _ _ _ hq] at e
    exact e.symm
  have bb := hb _ (Value.ref (s.heap.objs.size + 1) :: us) I2.kIn (by rw [List.append_nil]; exact hl)
  rw [List.append_nil] at bb
  refine wpAny_call (make_map (f := f) I.kIn M.makes M.init (beq_iff_eq.mp M.fn) (codeAny_mono (F.run _ X.stack _ _ ⟨Value.ref (s.heap.objs.size + 1) :: us, []⟩ (Value.ref (s.heap.objs.size + 1) :: us) _ _ (E σ) (hr.make C us [])
    (I2.env0.make C us []) bb r2 hq) fun r s' hq' => ?_))
  cases r with
  | error e => exact hx pins _ _ e s' I2 hq'
  | ok fl =>
    cases fl with
    | ret u =>
      obtain ⟨v, H', I3, rv, ev, q3⟩ := I2.after hq'
      subst ev
      exact ⟨rv, ⟨V.ref (s.heap.objs.size + 1), H', I3, rfl, q3⟩⟩
    | next => exact False.elim hq'
    | brk => exact False.elim hq'
    | cont => exact False.elim hq'
theorem new_sp {ci i : Nat} {σ : L2.St} {ρ : List Addr} {H : Hp} {g : G} {vs : List V} {ds : List D} {Q : VK} (G : RelG Z ρ H g) (rv : RelDs Z ρ H vs ds)
    (h : PostR Z ρ H ((cl i (.ref g.length :: ds) (g ++ [.ins ci []])).bind fun v g' => match v with
    | .non => .ok (.ref g.length) g'
    | _ => .stuck) (kV Z Q) (eX Z W σ)) : ∀ x dx, H x = none → H dx = none → dx ≠ x → spD Z cl i (.ref x :: vs) (upd (upd H dx (.own x)) x (.ins (Z.cls ci) dx [])) (fun v H2 => v = .non ∧ Q (.ref x) H2) (WE W σ) := by
  intro x dx hx hd hne
  have m1 : Mv ρ H ρ (upd H dx (.own x)) := Mv.new hd
  have hx' : upd H dx (.own x) x = none := by rw [upd_ne (Ne.symm hne)]; exact hx
  have G1 := G.same (same_new (o := .own x) hd)
  have m2 : Mv ρ H (ρ ++ [x]) (upd (upd H dx (.own x)) x (.ins (Z.cls ci) dx [])) := m1.trans (Mv.push hx')
  have G2 := G1.push (o := .ins ci []) (ho := .ins (Z.cls ci) dx []) hx' ⟨dx, [], upd_same, .nil⟩
  refine ⟨.ref g.length :: ds, ρ ++ [x], g ++ [.ins ci []], G2, .cons (.ref (RelG.get_push G.len)) (rv.mono m2), (PostR.mv m2 (PostR.bind h)).imp (fun d ρ3 H3 g3 m3 G3 h3 v r3 => ?_) fun c x ρ3 H3 g3 m3 G3 q => q⟩
  cases r3 with
  | non => exact ⟨rfl, PostR.val (d := .ref g.length) h3 G3 (.ref (m3.get (RelG.get_push G.len)))⟩
  | _ => exact (show False from h3).elim
theorem de_new {ci i : Nat} (hX : XOk Z X N sc W m) (M : Mk Z.K (Z.cls ci) (Z.fn i)) (F : FT Z lev cl i) (hl : lev + 1 ≤ m) (hm : Z.mg x = some (.ref (Z.cls ci))) (ha : PA X (e :: es) (rdA Z W fs)) (hg : sc.names.lookup x = some .globalImplicit := by rfl) (hdb : (x == ("__debug__" : Str)) = false := by decide)
    (he : starEach (e :: es) X.env = (false, eval e X.env) :: starEach es X.env := by rfl) (hpl : (backTo pos (starEach es X.env)).any (·.1) = false := by rfl) : PE X (.Call (.Name x p) (e :: es) [] pos) (rdE Z W (Ex.new cl ci i fs)) := by
  obtain ⟨fd, ps, F, hk, hb⟩ := F.at hX
  refine ⟨fun pins s σ H Q I ⟨δ, ρ, g, G, S, h⟩ => ?_⟩
  have M' : Mk X.K (Z.cls ci) (Z.fn i) := by rw [hX.hK]; exact M
  refine wpAny_Call_Name_kw (ld_glob I (Gl_of hX hg) (by rw [hX.hM]; exact hm) ?_ hdb)
  refine PySem.W.callWith_K (h₀ := X.base) I.ok.mod.kin M'.kp (thn (ha.run pos pins s σ H (fun vs H1 => ∀ x dx, H1 x = none → H1 dx = none → dx ≠ x → spD Z cl i (.ref x :: vs) (upd (upd H1 dx (.own x)) x (.ins (Z.cls ci) dx [])) (fun v H2 => v = .non ∧ Q (.ref x) H2) (WE W σ)) I
    ⟨δ, ρ, g, G, S, (PostR.bind h).imp (fun ds ρ1 H1 g1 m1 G1 h1 vs rv => new_sp G1 rv h1) fun _ _ _ _ _ _ _ q => q⟩) fun us s1 ⟨vs, H1, I1, r, q⟩ => ⟨I1.kIn, ?_⟩) he hpl
  exact run_makeS M' F (hX.room.mono hl) hb (passAt hX.takes σ) I1 r q
theorem de_new0 {ci i : Nat} (hX : XOk Z X N sc W m) (M : Mk Z.K (Z.cls ci) (Z.fn i)) (F : FT Z lev cl i) (hl : lev + 1 ≤ m) (hm : Z.mg x = some (.ref (Z.cls ci))) (hg : sc.names.lookup x = some .globalImplicit := by rfl) (hdb : (x == ("__debug__" : Str)) = false := by decide) : PE X (.Call (.Name x p) [] [] pos) (rdE Z W (Ex.new cl ci i exNil)) := by
  obtain ⟨fd, ps, F, hk, hb⟩ := F.at hX
  refine ⟨fun pins s σ H Q I ⟨δ, ρ, g, G, S, h⟩ => ?_⟩
  have M' : Mk X.K (Z.cls ci) (Z.fn i) := by rw [hX.hK]; exact M
  refine wpAny_Call_Name_kw (ld_glob I (Gl_of hX hg) (by rw [hX.hM]; exact hm) ?_ hdb)
  exact PySem.W.callWith_K0 I.kIn M'.kp (run_makeS (us := []) M' F (hX.room.mono hl) hb (passAt hX.takes σ) I .nil (new_sp G .nil h))
/-! o.m(..) -/
theorem meth_of {ρ : List Addr} {H : Hp} {g : G} (C : ClsOk Z T) (G : RelG Z ρ H g) {v : V} {d : D} {ci : Nat} {fs : List (Str × D)} {k : DV.Cls} {n : Nat} {f : Nat} {mn : Str} (hd : d = .ref n) (r : RelD Z ρ H v d) (e0 : g[n]? = some (.ins ci fs)) (e1 : T[ci]? = some k) (e2 : k.meths.lookup mn = some f) (e3 : fs.lookup mn = none) :
    ∃ a dx xs, v = .ref a ∧ H a = some (.ins (Z.cls ci) dx xs) ∧ L2.Cls Z.K (Z.cls ci) ∧ Meth Z.K (Z.cls ci) mn (Z.fn f) ∧ xs.lookup mn = none := by
  subst hd
  cases r with
  | ref hn =>
    obtain ⟨dx, xs, a1, a2⟩ := G.ins hn e0
    exact ⟨_, dx, xs, rfl, a1, C.cls ci k e1, C.mth ci k mn f e1 e2, a2.none e3⟩
theorem de_meth {pl : Sem Bool} {mn : Str} {cnt : Nat} (hX : XOk Z X N sc W m) (C : ClsOk Z T) (F : ∀ n, n < cnt → FT Z lev cl n) (hl : lev ≤ m) (hT : (T.all fun k => k.meths.all fun q => decide (q.2 < cnt)) = true) (ho : PE X o (rdE Z W fo)) (ha : PA X (e :: es) (rdA Z W fs))
    (ht : eval (.Call (.Attribute o mn apos) (e :: es) [] pos) X.env = (do
      let ov ← eval o X.env
      standAt apos.atName
      let (f, first) ← holding [ov] (getMethod ov mn pl)
      callWith pos f first (backTo pos (starEach (e :: es) X.env)) (backToKw pos (keywordEach [] X.env))))
    (hst : starEach (e :: es) X.env = (false, eval e X.env) :: starEach es X.env := by rfl) (hpl : (backTo pos (starEach es X.env)).any (·.1) = false := by rfl) : PE X (.Call (.Attribute o mn apos) (e :: es) [] pos) (rdE Z W (Ex.meth T cl fo mn fs)) := by
  refine ⟨fun pins s σ H Q I ⟨δ, ρ, g, G, S, h⟩ => ?_⟩
  refine PySem.W.methodCall_KW (pl := pl) (thn (ho.run pins s σ H (fun v H1 => ∃ n ρ1 g1 ci fs0 k f, RelG Z ρ1 H1 g1 ∧ RelS Z ρ1 H1 σ δ ∧ RelD Z ρ1 H1 v (.ref n) ∧ g1[n]? = some (.ins ci fs0) ∧ T[ci]? = some k ∧ k.meths.lookup mn = some f ∧ fs0.lookup mn = none ∧ PostR Z ρ1 H1 ((fs δ g1).bind fun ds g => cl f (.ref n :: ds) g) (kV Z Q) (eX Z W σ)) I
    ⟨δ, ρ, g, G, S, (PostR.bind h).imp (fun d ρ1 H1 g1 m1 G1 h1 v rv => ?_) fun _ _ _ _ _ _ _ q => q⟩) fun u s1 ⟨v, H1, I1, ru, n, ρ1, g1, ci, fs0, k, f, G1, S1, rv, e0, e1, e2, e3, h1⟩ => ?_) ht
  · cases d with
    | ref n =>
      dsimp only at h1
      cases e0 : g1[n]? with
      | none => rw [e0] at h1; exact h1.elim
      | some ob => cases ob with
        | ins ci fs0 =>
          rw [e0] at h1
          dsimp only at h1
          cases e1 : T[ci]? with
          | none => rw [e1] at h1; exact h1.elim
          | some k =>
            rw [e1] at h1
            dsimp only at h1
            split at h1
            · rename_i f e2 e3
              exact ⟨n, ρ1, g1, ci, fs0, k, f, G1, S.mono m1, rv, e0, e1, e2, e3, h1⟩
            · exact h1.elim
        | _ => rw [e0] at h1; exact (show False from h1).elim
    | _ => exact (show False from h1).elim
  · obtain ⟨a, dx, xs, rfl, ea, c, hm, l⟩ := meth_of C G1 rfl rv e0 e1 e2 e3
    obtain rfl : u = Value.ref a := ru
    have hf : f < cnt := by
      have q1 := List.all_eq_true.mp hT k (List.mem_of_getElem? e1)
      have q2 := List.all_eq_true.mp q1 (mn, f) (PySem.mem_of_lookup e2)
      simpa using q2
    obtain ⟨fd, ps, F, hk, hb⟩ := (F f hf).at hX
    have hm' : Meth X.K (Z.cls ci) mn (Z.fn f) := by rw [hX.hK]; exact hm
    refine getmeth_ok I1 ea (by rw [hX.hK]; exact c) hm' l ?_
    refine PySem.W.callWith_K (first := [.ref a]) (h₀ := X.base) I.ok.mod.kin hm'.kp (thn (ha.run pos pins s1 σ H1 (fun vs H2 => spD Z cl f (.ref a :: vs) H2 Q (WE W σ)) I1 ⟨δ, ρ1, g1, G1, S1, (PostR.bind h1).imp (fun ds ρ2 H2 g2 m2 G2 h2 vs rvs => ⟨_, ρ2, g2, G2, .cons (rv.mono m2) rvs, h2⟩) fun _ _ _ _ _ _ _ q => q⟩) fun us s2 ⟨vs, H2, I2, r, q2⟩ => ⟨I2.kIn, ?_⟩) hst hpl
    exact run_fnS (us := .ref a :: us) (vs := .ref a :: vs) F (hX.room.mono hl) hb (passAt hX.takes σ) I2 (.cons rfl r) q2
end
end DV
end
section
set_option Elab.async false
set_option linter.all false
set_option maxRecDepth 100000
namespace DV
open PySem PySem.Spec PyProof.Rows L2 RZ
section
variable {Z : Tab} {X : Cx} {W : WX} {N : List Str} {sc : Scope} {m lev n : Nat} {T : Clss} {cl : Cl} {a b c e o elt : Expr} {es ifs : List Expr} {fa fb fc fe fo fi : Ex} {fs : Exs} {pos p p2 apos cpos : Pos} {x : Str} {s1 : Sm}
/-- X(), X an own exception class without own __init__ -/
theorem pmk_own0 {C : Addr} {bmB : List Value} {B newId initId : String} {x : Str} {p : Pos} (F : ExcBaseFacts B newId initId bmB) (q : PySem.W.excIn X.K C bmB newId = true) (gC : X.mg x = some (.ref C))
    (kC : PySem.W.keepIn X.K (.ref C) = true) (r : Raises X (.ref C)) (hg : Gl X x) (hdb : (x == ("__debug__" : Str)) = false := by decide) :
    PMk X (.Call (.Name x p) [] [] pos) (fun _ H Q => Q (.ref C) none H) := by
  intro pins s σ H Q I h
  refine wpAny_Call_Name_kw (ld_glob I hg gC ?_ hdb)
  refine PySem.W.callWith_K0 I.kIn kC ?_
  show wpAny _ _ (PySem.call (.ref C) []) _ _ _
  obtain ⟨bm, N, nm, qn, bs, hdct, sn, sub, ab, col, dd, k0, k1, k2, k3, k5, mN, hC, hN, hni, T⟩ := exc_obj I.kIn q
  refine wpAny_call_exc_subT F T hC hN hni (fun h' e hm => ?_) (by show 0 ≤ sizeLine; omega)
  exact mk_of I hm r h (I.hok.gone hm.new)
/-- an own exception class, as the table has it -/
structure ExcOk (Z : Tab) (c : Nat) : Prop where
  lt : c < Z.ne
  xf : Z.xf c = none
  ex : ∃ (B newId initId : String) (bmB : List Value), ExcBaseFacts B newId initId bmB ∧ PySem.W.excIn Z.K (Z.exc c) bmB newId = true
  kp : PySem.W.keepIn Z.K (.ref (Z.exc c)) = true
  rs : ∀ X : Cx, X.K = Z.K → X.prog = Z.P → X.w = Z.w → X.base = Z.base → X.mg = Z.mg → Raises X (.ref (Z.exc c))
theorem ds_raise0 (hX : XOk Z X N sc W m) (cx : Nat) (K : ExcOk Z cx) (hm : Z.mg x = some (.ref (Z.exc cx))) {pos' : Pos} (hg : sc.names.lookup x = some .globalImplicit := by rfl) (hdb : (x == ("__debug__" : Str)) = false := by decide) :
    PS X (.Raise (some (.Call (.Name x p) [] [] pos)) none pos') (rdS Z W (Sm.raise cx (Ex.cst .non))) := by
  obtain ⟨B, newId, initId, bmB, F, q⟩ := K.ex
  refine PS_imp (ps_raise hX.calm hX.takes (pmk_own0 F (by rw [hX.hK]; exact q) (by rw [hX.hM]; exact hm) (by rw [hX.hK]; exact K.kp) (K.rs X hX.hK hX.hP hX.hw hX.hB hX.hM) (Gl_of hX hg) hdb)) fun D σ H ⟨δ, ρ, g, G, S, h⟩ => ?_
  exact (show PostS Z W D ρ H (.exc cx .non δ g) from h) ρ H σ _ none (.refl ρ H) G S ⟨K.lt, rfl, by rw [K.xf]; exact ⟨rfl, rfl⟩⟩

/-! ### try -/
inductive HsOk (Z : Tab) (X : Cx) : List ExceptHandler → List Hd → Prop
  | nil : HsOk Z X [] []
  | cons {x : Str} {c : Nat} {b₀ : Stmt} {suite : List Stmt} {np pos' : Pos} {hds : List ExceptHandler} {l : List Hd} {s1 : Sm} (hc : Names X x (.ref (Z.exc c))) (hx : ∀ c', c' < Z.ne → PySem.W.exmOne Z.K (.ref (Z.exc c')) (.ref (Z.exc c)) = some (decide (c = c')))
      (hsu : ∀ (a : Addr) (oe : Obj) (pn : List (Addr × Obj)), PSs (X.suite a ((a, oe) :: pn)) (b₀ :: suite) (rdS Z W0 s1)) (r : HsOk Z X hds l) :
      HsOk Z X (.ExceptHandler (some (.Name x np)) none (b₀ :: suite) pos' :: hds) (⟨c, none, s1⟩ :: l)
theorem RS.hush_of {D : Ends} {ρ : List Addr} {H : Hp} {r : RS} (h : PostS Z W D ρ H (RS.hush r)) : PostS Z W0 D ρ H r := by
  cases r with
  | ok f g => cases f <;> exact h
  | exc c x δ g => exact (show False from h).elim
  | stuck => exact h
def hdsL (Z : Tab) : List Hd → List (Value × (Addr → Value → Option Addr → TS))
  | [] => []
  | h :: r => (.ref (Z.exc h.c), fun _ _ _ => rdS Z W0 h.s) :: hdsL Z r
theorem HsOk.hds {hds : List ExceptHandler} {l : List Hd} (h : HsOk Z X hds l) : HdsOk X hds (hdsL Z l) := by
  induction h with
  | nil => exact .nil
  | cons hc hx hsu r ih => exact .cons hc (fun a oe cls d pn _ _ => hsu a oe pn) ih
theorem wMany_of {hds : List ExceptHandler} {l : List Hd} (hh : HsOk Z X hds l) (hK : X.K = Z.K) {DE : Ends} {ρ : List Addr} {H : Hp} {σ : L2.St} {δ : Env} {g : G} {cx : Nat} {y : D} {cls : Value} {dd : Option Addr} (G : RelG Z ρ H g) (S : RelS Z ρ H σ δ) (rx : RelX Z ρ H cls dd cx y)
    (h : PostS Z W DE ρ H (handle l cx y δ g)) : wMany X.K W DE (hdsL Z l) cls dd σ H := by
  induction hh with
  | nil => exact (show PostS Z W DE ρ H (.exc cx y δ g) from h) ρ H σ cls dd (.refl ρ H) G S rx
  | @cons x c b₀ suite np pos' hds l s1 hc hx hsu r ih =>
    have rx1 := rx.1
    have rx2 := rx.2.1
    subst rx2
    refine ⟨decide (c = cx), by rw [hK]; exact hx cx rx1, fun hb a ha => ?_, fun hb => ?_⟩
    · have e : c = cx := of_decide_eq_true hb
      rw [handle, if_pos e] at h
      exact ⟨δ, ρ, g, G, S, RS.hush_of h⟩
    · have e : ¬ c = cx := of_decide_eq_false hb
      rw [handle, if_neg e] at h
      exact ih h
theorem ds_try {body : List Stmt} {h₀ : ExceptHandler} {hds : List ExceptHandler} {l : List Hd} (hX : XOk Z X N sc W m) (xf : XFn X) (hb : ∀ (W' : WX) (X' : Cx), XOk Z X' N sc W' m → XFn X' → PSs X' body (rdS Z W' s1)) (hh : HsOk Z X (h₀ :: hds) l) :
    PS X (.Try body (h₀ :: hds) [] [] pos) (rdS Z W (Sm.try s1 l)) := by
  refine PS_imp (ps_try_many xf.stk xf.frm hX.takes (fun W' pn xe tk ps => hb W' (X.tr pn xe) ⟨hX.hN, hX.hK, hX.hP, hX.hw, hX.hM, hX.hB, hX.sc, hX.nd, hX.room, hX.calm, tk⟩ ⟨ps, xf.stk, xf.frm, xf.fn⟩) hh.hds) fun D σ H ⟨δ, ρ, g, G, S, h⟩ => ⟨δ, ρ, g, G, S, ?_⟩
  unfold Sm.try at h
  cases e : s1 δ g with
  | ok f g' => rw [e] at h; cases f <;> exact h
  | stuck => rw [e] at h; exact h
  | exc cx y δ' g' =>
    rw [e] at h
    exact fun ρ' H' σ' cls dd m' G' S' rx => wMany_of hh hX.hK G' S' rx (PostS.mv m' h)
end
end DV
end
section
set_option Elab.async false
set_option linter.all false
set_option maxRecDepth 100000
namespace DV
open PySem PySem.Spec PyProof.Rows L2 RZ
section
variable {Z : Tab} {X : Cx} {W : WX} {N : List Str} {sc : Scope} {m : Nat} {a b c e kx vx : Expr} {es ifs : List Expr} {fa fb fc fk fv : Ex} {pos p p2 : Pos} {tc : Te} {t : Tg} {ws : List Nat} {tg iter : Expr} {fi : Ie} {scope : Scope} {own : List (Str × Nat)}
theorem RelK.map {ρ : List Addr} {H : Hp} {k : L2.Key} {v : V} {d : D} (r : RelD Z ρ H v d) : ∀ {xs : List (L2.Key × V)} {ds : List (D × D)}, RelK Z ρ H xs ds → (xs.any fun kv => decide (kv.1 = k)) = true → (xs.map (·.1)).Nodup → RelK Z ρ H (xs.map fun kv => if kv.1 = k then (kv.1, v) else kv) (dput ds (kD k) d)
  | _, _, .nil, h, _ => by simp at h
  | _, _, .cons (k := j) (x := x) (xs := xs) (ds := ds) q t, h, nd => by
    rw [List.map_cons, List.nodup_cons] at nd
    by_cases e : j = k
    · subst e
      have hn : (xs.map fun kv => if kv.1 = j then (kv.1, v) else kv) = xs := by
        refine Eq.trans (List.map_congr_left (g := id) fun kv hkv => ?_) (List.map_id _)
        refine if_neg fun z => ?_
        have q := List.mem_map_of_mem (f := Prod.fst) hkv
        rw [z] at q
        exact nd.1 q
      rw [List.map_cons, hn, dput, if_pos rfl]
      dsimp only
      rw [if_pos rfl]
      exact .cons r t
    · have e' : ¬ kD j = kD k := fun z => e (kD_inj z)
      rw [List.map_cons, dput, if_neg e']
      dsimp only
      rw [if_neg e]
      exact .cons q (RelK.map r t (by simpa [e] using h) nd.2)
theorem RelK.snoc {ρ : List Addr} {H : Hp} {k : L2.Key} {v : V} {d : D} (r : RelD Z ρ H v d) : ∀ {xs : List (L2.Key × V)} {ds : List (D × D)}, RelK Z ρ H xs ds → (xs.any fun kv => decide (kv.1 = k)) = false → RelK Z ρ H (xs ++ [(k, v)]) (dput ds (kD k) d)
  | _, _, .nil, h => .cons r .nil
  | _, _, .cons (k := j) q t, h => by
    rw [List.any_cons, Bool.or_eq_false_iff, decide_eq_false_iff_not] at h
    have e' : ¬ kD j = kD k := fun z => h.1 (kD_inj z)
    rw [List.cons_append, dput, if_neg e']
    exact .cons q (RelK.snoc r t h.2)
theorem RelK.put {ρ : List Addr} {H : Hp} {k : L2.Key} {v : V} {d : D} (r : RelD Z ρ H v d) {xs : List (L2.Key × V)} {ds : List (D × D)} (q : RelK Z ρ H xs ds) (nd : (xs.map (·.1)).Nodup) : RelK Z ρ H (putK xs k v) (dput ds (kD k) d) := by
  unfold putK
  by_cases h : (xs.any fun kv => decide (kv.1 = k)) = true
  · rw [if_pos h]; exact q.map r h nd
  · rw [if_neg h]; exact q.snoc r (Bool.eq_false_iff.mpr h)
theorem nodup_putK {xs : List (L2.Key × V)} {k : L2.Key} {v : V} (nd : (xs.map (·.1)).Nodup) : ((putK xs k v).map (·.1)).Nodup := by
  unfold putK
  split
  · rw [List.map_map]
    have : ((·.1) ∘ fun kv : L2.Key × V => if kv.1 = k then (kv.1, v) else kv) = (·.1) := by
      funext kv
      show (if kv.1 = k then (kv.1, v) else kv).1 = kv.1
      split <;> rfl
    rw [this]; exact nd
  · rename_i h
    rw [List.map_append, List.nodup_append]
    refine ⟨nd, by simp, fun a ha b hb => ?_⟩
    simp at hb
    subst hb
    rintro rfl
    obtain ⟨p, hp, e⟩ := List.mem_map.mp ha
    exact h (List.any_eq_true.mpr ⟨p, hp, by simpa using e⟩)
theorem key_ofD {ρ : List Addr} {H : Hp} {v : V} {d : D} (r : RelD Z ρ H v d) (h : keyOk 7 d = true) : ∃ k, v = L2.kV k ∧ d = kD k := by
  cases r with
  | int i => exact ⟨.inl i, rfl, rfl⟩
  | str s => exact ⟨.inr s, rfl, rfl⟩
  | _ => cases h
theorem RelK.length {ρ : List Addr} {H : Hp} : ∀ {xs : List (L2.Key × V)} {ds : List (D × D)}, RelK Z ρ H xs ds → xs.length = ds.length
  | _, _, .nil => rfl
  | _, _, .cons _ t => by simp [RelK.length t]
theorem RelK.mono {ρ ρ' : List Addr} {H H' : Hp} (m : Mv ρ H ρ' H') {xs : List (L2.Key × V)} {ds : List (D × D)} (r : RelK Z ρ H xs ds) : RelK Z ρ' H' xs ds := r.monoW m.toMw
theorem tDc_of {wi : TI} {σ : L2.St} {H : Hp} {Q : VK} (hsub : ∀ i ∈ ws, i ∈ own.map (·.2)) (h : rdE Z W (Ex.dcomp (own.map (·.2)) fi t tc fk fv) σ H Q) (hi : wi = rdI Z W fi) : tDc wi (rdG Z ws t) (rdT Z W0 tc) (rdE Z W0 fk) (rdE Z W0 fv) (own.map (·.2)) σ H Q := by
  subst hi
  obtain ⟨δ, ρ, g, G, S, h⟩ := h
  refine ⟨δ, ρ, g, G, S, (PostR.bind h).imp (fun it ρ1 H1 g1 m1 G1 h1 J hJ D hD => ?_) fun _ _ _ _ _ _ _ q => q⟩
  have h1' := PostR.hushE (e' := eF) (PostR.bind0 h1)
  have S1 := S.mono m1
  have nD1 : D ∉ ρ1 := fun z => by obtain ⟨u, hu⟩ := G1.tracked z; rw [hD] at hu; cases hu
  refine ⟨fun i n H' => ∃ ρ' g' acc vs', Mv ρ1 H1 ρ' H' ∧ RelG Z ρ' H' g' ∧ D ∉ ρ' ∧ H' D = some (.dK vs') ∧ RelK Z ρ' H' vs' acc ∧ (vs'.map (·.1)).Nodup ∧
    PostR Z ρ1 H1 (dcompLoop it t tc fk fv (DV.wipe δ (own.map (·.2))) n i acc g') (fun ds _ _ g2 => PostR Z ρ1 H1 (.ok (.ref g2.length) (g2 ++ [.dic ds])) (kV Z Q) (eX Z W σ)) eF,
    ⟨fuel, ρ1, g1, [], [], Mv.new hD, G1.same (same_new hD), nD1, upd_same, .nil, List.nodup_nil, h1'⟩, ?_⟩
  rintro i n H2 ⟨ρ2, g2, acc, vs2, m2, G2, n2, l2, r2, nd2, h2⟩
  cases n with
  | zero => exact (show False from h2).elim
  | succ n =>
    rw [dcompLoop] at h2
    have q := hJ ρ2 H2 g2 i m2 G2
    cases e : it.at i g2 with
    | none => simp only [e] at h2; exact h2.elim
    | some o => cases o with
      | none =>
        simp only [e] at h2 q
        refine .inl ⟨q, ?_⟩
        have h3 := h2 ρ2 H2 m2 G2
        exact h3 (ρ2 ++ [D]) H2 (m2.snoc hD) (G2.snoc n2 ⟨vs2, l2, r2.monoW ⟨⟨[D], rfl⟩, .refl _⟩⟩) _ (.ref (RelG.get_push G2.len))
      | some d =>
        simp only [e] at h2 q
        refine .inr ⟨q.1, _, fun H' w => ⟨n, Nat.lt_succ_self n, w⟩, fun x H' y => ?_⟩
        obtain ⟨ρ3, m3, G3, r3⟩ := q.2 x H' y
        obtain ⟨l3, n3⟩ := m3.own l2 n2
        have b3 := m2.trans m3
        refine ⟨d, _, ρ3, g2, G3, ((S1.mono b3).wipe _), r3, (PostR.mv b3 (PostR.bind0 h2)).imp (fun δ4 ρ4 H4 g4 m4 G4 h4 σ4 S4 w4 => ⟨?_, ?_⟩) fun _ _ _ _ _ _ _ q => q⟩
        · rw [w4 _ hsub]
          refine List.ext_getElem? fun j => ?_
          rw [wipe_get, wipe_get]
          split <;> first | rfl | (cases σ[j]? <;> rfl)
        obtain ⟨l4, n4⟩ := m4.own l3 n3
        have b4 := b3.trans m4
        refine ⟨δ4, ρ4, g4, G4, S4, (PostR.eF_to (PostR.mv b4 (PostR.bind0 h4))).imp (fun k ρ5 H5 g5 m5 G5 h5 => ?_) fun _ _ _ _ _ _ _ q => q⟩
        obtain ⟨l5, n5⟩ := m5.own l4 n4
        have b5 := b4.trans m5
        show if k = true then _ else _
        cases k with
        | false => exact ⟨ρ5, g5, acc, vs2, b5, G5, n5, l5, r2.mono ((m3.trans m4).trans m5), nd2, h5⟩
        | true =>
          rw [if_pos rfl] at h5
          refine ⟨δ4, ρ5, g5, G5, S4.mono m5, (PostR.eF_to (PostR.mv b5 (PostR.bind0 h5))).imp (fun kk ρ6 H6 g6 m6 G6 h6 v rv => ?_) fun _ _ _ _ _ _ _ q => q⟩
          obtain ⟨l6, n6⟩ := m6.own l5 n5
          have b6 := b5.trans m6
          refine ⟨δ4, ρ6, g6, G6, (S4.mono m5).mono m6, (PostR.eF_to (PostR.mv b6 (PostR.bind0 h6))).imp (fun yv ρ7 H7 g7 m7 G7 h7 w rw' => ?_) fun _ _ _ _ _ _ _ q => q⟩
          obtain ⟨l7, n7⟩ := m7.own l6 n6
          have b7 := b6.trans m7
          split at h7
          · rename_i hz
            obtain ⟨kk', rfl, rfl⟩ := key_ofD rv hz.2
            have r7 := r2.mono ((((m3.trans m4).trans m5).trans m6).trans m7)
            refine ⟨vs2, kk', rfl, l7, by rw [r7.length, ← line_eq]; exact hz.1, ρ7, g7, dput acc (kD kk') yv, putK vs2 kk' w, b7.updNew hD (fun xs z => by rw [l7] at z; cases z) (fun ob u z => by rw [l7] at z; cases z),
              G7.other n7 (fun xs z => by rw [l7] at z; cases z) (fun ob u z => by rw [l7] at z; cases z), n7, upd_same, ?_, nodup_putK nd2, h7⟩
            have mm : Mw ρ7 H7 ρ7 (upd H7 D (.dK (putK vs2 kk' w))) := ⟨⟨[], by simp⟩, .upd (fun xs z => by rw [l7] at z; cases z) (fun ob u z => by rw [l7] at z; cases z)⟩
            exact RelK.put (rw'.monoW mm) (r7.monoW mm) nd2
          · exact h7.elim
theorem de_dcomp (hX : XOk Z X N sc W m) (own : List (Str × Nat)) (hi : PI X tg iter (rdI Z W fi)) (hg : ∀ (s : Shared) (H : Hp) (C : Addr) (cl : List (Str × Addr)) (fp : List Addr), PG (X.blk s H scope (compEnvC scope cl C X.env) fp) tg (rdG Z ws t))
    (ht : ∀ (s : Shared) (H : Hp) (C : Addr) (cl : List (Str × Addr)) (fp : List Addr), PTs (X.blk s H scope (compEnvC scope cl C X.env) fp) ifs (rdT Z W0 tc)) (hk : ∀ (s : Shared) (H : Hp) (C : Addr) (cl : List (Str × Addr)) (fp : List Addr), PE (X.blk s H scope (compEnvC scope cl C X.env) fp) kx (rdE Z W0 fk))
    (hv : ∀ (s : Shared) (H : Hp) (C : Addr) (cl : List (Str × Addr)) (fp : List Addr), PE (X.blk s H scope (compEnvC scope cl C X.env) fp) vx (rdE Z W0 fv))
    (ok : blkC N sc scope own = true := by decide +kernel) (hsub : ∀ i ∈ ws, i ∈ own.map (·.2) := by decide) (hs : ∀ x, foldedSetIterable iter X.env x = pure x := by intro _; rfl) : PE X (.DictComp kx vx [⟨tg, iter, ifs, 0⟩] scope pos) (rdE Z W (Ex.dcomp (own.map (·.2)) fi t tc fk fv)) :=
  PE_imp (pe_dc hX.calm (by rw [hX.hN]; exact hX.nd) hi (by rw [hX.hN, hX.sc]; exact blkOk_by ok) hg ht hk hv hs) fun σ H Q h => tDc_of hsub h rfl
end
end DV
end
section
set_option Elab.async false
set_option linter.all false
set_option maxRecDepth 100000
namespace DV
open PySem PySem.Spec PyProof.Rows L2 RZ
section
variable {Z : Tab} {X : Cx} {W : WX} {N : List Str} {sc : Scope} {m lev : Nat} {T : Clss} {cl : Cl} {a b c e o elt : Expr} {es ifs : List Expr} {fa fb fc fe fo : Ex} {fs : Exs} {pos p p2 apos cpos : Pos} {tc : Te} {t : Tg} {ws : List Nat} {tg iter : Expr} {fi : Ie} {scope : Scope} {own : List (Str × Nat)} {x y : Str}
/-- a < b < c as a test -/
theorem dt_chain {op op' : CmpOp} {o o' : Cmp} (ho : OpD Z X W (compareOp op) (fun x y g => liftO (cmpD o x y g) g)) (ho' : OpD Z X W (compareOp op') (fun x y g => liftO (cmpD o' x y g) g)) (ha : PE X a (rdE Z W fa)) (hb : PE X b (rdE Z W fb)) (hc : PE X c (rdE Z W fc))
    (hm : lastMarks [op, op'] [b, c] = false := by with_unfolding_all rfl) : PT X (.Compare a [op, op'] [b, c] pos) (rdT Z W (Te.ex (Ex.chain o o' fa fb fc))) := by
  refine ⟨fun pins s σ H Q I ⟨δ, ρ, g, G, S, h⟩ => ?_⟩
  let KK : D → List Addr → Hp → DV.G → Prop := fun d ρ2 H2 g2 => PostR Z ρ2 H2 (match truth g2 d with
    | some b => .ok b g2
    | none => .stuck) (kT Q) (eX Z W σ)
  have h0 : PostR Z ρ H (Ex.chain o o' fa fb fc δ g) KK (eX Z W σ) := PostR.bind h
  refine isTrue_chain (thn (ha.run pins s σ H (fun x H1 => ∃ dx ρ1 g1, Mv ρ H ρ1 H1 ∧ RelG Z ρ1 H1 g1 ∧ RelD Z ρ1 H1 x dx ∧ PostR Z ρ1 H1 ((fb δ g1).bind fun y g => match cmpD o dx y g with
      | some true => (fc δ g).bind fun z g => liftO (cmpD o' y z g) g
      | some false => .ok (.bl false) g
      | none => .stuck) KK (eX Z W σ)) I ⟨δ, ρ, g, G, S, (PostR.bind h0).imp (fun d ρ1 H1 g1 m1 G1 h1 v rv => ⟨d, ρ1, g1, m1, G1, rv, h1⟩) fun _ _ _ _ _ _ _ q => q⟩)
    fun v s1 ⟨x, H1, I1, r1, dx, ρ1, g1, m1, G1, q1, h1⟩ => test_link ?_) hm
  refine thn (hb.run pins s1 σ H1 (fun y H2 => ∃ dy ρ2 g2, Mv ρ1 H1 ρ2 H2 ∧ RelG Z ρ2 H2 g2 ∧ RelD Z ρ2 H2 y dy ∧ PostR Z ρ2 H2 (match cmpD o dx dy g2 with
      | some true => (fc δ g2).bind fun z g => liftO (cmpD o' dy z g) g
      | some false => .ok (.bl false) g2
      | none => .stuck) KK (eX Z W σ)) I1 ⟨δ, ρ1, g1, G1, S.mono m1, (PostR.bind h1).imp (fun d ρ2 H2 g2 m2 G2 h2 v rv => ⟨d, ρ2, g2, m2, G2, rv, h2⟩) fun _ _ _ _ _ _ _ q => q⟩)
    fun u s2 ⟨y, H2, I2, r2, dy, ρ2, g2, m2, G2, q2, h2⟩ => ?_
  cases hk : cmpD o dx dy g2 with
  | none => rw [hk] at h2; exact h2.elim
  | some k =>
    rw [hk] at h2
    refine thn (ho pins s2 σ H2 x y v u dx dy ρ2 g2 (fun z H3 => z = .bl k ∧ ∃ ρ3, Mv ρ2 H2 ρ3 H3 ∧ RelG Z ρ3 H3 g2) (fun _ _ _ _ _ => False) I2 r1 r2 G2 (q1.mono m2) q2 ?_) fun d s3 ⟨z, H3, I3, r3, e3, ρ3, m3, G3⟩ => ?_
    · show PostR Z ρ2 H2 (liftO (cmpD o dx dy g2) g2) _ _
      rw [hk]
      exact fun ρ3 H3 m3 G3 v3 r3 => by cases r3; exact ⟨rfl, ρ3, m3, G3⟩
    · subst e3
      cases r3
      refine wpAny_truthy_bool ?_
      cases k with
      | false => exact ite_ff ⟨H3, I3, PostR.ok (a := false) (PostR.ok (k := KK) (a := D.bl false) (PostR.mv m3 h2) G3) G3⟩
      | true =>
        refine ite_tt (test_last (thn (hc.run pins s3 σ H3 (fun z H4 => ∃ dz ρ4 g4, Mv ρ3 H3 ρ4 H4 ∧ RelG Z ρ4 H4 g4 ∧ RelD Z ρ4 H4 z dz ∧ PostR Z ρ4 H4 (liftO (cmpD o' dy dz g4) g4) KK (eX Z W σ)) I3
          ⟨δ, ρ3, g2, G3, ((S.mono m1).mono m2).mono m3, (PostR.bind (PostR.mv m3 h2)).imp (fun d ρ4 H4 g4 m4 G4 h4 v rv => ⟨d, ρ4, g4, m4, G4, rv, h4⟩) fun _ _ _ _ _ _ _ q => q⟩) fun w' s4 ⟨z', H4, I4, r4, dz, ρ4, g4, m4, G4, q4, h4⟩ => ?_))
        obtain ⟨k, hk, h5⟩ := liftO_some h4
        refine thn (ho' pins s4 σ H4 y z' u w' dy dz ρ4 g4 (fun z H5 => z = .bl k ∧ ∃ ρ5, Mv ρ4 H4 ρ5 H5 ∧ RelG Z ρ5 H5 g4) (fun _ _ _ _ _ => False) I4 r2 r4 G4 ((q2.mono m3).mono m4) q4 ?_) fun d s5 ⟨z, H5, I5, r5, e5, ρ5, m5, G5⟩ => ?_
        · show PostR Z ρ4 H4 (liftO (cmpD o' dy dz g4) g4) _ _
          rw [hk]
          exact fun ρ3 H3 m3 G3 v3 r3 => by cases r3; exact ⟨rfl, ρ3, m3, G3⟩
        · subst e5
          cases r5
          exact wpAny_truthy_bool ⟨H5, I5, PostR.ok (a := k) (PostR.ok (k := KK) (a := D.bl k) (PostR.mv m5 h5) G5) G5⟩
theorem XOk.hu (hX : XOk Z X N sc W m) : X.A.units + 64 + 1 < cLine := by have := hX.room.un; omega
theorem XOk.hu0 (hX : XOk Z X N sc W m) : X.A.units + 64 < cLine := by have := hX.room.un; omega
theorem Blt.at (B : Blt Z.mg) (hX : XOk Z X N sc W m) : Blt X.mg := by rw [hX.hM]; exact B
theorem de_gI (hX : XOk Z X N sc W m) {i : Int} (hm : ∃ t, Z.mg x = some (.int i t)) (hg : sc.names.lookup x = some .globalImplicit := by rfl) (hd : (x == ("__debug__" : Str)) = false := by decide) : PE X (.Name x pos) (rdE Z W (Ex.cst (.int i))) := de_globI hX hg (by rw [hX.hM]; exact hm) hd
theorem de_gF (hX : XOk Z X N sc W m) {n : Nat} (hm : Z.mg x = some (.ref (Z.fn n))) (hg : sc.names.lookup x = some .globalImplicit := by rfl) (hd : (x == ("__debug__" : Str)) = false := by decide) : PE X (.Name x pos) (rdE Z W (Ex.cst (.fn n))) := de_globF hX hg (by rw [hX.hM]; exact hm) hd
/-! which way two stores go -/
theorem sw2 {env : PySem.Env} {px py pt pt2 : Pos} {kt k2 : Nat} (hk : env.scope.kind = .function) (hx : env.scope.names.lookup x = some .local) (hy : env.scope.names.lookup y = some .local) (hl : (py.line == px.line) = true) (hxy : x ≠ y)
    (h1 : [a, b].any (fun | .Starred .. => true | _ => false) = false) (h2 : [a, b].all (foldedForSure 8) = false) (h3 : [a, b].all (constantsAlone 8) = false) :
    swappedStores [.Tuple [.Name x px, .Name y py] kt pt] (.Tuple [a, b] k2 pt2) env = pure (some [x, y]) := by
  have kx : env.kindOf x = some .local := hx
  have ky : env.kindOf y = some .local := hy
  have hb : env.blockKind = .function := by unfold Env.blockKind; rw [hk]; rfl
  have d2 : [x, y].eraseDups = [x, y] := by
    have : (y == x) = false := by simp [Ne.symm hxy]
    simp [List.eraseDups_cons, this]
  unfold swappedStores
  simp only [hb, kx, ky, hl, h1, h2, h3, List.filterMap_cons, List.filterMap_nil, List.head?_cons, Option.map_some, Option.getD_some, Expr.pos]
  simp [kx, ky, hl, d2, h1, h2, h3]
  intro h
  simp only [List.any_cons, List.any_nil, Bool.or_false, Bool.or_eq_false_iff] at h1
  rcases h with h | h
  · have z := h1.1
    cases a <;> first | (cases h; done) | (cases z; done)
  · have z := h1.2
    cases b <;> first | (cases h; done) | (cases z; done)
theorem ds_par' {x y : Str} {px py pt : Pos} {kt k2 pt2} (hX : XOk Z X N sc W m) (i j : Nat) (ha : PE X a (rdE Z W fa)) (hb : PE X b (rdE Z W fb)) (hi : N[i]? = some x := by rfl) (hj : N[j]? = some y := by rfl) (hij : i ≠ j := by decide) (hk : sc.kind = .function := by rfl)
    (hx : sc.names.lookup x = some .local := by rfl) (hy : sc.names.lookup y = some .local := by rfl) (hl : (py.line == px.line) = true := by rfl) (hxy : x ≠ y := by decide) (h1 : [a, b].any (fun | .Starred .. => true | _ => false) = false := by rfl) (h2 : [a, b].all (foldedForSure 8) = false := by rfl) (h3 : [a, b].all (constantsAlone 8) = false := by rfl)
    (hea : starEach [a, b] X.env = (false, eval a X.env) :: starEach [b] X.env := by rfl) (heb : starEach [b] X.env = (false, eval b X.env) :: starEach [] X.env := by rfl)
    (hs : swapsWithSole [.Tuple [.Name x px, .Name y py] kt pt] (.Tuple [a, b] k2 pt2) pos.line X.env = pure false := by rfl) :
    PS X (.Assign [.Tuple [.Name x px, .Name y py] kt pt] (.Tuple [a, b] k2 pt2) pos) (rdS Z W (Sm.par i j fa fb)) :=
  ds_par hX i j ha hb (sw2 (by rw [hX.sc]; exact hk) (by rw [hX.sc]; exact hx) (by rw [hX.sc]; exact hy) hl hxy h1 h2 h3) hi hj hij hx hy hea heb hs
theorem ds_setLc' {y : Str} {py spos : Pos} (hX : XOk Z X N sc W m) (i : Nat) (own : List (Str × Nat)) (hi : PI X tg iter (rdI Z W fi)) (hg : ∀ (s : Shared) (H : Hp) (C : Addr) (cl : List (Str × Addr)) (fp : List Addr), PG (X.blk s H scope (compEnvC scope cl C X.env) fp) tg (rdG Z ws t))
    (ht : ∀ (s : Shared) (H : Hp) (C : Addr) (cl : List (Str × Addr)) (fp : List Addr), PTs (X.blk s H scope (compEnvC scope cl C X.env) fp) ifs (rdT Z W0 tc)) (he : ∀ (s : Shared) (H : Hp) (C : Addr) (cl : List (Str × Addr)) (fp : List Addr), PE (X.blk s H scope (compEnvC scope cl C X.env) fp) elt (rdE Z W0 fe))
    (hk : sc.kind = .function := by rfl) (hy : N[i]? = some y := by rfl) (hyl : sc.names.lookup y = some .local := by rfl) (hln : (py.line == pos.line) = true := by rfl) (hnn : (scope.names.any fun (n, k) => n == y && (k == .local || k == .cell)) = false := by decide +kernel) (ok : blkC N sc scope own = true := by decide +kernel) (hsub : ∀ i ∈ ws, i ∈ own.map (·.2) := by decide) (hs : ∀ x, foldedSetIterable iter X.env x = pure x := by intro _; rfl) :
    PS X (.Assign [.Name y py] (.ListComp elt [⟨tg, iter, ifs, 0⟩] scope pos) spos) (rdS Z W (Sm.asg (Tg.name i) (Ex.comp (own.map (·.2)) fi t tc fe))) :=
  ds_setLc hX i own hi hg ht he (sw_true (by rw [hX.sc]; exact hk) (by rw [hX.sc]; exact hyl) hln hnn) hy hyl ok hsub hs
theorem de_meth0 {pl : Sem Bool} {mn : Str} {cnt : Nat} (hX : XOk Z X N sc W m) (C : ClsOk Z T) (F : ∀ n, n < cnt → FT Z lev cl n) (hl : lev ≤ m) (hT : (T.all fun k => k.meths.all fun q => decide (q.2 < cnt)) = true) (ho : PE X o (rdE Z W fo))
    (ht : eval (.Call (.Attribute o mn apos) [] [] pos) X.env = (do
      let ov ← eval o X.env
      standAt apos.atName
      let (f, first) ← holding [ov] (getMethod ov mn pl)
      callWith pos f first (backTo pos (starEach [] X.env)) (backToKw pos (keywordEach [] X.env)))) : PE X (.Call (.Attribute o mn apos) [] [] pos) (rdE Z W (Ex.meth T cl fo mn exNil)) := by
  refine ⟨fun pins s σ H Q I ⟨δ, ρ, g, G, S, h⟩ => ?_⟩
  refine PySem.W.methodCall_KW (pl := pl) (thn (ho.run pins s σ H (fun v H1 => ∃ n ρ1 g1 ci fs0 k f, RelG Z ρ1 H1 g1 ∧ RelS Z ρ1 H1 σ δ ∧ RelD Z ρ1 H1 v (.ref n) ∧ g1[n]? = some (.ins ci fs0) ∧ T[ci]? = some k ∧ k.meths.lookup mn = some f ∧ fs0.lookup mn = none ∧ PostR Z ρ1 H1 ((exNil δ g1).bind fun ds g => cl f (.ref n :: ds) g) (kV Z Q) (eX Z W σ)) I
    ⟨δ, ρ, g, G, S, (PostR.bind h).imp (fun d ρ1 H1 g1 m1 G1 h1 v rv => ?_) fun _ _ _ _ _ _ _ q => q⟩) fun u s1 ⟨v, H1, I1, ru, n, ρ1, g1, ci, fs0, k, f, G1, S1, rv, e0, e1, e2, e3, h1⟩ => ?_) ht
  · cases d with
    | ref n =>
      dsimp only at h1
      cases e0 : g1[n]? with
      | none => rw [e0] at h1; exact h1.elim
      | some ob => cases ob with
        | ins ci fs0 =>
          rw [e0] at h1
          dsimp only at h1
          cases e1 : T[ci]? with
          | none => rw [e1] at h1; exact h1.elim
          | some k =>
            rw [e1] at h1
            dsimp only at h1
            split at h1
            · rename_i f e2 e3
              exact ⟨n, ρ1, g1, ci, fs0, k, f, G1, S.mono m1, rv, e0, e1, e2, e3, h1⟩
            · exact h1.elim
        | _ => rw [e0] at h1; exact (show False from h1).elim
    | _ => exact (show False from h1).elim
  · obtain ⟨a, dx, xs, rfl, ea, c, hm, l⟩ := meth_of C G1 rfl rv e0 e1 e2 e3
    obtain rfl : u = Value.ref a := ru
    have hf : f < cnt := by
      have q1 := List.all_eq_true.mp hT k (List.mem_of_getElem? e1)
      have q2 := List.all_eq_true.mp q1 (mn, f) (PySem.mem_of_lookup e2)
      simpa using q2
    obtain ⟨fd, ps, F, hk, hb⟩ := (F f hf).at hX
    have hm' : Meth X.K (Z.cls ci) mn (Z.fn f) := by rw [hX.hK]; exact hm
    refine getmeth_ok I1 ea (by rw [hX.hK]; exact c) hm' l ?_
    exact PySem.W.callWith_K0 (first := [.ref a]) I1.kIn hm'.kp (run_fnS (us := [.ref a]) (vs := [.ref a]) F (hX.room.mono hl) hb (passAt hX.takes σ) I1 (.cons rfl .nil) ⟨_, ρ1, g1, G1, .cons rv .nil, h1⟩)
end
end DV
end
section
set_option Elab.async false
set_option linter.all false
set_option maxRecDepth 100000
namespace DV
open PySem PySem.Spec PyProof.Rows L2 RZ
/-! ### the end -/
structure Cls1 (Z : Tab) (c : Nat) (k : DV.Cls) : Prop where
  cls : L2.Cls Z.K (Z.cls c)
  fld : ∀ f ∈ k.fields, NoAttr Z.K (Z.cls c) f
  mth : ∀ p ∈ k.meths, Meth Z.K (Z.cls c) p.1 (Z.fn p.2)
theorem ClsOk.of {Z : Tab} {T : Clss} (h : ∀ c k, T[c]? = some k → Cls1 Z c k) : ClsOk Z T :=
  ⟨fun c k e => (h c k e).cls, fun c k f e hf => (h c k e).fld f (by simpa using hf), fun c k m f e hm => (h c k e).mth (m, f) (PySem.mem_of_lookup hm)⟩
theorem all_nil {α : Type} {P : α → Prop} : ∀ x ∈ ([] : List α), P x := fun _ h => nomatch h
theorem all_cons {α : Type} {P : α → Prop} {a : α} {l : List α} (h : P a) (t : ∀ x ∈ l, P x) : ∀ x ∈ a :: l, P x := List.forall_mem_cons.mpr ⟨h, t⟩
theorem ft_zero {Z : Tab} {i : Nat} {x qual : Str} {st : Stmt} {fd : FuncData} {ps : List Str} {cl : Cl} (hcl : ∀ ds g, cl i ds g = .stuck) (F : Fun Z.K x qual st (Z.fn i) fd) (hb : Binds Z.K fd ps []) : FT Z 0 cl i :=
  ⟨fd, ps, ⟨fun vs H Q E h => by obtain ⟨ds, ρ, g, G, r, h⟩ := h; rw [hcl] at h; exact h.elim, fun A outer s H args us vs Q E hr he hbb hv h => by obtain ⟨ds, ρ, g, G, r, h⟩ := h; rw [hcl] at h; exact h.elim⟩, F.kp, hb⟩
/-- the law's promise -/
def spLaw (K : PySem.W.Frag) : Sp := fun vs H Q _ => ∃ (a : Addr) (ns : List Int), vs = [.ref a] ∧ Rol K H a ns ∧ ns.length ≤ 63 ∧ (∀ z ∈ ns, Builtin.Int.intBits z ≤ 1048576) ∧ ∀ H', Q (.bl true) H'
theorem RelG.nil {Z : Tab} {H : Hp} : RelG Z [] H [] := ⟨rfl, List.nodup_nil, fun i o a h => by simp at h⟩
theorem law_end {Z : Tab} {cl : Cl} {n k : Nat} {fd : FuncData} {ps : List Str} {CX : CXT} (F : FnOk Z.P Z.w Z.K Z.mg Z.base CX k (Z.fn n) fd ps (spD Z cl n))
    (h : ∀ ns : List Int, ns.length ≤ 63 → (∀ z ∈ ns, Builtin.Int.intBits z ≤ 1048576) → ∃ g, cl n [.rol ns] [] = .ok (.bl true) g) : FnOk Z.P Z.w Z.K Z.mg Z.base CX k (Z.fn n) fd ps (spLaw Z.K) :=
  F.imp fun vs H Q E ⟨a, ns, e, hr, hl, hb, q⟩ => by
    subst e
    obtain ⟨g, hg⟩ := h ns hl hb
    exact ⟨[.rol ns], [], [], RelG.nil, .cons (.rol hr) .nil, by rw [hg]; exact fun ρ' H' m G v rv => by cases rv; exact q H'⟩
theorem rol_of {K : PySem.W.Frag} {H : Hp} {a : Addr} {ns : List Int} (hO : Only H) (h : SqL K H a (ns.map V.int)) : Rol K H a ns := by
  rcases h with (h | ⟨o, h⟩) | ⟨o, its, n, h⟩
  · rcases hO a with z | ⟨o, xs, z⟩
    · rw [h] at z; cases z
    · rw [h] at z; cases z
  · exact .inl ⟨o, h⟩
  · exact .inr ⟨o, its, n, h⟩
theorem walkDV {l : PySem.W.OpenLaw} {q : Program} {loose : List Str} {XP : (Str → Option Value) → Heap → Prop} {YP : World → Heap → Prop} {d : DefRec} {K : Params → PySem.W.Frag} (hn : l.most = some 63) (hdf : d.params.defaults = [])
    (hY : ∀ (w : World) (h : Heap), YP w h → (K w.params).In h)
    (F : ∀ (w : World) (mg : Str → Option Value) (fa : Addr) (h : Heap), (K w.params).In h → h.Ns mainGlobals mg → mg d.name = some (.ref fa) →
      ∃ fd : FuncData, (∀ (s : Shared) (u : Value), BindsTo s fd ⟨[u], []⟩ [("script", u)]) ∧ ∀ base : Heap, (K w.params).In base → base.Ns mainGlobals mg → FnOk l.prog w (K w.params) mg base (L2.CX l.prog w) 230 fa fd ["script"] (spLaw (K w.params))) :
    PySem.W.WalkO q loose XP YP l.row.toRowW d [] (fun f vs => PySem.call f vs) :=
  walk_ofB (n := 63) (k := 230) (x := "script") (CX := fun w => L2.CX l.prog w) (sp := fun w => spLaw (K w.params)) hn (by decide) hdf ⟨rfl, by decide, by decide⟩ hY F (fun w H a ns hl hb hO hS => ⟨a, ns, rfl, rol_of hO hS, hl, hb, fun _ => rfl⟩)
    fun w H s e s' z => by
      obtain ⟨_, _, _, _, _, _, _, _, _, _, _, _, z⟩ := z
      exact z.elim
/-- an error of the class at S is what «except T» names, or not -/
theorem exm_mk {K : PySem.W.Frag} {C S : Addr} {b : Bool} (h1 : PySem.W.subIn K (.ref S) (.type "BaseException") = some true) (h2 : PySem.W.isClsIn K S = true) (h3 : PySem.W.typeIn K (.ref S) = some (.type "type")) (h4 : PySem.W.subIn K (.ref C) (.ref S) = some b) :
    PySem.W.exmOne K (.ref C) (.ref S) = some b := by
  have e1 : (PySem.W.subIn K (.ref S) (.type "BaseException") == some true) = true := by rw [h1] <;> rfl
  have e2 : ((PySem.W.clsIn K S).isSome && PySem.W.typeIn K (.ref S) == some (.type "type")) = true := by
    have h2' : (PySem.W.clsIn K S).isSome = true := h2
    rw [h2', h3] <;> rfl
  unfold PySem.W.exmOne PySem.W.kitCls
  rw [if_pos e1]
  dsimp only
  rw [if_pos e2]
  exact h4
theorem exc_mk {Z : Tab} {c : Nat} (hl : c < Z.ne) (hx : Z.xf c = none) (h1 : PySem.W.excIn Z.K (Z.exc c) [.type "ValueError", .type "Exception", .type "BaseException", .type "object"] "ValueError.__new__" = true) (h2 : PySem.W.keepIn Z.K (.ref (Z.exc c)) = true)
    (h3 : PySem.W.subIn Z.K (.ref (Z.exc c)) (.type "BaseException") = some true) (h4 : PySem.W.typeIn Z.K (.ref (Z.exc c)) = some (.type "type")) : ExcOk Z c :=
  ⟨hl, hx, ⟨_, _, _, _, PySem.F.excBase_ValueError, h1⟩, h2, fun X e _ _ _ _ => raises_own (by rw [e]; exact h3) (by rw [e]; exact h4)⟩
end DV
end
section
set_option Elab.async false
set_option linter.all false
set_option maxRecDepth 100000
namespace DV
open PySem PySem.Spec PyProof.Rows L2 HT
/-! ### t[::-1] -/
section
variable {prog : Program} {w : World} {A : Around} {E : Value → Shared → Prop} {s : Shared}
theorem sliceApplied_rev {sl : Addr} {vk : Value} {n : Nat} {Q : Int × Int × Nat → Shared → Prop} (hs : s.heap.IsSliceOf sl .none .none vk) (pk : IsPart vk (some (-1)))
    (h : Q ((n : Int) - 1, -1, n) s) : wpAny (model prog w) A (Builtin.Slice.sliceApplied (.ref sl) (pure (n : Int))) Q E s := by
  obtain ⟨os, hos, hcs, hds⟩ := id hs
  unfold Builtin.Slice.sliceApplied Builtin.Slice.sliceFields
  refine wpAny_bind (wpAny_bind (wpAny_field hos hds (x := .none) rfl (wpAny_bind (wpAny_field hos hds (x := .none) rfl (wpAny_bind (wpAny_field hos hds (x := vk) rfl (wpAny_pure ?_)))))))
  refine wpAny_bind (slicePart_ pk ?_)
  show wpAny _ _ (if ((-1 : Int) == 0) = true then _ else _) _ _ s
  rw [if_neg (by decide)]
  refine wpAny_bind (slicePart_none (wpAny_bind (slicePart_none (wpAny_bind (wpAny_pure ?_)))))
  show wpAny _ _ (match Builtin.Slice.sliceAdjust none none (-1) (n : Int) with | (lo, hi) => pure (lo, (-1 : Int), Builtin.Slice.slicePlaces lo hi (-1))) _ _ s
  have e : Builtin.Slice.sliceAdjust none none (-1) (n : Int) = ((n : Int) - 1, -1) := rfl
  rw [e]
  show wpAny _ _ (pure ((n : Int) - 1, (-1 : Int), Builtin.Slice.slicePlaces ((n : Int) - 1) (-1) (-1))) _ _ s
  have e2 : Builtin.Slice.slicePlaces ((n : Int) - 1) (-1) (-1) = n := by
    unfold Builtin.Slice.slicePlaces
    have h1 : ¬ ((-1 : Int) > 0) := by omega
    simp only [h1, if_false]
    rw [show (- -1 : Int) = 1 by decide, Int.ediv_one]
    split <;> omega
  rw [e2]
  exact wpAny_pure h
theorem pick_rev (xs : Array Value) : ((List.range xs.size).filterMap fun (m : Nat) => xs[(((xs.size : Int) - 1) + (m : Int) * (-1)).toNat]?).toArray = xs.toList.reverse.toArray := by
  have h := PySem.W.krv_pick xs
  have hb := PySem.W.krv_bounds xs.size
  unfold slicePick at h
  rw [hb] at h
  have h' : ((sliceRange ((xs.size : Int) - 1) (-1) (-1)).filterMap (xs[·]?)).toArray = xs.toList.reverse.toArray := h
  rw [PySem.W.krv_sliceRange, List.filterMap_map] at h'
  rw [← h']
  have gen : ∀ (l : List Nat) (f g : Nat → Option Value), (∀ m ∈ l, f m = g m) → l.filterMap f = l.filterMap g := by
    intro l f g
    induction l with
    | nil => exact fun _ => rfl
    | cons a l ih => intro hh; rw [List.filterMap_cons, List.filterMap_cons, hh a List.mem_cons_self, ih fun m hm => hh m (List.mem_cons_of_mem _ hm)]
  rw [gen _ _ ((fun x => xs[x]?) ∘ fun k => xs.size - 1 - k) fun m hm => by
    have := List.mem_range.mp hm
    show xs[(((xs.size : Int) - 1) + (m : Int) * (-1)).toNat]? = xs[xs.size - 1 - m]?
    congr 1
    omega]
theorem getItem_tuple_rev {t sl : Addr} {items : Array Value} {vk : Value} {Q : Value → Shared → Prop} (ht : IsTup s.heap t items) (hs : s.heap.IsSliceOf sl .none .none vk) (pk : IsPart vk (some (-1)))
    (h : Q (.ref s.heap.objs.size) { s with heap := s.heap.push { cls := .type "tuple", data := .seq items.toList.reverse.toArray } })
    (hsz : items.size ≤ sizeLine) : wpAny (model prog w) A (getItem (.ref t) (.ref sl)) Q E s := by
  have htake : sizeOk (.seq items.toList.reverse.toArray) := by
    show items.toList.reverse.toArray.size ≤ sizeLine
    rw [List.size_toArray, List.length_reverse, Array.length_toList]
    omega
  obtain ⟨os, hos, hcs, hds⟩ := id hs
  have hTs : s.TypeIs (.ref sl) "slice" := ⟨os, hos, hcs⟩
  unfold getItem
  try with_reducible refine wpAny_holding ?_
  first | refine wpAny_bind (wpAny_pure ?_) | skip
  refine wpAny_bind (wpAny_sequenceKey ht.typeIs (by decide) ?_)
  refine wpAny_bind (wpAny_callSpecial?_slot (name := Str.ofString "__getitem__") ht.typeIs PyProof.Rows.slot_tuple_getitem
    (wpAny_call_entry PyProof.Rows.slot_tuple_getitem ht.typeIs entry_tuple_getitem ?_ (args_tuple_getitem _ _)))
  show wpAny _ _ (Builtin.Tuple.tupleItemsOf (.ref t) >>= _) _ _ s
  refine wpAny_bind (tupleItemsOf_ ht ?_)
  refine wpAny_bind (wpAny_typeOf hTs ?_)
  rw [if_pos (by decide)]
  refine wpAny_bind (sliceApplied_rev hs pk ?_)
  have hno : ¬ ((((items.size : Int) - 1) == 0 && (-1 : Int) == 1 && items.size == items.size) = true) := by
    intro q
    rw [Bool.and_eq_true, Bool.and_eq_true] at q
    exact absurd q.1.2 (by decide)
  show wpAny _ _ (if (((items.size : Int) - 1) == 0 && (-1 : Int) == 1 && items.size == items.size) = true then _ else _) _ _ s
  rw [if_neg hno, pick_rev]
  first
    | exact wpAny_bind (m := Builtin.Tuple.tupleExact _) (wpAny_newObj_type (wpAny_pure ⟨_, rfl, wpAny_pure h⟩) htake)
    | exact wpAny_bind (m := Builtin.Tuple.tupleExact _) (wpAny_newObj_type (wpAny_bind (wpAny_pure (wpAny_pure ⟨_, rfl, wpAny_pure h⟩))) htake)
    | exact wpAny_bind (wpAny_bind (m := Builtin.Tuple.tupleExact _) (wpAny_newObj_type (wpAny_pure (wpAny_pure ⟨_, rfl, wpAny_pure h⟩)) htake))
    | exact wpAny_bind (wpAny_bind (m := Builtin.Tuple.tupleExact _) (wpAny_newObj_type (wpAny_pure ⟨_, rfl, wpAny_pure h⟩) htake))
end
section
variable {X : Cx} {Z : Tab} {W : WX}
def tRev (K : PySem.W.Frag) (te : TE) : TE := fun σ H Q => te σ H fun x H1 => ∃ a xs, x = .ref a ∧ ((SqL K H1 a xs ∧ ∀ p, H1 p = none → Q (.ref p) (upd H1 p (.lst xs.reverse))) ∨ (SqT K H1 a xs ∧ ∀ p, H1 p = none → Q (.ref p) (upd H1 p (.tup xs.reverse))))
theorem pe_rev {e : Expr} {te : TE} {k : Nat} {p1 p2 p3 pos : Pos} (he : PE X e te) : PE X (.Subscript e (.Slice none none (some (.UnaryOp .USub (.Constant (.int 1) k p1) p2)) p3) pos) (tRev X.K te) := by
  refine ⟨fun pins s σ H Q I h => ?_⟩
  refine Subscript_ (thn (he.run pins s σ H _ I h) fun v s1 ⟨x, H1, I1, r1, q1⟩ => ?_)
  obtain ⟨a, xs, ex, hq⟩ := q1
  subst ex
  cases r1
  have hst : PO X (some (.UnaryOp .USub (.Constant (.int 1) k p1) p2)) (tPart (tUn (rU fun i => .int (-i)) (tC (.int 1)))) := po_some (pe_un un_neg pe_int)
  refine wpAny_Slice (thn (po_none.run pins s1 σ H1 (fun o H2 => o = none ∧ H2 = H1) I1 ⟨rfl, rfl⟩) fun vl s2 ⟨l, H2, I2, pl, el, e2⟩ => ?_)
  subst el e2
  refine thn (po_none.run pins s2 σ H2 (fun o H3 => o = none ∧ H3 = H2) I2 ⟨rfl, rfl⟩) fun vu s3 ⟨u, H3, I3, pu, eu, e3⟩ => ?_
  subst eu e3
  refine thn (hst.run pins s3 σ H3 (fun o H4 => o = some (-1) ∧ H4 = H3) I3 ⟨1, rfl, -1, rfl, rfl, rfl⟩) fun vs s4 ⟨o, H4, I4, ps, eo, e4⟩ => ?_
  subst eo e4
  have I5 : Inv X pins σ H4 { s4 with heap := s4.heap.push { cls := .type "slice", data := .fields #[vl, vu, vs] } } := I4.kept (t' := s4.toks) fun b ob q => Heap.get?_push_of_some _ q
  rcases hq with ⟨hx, q⟩ | ⟨hx, q⟩
  · obtain ⟨its, r, ht, hz⟩ := I5.list hx
    have hlen := r.length
    show wpAny (model X.prog X.w) X.A (subscriptTail e (.Slice none none (some (.UnaryOp .USub (.Constant (.int 1) k p1) p2)) p3) (.ref a) (.ref s4.heap.objs.size)) (EP X pins σ Q) X.xe { s4 with heap := s4.heap.push { cls := .type "slice", data := .fields #[vl, vu, vs] } }
    refine tail_any (ops := [.ref a, .ref s4.heap.objs.size]) ht.isList.typeIs (PySem.slot_list_getitem.lookup) ?_ (by with_unfolding_all rfl)
    refine wpAny_getItem_list_slice ht.isList (Heap.IsSliceOf.new _ vl vu vs) pl pu ps (by decide) ?_ (by rw [List.size_toArray]; omega)
    rw [PySem.W.krv_pick]
    refine ⟨.ref _, _, I5.laid (t' := s4.toks) (o := .lst xs.reverse) (fun b ob q => Heap.get?_push_of_some _ q) (Nat.le_refl _) ?_, rfl, q _ (I5.hok.fresh (Nat.le_refl _))⟩
    exact ⟨by rw [List.length_reverse]; exact hz, _, 0, r.reverse, Heap.get?_push_size _ rfl⟩
  · obtain ⟨its, r, ht, hz⟩ := I5.tuple hx
    have hlen := r.length
    cases pl
    cases pu
    show wpAny (model X.prog X.w) X.A (subscriptTail e (.Slice none none (some (.UnaryOp .USub (.Constant (.int 1) k p1) p2)) p3) (.ref a) (.ref s4.heap.objs.size)) (EP X pins σ Q) X.xe { s4 with heap := s4.heap.push { cls := .type "slice", data := .fields #[.none, .none, vs] } }
    refine tail_any (ops := [.ref a, .ref s4.heap.objs.size]) ht.typeIs (PyProof.Rows.slot_tuple_getitem.lookup) ?_ (by with_unfolding_all rfl)
    refine getItem_tuple_rev ht (Heap.IsSliceOf.new _ .none .none vs) ps ?_ (by rw [List.size_toArray]; omega)
    refine ⟨.ref _, _, I5.laid (t' := s4.toks) (o := .tup xs.reverse) (fun b ob q => Heap.get?_push_of_some _ q) (Nat.le_refl _) ?_, rfl, q _ (I5.hok.fresh (Nat.le_refl _))⟩
    exact ⟨by rw [List.length_reverse]; exact hz, _, r.reverse, IsTup.new _ _⟩
theorem de_rev {e : Expr} {fa : Ex} {k : Nat} {p1 p2 p3 pos : Pos} (hK : X.K = Z.K) (ha : PE X e (rdE Z W fa)) : PE X (.Subscript e (.Slice none none (some (.UnaryOp .USub (.Constant (.int 1) k p1) p2)) p3) pos) (rdE Z W (Ex.rev fa)) := by
  refine PE_imp (pe_rev ha) fun σ H Q ⟨δ, ρ, g, G, S, h⟩ => ?_
  refine ⟨δ, ρ, g, G, S, (PostR.bind h).imp (fun d ρ1 H1 g1 m1 G1 h1 v rv => ?_) fun _ _ _ _ _ _ _ q => q⟩
  rw [hK]
  cases rv with
  | tup hq rs =>
    refine ⟨_, _, rfl, .inr ⟨hq, fun q hq' => ?_⟩⟩
    exact (show PostR Z ρ1 H1 (.ok (.tup _) g1) (kV Z Q) (eX Z W σ) from h1) ρ1 _ (Mv.new hq') (G1.same (same_new hq')) _ (.tup (SqT.of upd_same) (rs.reverse.mono (Mv.new hq')))
  | ref hn =>
    rename_i a' n
    cases e0 : g1[n]? with
    | none => simp only [e0] at h1; exact h1.elim
    | some o => cases o with
      | lst xs =>
        simp only [e0] at h1
        obtain ⟨vs, a1, a2⟩ := G1.lst hn e0
        exact ⟨_, _, rfl, .inl ⟨SqL.of a1, fun q hq' => h1 (ρ1 ++ [q]) _ (Mv.push hq') (G1.push hq' ⟨_, upd_same, a2.reverse.mono (Mv.push hq')⟩) _ (.ref (RelG.get_push G1.len))⟩⟩
      | _ => simp only [e0] at h1; exact (show False from h1).elim
  | _ => exact (show False from h1).elim
end
end DV
end
section
set_option Elab.async false
set_option linter.all false
set_option maxRecDepth 100000
set_option maxHeartbeats 4000000
namespace K44
open PySem DV

abbrev T : Clss := [{ fields := [Str.ofString "signs", Str.ofString "word", Str.ofString "waiting"], meths := [(Str.ofString "__init__", 7), (Str.ofString "kind", 8), (Str.ofString "look_at", 9), (Str.ofString "put", 10), (Str.ofString "take", 11), (Str.ofString "spell", 12)] }]
/- 0 is_integer(value, low, high): value, low, high -/
def b_is_integer (cl : Cl) : Sm :=
  (.ret (.and (.isi (.loc 0) .int) (.and (.not (.isi (.loc 0) .bool)) (.chain .le .le (.loc 1) (.loc 0) (.loc 2)))))
/- 1 is_signs(value): value, one -/
def b_is_signs (cl : Cl) : Sm :=
  (.seq (.ite (.or (.not (.ex (.isi (.loc 0) .tuple))) (.or (.ex (.cmp .ne (.bi .len (exCons (.loc 0) exNil)) (.cst (.int 4)))) (.ex (.cmp .ne (.idx (.loc 0) (.cst (.int 0))) (.cst (.str (Str.ofString "signs"))))))) (.ret (.cst (.bl false))) .skip)
  (.ret (.and (.bi .all (exCons (.comp [1] (.of (.slc (.loc 0) (.at (.cst (.int 1))) .no)) (.name 1) .tt (.call cl 0 (exCons (.loc 1) (exCons (.cst (.int 0)) (exCons (.cst (.int 3)) exNil))))) exNil)) (.bi .any (exCons (.slc (.loc 0) (.at (.cst (.int 1))) .no) exNil)))))
/- 2 many_signs(signs): signs -/
def b_many_signs (cl : Cl) : Sm :=
  (.ret (.bin .add (.bin .add (.idx (.loc 0) (.cst (.int 1))) (.idx (.loc 0) (.cst (.int 2)))) (.idx (.loc 0) (.cst (.int 3)))))
/- 3 is_word_of(signs, value): signs, value, one -/
def b_is_word_of (cl : Cl) : Sm :=
  (.seq (.ite (.or (.not (.ex (.isi (.loc 1) .tuple))) (.ex (.cmp .gt (.bi .len (exCons (.loc 1) exNil)) (.cst (.int 300))))) (.ret (.cst (.bl false))) .skip)
  (.ret (.bi .all (exCons (.comp [2] (.of (.loc 1)) (.name 2) .tt (.call cl 0 (exCons (.loc 2) (exCons (.cst (.int 0)) (exCons (.bin .sub (.call cl 2 (exCons (.loc 0) exNil)) (.cst (.int 1))) exNil))))) exNil))))
/- 4 check_word(signs, word): signs, word -/
def b_check_word (cl : Cl) : Sm :=
  (.ite (.not (.ex (.call cl 3 (exCons (.loc 0) (exCons (.loc 1) exNil))))) (.raise 2 (.cst .non)) .skip)
/- 5 check_signs(signs): signs -/
def b_check_signs (cl : Cl) : Sm :=
  (.ite (.not (.ex (.call cl 1 (exCons (.loc 0) exNil)))) (.raise 1 (.cst .non)) .skip)
/- 6 items_of(signs, word): signs, word, rows, calls, sign, inner -/
def b_items_of (cl : Cl) : Sm :=
  (.seq (.ex (.call cl 5 (exCons (.loc 0) exNil)))
  (.seq (.ex (.call cl 4 (exCons (.loc 0) (exCons (.loc 1) exNil))))
  (.seq (.asg (.name 2) (.lst (exCons (.lst exNil) exNil)))
  (.seq (.asg (.name 3) (.lst exNil))
  (.seq (.for (.of (.loc 1)) (.name 4) (.ite (.ex (.cmp .lt (.loc 4) (.idx (.loc 0) (.cst (.int 1))))) (.seq (.ex (.mth .append (.loc 3) (exCons (.loc 4) exNil)))
  (.ex (.mth .append (.loc 2) (exCons (.lst exNil) exNil)))) (.ite (.ex (.cmp .ge (.loc 4) (.bin .add (.idx (.loc 0) (.cst (.int 1))) (.idx (.loc 0) (.cst (.int 2)))))) (.ex (.mth .append (.idx (.loc 2) (.neg (.cst (.int 1)))) (exCons (.tup (exCons (.cst (.str (Str.ofString "plain"))) (exCons (.loc 4) exNil))) exNil))) (.ite (.ex (.cmp .eq (.loc 3) (.lst exNil))) (.ex (.mth .append (.idx (.loc 2) (.neg (.cst (.int 1)))) (exCons (.tup (exCons (.cst (.str (Str.ofString "free"))) (exCons (.loc 4) exNil))) exNil))) (.seq (.asg (.name 5) (.bi .tuple (exCons (.mth .pop (.loc 2) exNil) exNil)))
  (.ex (.mth .append (.idx (.loc 2) (.neg (.cst (.int 1)))) (exCons (.tup (exCons (.cst (.str (Str.ofString "pair"))) (exCons (.mth .pop (.loc 3) exNil) (exCons (.loc 5) (exCons (.loc 4) exNil))))) exNil))))))))
  (.seq (.while (.ex (.cmp .ne (.loc 3) (.lst exNil))) (.seq (.asg (.name 5) (.bi .tuple (exCons (.mth .pop (.loc 2) exNil) exNil)))
  (.ex (.mth .append (.idx (.loc 2) (.neg (.cst (.int 1)))) (exCons (.tup (exCons (.cst (.str (Str.ofString "open"))) (exCons (.mth .pop (.loc 3) exNil) (exCons (.loc 5) exNil)))) exNil)))))
  (.ret (.bi .tuple (exCons (.idx (.loc 2) (.cst (.int 0))) exNil)))))))))
/- 7 Spelling.__init__(self, signs): self, signs -/
def b_Spelling___init__ (cl : Cl) : Sm :=
  (.seq (.asg (.fld T (.loc 0) (Str.ofString "signs")) (.loc 1))
  (.seq (.asg (.fld T (.loc 0) (Str.ofString "word")) (.lst exNil))
  (.asg (.fld T (.loc 0) (Str.ofString "waiting")) (.lst exNil))))
/- 8 Spelling.kind(self, sign): self, sign, _, a, b, c -/
def b_Spelling_kind (cl : Cl) : Sm :=
  (.seq (.asg (.tup 4 (tgCons (.name 2) (tgCons (.name 3) (tgCons (.name 4) (tgCons (.name 5) tgNil))))) (.fld T (.loc 0) (Str.ofString "signs")))
  (.seq (.ite (.not (.ex (.call cl 0 (exCons (.loc 1) (exCons (.cst (.int 0)) (exCons (.bin .sub (.bin .add (.bin .add (.loc 3) (.loc 4)) (.loc 5)) (.cst (.int 1))) exNil)))))) (.ret (.cst .non)) .skip)
  (.ret (.bin .add (.bi .int (exCons (.cmp .ge (.loc 1) (.loc 3)) exNil)) (.bi .int (exCons (.cmp .ge (.loc 1) (.bin .add (.loc 3) (.loc 4))) exNil))))))
/- 9 Spelling.look_at(self, items): self, items, item -/
def b_Spelling_look_at (cl : Cl) : Sm :=
  (.seq (.ite (.not (.ex (.isi (.loc 1) .tuple))) (.raise 2 (.cst .non)) .skip)
  (.ex (.mth .extend (.fld T (.loc 0) (Str.ofString "waiting")) (exCons (.comp [2] (.of (.rev (.loc 1))) (.name 2) .tt (.tup (exCons (.cst (.str (Str.ofString "item"))) (exCons (.loc 2) exNil)))) exNil))))
/- 10 Spelling.put(self, sign, kind): self, sign, kind -/
def b_Spelling_put (cl : Cl) : Sm :=
  (.seq (.ite (.ex (.cmp .ne (.meth T cl (.loc 0) (Str.ofString "kind") (exCons (.loc 1) exNil)) (.loc 2))) (.raise 2 (.cst .non)) .skip)
  (.ex (.mth .append (.fld T (.loc 0) (Str.ofString "word")) (exCons (.loc 1) exNil))))
/- 11 Spelling.take(self, item): self, item, form -/
def b_Spelling_take (cl : Cl) : Sm :=
  (.seq (.ite (.or (.not (.ex (.isi (.loc 1) .tuple))) (.or (.ex (.cmp .eq (.loc 1) (.tup exNil))) (.not (.ex (.isi (.idx (.loc 1) (.cst (.int 0))) .str))))) (.raise 2 (.cst .non)) .skip)
  (.seq (.asg (.name 2) (.tup (exCons (.idx (.loc 1) (.cst (.int 0))) (exCons (.bi .len (exCons (.loc 1) exNil)) exNil))))
  (.ite (.ex (.cmp .eq (.loc 2) (.tup (exCons (.cst (.str (Str.ofString "plain"))) (exCons (.cst (.int 2)) exNil))))) (.ex (.meth T cl (.loc 0) (Str.ofString "put") (exCons (.idx (.loc 1) (.cst (.int 1))) (exCons (.cst (.int 2)) exNil)))) (.ite (.ex (.cmp .eq (.loc 2) (.tup (exCons (.cst (.str (Str.ofString "free"))) (exCons (.cst (.int 2)) exNil))))) (.ex (.meth T cl (.loc 0) (Str.ofString "put") (exCons (.idx (.loc 1) (.cst (.int 1))) (exCons (.cst (.int 1)) exNil)))) (.ite (.ex (.cmp .eq (.loc 2) (.tup (exCons (.cst (.str (Str.ofString "pair"))) (exCons (.cst (.int 4)) exNil))))) (.seq (.ex (.meth T cl (.loc 0) (Str.ofString "put") (exCons (.idx (.loc 1) (.cst (.int 1))) (exCons (.cst (.int 0)) exNil))))
  (.seq (.ex (.mth .append (.fld T (.loc 0) (Str.ofString "waiting")) (exCons (.tup (exCons (.cst (.str (Str.ofString "sign"))) (exCons (.idx (.loc 1) (.cst (.int 3))) exNil))) exNil)))
  (.ex (.meth T cl (.loc 0) (Str.ofString "look_at") (exCons (.idx (.loc 1) (.cst (.int 2))) exNil))))) (.ite (.ex (.cmp .eq (.loc 2) (.tup (exCons (.cst (.str (Str.ofString "open"))) (exCons (.cst (.int 3)) exNil))))) (.seq (.ex (.meth T cl (.loc 0) (Str.ofString "put") (exCons (.idx (.loc 1) (.cst (.int 1))) (exCons (.cst (.int 0)) exNil))))
  (.ex (.meth T cl (.loc 0) (Str.ofString "look_at") (exCons (.idx (.loc 1) (.cst (.int 2))) exNil)))) (.raise 2 (.cst .non))))))))
/- 12 Spelling.spell(self, items): self, items, word, one -/
def b_Spelling_spell (cl : Cl) : Sm :=
  (.seq (.ex (.meth T cl (.loc 0) (Str.ofString "look_at") (exCons (.loc 1) exNil)))
  (.while (.ex (.cmp .ne (.fld T (.loc 0) (Str.ofString "waiting")) (.lst exNil))) (.seq (.asg (.tup 2 (tgCons (.name 2) (tgCons (.name 3) tgNil))) (.mth .pop (.fld T (.loc 0) (Str.ofString "waiting")) exNil))
  (.seq (.ite (.ex (.cmp .eq (.loc 2) (.cst (.str (Str.ofString "sign"))))) (.ex (.meth T cl (.loc 0) (Str.ofString "put") (exCons (.loc 3) (exCons (.cst (.int 1)) exNil)))) (.ex (.meth T cl (.loc 0) (Str.ofString "take") (exCons (.loc 3) exNil))))
  (.ite (.ex (.cmp .gt (.bi .len (exCons (.fld T (.loc 0) (Str.ofString "word")) exNil)) (.cst (.int 300)))) (.raise 2 (.cst .non)) .skip)))))
/- 13 word_of(signs, items): signs, items, spelling, word -/
def b_word_of (cl : Cl) : Sm :=
  (.seq (.ex (.call cl 5 (exCons (.loc 0) exNil)))
  (.seq (.asg (.name 2) (.new cl 0 7 (exCons (.loc 0) exNil)))
  (.seq (.ex (.meth T cl (.loc 2) (Str.ofString "spell") (exCons (.loc 1) exNil)))
  (.seq (.asg (.name 3) (.bi .tuple (exCons (.fld T (.loc 2) (Str.ofString "word")) exNil)))
  (.seq (.ite (.ex (.cmp .ne (.call cl 6 (exCons (.loc 0) (exCons (.loc 3) exNil))) (.loc 1))) (.raise 2 (.cst .non)) .skip)
  (.ret (.loc 3)))))))
/- 14 _law_tape(script): script, seed, cell -/
def b__law_tape (cl : Cl) : Sm :=
  (.seq (.asg (.name 1) (.cst (.int 7)))
  (.seq (.for (.of (.loc 0)) (.name 2) (.asg (.name 1) (.bin .mod (.bi .int (exCons (.bin .add (.bin .mul (.loc 1) (.cst (.int 31))) (.loc 2)) exNil)) (.cst (.int 1000003)))))
  (.ret (.lst (exCons (.comp [2] (.of (.loc 0)) (.name 2) .tt (.bi .abs (exCons (.bi .int (exCons (.loc 2) exNil)) exNil))) (exCons (.bin .add (.loc 1) (.cst (.int 1))) exNil))))))
/- 15 _law_draw(tape, many): tape, many, cells, number -/
def b__law_draw (cl : Cl) : Sm :=
  (.seq (.asg (.name 2) (.idx (.loc 0) (.cst (.int 0))))
  (.seq (.while (.and (.ex (.cmp .gt (.bi .len (exCons (.loc 2) exNil)) (.cst (.int 0)))) (.ex (.cmp .eq (.idx (.loc 2) (.cst (.int 0))) (.cst (.int 0))))) (.ex (.mth .popAt (.loc 2) (exCons (.cst (.int 0)) exNil))))
  (.seq (.ite (.ex (.cmp .gt (.bi .len (exCons (.loc 2) exNil)) (.cst (.int 0)))) (.seq (.asg (.name 3) (.idx (.loc 2) (.cst (.int 0))))
  (.seq (.asg (.sub (.loc 2) (.cst (.int 0))) (.bin .fdiv (.loc 3) (.loc 1)))
  (.ret (.bin .mod (.bi .int (exCons (.loc 3) exNil)) (.loc 1))))) .skip)
  (.seq (.asg (.sub (.loc 0) (.cst (.int 1))) (.bin .mod (.bi .int (exCons (.bin .add (.bin .mul (.idx (.loc 0) (.cst (.int 1))) (.cst (.int 48271))) (.cst (.int 12345))) exNil)) (.cst (.int 2147483647))))
  (.ret (.bin .mod (.bi .int (exCons (.bin .fdiv (.idx (.loc 0) (.cst (.int 1))) (.cst (.int 64))) exNil)) (.loc 1)))))))
/- 16 _law_pick(tape, row): tape, row -/
def b__law_pick (cl : Cl) : Sm :=
  (.ret (.idx (.loc 1) (.call cl 15 (exCons (.loc 0) (exCons (.bi .len (exCons (.loc 1) exNil)) exNil)))))
/- 17 _law_same(told, due): told, due, k -/
def b__law_same (cl : Cl) : Sm :=
  (.seq (.ite (.ex (.cmp .isN (.loc 1) (.cst .non))) (.ret (.cmp .isN (.loc 0) (.cst .non))) .skip)
  (.seq (.ite (.ex (.isi (.loc 1) .bool)) (.ret (.and (.isi (.loc 0) .bool) (.cmp .eq (.loc 0) (.loc 1)))) .skip)
  (.seq (.ite (.ex (.isi (.loc 1) .int)) (.ret (.and (.isi (.loc 0) .int) (.and (.not (.isi (.loc 0) .bool)) (.cmp .eq (.loc 0) (.loc 1))))) .skip)
  (.seq (.ite (.ex (.isi (.loc 1) .str)) (.ret (.and (.isi (.loc 0) .str) (.cmp .eq (.loc 0) (.loc 1)))) .skip)
  (.seq (.ite (.or (.ex (.cmp .ne (.isi (.loc 1) .tuple) (.isi (.loc 0) .tuple))) (.ex (.cmp .ne (.isi (.loc 1) .list) (.isi (.loc 0) .list)))) (.ret (.cst (.bl false))) .skip)
  (.seq (.ite (.or (.not (.ex (.isi2 (.loc 0) .tuple .list))) (.ex (.cmp .ne (.bi .len (exCons (.loc 0) exNil)) (.bi .len (exCons (.loc 1) exNil))))) (.ret (.cst (.bl false))) .skip)
  (.ret (.cmp .notIn (.cst (.bl false)) (.comp [2] (.range1 (.bi .len (exCons (.loc 1) exNil))) (.name 2) .tt (.call cl 17 (exCons (.idx (.loc 0) (.loc 2)) (exCons (.idx (.loc 1) (.loc 2)) exNil))))))))))))
/- 18 _law_signs(tape): tape -/
def b__law_signs (cl : Cl) : Sm :=
  (.ret (.call cl 16 (exCons (.loc 0) (exCons (.lst (exCons (.tup (exCons (.cst (.str (Str.ofString "signs"))) (exCons (.cst (.int 1)) (exCons (.cst (.int 1)) (exCons (.cst (.int 1)) exNil))))) (exCons (.tup (exCons (.cst (.str (Str.ofString "signs"))) (exCons (.cst (.int 1)) (exCons (.cst (.int 1)) (exCons (.cst (.int 0)) exNil))))) (exCons (.tup (exCons (.cst (.str (Str.ofString "signs"))) (exCons (.cst (.int 2)) (exCons (.cst (.int 1)) (exCons (.cst (.int 1)) exNil))))) (exCons (.tup (exCons (.cst (.str (Str.ofString "signs"))) (exCons (.cst (.int 1)) (exCons (.cst (.int 2)) (exCons (.cst (.int 1)) exNil))))) (exCons (.tup (exCons (.cst (.str (Str.ofString "signs"))) (exCons (.cst (.int 2)) (exCons (.cst (.int 2)) (exCons (.cst (.int 0)) exNil))))) (exCons (.tup (exCons (.cst (.str (Str.ofString "signs"))) (exCons (.cst (.int 0)) (exCons (.cst (.int 1)) (exCons (.cst (.int 1)) exNil))))) (exCons (.tup (exCons (.cst (.str (Str.ofString "signs"))) (exCons (.cst (.int 1)) (exCons (.cst (.int 0)) (exCons (.cst (.int 1)) exNil))))) exNil)))))))) exNil))))
/- 19 _law_many(signs): signs -/
def b__law_many (cl : Cl) : Sm :=
  (.ret (.bin .add (.bin .add (.idx (.loc 0) (.cst (.int 1))) (.idx (.loc 0) (.cst (.int 2)))) (.idx (.loc 0) (.cst (.int 3)))))
/- 20 _law_word(tape, signs, most): tape, signs, most, k -/
def b__law_word (cl : Cl) : Sm :=
  (.ret (.bi .tuple (exCons (.comp [3] (.range1 (.call cl 15 (exCons (.loc 0) (exCons (.bin .add (.loc 2) (.cst (.int 1))) exNil)))) (.name 3) .tt (.call cl 15 (exCons (.loc 0) (exCons (.call cl 19 (exCons (.loc 1) exNil)) exNil)))) exNil)))
/- 21 _law_call(call, one, other): call, one, other, told -/
def b__law_call (cl : Cl) : Sm :=
  (.seq (.try (.asg (.name 3) (.callV cl 27 0 (exCons (.loc 1) (exCons (.loc 2) exNil)))) [⟨2, none, (.ret (.cst (.str (Str.ofString "word"))))⟩, ⟨1, none, (.ret (.cst (.str (Str.ofString "system"))))⟩])
  (.ret (.loc 3)))
/- 22 _law_match(signs, word, k): signs, word, k, now, i -/
def b__law_match (cl : Cl) : Sm :=
  (.seq (.asg (.name 3) (.cst (.int 0)))
  (.seq (.for (.range2 (.loc 2) (.bi .len (exCons (.loc 1) exNil))) (.name 4) (.ite (.ex (.cmp .lt (.idx (.loc 1) (.loc 4)) (.idx (.loc 0) (.cst (.int 1))))) (.asg (.name 3) (.bin .add (.loc 3) (.cst (.int 1)))) (.ite (.ex (.cmp .lt (.idx (.loc 1) (.loc 4)) (.bin .add (.idx (.loc 0) (.cst (.int 1))) (.idx (.loc 0) (.cst (.int 2)))))) (.seq (.asg (.name 3) (.bin .sub (.loc 3) (.cst (.int 1))))
  (.ite (.ex (.cmp .eq (.loc 3) (.cst (.int 0)))) (.ret (.loc 4)) .skip)) .skip)))
  (.ret (.cst .non))))
/- 23 _law_items(signs, word): signs, word, found, k, end -/
def b__law_items (cl : Cl) : Sm :=
  (.seq (.asg (.name 2) (.lst exNil))
  (.seq (.asg (.name 3) (.cst (.int 0)))
  (.seq (.while (.ex (.cmp .lt (.loc 3) (.bi .len (exCons (.loc 1) exNil)))) (.seq (.ite (.ex (.cmp .ge (.idx (.loc 1) (.loc 3)) (.idx (.loc 0) (.cst (.int 1))))) (.seq (.ex (.mth .append (.loc 2) (exCons (.tup (exCons (.ite (.ex (.cmp .ge (.idx (.loc 1) (.loc 3)) (.bin .add (.idx (.loc 0) (.cst (.int 1))) (.idx (.loc 0) (.cst (.int 2)))))) (.cst (.str (Str.ofString "plain"))) (.cst (.str (Str.ofString "free")))) (exCons (.idx (.loc 1) (.loc 3)) exNil))) exNil)))
  (.seq (.asg (.name 3) (.bin .add (.loc 3) (.cst (.int 1))))
  .cnt)) .skip)
  (.seq (.asg (.name 4) (.call cl 22 (exCons (.loc 0) (exCons (.loc 1) (exCons (.loc 3) exNil)))))
  (.seq (.ite (.ex (.cmp .isN (.loc 4) (.cst .non))) (.seq (.ex (.mth .append (.loc 2) (exCons (.tup (exCons (.cst (.str (Str.ofString "open"))) (exCons (.idx (.loc 1) (.loc 3)) (exCons (.call cl 23 (exCons (.loc 0) (exCons (.slc (.loc 1) (.at (.bin .add (.loc 3) (.cst (.int 1)))) .no) exNil))) exNil)))) exNil)))
  .brk) .skip)
  (.seq (.ex (.mth .append (.loc 2) (exCons (.tup (exCons (.cst (.str (Str.ofString "pair"))) (exCons (.idx (.loc 1) (.loc 3)) (exCons (.call cl 23 (exCons (.loc 0) (exCons (.slc (.loc 1) (.at (.bin .add (.loc 3) (.cst (.int 1)))) (.at (.loc 4))) exNil))) (exCons (.idx (.loc 1) (.loc 4)) exNil))))) exNil)))
  (.asg (.name 3) (.bin .add (.loc 4) (.cst (.int 1)))))))))
  (.ret (.bi .tuple (exCons (.loc 2) exNil))))))
/- 24 _law_bent(tape, items, many): tape, items, many, k, one, s, more -/
def b__law_bent (cl : Cl) : Sm :=
  (.seq (.ite (.or (.ex (.cmp .eq (.bi .len (exCons (.loc 1) exNil)) (.cst (.int 0)))) (.ex (.cmp .eq (.call cl 15 (exCons (.loc 0) (exCons (.cst (.int 3)) exNil))) (.cst (.int 0))))) (.seq (.asg (.name 5) (.call cl 15 (exCons (.loc 0) (exCons (.loc 2) exNil))))
  (.seq (.asg (.name 6) (.call cl 16 (exCons (.loc 0) (exCons (.lst (exCons (.tup (exCons (.cst (.str (Str.ofString "plain"))) (exCons (.loc 5) exNil))) (exCons (.tup (exCons (.cst (.str (Str.ofString "free"))) (exCons (.loc 5) exNil))) (exCons (.tup (exCons (.cst (.str (Str.ofString "open"))) (exCons (.loc 5) (exCons (.tup exNil) exNil)))) (exCons (.tup (exCons (.cst (.str (Str.ofString "pair"))) (exCons (.loc 5) (exCons (.tup exNil) (exCons (.loc 5) exNil))))) (exCons (.tup (exCons (.cst (.str (Str.ofString "plain"))) (exCons (.loc 2) exNil))) (exCons (.tup (exCons (.cst (.str (Str.ofString "pair"))) (exCons (.loc 5) (exCons (.tup exNil) exNil)))) (exCons (.tup (exCons (.cst (.str (Str.ofString "call"))) (exCons (.loc 5) exNil))) (exCons (.cst .non) (exCons (.tup (exCons (.cst (.str (Str.ofString "open"))) (exCons (.loc 5) (exCons (.cst .non) exNil)))) exNil)))))))))) exNil))))
  (.seq (.asg (.name 3) (.call cl 15 (exCons (.loc 0) (exCons (.bin .add (.bi .len (exCons (.loc 1) exNil)) (.cst (.int 1))) exNil))))
  (.ret (.bin .add (.bin .add (.slc (.loc 1) .no (.at (.loc 3))) (.tup (exCons (.loc 6) exNil))) (.slc (.loc 1) (.at (.loc 3)) .no)))))) .skip)
  (.seq (.asg (.name 3) (.call cl 15 (exCons (.loc 0) (exCons (.bi .len (exCons (.loc 1) exNil)) exNil))))
  (.seq (.asg (.name 4) (.idx (.loc 1) (.loc 3)))
  (.seq (.ite (.and (.ex (.cmp .in_ (.idx (.loc 4) (.cst (.int 0))) (.tup (exCons (.cst (.str (Str.ofString "pair"))) (exCons (.cst (.str (Str.ofString "open"))) exNil))))) (.ex (.cmp .eq (.call cl 15 (exCons (.loc 0) (exCons (.cst (.int 2)) exNil))) (.cst (.int 0))))) (.seq (.asg (.name 4) (.bin .add (.bin .add (.slc (.loc 4) .no (.at (.cst (.int 2)))) (.tup (exCons (.call cl 24 (exCons (.loc 0) (exCons (.idx (.loc 4) (.cst (.int 2))) (exCons (.loc 2) exNil)))) exNil))) (.slc (.loc 4) (.at (.cst (.int 3))) .no)))
  (.ret (.bin .add (.bin .add (.slc (.loc 1) .no (.at (.loc 3))) (.tup (exCons (.loc 4) exNil))) (.slc (.loc 1) (.at (.bin .add (.loc 3) (.cst (.int 1)))) .no)))) .skip)
  (.ret (.call cl 16 (exCons (.loc 0) (exCons (.lst (exCons (.bin .add (.slc (.loc 1) .no (.at (.loc 3))) (.slc (.loc 1) (.at (.bin .add (.loc 3) (.cst (.int 1)))) .no)) (exCons (.rev (.loc 1)) (exCons (.bin .add (.bin .add (.slc (.loc 1) .no (.at (.loc 3))) (.tup (exCons (.bin .add (.bin .add (.slc (.loc 4) .no (.at (.cst (.int 1)))) (.tup (exCons (.call cl 15 (exCons (.loc 0) (exCons (.loc 2) exNil))) exNil))) (.slc (.loc 4) (.at (.cst (.int 2))) .no)) exNil))) (.slc (.loc 1) (.at (.bin .add (.loc 3) (.cst (.int 1)))) .no)) exNil)))) exNil))))))))
/- 25 _law_flat(items): items, found, one, inner -/
def b__law_flat (cl : Cl) : Sm :=
  (.seq (.asg (.name 1) (.tup exNil))
  (.seq (.for (.of (.loc 0)) (.name 2) (.seq (.ite (.or (.ex (.cmp .isN (.loc 2) (.cst .non))) (.ex (.cmp .notIn (.tup (exCons (.idx (.loc 2) (.cst (.int 0))) (exCons (.bi .len (exCons (.loc 2) exNil)) exNil))) (.tup (exCons (.tup (exCons (.cst (.str (Str.ofString "plain"))) (exCons (.cst (.int 2)) exNil))) (exCons (.tup (exCons (.cst (.str (Str.ofString "free"))) (exCons (.cst (.int 2)) exNil))) (exCons (.tup (exCons (.cst (.str (Str.ofString "pair"))) (exCons (.cst (.int 4)) exNil))) (exCons (.tup (exCons (.cst (.str (Str.ofString "open"))) (exCons (.cst (.int 3)) exNil))) exNil)))))))) (.ret (.cst .non)) .skip)
  (.seq (.asg (.name 3) (.tup exNil))
  (.seq (.ite (.ex (.cmp .in_ (.idx (.loc 2) (.cst (.int 0))) (.tup (exCons (.cst (.str (Str.ofString "pair"))) (exCons (.cst (.str (Str.ofString "open"))) exNil))))) (.asg (.name 3) (.ite (.ex (.isi (.idx (.loc 2) (.cst (.int 2))) .tuple)) (.call cl 25 (exCons (.idx (.loc 2) (.cst (.int 2))) exNil)) (.cst .non))) .skip)
  (.seq (.ite (.ex (.cmp .isN (.loc 3) (.cst .non))) (.ret (.cst .non)) .skip)
  (.asg (.name 1) (.bin .add (.bin .add (.bin .add (.loc 1) (.tup (exCons (.idx (.loc 2) (.cst (.int 1))) exNil))) (.loc 3)) (.slc (.loc 2) (.at (.cst (.int 3))) .no))))))))
  (.ret (.loc 1))))
/- 26 law(script): script, tape, turn, signs, word, items, again, odd, near, text, is_good, s -/
def b_law (cl : Cl) : Sm :=
  (.seq (.asg (.name 1) (.call cl 14 (exCons (.loc 0) exNil)))
  (.seq (.for (.range1 (.cst (.int 4))) (.name 2) (.seq (.asg (.name 3) (.call cl 18 (exCons (.loc 1) exNil)))
  (.seq (.asg (.name 4) (.call cl 20 (exCons (.loc 1) (exCons (.loc 3) (exCons (.cst (.int 14)) exNil)))))
  (.seq (.asg (.name 5) (.call cl 23 (exCons (.loc 3) (exCons (.loc 4) exNil))))
  (.seq (.ite (.or (.not (.ex (.call cl 17 (exCons (.call cl 21 (exCons (.cst (.fn 6)) (exCons (.loc 3) (exCons (.loc 4) exNil)))) (exCons (.loc 5) exNil))))) (.not (.ex (.call cl 17 (exCons (.call cl 21 (exCons (.cst (.fn 13)) (exCons (.loc 3) (exCons (.loc 5) exNil)))) (exCons (.loc 4) exNil)))))) (.ret (.cst (.bl false))) .skip)
  (.seq (.for (.range1 (.cst (.int 4))) (.name 6) (.seq (.asg (.name 8) (.call cl 24 (exCons (.loc 1) (exCons (.loc 5) (exCons (.call cl 19 (exCons (.loc 3) exNil)) exNil)))))
  (.seq (.asg (.name 9) (.call cl 25 (exCons (.loc 8) exNil)))
  (.seq (.asg (.name 10) (.and (.cmp .notN (.loc 9) (.cst .non)) (.and (.cmp .eq (.bi .len (exCons (.comp [11] (.of (.loc 9)) (.name 11) (.ex (.cmp .ge (.loc 11) (.call cl 19 (exCons (.loc 3) exNil)))) (.loc 11)) exNil)) (.cst (.int 0))) (.cmp .eq (.call cl 23 (exCons (.loc 3) (exCons (.loc 9) exNil))) (.loc 8)))))
  (.ite (.not (.ex (.call cl 17 (exCons (.call cl 21 (exCons (.cst (.fn 13)) (exCons (.loc 3) (exCons (.loc 8) exNil)))) (exCons (.ite (.ex (.loc 10)) (.loc 9) (.cst (.str (Str.ofString "word")))) exNil))))) (.ret (.cst (.bl false))) .skip)))))
  (.seq (.asg (.name 7) (.call cl 16 (exCons (.loc 1) (exCons (.lst (exCons (.cst .non) (exCons (.lst (exCons (.cst (.int 0)) exNil)) (exCons (.tup (exCons (.call cl 19 (exCons (.loc 3) exNil)) exNil)) (exCons (.tup (exCons (.cst (.bl true)) exNil)) (exCons (.bin .mul (.tup (exCons (.cst (.int 0)) exNil)) (.cst (.int 301))) exNil)))))) exNil))))
  (.ite (.ex (.cmp .ne (.tup (exCons (.call cl 21 (exCons (.cst (.fn 6)) (exCons (.loc 3) (exCons (.loc 7) exNil)))) (exCons (.call cl 21 (exCons (.cst (.fn 6)) (exCons (.cst .non) (exCons (.loc 7) exNil)))) (exCons (.call cl 21 (exCons (.cst (.fn 13)) (exCons (.loc 3) (exCons (.bi .list (exCons (.loc 5) exNil)) exNil)))) (exCons (.call cl 21 (exCons (.cst (.fn 13)) (exCons (.tup exNil) (exCons (.loc 5) exNil)))) exNil))))) (.tup (exCons (.cst (.str (Str.ofString "word"))) (exCons (.cst (.str (Str.ofString "system"))) (exCons (.cst (.str (Str.ofString "word"))) (exCons (.cst (.str (Str.ofString "system"))) exNil))))))) (.ret (.cst (.bl false))) .skip))))))))
  (.ret (.cst (.bl true)))))
def prog (cl : Cl) : Cl := fun k ds g => match k with
  | 0 => body 3 3 (b_is_integer cl) ds g
  | 1 => body 1 2 (b_is_signs cl) ds g
  | 2 => body 1 1 (b_many_signs cl) ds g
  | 3 => body 2 3 (b_is_word_of cl) ds g
  | 4 => body 2 2 (b_check_word cl) ds g
  | 5 => body 1 1 (b_check_signs cl) ds g
  | 6 => body 2 6 (b_items_of cl) ds g
  | 7 => body 2 2 (b_Spelling___init__ cl) ds g
  | 8 => body 2 6 (b_Spelling_kind cl) ds g
  | 9 => body 2 3 (b_Spelling_look_at cl) ds g
  | 10 => body 3 3 (b_Spelling_put cl) ds g
  | 11 => body 2 3 (b_Spelling_take cl) ds g
  | 12 => body 2 4 (b_Spelling_spell cl) ds g
  | 13 => body 2 4 (b_word_of cl) ds g
  | 14 => body 1 3 (b__law_tape cl) ds g
  | 15 => body 2 4 (b__law_draw cl) ds g
  | 16 => body 2 2 (b__law_pick cl) ds g
  | 17 => body 2 3 (b__law_same cl) ds g
  | 18 => body 1 1 (b__law_signs cl) ds g
  | 19 => body 1 1 (b__law_many cl) ds g
  | 20 => body 3 4 (b__law_word cl) ds g
  | 21 => body 3 4 (b__law_call cl) ds g
  | 22 => body 3 5 (b__law_match cl) ds g
  | 23 => body 2 5 (b__law_items cl) ds g
  | 24 => body 3 7 (b__law_bent cl) ds g
  | 25 => body 1 4 (b__law_flat cl) ds g
  | 26 => body 1 12 (b_law cl) ds g
  | _ => .stuck
def callN : Nat → Cl
  | 0 => fun _ _ _ => .stuck
  | n + 1 => prog (callN n)
def law : Nat := 26
end K44
namespace K44
open PySem DV
open PySem.Spec PyProof.Rows L2 RZ
def top (i : Nat) : Stmt := PySem.Challenge.pw_stackstead_k44_words_as_trees.main.body.getD i (.Pass ⟨0, 0, 0, 0⟩)
abbrev s0 : Stmt := top 5
abbrev s1 : Stmt := top 9
abbrev s2 : Stmt := top 10
abbrev s3 : Stmt := top 11
abbrev s4 : Stmt := top 12
abbrev s5 : Stmt := top 14
abbrev s6 : Stmt := top 15
abbrev s7 : Stmt := inClass (top 16) 0
abbrev s8 : Stmt := inClass (top 16) 1
abbrev s9 : Stmt := inClass (top 16) 2
abbrev s10 : Stmt := inClass (top 16) 3
abbrev s11 : Stmt := inClass (top 16) 4
abbrev s12 : Stmt := inClass (top 16) 5
abbrev s13 : Stmt := top 17
abbrev s14 : Stmt := top 19
abbrev s15 : Stmt := top 20
abbrev s16 : Stmt := top 21
abbrev s17 : Stmt := top 22
abbrev s18 : Stmt := top 23
abbrev s19 : Stmt := top 24
abbrev s20 : Stmt := top 25
abbrev s21 : Stmt := top 26
abbrev s22 : Stmt := top 27
abbrev s23 : Stmt := top 28
abbrev s24 : Stmt := top 29
abbrev s25 : Stmt := top 30
abbrev s26 : Stmt := top 31
abbrev N0 : List Str := ["value", "low", "high"]
abbrev p0 : List Str := ["value", "low", "high"]
abbrev N1 : List Str := ["value", "one"]
abbrev p1 : List Str := ["value"]
abbrev N2 : List Str := ["signs"]
abbrev p2 : List Str := ["signs"]
abbrev N3 : List Str := ["signs", "value", "one"]
abbrev p3 : List Str := ["signs", "value"]
abbrev N4 : List Str := ["signs", "word"]
abbrev p4 : List Str := ["signs", "word"]
abbrev N5 : List Str := ["signs"]
abbrev p5 : List Str := ["signs"]
abbrev N6 : List Str := ["signs", "word", "rows", "calls", "sign", "inner"]
abbrev p6 : List Str := ["signs", "word"]
abbrev N7 : List Str := ["self", "signs"]
abbrev p7 : List Str := ["self", "signs"]
abbrev N8 : List Str := ["self", "sign", "_", "a", "b", "c"]
abbrev p8 : List Str := ["self", "sign"]
abbrev N9 : List Str := ["self", "items", "item"]
abbrev p9 : List Str := ["self", "items"]
abbrev N10 : List Str := ["self", "sign", "kind"]
abbrev p10 : List Str := ["self", "sign", "kind"]
abbrev N11 : List Str := ["self", "item", "form"]
abbrev p11 : List Str := ["self", "item"]
abbrev N12 : List Str := ["self", "items", "word", "one"]
abbrev p12 : List Str := ["self", "items"]
abbrev N13 : List Str := ["signs", "items", "spelling", "word"]
abbrev p13 : List Str := ["signs", "items"]
abbrev N14 : List Str := ["script", "seed", "cell"]
abbrev p14 : List Str := ["script"]
abbrev N15 : List Str := ["tape", "many", "cells", "number"]
abbrev p15 : List Str := ["tape", "many"]
abbrev N16 : List Str := ["tape", "row"]
abbrev p16 : List Str := ["tape", "row"]
abbrev N17 : List Str := ["told", "due", "k"]
abbrev p17 : List Str := ["told", "due"]
abbrev N18 : List Str := ["tape"]
abbrev p18 : List Str := ["tape"]
abbrev N19 : List Str := ["signs"]
abbrev p19 : List Str := ["signs"]
abbrev N20 : List Str := ["tape", "signs", "most", "k"]
abbrev p20 : List Str := ["tape", "signs", "most"]
abbrev N21 : List Str := ["call", "one", "other", "told"]
abbrev p21 : List Str := ["call", "one", "other"]
abbrev N22 : List Str := ["signs", "word", "k", "now", "i"]
abbrev p22 : List Str := ["signs", "word", "k"]
abbrev N23 : List Str := ["signs", "word", "found", "k", "end"]
abbrev p23 : List Str := ["signs", "word"]
abbrev N24 : List Str := ["tape", "items", "many", "k", "one", "s", "more"]
abbrev p24 : List Str := ["tape", "items", "many"]
abbrev N25 : List Str := ["items", "found", "one", "inner"]
abbrev p25 : List Str := ["items"]
abbrev N26 : List Str := ["script", "tape", "turn", "signs", "word", "items", "again", "odd", "near", "text", "is_good", "s"]
abbrev p26 : List Str := ["script"]
structure Txt (Z : Tab) : Prop where
  B : Blt Z.mg
  C : ClsOk Z T
  mf_0 : Z.mg "is_integer" = some (.ref (Z.fn 0))
  mf_1 : Z.mg "is_signs" = some (.ref (Z.fn 1))
  mf_2 : Z.mg "many_signs" = some (.ref (Z.fn 2))
  mf_3 : Z.mg "is_word_of" = some (.ref (Z.fn 3))
  mf_4 : Z.mg "check_word" = some (.ref (Z.fn 4))
  mf_5 : Z.mg "check_signs" = some (.ref (Z.fn 5))
  mf_6 : Z.mg "items_of" = some (.ref (Z.fn 6))
  mf_13 : Z.mg "word_of" = some (.ref (Z.fn 13))
  mf_14 : Z.mg "_law_tape" = some (.ref (Z.fn 14))
  mf_15 : Z.mg "_law_draw" = some (.ref (Z.fn 15))
  mf_16 : Z.mg "_law_pick" = some (.ref (Z.fn 16))
  mf_17 : Z.mg "_law_same" = some (.ref (Z.fn 17))
  mf_18 : Z.mg "_law_signs" = some (.ref (Z.fn 18))
  mf_19 : Z.mg "_law_many" = some (.ref (Z.fn 19))
  mf_20 : Z.mg "_law_word" = some (.ref (Z.fn 20))
  mf_21 : Z.mg "_law_call" = some (.ref (Z.fn 21))
  mf_22 : Z.mg "_law_match" = some (.ref (Z.fn 22))
  mf_23 : Z.mg "_law_items" = some (.ref (Z.fn 23))
  mf_24 : Z.mg "_law_bent" = some (.ref (Z.fn 24))
  mf_25 : Z.mg "_law_flat" = some (.ref (Z.fn 25))
  mf_26 : Z.mg "law" = some (.ref (Z.fn 26))
  mc_0 : Z.mg "Spelling" = some (.ref (Z.cls 0))
  mk_0 : L2.Mk Z.K (Z.cls 0) (Z.fn 7)
  mx_0 : Z.mg "StackError" = some (.ref (Z.exc 0))
  xo_0 : ExcOk Z 0
  mx_1 : Z.mg "BadSystem" = some (.ref (Z.exc 1))
  xo_1 : ExcOk Z 1
  mx_2 : Z.mg "BadWord" = some (.ref (Z.exc 2))
  xo_2 : ExcOk Z 2
  ex_1 : ∀ c', c' < Z.ne → PySem.W.exmOne Z.K (.ref (Z.exc c')) (.ref (Z.exc 1)) = some (decide (1 = c'))
  ex_2 : ∀ c', c' < Z.ne → PySem.W.exmOne Z.K (.ref (Z.exc c')) (.ref (Z.exc 2)) = some (decide (2 = c'))
  mi_MOST_WORD : ∃ t, Z.mg "MOST_WORD" = some (.int 300 t)
  mi_MOST_KIND : ∃ t, Z.mg "MOST_KIND" = some (.int 3 t)
section
variable {Z : Tab} {X : Cx} {W : WX} {lev m : Nat} {cl : Cl}
theorem d0 (Tx : Txt Z) (hX : XOk Z X N0 (defScope s0) W m) (xf : XFn X) (F : ∀ n, n < 27 → FT Z lev cl n) (hl : lev ≤ m) (hl1 : lev + 1 ≤ m) : PSs X (defBody s0) (rdS Z W (b_is_integer cl)) := by
  unfold b_is_integer
  exact (ds_one (ds_ret (de_and (de_isi hX (Tx.B.at hX) .int (de_loc hX 0) (hm2 := (Tx.B.at hX).int)) (de_and (de_not (de_isi hX (Tx.B.at hX) .bool (de_loc hX 0) (hm2 := (Tx.B.at hX).bool))) (de_one (de_chain (opc_le hX.hK hX.hu0) (opc_le hX.hK hX.hu0) (de_loc hX 1) (de_loc hX 0) (de_loc hX 2)))))))
theorem d1 (Tx : Txt Z) (hX : XOk Z X N1 (defScope s1) W m) (xf : XFn X) (F : ∀ n, n < 27 → FT Z lev cl n) (hl : lev ≤ m) (hl1 : lev + 1 ≤ m) : PSs X (defBody s1) (rdS Z W (b_is_signs cl)) := by
  unfold b_is_signs
  exact (ds_cons (ds_if (dt_w (dw_or (dt_not (dt_ex hX.hK (de_isi hX (Tx.B.at hX) .tuple (de_loc hX 0) (hm2 := (Tx.B.at hX).tuple)))) (dw_or (dt_cmp (opc_ne hX.hK hX.hu0) (de_biF .len hX (bi_len hX.hK) (Tx.B.at hX).len (da_cons (de_loc hX 0) da_nil)) de_int) (dw_or1 (dt_cmp (opc_ne hX.hK hX.hu0) (de_idx hX.hK (de_loc hX 0) de_int (fun _ _ => rfl)) de_str))))) (ds_one (ds_ret de_bl)) ds_nil)
    (ds_one (ds_ret (de_and (de_biF .all hX (bi_all hX.hK hX.calm) (Tx.B.at hX).all (da_cons (de_comp hX [(("one" : Str), 1)] (di_of hX.hK (de_slc hX.hK (de_loc hX 0) (do_at de_int) do_no)) (fun s1 h1 c1 l1 f1 => (dg_name (hX.blk s1 h1 c1 l1 f1) 1)) (fun s2 h2 c2 l2 f2 => dts_nil) (fun s3 h3 c3 l3 f3 => (de_call (hX.blk s3 h3 c3 l3 f3) (F 0 (by decide)) hl Tx.mf_0 (da_cons (de_loc (hX.blk s3 h3 c3 l3 f3) 1) (da_cons de_int (da_cons (de_gI (hX.blk s3 h3 c3 l3 f3) Tx.mi_MOST_KIND) da_nil)))))) da_nil)) (de_one (de_biF .any hX (bi_any hX.hK hX.calm) (Tx.B.at hX).any (da_cons (de_slc hX.hK (de_loc hX 0) (do_at de_int) do_no) da_nil)))))))
theorem d2 (Tx : Txt Z) (hX : XOk Z X N2 (defScope s2) W m) (xf : XFn X) (F : ∀ n, n < 27 → FT Z lev cl n) (hl : lev ≤ m) (hl1 : lev + 1 ≤ m) : PSs X (defBody s2) (rdS Z W (b_many_signs cl)) := by
  unfold b_many_signs
  exact (ds_one (ds_ret (de_bin (opd_add hX.hK) (de_bin (opd_add hX.hK) (de_idx hX.hK (de_loc hX 0) de_int (fun _ _ => rfl)) (de_idx hX.hK (de_loc hX 0) de_int (fun _ _ => rfl))) (de_idx hX.hK (de_loc hX 0) de_int (fun _ _ => rfl)))))
theorem d3 (Tx : Txt Z) (hX : XOk Z X N3 (defScope s3) W m) (xf : XFn X) (F : ∀ n, n < 27 → FT Z lev cl n) (hl : lev ≤ m) (hl1 : lev + 1 ≤ m) : PSs X (defBody s3) (rdS Z W (b_is_word_of cl)) := by
  unfold b_is_word_of
  exact (ds_cons (ds_if (dt_w (dw_or (dt_not (dt_ex hX.hK (de_isi hX (Tx.B.at hX) .tuple (de_loc hX 1) (hm2 := (Tx.B.at hX).tuple)))) (dw_or1 (dt_cmp (opc_gt hX.hK hX.hu0) (de_biF .len hX (bi_len hX.hK) (Tx.B.at hX).len (da_cons (de_loc hX 1) da_nil)) (de_gI hX Tx.mi_MOST_WORD))))) (ds_one (ds_ret de_bl)) ds_nil)
    (ds_one (ds_ret (de_biF .all hX (bi_all hX.hK hX.calm) (Tx.B.at hX).all (da_cons (de_comp hX [(("one" : Str), 2)] (di_of hX.hK (de_loc hX 1)) (fun s1 h1 c1 l1 f1 => (dg_name (hX.blk s1 h1 c1 l1 f1) 2)) (fun s2 h2 c2 l2 f2 => dts_nil) (fun s3 h3 c3 l3 f3 => (de_call (hX.blk s3 h3 c3 l3 f3) (F 0 (by decide)) hl Tx.mf_0 (da_cons (de_loc (hX.blk s3 h3 c3 l3 f3) 2) (da_cons de_int (da_cons (de_bin opd_sub (de_call (hX.blk s3 h3 c3 l3 f3) (F 2 (by decide)) hl Tx.mf_2 (da_cons (de_loc (hX.blk s3 h3 c3 l3 f3) 0) da_nil)) de_int) da_nil)))))) da_nil)))))
theorem d4 (Tx : Txt Z) (hX : XOk Z X N4 (defScope s4) W m) (xf : XFn X) (F : ∀ n, n < 27 → FT Z lev cl n) (hl : lev ≤ m) (hl1 : lev + 1 ≤ m) : PSs X (defBody s4) (rdS Z W (b_check_word cl)) := by
  unfold b_check_word
  exact (ds_one (ds_if (dt_not (dt_ex hX.hK (de_call hX (F 3 (by decide)) hl Tx.mf_3 (da_cons (de_loc hX 0) (da_cons (de_loc hX 1) da_nil))))) (ds_one (ds_raise0 hX 2 Tx.xo_2 Tx.mx_2)) ds_nil))
theorem d5 (Tx : Txt Z) (hX : XOk Z X N5 (defScope s5) W m) (xf : XFn X) (F : ∀ n, n < 27 → FT Z lev cl n) (hl : lev ≤ m) (hl1 : lev + 1 ≤ m) : PSs X (defBody s5) (rdS Z W (b_check_signs cl)) := by
  unfold b_check_signs
  exact (ds_one (ds_if (dt_not (dt_ex hX.hK (de_call hX (F 1 (by decide)) hl Tx.mf_1 (da_cons (de_loc hX 0) da_nil)))) (ds_one (ds_raise0 hX 1 Tx.xo_1 Tx.mx_1)) ds_nil))
theorem d6 (Tx : Txt Z) (hX : XOk Z X N6 (defScope s6) W m) (xf : XFn X) (F : ∀ n, n < 27 → FT Z lev cl n) (hl : lev ≤ m) (hl1 : lev + 1 ≤ m) : PSs X (defBody s6) (rdS Z W (b_items_of cl)) := by
  unfold b_items_of
  exact (ds_cons (ds_ex (de_call hX (F 5 (by decide)) hl Tx.mf_5 (da_cons (de_loc hX 0) da_nil)))
    (ds_cons (ds_ex (de_call hX (F 4 (by decide)) hl Tx.mf_4 (da_cons (de_loc hX 0) (da_cons (de_loc hX 1) da_nil))))
    (ds_cons (ds_set hX 2 (de_lst (da_cons (de_lst da_nil) da_nil)) (hf := .inl (xf.fn _)))
    (ds_cons (ds_set hX 3 (de_lst da_nil) (hf := .inl (xf.fn _)))
    (ds_cons (ds_for hX xf.pass (di_of hX.hK (de_loc hX 1)) (dg_name hX 4 (hf := .inl (xf.fn _))) (ds_one (ds_if (dt_cmp (opc_lt hX.hK hX.hu0) (de_loc hX 4) (de_idx hX.hK (de_loc hX 0) de_int (fun _ _ => rfl))) (ds_cons (ds_ex (de_mth .append hX.hK PySem.F.slot_list_append PySem.F.type_list_append m_append (de_loc hX 3) (da_cons (de_loc hX 4) da_nil)))
    (ds_one (ds_ex (de_mth .append hX.hK PySem.F.slot_list_append PySem.F.type_list_append m_append (de_loc hX 2) (da_cons (de_lst da_nil) da_nil))))) (ds_one (ds_if (dt_cmp (opc_ge hX.hK hX.hu0) (de_loc hX 4) (de_bin (opd_add hX.hK) (de_idx hX.hK (de_loc hX 0) de_int (fun _ _ => rfl)) (de_idx hX.hK (de_loc hX 0) de_int (fun _ _ => rfl)))) (ds_one (ds_ex (de_mth .append hX.hK PySem.F.slot_list_append PySem.F.type_list_append m_append (de_idx hX.hK (de_loc hX 2) (de_neg de_int) (fun _ _ => rfl)) (da_cons (de_tup (da_cons de_str (da_cons (de_loc hX 4) da_nil))) da_nil)))) (ds_one (ds_if (dt_cmp (opc_eq hX.hK hX.hu0) (de_loc hX 3) (de_lst da_nil)) (ds_one (ds_ex (de_mth .append hX.hK PySem.F.slot_list_append PySem.F.type_list_append m_append (de_idx hX.hK (de_loc hX 2) (de_neg de_int) (fun _ _ => rfl)) (da_cons (de_tup (da_cons de_str (da_cons (de_loc hX 4) da_nil))) da_nil)))) (ds_cons (ds_set hX 5 (de_biT .tuple hX (bi_tuple hX.hK) (Tx.B.at hX).tuple (da_cons (de_mth0 .pop hX.hK PySem.F.slot_list_pop PySem.F.type_list_pop m_pop (de_loc hX 2)) da_nil)) (hf := .inl (xf.fn _)))
    (ds_one (ds_ex (de_mth .append hX.hK PySem.F.slot_list_append PySem.F.type_list_append m_append (de_idx hX.hK (de_loc hX 2) (de_neg de_int) (fun _ _ => rfl)) (da_cons (de_tup (da_cons de_str (da_cons (de_mth0 .pop hX.hK PySem.F.slot_list_pop PySem.F.type_list_pop m_pop (de_loc hX 3)) (da_cons (de_loc hX 5) (da_cons (de_loc hX 4) da_nil))))) da_nil))))))))))))
    (ds_cons (ds_while xf.pass (dt_cmp (opc_ne hX.hK hX.hu0) (de_loc hX 3) (de_lst da_nil)) (ds_cons (ds_set hX 5 (de_biT .tuple hX (bi_tuple hX.hK) (Tx.B.at hX).tuple (da_cons (de_mth0 .pop hX.hK PySem.F.slot_list_pop PySem.F.type_list_pop m_pop (de_loc hX 2)) da_nil)) (hf := .inl (xf.fn _)))
    (ds_one (ds_ex (de_mth .append hX.hK PySem.F.slot_list_append PySem.F.type_list_append m_append (de_idx hX.hK (de_loc hX 2) (de_neg de_int) (fun _ _ => rfl)) (da_cons (de_tup (da_cons de_str (da_cons (de_mth0 .pop hX.hK PySem.F.slot_list_pop PySem.F.type_list_pop m_pop (de_loc hX 3)) (da_cons (de_loc hX 5) da_nil)))) da_nil))))))
    (ds_one (ds_ret (de_biT .tuple hX (bi_tuple hX.hK) (Tx.B.at hX).tuple (da_cons (de_idx hX.hK (de_loc hX 2) de_int (fun _ _ => rfl)) da_nil))))))))))
theorem d7 (Tx : Txt Z) (hX : XOk Z X N7 (defScope s7) W m) (xf : XFn X) (F : ∀ n, n < 27 → FT Z lev cl n) (hl : lev ≤ m) (hl1 : lev + 1 ≤ m) : PSs X (defBody s7) (rdS Z W (b_Spelling___init__ cl)) := by
  unfold b_Spelling___init__
  exact (ds_cons (ds_asg (de_loc hX 1) (dg_fld hX Tx.C (de_loc hX 0)))
    (ds_cons (ds_asg (de_lst da_nil) (dg_fld hX Tx.C (de_loc hX 0)))
    (ds_one (ds_asg (de_lst da_nil) (dg_fld hX Tx.C (de_loc hX 0))))))
theorem d8 (Tx : Txt Z) (hX : XOk Z X N8 (defScope s8) W m) (xf : XFn X) (F : ∀ n, n < 27 → FT Z lev cl n) (hl : lev ≤ m) (hl1 : lev + 1 ≤ m) : PSs X (defBody s8) (rdS Z W (b_Spelling_kind cl)) := by
  unfold b_Spelling_kind
  exact (ds_cons (ds_asg (de_fld hX.hK Tx.C (de_loc hX 0)) (dg_tup hX (dgs_cons (dg_name hX 2 (hf := .inl (xf.fn _))) (dgs_cons (dg_name hX 3 (hf := .inl (xf.fn _))) (dgs_cons (dg_name hX 4 (hf := .inl (xf.fn _))) (dgs_cons (dg_name hX 5 (hf := .inl (xf.fn _))) dgs_nil))))))
    (ds_cons (ds_if (dt_not (dt_ex hX.hK (de_call hX (F 0 (by decide)) hl Tx.mf_0 (da_cons (de_loc hX 1) (da_cons de_int (da_cons (de_bin opd_sub (de_bin (opd_add hX.hK) (de_bin (opd_add hX.hK) (de_loc hX 3) (de_loc hX 4)) (de_loc hX 5)) de_int) da_nil)))))) (ds_one (ds_ret de_non)) ds_nil)
    (ds_one (ds_ret (de_bin (opd_add hX.hK) (de_biT .int hX bi_int (Tx.B.at hX).int (da_cons (de_cmp (opc_ge hX.hK hX.hu0) (de_loc hX 1) (de_loc hX 3)) da_nil)) (de_biT .int hX bi_int (Tx.B.at hX).int (da_cons (de_cmp (opc_ge hX.hK hX.hu0) (de_loc hX 1) (de_bin (opd_add hX.hK) (de_loc hX 3) (de_loc hX 4))) da_nil)))))))
theorem d9 (Tx : Txt Z) (hX : XOk Z X N9 (defScope s9) W m) (xf : XFn X) (F : ∀ n, n < 27 → FT Z lev cl n) (hl : lev ≤ m) (hl1 : lev + 1 ≤ m) : PSs X (defBody s9) (rdS Z W (b_Spelling_look_at cl)) := by
  unfold b_Spelling_look_at
  exact (ds_cons (ds_if (dt_not (dt_ex hX.hK (de_isi hX (Tx.B.at hX) .tuple (de_loc hX 1) (hm2 := (Tx.B.at hX).tuple)))) (ds_one (ds_raise0 hX 2 Tx.xo_2 Tx.mx_2)) ds_nil)
    (ds_one (ds_ex (de_mth .extend hX.hK PySem.F.slot_list_extend PySem.F.type_list_extend m_extend (de_fld hX.hK Tx.C (de_loc hX 0)) (da_cons (de_comp hX [(("item" : Str), 2)] (di_of hX.hK (de_rev hX.hK (de_loc hX 1))) (fun s1 h1 c1 l1 f1 => (dg_name (hX.blk s1 h1 c1 l1 f1) 2)) (fun s2 h2 c2 l2 f2 => dts_nil) (fun s3 h3 c3 l3 f3 => (de_tup (da_cons de_str (da_cons (de_loc (hX.blk s3 h3 c3 l3 f3) 2) da_nil))))) da_nil)))))
theorem d10 (Tx : Txt Z) (hX : XOk Z X N10 (defScope s10) W m) (xf : XFn X) (F : ∀ n, n < 27 → FT Z lev cl n) (hl : lev ≤ m) (hl1 : lev + 1 ≤ m) : PSs X (defBody s10) (rdS Z W (b_Spelling_put cl)) := by
  unfold b_Spelling_put
  exact (ds_cons (ds_if (dt_cmp (opc_ne hX.hK hX.hu0) (de_meth hX Tx.C F hl (by decide +kernel) (de_loc hX 0) (da_cons (de_loc hX 1) da_nil) (by rfl)) (de_loc hX 2)) (ds_one (ds_raise0 hX 2 Tx.xo_2 Tx.mx_2)) ds_nil)
    (ds_one (ds_ex (de_mth .append hX.hK PySem.F.slot_list_append PySem.F.type_list_append m_append (de_fld hX.hK Tx.C (de_loc hX 0)) (da_cons (de_loc hX 1) da_nil)))))
theorem d11 (Tx : Txt Z) (hX : XOk Z X N11 (defScope s11) W m) (xf : XFn X) (F : ∀ n, n < 27 → FT Z lev cl n) (hl : lev ≤ m) (hl1 : lev + 1 ≤ m) : PSs X (defBody s11) (rdS Z W (b_Spelling_take cl)) := by
  unfold b_Spelling_take
  exact (ds_cons (ds_if (dt_w (dw_or (dt_not (dt_ex hX.hK (de_isi hX (Tx.B.at hX) .tuple (de_loc hX 1) (hm2 := (Tx.B.at hX).tuple)))) (dw_or (dt_cmp (opc_eq hX.hK hX.hu0) (de_loc hX 1) (de_tup da_nil)) (dw_or1 (dt_not (dt_ex hX.hK (de_isi hX (Tx.B.at hX) .str (de_idx hX.hK (de_loc hX 1) de_int (fun _ _ => rfl)) (hm2 := (Tx.B.at hX).str)))))))) (ds_one (ds_raise0 hX 2 Tx.xo_2 Tx.mx_2)) ds_nil)
    (ds_cons (ds_set hX 2 (de_tup (da_cons (de_idx hX.hK (de_loc hX 1) de_int (fun _ _ => rfl)) (da_cons (de_biF .len hX (bi_len hX.hK) (Tx.B.at hX).len (da_cons (de_loc hX 1) da_nil)) da_nil))) (hf := .inl (xf.fn _)))
    (ds_one (ds_if (dt_cmp (opc_eq hX.hK hX.hu0) (de_loc hX 2) (de_tup (da_cons de_str (da_cons de_int da_nil)))) (ds_one (ds_ex (de_meth hX Tx.C F hl (by decide +kernel) (de_loc hX 0) (da_cons (de_idx hX.hK (de_loc hX 1) de_int (fun _ _ => rfl)) (da_cons de_int da_nil)) (by rfl)))) (ds_one (ds_if (dt_cmp (opc_eq hX.hK hX.hu0) (de_loc hX 2) (de_tup (da_cons de_str (da_cons de_int da_nil)))) (ds_one (ds_ex (de_meth hX Tx.C F hl (by decide +kernel) (de_loc hX 0) (da_cons (de_idx hX.hK (de_loc hX 1) de_int (fun _ _ => rfl)) (da_cons de_int da_nil)) (by rfl)))) (ds_one (ds_if (dt_cmp (opc_eq hX.hK hX.hu0) (de_loc hX 2) (de_tup (da_cons de_str (da_cons de_int da_nil)))) (ds_cons (ds_ex (de_meth hX Tx.C F hl (by decide +kernel) (de_loc hX 0) (da_cons (de_idx hX.hK (de_loc hX 1) de_int (fun _ _ => rfl)) (da_cons de_int da_nil)) (by rfl)))
    (ds_cons (ds_ex (de_mth .append hX.hK PySem.F.slot_list_append PySem.F.type_list_append m_append (de_fld hX.hK Tx.C (de_loc hX 0)) (da_cons (de_tup (da_cons de_str (da_cons (de_idx hX.hK (de_loc hX 1) de_int (fun _ _ => rfl)) da_nil))) da_nil)))
    (ds_one (ds_ex (de_meth hX Tx.C F hl (by decide +kernel) (de_loc hX 0) (da_cons (de_idx hX.hK (de_loc hX 1) de_int (fun _ _ => rfl)) da_nil) (by rfl)))))) (ds_one (ds_if (dt_cmp (opc_eq hX.hK hX.hu0) (de_loc hX 2) (de_tup (da_cons de_str (da_cons de_int da_nil)))) (ds_cons (ds_ex (de_meth hX Tx.C F hl (by decide +kernel) (de_loc hX 0) (da_cons (de_idx hX.hK (de_loc hX 1) de_int (fun _ _ => rfl)) (da_cons de_int da_nil)) (by rfl)))
    (ds_one (ds_ex (de_meth hX Tx.C F hl (by decide +kernel) (de_loc hX 0) (da_cons (de_idx hX.hK (de_loc hX 1) de_int (fun _ _ => rfl)) da_nil) (by rfl))))) (ds_one (ds_raise0 hX 2 Tx.xo_2 Tx.mx_2))))))))))))
theorem d12 (Tx : Txt Z) (hX : XOk Z X N12 (defScope s12) W m) (xf : XFn X) (F : ∀ n, n < 27 → FT Z lev cl n) (hl : lev ≤ m) (hl1 : lev + 1 ≤ m) : PSs X (defBody s12) (rdS Z W (b_Spelling_spell cl)) := by
  unfold b_Spelling_spell
  exact (ds_cons (ds_ex (de_meth hX Tx.C F hl (by decide +kernel) (de_loc hX 0) (da_cons (de_loc hX 1) da_nil) (by rfl)))
    (ds_one (ds_while xf.pass (dt_cmp (opc_ne hX.hK hX.hu0) (de_fld hX.hK Tx.C (de_loc hX 0)) (de_lst da_nil)) (ds_cons (ds_asg (de_mth0 .pop hX.hK PySem.F.slot_list_pop PySem.F.type_list_pop m_pop (de_fld hX.hK Tx.C (de_loc hX 0))) (dg_tup hX (dgs_cons (dg_name hX 2 (hf := .inl (xf.fn _))) (dgs_cons (dg_name hX 3 (hf := .inl (xf.fn _))) dgs_nil))))
    (ds_cons (ds_if (dt_cmp (opc_eq hX.hK hX.hu0) (de_loc hX 2) de_str) (ds_one (ds_ex (de_meth hX Tx.C F hl (by decide +kernel) (de_loc hX 0) (da_cons (de_loc hX 3) (da_cons de_int da_nil)) (by rfl)))) (ds_one (ds_ex (de_meth hX Tx.C F hl (by decide +kernel) (de_loc hX 0) (da_cons (de_loc hX 3) da_nil) (by rfl)))))
    (ds_one (ds_if (dt_cmp (opc_gt hX.hK hX.hu0) (de_biF .len hX (bi_len hX.hK) (Tx.B.at hX).len (da_cons (de_fld hX.hK Tx.C (de_loc hX 0)) da_nil)) de_int) (ds_one (ds_raise0 hX 2 Tx.xo_2 Tx.mx_2)) ds_nil)))))))
theorem d13 (Tx : Txt Z) (hX : XOk Z X N13 (defScope s13) W m) (xf : XFn X) (F : ∀ n, n < 27 → FT Z lev cl n) (hl : lev ≤ m) (hl1 : lev + 1 ≤ m) : PSs X (defBody s13) (rdS Z W (b_word_of cl)) := by
  unfold b_word_of
  exact (ds_cons (ds_ex (de_call hX (F 5 (by decide)) hl Tx.mf_5 (da_cons (de_loc hX 0) da_nil)))
    (ds_cons (ds_set hX 2 (de_new hX Tx.mk_0 (F 7 (by decide)) hl1 Tx.mc_0 (da_cons (de_loc hX 0) da_nil)) (hf := .inl (xf.fn _)))
    (ds_cons (ds_ex (de_meth hX Tx.C F hl (by decide +kernel) (de_loc hX 2) (da_cons (de_loc hX 1) da_nil) (by rfl)))
    (ds_cons (ds_set hX 3 (de_biT .tuple hX (bi_tuple hX.hK) (Tx.B.at hX).tuple (da_cons (de_fld hX.hK Tx.C (de_loc hX 2)) da_nil)) (hf := .inl (xf.fn _)))
    (ds_cons (ds_if (dt_cmp (opc_ne hX.hK hX.hu0) (de_call hX (F 6 (by decide)) hl Tx.mf_6 (da_cons (de_loc hX 0) (da_cons (de_loc hX 3) da_nil))) (de_loc hX 1)) (ds_one (ds_raise0 hX 2 Tx.xo_2 Tx.mx_2)) ds_nil)
    (ds_one (ds_ret (de_loc hX 3))))))))
theorem d14 (Tx : Txt Z) (hX : XOk Z X N14 (defScope s14) W m) (xf : XFn X) (F : ∀ n, n < 27 → FT Z lev cl n) (hl : lev ≤ m) (hl1 : lev + 1 ≤ m) : PSs X (defBody s14) (rdS Z W (b__law_tape cl)) := by
  unfold b__law_tape
  exact (ds_cons (ds_set hX 1 de_int (hf := .inl (xf.fn _)))
    (ds_cons (ds_for hX xf.pass (di_of hX.hK (de_loc hX 0)) (dg_name hX 2 (hf := .inl (xf.fn _))) (ds_one (ds_set hX 1 (de_bin opd_mod (de_biT .int hX bi_int (Tx.B.at hX).int (da_cons (de_bin (opd_add hX.hK) (de_bin (opd_mul hX.hK) (de_loc hX 1) de_int) (de_loc hX 2)) da_nil)) de_int) (hf := .inl (xf.fn _)))))
    (ds_one (ds_ret (de_lst (da_cons (de_comp hX [(("cell" : Str), 2)] (di_of hX.hK (de_loc hX 0)) (fun s1 h1 c1 l1 f1 => (dg_name (hX.blk s1 h1 c1 l1 f1) 2)) (fun s2 h2 c2 l2 f2 => dts_nil) (fun s3 h3 c3 l3 f3 => (de_biF .abs (hX.blk s3 h3 c3 l3 f3) bi_abs (Tx.B.at (hX.blk s3 h3 c3 l3 f3)).abs (da_cons (de_biT .int (hX.blk s3 h3 c3 l3 f3) bi_int (Tx.B.at (hX.blk s3 h3 c3 l3 f3)).int (da_cons (de_loc (hX.blk s3 h3 c3 l3 f3) 2) da_nil)) da_nil)))) (da_cons (de_bin (opd_add hX.hK) (de_loc hX 1) de_int) da_nil)))))))
theorem d15 (Tx : Txt Z) (hX : XOk Z X N15 (defScope s15) W m) (xf : XFn X) (F : ∀ n, n < 27 → FT Z lev cl n) (hl : lev ≤ m) (hl1 : lev + 1 ≤ m) : PSs X (defBody s15) (rdS Z W (b__law_draw cl)) := by
  unfold b__law_draw
  exact (ds_cons (ds_set hX 2 (de_idx hX.hK (de_loc hX 0) de_int (fun _ _ => rfl)) (hf := .inl (xf.fn _)))
    (ds_cons (ds_while xf.pass (dt_w (dw_and (dt_cmp (opc_gt hX.hK hX.hu0) (de_biF .len hX (bi_len hX.hK) (Tx.B.at hX).len (da_cons (de_loc hX 2) da_nil)) de_int) (dw_and1 (dt_cmp (opc_eq hX.hK hX.hu0) (de_idx hX.hK (de_loc hX 2) de_int (fun _ _ => rfl)) de_int)))) (ds_one (ds_ex (de_mth .popAt hX.hK PySem.F.slot_list_pop PySem.F.type_list_pop m_popAt (de_loc hX 2) (da_cons de_int da_nil)))))
    (ds_cons (ds_if (dt_cmp (opc_gt hX.hK hX.hu0) (de_biF .len hX (bi_len hX.hK) (Tx.B.at hX).len (da_cons (de_loc hX 2) da_nil)) de_int) (ds_cons (ds_set hX 3 (de_idx hX.hK (de_loc hX 2) de_int (fun _ _ => rfl)) (hf := .inl (xf.fn _)))
    (ds_cons (ds_asg (de_bin opd_fdiv (de_loc hX 3) (de_loc hX 1)) (dg_sub hX (de_loc hX 2) de_int))
    (ds_one (ds_ret (de_bin opd_mod (de_biT .int hX bi_int (Tx.B.at hX).int (da_cons (de_loc hX 3) da_nil)) (de_loc hX 1)))))) ds_nil)
    (ds_cons (ds_asg (de_bin opd_mod (de_biT .int hX bi_int (Tx.B.at hX).int (da_cons (de_bin (opd_add hX.hK) (de_bin (opd_mul hX.hK) (de_idx hX.hK (de_loc hX 0) de_int (fun _ _ => rfl)) de_int) de_int) da_nil)) de_int) (dg_sub hX (de_loc hX 0) de_int))
    (ds_one (ds_ret (de_bin opd_mod (de_biT .int hX bi_int (Tx.B.at hX).int (da_cons (de_bin opd_fdiv (de_idx hX.hK (de_loc hX 0) de_int (fun _ _ => rfl)) de_int) da_nil)) (de_loc hX 1))))))))
theorem d16 (Tx : Txt Z) (hX : XOk Z X N16 (defScope s16) W m) (xf : XFn X) (F : ∀ n, n < 27 → FT Z lev cl n) (hl : lev ≤ m) (hl1 : lev + 1 ≤ m) : PSs X (defBody s16) (rdS Z W (b__law_pick cl)) := by
  unfold b__law_pick
  exact (ds_one (ds_ret (de_idx hX.hK (de_loc hX 1) (de_call hX (F 15 (by decide)) hl Tx.mf_15 (da_cons (de_loc hX 0) (da_cons (de_biF .len hX (bi_len hX.hK) (Tx.B.at hX).len (da_cons (de_loc hX 1) da_nil)) da_nil))) (fun _ _ => rfl))))
theorem d17 (Tx : Txt Z) (hX : XOk Z X N17 (defScope s17) W m) (xf : XFn X) (F : ∀ n, n < 27 → FT Z lev cl n) (hl : lev ≤ m) (hl1 : lev + 1 ≤ m) : PSs X (defBody s17) (rdS Z W (b__law_same cl)) := by
  unfold b__law_same
  exact (ds_cons (ds_if (dt_cmp opc_isN (de_loc hX 1) de_non) (ds_one (ds_ret (de_cmp opc_isN (de_loc hX 0) de_non))) ds_nil)
    (ds_cons (ds_if (dt_ex hX.hK (de_isi hX (Tx.B.at hX) .bool (de_loc hX 1) (hm2 := (Tx.B.at hX).bool))) (ds_one (ds_ret (de_and (de_isi hX (Tx.B.at hX) .bool (de_loc hX 0) (hm2 := (Tx.B.at hX).bool)) (de_one (de_cmp (opc_eq hX.hK hX.hu0) (de_loc hX 0) (de_loc hX 1)))))) ds_nil)
    (ds_cons (ds_if (dt_ex hX.hK (de_isi hX (Tx.B.at hX) .int (de_loc hX 1) (hm2 := (Tx.B.at hX).int))) (ds_one (ds_ret (de_and (de_isi hX (Tx.B.at hX) .int (de_loc hX 0) (hm2 := (Tx.B.at hX).int)) (de_and (de_not (de_isi hX (Tx.B.at hX) .bool (de_loc hX 0) (hm2 := (Tx.B.at hX).bool))) (de_one (de_cmp (opc_eq hX.hK hX.hu0) (de_loc hX 0) (de_loc hX 1))))))) ds_nil)
    (ds_cons (ds_if (dt_ex hX.hK (de_isi hX (Tx.B.at hX) .str (de_loc hX 1) (hm2 := (Tx.B.at hX).str))) (ds_one (ds_ret (de_and (de_isi hX (Tx.B.at hX) .str (de_loc hX 0) (hm2 := (Tx.B.at hX).str)) (de_one (de_cmp (opc_eq hX.hK hX.hu0) (de_loc hX 0) (de_loc hX 1)))))) ds_nil)
    (ds_cons (ds_if (dt_w (dw_or (dt_cmp (opc_ne hX.hK hX.hu0) (de_isi hX (Tx.B.at hX) .tuple (de_loc hX 1) (hm2 := (Tx.B.at hX).tuple)) (de_isi hX (Tx.B.at hX) .tuple (de_loc hX 0) (hm2 := (Tx.B.at hX).tuple))) (dw_or1 (dt_cmp (opc_ne hX.hK hX.hu0) (de_isi hX (Tx.B.at hX) .list (de_loc hX 1) (hm2 := (Tx.B.at hX).list)) (de_isi hX (Tx.B.at hX) .list (de_loc hX 0) (hm2 := (Tx.B.at hX).list)))))) (ds_one (ds_ret de_bl)) ds_nil)
    (ds_cons (ds_if (dt_w (dw_or (dt_not (dt_ex hX.hK (de_isi2 hX (Tx.B.at hX) .tuple .list (de_loc hX 0) (hm2 := (Tx.B.at hX).tuple) (hm3 := (Tx.B.at hX).list)))) (dw_or1 (dt_cmp (opc_ne hX.hK hX.hu0) (de_biF .len hX (bi_len hX.hK) (Tx.B.at hX).len (da_cons (de_loc hX 0) da_nil)) (de_biF .len hX (bi_len hX.hK) (Tx.B.at hX).len (da_cons (de_loc hX 1) da_nil)))))) (ds_one (ds_ret de_bl)) ds_nil)
    (ds_one (ds_ret (de_cmp (opc_notIn hX.hK hX.hu) de_bl (de_comp hX [(("k" : Str), 2)] (di_range1 hX (Tx.B.at hX) (de_biF .len hX (bi_len hX.hK) (Tx.B.at hX).len (da_cons (de_loc hX 1) da_nil))) (fun s1 h1 c1 l1 f1 => (dg_name (hX.blk s1 h1 c1 l1 f1) 2)) (fun s2 h2 c2 l2 f2 => dts_nil) (fun s3 h3 c3 l3 f3 => (de_call (hX.blk s3 h3 c3 l3 f3) (F 17 (by decide)) hl Tx.mf_17 (da_cons (de_idx (hX.blk s3 h3 c3 l3 f3).hK (de_loc (hX.blk s3 h3 c3 l3 f3) 0) (de_loc (hX.blk s3 h3 c3 l3 f3) 2) (fun _ _ => rfl)) (da_cons (de_idx (hX.blk s3 h3 c3 l3 f3).hK (de_loc (hX.blk s3 h3 c3 l3 f3) 1) (de_loc (hX.blk s3 h3 c3 l3 f3) 2) (fun _ _ => rfl)) da_nil))))))))))))))
theorem d18 (Tx : Txt Z) (hX : XOk Z X N18 (defScope s18) W m) (xf : XFn X) (F : ∀ n, n < 27 → FT Z lev cl n) (hl : lev ≤ m) (hl1 : lev + 1 ≤ m) : PSs X (defBody s18) (rdS Z W (b__law_signs cl)) := by
  unfold b__law_signs
  exact (ds_one (ds_ret (de_call hX (F 16 (by decide)) hl Tx.mf_16 (da_cons (de_loc hX 0) (da_cons (de_lst (da_cons (de_tup (da_cons de_str (da_cons de_int (da_cons de_int (da_cons de_int da_nil))))) (da_cons (de_tup (da_cons de_str (da_cons de_int (da_cons de_int (da_cons de_int da_nil))))) (da_cons (de_tup (da_cons de_str (da_cons de_int (da_cons de_int (da_cons de_int da_nil))))) (da_cons (de_tup (da_cons de_str (da_cons de_int (da_cons de_int (da_cons de_int da_nil))))) (da_cons (de_tup (da_cons de_str (da_cons de_int (da_cons de_int (da_cons de_int da_nil))))) (da_cons (de_tup (da_cons de_str (da_cons de_int (da_cons de_int (da_cons de_int da_nil))))) (da_cons (de_tup (da_cons de_str (da_cons de_int (da_cons de_int (da_cons de_int da_nil))))) da_nil)))))))) da_nil)))))
theorem d19 (Tx : Txt Z) (hX : XOk Z X N19 (defScope s19) W m) (xf : XFn X) (F : ∀ n, n < 27 → FT Z lev cl n) (hl : lev ≤ m) (hl1 : lev + 1 ≤ m) : PSs X (defBody s19) (rdS Z W (b__law_many cl)) := by
  unfold b__law_many
  exact (ds_one (ds_ret (de_bin (opd_add hX.hK) (de_bin (opd_add hX.hK) (de_idx hX.hK (de_loc hX 0) de_int (fun _ _ => rfl)) (de_idx hX.hK (de_loc hX 0) de_int (fun _ _ => rfl))) (de_idx hX.hK (de_loc hX 0) de_int (fun _ _ => rfl)))))
theorem d20 (Tx : Txt Z) (hX : XOk Z X N20 (defScope s20) W m) (xf : XFn X) (F : ∀ n, n < 27 → FT Z lev cl n) (hl : lev ≤ m) (hl1 : lev + 1 ≤ m) : PSs X (defBody s20) (rdS Z W (b__law_word cl)) := by
  unfold b__law_word
  exact (ds_one (ds_ret (de_biT .tuple hX (bi_tuple hX.hK) (Tx.B.at hX).tuple (da_cons (de_comp hX [(("k" : Str), 3)] (di_range1 hX (Tx.B.at hX) (de_call hX (F 15 (by decide)) hl Tx.mf_15 (da_cons (de_loc hX 0) (da_cons (de_bin (opd_add hX.hK) (de_loc hX 2) de_int) da_nil)))) (fun s1 h1 c1 l1 f1 => (dg_name (hX.blk s1 h1 c1 l1 f1) 3)) (fun s2 h2 c2 l2 f2 => dts_nil) (fun s3 h3 c3 l3 f3 => (de_call (hX.blk s3 h3 c3 l3 f3) (F 15 (by decide)) hl Tx.mf_15 (da_cons (de_loc (hX.blk s3 h3 c3 l3 f3) 0) (da_cons (de_call (hX.blk s3 h3 c3 l3 f3) (F 19 (by decide)) hl Tx.mf_19 (da_cons (de_loc (hX.blk s3 h3 c3 l3 f3) 1) da_nil)) da_nil))))) da_nil))))
theorem d21 (Tx : Txt Z) (hX : XOk Z X N21 (defScope s21) W m) (xf : XFn X) (F : ∀ n, n < 27 → FT Z lev cl n) (hl : lev ≤ m) (hl1 : lev + 1 ≤ m) : PSs X (defBody s21) (rdS Z W (b__law_call cl)) := by
  unfold b__law_call
  exact (ds_cons (ds_try hX xf (fun W1 X1 hX1 xf1 => (ds_one (ds_set hX1 3 (de_callV hX1 F hl 0 (da_cons (de_loc hX1 1) (da_cons (de_loc hX1 2) da_nil))) (hf := .inl (xf1.fn _))))) (HsOk.cons ⟨Gl_of hX rfl, by decide, .inl (by rw [hX.hM]; exact Tx.mx_2)⟩ Tx.ex_2 (fun _ _ _ => (ds_one (ds_ret de_str))) (HsOk.cons ⟨Gl_of hX rfl, by decide, .inl (by rw [hX.hM]; exact Tx.mx_1)⟩ Tx.ex_1 (fun _ _ _ => (ds_one (ds_ret de_str))) HsOk.nil)))
    (ds_one (ds_ret (de_loc hX 3))))
theorem d22 (Tx : Txt Z) (hX : XOk Z X N22 (defScope s22) W m) (xf : XFn X) (F : ∀ n, n < 27 → FT Z lev cl n) (hl : lev ≤ m) (hl1 : lev + 1 ≤ m) : PSs X (defBody s22) (rdS Z W (b__law_match cl)) := by
  unfold b__law_match
  exact (ds_cons (ds_set hX 3 de_int (hf := .inl (xf.fn _)))
    (ds_cons (ds_for hX xf.pass (di_range2 hX (Tx.B.at hX) (de_loc hX 2) (de_biF .len hX (bi_len hX.hK) (Tx.B.at hX).len (da_cons (de_loc hX 1) da_nil))) (dg_name hX 4 (hf := .inl (xf.fn _))) (ds_one (ds_if (dt_cmp (opc_lt hX.hK hX.hu0) (de_idx hX.hK (de_loc hX 1) (de_loc hX 4) (fun _ _ => rfl)) (de_idx hX.hK (de_loc hX 0) de_int (fun _ _ => rfl))) (ds_one (ds_set hX 3 (de_bin (opd_add hX.hK) (de_loc hX 3) de_int) (hf := .inl (xf.fn _)))) (ds_one (ds_if (dt_cmp (opc_lt hX.hK hX.hu0) (de_idx hX.hK (de_loc hX 1) (de_loc hX 4) (fun _ _ => rfl)) (de_bin (opd_add hX.hK) (de_idx hX.hK (de_loc hX 0) de_int (fun _ _ => rfl)) (de_idx hX.hK (de_loc hX 0) de_int (fun _ _ => rfl)))) (ds_cons (ds_set hX 3 (de_bin opd_sub (de_loc hX 3) de_int) (hf := .inl (xf.fn _)))
    (ds_one (ds_if (dt_cmp (opc_eq hX.hK hX.hu0) (de_loc hX 3) de_int) (ds_one (ds_ret (de_loc hX 4))) ds_nil))) ds_nil)))))
    (ds_one (ds_ret de_non))))
theorem d23 (Tx : Txt Z) (hX : XOk Z X N23 (defScope s23) W m) (xf : XFn X) (F : ∀ n, n < 27 → FT Z lev cl n) (hl : lev ≤ m) (hl1 : lev + 1 ≤ m) : PSs X (defBody s23) (rdS Z W (b__law_items cl)) := by
  unfold b__law_items
  exact (ds_cons (ds_set hX 2 (de_lst da_nil) (hf := .inl (xf.fn _)))
    (ds_cons (ds_set hX 3 de_int (hf := .inl (xf.fn _)))
    (ds_cons (ds_while xf.pass (dt_cmp (opc_lt hX.hK hX.hu0) (de_loc hX 3) (de_biF .len hX (bi_len hX.hK) (Tx.B.at hX).len (da_cons (de_loc hX 1) da_nil))) (ds_cons (ds_if (dt_cmp (opc_ge hX.hK hX.hu0) (de_idx hX.hK (de_loc hX 1) (de_loc hX 3) (fun _ _ => rfl)) (de_idx hX.hK (de_loc hX 0) de_int (fun _ _ => rfl))) (ds_cons (ds_ex (de_mth .append hX.hK PySem.F.slot_list_append PySem.F.type_list_append m_append (de_loc hX 2) (da_cons (de_tup (da_cons (de_ite (dt_cmp (opc_ge hX.hK hX.hu0) (de_idx hX.hK (de_loc hX 1) (de_loc hX 3) (fun _ _ => rfl)) (de_bin (opd_add hX.hK) (de_idx hX.hK (de_loc hX 0) de_int (fun _ _ => rfl)) (de_idx hX.hK (de_loc hX 0) de_int (fun _ _ => rfl)))) de_str de_str) (da_cons (de_idx hX.hK (de_loc hX 1) (de_loc hX 3) (fun _ _ => rfl)) da_nil))) da_nil)))
    (ds_cons (ds_set hX 3 (de_bin (opd_add hX.hK) (de_loc hX 3) de_int) (hf := .inl (xf.fn _)))
    (ds_one ds_cnt))) ds_nil)
    (ds_cons (ds_set hX 4 (de_call hX (F 22 (by decide)) hl Tx.mf_22 (da_cons (de_loc hX 0) (da_cons (de_loc hX 1) (da_cons (de_loc hX 3) da_nil)))) (hf := .inl (xf.fn _)))
    (ds_cons (ds_if (dt_cmp opc_isN (de_loc hX 4) de_non) (ds_cons (ds_ex (de_mth .append hX.hK PySem.F.slot_list_append PySem.F.type_list_append m_append (de_loc hX 2) (da_cons (de_tup (da_cons de_str (da_cons (de_idx hX.hK (de_loc hX 1) (de_loc hX 3) (fun _ _ => rfl)) (da_cons (de_call hX (F 23 (by decide)) hl Tx.mf_23 (da_cons (de_loc hX 0) (da_cons (de_slc hX.hK (de_loc hX 1) (do_at (de_bin (opd_add hX.hK) (de_loc hX 3) de_int)) do_no) da_nil))) da_nil)))) da_nil)))
    (ds_one ds_brk)) ds_nil)
    (ds_cons (ds_ex (de_mth .append hX.hK PySem.F.slot_list_append PySem.F.type_list_append m_append (de_loc hX 2) (da_cons (de_tup (da_cons de_str (da_cons (de_idx hX.hK (de_loc hX 1) (de_loc hX 3) (fun _ _ => rfl)) (da_cons (de_call hX (F 23 (by decide)) hl Tx.mf_23 (da_cons (de_loc hX 0) (da_cons (de_slc hX.hK (de_loc hX 1) (do_at (de_bin (opd_add hX.hK) (de_loc hX 3) de_int)) (do_at (de_loc hX 4))) da_nil))) (da_cons (de_idx hX.hK (de_loc hX 1) (de_loc hX 4) (fun _ _ => rfl)) da_nil))))) da_nil)))
    (ds_one (ds_set hX 3 (de_bin (opd_add hX.hK) (de_loc hX 4) de_int) (hf := .inl (xf.fn _)))))))))
    (ds_one (ds_ret (de_biT .tuple hX (bi_tuple hX.hK) (Tx.B.at hX).tuple (da_cons (de_loc hX 2) da_nil)))))))
theorem d24 (Tx : Txt Z) (hX : XOk Z X N24 (defScope s24) W m) (xf : XFn X) (F : ∀ n, n < 27 → FT Z lev cl n) (hl : lev ≤ m) (hl1 : lev + 1 ≤ m) : PSs X (defBody s24) (rdS Z W (b__law_bent cl)) := by
  unfold b__law_bent
  exact (ds_cons (ds_if (dt_w (dw_or (dt_cmp (opc_eq hX.hK hX.hu0) (de_biF .len hX (bi_len hX.hK) (Tx.B.at hX).len (da_cons (de_loc hX 1) da_nil)) de_int) (dw_or1 (dt_cmp (opc_eq hX.hK hX.hu0) (de_call hX (F 15 (by decide)) hl Tx.mf_15 (da_cons (de_loc hX 0) (da_cons de_int da_nil))) de_int)))) (ds_cons (ds_set hX 5 (de_call hX (F 15 (by decide)) hl Tx.mf_15 (da_cons (de_loc hX 0) (da_cons (de_loc hX 2) da_nil))) (hf := .inl (xf.fn _)))
    (ds_cons (ds_set hX 6 (de_call hX (F 16 (by decide)) hl Tx.mf_16 (da_cons (de_loc hX 0) (da_cons (de_lst (da_cons (de_tup (da_cons de_str (da_cons (de_loc hX 5) da_nil))) (da_cons (de_tup (da_cons de_str (da_cons (de_loc hX 5) da_nil))) (da_cons (de_tup (da_cons de_str (da_cons (de_loc hX 5) (da_cons (de_tup da_nil) da_nil)))) (da_cons (de_tup (da_cons de_str (da_cons (de_loc hX 5) (da_cons (de_tup da_nil) (da_cons (de_loc hX 5) da_nil))))) (da_cons (de_tup (da_cons de_str (da_cons (de_loc hX 2) da_nil))) (da_cons (de_tup (da_cons de_str (da_cons (de_loc hX 5) (da_cons (de_tup da_nil) da_nil)))) (da_cons (de_tup (da_cons de_str (da_cons (de_loc hX 5) da_nil))) (da_cons de_non (da_cons (de_tup (da_cons de_str (da_cons (de_loc hX 5) (da_cons de_non da_nil)))) da_nil)))))))))) da_nil))) (hf := .inl (xf.fn _)))
    (ds_cons (ds_set hX 3 (de_call hX (F 15 (by decide)) hl Tx.mf_15 (da_cons (de_loc hX 0) (da_cons (de_bin (opd_add hX.hK) (de_biF .len hX (bi_len hX.hK) (Tx.B.at hX).len (da_cons (de_loc hX 1) da_nil)) de_int) da_nil))) (hf := .inl (xf.fn _)))
    (ds_one (ds_ret (de_bin (opd_add hX.hK) (de_bin (opd_add hX.hK) (de_slc hX.hK (de_loc hX 1) do_no (do_at (de_loc hX 3))) (de_tup (da_cons (de_loc hX 6) da_nil))) (de_slc hX.hK (de_loc hX 1) (do_at (de_loc hX 3)) do_no))))))) ds_nil)
    (ds_cons (ds_set hX 3 (de_call hX (F 15 (by decide)) hl Tx.mf_15 (da_cons (de_loc hX 0) (da_cons (de_biF .len hX (bi_len hX.hK) (Tx.B.at hX).len (da_cons (de_loc hX 1) da_nil)) da_nil))) (hf := .inl (xf.fn _)))
    (ds_cons (ds_set hX 4 (de_idx hX.hK (de_loc hX 1) (de_loc hX 3) (fun _ _ => rfl)) (hf := .inl (xf.fn _)))
    (ds_cons (ds_if (dt_w (dw_and (dt_cmp (opc_in hX.hK hX.hu) (de_idx hX.hK (de_loc hX 4) de_int (fun _ _ => rfl)) (de_tup (da_cons de_str (da_cons de_str da_nil)))) (dw_and1 (dt_cmp (opc_eq hX.hK hX.hu0) (de_call hX (F 15 (by decide)) hl Tx.mf_15 (da_cons (de_loc hX 0) (da_cons de_int da_nil))) de_int)))) (ds_cons (ds_set hX 4 (de_bin (opd_add hX.hK) (de_bin (opd_add hX.hK) (de_slc hX.hK (de_loc hX 4) do_no (do_at de_int)) (de_tup (da_cons (de_call hX (F 24 (by decide)) hl Tx.mf_24 (da_cons (de_loc hX 0) (da_cons (de_idx hX.hK (de_loc hX 4) de_int (fun _ _ => rfl)) (da_cons (de_loc hX 2) da_nil)))) da_nil))) (de_slc hX.hK (de_loc hX 4) (do_at de_int) do_no)) (hf := .inl (xf.fn _)))
    (ds_one (ds_ret (de_bin (opd_add hX.hK) (de_bin (opd_add hX.hK) (de_slc hX.hK (de_loc hX 1) do_no (do_at (de_loc hX 3))) (de_tup (da_cons (de_loc hX 4) da_nil))) (de_slc hX.hK (de_loc hX 1) (do_at (de_bin (opd_add hX.hK) (de_loc hX 3) de_int)) do_no))))) ds_nil)
    (ds_one (ds_ret (de_call hX (F 16 (by decide)) hl Tx.mf_16 (da_cons (de_loc hX 0) (da_cons (de_lst (da_cons (de_bin (opd_add hX.hK) (de_slc hX.hK (de_loc hX 1) do_no (do_at (de_loc hX 3))) (de_slc hX.hK (de_loc hX 1) (do_at (de_bin (opd_add hX.hK) (de_loc hX 3) de_int)) do_no)) (da_cons (de_rev hX.hK (de_loc hX 1)) (da_cons (de_bin (opd_add hX.hK) (de_bin (opd_add hX.hK) (de_slc hX.hK (de_loc hX 1) do_no (do_at (de_loc hX 3))) (de_tup (da_cons (de_bin (opd_add hX.hK) (de_bin (opd_add hX.hK) (de_slc hX.hK (de_loc hX 4) do_no (do_at de_int)) (de_tup (da_cons (de_call hX (F 15 (by decide)) hl Tx.mf_15 (da_cons (de_loc hX 0) (da_cons (de_loc hX 2) da_nil))) da_nil))) (de_slc hX.hK (de_loc hX 4) (do_at de_int) do_no)) da_nil))) (de_slc hX.hK (de_loc hX 1) (do_at (de_bin (opd_add hX.hK) (de_loc hX 3) de_int)) do_no)) da_nil)))) da_nil)))))))))
theorem d25 (Tx : Txt Z) (hX : XOk Z X N25 (defScope s25) W m) (xf : XFn X) (F : ∀ n, n < 27 → FT Z lev cl n) (hl : lev ≤ m) (hl1 : lev + 1 ≤ m) : PSs X (defBody s25) (rdS Z W (b__law_flat cl)) := by
  unfold b__law_flat
  exact (ds_cons (ds_set hX 1 (de_tup da_nil) (hf := .inl (xf.fn _)))
    (ds_cons (ds_for hX xf.pass (di_of hX.hK (de_loc hX 0)) (dg_name hX 2 (hf := .inl (xf.fn _))) (ds_cons (ds_if (dt_w (dw_or (dt_cmp opc_isN (de_loc hX 2) de_non) (dw_or1 (dt_cmp (opc_notIn hX.hK hX.hu) (de_tup (da_cons (de_idx hX.hK (de_loc hX 2) de_int (fun _ _ => rfl)) (da_cons (de_biF .len hX (bi_len hX.hK) (Tx.B.at hX).len (da_cons (de_loc hX 2) da_nil)) da_nil))) (de_tup (da_cons (de_tup (da_cons de_str (da_cons de_int da_nil))) (da_cons (de_tup (da_cons de_str (da_cons de_int da_nil))) (da_cons (de_tup (da_cons de_str (da_cons de_int da_nil))) (da_cons (de_tup (da_cons de_str (da_cons de_int da_nil))) da_nil))))))))) (ds_one (ds_ret de_non)) ds_nil)
    (ds_cons (ds_set hX 3 (de_tup da_nil) (hf := .inl (xf.fn _)))
    (ds_cons (ds_if (dt_cmp (opc_in hX.hK hX.hu) (de_idx hX.hK (de_loc hX 2) de_int (fun _ _ => rfl)) (de_tup (da_cons de_str (da_cons de_str da_nil)))) (ds_one (ds_set hX 3 (de_ite (dt_ex hX.hK (de_isi hX (Tx.B.at hX) .tuple (de_idx hX.hK (de_loc hX 2) de_int (fun _ _ => rfl)) (hm2 := (Tx.B.at hX).tuple))) (de_call hX (F 25 (by decide)) hl Tx.mf_25 (da_cons (de_idx hX.hK (de_loc hX 2) de_int (fun _ _ => rfl)) da_nil)) de_non) (hf := .inl (xf.fn _)))) ds_nil)
    (ds_cons (ds_if (dt_cmp opc_isN (de_loc hX 3) de_non) (ds_one (ds_ret de_non)) ds_nil)
    (ds_one (ds_set hX 1 (de_bin (opd_add hX.hK) (de_bin (opd_add hX.hK) (de_bin (opd_add hX.hK) (de_loc hX 1) (de_tup (da_cons (de_idx hX.hK (de_loc hX 2) de_int (fun _ _ => rfl)) da_nil))) (de_loc hX 3)) (de_slc hX.hK (de_loc hX 2) (do_at de_int) do_no)) (hf := .inl (xf.fn _)))))))))
    (ds_one (ds_ret (de_loc hX 1)))))
theorem d26 (Tx : Txt Z) (hX : XOk Z X N26 (defScope s26) W m) (xf : XFn X) (F : ∀ n, n < 27 → FT Z lev cl n) (hl : lev ≤ m) (hl1 : lev + 1 ≤ m) : PSs X (defBody s26) (rdS Z W (b_law cl)) := by
  unfold b_law
  exact (ds_cons (ds_set hX 1 (de_call hX (F 14 (by decide)) hl Tx.mf_14 (da_cons (de_loc hX 0) da_nil)) (hf := .inl (xf.fn _)))
    (ds_cons (ds_for hX xf.pass (di_range1 hX (Tx.B.at hX) de_int) (dg_name hX 2 (hf := .inl (xf.fn _))) (ds_cons (ds_set hX 3 (de_call hX (F 18 (by decide)) hl Tx.mf_18 (da_cons (de_loc hX 1) da_nil)) (hf := .inl (xf.fn _)))
    (ds_cons (ds_set hX 4 (de_call hX (F 20 (by decide)) hl Tx.mf_20 (da_cons (de_loc hX 1) (da_cons (de_loc hX 3) (da_cons de_int da_nil)))) (hf := .inl (xf.fn _)))
    (ds_cons (ds_set hX 5 (de_call hX (F 23 (by decide)) hl Tx.mf_23 (da_cons (de_loc hX 3) (da_cons (de_loc hX 4) da_nil))) (hf := .inl (xf.fn _)))
    (ds_cons (ds_if (dt_w (dw_or (dt_not (dt_ex hX.hK (de_call hX (F 17 (by decide)) hl Tx.mf_17 (da_cons (de_call hX (F 21 (by decide)) hl Tx.mf_21 (da_cons (de_gF hX Tx.mf_6) (da_cons (de_loc hX 3) (da_cons (de_loc hX 4) da_nil)))) (da_cons (de_loc hX 5) da_nil))))) (dw_or1 (dt_not (dt_ex hX.hK (de_call hX (F 17 (by decide)) hl Tx.mf_17 (da_cons (de_call hX (F 21 (by decide)) hl Tx.mf_21 (da_cons (de_gF hX Tx.mf_13) (da_cons (de_loc hX 3) (da_cons (de_loc hX 5) da_nil)))) (da_cons (de_loc hX 4) da_nil)))))))) (ds_one (ds_ret de_bl)) ds_nil)
    (ds_cons (ds_for hX xf.pass (di_range1 hX (Tx.B.at hX) de_int) (dg_name hX 6 (hf := .inl (xf.fn _))) (ds_cons (ds_set hX 8 (de_call hX (F 24 (by decide)) hl Tx.mf_24 (da_cons (de_loc hX 1) (da_cons (de_loc hX 5) (da_cons (de_call hX (F 19 (by decide)) hl Tx.mf_19 (da_cons (de_loc hX 3) da_nil)) da_nil)))) (hf := .inl (xf.fn _)))
    (ds_cons (ds_set hX 9 (de_call hX (F 25 (by decide)) hl Tx.mf_25 (da_cons (de_loc hX 8) da_nil)) (hf := .inl (xf.fn _)))
    (ds_cons (ds_set hX 10 (de_and (de_cmp opc_notN (de_loc hX 9) de_non) (de_and (de_cmp (opc_eq hX.hK hX.hu0) (de_biF .len hX (bi_len hX.hK) (Tx.B.at hX).len (da_cons (de_comp hX [(("s" : Str), 11)] (di_of hX.hK (de_loc hX 9)) (fun s1 h1 c1 l1 f1 => (dg_name (hX.blk s1 h1 c1 l1 f1) 11)) (fun s2 h2 c2 l2 f2 => dts_one (dt_cmp (opc_ge (hX.blk s2 h2 c2 l2 f2).hK (hX.blk s2 h2 c2 l2 f2).hu0) (de_loc (hX.blk s2 h2 c2 l2 f2) 11) (de_call (hX.blk s2 h2 c2 l2 f2) (F 19 (by decide)) hl Tx.mf_19 (da_cons (de_loc (hX.blk s2 h2 c2 l2 f2) 3) da_nil)))) (fun s3 h3 c3 l3 f3 => (de_loc (hX.blk s3 h3 c3 l3 f3) 11))) da_nil)) de_int) (de_one (de_cmp (opc_eq hX.hK hX.hu0) (de_call hX (F 23 (by decide)) hl Tx.mf_23 (da_cons (de_loc hX 3) (da_cons (de_loc hX 9) da_nil))) (de_loc hX 8))))) (hf := .inl (xf.fn _)))
    (ds_one (ds_if (dt_not (dt_ex hX.hK (de_call hX (F 17 (by decide)) hl Tx.mf_17 (da_cons (de_call hX (F 21 (by decide)) hl Tx.mf_21 (da_cons (de_gF hX Tx.mf_13) (da_cons (de_loc hX 3) (da_cons (de_loc hX 8) da_nil)))) (da_cons (de_ite (dt_ex hX.hK (de_loc hX 10)) (de_loc hX 9) de_str) da_nil))))) (ds_one (ds_ret de_bl)) ds_nil))))))
    (ds_cons (ds_set hX 7 (de_call hX (F 16 (by decide)) hl Tx.mf_16 (da_cons (de_loc hX 1) (da_cons (de_lst (da_cons de_non (da_cons (de_lst (da_cons de_int da_nil)) (da_cons (de_tup (da_cons (de_call hX (F 19 (by decide)) hl Tx.mf_19 (da_cons (de_loc hX 3) da_nil)) da_nil)) (da_cons (de_tup (da_cons de_bl da_nil)) (da_cons (de_bin (opd_mul hX.hK) (de_tup (da_cons de_int da_nil)) de_int) da_nil)))))) da_nil))) (hf := .inl (xf.fn _)))
    (ds_one (ds_if (dt_cmp (opc_ne hX.hK hX.hu0) (de_tup (da_cons (de_call hX (F 21 (by decide)) hl Tx.mf_21 (da_cons (de_gF hX Tx.mf_6) (da_cons (de_loc hX 3) (da_cons (de_loc hX 7) da_nil)))) (da_cons (de_call hX (F 21 (by decide)) hl Tx.mf_21 (da_cons (de_gF hX Tx.mf_6) (da_cons de_non (da_cons (de_loc hX 7) da_nil)))) (da_cons (de_call hX (F 21 (by decide)) hl Tx.mf_21 (da_cons (de_gF hX Tx.mf_13) (da_cons (de_loc hX 3) (da_cons (de_biT .list hX (bi_list hX.hK) (Tx.B.at hX).list (da_cons (de_loc hX 5) da_nil)) da_nil)))) (da_cons (de_call hX (F 21 (by decide)) hl Tx.mf_21 (da_cons (de_gF hX Tx.mf_13) (da_cons (de_tup da_nil) (da_cons (de_loc hX 5) da_nil)))) da_nil))))) (de_tup (da_cons de_str (da_cons de_str (da_cons de_str (da_cons de_str da_nil)))))) (ds_one (ds_ret de_bl)) ds_nil)))))))))
    (ds_one (ds_ret de_bl))))
end
structure Fns (Z : Tab) : Prop where
  f0 : ∃ fd, Fun Z.K "is_integer" "is_integer" s0 (Z.fn 0) fd ∧ Binds Z.K fd p0 []
  f1 : ∃ fd, Fun Z.K "is_signs" "is_signs" s1 (Z.fn 1) fd ∧ Binds Z.K fd p1 []
  f2 : ∃ fd, Fun Z.K "many_signs" "many_signs" s2 (Z.fn 2) fd ∧ Binds Z.K fd p2 []
  f3 : ∃ fd, Fun Z.K "is_word_of" "is_word_of" s3 (Z.fn 3) fd ∧ Binds Z.K fd p3 []
  f4 : ∃ fd, Fun Z.K "check_word" "check_word" s4 (Z.fn 4) fd ∧ Binds Z.K fd p4 []
  f5 : ∃ fd, Fun Z.K "check_signs" "check_signs" s5 (Z.fn 5) fd ∧ Binds Z.K fd p5 []
  f6 : ∃ fd, Fun Z.K "items_of" "items_of" s6 (Z.fn 6) fd ∧ Binds Z.K fd p6 []
  f7 : ∃ fd, Fun Z.K "__init__" "Spelling.__init__" s7 (Z.fn 7) fd ∧ Binds Z.K fd p7 []
  f8 : ∃ fd, Fun Z.K "kind" "Spelling.kind" s8 (Z.fn 8) fd ∧ Binds Z.K fd p8 []
  f9 : ∃ fd, Fun Z.K "look_at" "Spelling.look_at" s9 (Z.fn 9) fd ∧ Binds Z.K fd p9 []
  f10 : ∃ fd, Fun Z.K "put" "Spelling.put" s10 (Z.fn 10) fd ∧ Binds Z.K fd p10 []
  f11 : ∃ fd, Fun Z.K "take" "Spelling.take" s11 (Z.fn 11) fd ∧ Binds Z.K fd p11 []
  f12 : ∃ fd, Fun Z.K "spell" "Spelling.spell" s12 (Z.fn 12) fd ∧ Binds Z.K fd p12 []
  f13 : ∃ fd, Fun Z.K "word_of" "word_of" s13 (Z.fn 13) fd ∧ Binds Z.K fd p13 []
  f14 : ∃ fd, Fun Z.K "_law_tape" "_law_tape" s14 (Z.fn 14) fd ∧ Binds Z.K fd p14 []
  f15 : ∃ fd, Fun Z.K "_law_draw" "_law_draw" s15 (Z.fn 15) fd ∧ Binds Z.K fd p15 []
  f16 : ∃ fd, Fun Z.K "_law_pick" "_law_pick" s16 (Z.fn 16) fd ∧ Binds Z.K fd p16 []
  f17 : ∃ fd, Fun Z.K "_law_same" "_law_same" s17 (Z.fn 17) fd ∧ Binds Z.K fd p17 []
  f18 : ∃ fd, Fun Z.K "_law_signs" "_law_signs" s18 (Z.fn 18) fd ∧ Binds Z.K fd p18 []
  f19 : ∃ fd, Fun Z.K "_law_many" "_law_many" s19 (Z.fn 19) fd ∧ Binds Z.K fd p19 []
  f20 : ∃ fd, Fun Z.K "_law_word" "_law_word" s20 (Z.fn 20) fd ∧ Binds Z.K fd p20 []
  f21 : ∃ fd, Fun Z.K "_law_call" "_law_call" s21 (Z.fn 21) fd ∧ Binds Z.K fd p21 []
  f22 : ∃ fd, Fun Z.K "_law_match" "_law_match" s22 (Z.fn 22) fd ∧ Binds Z.K fd p22 []
  f23 : ∃ fd, Fun Z.K "_law_items" "_law_items" s23 (Z.fn 23) fd ∧ Binds Z.K fd p23 []
  f24 : ∃ fd, Fun Z.K "_law_bent" "_law_bent" s24 (Z.fn 24) fd ∧ Binds Z.K fd p24 []
  f25 : ∃ fd, Fun Z.K "_law_flat" "_law_flat" s25 (Z.fn 25) fd ∧ Binds Z.K fd p25 []
  f26 : ∃ fd, Fun Z.K "law" "law" s26 (Z.fn 26) fd ∧ Binds Z.K fd p26 []
theorem sc0 : FnScope N0 p0 (defScope s0) := ⟨rfl, rfl, rfl, by decide +kernel, rfl, by decide +kernel, by decide +kernel⟩
theorem sc1 : FnScope N1 p1 (defScope s1) := ⟨rfl, rfl, rfl, by decide +kernel, rfl, by decide +kernel, by decide +kernel⟩
theorem sc2 : FnScope N2 p2 (defScope s2) := ⟨rfl, rfl, rfl, by decide +kernel, rfl, by decide +kernel, by decide +kernel⟩
theorem sc3 : FnScope N3 p3 (defScope s3) := ⟨rfl, rfl, rfl, by decide +kernel, rfl, by decide +kernel, by decide +kernel⟩
theorem sc4 : FnScope N4 p4 (defScope s4) := ⟨rfl, rfl, rfl, by decide +kernel, rfl, by decide +kernel, by decide +kernel⟩
theorem sc5 : FnScope N5 p5 (defScope s5) := ⟨rfl, rfl, rfl, by decide +kernel, rfl, by decide +kernel, by decide +kernel⟩
theorem sc6 : FnScope N6 p6 (defScope s6) := ⟨rfl, rfl, rfl, by decide +kernel, rfl, by decide +kernel, by decide +kernel⟩
theorem sc7 : FnScope N7 p7 (defScope s7) := ⟨rfl, rfl, rfl, by decide +kernel, rfl, by decide +kernel, by decide +kernel⟩
theorem sc8 : FnScope N8 p8 (defScope s8) := ⟨rfl, rfl, rfl, by decide +kernel, rfl, by decide +kernel, by decide +kernel⟩
theorem sc9 : FnScope N9 p9 (defScope s9) := ⟨rfl, rfl, rfl, by decide +kernel, rfl, by decide +kernel, by decide +kernel⟩
theorem sc10 : FnScope N10 p10 (defScope s10) := ⟨rfl, rfl, rfl, by decide +kernel, rfl, by decide +kernel, by decide +kernel⟩
theorem sc11 : FnScope N11 p11 (defScope s11) := ⟨rfl, rfl, rfl, by decide +kernel, rfl, by decide +kernel, by decide +kernel⟩
theorem sc12 : FnScope N12 p12 (defScope s12) := ⟨rfl, rfl, rfl, by decide +kernel, rfl, by decide +kernel, by decide +kernel⟩
theorem sc13 : FnScope N13 p13 (defScope s13) := ⟨rfl, rfl, rfl, by decide +kernel, rfl, by decide +kernel, by decide +kernel⟩
theorem sc14 : FnScope N14 p14 (defScope s14) := ⟨rfl, rfl, rfl, by decide +kernel, rfl, by decide +kernel, by decide +kernel⟩
theorem sc15 : FnScope N15 p15 (defScope s15) := ⟨rfl, rfl, rfl, by decide +kernel, rfl, by decide +kernel, by decide +kernel⟩
theorem sc16 : FnScope N16 p16 (defScope s16) := ⟨rfl, rfl, rfl, by decide +kernel, rfl, by decide +kernel, by decide +kernel⟩
theorem sc17 : FnScope N17 p17 (defScope s17) := ⟨rfl, rfl, rfl, by decide +kernel, rfl, by decide +kernel, by decide +kernel⟩
theorem sc18 : FnScope N18 p18 (defScope s18) := ⟨rfl, rfl, rfl, by decide +kernel, rfl, by decide +kernel, by decide +kernel⟩
theorem sc19 : FnScope N19 p19 (defScope s19) := ⟨rfl, rfl, rfl, by decide +kernel, rfl, by decide +kernel, by decide +kernel⟩
theorem sc20 : FnScope N20 p20 (defScope s20) := ⟨rfl, rfl, rfl, by decide +kernel, rfl, by decide +kernel, by decide +kernel⟩
theorem sc21 : FnScope N21 p21 (defScope s21) := ⟨rfl, rfl, rfl, by decide +kernel, rfl, by decide +kernel, by decide +kernel⟩
theorem sc22 : FnScope N22 p22 (defScope s22) := ⟨rfl, rfl, rfl, by decide +kernel, rfl, by decide +kernel, by decide +kernel⟩
theorem sc23 : FnScope N23 p23 (defScope s23) := ⟨rfl, rfl, rfl, by decide +kernel, rfl, by decide +kernel, by decide +kernel⟩
theorem sc24 : FnScope N24 p24 (defScope s24) := ⟨rfl, rfl, rfl, by decide +kernel, rfl, by decide +kernel, by decide +kernel⟩
theorem sc25 : FnScope N25 p25 (defScope s25) := ⟨rfl, rfl, rfl, by decide +kernel, rfl, by decide +kernel, by decide +kernel⟩
theorem sc26 : FnScope N26 p26 (defScope s26) := ⟨rfl, rfl, rfl, by decide +kernel, rfl, by decide +kernel, by decide +kernel⟩
theorem ft_all {Z : Tab} (Tx : Txt Z) (Fs : Fns Z) : ∀ k n, n < 27 → FT Z (2 * k) (callN k) n
  | 0, n, h => match n, h with
    | 0, _ => let ⟨_, F, hb⟩ := Fs.f0; ft_zero (fun _ _ => rfl) F hb
    | 1, _ => let ⟨_, F, hb⟩ := Fs.f1; ft_zero (fun _ _ => rfl) F hb
    | 2, _ => let ⟨_, F, hb⟩ := Fs.f2; ft_zero (fun _ _ => rfl) F hb
    | 3, _ => let ⟨_, F, hb⟩ := Fs.f3; ft_zero (fun _ _ => rfl) F hb
    | 4, _ => let ⟨_, F, hb⟩ := Fs.f4; ft_zero (fun _ _ => rfl) F hb
    | 5, _ => let ⟨_, F, hb⟩ := Fs.f5; ft_zero (fun _ _ => rfl) F hb
    | 6, _ => let ⟨_, F, hb⟩ := Fs.f6; ft_zero (fun _ _ => rfl) F hb
    | 7, _ => let ⟨_, F, hb⟩ := Fs.f7; ft_zero (fun _ _ => rfl) F hb
    | 8, _ => let ⟨_, F, hb⟩ := Fs.f8; ft_zero (fun _ _ => rfl) F hb
    | 9, _ => let ⟨_, F, hb⟩ := Fs.f9; ft_zero (fun _ _ => rfl) F hb
    | 10, _ => let ⟨_, F, hb⟩ := Fs.f10; ft_zero (fun _ _ => rfl) F hb
    | 11, _ => let ⟨_, F, hb⟩ := Fs.f11; ft_zero (fun _ _ => rfl) F hb
    | 12, _ => let ⟨_, F, hb⟩ := Fs.f12; ft_zero (fun _ _ => rfl) F hb
    | 13, _ => let ⟨_, F, hb⟩ := Fs.f13; ft_zero (fun _ _ => rfl) F hb
    | 14, _ => let ⟨_, F, hb⟩ := Fs.f14; ft_zero (fun _ _ => rfl) F hb
    | 15, _ => let ⟨_, F, hb⟩ := Fs.f15; ft_zero (fun _ _ => rfl) F hb
    | 16, _ => let ⟨_, F, hb⟩ := Fs.f16; ft_zero (fun _ _ => rfl) F hb
    | 17, _ => let ⟨_, F, hb⟩ := Fs.f17; ft_zero (fun _ _ => rfl) F hb
    | 18, _ => let ⟨_, F, hb⟩ := Fs.f18; ft_zero (fun _ _ => rfl) F hb
    | 19, _ => let ⟨_, F, hb⟩ := Fs.f19; ft_zero (fun _ _ => rfl) F hb
    | 20, _ => let ⟨_, F, hb⟩ := Fs.f20; ft_zero (fun _ _ => rfl) F hb
    | 21, _ => let ⟨_, F, hb⟩ := Fs.f21; ft_zero (fun _ _ => rfl) F hb
    | 22, _ => let ⟨_, F, hb⟩ := Fs.f22; ft_zero (fun _ _ => rfl) F hb
    | 23, _ => let ⟨_, F, hb⟩ := Fs.f23; ft_zero (fun _ _ => rfl) F hb
    | 24, _ => let ⟨_, F, hb⟩ := Fs.f24; ft_zero (fun _ _ => rfl) F hb
    | 25, _ => let ⟨_, F, hb⟩ := Fs.f25; ft_zero (fun _ _ => rfl) F hb
    | 26, _ => let ⟨_, F, hb⟩ := Fs.f26; ft_zero (fun _ _ => rfl) F hb
    | n + 27, h => absurd h (by omega)
  | k + 1, n, h => match n, h with
    | 0, _ => let ⟨_, F, hb⟩ := Fs.f0; def_ok (k := 2 * k + 1) (b := b_is_integer (callN k)) F sc0 rfl rfl hb fun X W hX xf => d0 Tx hX xf (ft_all Tx Fs k) (Nat.le_succ _) (Nat.le_refl _)
    | 1, _ => let ⟨_, F, hb⟩ := Fs.f1; def_ok (k := 2 * k + 1) (b := b_is_signs (callN k)) F sc1 rfl rfl hb fun X W hX xf => d1 Tx hX xf (ft_all Tx Fs k) (Nat.le_succ _) (Nat.le_refl _)
    | 2, _ => let ⟨_, F, hb⟩ := Fs.f2; def_ok (k := 2 * k + 1) (b := b_many_signs (callN k)) F sc2 rfl rfl hb fun X W hX xf => d2 Tx hX xf (ft_all Tx Fs k) (Nat.le_succ _) (Nat.le_refl _)
    | 3, _ => let ⟨_, F, hb⟩ := Fs.f3; def_ok (k := 2 * k + 1) (b := b_is_word_of (callN k)) F sc3 rfl rfl hb fun X W hX xf => d3 Tx hX xf (ft_all Tx Fs k) (Nat.le_succ _) (Nat.le_refl _)
    | 4, _ => let ⟨_, F, hb⟩ := Fs.f4; def_ok (k := 2 * k + 1) (b := b_check_word (callN k)) F sc4 rfl rfl hb fun X W hX xf => d4 Tx hX xf (ft_all Tx Fs k) (Nat.le_succ _) (Nat.le_refl _)
    | 5, _ => let ⟨_, F, hb⟩ := Fs.f5; def_ok (k := 2 * k + 1) (b := b_check_signs (callN k)) F sc5 rfl rfl hb fun X W hX xf => d5 Tx hX xf (ft_all Tx Fs k) (Nat.le_succ _) (Nat.le_refl _)
    | 6, _ => let ⟨_, F, hb⟩ := Fs.f6; def_ok (k := 2 * k + 1) (b := b_items_of (callN k)) F sc6 rfl rfl hb fun X W hX xf => d6 Tx hX xf (ft_all Tx Fs k) (Nat.le_succ _) (Nat.le_refl _)
    | 7, _ => let ⟨_, F, hb⟩ := Fs.f7; def_ok (k := 2 * k + 1) (b := b_Spelling___init__ (callN k)) F sc7 rfl rfl hb fun X W hX xf => d7 Tx hX xf (ft_all Tx Fs k) (Nat.le_succ _) (Nat.le_refl _)
    | 8, _ => let ⟨_, F, hb⟩ := Fs.f8; def_ok (k := 2 * k + 1) (b := b_Spelling_kind (callN k)) F sc8 rfl rfl hb fun X W hX xf => d8 Tx hX xf (ft_all Tx Fs k) (Nat.le_succ _) (Nat.le_refl _)
    | 9, _ => let ⟨_, F, hb⟩ := Fs.f9; def_ok (k := 2 * k + 1) (b := b_Spelling_look_at (callN k)) F sc9 rfl rfl hb fun X W hX xf => d9 Tx hX xf (ft_all Tx Fs k) (Nat.le_succ _) (Nat.le_refl _)
    | 10, _ => let ⟨_, F, hb⟩ := Fs.f10; def_ok (k := 2 * k + 1) (b := b_Spelling_put (callN k)) F sc10 rfl rfl hb fun X W hX xf => d10 Tx hX xf (ft_all Tx Fs k) (Nat.le_succ _) (Nat.le_refl _)
    | 11, _ => let ⟨_, F, hb⟩ := Fs.f11; def_ok (k := 2 * k + 1) (b := b_Spelling_take (callN k)) F sc11 rfl rfl hb fun X W hX xf => d11 Tx hX xf (ft_all Tx Fs k) (Nat.le_succ _) (Nat.le_refl _)
    | 12, _ => let ⟨_, F, hb⟩ := Fs.f12; def_ok (k := 2 * k + 1) (b := b_Spelling_spell (callN k)) F sc12 rfl rfl hb fun X W hX xf => d12 Tx hX xf (ft_all Tx Fs k) (Nat.le_succ _) (Nat.le_refl _)
    | 13, _ => let ⟨_, F, hb⟩ := Fs.f13; def_ok (k := 2 * k + 1) (b := b_word_of (callN k)) F sc13 rfl rfl hb fun X W hX xf => d13 Tx hX xf (ft_all Tx Fs k) (Nat.le_succ _) (Nat.le_refl _)
    | 14, _ => let ⟨_, F, hb⟩ := Fs.f14; def_ok (k := 2 * k + 1) (b := b__law_tape (callN k)) F sc14 rfl rfl hb fun X W hX xf => d14 Tx hX xf (ft_all Tx Fs k) (Nat.le_succ _) (Nat.le_refl _)
    | 15, _ => let ⟨_, F, hb⟩ := Fs.f15; def_ok (k := 2 * k + 1) (b := b__law_draw (callN k)) F sc15 rfl rfl hb fun X W hX xf => d15 Tx hX xf (ft_all Tx Fs k) (Nat.le_succ _) (Nat.le_refl _)
    | 16, _ => let ⟨_, F, hb⟩ := Fs.f16; def_ok (k := 2 * k + 1) (b := b__law_pick (callN k)) F sc16 rfl rfl hb fun X W hX xf => d16 Tx hX xf (ft_all Tx Fs k) (Nat.le_succ _) (Nat.le_refl _)
    | 17, _ => let ⟨_, F, hb⟩ := Fs.f17; def_ok (k := 2 * k + 1) (b := b__law_same (callN k)) F sc17 rfl rfl hb fun X W hX xf => d17 Tx hX xf (ft_all Tx Fs k) (Nat.le_succ _) (Nat.le_refl _)
    | 18, _ => let ⟨_, F, hb⟩ := Fs.f18; def_ok (k := 2 * k + 1) (b := b__law_signs (callN k)) F sc18 rfl rfl hb fun X W hX xf => d18 Tx hX xf (ft_all Tx Fs k) (Nat.le_succ _) (Nat.le_refl _)
    | 19, _ => let ⟨_, F, hb⟩ := Fs.f19; def_ok (k := 2 * k + 1) (b := b__law_many (callN k)) F sc19 rfl rfl hb fun X W hX xf => d19 Tx hX xf (ft_all Tx Fs k) (Nat.le_succ _) (Nat.le_refl _)
    | 20, _ => let ⟨_, F, hb⟩ := Fs.f20; def_ok (k := 2 * k + 1) (b := b__law_word (callN k)) F sc20 rfl rfl hb fun X W hX xf => d20 Tx hX xf (ft_all Tx Fs k) (Nat.le_succ _) (Nat.le_refl _)
    | 21, _ => let ⟨_, F, hb⟩ := Fs.f21; def_ok (k := 2 * k + 1) (b := b__law_call (callN k)) F sc21 rfl rfl hb fun X W hX xf => d21 Tx hX xf (ft_all Tx Fs k) (Nat.le_succ _) (Nat.le_refl _)
    | 22, _ => let ⟨_, F, hb⟩ := Fs.f22; def_ok (k := 2 * k + 1) (b := b__law_match (callN k)) F sc22 rfl rfl hb fun X W hX xf => d22 Tx hX xf (ft_all Tx Fs k) (Nat.le_succ _) (Nat.le_refl _)
    | 23, _ => let ⟨_, F, hb⟩ := Fs.f23; def_ok (k := 2 * k + 1) (b := b__law_items (callN k)) F sc23 rfl rfl hb fun X W hX xf => d23 Tx hX xf (ft_all Tx Fs k) (Nat.le_succ _) (Nat.le_refl _)
    | 24, _ => let ⟨_, F, hb⟩ := Fs.f24; def_ok (k := 2 * k + 1) (b := b__law_bent (callN k)) F sc24 rfl rfl hb fun X W hX xf => d24 Tx hX xf (ft_all Tx Fs k) (Nat.le_succ _) (Nat.le_refl _)
    | 25, _ => let ⟨_, F, hb⟩ := Fs.f25; def_ok (k := 2 * k + 1) (b := b__law_flat (callN k)) F sc25 rfl rfl hb fun X W hX xf => d25 Tx hX xf (ft_all Tx Fs k) (Nat.le_succ _) (Nat.le_refl _)
    | 26, _ => let ⟨_, F, hb⟩ := Fs.f26; def_ok (k := 2 * k + 1) (b := b_law (callN k)) F sc26 rfl rfl hb fun X W hX xf => d26 Tx hX xf (ft_all Tx Fs k) (Nat.le_succ _) (Nat.le_refl _)
    | n + 27, h => absurd h (by omega)
theorem all_mk {P : Program} {w : World} {K : PySem.W.Frag} {h : Heap} {mg : Str → Option Value} {fa f0 f1 f2 f3 f4 f5 f6 f7 f8 f9 f10 f11 f12 f13 f14 f15 f16 f17 f18 f19 f20 f21 f22 f23 f24 f25 f26 C0 E0 E1 E2 : Addr} {od0 an0 od1 an1 od2 an2 od3 an3 od4 an4 od5 an5 od6 an6 od7 an7 od8 an8 od9 an9 od10 an10 od11 an11 od12 an12 od13 an13 od14 an14 od15 an15 od16 an16 od17 an17 od18 an18 od19 an19 od20 an20 od21 an21 od22 an22 od23 an23 od24 an24 od25 an25 od26 an26 : Option Addr} {sl0 sl1 sl2 sl3 sl4 sl5 sl6 sl7 sl8 sl9 sl10 sl11 sl12 sl13 sl14 sl15 sl16 sl17 sl18 sl19 sl20 sl21 sl22 sl23 sl24 sl25 sl26 : Array (Option Value)} {oc0 kV0 dc0 pm0 cd0 ct0 oc1 kV1 dc1 pm1 cd1 ct1 oc2 kV2 dc2 pm2 cd2 ct2 oc3 kV3 dc3 pm3 cd3 ct3 oc4 kV4 dc4 pm4 cd4 ct4 oc5 kV5 dc5 pm5 cd5 ct5 oc6 kV6 dc6 pm6 cd6 ct6 oc7 kV7 dc7 pm7 cd7 ct7 oc8 kV8 dc8 pm8 cd8 ct8 oc9 kV9 dc9 pm9 cd9 ct9 oc10 kV10 dc10 pm10 cd10 ct10 oc11 kV11 dc11 pm11 cd11 ct11 oc12 kV12 dc12 pm12 cd12 ct12 oc13 kV13 dc13 pm13 cd13 ct13 oc14 kV14 dc14 pm14 cd14 ct14 oc15 kV15 dc15 pm15 cd15 ct15 oc16 kV16 dc16 pm16 cd16 ct16 oc17 kV17 dc17 pm17 cd17 ct17 oc18 kV18 dc18 pm18 cd18 ct18 oc19 kV19 dc19 pm19 cd19 ct19 oc20 kV20 dc20 pm20 cd20 ct20 oc21 kV21 dc21 pm21 cd21 ct21 oc22 kV22 dc22 pm22 cd22 ct22 oc23 kV23 dc23 pm23 cd23 ct23 oc24 kV24 dc24 pm24 cd24 ct24 oc25 kV25 dc25 pm25 cd25 ct25 oc26 kV26 dc26 pm26 cd26 ct26 : Value} {t_MOST_WORD : Tok} {t_MOST_KIND : Tok} (X : K.In h) (G : h.Ns mainGlobals mg) (hfa : mg "law" = some (.ref fa))
    (hlaw : ∀ ns : List Int, ns.length ≤ 63 → (∀ z ∈ ns, Builtin.Int.intBits z ≤ 1048576) → ∃ g, callN 115 26 [.rol ns] [] = .ok (.bl true) g)
    (aC0 : PySem.W.nsIn K mainGlobals "Spelling" = some (some (.ref C0)))
    (aE0 : PySem.W.nsIn K mainGlobals "StackError" = some (some (.ref E0)))
    (aE1 : PySem.W.nsIn K mainGlobals "BadSystem" = some (some (.ref E1)))
    (aE2 : PySem.W.nsIn K mainGlobals "BadWord" = some (some (.ref E2)))
    (a0 : PySem.W.nsIn K mainGlobals "is_integer" = some (some (.ref f0)))
    (l0 : K.lookup f0 = some ⟨oc0, od0, .func (PySem.W.fnOf "is_integer" "is_integer" (defArgs s0) (defBody s0) (defScope s0) .none kV0 dc0 pm0 an0 cd0 ct0), sl0⟩)
    (c0 : PySem.W.codeIn K cd0 "is_integer" = true)
    (k0 : PySem.W.keepIn K (.ref f0) = true)
    (a1 : PySem.W.nsIn K mainGlobals "is_signs" = some (some (.ref f1)))
    (l1 : K.lookup f1 = some ⟨oc1, od1, .func (PySem.W.fnOf "is_signs" "is_signs" (defArgs s1) (defBody s1) (defScope s1) .none kV1 dc1 pm1 an1 cd1 ct1), sl1⟩)
    (c1 : PySem.W.codeIn K cd1 "is_signs" = true)
    (k1 : PySem.W.keepIn K (.ref f1) = true)
    (a2 : PySem.W.nsIn K mainGlobals "many_signs" = some (some (.ref f2)))
    (l2 : K.lookup f2 = some ⟨oc2, od2, .func (PySem.W.fnOf "many_signs" "many_signs" (defArgs s2) (defBody s2) (defScope s2) .none kV2 dc2 pm2 an2 cd2 ct2), sl2⟩)
    (c2 : PySem.W.codeIn K cd2 "many_signs" = true)
    (k2 : PySem.W.keepIn K (.ref f2) = true)
    (a3 : PySem.W.nsIn K mainGlobals "is_word_of" = some (some (.ref f3)))
    (l3 : K.lookup f3 = some ⟨oc3, od3, .func (PySem.W.fnOf "is_word_of" "is_word_of" (defArgs s3) (defBody s3) (defScope s3) .none kV3 dc3 pm3 an3 cd3 ct3), sl3⟩)
    (c3 : PySem.W.codeIn K cd3 "is_word_of" = true)
    (k3 : PySem.W.keepIn K (.ref f3) = true)
    (a4 : PySem.W.nsIn K mainGlobals "check_word" = some (some (.ref f4)))
    (l4 : K.lookup f4 = some ⟨oc4, od4, .func (PySem.W.fnOf "check_word" "check_word" (defArgs s4) (defBody s4) (defScope s4) .none kV4 dc4 pm4 an4 cd4 ct4), sl4⟩)
    (c4 : PySem.W.codeIn K cd4 "check_word" = true)
    (k4 : PySem.W.keepIn K (.ref f4) = true)
    (a5 : PySem.W.nsIn K mainGlobals "check_signs" = some (some (.ref f5)))
    (l5 : K.lookup f5 = some ⟨oc5, od5, .func (PySem.W.fnOf "check_signs" "check_signs" (defArgs s5) (defBody s5) (defScope s5) .none kV5 dc5 pm5 an5 cd5 ct5), sl5⟩)
    (c5 : PySem.W.codeIn K cd5 "check_signs" = true)
    (k5 : PySem.W.keepIn K (.ref f5) = true)
    (a6 : PySem.W.nsIn K mainGlobals "items_of" = some (some (.ref f6)))
    (l6 : K.lookup f6 = some ⟨oc6, od6, .func (PySem.W.fnOf "items_of" "items_of" (defArgs s6) (defBody s6) (defScope s6) .none kV6 dc6 pm6 an6 cd6 ct6), sl6⟩)
    (c6 : PySem.W.codeIn K cd6 "items_of" = true)
    (k6 : PySem.W.keepIn K (.ref f6) = true)
    (a7 : PySem.W.findIn K (.ref C0) "__init__" = some (some (.ref f7)))
    (i7 : PySem.W.isFn K (.ref f7) = true)
    (l7 : K.lookup f7 = some ⟨oc7, od7, .func (PySem.W.fnOf "__init__" "Spelling.__init__" (defArgs s7) (defBody s7) (defScope s7) .none kV7 dc7 pm7 an7 cd7 ct7), sl7⟩)
    (c7 : PySem.W.codeIn K cd7 "Spelling.__init__" = true)
    (k7 : PySem.W.keepIn K (.ref f7) = true)
    (a8 : PySem.W.findIn K (.ref C0) "kind" = some (some (.ref f8)))
    (i8 : PySem.W.isFn K (.ref f8) = true)
    (l8 : K.lookup f8 = some ⟨oc8, od8, .func (PySem.W.fnOf "kind" "Spelling.kind" (defArgs s8) (defBody s8) (defScope s8) .none kV8 dc8 pm8 an8 cd8 ct8), sl8⟩)
    (c8 : PySem.W.codeIn K cd8 "Spelling.kind" = true)
    (k8 : PySem.W.keepIn K (.ref f8) = true)
    (a9 : PySem.W.findIn K (.ref C0) "look_at" = some (some (.ref f9)))
    (i9 : PySem.W.isFn K (.ref f9) = true)
    (l9 : K.lookup f9 = some ⟨oc9, od9, .func (PySem.W.fnOf "look_at" "Spelling.look_at" (defArgs s9) (defBody s9) (defScope s9) .none kV9 dc9 pm9 an9 cd9 ct9), sl9⟩)
    (c9 : PySem.W.codeIn K cd9 "Spelling.look_at" = true)
    (k9 : PySem.W.keepIn K (.ref f9) = true)
    (a10 : PySem.W.findIn K (.ref C0) "put" = some (some (.ref f10)))
    (i10 : PySem.W.isFn K (.ref f10) = true)
    (l10 : K.lookup f10 = some ⟨oc10, od10, .func (PySem.W.fnOf "put" "Spelling.put" (defArgs s10) (defBody s10) (defScope s10) .none kV10 dc10 pm10 an10 cd10 ct10), sl10⟩)
    (c10 : PySem.W.codeIn K cd10 "Spelling.put" = true)
    (k10 : PySem.W.keepIn K (.ref f10) = true)
    (a11 : PySem.W.findIn K (.ref C0) "take" = some (some (.ref f11)))
    (i11 : PySem.W.isFn K (.ref f11) = true)
    (l11 : K.lookup f11 = some ⟨oc11, od11, .func (PySem.W.fnOf "take" "Spelling.take" (defArgs s11) (defBody s11) (defScope s11) .none kV11 dc11 pm11 an11 cd11 ct11), sl11⟩)
    (c11 : PySem.W.codeIn K cd11 "Spelling.take" = true)
    (k11 : PySem.W.keepIn K (.ref f11) = true)
    (a12 : PySem.W.findIn K (.ref C0) "spell" = some (some (.ref f12)))
    (i12 : PySem.W.isFn K (.ref f12) = true)
    (l12 : K.lookup f12 = some ⟨oc12, od12, .func (PySem.W.fnOf "spell" "Spelling.spell" (defArgs s12) (defBody s12) (defScope s12) .none kV12 dc12 pm12 an12 cd12 ct12), sl12⟩)
    (c12 : PySem.W.codeIn K cd12 "Spelling.spell" = true)
    (k12 : PySem.W.keepIn K (.ref f12) = true)
    (a13 : PySem.W.nsIn K mainGlobals "word_of" = some (some (.ref f13)))
    (l13 : K.lookup f13 = some ⟨oc13, od13, .func (PySem.W.fnOf "word_of" "word_of" (defArgs s13) (defBody s13) (defScope s13) .none kV13 dc13 pm13 an13 cd13 ct13), sl13⟩)
    (c13 : PySem.W.codeIn K cd13 "word_of" = true)
    (k13 : PySem.W.keepIn K (.ref f13) = true)
    (a14 : PySem.W.nsIn K mainGlobals "_law_tape" = some (some (.ref f14)))
    (l14 : K.lookup f14 = some ⟨oc14, od14, .func (PySem.W.fnOf "_law_tape" "_law_tape" (defArgs s14) (defBody s14) (defScope s14) .none kV14 dc14 pm14 an14 cd14 ct14), sl14⟩)
    (c14 : PySem.W.codeIn K cd14 "_law_tape" = true)
    (k14 : PySem.W.keepIn K (.ref f14) = true)
    (a15 : PySem.W.nsIn K mainGlobals "_law_draw" = some (some (.ref f15)))
    (l15 : K.lookup f15 = some ⟨oc15, od15, .func (PySem.W.fnOf "_law_draw" "_law_draw" (defArgs s15) (defBody s15) (defScope s15) .none kV15 dc15 pm15 an15 cd15 ct15), sl15⟩)
    (c15 : PySem.W.codeIn K cd15 "_law_draw" = true)
    (k15 : PySem.W.keepIn K (.ref f15) = true)
    (a16 : PySem.W.nsIn K mainGlobals "_law_pick" = some (some (.ref f16)))
    (l16 : K.lookup f16 = some ⟨oc16, od16, .func (PySem.W.fnOf "_law_pick" "_law_pick" (defArgs s16) (defBody s16) (defScope s16) .none kV16 dc16 pm16 an16 cd16 ct16), sl16⟩)
    (c16 : PySem.W.codeIn K cd16 "_law_pick" = true)
    (k16 : PySem.W.keepIn K (.ref f16) = true)
    (a17 : PySem.W.nsIn K mainGlobals "_law_same" = some (some (.ref f17)))
    (l17 : K.lookup f17 = some ⟨oc17, od17, .func (PySem.W.fnOf "_law_same" "_law_same" (defArgs s17) (defBody s17) (defScope s17) .none kV17 dc17 pm17 an17 cd17 ct17), sl17⟩)
    (c17 : PySem.W.codeIn K cd17 "_law_same" = true)
    (k17 : PySem.W.keepIn K (.ref f17) = true)
    (a18 : PySem.W.nsIn K mainGlobals "_law_signs" = some (some (.ref f18)))
    (l18 : K.lookup f18 = some ⟨oc18, od18, .func (PySem.W.fnOf "_law_signs" "_law_signs" (defArgs s18) (defBody s18) (defScope s18) .none kV18 dc18 pm18 an18 cd18 ct18), sl18⟩)
    (c18 : PySem.W.codeIn K cd18 "_law_signs" = true)
    (k18 : PySem.W.keepIn K (.ref f18) = true)
    (a19 : PySem.W.nsIn K mainGlobals "_law_many" = some (some (.ref f19)))
    (l19 : K.lookup f19 = some ⟨oc19, od19, .func (PySem.W.fnOf "_law_many" "_law_many" (defArgs s19) (defBody s19) (defScope s19) .none kV19 dc19 pm19 an19 cd19 ct19), sl19⟩)
    (c19 : PySem.W.codeIn K cd19 "_law_many" = true)
    (k19 : PySem.W.keepIn K (.ref f19) = true)
    (a20 : PySem.W.nsIn K mainGlobals "_law_word" = some (some (.ref f20)))
    (l20 : K.lookup f20 = some ⟨oc20, od20, .func (PySem.W.fnOf "_law_word" "_law_word" (defArgs s20) (defBody s20) (defScope s20) .none kV20 dc20 pm20 an20 cd20 ct20), sl20⟩)
    (c20 : PySem.W.codeIn K cd20 "_law_word" = true)
    (k20 : PySem.W.keepIn K (.ref f20) = true)
    (a21 : PySem.W.nsIn K mainGlobals "_law_call" = some (some (.ref f21)))
    (l21 : K.lookup f21 = some ⟨oc21, od21, .func (PySem.W.fnOf "_law_call" "_law_call" (defArgs s21) (defBody s21) (defScope s21) .none kV21 dc21 pm21 an21 cd21 ct21), sl21⟩)
    (c21 : PySem.W.codeIn K cd21 "_law_call" = true)
    (k21 : PySem.W.keepIn K (.ref f21) = true)
    (a22 : PySem.W.nsIn K mainGlobals "_law_match" = some (some (.ref f22)))
    (l22 : K.lookup f22 = some ⟨oc22, od22, .func (PySem.W.fnOf "_law_match" "_law_match" (defArgs s22) (defBody s22) (defScope s22) .none kV22 dc22 pm22 an22 cd22 ct22), sl22⟩)
    (c22 : PySem.W.codeIn K cd22 "_law_match" = true)
    (k22 : PySem.W.keepIn K (.ref f22) = true)
    (a23 : PySem.W.nsIn K mainGlobals "_law_items" = some (some (.ref f23)))
    (l23 : K.lookup f23 = some ⟨oc23, od23, .func (PySem.W.fnOf "_law_items" "_law_items" (defArgs s23) (defBody s23) (defScope s23) .none kV23 dc23 pm23 an23 cd23 ct23), sl23⟩)
    (c23 : PySem.W.codeIn K cd23 "_law_items" = true)
    (k23 : PySem.W.keepIn K (.ref f23) = true)
    (a24 : PySem.W.nsIn K mainGlobals "_law_bent" = some (some (.ref f24)))
    (l24 : K.lookup f24 = some ⟨oc24, od24, .func (PySem.W.fnOf "_law_bent" "_law_bent" (defArgs s24) (defBody s24) (defScope s24) .none kV24 dc24 pm24 an24 cd24 ct24), sl24⟩)
    (c24 : PySem.W.codeIn K cd24 "_law_bent" = true)
    (k24 : PySem.W.keepIn K (.ref f24) = true)
    (a25 : PySem.W.nsIn K mainGlobals "_law_flat" = some (some (.ref f25)))
    (l25 : K.lookup f25 = some ⟨oc25, od25, .func (PySem.W.fnOf "_law_flat" "_law_flat" (defArgs s25) (defBody s25) (defScope s25) .none kV25 dc25 pm25 an25 cd25 ct25), sl25⟩)
    (c25 : PySem.W.codeIn K cd25 "_law_flat" = true)
    (k25 : PySem.W.keepIn K (.ref f25) = true)
    (a26 : PySem.W.nsIn K mainGlobals "law" = some (some (.ref f26)))
    (l26 : K.lookup f26 = some ⟨oc26, od26, .func (PySem.W.fnOf "law" "law" (defArgs s26) (defBody s26) (defScope s26) .none kV26 dc26 pm26 an26 cd26 ct26), sl26⟩)
    (c26 : PySem.W.codeIn K cd26 "law" = true)
    (k26 : PySem.W.keepIn K (.ref f26) = true)
    (pg0 : PySem.W.plainGet K C0 Str.empty = true)
    (hd0 : PySem.W.hasDictIn K C0 = true)
    (po0 : PySem.W.plainOver K C0 = true)
    (sa0 : PySem.W.findIn K (.ref C0) "__setattr__" = some (some (.builtin "object.__setattr__")))
    (mk0 : PySem.W.makesIn K C0 = true)
    (kc0 : PySem.W.keepIn K (.ref C0) = true)
    (n0_signs : PySem.W.findIn K (.ref C0) "signs" = some none)
    (n0_word : PySem.W.findIn K (.ref C0) "word" = some none)
    (n0_waiting : PySem.W.findIn K (.ref C0) "waiting" = some none)
    (xE0 : PySem.W.excIn K E0 [.type "ValueError", .type "Exception", .type "BaseException", .type "object"] "ValueError.__new__" = true)
    (kE0 : PySem.W.keepIn K (.ref E0) = true)
    (bE0 : PySem.W.subIn K (.ref E0) (.type "BaseException") = some true)
    (tE0 : PySem.W.typeIn K (.ref E0) = some (.type "type"))
    (xE1 : PySem.W.excIn K E1 [.type "ValueError", .type "Exception", .type "BaseException", .type "object"] "ValueError.__new__" = true)
    (kE1 : PySem.W.keepIn K (.ref E1) = true)
    (bE1 : PySem.W.subIn K (.ref E1) (.type "BaseException") = some true)
    (tE1 : PySem.W.typeIn K (.ref E1) = some (.type "type"))
    (xE2 : PySem.W.excIn K E2 [.type "ValueError", .type "Exception", .type "BaseException", .type "object"] "ValueError.__new__" = true)
    (kE2 : PySem.W.keepIn K (.ref E2) = true)
    (bE2 : PySem.W.subIn K (.ref E2) (.type "BaseException") = some true)
    (tE2 : PySem.W.typeIn K (.ref E2) = some (.type "type"))
    (iE1 : PySem.W.isClsIn K E1 = true)
    (sE0_1 : PySem.W.subIn K (.ref E0) (.ref E1) = some false)
    (sE1_1 : PySem.W.subIn K (.ref E1) (.ref E1) = some true)
    (sE2_1 : PySem.W.subIn K (.ref E2) (.ref E1) = some false)
    (iE2 : PySem.W.isClsIn K E2 = true)
    (sE0_2 : PySem.W.subIn K (.ref E0) (.ref E2) = some false)
    (sE1_2 : PySem.W.subIn K (.ref E1) (.ref E2) = some false)
    (sE2_2 : PySem.W.subIn K (.ref E2) (.ref E2) = some true)
    (t__MOST_WORD : PySem.W.nsIn K mainGlobals "MOST_WORD" = some (some (.int 300 t_MOST_WORD)))
    (t__MOST_KIND : PySem.W.nsIn K mainGlobals "MOST_KIND" = some (some (.int 3 t_MOST_KIND)))
    (z_len : PySem.W.nsIn K mainGlobals "len" = some none)
    (z_int : PySem.W.nsIn K mainGlobals "int" = some none)
    (z_abs : PySem.W.nsIn K mainGlobals "abs" = some none)
    (z_all : PySem.W.nsIn K mainGlobals "all" = some none)
    (z_any : PySem.W.nsIn K mainGlobals "any" = some none)
    (z_tuple : PySem.W.nsIn K mainGlobals "tuple" = some none)
    (z_list : PySem.W.nsIn K mainGlobals "list" = some none)
    (z_max : PySem.W.nsIn K mainGlobals "max" = some none)
    (z_min : PySem.W.nsIn K mainGlobals "min" = some none)
    (z_range : PySem.W.nsIn K mainGlobals "range" = some none)
    (z_isinstance : PySem.W.nsIn K mainGlobals "isinstance" = some none)
    (z_zip : PySem.W.nsIn K mainGlobals "zip" = some none)
    (z_enumerate : PySem.W.nsIn K mainGlobals "enumerate" = some none)
    (z_sorted : PySem.W.nsIn K mainGlobals "sorted" = some none)
    (z_dict : PySem.W.nsIn K mainGlobals "dict" = some none)
    (z_sum : PySem.W.nsIn K mainGlobals "sum" = some none)
    (z_bool : PySem.W.nsIn K mainGlobals "bool" = some none)
    (z_str : PySem.W.nsIn K mainGlobals "str" = some none)
    (z_repr : PySem.W.nsIn K mainGlobals "repr" = some none)
    (z_set : PySem.W.nsIn K mainGlobals "set" = some none) :
    ∃ fd : FuncData, (∀ (s : Shared) (u : Value), BindsTo s fd ⟨[u], []⟩ [("script", u)]) ∧ ∀ base : Heap, K.In base → base.Ns mainGlobals mg → FnOk P w K mg base (L2.CX P w) 230 fa fd ["script"] (spLaw K) := by
  have e : f26 = fa := (Value.ref.inj (Option.some.inj (hfa.symm.trans (PySem.W.mg_of X G a26)))).symm
  subst e
  refine ⟨PySem.W.fnOf "law" "law" (defArgs s26) (defBody s26) (defScope s26) .none kV26 dc26 pm26 an26 cd26 ct26, fun s u => .of_eq rfl, fun base _ _ => ?_⟩
  let Z : Tab := { P := P, w := w, K := K, mg := mg, base := base, ne := 3, fn := fun n => match n with | 0 => f0 | 1 => f1 | 2 => f2 | 3 => f3 | 4 => f4 | 5 => f5 | 6 => f6 | 7 => f7 | 8 => f8 | 9 => f9 | 10 => f10 | 11 => f11 | 12 => f12 | 13 => f13 | 14 => f14 | 15 => f15 | 16 => f16 | 17 => f17 | 18 => f18 | 19 => f19 | 20 => f20 | 21 => f21 | 22 => f22 | 23 => f23 | 24 => f24 | 25 => f25 | 26 => f26 | _ => f26, cls := fun n => match n with | 0 => C0 | _ => f26, exc := fun n => match n with | 0 => E0 | 1 => E1 | 2 => E2 | _ => f26, xf := fun _ => none }
  have m : ∀ {x : Str} {v : Value}, PySem.W.nsIn K mainGlobals x = some (some v) → mg x = some v := fun e => PySem.W.mg_of X G e
  have z : ∀ {x : Str}, PySem.W.nsIn K mainGlobals x = some none → mg x = none := fun e => PySem.W.mg_none_of X G e
  have F0 := fun_mk (st := s0) l0 c0 k0
  have b0 := F0.binds (ps := p0) fun _ _ _ _ _ _ us hl => match us, hl with | [_, _, _], _ => rfl
  have F1 := fun_mk (st := s1) l1 c1 k1
  have b1 := F1.binds (ps := p1) fun _ _ _ _ _ _ us hl => match us, hl with | [_], _ => rfl
  have F2 := fun_mk (st := s2) l2 c2 k2
  have b2 := F2.binds (ps := p2) fun _ _ _ _ _ _ us hl => match us, hl with | [_], _ => rfl
  have F3 := fun_mk (st := s3) l3 c3 k3
  have b3 := F3.binds (ps := p3) fun _ _ _ _ _ _ us hl => match us, hl with | [_, _], _ => rfl
  have F4 := fun_mk (st := s4) l4 c4 k4
  have b4 := F4.binds (ps := p4) fun _ _ _ _ _ _ us hl => match us, hl with | [_, _], _ => rfl
  have F5 := fun_mk (st := s5) l5 c5 k5
  have b5 := F5.binds (ps := p5) fun _ _ _ _ _ _ us hl => match us, hl with | [_], _ => rfl
  have F6 := fun_mk (st := s6) l6 c6 k6
  have b6 := F6.binds (ps := p6) fun _ _ _ _ _ _ us hl => match us, hl with | [_, _], _ => rfl
  have F7 := fun_mk (st := s7) l7 c7 k7
  have b7 := F7.binds (ps := p7) fun _ _ _ _ _ _ us hl => match us, hl with | [_, _], _ => rfl
  have F8 := fun_mk (st := s8) l8 c8 k8
  have b8 := F8.binds (ps := p8) fun _ _ _ _ _ _ us hl => match us, hl with | [_, _], _ => rfl
  have F9 := fun_mk (st := s9) l9 c9 k9
  have b9 := F9.binds (ps := p9) fun _ _ _ _ _ _ us hl => match us, hl with | [_, _], _ => rfl
  have F10 := fun_mk (st := s10) l10 c10 k10
  have b10 := F10.binds (ps := p10) fun _ _ _ _ _ _ us hl => match us, hl with | [_, _, _], _ => rfl
  have F11 := fun_mk (st := s11) l11 c11 k11
  have b11 := F11.binds (ps := p11) fun _ _ _ _ _ _ us hl => match us, hl with | [_, _], _ => rfl
  have F12 := fun_mk (st := s12) l12 c12 k12
  have b12 := F12.binds (ps := p12) fun _ _ _ _ _ _ us hl => match us, hl with | [_, _], _ => rfl
  have F13 := fun_mk (st := s13) l13 c13 k13
  have b13 := F13.binds (ps := p13) fun _ _ _ _ _ _ us hl => match us, hl with | [_, _], _ => rfl
  have F14 := fun_mk (st := s14) l14 c14 k14
  have b14 := F14.binds (ps := p14) fun _ _ _ _ _ _ us hl => match us, hl with | [_], _ => rfl
  have F15 := fun_mk (st := s15) l15 c15 k15
  have b15 := F15.binds (ps := p15) fun _ _ _ _ _ _ us hl => match us, hl with | [_, _], _ => rfl
  have F16 := fun_mk (st := s16) l16 c16 k16
  have b16 := F16.binds (ps := p16) fun _ _ _ _ _ _ us hl => match us, hl with | [_, _], _ => rfl
  have F17 := fun_mk (st := s17) l17 c17 k17
  have b17 := F17.binds (ps := p17) fun _ _ _ _ _ _ us hl => match us, hl with | [_, _], _ => rfl
  have F18 := fun_mk (st := s18) l18 c18 k18
  have b18 := F18.binds (ps := p18) fun _ _ _ _ _ _ us hl => match us, hl with | [_], _ => rfl
  have F19 := fun_mk (st := s19) l19 c19 k19
  have b19 := F19.binds (ps := p19) fun _ _ _ _ _ _ us hl => match us, hl with | [_], _ => rfl
  have F20 := fun_mk (st := s20) l20 c20 k20
  have b20 := F20.binds (ps := p20) fun _ _ _ _ _ _ us hl => match us, hl with | [_, _, _], _ => rfl
  have F21 := fun_mk (st := s21) l21 c21 k21
  have b21 := F21.binds (ps := p21) fun _ _ _ _ _ _ us hl => match us, hl with | [_, _, _], _ => rfl
  have F22 := fun_mk (st := s22) l22 c22 k22
  have b22 := F22.binds (ps := p22) fun _ _ _ _ _ _ us hl => match us, hl with | [_, _, _], _ => rfl
  have F23 := fun_mk (st := s23) l23 c23 k23
  have b23 := F23.binds (ps := p23) fun _ _ _ _ _ _ us hl => match us, hl with | [_, _], _ => rfl
  have F24 := fun_mk (st := s24) l24 c24 k24
  have b24 := F24.binds (ps := p24) fun _ _ _ _ _ _ us hl => match us, hl with | [_, _, _], _ => rfl
  have F25 := fun_mk (st := s25) l25 c25 k25
  have b25 := F25.binds (ps := p25) fun _ _ _ _ _ _ us hl => match us, hl with | [_], _ => rfl
  have F26 := fun_mk (st := s26) l26 c26 k26
  have b26 := F26.binds (ps := p26) fun _ _ _ _ _ _ us hl => match us, hl with | [_], _ => rfl
  have Fs : Fns Z := ⟨⟨_, F0, b0⟩, ⟨_, F1, b1⟩, ⟨_, F2, b2⟩, ⟨_, F3, b3⟩, ⟨_, F4, b4⟩, ⟨_, F5, b5⟩, ⟨_, F6, b6⟩, ⟨_, F7, b7⟩, ⟨_, F8, b8⟩, ⟨_, F9, b9⟩, ⟨_, F10, b10⟩, ⟨_, F11, b11⟩, ⟨_, F12, b12⟩, ⟨_, F13, b13⟩, ⟨_, F14, b14⟩, ⟨_, F15, b15⟩, ⟨_, F16, b16⟩, ⟨_, F17, b17⟩, ⟨_, F18, b18⟩, ⟨_, F19, b19⟩, ⟨_, F20, b20⟩, ⟨_, F21, b21⟩, ⟨_, F22, b22⟩, ⟨_, F23, b23⟩, ⟨_, F24, b24⟩, ⟨_, F25, b25⟩, ⟨_, F26, b26⟩⟩
  have cl : ClsOk Z T := .of fun c k e => match c, e with
    | 0, e => by cases e; exact ⟨⟨pg0, hd0, po0, sa0⟩, (all_cons n0_signs (all_cons n0_word (all_cons n0_waiting all_nil))), (all_cons ⟨a7, i7, k7⟩ (all_cons ⟨a8, i8, k8⟩ (all_cons ⟨a9, i9, k9⟩ (all_cons ⟨a10, i10, k10⟩ (all_cons ⟨a11, i11, k11⟩ (all_cons ⟨a12, i12, k12⟩ all_nil))))))⟩
    | n + 1, e => by cases e
  have Tx : Txt Z := {
    B := ⟨z z_len, z z_int, z z_abs, z z_all, z z_any, z z_tuple, z z_list, z z_max, z z_min, z z_range, z z_isinstance, z z_zip, z z_enumerate, z z_sorted, z z_dict, z z_sum, z z_bool, z z_str, z z_repr, z z_set⟩
    C := cl
    mf_0 := m a0
    mf_1 := m a1
    mf_2 := m a2
    mf_3 := m a3
    mf_4 := m a4
    mf_5 := m a5
    mf_6 := m a6
    mf_13 := m a13
    mf_14 := m a14
    mf_15 := m a15
    mf_16 := m a16
    mf_17 := m a17
    mf_18 := m a18
    mf_19 := m a19
    mf_20 := m a20
    mf_21 := m a21
    mf_22 := m a22
    mf_23 := m a23
    mf_24 := m a24
    mf_25 := m a25
    mf_26 := m a26
    mc_0 := m aC0
    mk_0 := ⟨mk0, a7, i7, kc0⟩
    mx_0 := m aE0
    xo_0 := exc_mk (show 0 < 3 from by decide) rfl xE0 kE0 bE0 tE0
    mx_1 := m aE1
    xo_1 := exc_mk (show 1 < 3 from by decide) rfl xE1 kE1 bE1 tE1
    mx_2 := m aE2
    xo_2 := exc_mk (show 2 < 3 from by decide) rfl xE2 kE2 bE2 tE2
    ex_1 := fun c hc => match c, hc with | 0, _ => exm_mk bE1 iE1 tE1 sE0_1 | 1, _ => exm_mk bE1 iE1 tE1 sE1_1 | 2, _ => exm_mk bE1 iE1 tE1 sE2_1 | n + 3, hc => absurd hc (by show ¬ n + 3 < 3; omega)
    ex_2 := fun c hc => match c, hc with | 0, _ => exm_mk bE2 iE2 tE2 sE0_2 | 1, _ => exm_mk bE2 iE2 tE2 sE1_2 | 2, _ => exm_mk bE2 iE2 tE2 sE2_2 | n + 3, hc => absurd hc (by show ¬ n + 3 < 3; omega)
    mi_MOST_WORD := ⟨_, m t__MOST_WORD⟩
    mi_MOST_KIND := ⟨_, m t__MOST_KIND⟩ }
  exact law_end (Z := Z) (cl := callN 115) (n := 26) (def_okF (Z := Z) (i := 26) (k := 229) (b := b_law (callN 114)) F26 sc26 rfl rfl (fun X W hX xf => d26 Tx hX xf (ft_all Tx Fs 114) (by decide) (by decide))) hlaw
end K44
end
section
set_option Elab.async false
set_option linter.all false
set_option maxRecDepth 100000
namespace DV
open PySem
/-! ### a call's end, where nothing of the caller's is changed -/
theorem oldOk_app (g t : G) : oldOk g (g ++ t) = true := by
  unfold oldOk
  rw [List.all_eq_true]
  intro p hp
  obtain ⟨i, hi⟩ := List.mem_iff_getElem?.mp hp
  rw [List.getElem?_zip_eq_some] at hi
  have hl := (List.getElem?_eq_some_iff.mp hi.1).1
  rw [List.getElem?_append_left hl] at hi
  have : p.1 = p.2 := Option.some.inj (hi.1.symm.trans hi.2)
  simp [this]
theorem gc_app (g t : G) (d : D) (h : d.low g.length = true) : DV.gc g d (g ++ t) = (d, g) := by
  unfold DV.gc
  rw [if_pos (oldOk_app g t), if_pos h]
  simp
theorem Rgc_app (g t : G) (d : D) (h : d.low g.length = true) : R.gc g (.ok d (g ++ t)) = .ok d g := by
  show R.ok (DV.gc g d (g ++ t)).1 (DV.gc g d (g ++ t)).2 = _
  rw [gc_app g t d h]
theorem Rgc_exc (g t : G) (c : Nat) : R.gc g (.exc c .non (g ++ t)) = .exc c .non g := by
  show (if (D.low g.length .non && oldOk g (g ++ t)) = true then R.exc c .non ((g ++ t).take g.length) else _) = _
  rw [oldOk_app]
  simp [D.low]
/-- a def's body that returns -/
theorem body_rt {np n : Nat} {b : Sm} {ds : List D} {g t : G} {d : D} (hn : ds.length = np) (h : b (start n ds) g = .ok (.rt d) (g ++ t)) (hl : d.low g.length = true) : body np n b ds g = .ok d g := by
  unfold body
  rw [if_pos hn, h]
  exact Rgc_app g t d hl
theorem body_rt0 {np n : Nat} {b : Sm} {ds : List D} {g : G} {d : D} (hn : ds.length = np) (h : b (start n ds) g = .ok (.rt d) g) (hl : d.low g.length = true) : body np n b ds g = .ok d g :=
  body_rt (t := []) hn (by rw [List.append_nil]; exact h) hl
theorem body_nx {np n : Nat} {b : Sm} {ds : List D} {g t : G} {δ : Env} (hn : ds.length = np) (h : b (start n ds) g = .ok (.nx δ) (g ++ t)) : body np n b ds g = .ok .non g := by
  unfold body
  rw [if_pos hn, h]
  exact Rgc_app g t .non rfl
theorem body_nx0 {np n : Nat} {b : Sm} {ds : List D} {g : G} {δ : Env} (hn : ds.length = np) (h : b (start n ds) g = .ok (.nx δ) g) : body np n b ds g = .ok .non g :=
  body_nx (t := []) hn (by rw [List.append_nil]; exact h)
theorem body_exc {np n : Nat} {b : Sm} {ds : List D} {g t : G} {c : Nat} {δ : Env} (hn : ds.length = np) (h : b (start n ds) g = .exc c .non δ (g ++ t)) : body np n b ds g = .exc c .non g := by
  unfold body
  rw [if_pos hn, h]
  exact Rgc_exc g t c
theorem body_exc0 {np n : Nat} {b : Sm} {ds : List D} {g : G} {c : Nat} {δ : Env} (hn : ds.length = np) (h : b (start n ds) g = .exc c .non δ g) : body np n b ds g = .exc c .non g :=
  body_exc (t := []) hn (by rw [List.append_nil]; exact h)

/-! ### steps -/
section
variable {a b : Sm} {e e2 : Ex} {es : Exs} {c c2 : Te} {δ δ' : Env} {g g1 g2 : G} {d d2 : D} {ds : List D} {i : Nat} {t : Tg} {it : Ie} {w : It} {k : Bool} {m : Nat} {x : D}
theorem st_nx (h : a δ g = .ok (.nx δ') g1) : Sm.seq a b δ g = b δ' g1 := by show (a δ g).seq b = _; rw [h]; rfl
theorem st_rt (h : a δ g = .ok (.rt d) g1) : Sm.seq a b δ g = .ok (.rt d) g1 := by show (a δ g).seq b = _; rw [h]; rfl
theorem st_exc (h : a δ g = .exc m x δ' g1) : Sm.seq a b δ g = .exc m x δ' g1 := by show (a δ g).seq b = _; rw [h]; rfl
theorem st_bk (h : a δ g = .ok (.bk δ') g1) : Sm.seq a b δ g = .ok (.bk δ') g1 := by show (a δ g).seq b = _; rw [h]; rfl
theorem st_ct (h : a δ g = .ok (.ct δ') g1) : Sm.seq a b δ g = .ok (.ct δ') g1 := by show (a δ g).seq b = _; rw [h]; rfl
theorem st_asg (h : e δ g = .ok d g1) (h2 : t d δ g1 = .ok δ' g2) : Sm.asg t e δ g = .ok (.nx δ') g2 := by show (e δ g).thenS δ _ = _; rw [h]; show (R.hush (t d δ g1)).thenS δ _ = _; rw [h2]; rfl
theorem st_set (h : e δ g = .ok d g1) : Sm.asg (Tg.name i) e δ g = .ok (.nx (δ.set i (some d))) g1 := st_asg h rfl
theorem st_ret (h : e δ g = .ok d g1) : Sm.ret e δ g = .ok (.rt d) g1 := by show (e δ g).thenS δ _ = _; rw [h]; rfl
theorem st_ex (h : e δ g = .ok d g1) : Sm.ex e δ g = .ok (.nx δ) g1 := by show (e δ g).thenS δ _ = _; rw [h]; rfl
theorem st_ite (h : c δ g = .ok k g1) : Sm.ite c a b δ g = if k then a δ g1 else b δ g1 := by show (c δ g).thenS δ _ = _; rw [h]; rfl
theorem st_if (h : c δ g = .ok true g1) : Sm.ite c a b δ g = a δ g1 := by rw [st_ite h]; rfl
theorem st_el (h : c δ g = .ok false g1) : Sm.ite c a b δ g = b δ g1 := by rw [st_ite h]; rfl
theorem st_no (h : c δ g = .ok false g1) : Sm.ite c a Sm.skip δ g = .ok (.nx δ) g1 := by rw [st_ite h]; rfl
theorem st_for (h : it δ g = .ok w g1) : Sm.for it t b δ g = forLoop w t b fuel 0 δ g1 := by show (it δ g).thenS δ _ = _; rw [h]; rfl
theorem st_raise : Sm.raise m (Ex.cst x) δ g = .exc m x δ g := rfl
theorem st_par {j : Nat} (h : e δ g = .ok d g1) (h2 : e2 δ g1 = .ok d2 g2) : Sm.par i j e e2 δ g = .ok (.nx ((δ.set i (some d)).set j (some d2))) g2 := by show (e δ g).thenS δ _ = _; rw [h]; show (e2 δ g1).thenS δ _ = _; rw [h2]; rfl
theorem x_call {cl : Cl} (h : es δ g = .ok ds g1) : Ex.call cl m es δ g = cl m ds g1 := by show (es δ g).bind _ = _; rw [h]; rfl
theorem x_bi {bb : Bi} (h : es δ g = .ok ds g1) : Ex.bi bb es δ g = DV.bi bb ds g1 := by show (es δ g).bind _ = _; rw [h]; rfl
theorem xs_cons (h : e δ g = .ok d g1) (h2 : es δ g1 = .ok ds g2) : exCons e es δ g = .ok (d :: ds) g2 := by show (e δ g).bind _ = _; rw [h]; show (es δ g1).bind _ = _; rw [h2]; rfl
theorem x_bin {o : Op} (h : e δ g = .ok d g1) (h2 : e2 δ g1 = .ok d2 g2) : Ex.bin o e e2 δ g = binop o d d2 g2 := by show (e δ g).bind _ = _; rw [h]; show (e2 δ g1).bind _ = _; rw [h2]; rfl
theorem x_cmp {o : Cmp} (h : e δ g = .ok d g1) (h2 : e2 δ g1 = .ok d2 g2) : Ex.cmp o e e2 δ g = liftO (cmpD o d d2 g2) g2 := by show (e δ g).bind _ = _; rw [h]; show (e2 δ g1).bind _ = _; rw [h2]; rfl
theorem x_idx (h : e δ g = .ok d g1) (h2 : e2 δ g1 = .ok d2 g2) : Ex.idx e e2 δ g = DV.idx d d2 g2 := by show (e δ g).bind _ = _; rw [h]; show (e2 δ g1).bind _ = _; rw [h2]; rfl
theorem x_tup (h : es δ g = .ok ds g1) (hl : ds.length ≤ LINE) : Ex.tup es δ g = .ok (.tup ds) g1 := by show (es δ g).bind _ = _; rw [h]; show (if ds.length ≤ LINE then _ else _) = _; rw [if_pos hl]
theorem x_lst (h : es δ g = .ok ds g1) (hl : ds.length ≤ LINE) : Ex.lst es δ g = .ok (.ref g1.length) (g1 ++ [.lst ds]) := by show (es δ g).bind _ = _; rw [h]; show (if ds.length ≤ LINE then _ else _) = _; rw [if_pos hl]
theorem x_comp {vs : List Nat} (h : it δ g = .ok w g1) (h2 : compLoop w t c e (DV.wipe δ vs) fuel 0 [] g1 = .ok ds g2) : Ex.comp vs it t c e δ g = .ok (.ref g2.length) (g2 ++ [.lst ds]) := by show (it δ g).bind _ = _; rw [h]; show (R.hush (compLoop w t c e (DV.wipe δ vs) fuel 0 [] g1)).bind _ = _; rw [h2]; rfl
theorem x_and (h : e δ g = .ok (.bl k) g1) : Ex.and e e2 δ g = if k then e2 δ g1 else .ok (.bl false) g1 := by show (e δ g).bind _ = _; rw [h]; cases k <;> rfl
theorem x_or (h : e δ g = .ok (.bl k) g1) : Ex.or e e2 δ g = if k then .ok (.bl true) g1 else e2 δ g1 := by show (e δ g).bind _ = _; rw [h]; cases k <;> rfl
theorem x_not (h : e δ g = .ok (.bl k) g1) : Ex.not e δ g = .ok (.bl (!k)) g1 := by show (e δ g).bind _ = _; rw [h]; rfl
theorem t_ex (h : e δ g = .ok (.bl k) g1) : Te.ex e δ g = .ok k g1 := by show (e δ g).bind _ = _; rw [h]; rfl
theorem t_not (h : c δ g = .ok k g1) : Te.not c δ g = .ok (!k) g1 := by show (c δ g).bind _ = _; rw [h]; rfl
theorem t_and (h : c δ g = .ok k g1) : Te.and c c2 δ g = if k then c2 δ g1 else .ok false g1 := by show (c δ g).bind _ = _; rw [h]; rfl
theorem t_or (h : c δ g = .ok k g1) : Te.or c c2 δ g = if k then .ok true g1 else c2 δ g1 := by show (c δ g).bind _ = _; rw [h]; rfl
theorem x_ite (h : c δ g = .ok k g1) : Ex.ite c e e2 δ g = if k then e δ g1 else e2 δ g1 := by show (c δ g).bind _ = _; rw [h]; rfl
end

/-! ### loops -/
theorem comp_steps {it : It} {xs : List D} {tg : Tg} {c : Te} {e : Ex} {δ : Env} (P : Nat → List D → G → Prop) (hit : ∀ i acc g, P i acc g → it.at i g = some xs[i]?)
    (step : ∀ i x acc g, xs[i]? = some x → P i acc g → ∃ δ' g1, tg x δ g = .ok δ' g1 ∧ ((∃ g2, c δ' g1 = .ok false g2 ∧ P (i + 1) acc g2) ∨ ∃ g2 y g3, c δ' g1 = .ok true g2 ∧ e δ' g2 = .ok y g3 ∧ acc.length < LINE ∧ P (i + 1) (acc ++ [y]) g3)) :
    ∀ n i acc g, P i acc g → i ≤ xs.length → xs.length - i < n → ∃ acc' g', compLoop it tg c e δ n i acc g = .ok acc' g' ∧ P xs.length acc' g'
  | 0, i, acc, g, _, _, h => absurd h (Nat.not_lt_zero _)
  | n + 1, i, acc, g, hP, hi, h => by
    rw [compLoop, hit i acc g hP]
    by_cases hl : i < xs.length
    · rw [List.getElem?_eq_getElem hl]
      obtain ⟨δ', g1, h1, h2⟩ := step i xs[i] acc g (List.getElem?_eq_getElem hl) hP
      dsimp only
      rw [h1, R.bind_ok]
      rcases h2 with ⟨g2, h3, h4⟩ | ⟨g2, y, g3, h3, h4, h5, h6⟩
      · rw [h3, R.bind_ok, if_neg (by decide)]
        exact comp_steps P hit step n (i + 1) acc g2 h4 hl (by omega)
      · rw [h3, R.bind_ok, if_pos rfl, h4, R.bind_ok, if_pos h5]
        exact comp_steps P hit step n (i + 1) _ g3 h6 hl (by omega)
    · have : i = xs.length := by omega
      subst this
      rw [List.getElem?_eq_none (Nat.le_refl _)]
      exact ⟨acc, g, rfl, hP⟩
/-- .. each item's value told, the state as it was -/
theorem comp_pure {it : It} {xs : List D} {tg : Tg} {e : Ex} {δ : Env} {g : G} {δ' : D → Env} (f : D → D) (hit : ∀ i, it.at i g = some xs[i]?) (ht : ∀ x ∈ xs, tg x δ g = .ok (δ' x) g) (he : ∀ x ∈ xs, e (δ' x) g = .ok (f x) g) (hl : xs.length ≤ LINE) :
    compLoop it tg Te.tt e δ fuel 0 [] g = .ok (xs.map f) g := by
  obtain ⟨acc', g', h, h1, h2⟩ := comp_steps (c := Te.tt) (e := e) (tg := tg) (δ := δ) (fun i acc g' => acc = (xs.take i).map f ∧ g' = g) (fun i acc g' h => by rw [h.2]; exact hit i) (fun i x acc g' hx h => by
    obtain ⟨rfl, rfl⟩ := h
    have hm := List.mem_of_getElem? hx
    have hi := (List.getElem?_eq_some_iff.mp hx).1
    refine ⟨δ' x, g', ht x hm, .inr ⟨g', f x, g', rfl, he x hm, by simp; omega, ?_, rfl⟩⟩
    rw [List.take_add_one, hx]
    simp) fuel 0 [] g ⟨rfl, rfl⟩ (Nat.zero_le _) (by unfold fuel; unfold LINE at hl; omega)
  rw [h, h1, h2, List.take_length]
/-- .. with a test -/
theorem comp_filter {it : It} {xs : List D} {tg : Tg} {c : Te} {e : Ex} {δ : Env} {g : G} {δ' : D → Env} (p : D → Bool) (f : D → D) (hit : ∀ i, it.at i g = some xs[i]?) (ht : ∀ x ∈ xs, tg x δ g = .ok (δ' x) g) (hc : ∀ x ∈ xs, c (δ' x) g = .ok (p x) g) (he : ∀ x ∈ xs, p x = true → e (δ' x) g = .ok (f x) g) (hl : xs.length ≤ LINE) :
    compLoop it tg c e δ fuel 0 [] g = .ok ((xs.filter p).map f) g := by
  obtain ⟨acc', g', h, h1, h2⟩ := comp_steps (c := c) (e := e) (tg := tg) (δ := δ) (fun i acc g' => acc = ((xs.take i).filter p).map f ∧ g' = g) (fun i acc g' h => by rw [h.2]; exact hit i) (fun i x acc g' hx h => by
    obtain ⟨rfl, rfl⟩ := h
    have hm := List.mem_of_getElem? hx
    have hi := (List.getElem?_eq_some_iff.mp hx).1
    refine ⟨δ' x, g', ht x hm, ?_⟩
    cases hp : p x with
    | false =>
      refine .inl ⟨g', by rw [hc x hm, hp], ?_, rfl⟩
      rw [List.take_add_one, hx]
      simp [hp]
    | true =>
      refine .inr ⟨g', f x, g', by rw [hc x hm, hp], he x hm hp, ?_, ?_, rfl⟩
      · have := List.length_filter_le p (xs.take i)
        simp at this ⊢
        omega
      · rw [List.take_add_one, hx]
        simp [hp]) fuel 0 [] g ⟨rfl, rfl⟩ (Nat.zero_le _) (by unfold fuel; unfold LINE at hl; omega)
  rw [h, h1, h2, List.take_length]
theorem for_steps {it : It} {xs : List D} {tg : Tg} {b : Sm} (P : Nat → Env → G → Prop) (Q : RS → Prop) (hit : ∀ i δ g, P i δ g → it.at i g = some xs[i]?)
    (step : ∀ i x δ g, xs[i]? = some x → P i δ g → ∃ δ1 g1, tg x δ g = .ok δ1 g1 ∧ ((∃ δ' g', (b δ1 g1 = .ok (.nx δ') g' ∨ b δ1 g1 = .ok (.ct δ') g') ∧ P (i + 1) δ' g') ∨ (∃ δ' g', b δ1 g1 = .ok (.bk δ') g' ∧ Q (.ok (.nx δ') g')) ∨ (∃ d g', b δ1 g1 = .ok (.rt d) g' ∧ Q (.ok (.rt d) g'))))
    (fin : ∀ δ g, P xs.length δ g → Q (.ok (.nx δ) g)) : ∀ n i δ g, P i δ g → i ≤ xs.length → xs.length - i < n → Q (forLoop it tg b n i δ g)
  | 0, i, δ, g, _, _, h => absurd h (Nat.not_lt_zero _)
  | n + 1, i, δ, g, hP, hi, h => by
    rw [forLoop, hit i δ g hP]
    by_cases hl : i < xs.length
    · rw [List.getElem?_eq_getElem hl]
      obtain ⟨δ1, g1, h1, h2⟩ := step i xs[i] δ g (List.getElem?_eq_getElem hl) hP
      dsimp only
      rw [h1, R.hush_ok, R.thenS_ok]
      rcases h2 with ⟨δ', g', h3 | h3, h4⟩ | ⟨δ', g', h3, h4⟩ | ⟨d, g', h3, h4⟩
      · rw [h3]; exact for_steps P Q hit step fin n (i + 1) δ' g' h4 hl (by omega)
      · rw [h3]; exact for_steps P Q hit step fin n (i + 1) δ' g' h4 hl (by omega)
      · rw [h3]; exact h4
      · rw [h3]; exact h4
    · have : i = xs.length := by omega
      subst this
      rw [List.getElem?_eq_none (Nat.le_refl _)]
      exact fin δ g hP
theorem while_steps {c : Te} {b : Sm} (P : Nat → Env → G → Prop) (Q : RS → Prop)
    (step : ∀ m δ g, P m δ g → ∃ k g1, c δ g = .ok k g1 ∧ ((k = false ∧ Q (.ok (.nx δ) g1)) ∨ (k = true ∧ ((∃ δ' g' m', (b δ g1 = .ok (.nx δ') g' ∨ b δ g1 = .ok (.ct δ') g') ∧ m' < m ∧ P m' δ' g') ∨ (∃ δ' g', b δ g1 = .ok (.bk δ') g' ∧ Q (.ok (.nx δ') g')) ∨ (∃ d g', b δ g1 = .ok (.rt d) g' ∧ Q (.ok (.rt d) g')) ∨ ∃ e x δ' g', b δ g1 = .exc e x δ' g' ∧ Q (.exc e x δ' g'))))) :
    ∀ n m δ g, P m δ g → m < n → Q (whileLoop c b n δ g)
  | 0, m, δ, g, _, h => absurd h (Nat.not_lt_zero _)
  | n + 1, m, δ, g, hP, h => by
    rw [whileLoop]
    obtain ⟨k, g1, h1, h2⟩ := step m δ g hP
    rw [h1, R.thenS_ok]
    rcases h2 with ⟨rfl, h2⟩ | ⟨rfl, h2⟩
    · exact h2
    · rw [if_pos rfl]
      rcases h2 with ⟨δ', g', m', h3 | h3, h4, h5⟩ | ⟨δ', g', h3, h4⟩ | ⟨d, g', h3, h4⟩ | ⟨e, x, δ', g', h3, h4⟩
      · rw [h3]; exact while_steps P Q step n m' δ' g' h5 (by omega)
      · rw [h3]; exact while_steps P Q step n m' δ' g' h5 (by omega)
      · rw [h3]; exact h4
      · rw [h3]; exact h4
      · rw [h3]; exact h4

/-! ### data as a tree -/
/-- data: no more than n deep, nothing long -/
def dat : Nat → G → D → Bool
  | 0, _, _ => false
  | n + 1, g, d => match d with
    | .non => true
    | .bl _ => true
    | .int _ => true
    | .str s => PyData.canLay0 (.str s) && decide (s.length ≤ 4096)
    | .tup xs => decide (xs.length ≤ 4096) && xs.all (dat n g)
    | .ref k => match g[k]? with
      | some (.lst xs) => decide (xs.length ≤ 4096) && xs.all (dat n g)
      | _ => false
    | .rol ns => decide (ns.length ≤ 4096)
    | _ => false
mutual
def sn : Nat → G → D → PyData
  | 0, _, _ => .none
  | n + 1, g, d => match d with
    | .bl b => .bool b
    | .int i => .int i
    | .str s => .str s
    | .tup xs => .tuple (xs.map (sn n g))
    | .ref k => match g[k]? with
      | some (.lst xs) => .list (xs.map (sn n g))
      | _ => .none
    | .rol ns => .list (ns.map .int)
    | _ => .none
end
theorem mapM_some {α β : Type} {f : α → Option β} {h : α → β} : ∀ {xs : List α}, (∀ x ∈ xs, f x = some (h x)) → xs.mapM f = some (xs.map h)
  | [], _ => rfl
  | x :: xs, H => by
    rw [List.mapM_cons, H x List.mem_cons_self, mapM_some fun y hy => H y (List.mem_cons_of_mem _ hy)]
    rfl
end DV
end
section
set_option Elab.async false
set_option linter.all false
set_option maxRecDepth 100000
namespace DV
open PySem
mutual
/-- a value without changing parts, as data -/
def tr : D → PyData
  | .bl b => .bool b
  | .int i => .int i
  | .str s => .str s
  | .tup xs => .tuple (trs xs)
  | _ => .none
def trs : List D → List PyData
  | [] => []
  | x :: xs => tr x :: trs xs
end
theorem trs_map : ∀ xs : List D, trs xs = xs.map tr
  | [] => rfl
  | x :: xs => by rw [trs, trs_map xs]; rfl
/-- .. not more than n deep, nothing long -/
def tree : Nat → D → Bool
  | 0, _ => false
  | n + 1, d => match d with
    | .non => true
    | .bl _ => true
    | .int _ => true
    | .str s => PyData.canLay0 (.str s) && decide (s.length ≤ 4096)
    | .tup xs => decide (xs.length ≤ 4096) && xs.all (tree n)
    | _ => false
theorem tree_mono : ∀ {n m : Nat} {d : D}, tree n d = true → n ≤ m → tree m d = true
  | 0, _, _, h, _ => by cases h
  | n + 1, m, d, h, hm => by
    obtain ⟨m, rfl⟩ : ∃ k, m = k + 1 := ⟨m - 1, by omega⟩
    cases d with
    | tup xs =>
      simp only [tree, Bool.and_eq_true, List.all_eq_true] at h ⊢
      exact ⟨h.1, fun x hx => tree_mono (h.2 x hx) (by omega)⟩
    | _ => exact h
theorem snap_tree (g : G) : ∀ {n m : Nat} {d : D}, tree n d = true → n ≤ m → snap m g d = some (tr d)
  | 0, _, _, h, _ => by cases h
  | n + 1, m, d, h, hm => by
    obtain ⟨m, rfl⟩ : ∃ k, m = k + 1 := ⟨m - 1, by omega⟩
    cases d with
    | tup xs =>
      simp only [tree, Bool.and_eq_true, List.all_eq_true] at h
      simp only [snap, tr]
      rw [mapM_some (h := tr) fun x hx => snap_tree g (h.2 x hx) (by omega), trs_map]
      rfl
    | str s =>
      simp only [tree, Bool.and_eq_true] at h
      simp only [snap, tr, h.1, if_true]
    | non => rfl
    | bl b => rfl
    | int i => rfl
    | _ => cases h
mutual
theorem tree_low (k : Nat) : ∀ {n : Nat} {d : D}, tree n d = true → d.low k = true
  | 0, _, h => by cases h
  | n + 1, d, h => by
    cases d with
    | tup xs =>
      simp only [tree, Bool.and_eq_true, List.all_eq_true] at h
      rw [D.low]
      exact trees_low k (n := n) h.2
    | ref _ => cases h
    | exc _ _ => cases h
    | _ => rfl
theorem trees_low (k : Nat) : ∀ {n : Nat} {xs : List D}, (∀ x ∈ xs, tree n x = true) → D.lows k xs = true
  | n, [], _ => rfl
  | n, x :: xs, h => by
    rw [D.lows, Bool.and_eq_true]
    exact ⟨tree_low k (h x List.mem_cons_self), trees_low k fun y hy => h y (List.mem_cons_of_mem _ hy)⟩
end
theorem lows_ints (k : Nat) : ∀ ns : List Int, D.lows k (ns.map .int) = true
  | [] => rfl
  | n :: ns => by rw [List.map_cons, D.lows, lows_ints k ns]; rfl

/-! ### comparisons told -/
theorem snap_int (g : G) (i : Int) : snap 64 g (.int i) = some (.int i) := rfl
theorem snap_bl (g : G) (i : Bool) : snap 64 g (.bl i) = some (.bool i) := rfl
theorem eqG_int (g : G) (i j : Int) : eqG g (.int i) (.int j) = some (decide (i = j)) := by
  simp only [eqG, unlikeLen, snap_int]
  show some (PyData.eqv (.int i) (.int j)) = _
  simp only [PyData.eqv]
  rfl
theorem neG_int (g : G) (i j : Int) : neG g (.int i) (.int j) = some (!decide (i = j)) := by
  simp only [neG, snap_int]
  show some (!PyData.eqv (.int i) (.int j)) = _
  simp only [PyData.eqv]
  rfl
theorem neG_bl (g : G) (i j : Bool) : neG g (.bl i) (.bl j) = some (!(i == j)) := by
  simp only [neG, snap_bl]
  show some (!PyData.eqv (.bool i) (.bool j)) = _
  simp only [PyData.eqv]
theorem eqG_bl (g : G) (i j : Bool) : eqG g (.bl i) (.bl j) = some (i == j) := by
  simp only [eqG, unlikeLen, snap_bl]
  show some (PyData.eqv (.bool i) (.bool j)) = _
  simp only [PyData.eqv]
theorem eqG_self {n : Nat} {d : D} (g : G) (h : tree n d = true) (hn : n ≤ 64) (hu : unlikeLen g d d = false) (hl : (tr d).canLay0 = true) : eqG g d d = some true := by
  unfold eqG
  rw [hu, snap_tree g h hn]
  show some (PyData.eqv (tr d) (tr d)) = _
  rw [PySem.SeqAt.eqv_refl _ hl]
theorem neG_str (g : G) {n : Nat} {d : D} {s : Str} (h : tree n d = true) (hn : n ≤ 64) (hs : PyData.canLay0 (.str s) = true) : neG g d (.str s) = some (!decide (d = .str s)) := by
  have e : snap 64 g (.str s) = some (.str s) := by show (if _ then _ else _) = _; rw [if_pos hs]
  unfold neG
  rw [snap_tree g h hn, e]
  dsimp only
  cases d with
  | str t =>
    simp only [tr, PyData.eqv]
    by_cases q : t = s
    · subst q; simp
    · simp [q]
  | tup xs => simp [tr, PyData.eqv]
  | _ => simp [tr, PyData.eqv]
theorem memG_ints (g : G) (i : Int) (ns : List Int) : memG g (.int i) (ns.map .int) = some (ns.contains i) := by
  unfold memG
  have : (ns.map D.int).mapM (snap 64 g) = some ((ns.map D.int).map tr) := mapM_some fun x hx => by
    obtain ⟨n, _, rfl⟩ := List.mem_map.mp hx
    rfl
  rw [this, snap_int]
  dsimp only
  congr 1
  rw [List.map_map, List.any_map]
  induction ns with
  | nil => rfl
  | cons n ns ih =>
    rw [List.any_cons, List.contains_cons]
    rw [ih]
    · simp only [Function.comp, tr, PyData.eqv]
      rw [show (n == i) = (i == n) from by rw [Bool.eq_iff_iff]; simp; exact eq_comm]
    · exact mapM_some fun x hx => by
        obtain ⟨n, _, rfl⟩ := List.mem_map.mp hx
        rfl
theorem allG_bls (g : G) (bs : List Bool) : allG g (bs.map .bl) = some (bs.all id) := by
  have : (bs.map D.bl).mapM (snap 64 g) = some (bs.map PyData.bool) := by
    rw [mapM_some (h := tr) fun x hx => by
      obtain ⟨n, _, rfl⟩ := List.mem_map.mp hx
      rfl]
    rw [List.map_map]; rfl
  have p1 : (bs.map PyData.bool).all okT = true := by
    rw [List.all_eq_true]
    intro x hx
    obtain ⟨n, _, rfl⟩ := List.mem_map.mp hx
    rfl
  have p2 : PyData.plainAll (bs.map PyData.bool) = true := by
    induction bs with
    | nil => rfl
    | cons b bs ih =>
      rw [List.map_cons, PyData.plainAll, ih]
      · rfl
      · exact by
          rw [mapM_some (h := tr) fun x hx => by
            obtain ⟨n, _, rfl⟩ := List.mem_map.mp hx
            rfl]
          rw [List.map_map]; rfl
      · rw [List.all_eq_true]
        intro x hx
        obtain ⟨n, _, rfl⟩ := List.mem_map.mp hx
        rfl
  unfold allG
  rw [this]
  dsimp only
  rw [p1, p2]
  simp only [Bool.and_true, if_true]
  congr 1
  rw [List.all_map]
  rfl
theorem plainAll_ints : ∀ ns : List Int, PyData.plainAll (ns.map PyData.int) = true
  | [] => rfl
  | n :: ns => by rw [List.map_cons, PyData.plainAll, plainAll_ints ns]; rfl
theorem anyG_ints (g : G) (ns : List Int) : anyG g (ns.map .int) = some (ns.any fun i => i != 0) := by
  have : (ns.map D.int).mapM (snap 64 g) = some (ns.map PyData.int) := by
    rw [mapM_some (h := tr) fun x hx => by
      obtain ⟨n, _, rfl⟩ := List.mem_map.mp hx
      rfl]
    rw [List.map_map]; rfl
  have p1 : (ns.map PyData.int).all okT = true := by
    rw [List.all_eq_true]
    intro x hx
    obtain ⟨n, _, rfl⟩ := List.mem_map.mp hx
    rfl
  unfold anyG
  rw [this]
  dsimp only
  rw [p1, plainAll_ints]
  simp only [Bool.and_true, if_true]
  congr 1
  rw [List.any_map]
  rfl

/-! ### the tape -/
def TapeAt (t c : Nat) (g : G) : Prop := t ≠ c ∧ ∃ (cs : List Int) (s : Int), g[t]? = some (.lst [.ref c, .int s]) ∧ g[c]? = some (.lst (cs.map .int)) ∧ cs.length ≤ 63
/-- but for the tape all is as it was, and there may be more -/
structure Ts (t c : Nat) (g g' : G) : Prop where
  tp : TapeAt t c g'
  len : g.length ≤ g'.length
  old : ∀ i, i < g.length → i ≠ t → i ≠ c → g'[i]? = g[i]?
theorem Ts.refl {t c : Nat} {g : G} (h : TapeAt t c g) : Ts t c g g := ⟨h, Nat.le_refl _, fun _ _ _ _ => rfl⟩
theorem Ts.trans {t c : Nat} {g g1 g2 : G} (a : Ts t c g g1) (b : Ts t c g1 g2) : Ts t c g g2 :=
  ⟨b.tp, Nat.le_trans a.len b.len, fun i hi h1 h2 => (b.old i (Nat.lt_of_lt_of_le hi a.len) h1 h2).trans (a.old i hi h1 h2)⟩
theorem TapeAt.lt {t c : Nat} {g : G} (h : TapeAt t c g) : t < g.length ∧ c < g.length := by
  obtain ⟨_, cs, s, h1, h2, _⟩ := h
  exact ⟨(List.getElem?_eq_some_iff.mp h1).1, (List.getElem?_eq_some_iff.mp h2).1⟩
theorem TapeAt.app {t c : Nat} {g : G} (h : TapeAt t c g) (x : G) : TapeAt t c (g ++ x) := by
  obtain ⟨l1, l2⟩ := h.lt
  obtain ⟨hne, cs, s, h1, h2, h3⟩ := h
  exact ⟨hne, cs, s, by rw [List.getElem?_append_left l1]; exact h1, by rw [List.getElem?_append_left l2]; exact h2, h3⟩
theorem Ts.app {t c : Nat} {g g' : G} (h : Ts t c g g') (x : G) : Ts t c g (g' ++ x) :=
  ⟨h.tp.app x, by rw [List.length_append]; have := h.len; omega, fun i hi h1 h2 => by rw [List.getElem?_append_left (Nat.lt_of_lt_of_le hi h.len)]; exact h.old i hi h1 h2⟩
theorem TapeAt.take {t c n : Nat} {g : G} (h : TapeAt t c g) (h1 : t < n) (h2 : c < n) : TapeAt t c (g.take n) := by
  obtain ⟨hne, cs, s, h3, h4, h5⟩ := h
  exact ⟨hne, cs, s, by rw [List.getElem?_take_of_lt h1]; exact h3, by rw [List.getElem?_take_of_lt h2]; exact h4, h5⟩
theorem Ts.cut {t c : Nat} {g g' : G} (h0 : TapeAt t c g) (h : Ts t c g g') : Ts t c g (g'.take g.length) :=
  ⟨h.tp.take h0.lt.1 h0.lt.2, by rw [List.length_take]; have := h.len; omega, fun i hi h1 h2 => by rw [List.getElem?_take_of_lt hi]; exact h.old i hi h1 h2⟩
theorem Ts.oldOk {t c : Nat} {g g' : G} (h0 : TapeAt t c g) (h : Ts t c g g') : oldOk g g' = true := by
  unfold DV.oldOk
  rw [List.all_eq_true]
  intro p hp
  obtain ⟨i, hi⟩ := List.mem_iff_getElem?.mp hp
  rw [List.getElem?_zip_eq_some] at hi
  have hl := (List.getElem?_eq_some_iff.mp hi.1).1
  rw [Bool.or_eq_true, decide_eq_true_eq]
  obtain ⟨hne, cs, s, h1, h2, _⟩ := h.tp
  by_cases e1 : i = t
  · subst e1
    right
    rw [h1] at hi
    rw [← Option.some.inj hi.2]
    have := h0.lt.2
    simp [O.low, D.lows, D.low, this]
  · by_cases e2 : i = c
    · subst e2
      right
      rw [h2] at hi
      rw [← Option.some.inj hi.2]
      exact lows_ints _ cs
    · left
      rw [h.old i hl e1 e2] at hi
      exact Option.some.inj (hi.1.symm.trans hi.2)
/-- a def's body that draws, and returns a value without changing parts -/
theorem body_tape {np n t c : Nat} {b : Sm} {ds : List D} {g g' : G} {d : D} (h0 : TapeAt t c g) (hn : ds.length = np) (h : b (start n ds) g = .ok (.rt d) g') (hT : Ts t c g g') (hl : d.low g.length = true) : ∃ g'', body np n b ds g = .ok d g'' ∧ Ts t c g g'' ∧ g''.length = g.length := by
  refine ⟨g'.take g.length, ?_, hT.cut h0, by rw [List.length_take]; have := hT.len; omega⟩
  unfold body
  rw [if_pos hn, h]
  show R.ok (DV.gc g d g').1 (DV.gc g d g').2 = _
  unfold DV.gc
  rw [if_pos (hT.oldOk h0), if_pos hl]
end DV
end
section
set_option Elab.async false
set_option linter.all false
set_option maxRecDepth 100000
namespace DV
open PySem
local macro_rules | `(tactic| trivial) => `(tactic| simp (config := { decide := true }) only [start, List.map, List.length, List.replicate, List.append, List.cons_append, List.nil_append, Nat.sub_self, Nat.reduceSub, Nat.reduceAdd, List.append_nil, Sm.seq, Sm.ite, Sm.ret, Sm.asg, Sm.skip, Sm.ex, Sm.par, Sm.raise, Tg.name, Te.ex, Te.and, Te.or, Te.not, Te.tt, Ex.loc, Ex.cst, Ex.bin, binop, Ex.and, Ex.or, Ex.not, Ex.isi, Ex.isi2, Ex.cmp, Ex.chain, Ex.ite, Ex.call, exNil, exCons, Ex.bi, bi, Ex.tup, Ex.lst, Ty.is, isTy, liftO, truth, cmpD, Bool.not_true, Bool.not_false, Bool.or_false, Bool.or_true, Bool.false_or, Bool.true_or, Option.bind_some, Option.map_some, List.getElem?_cons_succ, List.getElem?_cons_zero, List.set_cons_succ, List.set_cons_zero, R.bind_ok, R.thenS_ok, R.thenS_exc, R.hush_ok, RS.seq_nx, RS.seq_rt, RS.seq_exc, if_true, if_false, Bool.false_eq_true])
/-! ### is_integer -/
def bG_isint (cl : Cl) : Sm :=
  (.ret (.and (.isi (.loc 0) .int) (.and (.not (.isi (.loc 0) .bool)) (.chain .le .le (.loc 1) (.loc 0) (.loc 2)))))
/-- a whole number from lo to hi -/
def isInt (lo hi : Int) : D → Bool
  | .int i => decide (lo ≤ i) && decide (i ≤ hi)
  | _ => false
/-- its type is told -/
def tyOk (g : G) (d : D) : Bool := (isTy g .int d).isSome
theorem isint_spec {cl : Cl} {g : G} {v : D} {lo hi : Int} (h : tyOk g v = true) : body 3 3 (bG_isint cl) [v, .int lo, .int hi] g = .ok (.bl (isInt lo hi v)) g := by
  refine body_rt0 rfl ?_ rfl
  unfold bG_isint
  cases v with
  | int i =>
    trivial
    by_cases h1 : lo ≤ i
    · simp [h1, isInt]
    · simp [h1, isInt]
  | ref n =>
    simp only [tyOk, isTy] at h
    cases e : g[n]? with
    | none => rw [e] at h; cases h
    | some o => cases o with
      | lst xs => trivial; simp [e, isInt]
      | _ => rw [e] at h; cases h
  | fn n => cases h
  | exc c x => cases h
  | _ => trivial; simp [isInt]
theorem tyOk_tree {n : Nat} {d : D} {g : G} (h : tree n d = true) : tyOk g d = true := by
  cases n with
  | zero => cases h
  | succ n => cases d <;> first | rfl | cases h

/-! ### _law_draw -/
def bG_draw (cl : Cl) : Sm :=
  (.seq (.asg (.name 2) (.idx (.loc 0) (.cst (.int 0))))
  (.seq (.while (.and (.ex (.cmp .gt (.bi .len (exCons (.loc 2) exNil)) (.cst (.int 0)))) (.ex (.cmp .eq (.idx (.loc 2) (.cst (.int 0))) (.cst (.int 0))))) (.ex (.mth .popAt (.loc 2) (exCons (.cst (.int 0)) exNil))))
  (.seq (.ite (.ex (.cmp .gt (.bi .len (exCons (.loc 2) exNil)) (.cst (.int 0)))) (.seq (.asg (.name 3) (.idx (.loc 2) (.cst (.int 0))))
  (.seq (.asg (.sub (.loc 2) (.cst (.int 0))) (.bin .fdiv (.loc 3) (.loc 1)))
  (.ret (.bin .mod (.bi .int (exCons (.loc 3) exNil)) (.loc 1))))) .skip)
  (.seq (.asg (.sub (.loc 0) (.cst (.int 1))) (.bin .mod (.bi .int (exCons (.bin .add (.bin .mul (.idx (.loc 0) (.cst (.int 1))) (.cst (.int 48271))) (.cst (.int 12345))) exNil)) (.cst (.int 2147483647))))
  (.ret (.bin .mod (.bi .int (exCons (.bin .fdiv (.idx (.loc 0) (.cst (.int 1))) (.cst (.int 64))) exNil)) (.loc 1)))))))
theorem Rgc_len {g g' : G} {d : D} (hl : g'.length = g.length) (h : d.low g.length = true) : R.gc g (.ok d g') = .ok d g' := by
  show R.ok (DV.gc g d g').1 (DV.gc g d g').2 = _
  unfold DV.gc
  split
  · simp only [h, if_true]
    rw [← hl, List.take_length]
  · rfl
theorem ix0 (x : D) (xs : List D) : atI (x :: xs) 0 = some x := by
  unfold atI ixN
  simp
theorem ixN0 {α : Type} (x : α) (xs : List α) : ixN (x :: xs).length 0 = some 0 := by
  unfold ixN
  simp
theorem draw_spec {cl : Cl} {t c : Nat} {g : G} {many : Int} (h0 : TapeAt t c g) (h1 : 1 ≤ many) (h2 : many < 2 ^ 60) :
    ∃ (k : Int) (g' : G), body 2 4 (bG_draw cl) [.ref t, .int many] g = .ok (.int k) g' ∧ 0 ≤ k ∧ k < many ∧ Ts t c g g' ∧ g'.length = g.length := by
  obtain ⟨hne, cs, s, e1, e2, hl⟩ := id h0
  obtain ⟨lt, lc⟩ := h0.lt
  have hlog : many.natAbs.log2 < 9000 := by
    have q : many.natAbs.log2 < 60 := by
      rw [Nat.log2_lt (by omega)]; omega
    omega
  have hpos : 0 < many := by omega
  -- what the body comes to
  have key : ∃ (k : Int) (g' : G), bG_draw cl (start 4 [.ref t, .int many]) g = .ok (.rt (.int k)) g' ∧ 0 ≤ k ∧ k < many ∧ Ts t c g g' ∧ g'.length = g.length := by
    -- the loop
    have loop : ∃ cs' : List Int, cs'.length ≤ 63 ∧ Sm.while (.and (.ex (.cmp .gt (.bi .len (exCons (.loc 2) exNil)) (.cst (.int 0)))) (.ex (.cmp .eq (.idx (.loc 2) (.cst (.int 0))) (.cst (.int 0))))) (.ex (.mth .popAt (.loc 2) (exCons (.cst (.int 0)) exNil))) [some (.ref t), some (.int many), some (.ref c), none] g =
        .ok (.nx [some (.ref t), some (.int many), some (.ref c), none]) (g.set c (.lst (cs'.map .int))) := by
      refine while_steps (P := fun m δ g' => ∃ cs' : List Int, cs'.length ≤ 63 ∧ cs'.length = m ∧ δ = [some (.ref t), some (.int many), some (.ref c), none] ∧ g' = g.set c (.lst (cs'.map .int)))
        (Q := fun r => ∃ cs' : List Int, cs'.length ≤ 63 ∧ r = .ok (.nx [some (.ref t), some (.int many), some (.ref c), none]) (g.set c (.lst (cs'.map .int)))) ?_ fuel cs.length _ g ⟨cs, hl, rfl, rfl, ?_⟩ (by unfold fuel; omega)
      · rintro m δ g' ⟨cs', hl', rfl, rfl, rfl⟩
        have ec : (g.set c (.lst (cs'.map D.int)))[c]? = some (.lst (cs'.map .int)) := List.getElem?_set_self lc
        cases cs' with
        | nil =>
          refine ⟨false, g.set c (.lst []), ?_, .inl ⟨rfl, [], by simp, rfl⟩⟩
          trivial
          simp only [List.map_nil] at ec
          simp [ec, lenD]
        | cons x r =>
          have hc : ∀ b, decide (x = 0) = b → Te.and (.ex (.cmp .gt (.bi .len (exCons (.loc 2) exNil)) (.cst (.int 0)))) (.ex (.cmp .eq (.idx (.loc 2) (.cst (.int 0))) (.cst (.int 0)))) [some (.ref t), some (.int many), some (.ref c), none] (g.set c (.lst ((x :: r).map .int))) = .ok b (g.set c (.lst ((x :: r).map .int))) := by
            intro b hb
            trivial
            rw [List.map_cons] at ec
            simp only [lenD, Ex.idx, DV.idx, ec, ix0, oD, List.map_cons, R.bind_ok, eqG_int, hb, Ex.loc, Ex.cst, List.length_cons]
            simp [ec, ix0, oD, eqG_int, hb, truth]
          by_cases hx : x = 0
          · subst hx
            refine ⟨true, g.set c (.lst ((0 :: r).map .int)), hc true rfl, .inr ⟨rfl, .inl ⟨[some (.ref t), some (.int many), some (.ref c), none], g.set c (.lst (r.map .int)), r.length, .inl ?_, by simp, r, by simp at hl'; omega, rfl, rfl, rfl⟩⟩⟩
            trivial
            rw [List.map_cons] at ec
            simp [Ex.mth, isL, Mt.onLst, ec, DV.mth, ixN, Ex.loc, Ex.cst, exCons, exNil, Sm.ex]
          · exact ⟨false, g.set c (.lst ((x :: r).map .int)), hc false (decide_eq_false hx), .inl ⟨rfl, x :: r, hl', rfl⟩⟩
      · have : g.set c (.lst (cs.map .int)) = g := by
          rw [← (List.getElem?_eq_some_iff.mp e2).2]
          simp
        rw [this]
    obtain ⟨cs', hl', hw⟩ := loop
    have ec : (g.set c (.lst (cs'.map D.int)))[c]? = some (.lst (cs'.map .int)) := List.getElem?_set_self lc
    have et : (g.set c (.lst (cs'.map D.int)))[t]? = some (.lst [.ref c, .int s]) := by rw [List.getElem?_set_ne (Ne.symm hne)]; exact e1
    cases cs' with
    | nil =>
      refine ⟨(((s * 48271 + 12345) % 2147483647) / 64) % many, (g.set c (.lst [])).set t (.lst [.ref c, .int ((s * 48271 + 12345) % 2147483647)]), ?_, Int.emod_nonneg _ (by omega), Int.emod_lt_of_pos _ hpos, ⟨⟨hne, [], _, List.getElem?_set_self (by simpa using lt), ?_, by simp⟩, by simp, fun i hi h3 h4 => ?_⟩, by simp⟩
      · unfold bG_draw
        rw [show start 4 [D.ref t, D.int many] = [some (.ref t), some (.int many), none, none] from rfl]
        rw [st_nx (st_set (d := .ref c) (g1 := g) (by simp [Ex.idx, Ex.loc, Ex.cst, DV.idx, e1, ix0, oD]))]
        rw [show [some (D.ref t), some (D.int many), none, none].set 2 (some (D.ref c)) = [some (.ref t), some (.int many), some (.ref c), none] from rfl]
        rw [st_nx hw]
        simp only [List.map_nil] at ec et
        rw [st_nx (st_no (g1 := g.set c (.lst [])) (t_ex (k := false) (by simp [Ex.cmp, Ex.bi, bi, exCons, exNil, Ex.loc, Ex.cst, lenD, ec, cmpD, liftO])))]
        rw [st_nx (st_asg (d := .int ((s * 48271 + 12345) % 2147483647)) (g1 := g.set c (.lst [])) (δ' := [some (.ref t), some (.int many), some (.ref c), none]) (g2 := (g.set c (.lst [])).set t (.lst [.ref c, .int ((s * 48271 + 12345) % 2147483647)]))
          (by simp [Ex.bin, Ex.bi, bi, exCons, exNil, Ex.idx, DV.idx, Ex.loc, Ex.cst, et, binop, atI, ixN, oD]) (by simp [Tg.sub, Ex.loc, Ex.cst, setI, et, ixN]))]
        have et2 : ((g.set c (.lst [])).set t (.lst [.ref c, .int ((s * 48271 + 12345) % 2147483647)]))[t]? = some (.lst [.ref c, .int ((s * 48271 + 12345) % 2147483647)]) := List.getElem?_set_self (by simpa using lt)
        have l64 : Nat.log2 64 < 9000 := by decide +kernel
        refine st_ret ?_
        simp [Ex.bin, Ex.bi, bi, exCons, exNil, Ex.idx, DV.idx, Ex.loc, Ex.cst, et2, l64, binop, atI, ixN, oD, hpos]
      · rw [List.getElem?_set_ne hne]; exact List.getElem?_set_self lc
      · rw [List.getElem?_set_ne (Ne.symm h3), List.getElem?_set_ne (Ne.symm h4)]
    | cons x r =>
      refine ⟨x % many, g.set c (.lst ((x / many :: r).map .int)), ?_, Int.emod_nonneg _ (by omega), Int.emod_lt_of_pos _ hpos, ⟨⟨hne, x / many :: r, s, ?_, List.getElem?_set_self lc, hl'⟩, by simp, fun i hi h3 h4 => ?_⟩, by simp⟩
      · unfold bG_draw
        rw [show start 4 [D.ref t, D.int many] = [some (.ref t), some (.int many), none, none] from rfl]
        rw [st_nx (st_set (d := .ref c) (g1 := g) (by simp [Ex.idx, Ex.loc, Ex.cst, DV.idx, e1, ix0, oD]))]
        rw [show [some (D.ref t), some (D.int many), none, none].set 2 (some (D.ref c)) = [some (.ref t), some (.int many), some (.ref c), none] from rfl]
        rw [st_nx hw]
        rw [List.map_cons] at ec ⊢
        rw [st_rt (d := .int (x % many)) (g1 := g.set c (.lst ((x / many :: r).map .int)))]
        rw [st_if (t_ex (k := true) (g1 := g.set c (.lst (.int x :: r.map .int))) (by simp [Ex.cmp, Ex.bi, bi, exCons, exNil, Ex.loc, Ex.cst, lenD, ec, cmpD, liftO]))]
        rw [st_nx (st_set (d := .int x) (g1 := g.set c (.lst (.int x :: r.map .int))) (by simp [Ex.idx, Ex.loc, Ex.cst, DV.idx, ec, ix0, oD]))]
        rw [st_nx (st_asg (d := .int (x / many)) (g1 := g.set c (.lst (.int x :: r.map .int))) (δ' := [some (.ref t), some (.int many), some (.ref c), some (.int x)]) (g2 := g.set c (.lst ((x / many :: r).map .int)))
          (by simp [Ex.bin, Ex.loc, Ex.cst, binop, hpos, hlog]) (by simp [Tg.sub, Ex.loc, Ex.cst, setI, ec, ixN]))]
        refine st_ret ?_
        simp [Ex.bin, Ex.bi, bi, exCons, exNil, Ex.loc, binop, hpos]
      · rw [List.getElem?_set_ne (Ne.symm hne)]; exact e1
      · rw [List.getElem?_set_ne (Ne.symm h4)]
  obtain ⟨k, g', hk, k1, k2, k3, k4⟩ := key
  refine ⟨k, g', ?_, k1, k2, k3, k4⟩
  unfold body
  rw [if_pos (show [D.ref t, D.int many].length = 2 from rfl), hk]
  exact Rgc_len k4 rfl
end DV
end
section
set_option Elab.async false
set_option linter.all false
set_option maxRecDepth 100000
namespace DV
open PySem
/-! ### _law_tape -/
def bG_tape (cl : Cl) : Sm :=
  (.seq (.asg (.name 1) (.cst (.int 7)))
  (.seq (.for (.of (.loc 0)) (.name 2) (.asg (.name 1) (.bin .mod (.bi .int (exCons (.bin .add (.bin .mul (.loc 1) (.cst (.int 31))) (.loc 2)) exNil)) (.cst (.int 1000003)))))
  (.ret (.lst (exCons (.comp [2] (.of (.loc 0)) (.name 2) .tt (.bi .abs (exCons (.bi .int (exCons (.loc 2) exNil)) exNil))) (exCons (.bin .add (.loc 1) (.cst (.int 1))) exNil))))))
theorem tape_spec {cl : Cl} {ns : List Int} (hl : ns.length ≤ 63) : ∃ g, body 1 3 (bG_tape cl) [.rol ns] [] = .ok (.ref 1) g ∧ TapeAt 1 0 g ∧ g.length = 2 := by
  have loop : ∃ s x, forLoop (.seq (ns.map .int)) (.name 2) (.asg (.name 1) (.bin .mod (.bi .int (exCons (.bin .add (.bin .mul (.loc 1) (.cst (.int 31))) (.loc 2)) exNil)) (.cst (.int 1000003)))) fuel 0 [some (.rol ns), some (.int 7), none] [] = .ok (.nx [some (.rol ns), some (.int s), x]) [] := by
    refine for_steps (xs := ns.map D.int) (P := fun i δ g => g = [] ∧ ∃ s x, δ = [some (.rol ns), some (.int s), x]) (Q := fun r => ∃ s x, r = .ok (.nx [some (.rol ns), some (.int s), x]) []) (fun i δ g _ => rfl) ?_ ?_ fuel 0 _ _ ⟨rfl, 7, none, rfl⟩ (Nat.zero_le _) (by rw [List.length_map]; unfold fuel; omega)
    · rintro i x δ g hx ⟨rfl, s, y, rfl⟩
      obtain ⟨n, hn, rfl⟩ := List.mem_map.mp (List.mem_of_getElem? hx)
      refine ⟨[some (.rol ns), some (.int s), some (.int n)], [], rfl, .inl ⟨[some (.rol ns), some (.int ((s * 31 + n) % 1000003)), some (.int n)], [], .inl (st_set (d := .int ((s * 31 + n) % 1000003)) (g1 := []) ?_), rfl, _, _, rfl⟩⟩
      simp [Ex.bin, Ex.bi, bi, exCons, exNil, Ex.loc, Ex.cst, binop]
    · rintro δ g ⟨rfl, s, x, rfl⟩
      exact ⟨s, x, rfl⟩
  obtain ⟨s, x, hf⟩ := loop
  have hb : bG_tape cl (start 3 [.rol ns]) [] = .ok (.rt (.ref 1)) [.lst ((ns.map fun n : Int => if n < 0 then -n else n).map .int), .lst [.ref 0, .int (s + 1)]] := by
    unfold bG_tape
    rw [show start 3 [D.rol ns] = [some (.rol ns), none, none] from rfl]
    rw [st_nx (st_set (d := .int 7) (g1 := []) rfl)]
    rw [show [some (D.rol ns), none, none].set 1 (some (D.int 7)) = [some (.rol ns), some (.int 7), none] from rfl]
    rw [st_nx (δ' := [some (.rol ns), some (.int s), x]) (g1 := []) (by rw [st_for (w := .seq (ns.map .int)) (g1 := []) rfl]; exact hf)]
    refine st_ret ?_
    have hc := comp_pure (it := .seq (ns.map .int)) (xs := ns.map .int) (tg := Tg.name 2) (e := .bi .abs (exCons (.bi .int (exCons (.loc 2) exNil)) exNil)) (δ := [some (.rol ns), some (.int s), none]) (g := []) (δ' := fun y => [some (.rol ns), some (.int s), some y])
      (fun d => match d with | .int n => .int (if n < 0 then -n else n) | _ => .non) (fun _ => rfl) (fun y _ => rfl) (fun y hy => by
        obtain ⟨n, hn, rfl⟩ := List.mem_map.mp hy
        simp [Ex.bi, bi, exCons, exNil, Ex.loc]) (by rw [List.length_map]; unfold LINE; omega)
    rw [List.map_map] at hc
    rw [x_lst (ds := [.ref 0, .int (s + 1)]) (g1 := [.lst ((ns.map fun n : Int => if n < 0 then -n else n).map .int)]) ?_ (by show 2 ≤ LINE; decide)]
    · rfl
    · refine xs_cons (g1 := [.lst ((ns.map fun n : Int => if n < 0 then -n else n).map .int)]) ?_ ?_
      · rw [x_comp (w := .seq (ns.map .int)) (g1 := []) (g2 := []) rfl hc]
        rw [List.map_map]
        rfl
      · simp [Ex.bin, exCons, exNil, Ex.loc, Ex.cst, binop]
  refine ⟨[.lst ((ns.map fun n : Int => if n < 0 then -n else n).map .int), .lst [.ref 0, .int (s + 1)]], ?_, ⟨by decide, (ns.map fun n : Int => if n < 0 then -n else n), s + 1, rfl, rfl, by rw [List.length_map]; exact hl⟩, rfl⟩
  unfold body
  rw [if_pos (show [D.rol ns].length = 1 from rfl), hb]
  rfl

/-! ### _law_pick -/
/-- the def i draws from the tape at t -/
def DrawOk (cl : Cl) (i t c : Nat) : Prop := ∀ (g : G) (many : Int), TapeAt t c g → 1 ≤ many → many < 2 ^ 60 → ∃ (k : Int) (g' : G), cl i [.ref t, .int many] g = .ok (.int k) g' ∧ 0 ≤ k ∧ k < many ∧ Ts t c g g' ∧ g'.length = g.length
def bG_pick (cl : Cl) (i : Nat) : Sm := (.ret (.idx (.loc 1) (.call cl i (exCons (.loc 0) (exCons (.bi .len (exCons (.loc 1) exNil)) exNil)))))
theorem pick_spec {cl : Cl} {i t c r : Nat} {g : G} {xs : List D} (hd : DrawOk cl i t c) (h0 : TapeAt t c g) (hr : g[r]? = some (.lst xs)) (h1 : r ≠ t) (h2 : r ≠ c) (hx : xs ≠ []) (hl : xs.length ≤ 4096) (hlow : ∀ x ∈ xs, x.low g.length = true) :
    ∃ (x : D) (g' : G), body 2 2 (bG_pick cl i) [.ref t, .ref r] g = .ok x g' ∧ x ∈ xs ∧ Ts t c g g' ∧ g'.length = g.length := by
  have hlen : 0 < xs.length := List.length_pos_iff.mpr hx
  obtain ⟨k, g', hk, k0, k1, k2, k3⟩ := hd g xs.length h0 (by omega) (by omega)
  have hr' : g'[r]? = some (.lst xs) := by rw [k2.old r (List.getElem?_eq_some_iff.mp hr).1 h1 h2]; exact hr
  obtain ⟨j, rfl⟩ : ∃ j : Nat, k = j := ⟨k.toNat, by omega⟩
  have hj : j < xs.length := by omega
  refine ⟨xs[j], g', ?_, List.getElem_mem hj, k2, k3⟩
  have e : bG_pick cl i (start 2 [.ref t, .ref r]) g = .ok (.rt xs[j]) g' := by
    unfold bG_pick
    refine st_ret ?_
    rw [x_idx (d := .ref r) (g1 := g) (d2 := .int j) (g2 := g') rfl]
    · have : atI xs (j : Int) = some xs[j] := by
        unfold atI ixN
        rw [if_pos (by omega), if_pos (by omega)]
        simp [hj]
      simp [DV.idx, hr', this, oD]
    · rw [x_call (ds := [.ref t, .int xs.length]) (g1 := g)]
      · exact hk
      · refine xs_cons (g1 := g) rfl (xs_cons (g1 := g) ?_ rfl)
        rw [x_bi (ds := [.ref r]) (g1 := g) rfl]
        simp [bi, lenD, hr]
  unfold body
  rw [if_pos (show [D.ref t, D.ref r].length = 2 from rfl), e]
  exact Rgc_len k3 (hlow _ (List.getElem_mem hj))
end DV
end
section
set_option Elab.async false
set_option linter.all false
set_option maxRecDepth 100000
namespace DV
open PySem
/-! ### _law_same, of a thing with itself -/
def bG_same (cl : Cl) (i : Nat) : Sm :=
  (.seq (.ite (.ex (.cmp .isN (.loc 1) (.cst .non))) (.ret (.cmp .isN (.loc 0) (.cst .non))) .skip)
  (.seq (.ite (.ex (.isi (.loc 1) .bool)) (.ret (.and (.isi (.loc 0) .bool) (.cmp .eq (.loc 0) (.loc 1)))) .skip)
  (.seq (.ite (.ex (.isi (.loc 1) .int)) (.ret (.and (.isi (.loc 0) .int) (.and (.not (.isi (.loc 0) .bool)) (.cmp .eq (.loc 0) (.loc 1))))) .skip)
  (.seq (.ite (.ex (.isi (.loc 1) .str)) (.ret (.and (.isi (.loc 0) .str) (.cmp .eq (.loc 0) (.loc 1)))) .skip)
  (.seq (.ite (.or (.ex (.cmp .ne (.isi (.loc 1) .tuple) (.isi (.loc 0) .tuple))) (.ex (.cmp .ne (.isi (.loc 1) .list) (.isi (.loc 0) .list)))) (.ret (.cst (.bl false))) .skip)
  (.seq (.ite (.or (.not (.ex (.isi2 (.loc 0) .tuple .list))) (.ex (.cmp .ne (.bi .len (exCons (.loc 0) exNil)) (.bi .len (exCons (.loc 1) exNil))))) (.ret (.cst (.bl false))) .skip)
  (.ret (.cmp .notIn (.cst (.bl false)) (.comp [2] (.range1 (.bi .len (exCons (.loc 1) exNil))) (.name 2) .tt (.call cl i (exCons (.idx (.loc 0) (.loc 2)) (exCons (.idx (.loc 1) (.loc 2)) exNil))))))))))))
theorem memG_bls (g : G) (b : Bool) (bs : List Bool) : memG g (.bl b) (bs.map .bl) = some (bs.contains b) := by
  unfold memG
  have : (bs.map D.bl).mapM (snap 64 g) = some ((bs.map D.bl).map tr) := mapM_some fun x hx => by
    obtain ⟨n, _, rfl⟩ := List.mem_map.mp hx
    rfl
  rw [this, snap_bl]
  dsimp only
  congr 1
  rw [List.map_map, List.any_map]
  clear this
  induction bs with
  | nil => rfl
  | cons n ns ih =>
    rw [List.any_cons, List.contains_cons, ih]
    simp only [Function.comp, tr, PyData.eqv]
    rw [show (n == b) = (b == n) from by rw [Bool.eq_iff_iff]; simp; exact eq_comm]
theorem range1_it {e : Ex} {δ : Env} {g g' : G} {n : Nat} (h : e δ g = .ok (.int n) g') (hn : n ≤ 4096) : Ie.range1 e δ g = .ok (.seq (rangeD 0 n)) g' := by
  unfold Ie.range1
  rw [h, R.bind_ok]
  have : -(2 ^ 60) ≤ (n : Int) ∧ (n : Int) < 2 ^ 60 := by omega
  simp only [this, and_self, if_true]
theorem rangeD_len (n : Nat) : (rangeD 0 (n : Int)).length = n := by
  unfold rangeD
  rw [List.length_map, List.length_range]
  omega
theorem mem_rangeD {n : Nat} {x : D} (h : x ∈ rangeD 0 (n : Int)) : ∃ k : Nat, x = .int k ∧ k < n := by
  unfold rangeD at h
  obtain ⟨k, hk, rfl⟩ := List.mem_map.mp h
  rw [List.mem_range] at hk
  exact ⟨k, by simp, by omega⟩
theorem atI_nat {α : Type} {xs : List α} {k : Nat} (h : k < xs.length) : atI xs (k : Int) = some xs[k] := by
  unfold atI ixN
  rw [if_pos (by omega), if_pos (by omega)]
  simp [h]
theorem same_spec {C : Nat → Cl} {i : Nat} (hC : ∀ m ds g, C (m + 1) i ds g = body 2 3 (bG_same (C m) i) ds g) : ∀ (n : Nat) (d : D), tree n d = true → ∀ m, n ≤ m → ∀ g : G, C m i [d, d] g = .ok (.bl true) g
  | 0, _, h => by cases h
  | n + 1, d, h => by
    intro m hm g
    obtain ⟨m, rfl⟩ : ∃ k, m = k + 1 := ⟨m - 1, by omega⟩
    rw [hC]
    cases d with
    | non =>
      refine body_rt0 rfl ?_ rfl
      simp [bG_same, start, Sm.seq, Sm.ite, Te.ex, Ex.cmp, Ex.loc, Ex.cst, cmpD, liftO, truth, Sm.ret]
    | bl b =>
      refine body_rt0 rfl ?_ rfl
      simp [bG_same, start, Sm.seq, Sm.ite, Te.ex, Ex.cmp, Ex.loc, Ex.cst, cmpD, liftO, truth, Sm.ret, Ex.isi, isTy, Ty.is, Sm.skip, Ex.and, eqG_bl]
    | int k =>
      refine body_rt0 rfl ?_ rfl
      simp [bG_same, start, Sm.seq, Sm.ite, Te.ex, Ex.cmp, Ex.loc, Ex.cst, cmpD, liftO, truth, Sm.ret, Ex.isi, isTy, Ty.is, Sm.skip, Ex.and, Ex.not, eqG_int]
    | str s =>
      have he := eqG_self (n := 1) (d := .str s) g (by simp only [tree] at h ⊢; exact h) (by decide) rfl (by simp only [tree, Bool.and_eq_true] at h; exact h.1)
      refine body_rt0 rfl ?_ rfl
      simp [bG_same, start, Sm.seq, Sm.ite, Te.ex, Ex.cmp, Ex.loc, Ex.cst, cmpD, liftO, truth, Sm.ret, Ex.isi, isTy, Ty.is, Sm.skip, Ex.and, Ex.not, he]
    | tup xs =>
      simp only [tree, Bool.and_eq_true, decide_eq_true_eq, List.all_eq_true] at h
      refine body_rt (t := [.lst ((xs.map fun _ => true).map .bl)]) rfl ?_ rfl
      unfold bG_same
      rw [show start 3 [D.tup xs, D.tup xs] = [some (.tup xs), some (.tup xs), none] from rfl]
      rw [st_nx (st_no (g1 := g) (t_ex (k := false) (by simp [Ex.cmp, Ex.loc, Ex.cst, cmpD, liftO])))]
      rw [st_nx (st_no (g1 := g) (t_ex (k := false) (by simp [Ex.isi, Ex.loc, isTy, Ty.is, liftO])))]
      rw [st_nx (st_no (g1 := g) (t_ex (k := false) (by simp [Ex.isi, Ex.loc, isTy, Ty.is, liftO])))]
      rw [st_nx (st_no (g1 := g) (t_ex (k := false) (by simp [Ex.isi, Ex.loc, isTy, Ty.is, liftO])))]
      rw [st_nx (st_no (g1 := g) (by simp [Te.or, Te.ex, Ex.cmp, Ex.isi, Ex.loc, isTy, Ty.is, liftO, cmpD, neG_bl, truth]))]
      rw [st_nx (st_no (g1 := g) (by simp [Te.or, Te.ex, Te.not, Ex.cmp, Ex.isi2, Ex.loc, isTy, Ty.is, liftO, cmpD, neG_int, truth, Ex.bi, bi, exCons, exNil, lenD]))]
      refine st_ret ?_
      have hc := comp_pure (it := .seq (rangeD 0 (xs.length : Int))) (xs := rangeD 0 (xs.length : Int)) (tg := Tg.name 2) (e := .call (C m) i (exCons (.idx (.loc 0) (.loc 2)) (exCons (.idx (.loc 1) (.loc 2)) exNil))) (δ := [some (.tup xs), some (.tup xs), none]) (g := g) (δ' := fun y => [some (.tup xs), some (.tup xs), some y])
        (fun _ => .bl true) (fun _ => rfl) (fun y _ => rfl) (fun y hy => by
          obtain ⟨k, rfl, hk⟩ := mem_rangeD hy
          rw [x_call (ds := [xs[k], xs[k]]) (g1 := g)]
          · exact same_spec hC n xs[k] (h.2 _ (List.getElem_mem hk)) m (by omega) g
          · simp [exCons, exNil, Ex.idx, DV.idx, Ex.loc, atI_nat hk, oD]) (by rw [rangeD_len]; unfold LINE; omega)
      have e1 : (rangeD 0 (xs.length : Int)).map (fun _ => D.bl true) = (xs.map fun _ => true).map .bl := by
        rw [List.map_map]
        refine List.ext_getElem? fun j => ?_
        simp [rangeD_len, List.getElem?_map, rangeD]
        by_cases hj : j < xs.length <;> simp [hj]
      rw [e1] at hc
      rw [x_cmp (d := .bl false) (g1 := g) (d2 := .ref g.length) (g2 := g ++ [.lst ((xs.map fun _ => true).map .bl)]) rfl (x_comp (w := .seq (rangeD 0 (xs.length : Int))) (g1 := g) (range1_it (g' := g) (n := xs.length) (by simp [Ex.bi, bi, exCons, exNil, lenD, Ex.loc]) h.1) hc)]
      have : (xs.map fun _ => true).contains false = false := by simp
      simp only [cmpD]
      rw [List.getElem?_append_right (Nat.le_refl _), Nat.sub_self]
      simp only [List.getElem?_cons_zero, memG_bls, this]
      rfl
    | _ => cases h
end DV
end
section
set_option Elab.async false
set_option linter.all false
set_option maxRecDepth 100000
namespace DV
open PySem
/-! ### draws in a comprehension -/
theorem comp_ts {t c : Nat} {it : It} {xs : List D} {tg : Tg} {e : Ex} {δ : Env} {δ' : D → Env} (Pd : D → Prop) (hl : xs.length ≤ 4096) (hit : ∀ i g, it.at i g = some xs[i]?) (ht : ∀ x ∈ xs, ∀ g, tg x δ g = .ok (δ' x) g)
    (he : ∀ x ∈ xs, ∀ g, TapeAt t c g → ∃ y g', e (δ' x) g = .ok y g' ∧ Pd y ∧ Ts t c g g') {g : G} (h0 : TapeAt t c g) :
    ∃ ys g', compLoop it tg Te.tt e δ fuel 0 [] g = .ok ys g' ∧ ys.length = xs.length ∧ (∀ y ∈ ys, Pd y) ∧ Ts t c g g' := by
  obtain ⟨ys, g', h, h1, h2, h3⟩ := comp_steps (it := it) (c := Te.tt) (e := e) (tg := tg) (δ := δ) (xs := xs) (fun i acc g' => acc.length = i ∧ (∀ y ∈ acc, Pd y) ∧ Ts t c g g') (fun i acc g' _ => hit i g') (fun i x acc g1 hx ⟨h1, h2, h3⟩ => by
    have hm := List.mem_of_getElem? hx
    have hi := (List.getElem?_eq_some_iff.mp hx).1
    obtain ⟨y, g2, e1, e2, e3⟩ := he x hm g1 h3.tp
    refine ⟨δ' x, g1, ht x hm g1, .inr ⟨g1, y, g2, rfl, e1, by unfold LINE; omega, by simp [h1], fun z hz => ?_, h3.trans e3⟩⟩
    rcases List.mem_append.mp hz with hz | hz
    · exact h2 z hz
    · rw [List.mem_singleton] at hz; subst hz; exact e2) fuel 0 [] g ⟨rfl, by simp, .refl h0⟩ (Nat.zero_le _) (by unfold fuel; omega)
  exact ⟨ys, g', h, h1, h2, h3⟩
/-- .. that only keeps some of the walked -/
theorem comp_fts {t c : Nat} {it : It} {xs : List D} {tg : Tg} {cc : Te} {e : Ex} {δ : Env} {δ' : D → Env} (hl : xs.length ≤ 4096) (hit : ∀ i g, it.at i g = some xs[i]?) (ht : ∀ x ∈ xs, ∀ g, tg x δ g = .ok (δ' x) g)
    (hc : ∀ x ∈ xs, ∀ g, TapeAt t c g → ∃ k g', cc (δ' x) g = .ok k g' ∧ Ts t c g g') (he : ∀ x ∈ xs, ∀ g, e (δ' x) g = .ok x g) {g : G} (h0 : TapeAt t c g) :
    ∃ ys g', compLoop it tg cc e δ fuel 0 [] g = .ok ys g' ∧ ys.Sublist xs ∧ Ts t c g g' := by
  obtain ⟨ys, g', h, h1, h2⟩ := comp_steps (it := it) (c := cc) (e := e) (tg := tg) (δ := δ) (xs := xs) (fun i acc g' => acc.Sublist (xs.take i) ∧ Ts t c g g') (fun i acc g' _ => hit i g') (fun i x acc g1 hx ⟨h2, h3⟩ => by
    have hm := List.mem_of_getElem? hx
    have hi := (List.getElem?_eq_some_iff.mp hx).1
    obtain ⟨k, g2, e1, e3⟩ := hc x hm g1 h3.tp
    have ht2 : xs.take (i + 1) = xs.take i ++ [x] := by rw [List.take_add_one, hx]; rfl
    refine ⟨δ' x, g1, ht x hm g1, ?_⟩
    cases k with
    | false => exact .inl ⟨g2, e1, by rw [ht2]; exact h2.trans (List.sublist_append_left _ _), h3.trans e3⟩
    | true =>
      refine .inr ⟨g2, x, g2, e1, he x hm g2, ?_, by rw [ht2]; exact h2.append (List.Sublist.refl _), h3.trans e3⟩
      have := h2.length_le
      rw [List.length_take] at this
      unfold LINE; omega) fuel 0 [] g ⟨List.Sublist.refl _, .refl h0⟩ (Nat.zero_le _) (by unfold fuel; omega)
  rw [List.take_length] at h1
  exact ⟨ys, g', h, h1, h2⟩

/-! ### _law_signs, _law_many, _law_word -/
def PickOk (cl : Cl) (i t c : Nat) : Prop := ∀ (g : G) (r : Nat) (xs : List D), TapeAt t c g → g[r]? = some (.lst xs) → r ≠ t → r ≠ c → xs ≠ [] → xs.length ≤ 4096 → (∀ x ∈ xs, x.low g.length = true) →
  ∃ (x : D) (g' : G), cl i [.ref t, .ref r] g = .ok x g' ∧ x ∈ xs ∧ Ts t c g g' ∧ g'.length = g.length
def sgT (a b c : Nat) : D := .tup [.str (Str.ofString "signs"), .int a, .int b, .int c]
def sgAll : List D := [sgT 1 1 1, sgT 1 1 0, sgT 2 1 1, sgT 1 2 1, sgT 2 2 0, sgT 0 1 1, sgT 1 0 1]
/-- the drawn signs -/
def SgOk (d : D) : Prop := ∃ a b c : Nat, d = sgT a b c ∧ a ≤ 2 ∧ b ≤ 2 ∧ c ≤ 1 ∧ 1 ≤ a + b + c
theorem sgAll_ok : ∀ d ∈ sgAll, SgOk d := by
  intro d hd
  simp only [sgAll, List.mem_cons, List.not_mem_nil, or_false] at hd
  rcases hd with h | h | h | h | h | h | h <;> subst h <;> exact ⟨_, _, _, rfl, by decide, by decide, by decide, by decide⟩
def bG_signs (cl : Cl) (i : Nat) : Sm :=
  (.ret (.call cl i (exCons (.loc 0) (exCons (.lst (exCons (.tup (exCons (.cst (.str (Str.ofString "signs"))) (exCons (.cst (.int 1)) (exCons (.cst (.int 1)) (exCons (.cst (.int 1)) exNil))))) (exCons (.tup (exCons (.cst (.str (Str.ofString "signs"))) (exCons (.cst (.int 1)) (exCons (.cst (.int 1)) (exCons (.cst (.int 0)) exNil))))) (exCons (.tup (exCons (.cst (.str (Str.ofString "signs"))) (exCons (.cst (.int 2)) (exCons (.cst (.int 1)) (exCons (.cst (.int 1)) exNil))))) (exCons (.tup (exCons (.cst (.str (Str.ofString "signs"))) (exCons (.cst (.int 1)) (exCons (.cst (.int 2)) (exCons (.cst (.int 1)) exNil))))) (exCons (.tup (exCons (.cst (.str (Str.ofString "signs"))) (exCons (.cst (.int 2)) (exCons (.cst (.int 2)) (exCons (.cst (.int 0)) exNil))))) (exCons (.tup (exCons (.cst (.str (Str.ofString "signs"))) (exCons (.cst (.int 0)) (exCons (.cst (.int 1)) (exCons (.cst (.int 1)) exNil))))) (exCons (.tup (exCons (.cst (.str (Str.ofString "signs"))) (exCons (.cst (.int 1)) (exCons (.cst (.int 0)) (exCons (.cst (.int 1)) exNil))))) exNil)))))))) exNil))))
theorem signs_spec {cl : Cl} {i t c : Nat} {g : G} (hp : PickOk cl i t c) (h0 : TapeAt t c g) : ∃ (s : D) (g' : G), body 1 1 (bG_signs cl i) [.ref t] g = .ok s g' ∧ SgOk s ∧ Ts t c g g' ∧ g'.length = g.length := by
  have lt := h0.lt
  have hlow : ∀ x ∈ sgAll, ∀ k, x.low k = true := by
    intro x hx k
    obtain ⟨a, b, c, rfl, _⟩ := sgAll_ok x hx
    rfl
  obtain ⟨s, g2, h1, h2, h3, h4⟩ := hp (g ++ [.lst sgAll]) g.length sgAll (h0.app _) (by simp) (by omega) (by omega) (by decide) (by decide) (fun x hx => hlow x hx _)
  have e : bG_signs cl i (start 1 [.ref t]) g = .ok (.rt s) g2 := by
    unfold bG_signs
    refine st_ret ?_
    rw [x_call (ds := [.ref t, .ref g.length]) (g1 := g ++ [.lst sgAll])]
    · exact h1
    · refine xs_cons (g1 := g) rfl (xs_cons (g1 := g ++ [.lst sgAll]) ?_ rfl)
      exact x_lst (ds := sgAll) (g1 := g) rfl (by decide)
  obtain ⟨g3, h5, h6, h7⟩ := body_tape (np := 1) (n := 1) (ds := [.ref t]) h0 rfl e ((Ts.app (.refl h0) _).trans h3) (hlow s h2 _)
  exact ⟨s, g3, h5, sgAll_ok s h2, h6, h7⟩
def bG_many (cl : Cl) : Sm := (.ret (.bin .add (.bin .add (.idx (.loc 0) (.cst (.int 1))) (.idx (.loc 0) (.cst (.int 2)))) (.idx (.loc 0) (.cst (.int 3)))))
theorem many_spec {cl : Cl} {g : G} {a b c : Nat} : body 1 1 (bG_many cl) [sgT a b c] g = .ok (.int ((a + b + c : Nat) : Int)) g := by
  refine body_rt0 rfl ?_ rfl
  simp [bG_many, start, Sm.ret, Ex.bin, Ex.idx, Ex.loc, Ex.cst, sgT, DV.idx, atI, ixN, oD, binop]
def bG_word (cl : Cl) (dr mn : Nat) : Sm :=
  (.ret (.bi .tuple (exCons (.comp [3] (.range1 (.call cl dr (exCons (.loc 0) (exCons (.bin .add (.loc 2) (.cst (.int 1))) exNil)))) (.name 3) .tt (.call cl dr (exCons (.loc 0) (exCons (.call cl mn (exCons (.loc 1) exNil)) exNil)))) exNil)))
/-- whole numbers from 0, below n -/
def IntsBelow (n : Int) (ns : List Int) : Prop := ∀ x ∈ ns, 0 ≤ x ∧ x < n
theorem ints_of {n : Int} : ∀ {ys : List D}, (∀ y ∈ ys, ∃ k, y = .int k ∧ 0 ≤ k ∧ k < n) → ∃ ns : List Int, ys = ns.map .int ∧ IntsBelow n ns
  | [], _ => ⟨[], rfl, by simp [IntsBelow]⟩
  | y :: ys, h => by
    obtain ⟨k, rfl, h1, h2⟩ := h y List.mem_cons_self
    obtain ⟨ns, rfl, h3⟩ := ints_of (ys := ys) fun z hz => h z (List.mem_cons_of_mem _ hz)
    exact ⟨k :: ns, rfl, fun x hx => by rcases List.mem_cons.mp hx with rfl | hx; exact ⟨h1, h2⟩; exact h3 x hx⟩
theorem tree_ints {ns : List Int} (h : ns.length ≤ 4096) : tree 2 (.tup (ns.map .int)) = true := by
  simp only [tree, Bool.and_eq_true, decide_eq_true_eq, List.all_eq_true]
  exact ⟨by rw [List.length_map]; exact h, fun x hx => by obtain ⟨n, _, rfl⟩ := List.mem_map.mp hx; rfl⟩
/-- tuple([draw(many) for k in range(..)]): the comprehension, then the tuple of it -/
theorem x_tuple_of {e : Ex} {δ : Env} {g g1 : G} {ys : List D} (h : e δ g = .ok (.ref g1.length) (g1 ++ [.lst ys])) : Ex.bi .tuple (exCons e exNil) δ g = .ok (.tup ys) (g1 ++ [.lst ys]) := by
  rw [x_bi (ds := [.ref g1.length]) (g1 := g1 ++ [.lst ys]) (xs_cons h rfl)]
  simp [bi, itemsK]
theorem word_spec {cl : Cl} {dr mn t c : Nat} {g : G} {a b cc most : Nat} (hd : DrawOk cl dr t c) (hm : ∀ g, cl mn [sgT a b cc] g = .ok (.int ((a + b + cc : Nat) : Int)) g) (h0 : TapeAt t c g) (h1 : 1 ≤ a + b + cc) (h2 : a + b + cc ≤ 100) (h3 : most ≤ 400) :
    ∃ (ns : List Int) (g' : G), body 3 4 (bG_word cl dr mn) [.ref t, sgT a b cc, .int most] g = .ok (.tup (ns.map .int)) g' ∧ IntsBelow ((a + b + cc : Nat) : Int) ns ∧ ns.length ≤ most ∧ Ts t c g g' ∧ g'.length = g.length := by
  obtain ⟨k, g1, k1, k2, k3, k4, k5⟩ := hd g ((most : Int) + 1) h0 (by omega) (by omega)
  obtain ⟨j, rfl⟩ : ∃ j : Nat, k = j := ⟨k.toNat, by omega⟩
  obtain ⟨ys, g2, c1, c2, c3, c4⟩ := comp_ts (t := t) (c := c) (it := .seq (rangeD 0 (j : Int))) (xs := rangeD 0 (j : Int)) (tg := Tg.name 3) (e := .call cl dr (exCons (.loc 0) (exCons (.call cl mn (exCons (.loc 1) exNil)) exNil))) (δ := [some (.ref t), some (sgT a b cc), some (.int most), none])
    (δ' := fun y => [some (.ref t), some (sgT a b cc), some (.int most), some y]) (fun y => ∃ k, y = .int k ∧ 0 ≤ k ∧ k < ((a + b + cc : Nat) : Int)) (by rw [rangeD_len]; omega) (fun _ _ => rfl) (fun _ _ _ => rfl) (fun x _ g hg => by
      obtain ⟨k, g', e1, e2, e3, e4, _⟩ := hd g ((a + b + cc : Nat) : Int) hg (by omega) (by omega)
      refine ⟨.int k, g', ?_, ⟨k, rfl, e2, e3⟩, e4⟩
      rw [x_call (ds := [.ref t, .int ((a + b + cc : Nat) : Int)]) (g1 := g)]
      · exact e1
      · refine xs_cons (g1 := g) rfl (xs_cons (g1 := g) ?_ rfl)
        rw [x_call (ds := [sgT a b cc]) (g1 := g) rfl]
        exact hm g) k4.tp
  obtain ⟨ns, rfl, hn⟩ := ints_of c3
  rw [List.length_map, rangeD_len] at c2
  have e : bG_word cl dr mn (start 4 [.ref t, sgT a b cc, .int most]) g = .ok (.rt (.tup (ns.map .int))) (g2 ++ [.lst (ns.map .int)]) := by
    unfold bG_word
    refine st_ret (x_tuple_of (x_comp (w := .seq (rangeD 0 (j : Int))) (g1 := g1) (range1_it (g' := g1) ?_ (by omega)) c1))
    rw [x_call (ds := [.ref t, .int ((most : Int) + 1)]) (g1 := g)]
    · exact k1
    · refine xs_cons (g1 := g) rfl (xs_cons (g1 := g) ?_ rfl)
      rw [x_bin (d := .int most) (g1 := g) (d2 := .int 1) (g2 := g) rfl rfl]
      rfl
  obtain ⟨g3, h5, h6, h7⟩ := body_tape (np := 3) (n := 4) (ds := [.ref t, sgT a b cc, .int most]) h0 rfl e ((k4.trans c4).app _) (tree_low _ (tree_ints (by omega)))
  exact ⟨ns, g3, h5, hn, by omega, h6, h7⟩
end DV
end
section
set_option Elab.async false
set_option linter.all false
set_option maxRecDepth 100000
namespace DV
open PySem
/-! ### all(f(x) for x in a tuple), and the like -/
theorem t_or_f {c c2 : Te} {δ : Env} {g g1 : G} (h : c δ g = .ok false g1) : Te.or c c2 δ g = c2 δ g1 := by rw [t_or h]; rfl
theorem t_or_t {c c2 : Te} {δ : Env} {g g1 : G} (h : c δ g = .ok true g1) : Te.or c c2 δ g = .ok true g1 := by rw [t_or h]; rfl
theorem x_and_t {e e2 : Ex} {δ : Env} {g g1 : G} (h : e δ g = .ok (.bl true) g1) : Ex.and e e2 δ g = e2 δ g1 := by rw [x_and h]; rfl
theorem x_and_f {e e2 : Ex} {δ : Env} {g g1 : G} (h : e δ g = .ok (.bl false) g1) : Ex.and e e2 δ g = .ok (.bl false) g1 := by rw [x_and h]; rfl
theorem all_of {e : Ex} {δ : Env} {g g1 : G} {bs : List Bool} (h : e δ g = .ok (.ref g1.length) (g1 ++ [.lst (bs.map .bl)])) : Ex.bi .all (exCons e exNil) δ g = .ok (.bl (bs.all id)) (g1 ++ [.lst (bs.map .bl)]) := by
  rw [x_bi (ds := [.ref g1.length]) (g1 := g1 ++ [.lst (bs.map .bl)]) (xs_cons h rfl)]
  simp only [bi, items]
  rw [List.getElem?_append_right (Nat.le_refl _), Nat.sub_self]
  simp only [List.getElem?_cons_zero, allG_bls]
  rfl
/-- all([e for x in a tuple]), e told -/
theorem all_comp {vs : List Nat} {i : Ie} {w : It} {xs : List D} {tg : Tg} {e : Ex} {δ : Env} {g : G} {δ' : D → Env} (f : D → Bool) (hi : i δ g = .ok w g) (hw : ∀ i, w.at i g = some xs[i]?) (ht : ∀ x ∈ xs, tg x (DV.wipe δ vs) g = .ok (δ' x) g) (he : ∀ x ∈ xs, e (δ' x) g = .ok (.bl (f x)) g) (hl : xs.length ≤ 4096) :
    Ex.bi .all (exCons (Ex.comp vs i tg Te.tt e) exNil) δ g = .ok (.bl (xs.all f)) (g ++ [.lst ((xs.map f).map .bl)]) := by
  have hc := comp_pure (it := w) (xs := xs) (tg := tg) (e := e) (δ := DV.wipe δ vs) (g := g) (δ' := δ') (fun x => .bl (f x)) hw ht he (by unfold LINE; omega)
  have e1 : (xs.map fun x => D.bl (f x)) = (xs.map f).map .bl := by rw [List.map_map]; rfl
  rw [e1] at hc
  rw [all_of (x_comp hi hc), List.all_map]
  rfl
theorem cmp_int {o : Cmp} (f : Int → Int → Bool) (h : ∀ i j g, cmpD o (.int i) (.int j) g = some (f i j)) {a b : Ex} {δ : Env} {g : G} {i j : Int} (ha : a δ g = .ok (.int i) g) (hb : b δ g = .ok (.int j) g) : Ex.cmp o a b δ g = .ok (.bl (f i j)) g := by
  rw [x_cmp ha hb, h]
  rfl
theorem len_tup {a : Ex} {δ : Env} {g : G} {xs : List D} (ha : a δ g = .ok (.tup xs) g) : Ex.bi .len (exCons a exNil) δ g = .ok (.int xs.length) g := by
  rw [x_bi (ds := [.tup xs]) (g1 := g) (xs_cons ha rfl)]
  rfl
theorem isi_tup {a : Ex} {δ : Env} {g : G} {xs : List D} (ha : a δ g = .ok (.tup xs) g) : Ex.isi a .tuple δ g = .ok (.bl true) g := by
  show (a δ g).bind _ = _
  rw [ha]
  rfl
/-- no tuple -/
def noTup (g : G) (d : D) : Bool := match isTy g .tuple d with
  | some false => true
  | _ => false
theorem isi_notup {a : Ex} {δ : Env} {g : G} {d : D} (ha : a δ g = .ok d g) (h : noTup g d = true) : Ex.isi a .tuple δ g = .ok (.bl false) g := by
  show (a δ g).bind _ = _
  rw [ha]
  unfold noTup at h
  split at h
  · rename_i q
    show liftO (isTy g .tuple d) g = _
    rw [q]
    rfl
  · cases h
theorem notup_tree {n : Nat} {d : D} {g : G} (h : tree n d = true) (h2 : ∀ xs, d ≠ .tup xs) : noTup g d = true := by
  cases n with
  | zero => cases h
  | succ n => cases d <;> first | rfl | cases h | exact absurd rfl (h2 _)
def IntOk (cl : Cl) (i : Nat) : Prop := ∀ (g : G) (v : D) (lo hi : Int), tyOk g v = true → cl i [v, .int lo, .int hi] g = .ok (.bl (isInt lo hi v)) g
theorem tree_sub {n : Nat} {xs : List D} (h : tree (n + 1) (.tup xs) = true) : xs.length ≤ 4096 ∧ ∀ x ∈ xs, tree n x = true := by
  simp only [tree, Bool.and_eq_true, decide_eq_true_eq, List.all_eq_true] at h
  exact h
theorem tree_tup {n : Nat} {xs : List D} (h : xs.length ≤ 4096) (h2 : ∀ x ∈ xs, tree n x = true) : tree (n + 1) (.tup xs) = true := by
  simp only [tree, Bool.and_eq_true, decide_eq_true_eq, List.all_eq_true]
  exact ⟨h, h2⟩
/-- all([is_integer(x, 0, e) for x in a tuple]) -/
theorem all_ints {cl : Cl} {k : Nat} (hk : IntOk cl k) {n s : Nat} {a e : Ex} {δ : Env} {g : G} {xs : List D} {hi : Int} (ha : a δ g = .ok (.tup xs) g) (hx : tree (n + 1) (.tup xs) = true) (hs : s < δ.length)
    (he : ∀ x, e (δ.set s (some x)) g = .ok (.int hi) g) : Ex.bi .all (exCons (Ex.comp [s] (.of a) (.name s) .tt (.call cl k (exCons (.loc s) (exCons (.cst (.int 0)) (exCons e exNil))))) exNil) δ g = .ok (.bl (xs.all (isInt 0 hi))) (g ++ [.lst ((xs.map (isInt 0 hi)).map .bl)]) := by
  obtain ⟨h1, h2⟩ := tree_sub hx
  refine all_comp (w := .seq xs) (δ' := fun x => δ.set s (some x)) (isInt 0 hi) (by show (a δ g).bind _ = _; rw [ha]; rfl) (fun _ => rfl) (fun x _ => ?_) (fun x hxm => ?_) h1
  · show R.ok ((δ.set s none).set s (some x)) g = _
    rw [List.set_set]
  · rw [x_call (ds := [x, .int 0, .int hi]) (g1 := g)]
    · exact hk g x 0 hi (tyOk_tree (h2 x hxm))
    · refine xs_cons (g1 := g) ?_ (xs_cons (g1 := g) rfl (xs_cons (g1 := g) (he x) rfl))
      unfold Ex.loc
      rw [List.getElem?_set_self hs]
/-! ### are_ascending, of whole numbers -/
def bG_asc (cl : Cl) : Sm :=
  (.ret (.bi .all (exCons (.comp [1, 2] (.zip (.loc 0) (.slc (.loc 0) (.at (.cst (.int 1))) .no)) (.tup 2 (tgCons (.name 1) (tgCons (.name 2) tgNil))) .tt (.cmp .lt (.loc 1) (.loc 2))) exNil)))
def ascI : List Int → Bool
  | a :: b :: r => decide (a < b) && ascI (b :: r)
  | _ => true
theorem asc_pairs : ∀ ns : List Int, ((ns.zip (ns.drop 1)).map fun p => D.tup [.int p.1, .int p.2]).all (fun d => match d with | .tup [.int a, .int b] => decide (a < b) | _ => false) = ascI ns
  | [] => rfl
  | [a] => rfl
  | a :: b :: r => by
    have ih := asc_pairs (b :: r)
    simp only [List.drop_succ_cons, List.drop_zero, List.zip_cons_cons, List.map_cons, List.all_cons, ascI] at ih ⊢
    rw [ih]
theorem It_zip_at (t u : It) (i : Nat) (g : G) : (It.zip t u).at i g = match t.at i g, u.at i g with
    | some (some x), some (some y) => some (some (.tup [x, y]))
    | some _, some _ => some none
    | _, _ => none := rfl
theorem asc_spec {cl : Cl} {g : G} {ns : List Int} (h : ns.length ≤ 4096) : body 1 3 (bG_asc cl) [.tup (ns.map .int)] g = .ok (.bl (ascI ns)) g := by
  refine body_rt (t := [.lst ((((ns.zip (ns.drop 1)).map fun p => D.tup [.int p.1, .int p.2]).map (fun d => match d with | .tup [.int a, .int b] => decide (a < b) | _ => false)).map .bl)]) rfl ?_ rfl
  unfold bG_asc
  refine st_ret ?_
  have hcut : cut (ns.map D.int) (some 1) none = (ns.drop 1).map .int := by
    simp [cut, sIx, List.map_drop]
    rcases ns with _ | ⟨a, r⟩
    · simp
    · simp [List.take_of_length_le]
  rw [← asc_pairs]
  refine all_comp (w := .zip (.seq (ns.map .int)) (.seq ((ns.drop 1).map .int))) (xs := (ns.zip (ns.drop 1)).map fun p => D.tup [.int p.1, .int p.2]) (δ' := fun d => match d with | .tup [a, b] => [some (.tup (ns.map .int)), some a, some b] | _ => []) _ ?_ (fun i => ?_) (fun x hx => ?_) (fun x hx => ?_) ?_
  · simp [start, Ie.zip, Ex.loc, Ex.slc, Po.at, Po.no, Ex.cst, slc, hcut, walkOf, isTup]
  · rw [It_zip_at]
    show (match some (ns.map D.int)[i]?, some ((ns.drop 1).map D.int)[i]? with
      | some (some x), some (some y) => some (some (D.tup [x, y]))
      | some _, some _ => some none
      | _, _ => none) = _
    rw [List.getElem?_map, List.getElem?_map, List.getElem?_map, List.zip, List.getElem?_zipWith]
    cases ns[i]? <;> cases (ns.drop 1)[i]? <;> rfl
  · obtain ⟨p, _, rfl⟩ := List.mem_map.mp hx
    rfl
  · obtain ⟨p, _, rfl⟩ := List.mem_map.mp hx
    simp [Ex.cmp, Ex.loc, cmpD, liftO]
  · rw [List.length_map, List.length_zip]; omega
end DV
end
section
set_option Elab.async false
set_option linter.all false
set_option maxRecDepth 100000
set_option maxHeartbeats 1000000
namespace DV
open PySem
/-! ### is_signs, many_signs, is_word_of -/
def bG_issigns (cl : Cl) (k : Nat) : Sm :=
  (.seq (.ite (.or (.not (.ex (.isi (.loc 0) .tuple))) (.or (.ex (.cmp .ne (.bi .len (exCons (.loc 0) exNil)) (.cst (.int 4)))) (.ex (.cmp .ne (.idx (.loc 0) (.cst (.int 0))) (.cst (.str (Str.ofString "signs"))))))) (.ret (.cst (.bl false))) .skip)
  (.ret (.and (.bi .all (exCons (.comp [1] (.of (.slc (.loc 0) (.at (.cst (.int 1))) .no)) (.name 1) .tt (.call cl k (exCons (.loc 1) (exCons (.cst (.int 0)) (exCons (.cst (.int 3)) exNil))))) exNil)) (.bi .any (exCons (.slc (.loc 0) (.at (.cst (.int 1))) .no) exNil)))))
theorem canLay_str (s : String) (h : PyData.canLay0 (.str (Str.ofString s)) = true := by decide +kernel) : PyData.canLay0 (.str (Str.ofString s)) = true := h
theorem tree_sg (a b c : Nat) : tree 2 (sgT a b c) = true := by
  show (decide (4 ≤ 4096) && _) = true
  rw [Bool.and_eq_true]
  refine ⟨rfl, ?_⟩
  have : tree 1 (.str (Str.ofString "signs")) = true := by decide +kernel
  simp only [List.all_cons, List.all_nil, this]
  rfl
theorem issigns_spec {cl : Cl} {k : Nat} (hk : IntOk cl k) {g : G} {a b c : Nat} (ha : a ≤ 3) (hb : b ≤ 3) (hc : c ≤ 3) : body 1 2 (bG_issigns cl k) [sgT a b c] g = .ok (.bl (decide (1 ≤ a + b + c))) g := by
  have hs : neG g (.str (Str.ofString "signs")) (.str (Str.ofString "signs")) = some false := by
    rw [neG_str g (n := 1) (by decide +kernel) (by decide) (by decide +kernel)]; simp
  have hsl : ∀ δ : Env, δ[0]? = some (some (sgT a b c)) → Ex.slc (.loc 0) (.at (.cst (.int 1))) .no δ g = .ok (.tup (([a, b, c] : List Nat).map fun n : Nat => D.int n)) g := by
    intro δ h
    simp [Ex.slc, Ex.loc, h, Po.at, Po.no, Ex.cst, slc, sgT, cut, sIx]
  have hall := all_ints hk (n := 1) (s := 1) (a := .slc (.loc 0) (.at (.cst (.int 1))) .no) (e := .cst (.int 3)) (δ := [some (sgT a b c), none]) (g := g) (xs := ([a, b, c] : List Nat).map fun n : Nat => D.int n) (hi := 3) (hsl _ rfl) (by rfl) (by simp) (fun _ => rfl)
  have hv : (([a, b, c] : List Nat).map fun n : Nat => D.int n).all (isInt 0 3) = true := by
    simp [isInt]; omega
  rw [hv] at hall
  refine body_rt (t := ?t) rfl ?h rfl
  case h =>
    unfold bG_issigns
    rw [show start 2 [sgT a b c] = [some (sgT a b c), none] from rfl]
    rw [st_nx (st_no (g1 := g) (by simp [Te.or, Te.not, Te.ex, Ex.isi, Ex.loc, sgT, isTy, Ty.is, liftO, truth, Ex.cmp, Ex.bi, bi, exCons, exNil, lenD, Ex.cst, cmpD, neG_int, Ex.idx, DV.idx, atI, ixN, oD, hs]))]
    refine st_ret ?_
    rw [x_and_t hall]
    rw [x_bi (xs_cons (d := .tup (([a, b, c] : List Nat).map fun n : Nat => D.int n)) (g1 := g ++ [.lst ((((([a, b, c] : List Nat).map fun n : Nat => D.int n)).map (isInt 0 3)).map .bl)]) (by simp [Ex.slc, Ex.loc, Po.at, Po.no, Ex.cst, slc, sgT, cut, sIx]) rfl)]
    have e : (([a, b, c] : List Nat).map fun n : Nat => D.int n) = (([a, b, c] : List Nat).map fun n : Nat => (n : Int)).map .int := by simp
    simp only [bi, items]
    rw [e, anyG_ints]
    have : ((([a, b, c] : List Nat).map fun n : Nat => (n : Int)).any fun i => i != 0) = decide (1 ≤ a + b + c) := by
      rw [Bool.eq_iff_iff]; simp; omega
    rw [this]
    rfl
theorem many_spec' {cl : Cl} {g : G} {a b c : Nat} : body 1 1 (bG_many cl) [sgT a b c] g = .ok (.int ((a + b + c : Nat) : Int)) g := many_spec
def bG_isword (cl : Cl) (k mn : Nat) : Sm :=
  (.seq (.ite (.or (.not (.ex (.isi (.loc 1) .tuple))) (.ex (.cmp .gt (.bi .len (exCons (.loc 1) exNil)) (.cst (.int 300))))) (.ret (.cst (.bl false))) .skip)
  (.ret (.bi .all (exCons (.comp [2] (.of (.loc 1)) (.name 2) .tt (.call cl k (exCons (.loc 2) (exCons (.cst (.int 0)) (exCons (.bin .sub (.call cl mn (exCons (.loc 0) exNil)) (.cst (.int 1))) exNil))))) exNil))))
def ManyOk (cl : Cl) (mn : Nat) : Prop := ∀ (g : G) (a b c : Nat), cl mn [sgT a b c] g = .ok (.int ((a + b + c : Nat) : Int)) g
theorem isword_no {cl : Cl} {k mn : Nat} {g : G} {s v : D} (h : noTup g v = true) : body 2 3 (bG_isword cl k mn) [s, v] g = .ok (.bl false) g := by
  refine body_rt0 rfl ?_ rfl
  unfold bG_isword
  rw [show start 3 [s, v] = [some s, some v, none] from rfl]
  exact st_rt (by rw [st_if (t_or_t (t_not (k := false) (t_ex (isi_notup (d := v) rfl h))))]; rfl)
theorem isword_spec {cl : Cl} {k mn n : Nat} (hk : IntOk cl k) (hm : ManyOk cl mn) {g : G} {a b c : Nat} {xs : List D} (hx : tree (n + 1) (.tup xs) = true) :
    body 2 3 (bG_isword cl k mn) [sgT a b c, .tup xs] g = .ok (.bl (decide (xs.length ≤ 300) && xs.all (isInt 0 (((a + b + c : Nat) : Int) - 1)))) g := by
  by_cases hl : xs.length ≤ 300
  · refine body_rt (t := ?t) rfl ?h rfl
    case h =>
      unfold bG_isword
      rw [show start 3 [sgT a b c, .tup xs] = [some (sgT a b c), some (.tup xs), none] from rfl]
      rw [st_nx (st_no (g1 := g) (by
        rw [t_or_f (t_not (k := true) (t_ex (isi_tup (xs := xs) rfl)))]
        refine t_ex ?_
        rw [cmp_int (fun i j => decide (j < i)) (fun _ _ _ => rfl) (len_tup (xs := xs) rfl) (j := 300) rfl]
        rw [decide_eq_false (by omega)]))]
      refine st_ret ?_
      rw [all_ints hk (n := n) (s := 2) (xs := xs) (hi := ((a + b + c : Nat) : Int) - 1) rfl hx (by simp) (fun x => ?_)]
      · rw [decide_eq_true hl, Bool.true_and]
      · rw [x_bin (d := .int ((a + b + c : Nat) : Int)) (g1 := g) (d2 := .int 1) (g2 := g) (by rw [x_call (ds := [sgT a b c]) (g1 := g) rfl]; exact hm g a b c) rfl]
        rfl
  · refine body_rt0 rfl ?_ rfl
    unfold bG_isword
    rw [show start 3 [sgT a b c, .tup xs] = [some (sgT a b c), some (.tup xs), none] from rfl]
    refine st_rt ?_
    rw [st_if (g1 := g) (by
      rw [t_or_f (t_not (k := true) (t_ex (isi_tup (xs := xs) rfl)))]
      refine t_ex ?_
      rw [cmp_int (fun i j => decide (j < i)) (fun _ _ _ => rfl) (len_tup (xs := xs) rfl) (j := 300) rfl]
      rw [decide_eq_true (by omega)])]
    rw [decide_eq_false hl]
    rfl

/-! ### are_nexts, is_row, are_states, is_definite -/
def bG_nexts (cl : Cl) (k : Nat) : Sm :=
  (.ret (.and (.isi (.loc 0) .tuple) (.and (.cmp .eq (.bi .len (exCons (.loc 0) exNil)) (.loc 2)) (.bi .all (exCons (.comp [3] (.of (.loc 0)) (.name 3) .tt (.call cl k (exCons (.loc 3) (exCons (.cst (.int 0)) (exCons (.bin .sub (.loc 1) (.cst (.int 1))) exNil))))) exNil)))))
def isNexts (n len : Int) : D → Bool
  | .tup xs => decide ((xs.length : Int) = len) && xs.all (isInt 0 (n - 1))
  | _ => false
theorem nexts_spec {cl : Cl} {k m : Nat} (hk : IntOk cl k) {g : G} {v : D} {n len : Int} (hv : tree (m + 1) v = true) : body 3 4 (bG_nexts cl k) [v, .int n, .int len] g = .ok (.bl (isNexts n len v)) g := by
  cases v with
  | tup xs =>
    by_cases h : (xs.length : Int) = len
    · refine body_rt (t := ?t) rfl ?h rfl
      case h =>
        unfold bG_nexts
        rw [show start 4 [.tup xs, .int n, .int len] = [some (.tup xs), some (.int n), some (.int len), none] from rfl]
        refine st_ret ?_
        rw [x_and_t (isi_tup (xs := xs) rfl)]
        rw [x_and_t (g1 := g) (by
          rw [x_cmp (d := .int xs.length) (g1 := g) (d2 := .int len) (g2 := g) (len_tup (xs := xs) rfl) rfl]
          simp only [cmpD, eqG_int, h, decide_true]
          rfl)]
        rw [all_ints hk (n := m) (s := 3) (xs := xs) (hi := n - 1) rfl hv (by simp) (fun x => rfl)]
        simp only [isNexts, h, decide_true, Bool.true_and]
        rfl
    · refine body_rt0 rfl ?_ rfl
      unfold bG_nexts
      rw [show start 4 [.tup xs, .int n, .int len] = [some (.tup xs), some (.int n), some (.int len), none] from rfl]
      refine st_ret ?_
      rw [x_and_t (isi_tup (xs := xs) rfl)]
      rw [x_and_f (g1 := g) (by
          rw [x_cmp (d := .int xs.length) (g1 := g) (d2 := .int len) (g2 := g) (len_tup (xs := xs) rfl) rfl]
          simp only [cmpD, eqG_int, h, decide_false]
          rfl)]
      simp only [isNexts, h, decide_false, Bool.false_and]
  | _ =>
    refine body_rt0 rfl ?_ rfl
    unfold bG_nexts
    refine st_ret ?_
    exact x_and_f (isi_notup (g := g) rfl (notup_tree hv (by intro xs h; cases h)))
def NextsOk (cl : Cl) (i : Nat) : Prop := ∀ (g : G) (v : D) (m : Nat) (n len : Int), tree (m + 1) v = true → cl i [v, .int n, .int len] g = .ok (.bl (isNexts n len v)) g
def bG_row (cl : Cl) (k : Nat) : Sm :=
  (.seq (.asg (.tup 4 (tgCons (.name 3) (tgCons (.name 4) (tgCons (.name 5) (tgCons (.name 6) tgNil))))) (.loc 1))
  (.seq (.ite (.or (.not (.ex (.isi (.loc 0) .tuple))) (.ex (.cmp .ne (.bi .len (exCons (.loc 0) exNil)) (.cst (.int 4))))) (.ret (.cst (.bl false))) .skip)
  (.seq (.asg (.tup 4 (tgCons (.name 7) (tgCons (.name 8) (tgCons (.name 9) (tgCons (.name 10) tgNil))))) (.loc 0))
  (.seq (.ite (.or (.not (.ex (.call cl k (exCons (.loc 7) (exCons (.loc 2) (exCons (.loc 6) exNil)))))) (.or (.not (.ex (.call cl k (exCons (.loc 8) (exCons (.loc 2) (exCons (.loc 4) exNil)))))) (.not (.ex (.call cl k (exCons (.loc 9) (exCons (.loc 2) (exCons (.loc 5) exNil)))))))) (.ret (.cst (.bl false))) .skip)
  (.seq (.ite (.or (.not (.ex (.isi (.loc 10) .tuple))) (.ex (.cmp .ne (.bi .len (exCons (.loc 10) exNil)) (.loc 5)))) (.ret (.cst (.bl false))) .skip)
  (.ret (.bi .all (exCons (.comp [11] (.of (.loc 10)) (.name 11) .tt (.call cl k (exCons (.loc 11) (exCons (.loc 2) (exCons (.bin .mul (.loc 2) (.loc 4)) exNil))))) exNil))))))))
def isBacks (a b n : Nat) : D → Bool
  | .tup bs => decide (bs.length = b) && bs.all (isNexts n ((n : Int) * a))
  | _ => false
def isRow (a b c n : Nat) : D → Bool
  | .tup [p, q, f, k] => isNexts n c p && (isNexts n a q && (isNexts n b f && isBacks a b n k))
  | _ => false
theorem isRow_no {a b c n : Nat} {v : D} (h : ∀ xs, v ≠ .tup xs) : isRow a b c n v = false := by
  cases v with
  | tup xs => exact absurd rfl (h xs)
  | _ => rfl
theorem isRow_len {a b c n : Nat} {xs : List D} (h : xs.length ≠ 4) : isRow a b c n (.tup xs) = false := by
  match xs, h with
  | [], _ => rfl
  | [_], _ => rfl
  | [_, _], _ => rfl
  | [_, _, _], _ => rfl
  | [_, _, _, _], h => exact absurd rfl h
  | _ :: _ :: _ :: _ :: _ :: _, _ => rfl
theorem isBacks_no {a b n : Nat} {v : D} (h : ∀ xs, v ≠ .tup xs) : isBacks a b n v = false := by
  cases v with
  | tup xs => exact absurd rfl (h xs)
  | _ => rfl
theorem isRow4 {a b c n : Nat} {p q f k : D} : isRow a b c n (.tup [p, q, f, k]) = ((isNexts n c p && (isNexts n a q && isNexts n b f)) && isBacks a b n k) := by
  show (isNexts n c p && (isNexts n a q && (isNexts n b f && isBacks a b n k))) = _
  cases isNexts n c p <;> cases isNexts n a q <;> cases isNexts n b f <;> cases isBacks a b n k <;> rfl
theorem isTup_or (v : D) : (∃ xs, v = .tup xs) ∨ ∀ xs, v ≠ .tup xs := by
  cases v with
  | tup xs => exact .inl ⟨xs, rfl⟩
  | _ => exact .inr (fun _ h => by cases h)
theorem tree_le {n m : Nat} {xs : List D} (h : tree (n + 1) (.tup xs) = true) (x : D) (hx : x ∈ xs) (hn : n ≤ m) : tree m x = true := tree_mono ((tree_sub h).2 x hx) hn
theorem mul_int {i j : Int} {g : G} (h : i.natAbs < 2 ^ 60) : binop .mul (.int i) (.int j) g = .ok (.int (i * j)) g := by
  show (if bits i + bits j < 1000000 ∨ i.natAbs < 2 ^ 60 ∨ j.natAbs < 2 ^ 60 then _ else _) = _
  rw [if_pos (.inr (.inl h))]
theorem and4 : ∀ x y z w : Bool, (x && (y && (z && w))) = ((x && (y && z)) && w) := by decide
theorem row_spec {cl : Cl} {k : Nat} (hk : NextsOk cl k) {g : G} {v : D} {a b c n : Nat} (hn : n ≤ 100000) (hv : tree 4 v = true) : body 3 12 (bG_row cl k) [v, sgT a b c, .int n] g = .ok (.bl (isRow a b c n v)) g := by
  have s0 : bG_row cl k (start 12 [v, sgT a b c, .int n]) g = (Sm.seq (.ite (.or (.not (.ex (.isi (.loc 0) .tuple))) (.ex (.cmp .ne (.bi .len (exCons (.loc 0) exNil)) (.cst (.int 4))))) (.ret (.cst (.bl false))) .skip)
  (.seq (.asg (.tup 4 (tgCons (.name 7) (tgCons (.name 8) (tgCons (.name 9) (tgCons (.name 10) tgNil))))) (.loc 0))
  (.seq (.ite (.or (.not (.ex (.call cl k (exCons (.loc 7) (exCons (.loc 2) (exCons (.loc 6) exNil)))))) (.or (.not (.ex (.call cl k (exCons (.loc 8) (exCons (.loc 2) (exCons (.loc 4) exNil)))))) (.not (.ex (.call cl k (exCons (.loc 9) (exCons (.loc 2) (exCons (.loc 5) exNil)))))))) (.ret (.cst (.bl false))) .skip)
  (.seq (.ite (.or (.not (.ex (.isi (.loc 10) .tuple))) (.ex (.cmp .ne (.bi .len (exCons (.loc 10) exNil)) (.loc 5)))) (.ret (.cst (.bl false))) .skip)
  (.ret (.bi .all (exCons (.comp [11] (.of (.loc 10)) (.name 11) .tt (.call cl k (exCons (.loc 11) (exCons (.loc 2) (exCons (.bin .mul (.loc 2) (.loc 4)) exNil))))) exNil))))))) [some v, some (sgT a b c), some (.int n), some (.str (Str.ofString "signs")), some (.int a), some (.int b), some (.int c), none, none, none, none, none] g := by
    unfold bG_row
    rw [st_nx (st_asg (d := sgT a b c) (g1 := g) (g2 := g) rfl rfl)]
    rfl
  rcases isTup_or v with ⟨xs, rfl⟩ | hno
  · by_cases h4 : xs.length = 4
    · obtain ⟨p, q, f, k', rfl⟩ : ∃ p q f k', xs = [p, q, f, k'] := by
        match xs, h4 with
        | [p, q, f, k'], _ => exact ⟨p, q, f, k', rfl⟩
      have hsub := (tree_sub hv).2
      have tp := hsub p (by simp)
      have tq := hsub q (by simp)
      have tf := hsub f (by simp)
      have tk := hsub k' (by simp)
      have s1 : bG_row cl k (start 12 [.tup [p, q, f, k'], sgT a b c, .int n]) g = (Sm.seq (.ite (.or (.not (.ex (.call cl k (exCons (.loc 7) (exCons (.loc 2) (exCons (.loc 6) exNil)))))) (.or (.not (.ex (.call cl k (exCons (.loc 8) (exCons (.loc 2) (exCons (.loc 4) exNil)))))) (.not (.ex (.call cl k (exCons (.loc 9) (exCons (.loc 2) (exCons (.loc 5) exNil)))))))) (.ret (.cst (.bl false))) .skip)
  (.seq (.ite (.or (.not (.ex (.isi (.loc 10) .tuple))) (.ex (.cmp .ne (.bi .len (exCons (.loc 10) exNil)) (.loc 5)))) (.ret (.cst (.bl false))) .skip)
  (.ret (.bi .all (exCons (.comp [11] (.of (.loc 10)) (.name 11) .tt (.call cl k (exCons (.loc 11) (exCons (.loc 2) (exCons (.bin .mul (.loc 2) (.loc 4)) exNil))))) exNil))))) [some (.tup [p, q, f, k']), some (sgT a b c), some (.int n), some (.str (Str.ofString "signs")), some (.int a), some (.int b), some (.int c), some p, some q, some f, some k', none] g := by
        rw [s0]
        rw [st_nx (st_no (g1 := g) (by
          rw [t_or_f (t_not (k := true) (t_ex (isi_tup (xs := [p, q, f, k']) rfl)))]
          refine t_ex ?_
          rw [x_cmp (d := .int 4) (g1 := g) (d2 := .int 4) (g2 := g) (len_tup (xs := [p, q, f, k']) rfl) rfl]
          simp only [cmpD, neG_int]
          rfl))]
        rw [st_nx (st_asg (d := .tup [p, q, f, k']) (g1 := g) (g2 := g) rfl rfl)]
        rfl
      have nx : ∀ (w : D) (l : Nat), tree 3 w = true → cl k [w, .int n, .int l] g = .ok (.bl (isNexts n l w)) g := fun w l h => hk g w 2 n l h
      have t1 : Te.or (.not (.ex (.call cl k (exCons (.loc 7) (exCons (.loc 2) (exCons (.loc 6) exNil)))))) (.or (.not (.ex (.call cl k (exCons (.loc 8) (exCons (.loc 2) (exCons (.loc 4) exNil)))))) (.not (.ex (.call cl k (exCons (.loc 9) (exCons (.loc 2) (exCons (.loc 5) exNil))))))) [some (.tup [p, q, f, k']), some (sgT a b c), some (.int n), some (.str (Str.ofString "signs")), some (.int a), some (.int b), some (.int c), some p, some q, some f, some k', none] g = .ok (!(isNexts n c p && (isNexts n a q && isNexts n b f))) g := by
        have z : ∀ (δ : Env) (x y w : Ex) (d : D) (l : Nat), tree 3 d = true → x δ g = .ok d g → y δ g = .ok (.int n) g → w δ g = .ok (.int l) g → Te.not (.ex (.call cl k (exCons x (exCons y (exCons w exNil))))) δ g = .ok (!isNexts n l d) g := by
          intro δ x y w d l hd hx hy hw
          refine t_not (t_ex ?_)
          rw [x_call (xs_cons hx (xs_cons hy (xs_cons hw rfl)))]
          exact nx d l hd
        rw [t_or (z _ _ _ _ p c tp rfl rfl rfl)]
        cases isNexts n c p with
        | false => rfl
        | true =>
          rw [Bool.not_true, if_neg (by decide)]
          rw [t_or (z _ _ _ _ q a tq rfl rfl rfl)]
          cases isNexts n a q with
          | false => rfl
          | true =>
            rw [Bool.not_true, if_neg (by decide)]
            rw [z _ _ _ _ f b tf rfl rfl rfl]
            rfl
      cases hA : (isNexts n c p && (isNexts n a q && isNexts n b f)) with
      | false =>
        rw [hA] at t1
        refine body_rt0 rfl ?_ rfl
        rw [s1]
        refine st_rt ?_
        rw [st_if t1]
        rw [isRow4, hA]
        rfl
      | true =>
        rw [hA] at t1
        have hR : isRow a b c n (.tup [p, q, f, k']) = isBacks a b n k' := by rw [isRow4, hA, Bool.true_and]
        rcases isTup_or k' with ⟨bs, rfl⟩ | hno
        · by_cases hl : bs.length = b
          · refine body_rt (t := ?t) rfl ?h rfl
            case h =>
              rw [s1, st_nx (st_no t1)]
              rw [st_nx (st_no (g1 := g) (by
                rw [t_or_f (t_not (k := true) (t_ex (isi_tup (xs := bs) rfl)))]
                refine t_ex ?_
                rw [x_cmp (d := .int bs.length) (g1 := g) (d2 := .int b) (g2 := g) (len_tup (xs := bs) rfl) rfl]
                simp only [cmpD, neG_int, hl]
                simp [liftO]))]
              refine st_ret ?_
              rw [all_comp (w := .seq bs) (xs := bs) (g := g) (δ' := fun x => [some (.tup [p, q, f, .tup bs]), some (sgT a b c), some (.int n), some (.str (Str.ofString "signs")), some (.int a), some (.int b), some (.int c), some p, some q, some f, some (.tup bs), some x]) (isNexts n ((n : Int) * a)) rfl (fun _ => rfl) (fun x _ => rfl) (fun x hx => ?_) (tree_sub tk).1]
              · have e : isBacks a b n (.tup bs) = bs.all (isNexts n ((n : Int) * a)) := by
                  show (decide (bs.length = b) && _) = _
                  rw [decide_eq_true hl, Bool.true_and]
                rw [hR, e]
              · rw [x_call (ds := [x, .int n, .int ((n : Int) * a)]) (g1 := g)]
                · exact hk g x 1 n _ ((tree_sub tk).2 x hx)
                · refine xs_cons (g1 := g) rfl (xs_cons (g1 := g) rfl (xs_cons (g1 := g) ?_ rfl))
                  rw [x_bin (d := .int n) (g1 := g) (d2 := .int a) (g2 := g) rfl rfl]
                  exact mul_int (by omega)
          · refine body_rt0 rfl ?_ rfl
            rw [s1, st_nx (st_no t1)]
            refine st_rt ?_
            rw [st_if (g1 := g) (by
                rw [t_or_f (t_not (k := true) (t_ex (isi_tup (xs := bs) rfl)))]
                refine t_ex ?_
                rw [x_cmp (d := .int bs.length) (g1 := g) (d2 := .int b) (g2 := g) (len_tup (xs := bs) rfl) rfl]
                simp only [cmpD, neG_int]
                have : ¬ (bs.length : Int) = b := by omega
                simp [liftO, this])]
            have e : isBacks a b n (.tup bs) = false := by
              show (decide (bs.length = b) && _) = _
              rw [decide_eq_false hl, Bool.false_and]
            rw [hR, e]
            rfl
        · refine body_rt0 rfl ?_ rfl
          rw [s1, st_nx (st_no t1)]
          refine st_rt ?_
          rw [st_if (g1 := g) (t_or_t (t_not (k := false) (t_ex (isi_notup (d := k') rfl (notup_tree tk hno)))))]
          rw [hR, isBacks_no hno]
          rfl
    · refine body_rt0 rfl ?_ rfl
      rw [s0]
      refine st_rt ?_
      rw [st_if (g1 := g) (by
        rw [t_or_f (t_not (k := true) (t_ex (isi_tup (xs := xs) rfl)))]
        refine t_ex ?_
        rw [x_cmp (d := .int xs.length) (g1 := g) (d2 := .int 4) (g2 := g) (len_tup (xs := xs) rfl) rfl]
        simp only [cmpD, neG_int]
        have : ¬ (xs.length : Int) = 4 := by omega
        simp [liftO, this])]
      rw [isRow_len h4]
      rfl
  · refine body_rt0 rfl ?_ rfl
    rw [s0]
    refine st_rt ?_
    rw [st_if (g1 := g) (t_or_t (t_not (k := false) (t_ex (isi_notup (d := v) rfl (notup_tree hv hno)))))]
    rw [isRow_no hno]
    rfl
end DV
end
section
set_option Elab.async false
set_option linter.all false
set_option maxRecDepth 100000
set_option maxHeartbeats 1000000
namespace DV
open PySem
def bG_states (cl : Cl) (k as : Nat) : Sm :=
  (.seq (.ite (.or (.not (.ex (.isi (.loc 0) .tuple))) (.not (.ex (.bi .all (exCons (.comp [2] (.of (.loc 0)) (.name 2) .tt (.call cl k (exCons (.loc 2) (exCons (.cst (.int 0)) (exCons (.bin .sub (.loc 1) (.cst (.int 1))) exNil))))) exNil))))) (.ret (.cst (.bl false))) .skip)
  (.ret (.call cl as (exCons (.loc 0) exNil))))
/-- ascending whole numbers from 0, below n -/
def isStates (n : Int) : D → Bool
  | .tup xs => match ints? xs with
    | some ns => ns.all (fun i => decide (0 ≤ i) && decide (i ≤ n - 1)) && ascI ns
    | none => false
  | _ => false
def AscOk (cl : Cl) (i : Nat) : Prop := ∀ (g : G) (ns : List Int), ns.length ≤ 4096 → cl i [.tup (ns.map .int)] g = .ok (.bl (ascI ns)) g
theorem ints?_map : ∀ ns : List Int, ints? (ns.map .int) = some ns
  | [] => rfl
  | n :: ns => by rw [List.map_cons, ints?, ints?_map ns]; rfl
theorem ints?_some : ∀ {xs : List D} {ns : List Int}, ints? xs = some ns → xs = ns.map .int
  | [], ns, h => by cases h; rfl
  | .int i :: r, ns, h => by
    rw [ints?] at h
    cases q : ints? r with
    | none => rw [q] at h; cases h
    | some ms => rw [q] at h; cases h; rw [ints?_some q]; rfl
  | .non :: _, _, h => by cases h
  | .bl _ :: _, _, h => by cases h
  | .str _ :: _, _, h => by cases h
  | .tup _ :: _, _, h => by cases h
  | .ref _ :: _, _, h => by cases h
  | .fn _ :: _, _, h => by cases h
  | .exc _ _ :: _, _, h => by cases h
  | .rol _ :: _, _, h => by cases h
theorem all_isInt {n : Int} {ns : List Int} : (ns.map D.int).all (isInt 0 n) = ns.all (fun i => decide (0 ≤ i) && decide (i ≤ n)) := by
  rw [List.all_map]; rfl
theorem all_isInt_ints {n : Int} : ∀ {xs : List D}, xs.all (isInt 0 n) = true → ∃ ns, ints? xs = some ns
  | [], _ => ⟨[], rfl⟩
  | x :: xs, h => by
    rw [List.all_cons, Bool.and_eq_true] at h
    obtain ⟨ns, e⟩ := all_isInt_ints h.2
    have h1 := h.1
    cases x with
    | int i => exact ⟨i :: ns, by rw [ints?, e]; rfl⟩
    | _ => cases h1
theorem states_no {cl : Cl} {k as : Nat} {g : G} {v n : D} (h : noTup g v = true) : body 2 3 (bG_states cl k as) [v, n] g = .ok (.bl false) g := by
  refine body_rt0 rfl ?_ rfl
  unfold bG_states
  rw [show start 3 [v, n] = [some v, some n, none] from rfl]
  refine st_rt ?_
  rw [st_if (g1 := g) (t_or_t (t_not (k := false) (t_ex (isi_notup (d := v) rfl h))))]
  rfl
theorem states_spec {cl : Cl} {k as m : Nat} (hk : IntOk cl k) (ha : AscOk cl as) {g : G} {xs : List D} {n : Int} (hx : tree (m + 1) (.tup xs) = true) : body 2 3 (bG_states cl k as) [.tup xs, .int n] g = .ok (.bl (isStates n (.tup xs))) g := by
  have hall := all_ints hk (n := m) (s := 2) (a := .loc 0) (e := .bin .sub (.loc 1) (.cst (.int 1))) (δ := [some (.tup xs), some (.int n), none]) (g := g) (xs := xs) (hi := n - 1) rfl hx (by simp) (fun x => rfl)
  cases hA : xs.all (isInt 0 (n - 1)) with
  | false =>
    rw [hA] at hall
    have e : isStates n (.tup xs) = false := by
      cases q : ints? xs with
      | none => simp only [isStates, q]
      | some ns =>
        have e1 := ints?_some q
        subst e1
        rw [all_isInt] at hA
        simp only [isStates, ints?_map, hA, Bool.false_and]
    refine body_rt (t := ?t) rfl ?h rfl
    case h =>
      unfold bG_states
      rw [show start 3 [.tup xs, .int n] = [some (.tup xs), some (.int n), none] from rfl]
      refine st_rt ?_
      rw [st_if (g1 := g ++ [.lst ((xs.map (isInt 0 (n - 1))).map .bl)]) (by
        rw [t_or_f (t_not (k := true) (t_ex (isi_tup (xs := xs) rfl)))]
        exact t_not (k := false) (t_ex hall))]
      rw [e]
      rfl
  | true =>
    rw [hA] at hall
    obtain ⟨ns, q⟩ := all_isInt_ints hA
    have e1 := ints?_some q
    subst e1
    have e : isStates n (.tup (ns.map .int)) = ascI ns := by
      rw [all_isInt] at hA
      simp only [isStates, ints?_map, hA, Bool.true_and]
    have hl := (tree_sub hx).1
    rw [List.length_map] at hl
    refine body_rt (t := ?t2) rfl ?h2 rfl
    case h2 =>
      unfold bG_states
      rw [show start 3 [.tup (ns.map .int), .int n] = [some (.tup (ns.map .int)), some (.int n), none] from rfl]
      rw [st_nx (st_no (g1 := g ++ [.lst (((ns.map D.int).map (isInt 0 (n - 1))).map .bl)]) (by
        rw [t_or_f (t_not (k := true) (t_ex (isi_tup (xs := ns.map .int) rfl)))]
        exact t_not (k := true) (t_ex hall)))]
      refine st_ret ?_
      rw [x_call (ds := [.tup (ns.map .int)]) (g1 := g ++ [.lst (((ns.map D.int).map (isInt 0 (n - 1))).map .bl)]) rfl, ha _ ns hl, e]
def bG_isdef (cl : Cl) (sg st rw' : Nat) : Sm :=
  (.seq (.ite (.or (.not (.ex (.isi (.loc 0) .tuple))) (.or (.ex (.cmp .ne (.bi .len (exCons (.loc 0) exNil)) (.cst (.int 4)))) (.or (.ex (.cmp .ne (.idx (.loc 0) (.cst (.int 0))) (.cst (.str (Str.ofString "definite"))))) (.not (.ex (.call cl sg (exCons (.idx (.loc 0) (.cst (.int 1))) exNil))))))) (.ret (.cst (.bl false))) .skip)
  (.seq (.asg (.tup 4 (tgCons (.name 1) (tgCons (.name 2) (tgCons (.name 3) (tgCons (.name 4) tgNil))))) (.loc 0))
  (.seq (.ite (.or (.not (.ex (.isi (.loc 3) .tuple))) (.or (.not (.ex (.chain .le .le (.cst (.int 1)) (.bi .len (exCons (.loc 3) exNil)) (.cst (.int 40))))) (.not (.ex (.call cl st (exCons (.loc 4) (exCons (.bi .len (exCons (.loc 3) exNil)) exNil))))))) (.ret (.cst (.bl false))) .skip)
  (.ret (.bi .all (exCons (.comp [5] (.of (.loc 3)) (.name 5) .tt (.call cl rw' (exCons (.loc 5) (exCons (.loc 2) (exCons (.bi .len (exCons (.loc 3) exNil)) exNil))))) exNil))))))
theorem isdef_no {cl : Cl} {sg st rw' : Nat} {g : G} {v : D} (h : noTup g v = true) : body 1 6 (bG_isdef cl sg st rw') [v] g = .ok (.bl false) g := by
  refine body_rt0 rfl ?_ rfl
  unfold bG_isdef
  rw [show start 6 [v] = [some v, none, none, none, none, none] from rfl]
  refine st_rt ?_
  rw [st_if (g1 := g) (t_or_t (t_not (k := false) (t_ex (isi_notup (d := v) rfl h))))]
  rfl
theorem isdef_len {cl : Cl} {sg st rw' : Nat} {g : G} {xs : List D} (h : xs.length ≠ 4) : body 1 6 (bG_isdef cl sg st rw') [.tup xs] g = .ok (.bl false) g := by
  refine body_rt0 rfl ?_ rfl
  unfold bG_isdef
  rw [show start 6 [.tup xs] = [some (.tup xs), none, none, none, none, none] from rfl]
  refine st_rt ?_
  rw [st_if (g1 := g) (by
    rw [t_or_f (t_not (k := true) (t_ex (isi_tup (xs := xs) rfl)))]
    refine t_or_t (t_ex ?_)
    rw [x_cmp (d := .int xs.length) (g1 := g) (d2 := .int 4) (g2 := g) (len_tup (xs := xs) rfl) rfl]
    simp only [cmpD, neG_int]
    have : ¬ (xs.length : Int) = 4 := by omega
    simp [liftO, this])]
  rfl
/-- what it asks of a tuple of four whose signs are told -/
def isDef (a b c : Nat) (rw' en : D) : Bool := match rw' with
  | .tup rows => decide (1 ≤ rows.length) && (decide (rows.length ≤ 40) && (isStates rows.length en && rows.all (isRow a b c rows.length)))
  | _ => false
def SignsOk (cl : Cl) (i : Nat) : Prop := ∀ (g : G) (a b c : Nat), a ≤ 3 → b ≤ 3 → c ≤ 3 → cl i [sgT a b c] g = .ok (.bl (decide (1 ≤ a + b + c))) g
def StatesOk (cl : Cl) (i : Nat) : Prop := ∀ (g : G) (xs : List D) (m : Nat) (n : Int), tree (m + 1) (.tup xs) = true → cl i [.tup xs, .int n] g = .ok (.bl (isStates n (.tup xs))) g
def RowOk (cl : Cl) (i : Nat) : Prop := ∀ (g : G) (v : D) (a b c n : Nat), n ≤ 100000 → tree 4 v = true → cl i [v, sgT a b c, .int n] g = .ok (.bl (isRow a b c n v)) g
section
variable {cl : Cl} {sg st rw' : Nat} {g : G} {h : D} {a b c : Nat} {rws en : D}
theorem isdef_start (hs : SignsOk cl sg) (th : tree 1 h = true) (ha : a ≤ 3) (hb : b ≤ 3) (hc : c ≤ 3) : Te.or (.not (.ex (.isi (.loc 0) .tuple))) (.or (.ex (.cmp .ne (.bi .len (exCons (.loc 0) exNil)) (.cst (.int 4)))) (.or (.ex (.cmp .ne (.idx (.loc 0) (.cst (.int 0))) (.cst (.str (Str.ofString "definite"))))) (.not (.ex (.call cl sg (exCons (.idx (.loc 0) (.cst (.int 1))) exNil))))))
    [some (.tup [h, sgT a b c, rws, en]), none, none, none, none, none] g = .ok (!decide (h = .str (Str.ofString "definite")) || !decide (1 ≤ a + b + c)) g := by
  rw [t_or_f (t_not (k := true) (t_ex (isi_tup (xs := [h, sgT a b c, rws, en]) rfl)))]
  rw [t_or_f (g1 := g) (by
    refine t_ex ?_
    rw [x_cmp (d := .int 4) (g1 := g) (d2 := .int 4) (g2 := g) (len_tup (xs := [h, sgT a b c, rws, en]) rfl) rfl]
    simp only [cmpD, neG_int]
    rfl)]
  have e1 : Te.ex (.cmp .ne (.idx (.loc 0) (.cst (.int 0))) (.cst (.str (Str.ofString "definite")))) [some (.tup [h, sgT a b c, rws, en]), none, none, none, none, none] g = .ok (!decide (h = .str (Str.ofString "definite"))) g := by
    refine t_ex ?_
    rw [x_cmp (d := h) (g1 := g) (d2 := .str (Str.ofString "definite")) (g2 := g) (by simp [Ex.idx, Ex.loc, Ex.cst, DV.idx, atI, ixN, oD]) rfl]
    simp only [cmpD]
    rw [neG_str g th (by decide) (by decide +kernel)]
    rfl
  rw [t_or e1]
  cases decide (h = .str (Str.ofString "definite")) with
  | false => rfl
  | true =>
    rw [Bool.not_true, if_neg (by decide), Bool.false_or]
    refine t_not (t_ex ?_)
    rw [x_call (ds := [sgT a b c]) (g1 := g) (xs_cons (g1 := g) (by simp [Ex.idx, Ex.loc, Ex.cst, DV.idx, atI, ixN, oD]) rfl)]
    exact hs g a b c ha hb hc
theorem isdef_bad (hs : SignsOk cl sg) (th : tree 1 h = true) (ha : a ≤ 3) (hb : b ≤ 3) (hc : c ≤ 3) (hbad : (!decide (h = .str (Str.ofString "definite")) || !decide (1 ≤ a + b + c)) = true) : body 1 6 (bG_isdef cl sg st rw') [.tup [h, sgT a b c, rws, en]] g = .ok (.bl false) g := by
  refine body_rt0 rfl ?_ rfl
  unfold bG_isdef
  rw [show start 6 [.tup [h, sgT a b c, rws, en]] = [some (.tup [h, sgT a b c, rws, en]), none, none, none, none, none] from rfl]
  refine st_rt ?_
  rw [st_if (by rw [isdef_start hs th ha hb hc, hbad])]
  rfl
theorem isdef_notup (hs : SignsOk cl sg) (ha : a ≤ 3) (hb : b ≤ 3) (hc : c ≤ 3) (h1 : 1 ≤ a + b + c) (hn : noTup g rws = true) : body 1 6 (bG_isdef cl sg st rw') [.tup [.str (Str.ofString "definite"), sgT a b c, rws, en]] g = .ok (.bl false) g := by
  refine body_rt0 rfl ?_ rfl
  unfold bG_isdef
  rw [show start 6 [.tup [.str (Str.ofString "definite"), sgT a b c, rws, en]] = [some (.tup [.str (Str.ofString "definite"), sgT a b c, rws, en]), none, none, none, none, none] from rfl]
  rw [st_nx (st_no (by rw [isdef_start hs (by decide +kernel) ha hb hc, decide_eq_true rfl, decide_eq_true h1]; rfl))]
  rw [st_nx (st_asg (d := .tup [.str (Str.ofString "definite"), sgT a b c, rws, en]) (g1 := g) (g2 := g) (δ' := [some (.tup [.str (Str.ofString "definite"), sgT a b c, rws, en]), some (.str (Str.ofString "definite")), some (sgT a b c), some rws, some en, none]) rfl rfl)]
  refine st_rt ?_
  rw [st_if (g1 := g) (t_or_t (t_not (k := false) (t_ex (isi_notup (d := rws) rfl hn))))]
  rfl
theorem isdef_spec (hs : SignsOk cl sg) (hst : StatesOk cl st) (hrw : RowOk cl rw') (ha : a ≤ 3) (hb : b ≤ 3) (hc : c ≤ 3) (h1 : 1 ≤ a + b + c) {rows xs : List D} {m : Nat} (hr : tree 5 (.tup rows) = true) (he : tree (m + 1) (.tup xs) = true) :
    body 1 6 (bG_isdef cl sg st rw') [.tup [.str (Str.ofString "definite"), sgT a b c, .tup rows, .tup xs]] g = .ok (.bl (isDef a b c (.tup rows) (.tup xs))) g := by
  have hlr := (tree_sub hr).1
  have pre : ∀ r : RS, Sm.seq (.ite (.or (.not (.ex (.isi (.loc 3) .tuple))) (.or (.not (.ex (.chain .le .le (.cst (.int 1)) (.bi .len (exCons (.loc 3) exNil)) (.cst (.int 40))))) (.not (.ex (.call cl st (exCons (.loc 4) (exCons (.bi .len (exCons (.loc 3) exNil)) exNil))))))) (.ret (.cst (.bl false))) .skip)
        (.ret (.bi .all (exCons (.comp [5] (.of (.loc 3)) (.name 5) .tt (.call cl rw' (exCons (.loc 5) (exCons (.loc 2) (exCons (.bi .len (exCons (.loc 3) exNil)) exNil))))) exNil))) [some (.tup [.str (Str.ofString "definite"), sgT a b c, .tup rows, .tup xs]), some (.str (Str.ofString "definite")), some (sgT a b c), some (.tup rows), some (.tup xs), none] g = r →
      bG_isdef cl sg st rw' (start 6 [.tup [.str (Str.ofString "definite"), sgT a b c, .tup rows, .tup xs]]) g = r := by
    intro r h
    unfold bG_isdef
    rw [show start 6 [.tup [.str (Str.ofString "definite"), sgT a b c, .tup rows, .tup xs]] = [some (.tup [.str (Str.ofString "definite"), sgT a b c, .tup rows, .tup xs]), none, none, none, none, none] from rfl]
    rw [st_nx (st_no (by rw [isdef_start hs (by decide +kernel) ha hb hc, decide_eq_true rfl, decide_eq_true h1]; rfl))]
    rw [st_nx (st_asg (d := .tup [.str (Str.ofString "definite"), sgT a b c, .tup rows, .tup xs]) (g1 := g) (g2 := g) (δ' := [some (.tup [.str (Str.ofString "definite"), sgT a b c, .tup rows, .tup xs]), some (.str (Str.ofString "definite")), some (sgT a b c), some (.tup rows), some (.tup xs), none]) rfl rfl)]
    exact h
  have e2 : Te.not (.ex (.chain .le .le (.cst (.int 1)) (.bi .len (exCons (.loc 3) exNil)) (.cst (.int 40)))) [some (.tup [.str (Str.ofString "definite"), sgT a b c, .tup rows, .tup xs]), some (.str (Str.ofString "definite")), some (sgT a b c), some (.tup rows), some (.tup xs), none] g = .ok (!(decide (1 ≤ rows.length) && decide (rows.length ≤ 40))) g := by
    refine t_not (t_ex ?_)
    show (R.ok (D.int 1) g).bind _ = _
    rw [R.bind_ok, len_tup (xs := rows) rfl, R.bind_ok]
    show (match some (decide ((1 : Int) ≤ rows.length)) with
      | some true => (R.ok (D.int 40) g).bind fun z g => liftO (cmpD .le (.int rows.length) z g) g
      | some false => .ok (.bl false) g
      | none => .stuck) = _
    by_cases q : 1 ≤ rows.length
    · have q' : (1 : Int) ≤ rows.length := by omega
      rw [decide_eq_true q, decide_eq_true q', Bool.true_and]
      show R.ok (D.bl (decide ((rows.length : Int) ≤ 40))) g = _
      have z : decide ((rows.length : Int) ≤ 40) = decide (rows.length ≤ 40) := by rw [decide_eq_decide]; omega
      rw [z]
    · have q' : ¬ (1 : Int) ≤ rows.length := by omega
      rw [decide_eq_false q, decide_eq_false q']
      rfl
  have e3 : Te.not (.ex (.call cl st (exCons (.loc 4) (exCons (.bi .len (exCons (.loc 3) exNil)) exNil)))) [some (.tup [.str (Str.ofString "definite"), sgT a b c, .tup rows, .tup xs]), some (.str (Str.ofString "definite")), some (sgT a b c), some (.tup rows), some (.tup xs), none] g = .ok (!isStates rows.length (.tup xs)) g := by
    refine t_not (t_ex ?_)
    rw [x_call (ds := [.tup xs, .int rows.length]) (g1 := g) (xs_cons (g1 := g) rfl (xs_cons (g1 := g) (len_tup (xs := rows) rfl) rfl))]
    exact hst g xs m _ he
  have t1 : Te.or (.not (.ex (.isi (.loc 3) .tuple))) (.or (.not (.ex (.chain .le .le (.cst (.int 1)) (.bi .len (exCons (.loc 3) exNil)) (.cst (.int 40))))) (.not (.ex (.call cl st (exCons (.loc 4) (exCons (.bi .len (exCons (.loc 3) exNil)) exNil)))))) [some (.tup [.str (Str.ofString "definite"), sgT a b c, .tup rows, .tup xs]), some (.str (Str.ofString "definite")), some (sgT a b c), some (.tup rows), some (.tup xs), none] g
      = .ok (!((decide (1 ≤ rows.length) && decide (rows.length ≤ 40)) && isStates rows.length (.tup xs))) g := by
    rw [t_or_f (t_not (k := true) (t_ex (isi_tup (xs := rows) rfl)))]
    rw [t_or e2]
    cases (decide (1 ≤ rows.length) && decide (rows.length ≤ 40)) with
    | false => rfl
    | true =>
      rw [Bool.not_true, if_neg (by decide), e3, Bool.true_and]
  have eD : isDef a b c (.tup rows) (.tup xs) = (((decide (1 ≤ rows.length) && decide (rows.length ≤ 40)) && isStates rows.length (.tup xs)) && rows.all (isRow a b c rows.length)) := by
    show (_ && (_ && (_ && _))) = _
    generalize decide (1 ≤ rows.length) = x
    generalize decide (rows.length ≤ 40) = y
    generalize isStates rows.length (.tup xs) = z
    generalize rows.all (isRow a b c rows.length) = w
    revert x y z w
    decide
  cases hA : ((decide (1 ≤ rows.length) && decide (rows.length ≤ 40)) && isStates rows.length (.tup xs)) with
  | false =>
    refine body_rt0 rfl (pre _ ?_) rfl
    rw [hA] at t1 eD
    refine st_rt ?_
    rw [st_if t1, eD]
    rfl
  | true =>
    rw [hA] at t1 eD
    refine body_rt (t := ?t3) rfl ?h3 rfl
    case h3 =>
      refine pre _ ?_
      rw [st_nx (st_no t1)]
      refine st_ret ?_
      rw [all_comp (w := .seq rows) (xs := rows) (g := g) (δ' := fun x => [some (.tup [.str (Str.ofString "definite"), sgT a b c, .tup rows, .tup xs]), some (.str (Str.ofString "definite")), some (sgT a b c), some (.tup rows), some (.tup xs), some x]) (isRow a b c rows.length) rfl (fun _ => rfl) (fun x _ => rfl) (fun x hx => ?_) hlr]
      · rw [eD, Bool.true_and]
      · rw [x_call (ds := [x, sgT a b c, .int rows.length]) (g1 := g) (xs_cons (g1 := g) rfl (xs_cons (g1 := g) rfl (xs_cons (g1 := g) (len_tup (xs := rows) rfl) rfl)))]
        exact hrw g x a b c rows.length (by omega) ((tree_sub hr).2 x hx)
end
end DV
end
section
set_option Elab.async false
set_option linter.all false
set_option maxRecDepth 100000
set_option maxHeartbeats 1000000
namespace DV
open PySem
/-! ### _law_definite: a drawn machine -/
structure RowL where
  p : List Int
  q : List Int
  f : List Int
  k : List (List Int)
def iT (ns : List Int) : D := .tup (ns.map .int)
def rowD (r : RowL) : D := .tup [iT r.p, iT r.q, iT r.f, .tup (r.k.map iT)]
def machD (a b c : Nat) (rows : List RowL) (ends : List Int) : D := .tup [.str (Str.ofString "definite"), sgT a b c, .tup (rows.map rowD), iT ends]
structure RowGood (a b c n : Nat) (r : RowL) : Prop where
  p1 : r.p.length = c
  p2 : IntsBelow n r.p
  q1 : r.q.length = a
  q2 : IntsBelow n r.q
  f1 : r.f.length = b
  f2 : IntsBelow n r.f
  k1 : r.k.length = b
  k2 : ∀ l ∈ r.k, l.length = n * a ∧ IntsBelow n l
/-- tuple([draw(n) for s in range(e)]) -/
def drawsE (cl : Cl) (dr s : Nat) (e : Ex) : Ex := .bi .tuple (exCons (.comp [s] (.range1 e) (.name s) .tt (.call cl dr (exCons (.loc 0) (exCons (.loc 3) exNil)))) exNil)
theorem x_draws {cl : Cl} {dr t c s m : Nat} {e : Ex} {δ : Env} {g : G} {n : Int} (hd : DrawOk cl dr t c) (h0 : TapeAt t c g) (d0 : δ[0]? = some (some (.ref t))) (d3 : δ[3]? = some (some (.int n))) (s0 : s ≠ 0) (s3 : s ≠ 3) (n1 : 1 ≤ n) (n2 : n < 2 ^ 60) (hm : m ≤ 4096) (he : e δ g = .ok (.int m) g) :
    ∃ ns g', drawsE cl dr s e δ g = .ok (iT ns) g' ∧ ns.length = m ∧ IntsBelow n ns ∧ Ts t c g g' := by
  have w0 : ∀ x : Option D, ((δ.set s none).set s x)[0]? = some (some (.ref t)) := fun x => by rw [List.set_set, List.getElem?_set_ne s0]; exact d0
  have w3 : ∀ x : Option D, ((δ.set s none).set s x)[3]? = some (some (.int n)) := fun x => by rw [List.set_set, List.getElem?_set_ne s3]; exact d3
  obtain ⟨ys, g2, c1, c2, c3, c4⟩ := comp_ts (t := t) (c := c) (it := .seq (rangeD 0 (m : Int))) (xs := rangeD 0 (m : Int)) (tg := Tg.name s) (e := .call cl dr (exCons (.loc 0) (exCons (.loc 3) exNil))) (δ := DV.wipe δ [s])
    (δ' := fun y => (δ.set s none).set s (some y)) (fun y => ∃ k, y = .int k ∧ 0 ≤ k ∧ k < n) (by rw [rangeD_len]; omega) (fun _ _ => rfl) (fun _ _ _ => rfl) (fun x _ g hg => by
      obtain ⟨k, g', e1, e2, e3, e4, _⟩ := hd g n hg n1 n2
      refine ⟨.int k, g', ?_, ⟨k, rfl, e2, e3⟩, e4⟩
      rw [x_call (ds := [.ref t, .int n]) (g1 := g)]
      · exact e1
      · refine xs_cons (g1 := g) ?_ (xs_cons (g1 := g) ?_ rfl)
        · unfold Ex.loc; rw [w0]
        · unfold Ex.loc; rw [w3]) h0
  obtain ⟨ns, rfl, hn⟩ := ints_of c3
  rw [List.length_map, rangeD_len] at c2
  exact ⟨ns, g2 ++ [O.lst (ns.map D.int)], x_tuple_of (x_comp (w := .seq (rangeD 0 (m : Int))) (g1 := g) (range1_it he hm) c1), c2, hn, c4.app _⟩
def bG_def (cl : Cl) (dr : Nat) : Sm :=
  (.seq (.asg (.name 3) (.bin .add (.cst (.int 1)) (.call cl dr (exCons (.loc 0) (exCons (.loc 2) exNil)))))
  (.seq (.asg (.name 4) (.lst exNil))
  (.seq (.for (.range1 (.loc 3)) (.name 5) (.seq (.asg (.name 7) (.bi .tuple (exCons (.comp [11] (.range1 (.idx (.loc 1) (.cst (.int 3)))) (.name 11) .tt (.call cl dr (exCons (.loc 0) (exCons (.loc 3) exNil)))) exNil)))
  (.seq (.asg (.name 8) (.bi .tuple (exCons (.comp [11] (.range1 (.idx (.loc 1) (.cst (.int 1)))) (.name 11) .tt (.call cl dr (exCons (.loc 0) (exCons (.loc 3) exNil)))) exNil)))
  (.seq (.asg (.name 9) (.bi .tuple (exCons (.comp [11] (.range1 (.idx (.loc 1) (.cst (.int 2)))) (.name 11) .tt (.call cl dr (exCons (.loc 0) (exCons (.loc 3) exNil)))) exNil)))
  (.seq (.asg (.name 10) (.bi .tuple (exCons (.comp [12] (.range1 (.idx (.loc 1) (.cst (.int 2)))) (.name 12) .tt (.bi .tuple (exCons (.comp [11] (.range1 (.bin .mul (.loc 3) (.idx (.loc 1) (.cst (.int 1))))) (.name 11) .tt (.call cl dr (exCons (.loc 0) (exCons (.loc 3) exNil)))) exNil))) exNil)))
  (.ex (.mth .append (.loc 4) (exCons (.tup (exCons (.loc 7) (exCons (.loc 8) (exCons (.loc 9) (exCons (.loc 10) exNil))))) exNil))))))))
  (.seq (.asg (.name 6) (.bi .tuple (exCons (.comp [5] (.range1 (.loc 3)) (.name 5) (.ex (.cmp .eq (.call cl dr (exCons (.loc 0) (exCons (.cst (.int 2)) exNil))) (.cst (.int 0)))) (.loc 5)) exNil)))
  (.ret (.tup (exCons (.cst (.str (Str.ofString "definite"))) (exCons (.loc 1) (exCons (.bi .tuple (exCons (.loc 4) exNil)) (exCons (.loc 6) exNil))))))))))
theorem sub_range {n : Nat} {ys : List D} (h : ys.Sublist (rangeD 0 (n : Int))) : ∃ ns : List Int, ys = ns.map .int ∧ ns.length ≤ n ∧ IntsBelow n ns ∧ ascI ns = true := by
  have e : rangeD 0 (n : Int) = ((List.range n).map fun k : Nat => (k : Int)).map .int := by
    unfold rangeD
    rw [List.map_map]
    have : ((n : Int) - 0).toNat = n := by omega
    rw [this]
    refine List.map_congr_left fun k _ => ?_
    simp
  rw [e] at h
  obtain ⟨l, hl, rfl⟩ := List.sublist_map_iff.mp h
  obtain ⟨m, hm, rfl⟩ := List.sublist_map_iff.mp hl
  refine ⟨m.map fun k : Nat => (k : Int), rfl, ?_, ?_, ?_⟩
  · rw [List.length_map]; have := hm.length_le; rwa [List.length_range] at this
  · intro x hx
    obtain ⟨k, hk, rfl⟩ := List.mem_map.mp hx
    have := List.mem_range.mp (hm.subset hk)
    omega
  · have hp : m.Pairwise (· < ·) := List.Pairwise.sublist hm List.pairwise_lt_range
    clear hm hl h e
    induction m with
    | nil => rfl
    | cons a r ih =>
      cases r with
      | nil => rfl
      | cons b r =>
        rw [List.pairwise_cons] at hp
        have h1 := hp.1 b List.mem_cons_self
        have h2 := ih hp.2
        simp only [List.map_cons, ascI] at h2 ⊢
        rw [h2, Bool.and_true, decide_eq_true_eq]
        omega
theorem machD_low (k : Nat) {a b c : Nat} {rows : List RowL} {ends : List Int} : (machD a b c rows ends).low k = true := by
  have hi : ∀ ns : List Int, (iT ns).low k = true := fun ns => by show D.lows k _ = true; exact lows_ints k ns
  have hk : ∀ ls : List (List Int), D.lows k (ls.map iT) = true := fun ls => by
    induction ls with
    | nil => rfl
    | cons l r ih => rw [List.map_cons, D.lows, hi, ih]; rfl
  have hr : ∀ rs : List RowL, D.lows k (rs.map rowD) = true := fun rs => by
    induction rs with
    | nil => rfl
    | cons r rs ih =>
      rw [List.map_cons, D.lows, ih, Bool.and_true]
      show (D.low k (iT r.p) && (D.low k (iT r.q) && (D.low k (iT r.f) && (D.lows k (r.k.map iT) && true)))) = true
      rw [hi, hi, hi, hk]
      rfl
  show (true && ((D.low k (sgT a b c)) && (D.lows k (rows.map rowD) && ((iT ends).low k && true)))) = true
  rw [hr, hi]
  rfl
theorem IntsBelow.mono {n m : Int} {ns : List Int} (h : IntsBelow n ns) (hm : n ≤ m) : IntsBelow m ns := fun x hx => ⟨(h x hx).1, Int.lt_of_lt_of_le (h x hx).2 hm⟩
theorem def_spec {cl : Cl} {dr t c : Nat} {g : G} {a b cc most : Nat} (hd : DrawOk cl dr t c) (h0 : TapeAt t c g) (ha : a ≤ 3) (hb : b ≤ 3) (hc : cc ≤ 3) (hm1 : 1 ≤ most) (hm : most ≤ 50) :
    ∃ (rows : List RowL) (ends : List Int) (g' : G), body 3 13 (bG_def cl dr) [.ref t, sgT a b cc, .int most] g = .ok (machD a b cc rows ends) g' ∧ 1 ≤ rows.length ∧ rows.length ≤ most ∧ (∀ r ∈ rows, RowGood a b cc rows.length r) ∧ ends.length ≤ rows.length ∧ IntsBelow rows.length ends ∧ ascI ends = true ∧ Ts t c g g' ∧ g'.length = g.length := by
  obtain ⟨k, g1, k1, k2, k3, k4, k5⟩ := hd g (most : Int) h0 (by omega) (by omega)
  obtain ⟨j, rfl⟩ : ∃ j : Nat, k = j := ⟨k.toNat, by omega⟩
  have lt := h0.lt
  generalize hn : j + 1 = n
  have hnN : ((1 : Int) + (j : Int)) = (n : Int) := by omega
  -- the list of rows
  have rl : g1.length ≠ t ∧ g1.length ≠ c := by omega
  have loop : ∃ (rows : List RowL) (δ : Env) (g2 : G), forLoop (.seq (rangeD 0 (n : Int))) (.name 5) (Sm.seq (.asg (.name 7) (drawsE cl dr 11 (.idx (.loc 1) (.cst (.int 3)))))
      (.seq (.asg (.name 8) (drawsE cl dr 11 (.idx (.loc 1) (.cst (.int 1)))))
      (.seq (.asg (.name 9) (drawsE cl dr 11 (.idx (.loc 1) (.cst (.int 2)))))
      (.seq (.asg (.name 10) (.bi .tuple (exCons (.comp [12] (.range1 (.idx (.loc 1) (.cst (.int 2)))) (.name 12) .tt (drawsE cl dr 11 (.bin .mul (.loc 3) (.idx (.loc 1) (.cst (.int 1)))))) exNil)))
      (.ex (.mth .append (.loc 4) (exCons (.tup (exCons (.loc 7) (exCons (.loc 8) (exCons (.loc 9) (exCons (.loc 10) exNil))))) exNil))))))) fuel 0
      [some (.ref t), some (sgT a b cc), some (.int most), some (.int n), some (.ref g1.length), none, none, none, none, none, none, none, none] (g1 ++ [O.lst []]) = .ok (.nx δ) g2 ∧
      rows.length = n ∧ (∀ r ∈ rows, RowGood a b cc n r) ∧ Ts t c g g2 ∧ g2[g1.length]? = some (.lst (rows.map rowD)) ∧
      ∃ v5 v7 v8 v9 v10, δ = [some (.ref t), some (sgT a b cc), some (.int most), some (.int n), some (.ref g1.length), v5, none, v7, v8, v9, v10, none, none] := by
    refine for_steps (xs := rangeD 0 (n : Int)) (P := fun i δ g2 => ∃ rows : List RowL, rows.length = i ∧ (∀ r ∈ rows, RowGood a b cc n r) ∧ Ts t c g g2 ∧ g1.length < g2.length ∧ g2[g1.length]? = some (.lst (rows.map rowD)) ∧
      ∃ v5 v7 v8 v9 v10, δ = [some (.ref t), some (sgT a b cc), some (.int most), some (.int n), some (.ref g1.length), v5, none, v7, v8, v9, v10, none, none])
      (Q := fun r => ∃ (rows : List RowL) (δ : Env) (g2 : G), r = .ok (.nx δ) g2 ∧ rows.length = n ∧ (∀ r ∈ rows, RowGood a b cc n r) ∧ Ts t c g g2 ∧ g2[g1.length]? = some (.lst (rows.map rowD)) ∧
      ∃ v5 v7 v8 v9 v10, δ = [some (.ref t), some (sgT a b cc), some (.int most), some (.int n), some (.ref g1.length), v5, none, v7, v8, v9, v10, none, none]) (fun _ _ _ _ => rfl) ?_ ?_ fuel 0 _ _ ?_ (Nat.zero_le _) (by rw [rangeD_len]; unfold fuel; omega)
    · rintro i x δ g2 hx ⟨rows, r1, r2, r3, r4, r5, v5, v7, v8, v9, v10, rfl⟩
      have hi := (List.getElem?_eq_some_iff.mp hx).1
      rw [rangeD_len] at hi
      refine ⟨[some (.ref t), some (sgT a b cc), some (.int most), some (.int n), some (.ref g1.length), some x, none, v7, v8, v9, v10, none, none], g2, rfl, .inl ?_⟩
      have n2 : (n : Int) < 2 ^ 60 := by omega
      have n1 : (1 : Int) ≤ n := by omega
      obtain ⟨p, ga, pa, pb, pc, pd⟩ := x_draws (s := 11) (m := cc) (e := .idx (.loc 1) (.cst (.int 3))) (δ := [some (.ref t), some (sgT a b cc), some (.int most), some (.int n), some (.ref g1.length), some x, none, v7, v8, v9, v10, none, none]) hd r3.tp rfl rfl (by decide) (by decide) n1 n2 (by omega) (by simp [Ex.idx, Ex.loc, Ex.cst, sgT, DV.idx, atI, ixN, oD])
      obtain ⟨q, gb, qa, qb, qc, qd⟩ := x_draws (s := 11) (m := a) (e := .idx (.loc 1) (.cst (.int 1))) (δ := [some (.ref t), some (sgT a b cc), some (.int most), some (.int n), some (.ref g1.length), some x, none, some (iT p), v8, v9, v10, none, none]) hd pd.tp rfl rfl (by decide) (by decide) n1 n2 (by omega) (by simp [Ex.idx, Ex.loc, Ex.cst, sgT, DV.idx, atI, ixN, oD])
      obtain ⟨f, gc, fa, fb, fc, fd⟩ := x_draws (s := 11) (m := b) (e := .idx (.loc 1) (.cst (.int 2))) (δ := [some (.ref t), some (sgT a b cc), some (.int most), some (.int n), some (.ref g1.length), some x, none, some (iT p), some (iT q), v9, v10, none, none]) hd qd.tp rfl rfl (by decide) (by decide) n1 n2 (by omega) (by simp [Ex.idx, Ex.loc, Ex.cst, sgT, DV.idx, atI, ixN, oD])
      obtain ⟨ys, gd, c1, c2, c3, c4⟩ := comp_ts (t := t) (c := c) (it := .seq (rangeD 0 (b : Int))) (xs := rangeD 0 (b : Int)) (tg := Tg.name 12) (e := drawsE cl dr 11 (.bin .mul (.loc 3) (.idx (.loc 1) (.cst (.int 1))))) (δ := [some (.ref t), some (sgT a b cc), some (.int most), some (.int n), some (.ref g1.length), some x, none, some (iT p), some (iT q), some (iT f), v10, none, none])
        (δ' := fun y => [some (.ref t), some (sgT a b cc), some (.int most), some (.int n), some (.ref g1.length), some x, none, some (iT p), some (iT q), some (iT f), v10, none, some y]) (fun y => ∃ l : List Int, y = iT l ∧ l.length = n * a ∧ IntsBelow n l) (by rw [rangeD_len]; omega) (fun _ _ => rfl) (fun _ _ _ => rfl) (fun y _ g' hg => by
          have hna : n * a ≤ 4096 := by
            have : n * a ≤ 51 * 3 := Nat.mul_le_mul (by omega) ha
            omega
          obtain ⟨l, g'', l1, l2, l3, l4⟩ := x_draws (s := 11) (m := n * a) (e := .bin .mul (.loc 3) (.idx (.loc 1) (.cst (.int 1)))) (δ := [some (.ref t), some (sgT a b cc), some (.int most), some (.int n), some (.ref g1.length), some x, none, some (iT p), some (iT q), some (iT f), v10, none, some y]) hd hg rfl rfl (by decide) (by decide) n1 n2 hna (by
            rw [x_bin (d := .int n) (g1 := g') (d2 := .int a) (g2 := g') rfl (by simp [Ex.idx, Ex.loc, Ex.cst, sgT, DV.idx, atI, ixN, oD])]
            rw [mul_int (by omega)]
            simp)
          exact ⟨_, g'', l1, ⟨l, rfl, l2, l3⟩, l4⟩) fd.tp
      obtain ⟨ks, rfl, hks⟩ : ∃ ks : List (List Int), ys = ks.map iT ∧ ∀ l ∈ ks, l.length = n * a ∧ IntsBelow n l := by
        clear c1 c2
        induction ys with
        | nil => exact ⟨[], rfl, by simp⟩
        | cons y ys ih =>
          obtain ⟨l, rfl, l1⟩ := c3 y List.mem_cons_self
          obtain ⟨ks, rfl, h⟩ := ih fun z hz => c3 z (List.mem_cons_of_mem _ hz)
          exact ⟨l :: ks, rfl, fun z hz => by rcases List.mem_cons.mp hz with rfl | hz; exact l1; exact h z hz⟩
      rw [List.length_map, rangeD_len] at c2
      have Tf : Ts t c g2 (gd ++ [O.lst (ks.map iT)]) := (((pd.trans qd).trans fd).trans c4).app _
      have hrow : (gd ++ [O.lst (ks.map iT)])[g1.length]? = some (.lst (rows.map rowD)) := by
        rw [Tf.old _ r4 rl.1 rl.2]; exact r5
      have hlt : g1.length < (gd ++ [O.lst (ks.map iT)]).length := Nat.lt_of_lt_of_le r4 Tf.len
      let R : RowL := ⟨p, q, f, ks⟩
      refine ⟨[some (.ref t), some (sgT a b cc), some (.int most), some (.int n), some (.ref g1.length), some x, none, some (iT p), some (iT q), some (iT f), some (.tup (ks.map iT)), none, none], (gd ++ [O.lst (ks.map iT)]).set g1.length (.lst ((rows ++ [R]).map rowD)), .inl ?_, rows ++ [R], by simp [r1], fun r hr => ?_, ?_, by simpa using hlt, List.getElem?_set_self hlt, _, _, _, _, _, rfl⟩
      · rw [st_nx (st_set (i := 7) pa)]
        simp only [List.set_cons_succ, List.set_cons_zero]
        rw [st_nx (st_set (i := 8) qa)]
        simp only [List.set_cons_succ, List.set_cons_zero]
        rw [st_nx (st_set (i := 9) fa)]
        simp only [List.set_cons_succ, List.set_cons_zero]
        rw [st_nx (st_set (i := 10) (x_tuple_of (x_comp (w := .seq (rangeD 0 (b : Int))) (g1 := gc) (range1_it (n := b) (by simp [Ex.idx, Ex.loc, Ex.cst, sgT, DV.idx, atI, ixN, oD]) (by omega)) c1)))]
        simp only [List.set_cons_succ, List.set_cons_zero]
        refine st_ex (d := .non) ?_
        simp [Ex.mth, Ex.loc, isL, Mt.onLst, hrow, exCons, exNil, Ex.tup, DV.mth, LINE, R, rowD]
        omega
      · rcases List.mem_append.mp hr with hr | hr
        · exact r2 r hr
        · rw [List.mem_singleton] at hr
          subst hr
          exact ⟨pb, pc, qb, qc, fb, fc, c2, hks⟩
      · have T2 := r3.trans Tf
        refine ⟨?_, by simpa using T2.len, fun i hi e1 e2 => ?_⟩
        · obtain ⟨z1, cs, s, z2, z3, z4⟩ := T2.tp
          exact ⟨z1, cs, s, by rw [List.getElem?_set_ne rl.1]; exact z2, by rw [List.getElem?_set_ne rl.2]; exact z3, z4⟩
        · rw [List.getElem?_set_ne (by omega)]; exact T2.old i hi e1 e2
    · rintro δ g2 ⟨rows, r1, r2, r3, r4, r5, r6⟩
      rw [rangeD_len] at r1
      exact ⟨rows, δ, g2, rfl, r1, r2, r3, r5, r6⟩
    · exact ⟨[], rfl, by simp, k4.app _, by simp, by simp, none, none, none, none, none, rfl⟩
  obtain ⟨rows, δ, g2, hf, r1, r2, r3, r5, v5, v7, v8, v9, v10, rfl⟩ := loop
  -- the ends
  obtain ⟨ys, g3, c1, c2, c3⟩ := comp_fts (t := t) (c := c) (it := .seq (rangeD 0 (n : Int))) (xs := rangeD 0 (n : Int)) (tg := Tg.name 5) (cc := .ex (.cmp .eq (.call cl dr (exCons (.loc 0) (exCons (.cst (.int 2)) exNil))) (.cst (.int 0)))) (e := .loc 5) (δ := [some (.ref t), some (sgT a b cc), some (.int most), some (.int n), some (.ref g1.length), none, none, v7, v8, v9, v10, none, none])
    (δ' := fun y => [some (.ref t), some (sgT a b cc), some (.int most), some (.int n), some (.ref g1.length), some y, none, v7, v8, v9, v10, none, none]) (by rw [rangeD_len]; omega) (fun _ _ => rfl) (fun _ _ _ => rfl) (fun y _ g' hg => by
      obtain ⟨k, g'', e1, e2, e3, e4, _⟩ := hd g' 2 hg (by omega) (by omega)
      refine ⟨decide (k = 0), g'', t_ex ?_, e4⟩
      rw [x_cmp (d := .int k) (g1 := g'') (d2 := .int 0) (g2 := g'') (by rw [x_call (ds := [.ref t, .int 2]) (g1 := g') rfl]; exact e1) rfl]
      simp only [cmpD, eqG_int]
      rfl) (fun y _ g' => rfl) r3.tp
  obtain ⟨ends, rfl, e1, e2, e3⟩ := sub_range c2
  have hrow : (g3 ++ [O.lst (ends.map .int)])[g1.length]? = some (.lst (rows.map rowD)) := by
    have lt2 := (List.getElem?_eq_some_iff.mp r5).1
    rw [List.getElem?_append_left (Nat.lt_of_lt_of_le lt2 c3.len), c3.old _ lt2 rl.1 rl.2]; exact r5
  have e : bG_def cl dr (start 13 [.ref t, sgT a b cc, .int most]) g = .ok (.rt (machD a b cc rows ends)) (g3 ++ [O.lst (ends.map .int)]) := by
    unfold bG_def
    rw [show start 13 [.ref t, sgT a b cc, .int most] = [some (.ref t), some (sgT a b cc), some (.int most), none, none, none, none, none, none, none, none, none, none] from rfl]
    rw [st_nx (st_set (i := 3) (d := .int n) (g1 := g1) (by
      rw [x_bin (d := .int 1) (g1 := g) (d2 := .int j) (g2 := g1) rfl (by rw [x_call (ds := [.ref t, .int most]) (g1 := g) rfl]; exact k1)]
      show R.ok (D.int (1 + (j : Int))) g1 = _
      rw [hnN]))]
    simp only [List.set_cons_succ, List.set_cons_zero]
    rw [st_nx (st_set (i := 4) (d := .ref g1.length) (g1 := g1 ++ [O.lst []]) (x_lst (ds := []) (g1 := g1) rfl (by decide)))]
    simp only [List.set_cons_succ, List.set_cons_zero]
    rw [st_nx (by rw [st_for (range1_it (n := n) (g' := g1 ++ [O.lst []]) rfl (by omega))]; exact hf)]
    rw [st_nx (st_set (i := 6) (x_tuple_of (x_comp (w := .seq (rangeD 0 (n : Int))) (g1 := g2) (range1_it (n := n) rfl (by omega)) c1)))]
    simp only [List.set_cons_succ, List.set_cons_zero]
    refine st_ret ?_
    refine x_tup (ds := [.str (Str.ofString "definite"), sgT a b cc, .tup (rows.map rowD), iT ends]) (xs_cons (g1 := g3 ++ [O.lst (ends.map .int)]) rfl (xs_cons (g1 := g3 ++ [O.lst (ends.map .int)]) rfl (xs_cons (g1 := g3 ++ [O.lst (ends.map .int)]) ?_ rfl))) (by show 4 ≤ LINE; decide)
    rw [x_bi (ds := [.ref g1.length]) (g1 := g3 ++ [O.lst (ends.map .int)]) rfl]
    simp [bi, itemsK, hrow]
  obtain ⟨g4, h5, h6, h7⟩ := body_tape (np := 3) (n := 13) (ds := [.ref t, sgT a b cc, .int most]) h0 rfl e ((r3.trans c3).app _) (machD_low _)
  exact ⟨rows, ends, g4, h5, by omega, by omega, by rw [r1]; exact r2, by omega, by rw [r1]; exact e2, e3, h6, h7⟩
end DV
end
section
set_option Elab.async false
set_option linter.all false
set_option maxRecDepth 100000
namespace DV
open PySem
/-! ### straight code by simp -/
theorem hush_exc_n {α : Type} (a : α) (g : G) : R.hush (R.ok a g) = .ok a g := rfl
theorem sm_seq (a b : Sm) (δ : Env) (g : G) : Sm.seq a b δ g = (a δ g).seq b := rfl
theorem sm_asg (t : Tg) (e : Ex) (δ : Env) (g : G) : Sm.asg t e δ g = (e δ g).thenS δ fun d g => (R.hush (t d δ g)).thenS δ fun δ' g => .ok (.nx δ') g := rfl
theorem sm_ex (e : Ex) (δ : Env) (g : G) : Sm.ex e δ g = (e δ g).thenS δ fun _ g => .ok (.nx δ) g := rfl
theorem sm_ret (e : Ex) (δ : Env) (g : G) : Sm.ret e δ g = (e δ g).thenS δ fun d g => .ok (.rt d) g := rfl
theorem sm_ite (c : Te) (a b : Sm) (δ : Env) (g : G) : Sm.ite c a b δ g = (c δ g).thenS δ fun t g => if t then a δ g else b δ g := rfl
theorem sm_raise (c : Nat) (e : Ex) (δ : Env) (g : G) : Sm.raise c e δ g = (e δ g).thenS δ fun x g => .exc c x δ g := rfl
theorem sm_skip (δ : Env) (g : G) : Sm.skip δ g = .ok (.nx δ) g := rfl
theorem sm_brk (δ : Env) (g : G) : Sm.brk δ g = .ok (.bk δ) g := rfl
theorem sm_cnt (δ : Env) (g : G) : Sm.cnt δ g = .ok (.ct δ) g := rfl
theorem sm_par (i j : Nat) (a b : Ex) (δ : Env) (g : G) : Sm.par i j a b δ g = (a δ g).thenS δ fun x g => (b δ g).thenS δ fun y g => .ok (.nx ((δ.set i (some x)).set j (some y))) g := rfl
theorem ex_loc0 (d : D) (δ : Env) (g : G) : Ex.loc 0 (some d :: δ) g = .ok d g := rfl
theorem ex_locS (n : Nat) (x : Option D) (δ : Env) (g : G) : Ex.loc (n + 1) (x :: δ) g = Ex.loc n δ g := rfl
theorem ex_cst (d : D) (δ : Env) (g : G) : Ex.cst d δ g = .ok d g := rfl
theorem ex_nil (δ : Env) (g : G) : exNil δ g = .ok [] g := rfl
theorem ex_cons (e : Ex) (es : Exs) (δ : Env) (g : G) : exCons e es δ g = (e δ g).bind fun d g => (es δ g).bind fun ds g => .ok (d :: ds) g := rfl
theorem ex_tup (es : Exs) (δ : Env) (g : G) : Ex.tup es δ g = (es δ g).bind fun ds g => if ds.length ≤ LINE then .ok (.tup ds) g else .stuck := rfl
theorem ex_lst (es : Exs) (δ : Env) (g : G) : Ex.lst es δ g = (es δ g).bind fun ds g => if ds.length ≤ LINE then .ok (.ref g.length) (g ++ [.lst ds]) else .stuck := rfl
theorem ex_bin (o : Op) (a b : Ex) (δ : Env) (g : G) : Ex.bin o a b δ g = (a δ g).bind fun x g => (b δ g).bind fun y g => binop o x y g := rfl
theorem ex_cmp (o : Cmp) (a b : Ex) (δ : Env) (g : G) : Ex.cmp o a b δ g = (a δ g).bind fun x g => (b δ g).bind fun y g => liftO (cmpD o x y g) g := rfl
theorem ex_idx (a b : Ex) (δ : Env) (g : G) : Ex.idx a b δ g = (a δ g).bind fun x g => (b δ g).bind fun y g => DV.idx x y g := rfl
theorem ex_bi (b : Bi) (es : Exs) (δ : Env) (g : G) : Ex.bi b es δ g = (es δ g).bind fun ds g => DV.bi b ds g := rfl
theorem ex_call (cl : Cl) (f : Nat) (es : Exs) (δ : Env) (g : G) : Ex.call cl f es δ g = (es δ g).bind fun ds g => cl f ds g := rfl
theorem ex_mth (m : Mt) (a : Ex) (es : Exs) (δ : Env) (g : G) : Ex.mth m a es δ g = (a δ g).bind fun x g => if isL m.onLst g x then (es δ g).bind fun ds g => DV.mth m x ds g else .stuck := rfl
theorem ex_fld (T : Clss) (a : Ex) (f : Str) (δ : Env) (g : G) : Ex.fld T a f δ g = (a δ g).bind fun x g => DV.fld T x f g := rfl
theorem ex_isi (a : Ex) (t : Ty) (δ : Env) (g : G) : Ex.isi a t δ g = (a δ g).bind fun x g => liftO (isTy g t x) g := rfl
theorem ex_neg (a : Ex) (δ : Env) (g : G) : Ex.neg a δ g = (a δ g).bind fun x g => match x with
  | .int i => .ok (.int (-i)) g
  | _ => .stuck := rfl
theorem ex_and (a b : Ex) (δ : Env) (g : G) : Ex.and a b δ g = (a δ g).bind fun x g => match x with
  | .bl true => b δ g
  | .bl false => .ok (.bl false) g
  | _ => .stuck := rfl
theorem ex_or (a b : Ex) (δ : Env) (g : G) : Ex.or a b δ g = (a δ g).bind fun x g => match x with
  | .bl true => .ok (.bl true) g
  | .bl false => b δ g
  | _ => .stuck := rfl
theorem ex_not (a : Ex) (δ : Env) (g : G) : Ex.not a δ g = (a δ g).bind fun x g => match x with
  | .bl b => .ok (.bl (!b)) g
  | _ => .stuck := rfl
theorem ex_ite (c : Te) (a b : Ex) (δ : Env) (g : G) : Ex.ite c a b δ g = (c δ g).bind fun t g => if t then a δ g else b δ g := rfl
theorem te_ex (e : Ex) (δ : Env) (g : G) : Te.ex e δ g = (e δ g).bind fun x g => match truth g x with
  | some b => .ok b g
  | none => .stuck := rfl
theorem te_and (a b : Te) (δ : Env) (g : G) : Te.and a b δ g = (a δ g).bind fun c g => if c then b δ g else .ok false g := rfl
theorem te_or (a b : Te) (δ : Env) (g : G) : Te.or a b δ g = (a δ g).bind fun c g => if c then .ok true g else b δ g := rfl
theorem te_not (a : Te) (δ : Env) (g : G) : Te.not a δ g = (a δ g).bind fun c g => .ok (!c) g := rfl
theorem te_tt (δ : Env) (g : G) : Te.tt δ g = .ok true g := rfl
theorem tg_name (i : Nat) (d : D) (δ : Env) (g : G) : Tg.name i d δ g = .ok (δ.set i (some d)) g := rfl
theorem tg_tup (n : Nat) (u : Tgs) (ds : List D) (δ : Env) (g : G) (h : ds.length = n) : Tg.tup n u (.tup ds) δ g = u ds δ g := by show (if _ then _ else _) = _; rw [if_pos h]
theorem tgs_nil (δ : Env) (g : G) : tgNil [] δ g = .ok δ g := rfl
theorem tgs_cons (t : Tg) (u : Tgs) (d : D) (ds : List D) (δ : Env) (g : G) : tgCons t u (d :: ds) δ g = (t d δ g).bind fun δ g => u ds δ g := rfl
theorem tg_fld (T : Clss) (o : Ex) (f : Str) (d : D) (δ : Env) (g : G) : Tg.fld T o f d δ g = (o δ g).bind fun x g => (setF T x f d g).bind fun _ g => .ok δ g := rfl
theorem tg_sub (o i : Ex) (d : D) (δ : Env) (g : G) : Tg.sub o i d δ g = (o δ g).bind fun x g => (i δ g).bind fun k g => (setI x k d g).bind fun _ g => .ok δ g := rfl
theorem liftO_s (b : Bool) (g : G) : liftO (some b) g = .ok (.bl b) g := rfl
theorem oD_s (d : D) (g : G) : oD (some d) g = .ok d g := rfl
theorem cmp_lt (i j : Int) (g : G) : cmpD .lt (.int i) (.int j) g = some (decide (i < j)) := rfl
theorem cmp_le (i j : Int) (g : G) : cmpD .le (.int i) (.int j) g = some (decide (i ≤ j)) := rfl
theorem cmp_gt (i j : Int) (g : G) : cmpD .gt (.int i) (.int j) g = some (decide (j < i)) := rfl
theorem cmp_ge (i j : Int) (g : G) : cmpD .ge (.int i) (.int j) g = some (decide (j ≤ i)) := rfl
theorem cmp_eqi (i j : Int) (g : G) : cmpD .eq (.int i) (.int j) g = some (decide (i = j)) := eqG_int g i j
theorem cmp_nei (i j : Int) (g : G) : cmpD .ne (.int i) (.int j) g = some (!decide (i = j)) := neG_int g i j
theorem cmp_isN (x : D) (g : G) : cmpD .isN x .non g = some (decide (x = .non)) := by cases x <;> rfl
theorem cmp_notN (x : D) (g : G) : cmpD .notN x .non g = some (!decide (x = .non)) := by cases x <;> rfl
theorem isN_non (g : G) : cmpD .isN .non .non g = some true := rfl
theorem ntN_non (g : G) : cmpD .notN .non .non g = some false := rfl
theorem isN_int (i : Int) (g : G) : cmpD .isN (.int i) .non g = some false := rfl
theorem ntN_int (i : Int) (g : G) : cmpD .notN (.int i) .non g = some true := rfl
theorem isN_bl (i : Bool) (g : G) : cmpD .isN (.bl i) .non g = some false := rfl
theorem ntN_bl (i : Bool) (g : G) : cmpD .notN (.bl i) .non g = some true := rfl
theorem isN_str (i : Str) (g : G) : cmpD .isN (.str i) .non g = some false := rfl
theorem ntN_str (i : Str) (g : G) : cmpD .notN (.str i) .non g = some true := rfl
theorem isN_tup (i : List D) (g : G) : cmpD .isN (.tup i) .non g = some false := rfl
theorem ntN_tup (i : List D) (g : G) : cmpD .notN (.tup i) .non g = some true := rfl
theorem isN_ref (i : Nat) (g : G) : cmpD .isN (.ref i) .non g = some false := rfl
theorem ntN_ref (i : Nat) (g : G) : cmpD .notN (.ref i) .non g = some true := rfl
theorem truth_bl (b : Bool) (g : G) : truth g (.bl b) = some b := rfl
theorem add_int (i j : Int) (g : G) : binop .add (.int i) (.int j) g = .ok (.int (i + j)) g := rfl
theorem sub_int (i j : Int) (g : G) : binop .sub (.int i) (.int j) g = .ok (.int (i - j)) g := rfl
theorem bi_int_b (b : Bool) (g : G) : bi .int [.bl b] g = .ok (.int (if b then 1 else 0)) g := rfl
theorem bi_int_i (i : Int) (g : G) : bi .int [.int i] g = .ok (.int i) g := rfl
theorem bi_len_t (xs : List D) (g : G) : bi .len [.tup xs] g = .ok (.int xs.length) g := rfl
theorem bi_tuple_t (xs : List D) (g : G) : bi .tuple [.tup xs] g = .ok (.tup xs) g := rfl
theorem ex_slc (a : Ex) (lo hi : Po) (δ : Env) (g : G) : Ex.slc a lo hi δ g = (a δ g).bind fun x g => (lo δ g).bind fun l g => (hi δ g).bind fun h g => DV.slc x l h g := rfl
theorem po_no_ (δ : Env) (g : G) : Po.no δ g = .ok none g := rfl
theorem po_at_ (e : Ex) (δ : Env) (g : G) : Po.at e δ g = (e δ g).bind fun x g => match x with
  | .int i => .ok (some i) g
  | _ => .stuck := rfl
theorem slc_tup_ (xs : List D) (lo hi : Option Int) (g : G) : DV.slc (.tup xs) lo hi g = .ok (.tup (cut xs lo hi)) g := rfl
theorem add_tup {xs ys : List D} {g : G} (h : xs.length + ys.length ≤ LINE) : binop .add (.tup xs) (.tup ys) g = .ok (.tup (xs ++ ys)) g := by
  show (if _ then _ else _) = _
  rw [if_pos h]
theorem ex_rev_t {a : Ex} {xs : List D} {δ : Env} {g g1 : G} (h : a δ g = .ok (.tup xs) g1) : Ex.rev a δ g = .ok (.tup xs.reverse) g1 := by
  show (a δ g).bind _ = _
  rw [h]; rfl
theorem cut_from {α : Type} (xs : List α) (k : Nat) : cut xs (some (k : Int)) none = xs.drop k := by
  unfold cut sIx
  simp only
  rw [if_neg (by omega), Int.toNat_natCast]
  by_cases h : k ≤ xs.length
  · rw [Nat.min_eq_left h, List.take_of_length_le (by rw [List.length_drop]; omega)]
  · rw [Nat.min_eq_right (by omega), List.drop_of_length_le (Nat.le_refl _), List.drop_of_length_le (by omega)]
    simp
theorem cut_to {α : Type} (xs : List α) (k : Nat) : cut xs none (some (k : Int)) = xs.take k := by
  unfold cut sIx
  simp only
  rw [if_neg (by omega), Int.toNat_natCast, List.drop_zero, Nat.sub_zero]
  by_cases h : k ≤ xs.length
  · rw [Nat.min_eq_left h]
  · rw [Nat.min_eq_right (by omega), List.take_of_length_le (Nat.le_refl _), List.take_of_length_le (by omega)]
theorem cut_mid {α : Type} (xs : List α) (i j : Nat) (h : i ≤ xs.length) : cut xs (some (i : Int)) (some (j : Int)) = (xs.drop i).take (j - i) := by
  unfold cut sIx
  simp only
  rw [if_neg (by omega), if_neg (by omega), Int.toNat_natCast, Int.toNat_natCast, Nat.min_eq_left h]
  by_cases hj : j ≤ xs.length
  · rw [Nat.min_eq_left hj]
  · rw [Nat.min_eq_right (by omega), List.take_of_length_le (by rw [List.length_drop]; omega), List.take_of_length_le (by rw [List.length_drop]; omega)]
theorem idx_tup (xs : List D) (i : Int) (g : G) : DV.idx (.tup xs) (.int i) g = oD (atI xs i) g := rfl
theorem atI_0 {α : Type} (x : α) (xs : List α) : atI (x :: xs) 0 = some x := by
  have := atI_nat (xs := x :: xs) (k := 0) (by simp)
  simpa using this
theorem atI_c {α : Type} (x : α) (xs : List α) (n : Nat) : atI (x :: xs) ((n + 1 : Nat) : Int) = atI xs (n : Int) := by
  have e1 : ∀ (ys : List α) (k : Nat), atI ys (k : Int) = ys[k]? := by
    intro ys k
    unfold atI ixN
    by_cases h : k < ys.length
    · rw [if_pos (by omega), if_pos (by omega)]
      simp
    · rw [if_pos (by omega), if_neg (by omega), List.getElem?_eq_none (by omega)]
      rfl
  rw [e1, e1]
  rfl
theorem atI_1 {α : Type} (x y : α) (xs : List α) : atI (x :: y :: xs) 1 = some y := (atI_c x (y :: xs) 0).trans (atI_0 _ _)
theorem atI_2 {α : Type} (x y z : α) (xs : List α) : atI (x :: y :: z :: xs) 2 = some z := (atI_c x (y :: z :: xs) 1).trans (atI_1 _ _ _)
theorem atI_3 {α : Type} (x y z u : α) (xs : List α) : atI (x :: y :: z :: u :: xs) 3 = some u := (atI_c x (y :: z :: u :: xs) 2).trans (atI_2 _ _ _ _)
theorem idx_sg1 (a b c : Nat) (g : G) : DV.idx (sgT a b c) (.int 1) g = .ok (.int a) g := by unfold sgT; rw [idx_tup, atI_1]; rfl
theorem idx_sg2 (a b c : Nat) (g : G) : DV.idx (sgT a b c) (.int 2) g = .ok (.int b) g := by unfold sgT; rw [idx_tup, atI_2]; rfl
theorem idx_sg3 (a b c : Nat) (g : G) : DV.idx (sgT a b c) (.int 3) g = .ok (.int c) g := by unfold sgT; rw [idx_tup, atI_3]; rfl
theorem isTy_tt (xs : List D) (g : G) (t : Ty) : isTy g t (.tup xs) = some (t.is .tuple) := rfl
theorem isTy_i (i : Int) (g : G) (t : Ty) : isTy g t (.int i) = some (t.is .int) := rfl
theorem isTy_s (i : Str) (g : G) (t : Ty) : isTy g t (.str i) = some (t.is .str) := rfl
theorem isTy_n (g : G) (t : Ty) : isTy g t .non = some false := rfl
theorem idx_ref (a : Nat) (xs : List D) (i : Int) (g : G) (h : g[a]? = some (.lst xs)) : DV.idx (.ref a) (.int i) g = oD (atI xs i) g := by
  simp only [DV.idx, h]
theorem len_ref (a : Nat) (xs : List D) (g : G) (h : g[a]? = some (.lst xs)) : bi .len [.ref a] g = .ok (.int xs.length) g := by
  simp only [DV.bi, lenD, h]
theorem isL_ref (a : Nat) (xs : List D) (g : G) (h : g[a]? = some (.lst xs)) : isL true g (.ref a) = true := by
  simp only [isL, h]
theorem app_ref (a : Nat) (xs : List D) (x : D) (g : G) (h : g[a]? = some (.lst xs)) (hl : xs.length < LINE) : mth .append (.ref a) [x] g = .ok .non (g.set a (.lst (xs ++ [x]))) := by
  simp only [mth, h, if_pos hl]
theorem pop_ref (a : Nat) (xs : List D) (x : D) (g : G) (h : g[a]? = some (.lst (xs ++ [x]))) : mth .pop (.ref a) [] g = .ok x (g.set a (.lst xs)) := by
  simp only [mth, h, List.getLast?_append, List.getLast?_singleton, Option.some_or, List.dropLast_concat]
theorem tuple_ref (a : Nat) (xs : List D) (g : G) (h : g[a]? = some (.lst xs)) : bi .tuple [.ref a] g = .ok (.tup xs) g := by
  simp only [DV.bi, itemsK, h]
theorem fld_ref {T : Clss} {a c : Nat} {fs : List (Str × D)} {f : Str} {k : Cls} {d : D} {g : G} (h : g[a]? = some (.ins c fs)) (hT : T[c]? = some k) (hf : k.fields.contains f = true) (hd : fs.lookup f = some d) : DV.fld T (.ref a) f g = .ok d g := by
  simp only [DV.fld, h, hT, hf, if_true, hd, oD]
theorem nci0 : ((0 : Nat) : Int) = 0 := rfl
theorem nci1 : ((1 : Nat) : Int) = 1 := rfl
theorem nci2 : ((2 : Nat) : Int) = 2 := rfl
theorem nci3 : ((3 : Nat) : Int) = 3 := rfl
theorem nci4 : ((4 : Nat) : Int) = 4 := rfl
theorem nci5 : ((5 : Nat) : Int) = 5 := rfl
theorem nci6 : ((6 : Nat) : Int) = 6 := rfl
theorem nci7 : ((7 : Nat) : Int) = 7 := rfl
theorem nci8 : ((8 : Nat) : Int) = 8 := rfl
theorem lle0 : (0 ≤ LINE) = True := by simp [LINE]
theorem lle1 : (1 ≤ LINE) = True := by simp [LINE]
theorem lle2 : (2 ≤ LINE) = True := by simp [LINE]
theorem lle3 : (3 ≤ LINE) = True := by simp [LINE]
theorem lle4 : (4 ≤ LINE) = True := by simp [LINE]
theorem lle5 : (5 ≤ LINE) = True := by simp [LINE]
theorem lle6 : (6 ≤ LINE) = True := by simp [LINE]
theorem lle7 : (7 ≤ LINE) = True := by simp [LINE]
theorem lle8 : (8 ≤ LINE) = True := by simp [LINE]
theorem lle9 : (9 ≤ LINE) = True := by simp [LINE]
theorem lle10 : (10 ≤ LINE) = True := by simp [LINE]
theorem lle11 : (11 ≤ LINE) = True := by simp [LINE]
theorem lle12 : (12 ≤ LINE) = True := by simp [LINE]
end DV
end
open DV PySem in
local macro_rules
  | `(tactic| simp! [$ts,*]) => `(tactic| simp only [sm_seq, sm_asg, sm_ex, sm_ret, sm_ite, sm_raise, sm_skip, sm_brk, sm_cnt, sm_par, ex_loc0, ex_locS, ex_cst, ex_nil, ex_cons, ex_tup, ex_lst, ex_bin, ex_cmp, ex_idx, ex_bi, ex_call, ex_mth, ex_fld, ex_isi, ex_neg, ex_and, ex_or, ex_not, ex_ite, te_ex, te_and, te_or, te_not, te_tt,
      tg_name, tg_tup, tgs_nil, tgs_cons, tg_fld, tg_sub, liftO_s, oD_s, cmp_lt, cmp_le, cmp_gt, cmp_ge, cmp_eqi, cmp_nei, isN_non, ntN_non, isN_int, ntN_int, isN_bl, ntN_bl, isN_str, ntN_str, isN_tup, ntN_tup, isN_ref, ntN_ref, truth_bl, add_int, sub_int, bi_int_b, bi_int_i, bi_len_t, bi_tuple_t, ex_slc, po_no_, po_at_, slc_tup_, idx_tup, atI_0, atI_1, atI_2, atI_3, idx_sg1, idx_sg2, idx_sg3, isTy_tt, isTy_i, isTy_s, isTy_n, Ty.is, Mt.onLst,
      R.bind_ok, R.bind_exc, R.thenS_ok, R.thenS_exc, R.hush_ok, RS.seq_nx, RS.seq_rt, RS.seq_bk, RS.seq_ct, RS.seq_exc, List.set_cons_zero, List.set_cons_succ, List.length_cons, List.length_nil, if_true, if_false, Bool.false_eq_true, Bool.not_true, Bool.not_false, reduceIte, decide_true, decide_false, decide_eq_true_eq, eq_self, List.replicate, Nat.reduceAdd, Nat.zero_add, nci0, nci1, nci2, nci3, nci4, nci5, nci6, nci7, nci8, lle0, lle1, lle2, lle3, lle4, lle5, lle6, lle7, lle8, lle9, lle10, lle11, lle12, $ts,*])
section
set_option Elab.async false
set_option linter.all false
set_option maxRecDepth 100000
namespace DV
open PySem
/-! ### what stood before stands -/
def Pre (g g' : G) : Prop := ∃ t, g' = g ++ t
theorem Pre.refl (g : G) : Pre g g := ⟨[], by simp⟩
theorem Pre.trans {g g1 g2 : G} (a : Pre g g1) (b : Pre g1 g2) : Pre g g2 := by
  obtain ⟨t, rfl⟩ := a
  obtain ⟨u, rfl⟩ := b
  exact ⟨t ++ u, by rw [List.append_assoc]⟩
theorem Pre.push {g g' : G} (a : Pre g g') (o : O) : Pre g (g' ++ [o]) := a.trans ⟨[o], rfl⟩
theorem Pre.set {g g' : G} (a : Pre g g') {i : Nat} (hi : g.length ≤ i) (o : O) : Pre g (g'.set i o) := by
  obtain ⟨t, rfl⟩ := a
  exact ⟨t.set (i - g.length) o, by rw [List.set_append_right _ _ hi]⟩
theorem Pre.len {g g' : G} (a : Pre g g') : g.length ≤ g'.length := by
  obtain ⟨t, rfl⟩ := a
  rw [List.length_append]; omega
theorem Pre.get {g g' : G} (a : Pre g g') {i : Nat} {o : O} (h : g[i]? = some o) : g'[i]? = some o := by
  obtain ⟨t, rfl⟩ := a
  rw [List.getElem?_append_left (List.getElem?_eq_some_iff.mp h).1]; exact h
theorem get_lt {g : G} {i : Nat} {o : O} (h : g[i]? = some o) : i < g.length := (List.getElem?_eq_some_iff.mp h).1
theorem get_push {g : G} {i : Nat} {o o' : O} (h : g[i]? = some o) : (g ++ [o'])[i]? = some o := by
  rw [List.getElem?_append_left (get_lt h)]; exact h
theorem get_new {g : G} {o : O} : (g ++ [o])[g.length]? = some o := by simp
theorem get_set {g : G} {i : Nat} {o o' : O} (h : g[i]? = some o) : (g.set i o')[i]? = some o' := List.getElem?_set_self (get_lt h)
theorem get_setne {g : G} {i j : Nat} {o o' : O} (h : g[j]? = some o) (n : i ≠ j) : (g.set i o')[j]? = some o := by
  rw [List.getElem?_set_ne n]; exact h
theorem body_pre {np n : Nat} {b : Sm} {ds : List D} {g g' : G} {d : D} (hn : ds.length = np) (h : b (start n ds) g = .ok (.rt d) g') (hp : Pre g g') (hl : d.low g.length = true) : body np n b ds g = .ok d g := by
  obtain ⟨t, rfl⟩ := hp
  exact body_rt hn h hl
theorem body_preN {np n : Nat} {b : Sm} {ds : List D} {g g' : G} {δ : Env} (hn : ds.length = np) (h : b (start n ds) g = .ok (.nx δ) g') (hp : Pre g g') : body np n b ds g = .ok .non g := by
  obtain ⟨t, rfl⟩ := hp
  exact body_nx hn h
theorem body_preX {np n : Nat} {b : Sm} {ds : List D} {g g' : G} {c : Nat} {δ : Env} (hn : ds.length = np) (h : b (start n ds) g = .exc c .non δ g') (hp : Pre g g') : body np n b ds g = .exc c .non g := by
  obtain ⟨t, rfl⟩ := hp
  exact body_exc hn h
/-! ### lists against the empty list -/
theorem snap_lst0 {g : G} {i : Nat} (n : Nat) (h : g[i]? = some (.lst [])) : snap (n + 1) g (.ref i) = some (.list []) := by
  simp only [snap, h]; rfl
theorem eq_nil {g : G} {c e : Nat} {xs : List D} (h : g[c]? = some (.lst xs)) (h2 : g[e]? = some (.lst [])) : cmpD .eq (.ref c) (.ref e) g = some xs.isEmpty := by
  show eqG g (.ref c) (.ref e) = _
  unfold eqG unlikeLen
  simp only [h, h2]
  cases xs with
  | nil =>
    rw [if_neg (by decide), snap_lst0 63 h, snap_lst0 63 h2]
    show some (PyData.eqv (.list []) (.list [])) = _
    rw [PySem.SeqAt.eqv_refl _ (by decide)]
    rfl
  | cons x xs => rw [if_pos (by simp)]; rfl
theorem ne_nil {g : G} {c e : Nat} {xs : List D} {ts : List PyData} (h : g[c]? = some (.lst xs)) (h2 : g[e]? = some (.lst [])) (hs : xs.mapM (snap 63 g) = some ts) : cmpD .ne (.ref c) (.ref e) g = some (!xs.isEmpty) := by
  show neG g (.ref c) (.ref e) = _
  have e1 : snap 64 g (.ref c) = some (.list ts) := by
    show (match g[c]? with
      | some (.lst xs) => (xs.mapM (snap 63 g)).map PyData.list
      | _ => none) = some (PyData.list ts)
    simp only [h, hs]; rfl
  unfold neG
  rw [e1, snap_lst0 63 h2]
  cases xs with
  | nil =>
    have : ts = [] := by simpa using hs.symm
    subst this
    show some (!PyData.eqv (.list []) (.list [])) = _
    rw [PySem.SeqAt.eqv_refl _ (by decide)]
    rfl
  | cons x xs =>
    have : ts ≠ [] := by
      rintro rfl
      simp only [List.mapM_cons, Option.pure_def, Option.bind_eq_bind, Option.bind_eq_some_iff, Option.some.injEq] at hs
      obtain ⟨_, _, _, _, z⟩ := hs
      cases z
    cases ts with
    | nil => exact absurd rfl this
    | cons t ts =>
      have : PyData.eqv (.list (t :: ts)) (.list []) = false := by
        first | rfl | simp [PyData.eqv] | (simp [PyData.eqv, PyData.eqvAll])
      dsimp only
      rw [this]
      rfl
theorem atI_last {α : Type} (xs : List α) (y : α) : atI (xs ++ [y]) (-1) = some y := by
  unfold atI ixN
  rw [if_neg (by decide), if_pos (by simp; omega)]
  show (xs ++ [y])[((-1 : Int) + ((xs ++ [y]).length : Nat)).toNat]? = some y
  rw [show ((-1 : Int) + ((xs ++ [y]).length : Nat)).toNat = xs.length by simp; omega]
  simp
theorem atI_last' {α : Type} (xs : List α) (y : α) : atI (xs ++ [y]) (-(1 : Int)) = some y := atI_last xs y
end DV
end
section
set_option Elab.async false
set_option linter.all false
set_option maxRecDepth 100000
namespace DV
open PySem
/-! ### values without bools: == is equality -/
def nb : Nat → D → Bool
  | 0, _ => false
  | n + 1, d => match d with
    | .non => true
    | .int _ => true
    | .str s => PyData.canLay0 (.str s) && decide (s.length ≤ 4096)
    | .tup xs => decide (xs.length ≤ 4096) && xs.all (nb n)
    | _ => false
theorem nb_tree : ∀ {n : Nat} {d : D}, nb n d = true → tree n d = true
  | 0, _, h => by cases h
  | n + 1, d, h => by
    cases d with
    | tup xs =>
      simp only [nb, Bool.and_eq_true, List.all_eq_true] at h
      exact tree_tup (by simpa using h.1) fun x hx => nb_tree (h.2 x hx)
    | str s => exact h
    | non => rfl
    | int i => rfl
    | _ => cases h
theorem nb_mono : ∀ {n m : Nat} {d : D}, nb n d = true → n ≤ m → nb m d = true
  | 0, _, _, h, _ => by cases h
  | n + 1, m, d, h, hm => by
    obtain ⟨m, rfl⟩ : ∃ k, m = k + 1 := ⟨m - 1, by omega⟩
    cases d with
    | tup xs =>
      simp only [nb, Bool.and_eq_true, List.all_eq_true] at h ⊢
      exact ⟨h.1, fun x hx => nb_mono (h.2 x hx) (by omega)⟩
    | _ => exact h
theorem nb_tup {n : Nat} {xs : List D} (h : xs.length ≤ 4096) (h2 : ∀ x ∈ xs, nb n x = true) : nb (n + 1) (.tup xs) = true := by
  simp only [nb, Bool.and_eq_true, List.all_eq_true, decide_eq_true_eq]
  exact ⟨h, h2⟩
theorem nb_sub {n : Nat} {xs : List D} (h : nb (n + 1) (.tup xs) = true) : xs.length ≤ 4096 ∧ ∀ x ∈ xs, nb n x = true := by
  simp only [nb, Bool.and_eq_true, List.all_eq_true, decide_eq_true_eq] at h
  exact h
theorem eqvs_nb (n : Nat) (ih : ∀ x y : D, nb n x = true → nb n y = true → PyData.eqv (tr x) (tr y) = decide (x = y)) : ∀ xs ys : List D, (∀ x ∈ xs, nb n x = true) → (∀ y ∈ ys, nb n y = true) → PyData.eqvAll (trs xs) (trs ys) = decide (xs = ys)
  | [], [], _, _ => rfl
  | [], _ :: _, _, _ => by simp [trs, PyData.eqvAll]
  | _ :: _, [], _, _ => by simp [trs, PyData.eqvAll]
  | x :: xs, y :: ys, h1, h2 => by
    rw [trs, trs, PyData.eqvAll, ih x y (h1 x List.mem_cons_self) (h2 y List.mem_cons_self), eqvs_nb n ih xs ys (fun z hz => h1 z (List.mem_cons_of_mem _ hz)) fun z hz => h2 z (List.mem_cons_of_mem _ hz)]
    by_cases e : x = y
    · subst e; simp
    · simp [e]
theorem eqv_nb : ∀ (n : Nat) (x y : D), nb n x = true → nb n y = true → PyData.eqv (tr x) (tr y) = decide (x = y) := by
  intro n
  induction n with
  | zero => intro x y h; cases h
  | succ n ih =>
    intro x y h1 h2
    cases x with
    | non => cases y <;> first | (simp [tr, PyData.eqv]; done) | (simp [nb] at h2; done)
    | int i =>
      cases y with
      | int j =>
        simp only [tr, PyData.eqv]
        by_cases e : i = j
        · subst e; simp
        · simp [e]
      | _ => first | (simp [tr, PyData.eqv]; done) | (simp [nb] at h2; done)
    | str s =>
      cases y with
      | str t =>
        simp only [tr, PyData.eqv]
        by_cases e : s = t
        · subst e; simp
        · simp [e]
      | non => simp [tr, PyData.eqv]
      | int i => simp [tr, PyData.eqv]
      | tup xs => simp [tr, PyData.eqv]
      | _ => cases h2
    | tup xs =>
      cases y with
      | tup ys =>
        simp only [tr, PyData.eqv]
        rw [eqvs_nb n ih xs ys (nb_sub h1).2 (nb_sub h2).2]
        simp
      | non => simp [tr, PyData.eqv]
      | int i => simp [tr, PyData.eqv]
      | str s => simp [tr, PyData.eqv]
      | _ => cases h2
    | _ => cases h1
theorem unlike_nb {n : Nat} {x y : D} {g : G} (h : nb n x = true) : unlikeLen g x y = false := by
  cases n with
  | zero => cases h
  | succ n => cases x <;> first | rfl | (simp [nb] at h; done)
theorem eqG_nb {n m : Nat} {x y : D} (g : G) (hx : nb n x = true) (hy : nb m y = true) (hn : n ≤ 64) (hm : m ≤ 64) : cmpD .eq x y g = some (decide (x = y)) := by
  show eqG g x y = _
  unfold eqG
  rw [unlike_nb hx, if_neg (by decide), snap_tree g (nb_tree hx) hn, snap_tree g (nb_tree hy) hm]
  dsimp only
  rw [eqv_nb 64 x y (nb_mono hx hn) (nb_mono hy hm)]
theorem neG_nb {n m : Nat} {x y : D} (g : G) (hx : nb n x = true) (hy : nb m y = true) (hn : n ≤ 64) (hm : m ≤ 64) : cmpD .ne x y g = some (!decide (x = y)) := by
  show neG g x y = _
  unfold neG
  rw [snap_tree g (nb_tree hx) hn, snap_tree g (nb_tree hy) hm]
  dsimp only
  rw [eqv_nb 64 x y (nb_mono hx hn) (nb_mono hy hm)]
theorem memG_nb {n : Nat} {x : D} {ys : List D} (g : G) (hx : nb n x = true) (hy : ∀ y ∈ ys, nb n y = true) (hn : n ≤ 64) : memG g x ys = some (decide (x ∈ ys)) := by
  unfold memG
  rw [mapM_some (h := tr) fun y h => snap_tree g (nb_tree (hy y h)) hn, snap_tree g (nb_tree hx) hn]
  dsimp only
  congr 1
  rw [List.any_map]
  rw [Bool.eq_iff_iff, List.any_eq_true, decide_eq_true_eq]
  constructor
  · rintro ⟨y, h1, h2⟩
    simp only [Function.comp] at h2
    rw [eqv_nb n y x (hy y h1) hx, decide_eq_true_eq] at h2
    exact h2 ▸ h1
  · intro h
    refine ⟨x, h, ?_⟩
    simp only [Function.comp]
    rw [eqv_nb n x x hx hx]
    simp
theorem in_nb {n : Nat} {x : D} {ys : List D} (g : G) (hx : nb n x = true) (hy : ∀ y ∈ ys, nb n y = true) (hn : n ≤ 64) : cmpD .in_ x (.tup ys) g = some (decide (x ∈ ys)) := memG_nb g hx hy hn
theorem notIn_nb {n : Nat} {x : D} {ys : List D} (g : G) (hx : nb n x = true) (hy : ∀ y ∈ ys, nb n y = true) (hn : n ≤ 64) : cmpD .notIn x (.tup ys) g = some (!decide (x ∈ ys)) := by
  show (memG g x ys).map not = _
  rw [memG_nb g hx hy hn]
  rfl
end DV
end
section
set_option Elab.async false
set_option linter.all false
set_option maxRecDepth 100000
namespace P44
open DV PySem
/-! ### words as trees: plain -/
abbrev sD (s : String) : D := .str (Str.ofString s)
/-- the first return below the level d of calls -/
def mt (a b : Int) : Nat → List Int → Option Nat
  | _, [] => none
  | d, s :: r => if s < a then (mt a b (d + 1) r).map (· + 1)
    else if s < a + b then (match d with
      | 0 => some 0
      | d + 1 => (mt a b d r).map (· + 1))
    else (mt a b d r).map (· + 1)
theorem mt_call {a b s : Int} {r : List Int} (d : Nat) (h : s < a) : mt a b d (s :: r) = (mt a b (d + 1) r).map (· + 1) := by cases d <;> simp only [mt, if_pos h]
theorem mt_ret0 {a b s : Int} {r : List Int} (h : ¬ s < a) (h2 : s < a + b) : mt a b 0 (s :: r) = some 0 := by simp only [mt, if_neg h, if_pos h2]
theorem mt_retS {a b s : Int} {r : List Int} (d : Nat) (h : ¬ s < a) (h2 : s < a + b) : mt a b (d + 1) (s :: r) = (mt a b d r).map (· + 1) := by simp only [mt, if_neg h, if_pos h2]
theorem mt_pln {a b s : Int} {r : List Int} (d : Nat) (h : ¬ s < a) (h2 : ¬ s < a + b) : mt a b d (s :: r) = (mt a b d r).map (· + 1) := by cases d <;> simp only [mt, if_neg h, if_neg h2]
theorem mt_lt (a b : Int) : ∀ (w : List Int) (d k : Nat), mt a b d w = some k → k < w.length
  | [], d, k, h => by cases d <;> cases h
  | s :: r, d, k, h => by
    unfold mt at h
    split at h
    · obtain ⟨j, h1, rfl⟩ := Option.map_eq_some_iff.mp h
      have := mt_lt a b r _ _ h1
      simp; omega
    · split at h
      · cases d with
        | zero => cases h; simp
        | succ d =>
          obtain ⟨j, h1, rfl⟩ := Option.map_eq_some_iff.mp h
          have := mt_lt a b r _ _ h1
          simp; omega
      · obtain ⟨j, h1, rfl⟩ := Option.map_eq_some_iff.mp h
        have := mt_lt a b r _ _ h1
        simp; omega
/-- a level deeper: first to the end of that level, then on -/
theorem mt_succ (a b : Int) : ∀ (w : List Int) (d : Nat), mt a b (d + 1) w = (mt a b 0 w).bind fun k => (mt a b d (w.drop (k + 1))).map (· + (k + 1)) := by
  intro w
  generalize hn : w.length = n
  induction n using Nat.strongRecOn generalizing w with
  | ind n ih =>
    intro d
    cases w with
    | nil => rfl
    | cons s r =>
      have hr : r.length < n := by rw [← hn]; simp
      by_cases h1 : s < a
      · rw [mt_call _ h1, mt_call _ h1, ih r.length hr r rfl (d + 1), ih r.length hr r rfl 0]
        cases e : mt a b 0 r with
        | none => rfl
        | some k =>
          simp only [Option.bind_some]
          have hk := mt_lt a b r 0 k e
          have hd : (r.drop (k + 1)).length < n := by rw [List.length_drop]; omega
          rw [ih _ hd (r.drop (k + 1)) rfl d]
          cases e2 : mt a b 0 (r.drop (k + 1)) with
          | none => rfl
          | some j =>
            simp only [Option.bind_some, Option.map_some, Option.map_map]
            rw [List.drop_succ_cons, List.drop_drop]
            rw [show j + (k + 1) + 1 = k + 1 + (j + 1) by omega]
            congr 1
            funext x
            simp only [Function.comp]
            omega
      · by_cases h2 : s < a + b
        · rw [mt_retS _ h1 h2, mt_ret0 h1 h2]
          rfl
        · rw [mt_pln _ h1 h2, mt_pln _ h1 h2, ih r.length hr r rfl d]
          cases e : mt a b 0 r with
          | none => rfl
          | some k =>
            simp only [Option.bind_some, Option.map_some, Option.map_map]
            rw [List.drop_succ_cons]
            congr 1
def pln (s : Int) : D := .tup [sD "plain", .int s]
def fre (s : Int) : D := .tup [sD "free", .int s]
def opn (s : Int) (l : List D) : D := .tup [sD "open", .int s, .tup l]
def pr (s : Int) (l : List D) (r : Int) : D := .tup [sD "pair", .int s, .tup l, .int r]
/-- the items of a word -/
def litems (a b : Int) : (w : List Int) → List D
  | [] => []
  | s :: r => if s < a then
      match h : mt a b 0 r with
      | none => [opn s (litems a b r)]
      | some k => pr s (litems a b (r.take k)) (r.getD k 0) :: litems a b (r.drop (k + 1))
    else (if a + b ≤ s then pln s else fre s) :: litems a b r
termination_by w => w.length
decreasing_by
  · simp
  · simp; have := mt_lt a b r 0 k h; omega
  · simp; omega
  · simp
theorem litems_nil (a b : Int) : litems a b [] = [] := by rw [litems]
theorem litems_leaf {a b s : Int} {r : List Int} (h : ¬ s < a) : litems a b (s :: r) = (if a + b ≤ s then pln s else fre s) :: litems a b r := by rw [litems, if_neg h]
theorem litems_opn {a b s : Int} {r : List Int} (h : s < a) (h2 : mt a b 0 r = none) : litems a b (s :: r) = [opn s (litems a b r)] := by
  rw [litems, if_pos h]
  split
  · rfl
  · rename_i k e; rw [h2] at e; cases e
theorem litems_pr {a b s : Int} {r : List Int} {k : Nat} (h : s < a) (h2 : mt a b 0 r = some k) : litems a b (s :: r) = pr s (litems a b (r.take k)) (r.getD k 0) :: litems a b (r.drop (k + 1)) := by
  rw [litems, if_pos h]
  split
  · rename_i e; rw [h2] at e; cases e
  · rename_i k' e; rw [h2] at e; cases e; rfl
/-! ### by rows and calls -/
abbrev Stk := List (Int × List D)
def close : List D → Stk → List D
  | acc, [] => acc
  | acc, (c, row) :: rest => close (row ++ [opn c acc]) rest
def rstep (a b : Int) (acc : List D) (stk : Stk) (s : Int) : List D × Stk :=
  if s < a then ([], (s, acc) :: stk)
  else if a + b ≤ s then (acc ++ [pln s], stk)
  else match stk with
    | [] => (acc ++ [fre s], [])
    | (c, row) :: rest => (row ++ [pr c acc s], rest)
def run (a b : Int) : List D → Stk → List Int → List D
  | acc, stk, [] => close acc stk
  | acc, stk, s :: r => run a b (rstep a b acc stk s).1 (rstep a b acc stk s).2 r
theorem run_spec (a b : Int) : ∀ (w : List Int) (acc : List D) (stk : Stk),
    (mt a b 0 w = none → run a b acc stk w = close (acc ++ litems a b w) stk) ∧
    (∀ k, mt a b 0 w = some k → ∀ c row rest, stk = (c, row) :: rest → run a b acc stk w = run a b (row ++ [pr c (acc ++ litems a b (w.take k)) (w.getD k 0)]) rest (w.drop (k + 1))) ∧
    (stk = [] → run a b acc [] w = acc ++ litems a b w) := by
  intro w
  generalize hn : w.length = n
  induction n using Nat.strongRecOn generalizing w with
  | ind n ih =>
    intro acc stk
    cases w with
    | nil => exact ⟨fun _ => by rw [litems_nil, List.append_nil]; rfl, fun k h => (by cases h), fun _ => by rw [litems_nil, List.append_nil]; rfl⟩
    | cons s r =>
      have hr : r.length < n := by rw [← hn]; simp
      by_cases h1 : s < a
      · have hs : ∀ acc stk, rstep a b acc stk s = ([], (s, acc) :: stk) := fun acc stk => by unfold rstep; rw [if_pos h1]
        cases e : mt a b 0 r with
        | none =>
          have hm : mt a b 0 (s :: r) = none := by rw [mt_call _ h1, mt_succ, e]; rfl
          have hrun : ∀ acc stk, run a b acc stk (s :: r) = close (acc ++ litems a b (s :: r)) stk := fun acc stk => by
            rw [run, hs, (ih r.length hr r rfl [] ((s, acc) :: stk)).1 e, litems_opn h1 e]
            rfl
          exact ⟨fun _ => hrun acc stk, fun k h => (by rw [hm] at h; cases h), fun _ => hrun acc []⟩
        | some k =>
          have hk := mt_lt a b r 0 k e
          have hd : (r.drop (k + 1)).length < n := by rw [List.length_drop]; omega
          have hrun : ∀ acc stk, run a b acc stk (s :: r) = run a b (acc ++ [pr s (litems a b (r.take k)) (r.getD k 0)]) stk (r.drop (k + 1)) := fun acc stk => by
            rw [run, hs, (ih r.length hr r rfl [] ((s, acc) :: stk)).2.1 k e s acc stk rfl]
            rfl
          have hm : mt a b 0 (s :: r) = (mt a b 0 (r.drop (k + 1))).map (· + (k + 2)) := by
            rw [mt_call _ h1, mt_succ, e]
            simp only [Option.bind_some, Option.map_map]
            congr 1
          obtain ⟨i1, i2, i3⟩ := ih _ hd (r.drop (k + 1)) rfl (acc ++ [pr s (litems a b (r.take k)) (r.getD k 0)]) stk
          refine ⟨fun h => ?_, fun j h c row rest hst => ?_, fun h => ?_⟩
          · rw [hm, Option.map_eq_none_iff] at h
            rw [hrun, i1 h, litems_pr h1 e, List.append_assoc]
            rfl
          · rw [hm] at h
            obtain ⟨i, h', rfl⟩ := Option.map_eq_some_iff.mp h
            rw [hrun, i2 i h' c row rest hst]
            have e1 : (s :: r).take (i + (k + 2)) = s :: r.take (k + 1 + i) := by rw [show i + (k + 2) = (k + 1 + i) + 1 by omega, List.take_succ_cons]
            have e2 : litems a b (s :: r.take (k + 1 + i)) = pr s (litems a b (r.take k)) (r.getD k 0) :: litems a b ((r.drop (k + 1)).take i) := by
              have q : mt a b 0 (r.take (k + 1 + i)) = some k := mt_take a b r 0 k (k + 1 + i) e (by omega)
              rw [litems_pr h1 q, List.take_take, List.drop_take, show min k (k + 1 + i) = k by omega, show k + 1 + i - (k + 1) = i by omega]
              congr 2
              simp only [List.getD_eq_getElem?_getD]
              rw [List.getElem?_take_of_lt (by omega)]
            have e3 : (s :: r).getD (i + (k + 2)) 0 = (r.drop (k + 1)).getD i 0 := by
              simp only [List.getD_eq_getElem?_getD]
              rw [show i + (k + 2) = (k + 1 + i) + 1 by omega, List.getElem?_cons_succ, List.getElem?_drop]
            have e4 : (s :: r).drop (i + (k + 2) + 1) = (r.drop (k + 1)).drop (i + 1) := by
              rw [List.drop_drop, show i + (k + 2) + 1 = (k + 1 + (i + 1)) + 1 by omega, List.drop_succ_cons]
            rw [e1, e2, e3, e4, List.append_assoc]
            rfl
          · subst h
            rw [hrun, i3 rfl, litems_pr h1 e, List.append_assoc]
            rfl
      · by_cases h2 : a + b ≤ s
        · have hs : ∀ acc stk, rstep a b acc stk s = (acc ++ [pln s], stk) := fun acc stk => by unfold rstep; rw [if_neg h1, if_pos h2]
          have hm : mt a b 0 (s :: r) = (mt a b 0 r).map (· + 1) := mt_pln _ h1 (by omega)
          obtain ⟨i1, i2, i3⟩ := ih r.length hr r rfl (acc ++ [pln s]) stk
          have hl : litems a b (s :: r) = pln s :: litems a b r := by rw [litems_leaf h1, if_pos h2]
          refine ⟨fun h => ?_, fun j h c row rest hst => ?_, fun h => ?_⟩
          · rw [hm, Option.map_eq_none_iff] at h
            rw [run, hs, i1 h, hl, List.append_assoc]
            rfl
          · rw [hm] at h
            obtain ⟨i, h', rfl⟩ := Option.map_eq_some_iff.mp h
            rw [run, hs, i2 i h' c row rest hst, List.take_succ_cons, litems_leaf h1, if_pos h2, List.append_assoc]
            rfl
          · subst h
            rw [run, hs, i3 rfl, hl, List.append_assoc]
            rfl
        · have hm : mt a b 0 (s :: r) = some 0 := mt_ret0 h1 (by omega)
          have hl : litems a b (s :: r) = fre s :: litems a b r := by rw [litems_leaf h1, if_neg h2]
          refine ⟨fun h => by (rw [hm] at h; cases h), fun j h c row rest hst => ?_, fun h => ?_⟩
          · rw [hm] at h
            cases h
            subst hst
            have hs : rstep a b acc ((c, row) :: rest) s = (row ++ [pr c acc s], rest) := by unfold rstep; rw [if_neg h1, if_neg h2]
            rw [run, hs, List.take_zero, litems_nil, List.append_nil]
            rfl
          · subst h
            have hs : rstep a b acc [] s = (acc ++ [fre s], []) := by unfold rstep; rw [if_neg h1, if_neg h2]
            rw [run, hs, (ih r.length hr r rfl (acc ++ [fre s]) []).2.2 rfl, hl, List.append_assoc]
            rfl
where
  mt_take (a b : Int) : ∀ (w : List Int) (d k n : Nat), mt a b d w = some k → k < n → mt a b d (w.take n) = some k
    | [], d, k, n, h, _ => by cases d <;> cases h
    | s :: r, d, k, n, h, hn => by
      obtain ⟨m, rfl⟩ : ∃ m, n = m + 1 := ⟨n - 1, by omega⟩
      rw [List.take_succ_cons]
      by_cases h1 : s < a
      · rw [mt_call _ h1] at h ⊢
        obtain ⟨j, h2, rfl⟩ := Option.map_eq_some_iff.mp h
        rw [mt_take a b r _ _ m h2 (by omega)]
        rfl
      · by_cases h2 : s < a + b
        · cases d with
          | zero => rw [mt_ret0 h1 h2] at h ⊢; exact h
          | succ d =>
            rw [mt_retS _ h1 h2] at h ⊢
            obtain ⟨j, h3, rfl⟩ := Option.map_eq_some_iff.mp h
            rw [mt_take a b r _ _ m h3 (by omega)]
            rfl
        · rw [mt_pln _ h1 h2] at h ⊢
          obtain ⟨j, h3, rfl⟩ := Option.map_eq_some_iff.mp h
          rw [mt_take a b r _ _ m h3 (by omega)]
          rfl
theorem run_items (a b : Int) (w : List Int) : run a b [] [] w = litems a b w := by
  have := (run_spec a b w [] []).2.2 rfl
  simpa using this
theorem run_fold (a b : Int) : ∀ (w : List Int) (acc : List D) (stk : Stk), run a b acc stk w = close (w.foldl (fun p s => rstep a b p.1 p.2 s) (acc, stk)).1 (w.foldl (fun p s => rstep a b p.1 p.2 s) (acc, stk)).2
  | [], _, _ => rfl
  | s :: r, acc, stk => by rw [run, run_fold a b r, List.foldl_cons]
theorem litems_len (a b : Int) : ∀ (n : Nat) (w : List Int), w.length ≤ n → (litems a b w).length ≤ w.length := by
  intro n
  induction n with
  | zero => intro w h; have : w = [] := List.length_eq_zero_iff.mp (by omega); subst this; rw [litems_nil]; exact Nat.le_refl _
  | succ n ih =>
    intro w h
    cases w with
    | nil => rw [litems_nil]; exact Nat.le_refl _
    | cons s r =>
      have hr : r.length ≤ n := by simp at h; omega
      by_cases h1 : s < a
      · cases e : mt a b 0 r with
        | none => rw [litems_opn h1 e]; simp
        | some k =>
          rw [litems_pr h1 e]
          have := ih (r.drop (k + 1)) (by rw [List.length_drop]; omega)
          rw [List.length_drop] at this
          simp; omega
      · rw [litems_leaf h1]
        have := ih r hr
        simp; omega
theorem tree_atomS (n : Nat) (s : String) (h : (PyData.canLay0 (.str (Str.ofString s)) && decide ((Str.ofString s).length ≤ 4096)) = true) : tree (n + 1) (sD s) = true := h
theorem tree_int (n : Nat) (i : Int) : tree (n + 1) (.int i) = true := rfl
theorem tree_nil (n : Nat) : tree (n + 1) (.tup []) = true := rfl
theorem tP (n : Nat) : tree (n + 1) (sD "plain") = true := tree_atomS n _ (by decide +kernel)
theorem tF (n : Nat) : tree (n + 1) (sD "free") = true := tree_atomS n _ (by decide +kernel)
theorem tO (n : Nat) : tree (n + 1) (sD "open") = true := tree_atomS n _ (by decide +kernel)
theorem tR (n : Nat) : tree (n + 1) (sD "pair") = true := tree_atomS n _ (by decide +kernel)
theorem tC (n : Nat) : tree (n + 1) (sD "call") = true := tree_atomS n _ (by decide +kernel)
theorem tree_pln (n : Nat) (s : Int) : tree (n + 2) (pln s) = true := tree_tup (by simp) (by intro x hx; simp at hx; rcases hx with rfl | rfl; exact tP n; rfl)
theorem tree_fre (n : Nat) (s : Int) : tree (n + 2) (fre s) = true := tree_tup (by simp) (by intro x hx; simp at hx; rcases hx with rfl | rfl; exact tF n; rfl)
theorem tree_opn {n : Nat} {s : Int} {l : List D} (hl : l.length ≤ 4096) (h : ∀ x ∈ l, tree n x = true) : tree (n + 2) (opn s l) = true := tree_tup (by simp) (by intro x hx; simp at hx; rcases hx with rfl | rfl | rfl; exact tO n; rfl; exact tree_tup hl h)
theorem tree_pr {n : Nat} {s r : Int} {l : List D} (hl : l.length ≤ 4096) (h : ∀ x ∈ l, tree n x = true) : tree (n + 2) (pr s l r) = true := tree_tup (by simp) (by intro x hx; simp at hx; rcases hx with rfl | rfl | rfl | rfl; exact tR n; rfl; exact tree_tup hl h; rfl)
theorem litems_tree (a b : Int) : ∀ (n : Nat) (w : List Int), w.length ≤ n → w.length ≤ 4096 → ∀ x ∈ litems a b w, tree (2 * n) x = true := by
  intro n
  induction n with
  | zero => intro w h _; have : w = [] := List.length_eq_zero_iff.mp (by omega); subst this; rw [litems_nil]; simp
  | succ n ih =>
    intro w h hm
    cases w with
    | nil => rw [litems_nil]; simp
    | cons s r =>
      have hr : r.length ≤ n := by simp at h; omega
      have hm' : r.length ≤ 4096 := by simp at hm; omega
      have up : ∀ x, tree (2 * n) x = true → tree (2 * (n + 1)) x = true := fun x hx => tree_mono hx (by omega)
      by_cases h1 : s < a
      · cases e : mt a b 0 r with
        | none =>
          rw [litems_opn h1 e]
          intro x hx
          simp at hx; subst hx
          exact tree_opn (Nat.le_trans (litems_len a b _ r (Nat.le_refl _)) hm') (ih r hr hm')
        | some k =>
          rw [litems_pr h1 e]
          have hk : (r.take k).length ≤ r.length := by rw [List.length_take]; omega
          have hd : (r.drop (k + 1)).length ≤ r.length := by rw [List.length_drop]; omega
          intro x hx
          rcases List.mem_cons.mp hx with rfl | hx
          · exact tree_pr (Nat.le_trans (litems_len a b _ _ (Nat.le_refl _)) (by omega)) (ih _ (by omega) (by omega))
          · exact up x (ih _ (by omega) (by omega) x hx)
      · rw [litems_leaf h1]
        intro x hx
        rcases List.mem_cons.mp hx with rfl | hx
        · split
          · exact tree_mono (tree_pln 0 s) (by omega)
          · exact tree_mono (tree_fre 0 s) (by omega)
        · exact up x (ih r hr hm' x hx)
theorem litems_low (a b : Int) (k : Nat) (w : List Int) (h : w.length ≤ 4096) : D.lows k (litems a b w) = true := trees_low k (litems_tree a b w.length w (Nat.le_refl _) h)
end P44
end
section
set_option Elab.async false
set_option linter.all false
set_option maxRecDepth 100000
namespace P44
open DV PySem
/-! ### trees back to words -/
abbrev SP : Str := Str.ofString "plain"
abbrev SF : Str := Str.ofString "free"
abbrev SO : Str := Str.ofString "open"
abbrev SR : Str := Str.ofString "pair"
abbrev SC : Str := Str.ofString "call"
theorem ne_PF : SP ≠ SF := by decide +kernel
theorem ne_PO : SP ≠ SO := by decide +kernel
theorem ne_PR : SP ≠ SR := by decide +kernel
theorem ne_FO : SF ≠ SO := by decide +kernel
theorem ne_FR : SF ≠ SR := by decide +kernel
theorem ne_OR : SO ≠ SR := by decide +kernel
theorem ne_CP : SC ≠ SP := by decide +kernel
theorem ne_CF : SC ≠ SF := by decide +kernel
theorem ne_CO : SC ≠ SO := by decide +kernel
theorem ne_CR : SC ≠ SR := by decide +kernel
/-- what is bent -/
inductive Nr : Nat → D → Prop
  | non {n} : Nr (n + 1) .non
  | two {n} {h : Str} {s : Int} : h ∈ [SP, SF, SO, SR, SC] → 0 ≤ s → Nr (n + 1) (.tup [.str h, .int s])
  | no3 {n} {h : Str} {s : Int} : h ∈ [SP, SF, SO, SR, SC] → 0 ≤ s → Nr (n + 1) (.tup [.str h, .int s, .non])
  | three {n} {h : Str} {s : Int} {l : List D} : h ∈ [SP, SF, SO, SR, SC] → 0 ≤ s → l.length ≤ 4096 → (∀ x ∈ l, Nr n x) → Nr (n + 1) (.tup [.str h, .int s, .tup l])
  | four {n} {h : Str} {s r : Int} {l : List D} : h ∈ [SP, SF, SO, SR, SC] → 0 ≤ s → 0 ≤ r → l.length ≤ 4096 → (∀ x ∈ l, Nr n x) → Nr (n + 1) (.tup [.str h, .int s, .tup l, .int r])
theorem Nr.mono : ∀ {n m : Nat} {d : D}, Nr n d → n ≤ m → Nr m d := by
  intro n
  induction n with
  | zero => intro m d h; cases h
  | succ n ih =>
    intro m d h hm
    obtain ⟨m, rfl⟩ : ∃ k, m = k + 1 := ⟨m - 1, by omega⟩
    cases h with
    | non => exact .non
    | two a b => exact .two a b
    | no3 a b => exact .no3 a b
    | three a b c e => exact .three a b c fun x hx => ih (e x hx) (by omega)
    | four a b c e f => exact .four a b c e fun x hx => ih (f x hx) (by omega)
theorem nb_head {n : Nat} {h : Str} (hh : h ∈ [SP, SF, SO, SR, SC]) : nb (n + 1) (.str h) = true := by
  have : ∀ h ∈ [SP, SF, SO, SR, SC], (PyData.canLay0 (.str h) && decide (h.length ≤ 4096)) = true := by decide +kernel
  exact this h hh
theorem Nr.nb : ∀ {n : Nat} {d : D}, Nr n d → DV.nb (2 * n) d = true := by
  intro n
  induction n with
  | zero => intro d h; cases h
  | succ n ih =>
    intro d h
    show DV.nb (2 * n + 1 + 1) d = true
    cases h with
    | non => rfl
    | two a b => exact nb_tup (by simp) (by intro x hx; simp at hx; rcases hx with rfl | rfl; exact nb_head a; rfl)
    | no3 a b => exact nb_tup (by simp) (by intro x hx; simp at hx; rcases hx with rfl | rfl | rfl; exact nb_head a; rfl; rfl)
    | three a b c e => exact nb_tup (by simp) (by intro x hx; simp at hx; rcases hx with rfl | rfl | rfl; exact nb_head a; rfl; exact nb_tup c fun x hx => ih (e x hx))
    | four a b c e f => exact nb_tup (by simp) (by intro x hx; simp at hx; rcases hx with rfl | rfl | rfl | rfl; exact nb_head a; rfl; exact nb_tup e fun x hx => ih (f x hx); rfl)
/-- the law's own reading of items, kinds not looked at -/
def flI : Nat → D → Option (List Int)
  | 0, _ => none
  | n + 1, d => match d with
    | .tup [.str h, .int s] => if h = SP ∨ h = SF then some [s] else none
    | .tup [.str h, .int s, .tup l] => if h = SO then ((l.mapM (flI n)).map List.flatten).map (s :: ·) else none
    | .tup [.str h, .int s, .tup l, .int r] => if h = SR then ((l.mapM (flI n)).map List.flatten).map (fun w => s :: w ++ [r]) else none
    | _ => none
def flL (n : Nat) (l : List D) : Option (List Int) := (l.mapM (flI n)).map List.flatten
def kd (a b c : Int) (s : Int) : Option Int := if 0 ≤ s ∧ s ≤ a + b + c - 1 then some ((if a ≤ s then 1 else 0) + (if a + b ≤ s then 1 else 0)) else none
/-- the program's: kinds are looked at -/
def spI (a b c : Int) : Nat → D → Option (List Int)
  | 0, _ => none
  | n + 1, d => match d with
    | .tup [.str h, .int s] => if (h = SP ∧ kd a b c s = some 2) ∨ (h = SF ∧ kd a b c s = some 1) then some [s] else none
    | .tup [.str h, .int s, .tup l] => if h = SO ∧ kd a b c s = some 0 then ((l.mapM (spI a b c n)).map List.flatten).map (s :: ·) else none
    | .tup [.str h, .int s, .tup l, .int r] => if h = SR ∧ kd a b c s = some 0 ∧ kd a b c r = some 1 then ((l.mapM (spI a b c n)).map List.flatten).map (fun w => s :: w ++ [r]) else none
    | _ => none
def spL (a b c : Int) (n : Nat) (l : List D) : Option (List Int) := (l.mapM (spI a b c n)).map List.flatten
theorem mapM_imp {f g : D → Option (List Int)} {l : List D} (h : ∀ x ∈ l, ∀ w, f x = some w → g x = some w) : ∀ ws, l.mapM f = some ws → l.mapM g = some ws := by
  induction l with
  | nil => exact fun ws h => h
  | cons x l ih =>
    intro ws hw
    simp only [List.mapM_cons, Option.pure_def, Option.bind_eq_bind, Option.bind_eq_some_iff, Option.some.injEq] at hw ⊢
    obtain ⟨w, h1, vs, h2, rfl⟩ := hw
    exact ⟨w, h x List.mem_cons_self w h1, vs, ih (fun y hy => h y (List.mem_cons_of_mem _ hy)) vs h2, rfl⟩
theorem sp_fl (a b c : Int) : ∀ (n : Nat) (d : D) (w : List Int), spI a b c n d = some w → flI n d = some w := by
  intro n
  induction n with
  | zero => intro d w h; cases h
  | succ n ih =>
    intro d w h
    unfold spI at h
    split at h
    · rename_i hh s
      split at h
      · rename_i hc
        simp only [flI]
        rw [if_pos (by rcases hc with hc | hc; exact .inl hc.1; exact .inr hc.1)]
        exact h
      · cases h
    · rename_i hh s l
      split at h
      · rename_i hc
        simp only [flI]
        rw [if_pos hc.1]
        simp only [Option.map_map, Option.map_eq_some_iff] at h ⊢
        obtain ⟨ws, h1, h2⟩ := h
        exact ⟨ws, mapM_imp (fun x _ v hv => ih x v hv) ws h1, h2⟩
      · cases h
    · rename_i hh s l r
      split at h
      · rename_i hc
        simp only [flI]
        rw [if_pos hc.1]
        simp only [Option.map_map, Option.map_eq_some_iff] at h ⊢
        obtain ⟨ws, h1, h2⟩ := h
        exact ⟨ws, mapM_imp (fun x _ v hv => ih x v hv) ws h1, h2⟩
      · cases h
    · cases h
theorem spL_fl {a b c : Int} {n : Nat} {l : List D} {w : List Int} (h : spL a b c n l = some w) : flL n l = some w := by
  unfold spL at h
  unfold flL
  simp only [Option.map_eq_some_iff] at h ⊢
  obtain ⟨ws, h1, h2⟩ := h
  exact ⟨ws, mapM_imp (fun x _ v hv => sp_fl a b c n x v hv) ws h1, h2⟩
theorem kd_some {a b c s k : Int} (h : kd a b c s = some k) : 0 ≤ s ∧ s < a + b + c := by
  unfold kd at h
  split at h
  · omega
  · cases h
theorem mapM_all {f : D → Option (List Int)} {p : Int → Prop} {l : List D} (h : ∀ x ∈ l, ∀ w, f x = some w → ∀ s ∈ w, p s) : ∀ ws, l.mapM f = some ws → ∀ s ∈ ws.flatten, p s := by
  induction l with
  | nil => intro ws h; simp at h; subst h; simp
  | cons x l ih =>
    intro ws hw
    simp only [List.mapM_cons, Option.pure_def, Option.bind_eq_bind, Option.bind_eq_some_iff, Option.some.injEq] at hw
    obtain ⟨w, h1, vs, h2, rfl⟩ := hw
    intro s hs
    rw [List.flatten_cons, List.mem_append] at hs
    rcases hs with hs | hs
    · exact h x List.mem_cons_self w h1 s hs
    · exact ih (fun y hy => h y (List.mem_cons_of_mem _ hy)) vs h2 s hs
theorem sp_valid (a b c : Int) : ∀ (n : Nat) (d : D) (w : List Int), spI a b c n d = some w → ∀ s ∈ w, 0 ≤ s ∧ s < a + b + c := by
  intro n
  induction n with
  | zero => intro d w h; cases h
  | succ n ih =>
    intro d w h
    unfold spI at h
    split at h
    · split at h
      · rename_i hc
        cases h
        intro x hx
        simp at hx; subst hx
        rcases hc with hc | hc <;> exact kd_some hc.2
      · cases h
    · split at h
      · rename_i hc
        simp only [Option.map_map, Option.map_eq_some_iff] at h
        obtain ⟨ws, h1, rfl⟩ := h
        intro x hx
        simp only [Function.comp, List.mem_cons] at hx
        rcases hx with rfl | hx
        · exact kd_some hc.2
        · exact mapM_all (fun x _ v hv => ih x v hv) ws h1 x hx
      · cases h
    · split at h
      · rename_i hc
        simp only [Option.map_map, Option.map_eq_some_iff] at h
        obtain ⟨ws, h1, rfl⟩ := h
        intro x hx
        simp only [Function.comp, List.mem_cons, List.mem_append, List.cons_append, List.not_mem_nil, or_false] at hx
        rcases hx with rfl | hx | rfl
        · exact kd_some hc.2.1
        · exact mapM_all (fun x _ v hv => ih x v hv) ws h1 x hx
        · exact kd_some hc.2.2
      · cases h
    · cases h
theorem spL_valid {a b c : Int} {n : Nat} {l : List D} {w : List Int} (h : spL a b c n l = some w) : ∀ s ∈ w, 0 ≤ s ∧ s < a + b + c := by
  unfold spL at h
  simp only [Option.map_eq_some_iff] at h
  obtain ⟨ws, h1, rfl⟩ := h
  exact mapM_all (fun x _ v hv => sp_valid a b c n x v hv) ws h1
theorem spL_cons {a b c : Int} {n : Nat} {x : D} {l : List D} {w v : List Int} (h1 : spI a b c n x = some w) (h2 : spL a b c n l = some v) : spL a b c n (x :: l) = some (w ++ v) := by
  unfold spL at h2 ⊢
  simp only [Option.map_eq_some_iff] at h2 ⊢
  obtain ⟨ws, h3, rfl⟩ := h2
  refine ⟨w :: ws, ?_, rfl⟩
  simp only [List.mapM_cons, h1, h3, Option.pure_def, Option.bind_eq_bind, Option.bind_some]
/-- the items of a word spell it -/
theorem sp_items {a b c : Int} (ha : 0 ≤ a) (hb : 0 ≤ b) : ∀ (n : Nat) (w : List Int), w.length ≤ n → (∀ s ∈ w, 0 ≤ s ∧ s < a + b + c) → spL a b c n (litems a b w) = some w := by
  intro n
  induction n with
  | zero => intro w h _; have : w = [] := List.length_eq_zero_iff.mp (by omega); subst this; rw [litems_nil]; rfl
  | succ n ih =>
    have up : ∀ (w : List Int), w.length ≤ n → (∀ s ∈ w, 0 ≤ s ∧ s < a + b + c) → spL a b c (n + 1) (litems a b w) = some w := by
      intro w
      generalize hk : w.length = k
      induction k using Nat.strongRecOn generalizing w with
      | ind k ihk => exact fun hl hv => spL_up (ih w (by omega) hv)
    intro w
    generalize hk : w.length = k
    induction k using Nat.strongRecOn generalizing w with
    | ind k ihk =>
      intro hl hv
      cases w with
      | nil => rw [litems_nil]; rfl
      | cons s r =>
        have hr : r.length < k := by rw [← hk]; simp
        have hs := hv s List.mem_cons_self
        have hvr : ∀ s ∈ r, 0 ≤ s ∧ s < a + b + c := fun x hx => hv x (List.mem_cons_of_mem _ hx)
        by_cases h1 : s < a
        · have hk0 : kd a b c s = some 0 := by unfold kd; rw [if_pos (by omega), if_neg (by omega), if_neg (by omega)]; rfl
          cases e : mt a b 0 r with
          | none =>
            rw [litems_opn h1 e]
            have h3 : spI a b c (n + 1) (opn s (litems a b r)) = some (s :: r) := by
              have h4 := ih r (by omega) hvr
              unfold spL at h4
              show (if SO = SO ∧ kd a b c s = some 0 then _ else _) = _
              rw [if_pos ⟨rfl, hk0⟩, h4]
              rfl
            have := spL_cons h3 (show spL a b c (n + 1) [] = some [] from rfl)
            simpa using this
          | some j =>
            rw [litems_pr h1 e]
            have hj := mt_lt a b r 0 j e
            have h4 := ih (r.take j) (by rw [List.length_take]; omega) fun x hx => hvr x (List.mem_of_mem_take hx)
            have h5 := ihk (r.drop (j + 1)).length (by rw [List.length_drop]; omega) (r.drop (j + 1)) rfl (by rw [List.length_drop]; omega) fun x hx => hvr x (List.mem_of_mem_drop hx)
            have hg : r.getD j 0 = r[j] := by rw [List.getD_eq_getElem?_getD, List.getElem?_eq_getElem hj]; rfl
            have hk1 : kd a b c (r.getD j 0) = some 1 := by
              have h6 := mt_at a b r 0 j e
              have h7 := hvr r[j] (List.getElem_mem hj)
              rw [hg] at h6 ⊢
              unfold kd; rw [if_pos (by omega), if_pos (by omega), if_neg (by omega)]; rfl
            have h3 : spI a b c (n + 1) (pr s (litems a b (r.take j)) (r.getD j 0)) = some (s :: r.take j ++ [r.getD j 0]) := by
              unfold spL at h4
              show (if SR = SR ∧ kd a b c s = some 0 ∧ kd a b c (r.getD j 0) = some 1 then _ else _) = _
              rw [if_pos ⟨rfl, hk0, hk1⟩, h4]
              rfl
            rw [spL_cons h3 h5, hg]
            congr 1
            show s :: r.take j ++ [r[j]] ++ r.drop (j + 1) = s :: r
            rw [List.append_assoc, List.singleton_append, ← List.drop_eq_getElem_cons hj, List.cons_append, List.take_append_drop]
        · rw [litems_leaf h1]
          have h5 := ihk r.length hr r rfl (by omega) hvr
          have h3 : spI a b c (n + 1) (if a + b ≤ s then pln s else fre s) = some [s] := by
            by_cases h2 : a + b ≤ s
            · rw [if_pos h2]
              show (if (SP = SP ∧ kd a b c s = some 2) ∨ (SP = SF ∧ kd a b c s = some 1) then _ else _) = _
              rw [if_pos (.inl ⟨rfl, by unfold kd; rw [if_pos (by omega), if_pos (by omega), if_pos (by omega)]; rfl⟩)]
            · rw [if_neg h2]
              show (if (SF = SP ∧ kd a b c s = some 2) ∨ (SF = SF ∧ kd a b c s = some 1) then _ else _) = _
              rw [if_pos (.inr ⟨rfl, by unfold kd; rw [if_pos (by omega), if_pos (by omega), if_neg (by omega)]; rfl⟩)]
          exact spL_cons h3 h5
where
  spI_up {a b c : Int} : ∀ (n : Nat) (d : D) (w : List Int), spI a b c n d = some w → spI a b c (n + 1) d = some w := by
    intro n
    induction n with
    | zero => intro d w h; cases h
    | succ n ih =>
      intro d w h
      unfold spI at h
      split at h
      · exact h
      · rename_i hh s l
        split at h
        · rename_i hc
          show (if _ then _ else _) = _
          rw [if_pos hc]
          simp only [Option.map_map, Option.map_eq_some_iff] at h ⊢
          obtain ⟨ws, h1, h2⟩ := h
          exact ⟨ws, mapM_imp (fun x _ v hv => ih x v hv) ws h1, h2⟩
        · cases h
      · rename_i hh s l r
        split at h
        · rename_i hc
          show (if _ then _ else _) = _
          rw [if_pos hc]
          simp only [Option.map_map, Option.map_eq_some_iff] at h ⊢
          obtain ⟨ws, h1, h2⟩ := h
          exact ⟨ws, mapM_imp (fun x _ v hv => ih x v hv) ws h1, h2⟩
        · cases h
      · cases h
  spL_up {a b c : Int} {n : Nat} {l : List D} {w : List Int} (h : spL a b c n l = some w) : spL a b c (n + 1) l = some w := by
    unfold spL at h ⊢
    simp only [Option.map_eq_some_iff] at h ⊢
    obtain ⟨ws, h1, h2⟩ := h
    exact ⟨ws, mapM_imp (fun x _ v hv => spI_up n x v hv) ws h1, h2⟩
  mt_at (a b : Int) : ∀ (w : List Int) (d k : Nat), mt a b d w = some k → a ≤ w.getD k 0 ∧ w.getD k 0 < a + b
    | [], d, k, h => by cases d <;> cases h
    | s :: r, d, k, h => by
      by_cases h1 : s < a
      · rw [mt_call _ h1] at h
        obtain ⟨j, h2, rfl⟩ := Option.map_eq_some_iff.mp h
        exact mt_at a b r _ j h2
      · by_cases h2 : s < a + b
        · cases d with
          | zero =>
            rw [mt_ret0 h1 h2] at h
            cases h
            exact ⟨by simpa using h1, by simpa using h2⟩
          | succ d =>
            rw [mt_retS _ h1 h2] at h
            obtain ⟨j, h3, rfl⟩ := Option.map_eq_some_iff.mp h
            exact mt_at a b r _ j h3
        · rw [mt_pln _ h1 h2] at h
          obtain ⟨j, h3, rfl⟩ := Option.map_eq_some_iff.mp h
          exact mt_at a b r _ j h3
end P44
end
section
set_option Elab.async false
set_option linter.all false
set_option maxRecDepth 100000
namespace P44
open DV PySem
mutual
def sz : D → Nat
  | .tup xs => szs xs + 1
  | _ => 1
def szs : List D → Nat
  | [] => 0
  | x :: xs => sz x + szs xs
end
theorem szs_app : ∀ xs ys : List D, szs (xs ++ ys) = szs xs + szs ys
  | [], ys => by simp [szs]
  | x :: xs, ys => by rw [List.cons_append, szs, szs, szs_app xs ys]; omega
theorem sz_pos (d : D) : 1 ≤ sz d := by cases d <;> simp [sz]
theorem szs_mem : ∀ {xs : List D} {x : D}, x ∈ xs → sz x ≤ szs xs
  | y :: ys, x, h => by
    rw [szs]
    rcases List.mem_cons.mp h with rfl | h
    · omega
    · have := szs_mem h; omega
theorem szs_len : ∀ xs : List D, xs.length ≤ szs xs
  | [] => Nat.zero_le _
  | x :: xs => by rw [szs, List.length_cons]; have := szs_len xs; have := sz_pos x; omega
theorem szs_take (xs : List D) (n : Nat) : szs (xs.take n) ≤ szs xs := by
  conv => rhs; rw [← List.take_append_drop n xs]
  rw [szs_app]; omega
theorem szs_drop (xs : List D) (n : Nat) : szs (xs.drop n) ≤ szs xs := by
  conv => rhs; rw [← List.take_append_drop n xs]
  rw [szs_app]; omega
theorem mapM_len {f : D → Option (List Int)} : ∀ {l : List D} {ws : List (List Int)}, (∀ x ∈ l, ∀ w, f x = some w → w.length ≤ sz x) → l.mapM f = some ws → ws.flatten.length ≤ szs l
  | [], ws, _, h => by simp at h; subst h; simp
  | x :: l, ws, h, hw => by
    simp only [List.mapM_cons, Option.pure_def, Option.bind_eq_bind, Option.bind_eq_some_iff, Option.some.injEq] at hw
    obtain ⟨w, h1, vs, h2, rfl⟩ := hw
    have a := h x List.mem_cons_self w h1
    have b := mapM_len (fun y hy => h y (List.mem_cons_of_mem _ hy)) h2
    rw [List.flatten_cons, List.length_append, szs]; omega
theorem flI_len : ∀ (n : Nat) (d : D) (w : List Int), flI n d = some w → w.length ≤ sz d := by
  intro n
  induction n with
  | zero => intro d w h; cases h
  | succ n ih =>
    intro d w h
    unfold flI at h
    split at h
    · split at h
      · cases h; exact sz_pos _
      · cases h
    · rename_i hh s l
      split at h
      · simp only [Option.map_map, Option.map_eq_some_iff] at h
        obtain ⟨ws, h1, rfl⟩ := h
        have := mapM_len (fun x _ v hv => ih x v hv) h1
        simp [sz, szs] at this ⊢; omega
      · cases h
    · rename_i hh s l r
      split at h
      · simp only [Option.map_map, Option.map_eq_some_iff] at h
        obtain ⟨ws, h1, rfl⟩ := h
        have := mapM_len (fun x _ v hv => ih x v hv) h1
        simp [sz, szs] at this ⊢; omega
      · cases h
    · cases h
theorem flL_len {n : Nat} {l : List D} {w : List Int} (h : flL n l = some w) : w.length ≤ szs l := by
  unfold flL at h
  simp only [Option.map_eq_some_iff] at h
  obtain ⟨ws, h1, rfl⟩ := h
  exact mapM_len (fun x _ v hv => flI_len n x v hv) h1
theorem flL_nil (n : Nat) : flL n [] = some [] := rfl
theorem mapM_snoc {f : D → Option (List Int)} : ∀ {l : List D} {x : D}, (l ++ [x]).mapM f = (l.mapM f).bind fun ws => (f x).map fun w => ws ++ [w]
  | [], x => by
    rw [List.nil_append, List.mapM_cons]
    cases f x <;> rfl
  | y :: l, x => by
    rw [List.cons_append, List.mapM_cons, List.mapM_cons, mapM_snoc]
    cases f y with
    | none => rfl
    | some v =>
      simp only [Option.pure_def, Option.bind_eq_bind, Option.bind_some]
      cases l.mapM f with
      | none => rfl
      | some ws => cases f x <;> rfl
theorem flL_snoc {n : Nat} {l : List D} {x : D} : flL n (l ++ [x]) = (flL n l).bind fun w => (flI n x).map fun v => w ++ v := by
  unfold flL
  rw [mapM_snoc]
  cases l.mapM (flI n) with
  | none => rfl
  | some ws =>
    cases flI n x with
    | none => rfl
    | some v => simp
theorem mapM_none {f : D → Option (List Int)} : ∀ {l : List D} {x : D}, x ∈ l → f x = none → l.mapM f = none
  | y :: l, x, h, hx => by
    rw [List.mapM_cons]
    rcases List.mem_cons.mp h with rfl | h
    · rw [hx]; rfl
    · rw [mapM_none h hx]
      cases f y <;> rfl
theorem flL_none {n : Nat} {l : List D} {x : D} (h : x ∈ l) (hx : flI n x = none) : flL n l = none := by
  unfold flL
  rw [mapM_none h hx]
  rfl
theorem szs_items (a b : Int) : ∀ (n : Nat) (w : List Int), w.length ≤ n → szs (litems a b w) ≤ 5 * w.length := by
  intro n
  induction n with
  | zero => intro w h; have : w = [] := List.length_eq_zero_iff.mp (by omega); subst this; rw [litems_nil]; simp [szs]
  | succ n ih =>
    intro w h
    cases w with
    | nil => rw [litems_nil]; simp [szs]
    | cons s r =>
      have hr : r.length ≤ n := by simp at h; omega
      by_cases h1 : s < a
      · cases e : mt a b 0 r with
        | none => rw [litems_opn h1 e]; have := ih r hr; simp [szs, sz, opn, sD]; omega
        | some k =>
          rw [litems_pr h1 e]
          have hk := mt_lt a b r 0 k e
          have i1 := ih (r.take k) (by rw [List.length_take]; omega)
          have i2 := ih (r.drop (k + 1)) (by rw [List.length_drop]; omega)
          rw [List.length_take] at i1
          rw [List.length_drop] at i2
          simp [szs, sz, pr, sD]; omega
      · rw [litems_leaf h1]
        have := ih r hr
        by_cases h2 : a + b ≤ s
        · rw [if_pos h2]; simp [szs, sz, pln, sD]; omega
        · rw [if_neg h2]; simp [szs, sz, fre, sD]; omega
/-- the items of a word are such -/
theorem litems_Nr (a b : Int) : ∀ (n : Nat) (w : List Int), w.length ≤ n → w.length ≤ 4096 → (∀ s ∈ w, 0 ≤ s) → ∀ x ∈ litems a b w, Nr n x := by
  intro n
  induction n with
  | zero => intro w h _ _; have : w = [] := List.length_eq_zero_iff.mp (by omega); subst this; rw [litems_nil]; simp
  | succ n ih =>
    intro w h hm hv
    cases w with
    | nil => rw [litems_nil]; simp
    | cons s r =>
      have hr : r.length ≤ n := by simp at h; omega
      have hm' : r.length ≤ 4096 := by simp at hm; omega
      have hs := hv s List.mem_cons_self
      have hvr : ∀ s ∈ r, 0 ≤ s := fun x hx => hv x (List.mem_cons_of_mem _ hx)
      by_cases h1 : s < a
      · cases e : mt a b 0 r with
        | none =>
          rw [litems_opn h1 e]
          intro x hx
          simp at hx; subst hx
          exact .three (by simp) hs (Nat.le_trans (litems_len a b _ r (Nat.le_refl _)) hm') (ih r hr hm' hvr)
        | some k =>
          rw [litems_pr h1 e]
          have hk := mt_lt a b r 0 k e
          have hg : r.getD k 0 = r[k] := by rw [List.getD_eq_getElem?_getD, List.getElem?_eq_getElem hk]; rfl
          intro x hx
          rcases List.mem_cons.mp hx with rfl | hx
          · exact .four (by simp) hs (by rw [hg]; exact hvr _ (List.getElem_mem hk)) (Nat.le_trans (litems_len a b _ _ (Nat.le_refl _)) (by rw [List.length_take]; omega)) (ih _ (by rw [List.length_take]; omega) (by rw [List.length_take]; omega) fun x hx => hvr x (List.mem_of_mem_take hx))
          · exact (ih _ (by rw [List.length_drop]; omega) (by rw [List.length_drop]; omega) (fun x hx => hvr x (List.mem_of_mem_drop hx)) x hx).mono (by omega)
      · rw [litems_leaf h1]
        intro x hx
        rcases List.mem_cons.mp hx with rfl | hx
        · split
          · exact .two (by simp) hs
          · exact .two (by simp) hs
        · exact (ih r hr hm' hvr x hx).mono (by omega)
end P44
end
section
set_option Elab.async false
set_option linter.all false
set_option maxRecDepth 100000
set_option maxHeartbeats 1000000
namespace K44
open PySem DV P44
theorem c0 (m : Nat) : callN (m + 1) 0 = body 3 3 (b_is_integer (callN m)) := rfl
theorem c1 (m : Nat) : callN (m + 1) 1 = body 1 2 (b_is_signs (callN m)) := rfl
theorem c2 (m : Nat) : callN (m + 1) 2 = body 1 1 (b_many_signs (callN m)) := rfl
theorem c3 (m : Nat) : callN (m + 1) 3 = body 2 3 (b_is_word_of (callN m)) := rfl
theorem c4 (m : Nat) : callN (m + 1) 4 = body 2 2 (b_check_word (callN m)) := rfl
theorem c5 (m : Nat) : callN (m + 1) 5 = body 1 1 (b_check_signs (callN m)) := rfl
theorem c6 (m : Nat) : callN (m + 1) 6 = body 2 6 (b_items_of (callN m)) := rfl
theorem c7 (m : Nat) : callN (m + 1) 7 = body 2 2 (b_Spelling___init__ (callN m)) := rfl
theorem c8 (m : Nat) : callN (m + 1) 8 = body 2 6 (b_Spelling_kind (callN m)) := rfl
theorem c9 (m : Nat) : callN (m + 1) 9 = body 2 3 (b_Spelling_look_at (callN m)) := rfl
theorem c10 (m : Nat) : callN (m + 1) 10 = body 3 3 (b_Spelling_put (callN m)) := rfl
theorem c11 (m : Nat) : callN (m + 1) 11 = body 2 3 (b_Spelling_take (callN m)) := rfl
theorem c12 (m : Nat) : callN (m + 1) 12 = body 2 4 (b_Spelling_spell (callN m)) := rfl
theorem c13 (m : Nat) : callN (m + 1) 13 = body 2 4 (b_word_of (callN m)) := rfl
theorem c14 (m : Nat) : callN (m + 1) 14 = body 1 3 (b__law_tape (callN m)) := rfl
theorem c15 (m : Nat) : callN (m + 1) 15 = body 2 4 (b__law_draw (callN m)) := rfl
theorem c16 (m : Nat) : callN (m + 1) 16 = body 2 2 (b__law_pick (callN m)) := rfl
theorem c17 (m : Nat) : callN (m + 1) 17 = body 2 3 (b__law_same (callN m)) := rfl
theorem c18 (m : Nat) : callN (m + 1) 18 = body 1 1 (b__law_signs (callN m)) := rfl
theorem c19 (m : Nat) : callN (m + 1) 19 = body 1 1 (b__law_many (callN m)) := rfl
theorem c20 (m : Nat) : callN (m + 1) 20 = body 3 4 (b__law_word (callN m)) := rfl
theorem c21 (m : Nat) : callN (m + 1) 21 = body 3 4 (b__law_call (callN m)) := rfl
theorem c22 (m : Nat) : callN (m + 1) 22 = body 3 5 (b__law_match (callN m)) := rfl
theorem c23 (m : Nat) : callN (m + 1) 23 = body 2 5 (b__law_items (callN m)) := rfl
theorem c24 (m : Nat) : callN (m + 1) 24 = body 3 7 (b__law_bent (callN m)) := rfl
theorem c25 (m : Nat) : callN (m + 1) 25 = body 1 4 (b__law_flat (callN m)) := rfl
theorem c26 (m : Nat) : callN (m + 1) 26 = body 1 12 (b_law (callN m)) := rfl
theorem intOk (m : Nat) : IntOk (callN (m + 1)) 0 := fun g v lo hi h => isint_spec (cl := callN m) h
theorem manyOk (m : Nat) : ManyOk (callN (m + 1)) 2 := fun g a b c => many_spec (cl := callN m)
theorem manyOk2 (m : Nat) (g : G) (a b c : Nat) : callN (m + 1) 19 [sgT a b c] g = .ok (.int ((a + b + c : Nat) : Int)) g := many_spec (cl := callN m)
theorem drawOk (m t c : Nat) : DrawOk (callN (m + 1)) 15 t c := fun g many h0 h1 h2 => draw_spec (cl := callN m) h0 h1 h2
theorem pickOk (m t c : Nat) : PickOk (callN (m + 2)) 16 t c := fun g r xs h0 h1 h2 h3 h4 h5 h6 => pick_spec (cl := callN (m + 1)) (drawOk m t c) h0 h1 h2 h3 h4 h5 h6
theorem same (n : Nat) (d : D) (h : tree n d = true) (m : Nat) (hm : n ≤ m) (g : G) : callN m 17 [d, d] g = .ok (.bl true) g := same_spec (C := callN) (i := 17) (fun _ _ _ => rfl) n d h m hm g
theorem issg (m : Nat) (g : G) {a b c : Nat} (ha : a ≤ 3) (hb : b ≤ 3) (hc : c ≤ 3) : callN (m + 2) 1 [sgT a b c] g = .ok (.bl (decide (1 ≤ a + b + c))) g := issigns_spec (cl := callN (m + 1)) (intOk m) ha hb hc
theorem isword (m n : Nat) (g : G) (a b c : Nat) (xs : List D) (h : tree (n + 1) (.tup xs) = true) : callN (m + 2) 3 [sgT a b c, .tup xs] g = .ok (.bl (decide (xs.length ≤ 300) && xs.all (isInt 0 (((a + b + c : Nat) : Int) - 1)))) g :=
  isword_spec (cl := callN (m + 1)) (intOk m) (manyOk m) h
theorem isword_no (m : Nat) (g : G) (s v : D) (h : noTup g v = true) : callN (m + 2) 3 [s, v] g = .ok (.bl false) g := DV.isword_no (cl := callN (m + 1)) h
/-! ### the checks -/
theorem chk_sg (m : Nat) (g : G) {a b c : Nat} (ha : a ≤ 3) (hb : b ≤ 3) (hc : c ≤ 3) (h1 : 1 ≤ a + b + c) : callN (m + 3) 5 [sgT a b c] g = .ok .non g := by
  rw [c5]
  refine body_nx0 (δ := [some (sgT a b c)]) rfl ?_
  show b_check_signs (callN (m + 2)) [some (sgT a b c)] g = _
  unfold b_check_signs
  simp! [issg m g ha hb hc, List.map, h1]
theorem chk_word (m : Nat) (g : G) {a b c : Nat} {ns : List Int} (hn : IntsBelow ((a + b + c : Nat) : Int) ns) (hl : ns.length ≤ 300) : callN (m + 3) 4 [sgT a b c, .tup (ns.map .int)] g = .ok .non g := by
  rw [c4]
  refine body_nx0 (δ := [some (sgT a b c), some (.tup (ns.map .int))]) rfl ?_
  have h := isword m 1 g a b c (ns.map .int) (tree_ints (by omega))
  have e : (decide ((ns.map D.int).length ≤ 300) && (ns.map D.int).all (isInt 0 (((a + b + c : Nat) : Int) - 1))) = true := by
    rw [Bool.and_eq_true]
    refine ⟨by simpa using hl, ?_⟩
    rw [List.all_map, List.all_eq_true]
    intro x hx
    have := hn x hx
    simp [isInt]
    omega
  rw [e] at h
  show b_check_word (callN (m + 2)) [some (sgT a b c), some (.tup (ns.map .int))] g = _
  unfold b_check_word
  simp! [h, List.map]
end K44
end
section
set_option Elab.async false
set_option linter.all false
set_option maxRecDepth 100000
set_option maxHeartbeats 1000000
namespace K44
open PySem DV P44
/-! ### items_of: rows and calls in lists -/
inductive Rows (g : G) : List Nat → Stk → Prop
  | nil : Rows g [] []
  | cons {i : Nat} {c : Int} {row : List D} {is : List Nat} {stk : Stk} : g[i]? = some (.lst row) → Rows g is stk → Rows g (i :: is) ((c, row) :: stk)
theorem Rows.mono {g g' : G} : ∀ {is : List Nat} {stk : Stk}, Rows g is stk → (∀ i ∈ is, ∀ o, g[i]? = some o → g'[i]? = some o) → Rows g' is stk
  | _, _, .nil, _ => .nil
  | _, _, .cons h t, f => .cons (f _ List.mem_cons_self _ h) (Rows.mono t fun i hi => f i (List.mem_cons_of_mem _ hi))
theorem Rows.lt {g : G} : ∀ {is : List Nat} {stk : Stk}, Rows g is stk → ∀ i ∈ is, i < g.length
  | _, _, .nil, _, h => by cases h
  | _, _, .cons h t, i, hi => by
    rcases List.mem_cons.mp hi with rfl | hi
    · exact get_lt h
    · exact Rows.lt t i hi
structure RA (n rid cid top : Nat) (is : List Nat) (g0 g : G) (acc : List D) (stk : Stk) : Prop where
  pre : Pre g0 g
  r : g[rid]? = some (.lst ((is.reverse ++ [top]).map D.ref))
  c : g[cid]? = some (.lst (stk.reverse.map fun p : Int × List D => D.int p.1))
  t : g[top]? = some (.lst acc)
  rows : Rows g is stk
  nd : (rid :: cid :: top :: is).Nodup
  ge : ∀ i ∈ rid :: cid :: top :: is, g0.length ≤ i
  la : acc.length ≤ n
  ls : stk.length ≤ n
  lr : ∀ p ∈ stk, p.2.length ≤ n
variable {n rid cid top : Nat} {is : List Nat} {g0 g : G} {acc : List D} {stk : Stk}
theorem Rows.len {g : G} : ∀ {is : List Nat} {stk : Stk}, Rows g is stk → is.length = stk.length
  | _, _, .nil => rfl
  | _, _, .cons h t => by simp [Rows.len t]
/-- something new is laid -/
theorem RA.push (h : RA n rid cid top is g0 g acc stk) (o : O) : RA n rid cid top is g0 (g ++ [o]) acc stk :=
  ⟨h.pre.push o, get_push h.r, get_push h.c, get_push h.t, h.rows.mono fun i _ o e => get_push e, h.nd, h.ge, h.la, h.ls, h.lr⟩
theorem RA.weak (h : RA n rid cid top is g0 g acc stk) : RA (n + 1) rid cid top is g0 g acc stk :=
  ⟨h.pre, h.r, h.c, h.t, h.rows, h.nd, h.ge, Nat.le_succ_of_le h.la, Nat.le_succ_of_le h.ls, fun p hp => Nat.le_succ_of_le (h.lr p hp)⟩
/-- an item is put to the row on top -/
theorem RA.app (h : RA n rid cid top is g0 g acc stk) (x : D) : RA (n + 1) rid cid top is g0 (g.set top (.lst (acc ++ [x]))) (acc ++ [x]) stk := by
  have nd := h.nd
  simp only [List.nodup_cons, List.mem_cons, not_or] at nd
  refine ⟨h.pre.set (h.ge top (by simp)) _, get_setne h.r (Ne.symm nd.1.2.1), get_setne h.c (Ne.symm nd.2.1.1), get_set h.t, h.rows.mono fun i hi o e => get_setne e (by rintro rfl; exact nd.2.2.1 hi), h.nd, h.ge, by have := h.la; simp; omega, Nat.le_succ_of_le h.ls, fun p hp => Nat.le_succ_of_le (h.lr p hp)⟩
/-- a call -/
theorem RA.call (h : RA n rid cid top is g0 g acc stk) (s : Int) :
    RA (n + 1) rid cid g.length (top :: is) g0 (((g.set cid (.lst (stk.reverse.map (fun p : Int × List D => D.int p.1) ++ [D.int s]))) ++ [O.lst []]).set rid (.lst ((is.reverse ++ [top]).map D.ref ++ [D.ref g.length]))) [] ((s, acc) :: stk) := by
  have nd := h.nd
  simp only [List.nodup_cons, List.mem_cons, not_or] at nd
  have lr := get_lt h.r
  have lc := get_lt h.c
  have lt := get_lt h.t
  have li := h.rows.lt
  have keep : ∀ {i : Nat} {o : O}, g[i]? = some o → i ≠ cid → i ≠ rid → (((g.set cid (.lst (stk.reverse.map (fun p : Int × List D => D.int p.1) ++ [D.int s]))) ++ [O.lst []]).set rid (.lst ((is.reverse ++ [top]).map D.ref ++ [D.ref g.length])))[i]? = some o := fun e n1 n2 => get_setne (get_push (get_setne e (Ne.symm n1))) (Ne.symm n2)
  refine ⟨((h.pre.set (h.ge cid (by simp)) _).push _).set (h.ge rid (by simp)) _, ?_, ?_, ?_, ?_, ?_, ?_, Nat.zero_le _, by have := h.ls; simp; omega, ?_⟩
  · rw [get_set (get_push (get_setne h.r (Ne.symm nd.1.1)))]
    simp
  · have : (((g.set cid (.lst (stk.reverse.map (fun p : Int × List D => D.int p.1) ++ [D.int s]))) ++ [O.lst []]))[cid]? = some (.lst (stk.reverse.map (fun p : Int × List D => D.int p.1) ++ [D.int s])) := get_push (get_set h.c)
    rw [get_setne this nd.1.1]
    simp
  · have : (((g.set cid (.lst (stk.reverse.map (fun p : Int × List D => D.int p.1) ++ [D.int s]))) ++ [O.lst []]))[g.length]? = some (.lst []) := by simp
    exact get_setne this (by omega)
  · refine .cons (keep h.t (Ne.symm nd.2.1.1) (Ne.symm nd.1.2.1)) (h.rows.mono fun i hi o e => keep e (by rintro rfl; exact nd.2.1.2 hi) (by rintro rfl; exact nd.1.2.2 hi))
  · simp only [List.nodup_cons, List.mem_cons, not_or]
    refine ⟨⟨nd.1.1, by omega, nd.1.2.1, nd.1.2.2⟩, ⟨by omega, nd.2.1.1, nd.2.1.2⟩, ⟨by omega, fun hi => ?_⟩, nd.2.2.1, nd.2.2.2⟩
    have := li _ hi
    omega
  · intro i hi
    simp only [List.mem_cons] at hi
    rcases hi with rfl | rfl | rfl | rfl | hi
    · exact h.ge _ (by simp)
    · exact h.ge _ (by simp)
    · exact h.pre.len
    · exact h.ge _ (by simp)
    · exact h.ge _ (by simp [hi])
  · intro p hp
    rcases List.mem_cons.mp hp with rfl | hp
    · exact Nat.le_succ_of_le h.la
    · exact Nat.le_succ_of_le (h.lr p hp)
/-- the row on top goes, its call too, and what it was is put to the one below -/
theorem RA.pop {c : Int} {row : List D} {i : Nat} (h : RA n rid cid top (i :: is) g0 g acc ((c, row) :: stk)) (x : D) :
    RA (n + 1) rid cid i is g0 (((g.set rid (.lst ((is.reverse ++ [i]).map D.ref))).set cid (.lst (stk.reverse.map fun p : Int × List D => D.int p.1))).set i (.lst (row ++ [x]))) (row ++ [x]) stk := by
  have nd := h.nd
  simp only [List.nodup_cons, List.mem_cons, not_or] at nd
  have keep : ∀ {j : Nat} {o : O}, g[j]? = some o → j ≠ cid → j ≠ rid → j ≠ i → (((g.set rid (.lst ((is.reverse ++ [i]).map D.ref))).set cid (.lst (stk.reverse.map fun p : Int × List D => D.int p.1))).set i (.lst (row ++ [x])))[j]? = some o := fun e n1 n2 n3 => get_setne (get_setne (get_setne e (Ne.symm n2)) (Ne.symm n1)) (Ne.symm n3)
  have hrow : g[i]? = some (.lst row) := by cases h.rows with | cons a b => exact a
  have hrest : Rows g is stk := by cases h.rows with | cons a b => exact b
  refine ⟨((h.pre.set (h.ge rid (by simp)) _).set (h.ge cid (by simp)) _).set (h.ge i (by simp)) _, ?_, ?_, ?_, ?_, ?_, ?_, ?_, ?_, ?_⟩
  · exact get_setne (get_setne (get_set h.r) (Ne.symm nd.1.1)) (Ne.symm nd.1.2.2.1)
  · exact get_setne (get_set (get_setne h.c nd.1.1)) (Ne.symm nd.2.1.2.1)
  · exact get_set (get_setne (get_setne hrow nd.1.2.2.1) nd.2.1.2.1)
  · exact hrest.mono fun j hj o e => keep e (by rintro rfl; exact nd.2.1.2.2 hj) (by rintro rfl; exact nd.1.2.2.2 hj) (by rintro rfl; exact nd.2.2.2.1 hj)
  · simp only [List.nodup_cons, List.mem_cons, not_or]
    exact ⟨⟨nd.1.1, nd.1.2.2.1, nd.1.2.2.2⟩, ⟨nd.2.1.2.1, nd.2.1.2.2⟩, nd.2.2.2.1, nd.2.2.2.2⟩
  · intro j hj
    simp only [List.mem_cons] at hj
    rcases hj with rfl | rfl | rfl | hj
    · exact h.ge _ (by simp)
    · exact h.ge _ (by simp)
    · exact h.ge _ (by simp)
    · exact h.ge _ (by simp [hj])
  · have := h.lr (c, row) List.mem_cons_self
    simp at this ⊢; omega
  · have := h.ls; simp at this; omega
  · exact fun p hp => Nat.le_succ_of_le (h.lr p (List.mem_cons_of_mem _ hp))
end K44
end
section
set_option Elab.async false
set_option linter.all false
set_option maxRecDepth 100000
set_option maxHeartbeats 1000000
namespace K44
open PySem DV P44
/-! ### items_of -/
def itBody (cl : Cl) : Sm := (.ite (.ex (.cmp .lt (.loc 4) (.idx (.loc 0) (.cst (.int 1))))) (.seq (.ex (.mth .append (.loc 3) (exCons (.loc 4) exNil)))
  (.ex (.mth .append (.loc 2) (exCons (.lst exNil) exNil)))) (.ite (.ex (.cmp .ge (.loc 4) (.bin .add (.idx (.loc 0) (.cst (.int 1))) (.idx (.loc 0) (.cst (.int 2)))))) (.ex (.mth .append (.idx (.loc 2) (.neg (.cst (.int 1)))) (exCons (.tup (exCons (.cst (.str (Str.ofString "plain"))) (exCons (.loc 4) exNil))) exNil))) (.ite (.ex (.cmp .eq (.loc 3) (.lst exNil))) (.ex (.mth .append (.idx (.loc 2) (.neg (.cst (.int 1)))) (exCons (.tup (exCons (.cst (.str (Str.ofString "free"))) (exCons (.loc 4) exNil))) exNil))) (.seq (.asg (.name 5) (.bi .tuple (exCons (.mth .pop (.loc 2) exNil) exNil)))
  (.ex (.mth .append (.idx (.loc 2) (.neg (.cst (.int 1)))) (exCons (.tup (exCons (.cst (.str (Str.ofString "pair"))) (exCons (.mth .pop (.loc 3) exNil) (exCons (.loc 5) (exCons (.loc 4) exNil))))) exNil)))))))
variable {n rid cid top : Nat} {is : List Nat} {g0 g : G} {acc : List D} {stk : Stk}
theorem mapref_snoc (is : List Nat) (t : Nat) : (is.reverse ++ [t]).map D.ref = is.reverse.map D.ref ++ [D.ref t] := by simp
theorem neg1 : -(1 : Int) = -1 := rfl
theorem itstep {cl : Cl} {a b c : Nat} {s : Int} {ws : D} {x5 : Option D} (h : RA n rid cid top is g0 g acc stk) (hn : n ≤ 1000) :
    ∃ x5' top' is' g', itBody cl [some (sgT a b c), some ws, some (.ref rid), some (.ref cid), some (.int s), x5] g = .ok (.nx [some (sgT a b c), some ws, some (.ref rid), some (.ref cid), some (.int s), x5']) g' ∧
      RA (n + 1) rid cid top' is' g0 g' (rstep a b acc stk s).1 (rstep a b acc stk s).2 := by
  have nd := h.nd
  simp only [List.nodup_cons, List.mem_cons, not_or] at nd
  have hL : (100000 : Nat) < LINE := by unfold LINE; decide
  have la := h.la
  have ls := h.ls
  unfold itBody
  by_cases h1 : s < a
  · have e1 : rstep a b acc stk s = ([], (s, acc) :: stk) := by unfold rstep; rw [if_pos h1]
    rw [e1]
    refine ⟨x5, g.length, top :: is, _, ?_, h.call s⟩
    have hr1 : (g.set cid (.lst (stk.reverse.map (fun p : Int × List D => D.int p.1) ++ [D.int s])))[rid]? = some (.lst ((is.reverse ++ [top]).map D.ref)) := get_setne h.r (Ne.symm nd.1.1)
    have hr2 := get_push (o' := O.lst []) hr1
    simp! [h1, isL_ref _ _ _ h.c, app_ref _ _ (.int s) _ h.c (by simp; omega), isL_ref _ _ _ hr1, isL_ref _ _ _ hr2, List.length_set, app_ref _ _ (D.ref g.length) _ hr2 (by have := h.rows.len; simp; omega)]
  · by_cases h2 : (a : Int) + b ≤ s
    · have e1 : rstep a b acc stk s = (acc ++ [pln s], stk) := by unfold rstep; rw [if_neg h1, if_pos h2]
      rw [e1]
      refine ⟨x5, top, is, _, ?_, h.app (pln s)⟩
      have hr := h.r
      rw [mapref_snoc] at hr
      simp! [h1, h2, idx_ref _ _ _ _ hr, neg1, atI_last, isL_ref _ _ _ h.t, app_ref _ _ (.tup [.str (Str.ofString "plain"), .int s]) _ h.t (by omega), pln, sD]
    · cases stk with
      | nil =>
        have e1 : rstep a b acc [] s = (acc ++ [fre s], []) := by unfold rstep; rw [if_neg h1, if_neg h2]
        rw [e1]
        have hp := h.push (.lst [])
        refine ⟨x5, top, is, _, ?_, hp.app (fre s)⟩
        have hr := hp.r
        rw [mapref_snoc] at hr
        have e2 := eq_nil hp.c (get_new (g := g))
        simp! [h1, h2, e2, idx_ref _ _ _ _ hr, neg1, atI_last, isL_ref _ _ _ hp.t, app_ref _ _ (.tup [.str (Str.ofString "free"), .int s]) _ hp.t (by omega), fre, sD, List.reverse_nil, List.map_nil, List.isEmpty_nil]
      | cons p stk =>
        obtain ⟨k, row⟩ := p
        cases is with
        | nil => exact absurd h.rows.len (by simp)
        | cons i is =>
        have e1 : rstep a b acc ((k, row) :: stk) s = (row ++ [pr k acc s], stk) := by unfold rstep; rw [if_neg h1, if_neg h2]
        rw [e1]
        have hp := h.push (.lst [])
        refine ⟨some (.tup acc), i, is, _, ?_, hp.pop (pr k acc s)⟩
        have hr := hp.r
        rw [mapref_snoc] at hr
        have e2 := eq_nil hp.c (get_new (g := g))
        have e3 : (((k, row) :: stk).reverse.map fun p : Int × List D => D.int p.1).isEmpty = false := by simp
        rw [e3] at e2
        have hc := hp.c
        rw [List.reverse_cons, List.map_append, List.map_singleton] at hc
        have ht1 : ((g ++ [O.lst []]).set rid (.lst ((i :: is).reverse.map D.ref)))[top]? = some (.lst acc) := get_setne hp.t nd.1.2.1
        have hr1 : ((g ++ [O.lst []]).set rid (.lst ((i :: is).reverse.map D.ref)))[rid]? = some (.lst (is.reverse.map D.ref ++ [D.ref i])) := by
          rw [get_set hr]; simp
        have hi0 : g[i]? = some (.lst row) := by cases h.rows with | cons a b => exact a
        simp only [List.mem_cons, not_or] at nd
        have hi1 : ((g ++ [O.lst []]).set rid (.lst ((i :: is).reverse.map D.ref)))[i]? = some (.lst row) := get_setne (get_push hi0) nd.1.2.2.1
        have hc1 : ((g ++ [O.lst []]).set rid (.lst ((i :: is).reverse.map D.ref)))[cid]? = some (.lst (stk.reverse.map (fun p : Int × List D => D.int p.1) ++ [D.int k])) := get_setne hc nd.1.1
        have hi2 : (((g ++ [O.lst []]).set rid (.lst ((i :: is).reverse.map D.ref))).set cid (.lst (stk.reverse.map (fun p : Int × List D => D.int p.1))))[i]? = some (.lst row) := get_setne hi1 nd.2.1.2.1
        have hrow : row.length < LINE := by have := h.lr (k, row) List.mem_cons_self; simp at this; omega
        simp! [h1, h2, e2, isL_ref _ _ _ hr, pop_ref _ _ _ _ hr, tuple_ref _ _ _ ht1, idx_ref _ _ _ _ hr1, neg1, atI_last, isL_ref _ _ _ hi1, isL_ref _ _ _ hc1, pop_ref _ _ _ _ hc1, app_ref _ _ (.tup [.str (Str.ofString "pair"), .int k, .tup acc, .int s]) _ hi2 hrow, pr, sD]
        rw [show (i :: is).reverse.map D.ref = (is.reverse ++ [i]).map D.ref by simp]
def clBody (cl : Cl) : Sm := (.seq (.asg (.name 5) (.bi .tuple (exCons (.mth .pop (.loc 2) exNil) exNil)))
  (.ex (.mth .append (.idx (.loc 2) (.neg (.cst (.int 1)))) (exCons (.tup (exCons (.cst (.str (Str.ofString "open"))) (exCons (.mth .pop (.loc 3) exNil) (exCons (.loc 5) exNil)))) exNil))))
theorem clstep {cl : Cl} {sg ws : D} {x4 x5 : Option D} {k : Int} {row : List D} (h : RA n rid cid top is g0 g acc ((k, row) :: stk)) (hn : n ≤ 1000) :
    ∃ i' is' g', clBody cl [some sg, some ws, some (.ref rid), some (.ref cid), x4, x5] g = .ok (.nx [some sg, some ws, some (.ref rid), some (.ref cid), x4, some (.tup acc)]) g' ∧ RA (n + 1) rid cid i' is' g0 g' (row ++ [opn k acc]) stk := by
  have nd := h.nd
  simp only [List.nodup_cons, List.mem_cons, not_or] at nd
  have hL : (100000 : Nat) < LINE := by unfold LINE; decide
  cases is with
  | nil => exact absurd h.rows.len (by simp)
  | cons i is =>
  refine ⟨i, is, _, ?_, h.pop (opn k acc)⟩
  have hr := h.r
  rw [mapref_snoc] at hr
  have hc := h.c
  rw [List.reverse_cons, List.map_append, List.map_singleton] at hc
  have ht1 : (g.set rid (.lst ((i :: is).reverse.map D.ref)))[top]? = some (.lst acc) := get_setne h.t nd.1.2.1
  have hr1 : (g.set rid (.lst ((i :: is).reverse.map D.ref)))[rid]? = some (.lst (is.reverse.map D.ref ++ [D.ref i])) := by
    rw [get_set hr]; simp
  have hi0 : g[i]? = some (.lst row) := by cases h.rows with | cons a b => exact a
  simp only [List.mem_cons, not_or] at nd
  have hi1 : (g.set rid (.lst ((i :: is).reverse.map D.ref)))[i]? = some (.lst row) := get_setne hi0 nd.1.2.2.1
  have hc1 : (g.set rid (.lst ((i :: is).reverse.map D.ref)))[cid]? = some (.lst (stk.reverse.map (fun p : Int × List D => D.int p.1) ++ [D.int k])) := get_setne hc nd.1.1
  have hi2 : ((g.set rid (.lst ((i :: is).reverse.map D.ref))).set cid (.lst (stk.reverse.map (fun p : Int × List D => D.int p.1))))[i]? = some (.lst row) := get_setne hi1 nd.2.1.2.1
  have hrow : row.length < LINE := by have := h.lr (k, row) List.mem_cons_self; simp at this; omega
  unfold clBody
  simp! [isL_ref _ _ _ hr, pop_ref _ _ _ _ hr, tuple_ref _ _ _ ht1, idx_ref _ _ _ _ hr1, neg1, atI_last, isL_ref _ _ _ hi1, isL_ref _ _ _ hc1, pop_ref _ _ _ _ hc1, app_ref _ _ (.tup [.str (Str.ofString "open"), .int k, .tup acc]) _ hi2 hrow, opn, sD]
  rw [show (i :: is).reverse.map D.ref = (is.reverse ++ [i]).map D.ref by simp]
theorem snaps_ints (g : G) (n : Nat) (ns : List Int) : (ns.map D.int).mapM (snap (n + 1) g) = some (ns.map PyData.int) := by
  rw [mapM_some (h := tr) fun x hx => by
    obtain ⟨k, _, rfl⟩ := List.mem_map.mp hx
    rfl, List.map_map]
  rfl
theorem items_spec (m : Nat) (g : G) {a b c : Nat} (ha : a ≤ 3) (hb : b ≤ 3) (hc : c ≤ 3) (h1 : 1 ≤ a + b + c) {ns : List Int} (hn : IntsBelow ((a + b + c : Nat) : Int) ns) (hl : ns.length ≤ 300) :
    callN (m + 4) 6 [sgT a b c, .tup (ns.map .int)] g = .ok (.tup (litems a b ns)) g := by
  rw [c6]
  have hL : (100000 : Nat) < LINE := by unfold LINE; decide
  have key : ∃ g', b_items_of (callN (m + 3)) [some (sgT a b c), some (.tup (ns.map .int)), none, none, none, none] g = .ok (.rt (.tup (litems a b ns))) g' ∧ Pre g g' := by
    unfold b_items_of
    rw [st_nx (st_ex (x_call (m := 5) (es := exCons (.loc 0) exNil) (ds := [sgT a b c]) rfl |>.trans (chk_sg m g ha hb hc h1)))]
    rw [st_nx (st_ex (x_call (m := 4) (es := exCons (.loc 0) (exCons (.loc 1) exNil)) (ds := [sgT a b c, .tup (ns.map .int)]) rfl |>.trans (chk_word m g hn hl)))]
    -- the two lists
    rw [st_nx (δ' := [some (sgT a b c), some (.tup (ns.map .int)), some (.ref (g.length + 1)), none, none, none]) (g1 := g ++ [.lst []] ++ [.lst [.ref g.length]]) (by simp! [List.length_append])]
    rw [st_nx (δ' := [some (sgT a b c), some (.tup (ns.map .int)), some (.ref (g.length + 1)), some (.ref (g.length + 2)), none, none]) (g1 := g ++ [.lst []] ++ [.lst [.ref g.length]] ++ [.lst []]) (by simp! [List.length_append])]
    have R0 : RA 0 (g.length + 1) (g.length + 2) g.length [] g (g ++ [.lst []] ++ [.lst [.ref g.length]] ++ [.lst []]) [] [] := by
      refine ⟨⟨[.lst [], .lst [.ref g.length], .lst []], by simp⟩, by simp, by simp, by simp, .nil, by simp, by simp, Nat.le_refl _, Nat.le_refl _, by simp⟩
    let E : Option D → Option D → DV.Env := fun x4 x5 => [some (sgT a b c), some (.tup (ns.map .int)), some (.ref (g.length + 1)), some (.ref (g.length + 2)), x4, x5]
    let F := fun i => (ns.take i).foldl (fun p s => rstep a b p.1 p.2 s) (([], []) : List D × Stk)
    have hfor : ∃ x4 x5 top is g', Sm.for (.of (.loc 1)) (.name 4) (itBody (callN (m + 3))) (E none none) (g ++ [.lst []] ++ [.lst [.ref g.length]] ++ [.lst []]) = .ok (.nx (E x4 x5)) g' ∧ RA ns.length (g.length + 1) (g.length + 2) top is g g' (F ns.length).1 (F ns.length).2 := by
      rw [st_for (w := .seq (ns.map .int)) (g1 := g ++ [.lst []] ++ [.lst [.ref g.length]] ++ [.lst []]) rfl]
      refine for_steps (xs := ns.map .int) (P := fun i δ g' => ∃ x4 x5 top is, δ = E x4 x5 ∧ RA i (g.length + 1) (g.length + 2) top is g g' (F i).1 (F i).2)
        (Q := fun r => ∃ x4 x5 top is g', r = .ok (.nx (E x4 x5)) g' ∧ RA ns.length (g.length + 1) (g.length + 2) top is g g' (F ns.length).1 (F ns.length).2)
        (fun _ _ _ _ => rfl) ?_ ?_ fuel 0 _ _ ⟨none, none, _, _, rfl, R0⟩ (Nat.zero_le _) (by simp; unfold fuel; omega)
      · rintro i x δ g1 hx ⟨x4, x5, top, is, rfl, hR⟩
        rw [List.getElem?_map, Option.map_eq_some_iff] at hx
        obtain ⟨s, hs, rfl⟩ := hx
        have hi := (List.getElem?_eq_some_iff.mp hs).1
        obtain ⟨x5', top', is', g', e1, e2⟩ := itstep (cl := callN (m + 3)) (a := a) (b := b) (c := c) (s := s) (ws := .tup (ns.map .int)) (x5 := x5) hR (by omega)
        refine ⟨E (some (.int s)) x5, g1, rfl, .inl ⟨_, g', .inl e1, some (.int s), x5', top', is', rfl, ?_⟩⟩
        have : F (i + 1) = rstep a b (F i).1 (F i).2 s := by
          show (ns.take (i + 1)).foldl _ _ = _
          rw [List.take_add_one, hs, List.foldl_append]
          rfl
        rw [this]
        exact e2
      · rintro δ g1 ⟨x4, x5, top, is, rfl, hR⟩
        exact ⟨x4, x5, top, is, g1, rfl, by simpa using hR⟩
    obtain ⟨x4, x5, top, is, g1, f1, R1⟩ := hfor
    have hF : F ns.length = ns.foldl (fun p s => rstep a b p.1 p.2 s) (([], []) : List D × Stk) := by
      show (ns.take ns.length).foldl _ _ = _
      rw [List.take_length]
    have hR0 : close (F ns.length).1 (F ns.length).2 = litems a b ns := by
      rw [← run_items, run_fold, hF]
    have hls := R1.ls
    let cond : Te := .ex (.cmp .ne (.loc 3) (.lst exNil))
    have hwh : ∃ x5' top' n' g', Sm.while cond (clBody (callN (m + 3))) (E x4 x5) g1 = .ok (.nx (E x4 x5')) g' ∧ RA n' (g.length + 1) (g.length + 2) top' [] g g' (litems a b ns) [] := by
      refine while_steps (P := fun k δ g' => ∃ x5' top' is' n' acc stk, δ = E x4 x5' ∧ RA n' (g.length + 1) (g.length + 2) top' is' g g' acc stk ∧ stk.length = k ∧ n' + k ≤ 700 ∧ close acc stk = litems a b ns)
        (Q := fun r => ∃ x5' top' n' g', r = .ok (.nx (E x4 x5')) g' ∧ RA n' (g.length + 1) (g.length + 2) top' [] g g' (litems a b ns) []) ?_ fuel (F ns.length).2.length _ _ ⟨x5, top, is, _, _, _, rfl, R1, rfl, by omega, hR0⟩ (by unfold fuel; omega)
      rintro k δ g2 ⟨x5', top', is', n', acc, stk, rfl, hR, hk, hn', hc'⟩
      have hp := hR.push (.lst [])
      have e2 := ne_nil (ts := stk.reverse.map fun p => PyData.int p.1) hp.c (get_new (g := g2)) (by
        have := snaps_ints (g2 ++ [O.lst []]) 62 (stk.reverse.map fun p => p.1)
        rw [List.map_map, List.map_map] at this
        exact this)
      have ec : cond (E x4 x5') g2 = .ok (!(stk.reverse.map fun p : Int × List D => D.int p.1).isEmpty) (g2 ++ [O.lst []]) := by
        show Te.ex _ _ _ = _
        show Te.ex _ [some (sgT a b c), some (.tup (ns.map .int)), some (.ref (g.length + 1)), some (.ref (g.length + 2)), x4, x5'] _ = _
        simp! [e2]
      refine ⟨_, _, ec, ?_⟩
      cases stk with
      | nil =>
        refine .inl ⟨rfl, x5', top', n', _, rfl, ?_⟩
        have : is' = [] := List.length_eq_zero_iff.mp hR.rows.len
        subst this
        have h3 : acc = litems a b ns := hc'
        rw [← h3]
        exact hp
      | cons p stk =>
        obtain ⟨q, row⟩ := p
        obtain ⟨i', is2, g3, e3, R3⟩ := clstep (cl := callN (m + 3)) (sg := sgT a b c) (ws := .tup (ns.map .int)) (x4 := x4) (x5 := x5') hp (by simp at hk; omega)
        refine .inr ⟨by simp, .inl ⟨_, g3, stk.length, .inl e3, by simp at hk; omega, some (.tup acc), i', is2, n' + 1, _, stk, rfl, R3, rfl, by simp at hk; omega, hc'⟩⟩
    obtain ⟨x5', top', n', g3, e3, R3⟩ := hwh
    refine ⟨g3, (st_nx f1).trans ((st_nx e3).trans ?_), R3.pre⟩
    show Sm.ret _ [some (sgT a b c), some (.tup (ns.map .int)), some (.ref (g.length + 1)), some (.ref (g.length + 2)), x4, x5'] _ = _
    have hr : g3[g.length + 1]? = some (.lst [.ref top']) := R3.r
    simp! [idx_ref _ _ _ _ hr, tuple_ref _ _ _ R3.t]
  obtain ⟨g', e, hp⟩ := key
  refine body_pre rfl e hp ?_
  rw [D.low]
  exact litems_low a b _ ns (by omega)
end K44
end
section
set_option Elab.async false
set_option linter.all false
set_option maxRecDepth 100000
set_option maxHeartbeats 1000000
namespace K44
open PySem DV P44
/-! ### the law's items -/
theorem atI_ints {ns : List Int} {k : Nat} {s : Int} (h : ns[k]? = some s) : atI (ns.map D.int) (k : Int) = some (.int s) := by
  have hl := (List.getElem?_eq_some_iff.mp h).1
  rw [atI_nat (by rw [List.length_map]; exact hl)]
  simp only [List.getElem_map]
  rw [List.getElem?_eq_getElem hl] at h
  rw [Option.some.inj h]
def mD (k : Nat) : Option Nat → D
  | none => .non
  | some q => .int ((k + 1 + q : Nat) : Int)
def maBody (cl : Cl) : Sm := (.ite (.ex (.cmp .lt (.idx (.loc 1) (.loc 4)) (.idx (.loc 0) (.cst (.int 1))))) (.asg (.name 3) (.bin .add (.loc 3) (.cst (.int 1)))) (.ite (.ex (.cmp .lt (.idx (.loc 1) (.loc 4)) (.bin .add (.idx (.loc 0) (.cst (.int 1))) (.idx (.loc 0) (.cst (.int 2)))))) (.seq (.asg (.name 3) (.bin .sub (.loc 3) (.cst (.int 1))))
  (.ite (.ex (.cmp .eq (.loc 3) (.cst (.int 0)))) (.ret (.loc 4)) .skip)) .skip))
abbrev mE (a b c : Nat) (ns : List Int) (k : Nat) (now : Int) (x : Option D) : DV.Env := [some (sgT a b c), some (.tup (ns.map .int)), some (.int k), some (.int now), x]
theorem match_spec (m : Nat) (g : G) {a b c : Nat} {ns : List Int} {k : Nat} {s : Int} (hk : ns[k]? = some s) (hs : s < a) (hl : ns.length ≤ 4096) :
    callN (m + 1) 22 [sgT a b c, .tup (ns.map .int), .int k] g = .ok (mD k (mt a b 0 (ns.drop (k + 1)))) g := by
  have hkl := (List.getElem?_eq_some_iff.mp hk).1
  rw [c22]
  have hxs : rangeD (k : Int) (ns.length : Int) = (List.range (ns.length - k)).map fun i => D.int ((k + i : Nat) : Int) := by
    unfold rangeD
    rw [show ((ns.length : Int) - k).toNat = ns.length - k by omega]
    congr 1
  have key : ∃ δ, (b__law_match (callN m) [some (sgT a b c), some (.tup (ns.map .int)), some (.int k), none, none] g = .ok (.rt (mD k (mt a b 0 (ns.drop (k + 1))))) g) ∨ δ = mE a b c ns k 0 none ∧ False := by
    refine ⟨mE a b c ns k 0 none, .inl ?_⟩
    unfold b__law_match
    rw [st_nx (δ' := mE a b c ns k 0 none) (g1 := g) (by simp! [])]
    have hfor : (∃ now x, Sm.for (.range2 (.loc 2) (.bi .len (exCons (.loc 1) exNil))) (.name 4) (maBody (callN m)) (mE a b c ns k 0 none) g = .ok (.nx (mE a b c ns k now x)) g ∧ mt a b 0 (ns.drop (k + 1)) = none) ∨
        Sm.for (.range2 (.loc 2) (.bi .len (exCons (.loc 1) exNil))) (.name 4) (maBody (callN m)) (mE a b c ns k 0 none) g = .ok (.rt (mD k (mt a b 0 (ns.drop (k + 1))))) g := by
      have hit : Ie.range2 (.loc 2) (.bi .len (exCons (.loc 1) exNil)) (mE a b c ns k 0 none) g = .ok (.seq ((List.range (ns.length - k)).map fun i => D.int ((k + i : Nat) : Int))) g := by
        rw [← hxs]
        show ((Ex.loc 2 (mE a b c ns k 0 none) g).bind fun x g => ((Ex.bi .len (exCons (.loc 1) exNil)) (mE a b c ns k 0 none) g).bind fun y g => _) = _
        show (R.ok (D.int k) g).bind _ = _
        rw [R.bind_ok]
        show (R.ok (D.int ((ns.map D.int).length : Nat)) g).bind _ = _
        rw [R.bind_ok, List.length_map]
        dsimp only
        rw [if_pos (by omega)]
      rw [st_for hit]
      refine for_steps (xs := (List.range (ns.length - k)).map fun i => D.int ((k + i : Nat) : Int))
        (P := fun j δ g' => g' = g ∧ ∃ now x, δ = mE a b c ns k now x ∧ ((j = 0 ∧ now = 0) ∨ ∃ d : Nat, 1 ≤ j ∧ now = d + 1 ∧ mt a b 0 (ns.drop (k + 1)) = (mt a b d (ns.drop (k + j))).map (· + (j - 1))))
        (Q := fun r => (∃ now x, r = .ok (.nx (mE a b c ns k now x)) g ∧ mt a b 0 (ns.drop (k + 1)) = none) ∨ r = .ok (.rt (mD k (mt a b 0 (ns.drop (k + 1))))) g)
        (fun _ _ _ _ => rfl) ?_ ?_ fuel 0 _ _ ⟨rfl, 0, none, rfl, .inl ⟨rfl, rfl⟩⟩ (Nat.zero_le _) (by simp; unfold fuel; omega)
      · rintro j x δ g1 hx ⟨rfl, now, x0, rfl, hP⟩
        rw [List.getElem?_map, Option.map_eq_some_iff] at hx
        obtain ⟨j', hj, rfl⟩ := hx
        have hjl := (List.getElem?_eq_some_iff.mp hj).1
        simp at hjl
        rw [List.getElem?_range hjl] at hj
        cases hj
        have hkj : k + j < ns.length := by omega
        have hg : ns[k + j]? = some ns[k + j] := List.getElem?_eq_getElem hkj
        have hat := atI_ints hg
        generalize ns[k + j] = t at hg hat
        have hdrop : ns.drop (k + j) = t :: ns.drop (k + j + 1) := by
          rw [List.drop_eq_getElem_cons hkj]
          rw [List.getElem?_eq_getElem hkj] at hg
          rw [Option.some.inj hg]
        refine ⟨mE a b c ns k now (some (.int ((k + j : Nat) : Int))), g1, rfl, ?_⟩
        have hshow : ∀ y, maBody (callN m) (mE a b c ns k now y) g1 = maBody (callN m) [some (sgT a b c), some (.tup (ns.map .int)), some (.int k), some (.int now), y] g1 := fun _ => rfl
        rw [hshow]
        rcases hP with ⟨rfl, rfl⟩ | ⟨d, hj1, rfl, hm⟩
        · -- the call itself
          have ht : t = s := by
            rw [Nat.add_zero] at hg
            exact Option.some.inj (hg.symm.trans hk)
          subst ht
          refine .inl ⟨mE a b c ns k 1 (some (.int ((k + 0 : Nat) : Int))), g1, .inl ?_, rfl, 1, _, rfl, .inr ⟨0, Nat.le_refl _, rfl, by simp⟩⟩
          unfold maBody
          simp! [hat, hs, Int.zero_add]
        · rw [hdrop] at hm
          by_cases h1 : t < a
          · refine .inl ⟨mE a b c ns k (d + 1 + 1) (some (.int ((k + j : Nat) : Int))), g1, .inl ?_, rfl, _, _, rfl, .inr ⟨d + 1, by omega, by simp, ?_⟩⟩
            · unfold maBody
              simp! [hat, h1]
            · rw [hm, mt_call _ h1, Option.map_map, show k + (j + 1) = k + j + 1 by omega]
              refine congrArg (fun f => Option.map f _) (funext fun z => ?_)
              simp only [Function.comp]
              omega
          · by_cases h2 : t < (a : Int) + b
            · cases d with
              | zero =>
                refine .inr (.inr ⟨.int ((k + j : Nat) : Int), g1, ?_, .inr ?_⟩)
                · unfold maBody
                  have z : ((0 : Int) + 1 - 1 = 0) := rfl
                  simp! [hat, h1, h2, z]
                · rw [hm, mt_ret0 h1 h2]
                  show RS.ok (.rt _) _ = RS.ok (.rt (.int ((k + 1 + (0 + (j - 1)) : Nat) : Int))) _
                  rw [show k + 1 + (0 + (j - 1)) = k + j by omega]
              | succ d =>
                refine .inl ⟨mE a b c ns k (d + 1) (some (.int ((k + j : Nat) : Int))), g1, .inl ?_, rfl, _, _, rfl, .inr ⟨d, by omega, rfl, ?_⟩⟩
                · unfold maBody
                  have z : ¬ (((d + 1 : Nat) : Int) + 1 - 1 = 0) := by omega
                  simp! [hat, h1, h2, z]
                  show RS.ok (.nx [_, _, _, some (.int (((d + 1 : Nat) : Int) + 1 - 1)), _]) g1 = _
                  rw [show ((d + 1 : Nat) : Int) + 1 - 1 = (d : Int) + 1 by omega]
                · rw [hm, mt_retS _ h1 h2, Option.map_map, show k + (j + 1) = k + j + 1 by omega]
                  refine congrArg (fun f => Option.map f _) (funext fun z => ?_)
                  simp only [Function.comp]
                  omega
            · refine .inl ⟨mE a b c ns k (d + 1) (some (.int ((k + j : Nat) : Int))), g1, .inl ?_, rfl, _, _, rfl, .inr ⟨d, by omega, rfl, ?_⟩⟩
              · unfold maBody
                simp! [hat, h1, h2]
              · rw [hm, mt_pln _ h1 h2, Option.map_map, show k + (j + 1) = k + j + 1 by omega]
                refine congrArg (fun f => Option.map f _) (funext fun z => ?_)
                simp only [Function.comp]
                omega
      · rintro δ g1 ⟨rfl, now, x0, rfl, hP⟩
        refine .inl ⟨now, x0, rfl, ?_⟩
        rcases hP with ⟨h0, _⟩ | ⟨d, _, _, hm⟩
        · simp at h0; omega
        · rw [hm, show ns.drop (k + ((List.range (ns.length - k)).map fun i => D.int ((k + i : Nat) : Int)).length) = [] by simp; omega]
          cases d <;> rfl
    rcases hfor with ⟨now, x, e, hn⟩ | e
    · refine (st_nx e).trans ?_
      rw [hn]
      rfl
    · exact st_rt e
  obtain ⟨δ, e | ⟨_, z⟩⟩ := key
  · exact body_rt0 rfl e (by cases mt (↑a) (↑b) 0 (ns.drop (k + 1)) <;> rfl)
  · exact z.elim
end K44
end
section
set_option Elab.async false
set_option linter.all false
set_option maxRecDepth 100000
set_option maxHeartbeats 1000000
namespace K44
open PySem DV P44
def lBody (cl : Cl) : Sm := (.seq (.ite (.ex (.cmp .ge (.idx (.loc 1) (.loc 3)) (.idx (.loc 0) (.cst (.int 1))))) (.seq (.ex (.mth .append (.loc 2) (exCons (.tup (exCons (.ite (.ex (.cmp .ge (.idx (.loc 1) (.loc 3)) (.bin .add (.idx (.loc 0) (.cst (.int 1))) (.idx (.loc 0) (.cst (.int 2)))))) (.cst (.str (Str.ofString "plain"))) (.cst (.str (Str.ofString "free")))) (exCons (.idx (.loc 1) (.loc 3)) exNil))) exNil)))
  (.seq (.asg (.name 3) (.bin .add (.loc 3) (.cst (.int 1))))
  .cnt)) .skip)
  (.seq (.asg (.name 4) (.call cl 22 (exCons (.loc 0) (exCons (.loc 1) (exCons (.loc 3) exNil)))))
  (.seq (.ite (.ex (.cmp .isN (.loc 4) (.cst .non))) (.seq (.ex (.mth .append (.loc 2) (exCons (.tup (exCons (.cst (.str (Str.ofString "open"))) (exCons (.idx (.loc 1) (.loc 3)) (exCons (.call cl 23 (exCons (.loc 0) (exCons (.slc (.loc 1) (.at (.bin .add (.loc 3) (.cst (.int 1)))) .no) exNil))) exNil)))) exNil)))
  .brk) .skip)
  (.seq (.ex (.mth .append (.loc 2) (exCons (.tup (exCons (.cst (.str (Str.ofString "pair"))) (exCons (.idx (.loc 1) (.loc 3)) (exCons (.call cl 23 (exCons (.loc 0) (exCons (.slc (.loc 1) (.at (.bin .add (.loc 3) (.cst (.int 1)))) (.at (.loc 4))) exNil))) (exCons (.idx (.loc 1) (.loc 4)) exNil))))) exNil)))
  (.asg (.name 3) (.bin .add (.loc 4) (.cst (.int 1))))))))
abbrev lE (a b c : Nat) (ns : List Int) (f : Nat) (k : Int) (x : Option D) : DV.Env := [some (sgT a b c), some (.tup (ns.map .int)), some (.ref f), some (.int k), x]
theorem lE_s (a b c : Nat) (ns : List Int) (f k : Nat) (x : Option D) : lE a b c ns f ((k : Int) + 1) x = lE a b c ns f ((k + 1 : Nat) : Int) x := by rw [Int.natCast_add]; rfl
theorem drop_getD {ns : List Int} {k : Nat} (h : k < ns.length) : ns.drop k = ns[k] :: ns.drop (k + 1) := List.drop_eq_getElem_cons h
section
variable {cl : Cl} {a b c : Nat} {ns : List Int} {f k : Nat} {x : Option D} {s : Int} {g g2 : G} {acc : List D}
theorem lst_none {sub : List Int} {l : List D} (hat : atI (ns.map D.int) (k : Int) = some (.int s)) (h1 : ¬ ((a : Int) ≤ s)) (hm : cl 22 [sgT a b c, .tup (ns.map .int), .int k] g = .ok .non g)
    (hs : cut (ns.map D.int) (some ((k : Int) + 1)) none = sub.map D.int) (hr : cl 23 [sgT a b c, .tup (sub.map .int)] g = .ok (.tup l) g) (hf : g[f]? = some (.lst acc)) (ha : mth .append (.ref f) [opn s l] g = .ok .non g2) :
    lBody cl [some (sgT a b c), some (.tup (ns.map .int)), some (.ref f), some (.int k), x] g = .ok (.bk [some (sgT a b c), some (.tup (ns.map .int)), some (.ref f), some (.int k), some .non]) g2 := by
  unfold lBody
  unfold opn sD at ha
  simp! [hat, h1, hm, isL_ref _ _ _ hf, hs, hr, ha]
theorem lst_some {sub : List Int} {l : List D} {j : Nat} {r : Int} (hat : atI (ns.map D.int) (k : Int) = some (.int s)) (h1 : ¬ ((a : Int) ≤ s)) (hm : cl 22 [sgT a b c, .tup (ns.map .int), .int k] g = .ok (.int (j : Int)) g)
    (hs : cut (ns.map D.int) (some ((k : Int) + 1)) (some (j : Int)) = sub.map D.int) (hr : cl 23 [sgT a b c, .tup (sub.map .int)] g = .ok (.tup l) g) (hf : g[f]? = some (.lst acc)) (hj : atI (ns.map D.int) (j : Int) = some (.int r)) (ha : mth .append (.ref f) [pr s l r] g = .ok .non g2) :
    lBody cl [some (sgT a b c), some (.tup (ns.map .int)), some (.ref f), some (.int k), x] g = .ok (.nx [some (sgT a b c), some (.tup (ns.map .int)), some (.ref f), some (.int ((j : Int) + 1)), some (.int j)]) g2 := by
  unfold lBody
  unfold pr sD at ha
  simp! [hat, h1, hm, isL_ref _ _ _ hf, hs, hr, hj, ha]
theorem lst_leaf (hat : atI (ns.map D.int) (k : Int) = some (.int s)) (h1 : ((a : Int) ≤ s)) (hf : g[f]? = some (.lst acc)) (ha : mth .append (.ref f) [if (a : Int) + b ≤ s then pln s else fre s] g = .ok .non g2) :
    lBody cl [some (sgT a b c), some (.tup (ns.map .int)), some (.ref f), some (.int k), x] g = .ok (.ct [some (sgT a b c), some (.tup (ns.map .int)), some (.ref f), some (.int ((k : Int) + 1)), x]) g2 := by
  unfold lBody
  by_cases h2 : (a : Int) + b ≤ s
  · rw [if_pos h2] at ha
    unfold pln sD at ha
    simp! [hat, h1, h2, isL_ref _ _ _ hf, ha]
  · rw [if_neg h2] at ha
    unfold fre sD at ha
    simp! [hat, h1, h2, isL_ref _ _ _ hf, ha]
end
theorem litems_spec (a b c : Nat) : ∀ (n : Nat) (ns : List Int), ns.length < n → ns.length ≤ 4096 → ∀ m, n + 1 ≤ m → ∀ g : G, callN m 23 [sgT a b c, .tup (ns.map .int)] g = .ok (.tup (litems a b ns)) g := by
  intro n
  induction n with
  | zero => intro ns hl; exact absurd hl (Nat.not_lt_zero _)
  | succ n ih =>
    intro ns hl hl2 m hm g
    obtain ⟨m, rfl⟩ : ∃ q, m = q + 1 := ⟨m - 1, by omega⟩
    obtain ⟨m', rfl⟩ : ∃ q, m = q + 1 := ⟨m - 1, by omega⟩
    have hL : (100000 : Nat) < LINE := by unfold LINE; decide
    rw [c23]
    refine body_rt (t := [.lst (litems a b ns)]) rfl ?_ (by rw [D.low]; exact litems_low a b _ ns hl2)
    show b__law_items (callN (m' + 1)) [some (sgT a b c), some (.tup (ns.map .int)), none, none, none] g = _
    unfold b__law_items
    rw [st_nx (δ' := [some (sgT a b c), some (.tup (ns.map .int)), some (.ref g.length), none, none]) (g1 := g ++ [.lst []]) (by simp! [])]
    rw [st_nx (δ' := lE a b c ns g.length 0 none) (g1 := g ++ [.lst []]) (by simp! [])]
    have hwh : ∃ (k : Int) (x : Option D), Sm.while (.ex (.cmp .lt (.loc 3) (.bi .len (exCons (.loc 1) exNil)))) (lBody (callN (m' + 1))) (lE a b c ns g.length 0 none) (g ++ [.lst []]) = .ok (.nx (lE a b c ns g.length k x)) (g ++ [.lst (litems a b ns)]) := by
      refine while_steps (P := fun q δ g' => ∃ (k : Nat) (x : Option D) (acc : List D), δ = lE a b c ns g.length (k : Int) x ∧ g' = g ++ [.lst acc] ∧ acc ++ litems a b (ns.drop k) = litems a b ns ∧ acc.length ≤ k ∧ k ≤ ns.length ∧ q + k = ns.length)
        (Q := fun r => ∃ (k : Int) (x : Option D), r = .ok (.nx (lE a b c ns g.length k x)) (g ++ [.lst (litems a b ns)])) ?_ fuel ns.length _ _ ⟨0, none, [], rfl, rfl, by simp, Nat.le_refl _, Nat.zero_le _, by omega⟩ (by unfold fuel; omega)
      rintro q δ g1 ⟨k, x, acc, rfl, rfl, hacc, hla, hk, hq⟩
      have ec : Te.ex (.cmp .lt (.loc 3) (.bi .len (exCons (.loc 1) exNil))) (lE a b c ns g.length k x) (g ++ [.lst acc]) = .ok (decide (k < ns.length)) (g ++ [.lst acc]) := by
        simp! [List.length_map, Int.ofNat_lt]
      refine ⟨_, _, ec, ?_⟩
      by_cases hkl : k < ns.length
      · refine .inr ⟨by simpa using hkl, ?_⟩
        have hg : ns[k]? = some ns[k] := List.getElem?_eq_getElem hkl
        have hd := drop_getD hkl
        have hat := atI_ints hg
        generalize ns[k] = s at hg hd hat
        rw [hd] at hacc
        have hf : (g ++ [O.lst acc])[g.length]? = some (.lst acc) := get_new
        have hset : ∀ y, (g ++ [O.lst acc]).set g.length (.lst (acc ++ [y])) = g ++ [.lst (acc ++ [y])] := fun y => by
          rw [List.set_append_right _ _ (Nat.le_refl _)]; simp
        have happ : ∀ y, mth .append (.ref g.length) [y] (g ++ [O.lst acc]) = .ok .non (g ++ [.lst (acc ++ [y])]) := fun y => by
          rw [app_ref _ _ y _ hf (by omega), hset]
        by_cases h1 : s < a
        · have h1' : ¬ ((a : Int) ≤ s) := by omega
          have hm0 := match_spec m' (g ++ [O.lst acc]) (c := c) (b := b) hg h1 hl2
          have hsl1 : cut (ns.map D.int) (some ((k : Int) + 1)) none = (ns.drop (k + 1)).map D.int := by
            rw [show (k : Int) + 1 = ((k + 1 : Nat) : Int) by omega, cut_from, List.map_drop]
          cases e : mt a b 0 (ns.drop (k + 1)) with
          | none =>
            rw [e] at hm0
            rw [litems_opn h1 e] at hacc
            have hrec := ih (ns.drop (k + 1)) (by rw [List.length_drop]; omega) (by rw [List.length_drop]; omega) (m' + 1) (by omega) (g ++ [O.lst acc])
            refine .inr (.inl ⟨lE a b c ns g.length k (some .non), g ++ [.lst (litems a b ns)], ?_, k, _, rfl⟩)
            have e5 := lst_none (x := x) hat h1' hm0 hsl1 hrec hf (happ _)
            rw [show acc ++ [opn s (litems a b (ns.drop (k + 1)))] = litems a b ns from hacc] at e5
            exact e5
          | some j =>
            rw [e] at hm0
            rw [litems_pr h1 e] at hacc
            have hj := mt_lt _ _ _ _ _ e
            rw [List.length_drop] at hj
            have hrec := ih ((ns.drop (k + 1)).take j) (by rw [List.length_take, List.length_drop]; omega) (by rw [List.length_take, List.length_drop]; omega) (m' + 1) (by omega) (g ++ [O.lst acc])
            have hsl2 : cut (ns.map D.int) (some ((k : Int) + 1)) (some ((k + 1 + j : Nat) : Int)) = ((ns.drop (k + 1)).take j).map D.int := by
              rw [show (k : Int) + 1 = ((k + 1 : Nat) : Int) by omega, cut_mid _ _ _ (by rw [List.length_map]; omega), List.map_take, List.map_drop, show k + 1 + j - (k + 1) = j by omega]
            have hat2 : atI (ns.map D.int) ((k + 1 + j : Nat) : Int) = some (.int ((ns.drop (k + 1)).getD j 0)) := by
              refine atI_ints ?_
              rw [List.getD_eq_getElem?_getD, List.getElem?_drop, List.getElem?_eq_getElem (by omega)]
              rfl
            refine .inl ⟨lE a b c ns g.length (((k + 1 + j : Nat) : Int) + 1) (some (.int ((k + 1 + j : Nat) : Int))), g ++ [.lst (acc ++ [pr s (litems a b ((ns.drop (k + 1)).take j)) ((ns.drop (k + 1)).getD j 0)])], ns.length - (k + 1 + j + 1), .inl ?_, by omega, k + 1 + j + 1, _, _, lE_s _ _ _ _ _ _ _, rfl, ?_, by simp; omega, by omega, by omega⟩
            · exact lst_some (x := x) hat h1' hm0 hsl2 hrec hf hat2 (happ _)
            · rw [List.append_assoc]
              rw [List.drop_drop] at hacc
              rw [show k + 1 + j + 1 = k + 1 + (j + 1) by omega]
              exact hacc
        · have h1' : (a : Int) ≤ s := by omega
          rw [litems_leaf h1] at hacc
          refine .inl ⟨lE a b c ns g.length ((k : Int) + 1) x, g ++ [.lst (acc ++ [if (a : Int) + b ≤ s then pln s else fre s])], ns.length - (k + 1), .inr ?_, by omega, k + 1, x, _, lE_s _ _ _ _ _ _ _, rfl, ?_, by simp; omega, by omega, by omega⟩
          · exact lst_leaf (x := x) hat h1' hf (happ _)
          · rw [List.append_assoc]
            exact hacc
      · refine .inl ⟨by simpa using hkl, k, x, ?_⟩
        have : k = ns.length := by omega
        subst this
        rw [List.drop_length, litems_nil, List.append_nil] at hacc
        rw [hacc]
    obtain ⟨k, x, e⟩ := hwh
    refine (st_nx e).trans ?_
    simp! [tuple_ref _ _ _ (get_new (g := g) (o := O.lst (litems a b ns)))]
end K44
end
section
set_option Elab.async false
set_option linter.all false
set_option maxRecDepth 100000
set_option maxHeartbeats 1000000
namespace K44
open PySem DV P44
/-! ### the law's flat reading -/
def fBody (cl : Cl) : Sm := (.seq (.ite (.or (.ex (.cmp .isN (.loc 2) (.cst .non))) (.ex (.cmp .notIn (.tup (exCons (.idx (.loc 2) (.cst (.int 0))) (exCons (.bi .len (exCons (.loc 2) exNil)) exNil))) (.tup (exCons (.tup (exCons (.cst (.str (Str.ofString "plain"))) (exCons (.cst (.int 2)) exNil))) (exCons (.tup (exCons (.cst (.str (Str.ofString "free"))) (exCons (.cst (.int 2)) exNil))) (exCons (.tup (exCons (.cst (.str (Str.ofString "pair"))) (exCons (.cst (.int 4)) exNil))) (exCons (.tup (exCons (.cst (.str (Str.ofString "open"))) (exCons (.cst (.int 3)) exNil))) exNil)))))))) (.ret (.cst .non)) .skip)
  (.seq (.asg (.name 3) (.tup exNil))
  (.seq (.ite (.ex (.cmp .in_ (.idx (.loc 2) (.cst (.int 0))) (.tup (exCons (.cst (.str (Str.ofString "pair"))) (exCons (.cst (.str (Str.ofString "open"))) exNil))))) (.asg (.name 3) (.ite (.ex (.isi (.idx (.loc 2) (.cst (.int 2))) .tuple)) (.call cl 25 (exCons (.idx (.loc 2) (.cst (.int 2))) exNil)) (.cst .non))) .skip)
  (.seq (.ite (.ex (.cmp .isN (.loc 3) (.cst .non))) (.ret (.cst .non)) .skip)
  (.asg (.name 1) (.bin .add (.bin .add (.bin .add (.loc 1) (.tup (exCons (.idx (.loc 2) (.cst (.int 1))) exNil))) (.loc 3)) (.slc (.loc 2) (.at (.cst (.int 3))) .no)))))))
def forms : List D := [.tup [.str (Str.ofString "plain"), .int 2], .tup [.str (Str.ofString "free"), .int 2], .tup [.str (Str.ofString "pair"), .int 4], .tup [.str (Str.ofString "open"), .int 3]]
theorem forms_nb : ∀ y ∈ forms, nb 2 y = true := by decide +kernel
theorem pair_nb {h : Str} (hh : h ∈ [SP, SF, SO, SR, SC]) (i : Int) : nb 2 (.tup [.str h, .int i]) = true := nb_tup (by simp) (by intro x hx; simp at hx; rcases hx with rfl | rfl; exact nb_head hh; rfl)
theorem in_forms {h : Str} (hh : h ∈ [SP, SF, SO, SR, SC]) (i : Int) (g : G) : cmpD .notIn (.tup [.str h, .int i]) (.tup [.tup [.str (Str.ofString "plain"), .int 2], .tup [.str (Str.ofString "free"), .int 2], .tup [.str (Str.ofString "pair"), .int 4], .tup [.str (Str.ofString "open"), .int 3]]) g =
    some (!decide ((h = SP ∧ i = 2) ∨ (h = SF ∧ i = 2) ∨ (h = SR ∧ i = 4) ∨ (h = SO ∧ i = 3))) := by
  refine (notIn_nb g (pair_nb hh i) forms_nb (by decide)).trans ?_
  congr 3
  simp [forms, SP, SF, SR, SO]
theorem in_two {h : Str} (hh : h ∈ [SP, SF, SO, SR, SC]) (g : G) : cmpD .in_ (.str h) (.tup [.str (Str.ofString "pair"), .str (Str.ofString "open")]) g = some (decide (h = SR ∨ h = SO)) := by
  rw [in_nb (n := 1) g (nb_head hh) (by decide +kernel) (by decide)]
  congr 2
  simp [SR, SO]
def flD : Option (List Int) → D
  | none => .non
  | some w => .tup (w.map .int)
theorem cut3_2 (x y : D) : cut [x, y] (some 3) none = [] := cut_from [x, y] 3
theorem cut3_3 (x y z : D) : cut [x, y, z] (some 3) none = [] := cut_from [x, y, z] 3
theorem cut3_4 (x y z u : D) : cut [x, y, z, u] (some 3) none = [u] := cut_from [x, y, z, u] 3
theorem fstep {cl : Cl} {n : Nat} {x : D} {is : D} {w : List Int} {x3 : Option D} {g : G} (hx : Nr n x) (hc : ∀ l, (∀ y ∈ l, Nr (n - 1) y) → l.length ≤ 4096 → szs l < sz x → cl 25 [.tup l] g = .ok (flD (flL (n - 1) l)) g) (hl : w.length + sz x ≤ 100000) :
    (flI n x = none ∧ fBody cl [some is, some (.tup (w.map .int)), some x, x3] g = .ok (.rt .non) g) ∨
    ∃ v x3', flI n x = some v ∧ fBody cl [some is, some (.tup (w.map .int)), some x, x3] g = .ok (.nx [some is, some (.tup ((w ++ v).map .int)), some x, x3']) g := by
  have hL : (1000000 : Nat) < LINE := by unfold LINE; decide
  have add1 : ∀ (u v : List Int), u.length + v.length ≤ 100000 → binop .add (.tup (u.map .int)) (.tup (v.map .int)) g = .ok (.tup ((u ++ v).map .int)) g := fun u v h => by
    rw [add_tup (by simp; omega), List.map_append]
  have addS : ∀ (u : List Int) (s : Int), u.length < 100000 → binop .add (.tup (u.map .int)) (.tup [.int s]) g = .ok (.tup ((u ++ [s]).map .int)) g := fun u s h => add1 u [s] (by simp; omega)
  have addN : ∀ (u : List Int), u.length < 100000 → binop .add (.tup (u.map .int)) (.tup []) g = .ok (.tup (u.map .int)) g := fun u h => by
    have := add1 u [] (by simp; omega)
    simpa using this
  cases hx with
  | non =>
    refine .inl ⟨rfl, ?_⟩
    unfold fBody
    simp! []
  | @two n h s hh h0 =>
    have e1 := in_forms hh 2 g
    simp [sz, szs] at hl
    by_cases hq : h = SP ∨ h = SF
    · have e0 : (decide ((h = SP ∧ (2 : Int) = 2) ∨ (h = SF ∧ (2 : Int) = 2) ∨ (h = SR ∧ (2 : Int) = 4) ∨ (h = SO ∧ (2 : Int) = 3))) = true := by
        rcases hq with hq | hq <;> simp [hq]
      rw [e0] at e1
      have e2 := in_two hh g
      have e3 : decide (h = SR ∨ h = SO) = false := by
        rcases hq with rfl | rfl
        · simp [ne_PR, ne_PO]
        · simp [ne_FR, ne_FO]
      rw [e3] at e2
      refine .inr ⟨[s], some (.tup []), by simp only [flI]; rw [if_pos hq], ?_⟩
      unfold fBody
      simp! [e1, e2, cut3_2, addS w s (by omega), addN (w ++ [s]) (by simp; omega)]
    · have e0 : (decide ((h = SP ∧ (2 : Int) = 2) ∨ (h = SF ∧ (2 : Int) = 2) ∨ (h = SR ∧ (2 : Int) = 4) ∨ (h = SO ∧ (2 : Int) = 3))) = false := by
        simp at hq ⊢; exact hq
      rw [e0] at e1
      refine .inl ⟨by simp only [flI]; rw [if_neg hq], ?_⟩
      unfold fBody
      simp! [e1]
  | @no3 n h s hh h0 =>
    have e1 := in_forms hh 3 g
    refine .inl ⟨rfl, ?_⟩
    by_cases hq : h = SO
    · have e0 : (decide ((h = SP ∧ (3 : Int) = 2) ∨ (h = SF ∧ (3 : Int) = 2) ∨ (h = SR ∧ (3 : Int) = 4) ∨ (h = SO ∧ (3 : Int) = 3))) = true := by
        simp [hq]
      rw [e0] at e1
      have e2 := in_two hh g
      have e3 : decide (h = SR ∨ h = SO) = true := by simp [hq]
      rw [e3] at e2
      unfold fBody
      simp! [e1, e2]
    · have e0 : (decide ((h = SP ∧ (3 : Int) = 2) ∨ (h = SF ∧ (3 : Int) = 2) ∨ (h = SR ∧ (3 : Int) = 4) ∨ (h = SO ∧ (3 : Int) = 3))) = false := by
        simp [hq]
      rw [e0] at e1
      unfold fBody
      simp! [e1]
  | @three n h s l hh h0 hl' hm =>
    have e1 := in_forms hh 3 g
    have hsz : sz (.tup [.str h, .int s, .tup l]) = szs l + 4 := by simp [sz, szs]; omega
    rw [hsz] at hl
    have hrec := hc l hm hl' (by rw [hsz]; omega)
    simp only [Nat.add_sub_cancel] at hrec
    by_cases hq : h = SO
    · have e0 : (decide ((h = SP ∧ (3 : Int) = 2) ∨ (h = SF ∧ (3 : Int) = 2) ∨ (h = SR ∧ (3 : Int) = 4) ∨ (h = SO ∧ (3 : Int) = 3))) = true := by
        simp [hq]
      rw [e0] at e1
      have e2 := in_two hh g
      have e3 : decide (h = SR ∨ h = SO) = true := by simp [hq]
      rw [e3] at e2
      have hfl : flI (n + 1) (.tup [.str h, .int s, .tup l]) = (flL n l).map (s :: ·) := by
        simp only [flI]; rw [if_pos hq]; rfl
      cases hw : flL n l with
      | none =>
        rw [hw] at hrec hfl
        refine .inl ⟨hfl, ?_⟩
        unfold fBody
        simp! [e1, e2, hrec, flD]
      | some v =>
        rw [hw] at hrec hfl
        have hv := flL_len hw
        refine .inr ⟨s :: v, some (.tup (v.map .int)), hfl, ?_⟩
        have z : w ++ s :: v = (w ++ [s]) ++ v := by simp
        rw [z]
        unfold fBody
        simp! [e1, e2, hrec, flD, cut3_3, addS w s (by omega), add1 (w ++ [s]) v (by simp; omega), addN ((w ++ [s]) ++ v) (by simp; omega)]
    · have e0 : (decide ((h = SP ∧ (3 : Int) = 2) ∨ (h = SF ∧ (3 : Int) = 2) ∨ (h = SR ∧ (3 : Int) = 4) ∨ (h = SO ∧ (3 : Int) = 3))) = false := by
        simp [hq]
      rw [e0] at e1
      refine .inl ⟨by simp only [flI]; rw [if_neg hq], ?_⟩
      unfold fBody
      simp! [e1]
  | @four n h s r l hh h0 h1 hl' hm =>
    have e1 := in_forms hh 4 g
    have hsz : sz (.tup [.str h, .int s, .tup l, .int r]) = szs l + 5 := by simp [sz, szs]; omega
    rw [hsz] at hl
    have hrec := hc l hm hl' (by rw [hsz]; omega)
    simp only [Nat.add_sub_cancel] at hrec
    by_cases hq : h = SR
    · have e0 : (decide ((h = SP ∧ (4 : Int) = 2) ∨ (h = SF ∧ (4 : Int) = 2) ∨ (h = SR ∧ (4 : Int) = 4) ∨ (h = SO ∧ (4 : Int) = 3))) = true := by
        simp [hq]
      rw [e0] at e1
      have e2 := in_two hh g
      have e3 : decide (h = SR ∨ h = SO) = true := by simp [hq]
      rw [e3] at e2
      have hfl : flI (n + 1) (.tup [.str h, .int s, .tup l, .int r]) = (flL n l).map (fun w => s :: w ++ [r]) := by
        simp only [flI]; rw [if_pos hq]; rfl
      cases hw : flL n l with
      | none =>
        rw [hw] at hrec hfl
        refine .inl ⟨hfl, ?_⟩
        unfold fBody
        simp! [e1, e2, hrec, flD]
      | some v =>
        rw [hw] at hrec hfl
        have hv := flL_len hw
        refine .inr ⟨s :: v ++ [r], some (.tup (v.map .int)), hfl, ?_⟩
        have z : w ++ (s :: v ++ [r]) = ((w ++ [s]) ++ v) ++ [r] := by simp
        rw [z]
        unfold fBody
        simp! [e1, e2, hrec, flD, cut3_4, addS w s (by omega), add1 (w ++ [s]) v (by simp; omega), addS ((w ++ [s]) ++ v) r (by simp; omega)]
    · have e0 : (decide ((h = SP ∧ (4 : Int) = 2) ∨ (h = SF ∧ (4 : Int) = 2) ∨ (h = SR ∧ (4 : Int) = 4) ∨ (h = SO ∧ (4 : Int) = 3))) = false := by
        simp [hq]
      rw [e0] at e1
      refine .inl ⟨by simp only [flI]; rw [if_neg hq], ?_⟩
      unfold fBody
      simp! [e1]
theorem flat_spec : ∀ (k n : Nat) (l : List D), szs l < k → (∀ y ∈ l, Nr n y) → l.length ≤ 4096 → szs l ≤ 50000 → ∀ m, n + 1 ≤ m → ∀ g : G, callN m 25 [.tup l] g = .ok (flD (flL n l)) g := by
  intro k
  induction k with
  | zero => intro n l h; exact absurd h (Nat.not_lt_zero _)
  | succ k ih =>
    intro n l hk hl hlen hsz m hm g
    obtain ⟨m, rfl⟩ : ∃ q, m = q + 1 := ⟨m - 1, by omega⟩
    rw [c25]
    have key : b__law_flat (callN m) [some (.tup l), none, none, none] g = .ok (.rt (flD (flL n l))) g := by
      unfold b__law_flat
      rw [st_nx (δ' := [some (.tup l), some (.tup (([] : List Int).map .int)), none, none]) (g1 := g) (by simp! [List.map_nil])]
      have hfor : (flL n l = none ∧ Sm.for (.of (.loc 0)) (.name 2) (fBody (callN m)) [some (.tup l), some (.tup (([] : List Int).map .int)), none, none] g = .ok (.rt .non) g) ∨
          ∃ w x2 x3, flL n l = some w ∧ Sm.for (.of (.loc 0)) (.name 2) (fBody (callN m)) [some (.tup l), some (.tup (([] : List Int).map .int)), none, none] g = .ok (.nx [some (.tup l), some (.tup (w.map .int)), x2, x3]) g := by
        rw [st_for (w := .seq l) (g1 := g) rfl]
        refine for_steps (xs := l) (P := fun i δ g' => g' = g ∧ ∃ w x2 x3, flL n (l.take i) = some w ∧ δ = [some (.tup l), some (.tup (w.map .int)), x2, x3])
          (Q := fun r => (flL n l = none ∧ r = .ok (.rt .non) g) ∨ ∃ w x2 x3, flL n l = some w ∧ r = .ok (.nx [some (.tup l), some (.tup (w.map .int)), x2, x3]) g)
          (fun _ _ _ _ => rfl) ?_ ?_ fuel 0 _ _ ⟨rfl, [], none, none, rfl, rfl⟩ (Nat.zero_le _) (by unfold fuel; omega)
        · rintro i x δ g1 hx ⟨rfl, w, x2, x3, hw, rfl⟩
          have hxm := List.mem_of_getElem? hx
          have hxs := szs_mem hxm
          have hwl := flL_len hw
          have htk := szs_take l i
          refine ⟨[some (.tup l), some (.tup (w.map .int)), some x, x3], g1, rfl, ?_⟩
          have hstep := fstep (cl := callN m) (n := n) (x := x) (is := .tup l) (w := w) (x3 := x3) (g := g1) (hl x hxm) (fun l' h1 h2 h3 => by
            rcases Nat.eq_zero_or_pos n with hn | hn
            · subst hn; exact absurd (hl x hxm) (by intro z; cases z)
            · exact ih (n - 1) l' (by omega) h1 h2 (by omega) m (by omega) g1) (by omega)
          rcases hstep with ⟨h1, h2⟩ | ⟨v, x3', h1, h2⟩
          · exact .inr (.inr ⟨.non, g1, h2, .inl ⟨flL_none hxm h1, rfl⟩⟩)
          · refine .inl ⟨_, g1, .inl h2, rfl, w ++ v, some x, x3', ?_, rfl⟩
            rw [List.take_add_one, hx]
            show flL n (l.take i ++ [x]) = _
            rw [flL_snoc, hw, h1]
            rfl
        · rintro δ g1 ⟨rfl, w, x2, x3, hw, rfl⟩
          rw [List.take_length] at hw
          exact .inr ⟨w, x2, x3, hw, rfl⟩
      rcases hfor with ⟨h1, h2⟩ | ⟨w, x2, x3, h1, h2⟩
      · rw [h1]; exact st_rt h2
      · rw [h1]
        refine (st_nx h2).trans ?_
        simp! []
        rfl
    exact body_rt0 rfl key (by
      cases flL n l with
      | none => rfl
      | some w => rw [flD, D.low]; exact lows_ints _ w)
end K44
end
section
set_option Elab.async false
set_option linter.all false
set_option maxRecDepth 100000
set_option maxHeartbeats 1000000
namespace K44
open PySem DV P44
/-! ### Spelling: its state -/
def St (g : G) (sg : D) (w : List Int) (t : List D) (z : G) : G := g ++ [.ins 0 [(Str.ofString "signs", sg), (Str.ofString "word", .ref (g.length + 1)), (Str.ofString "waiting", .ref (g.length + 2))], .lst (w.map .int), .lst t] ++ z
section
variable {g : G} {sg : D} {w w' : List Int} {t t' : List D} {z : G}
theorem St_len : (St g sg w t z).length = g.length + 3 + z.length := by simp [St]; omega
theorem St_0 : (St g sg w t z)[g.length]? = some (.ins 0 [(Str.ofString "signs", sg), (Str.ofString "word", .ref (g.length + 1)), (Str.ofString "waiting", .ref (g.length + 2))]) := by simp [St]
theorem St_1 : (St g sg w t z)[g.length + 1]? = some (.lst (w.map .int)) := by simp [St]
theorem St_2 : (St g sg w t z)[g.length + 2]? = some (.lst t) := by simp [St]
theorem St_app {y : G} : St g sg w t z ++ y = St g sg w t (z ++ y) := by simp [St]
theorem St_set1 : (St g sg w t z).set (g.length + 1) (.lst (w'.map .int)) = St g sg w' t z := by
  unfold St
  rw [List.append_assoc, List.set_append_right _ _ (by omega), show g.length + 1 - g.length = 1 by omega, List.append_assoc]
  rfl
theorem St_set2 : (St g sg w t z).set (g.length + 2) (.lst t') = St g sg w t' z := by
  unfold St
  rw [List.append_assoc, List.set_append_right _ _ (by omega), show g.length + 2 - g.length = 2 by omega, List.append_assoc]
  rfl
theorem St_pre : Pre g (St g sg w t z) := ⟨_, List.append_assoc _ _ _⟩
theorem zip_eq (z y : G) (p : O × O) (hp : p ∈ z.zip (z ++ y)) : p.1 = p.2 := by
  obtain ⟨i, hi⟩ := List.mem_iff_getElem?.mp hp
  rw [List.getElem?_zip_eq_some] at hi
  have hl := (List.getElem?_eq_some_iff.mp hi.1).1
  rw [List.getElem?_append_left hl] at hi
  exact Option.some.inj (hi.1.symm.trans hi.2)
theorem St_old {y : G} (hl : ∀ k, D.lows k t' = true) : oldOk (St g sg w t z) (St g sg w' t' (z ++ y)) = true := by
  unfold oldOk St
  have za : ∀ (a b c d : G), a.length = c.length → (a ++ b).zip (c ++ d) = a.zip c ++ b.zip d := fun _ _ _ _ h => List.zip_append h
  have za3 : ∀ (p q r p' q' r' : O) (b d : G), ([p, q, r] ++ b).zip ([p', q', r'] ++ d) = [(p, p'), (q, q'), (r, r')] ++ b.zip d := fun _ _ _ _ _ _ _ _ => rfl
  rw [List.append_assoc, List.append_assoc, za g _ g _ rfl, za3, List.all_append, List.all_append, Bool.and_eq_true, Bool.and_eq_true]
  refine ⟨?_, ?_, ?_⟩
  · rw [List.all_eq_true]
    intro p hp
    have := zip_eq g [] p (by simpa using hp)
    simp [this]
  · simp only [List.zip_cons_cons, List.all_cons, decide_true, Bool.true_or, Bool.true_and, List.zip_nil_left, List.all_nil, Bool.and_true, Bool.and_eq_true, Bool.or_eq_true]
    exact ⟨.inr (lows_ints _ w'), .inr (hl _)⟩
  · rw [List.all_eq_true]
    intro p hp
    have := zip_eq z y p hp
    simp [this]
theorem St_gc {y : G} {d : D} (hl : ∀ k, D.lows k t' = true) (hd : ∀ k, d.low k = true) : R.gc (St g sg w t z) (.ok d (St g sg w' t' (z ++ y))) = .ok d (St g sg w' t' z) := by
  show R.ok (DV.gc _ d _).1 (DV.gc _ d _).2 = _
  unfold DV.gc
  rw [if_pos (St_old hl), if_pos (hd _)]
  have : (St g sg w' t' (z ++ y)).take (St g sg w t z).length = St g sg w' t' z := by
    rw [St_len, ← St_len (g := g) (sg := sg) (w := w') (t := t'), ← St_app]
    simp
  rw [this]
theorem St_gcN (hl : ∀ k, D.lows k t' = true) : R.gc (St g sg w t z) (.ok .non (St g sg w' t' z)) = .ok .non (St g sg w' t' z) := by
  have := St_gc (g := g) (sg := sg) (w := w) (w' := w') (t := t) (t' := t') (z := z) (y := []) (d := .non) hl (fun _ => rfl)
  simpa using this
end
/-- it raises BadWord -/
def Ex2 (g : G) (r : R D) : Prop := ∃ g', r = .exc 2 .non g' ∧ Pre g g'
theorem Pre.take {g g' : G} (h : Pre g g') {k : Nat} (hk : g.length ≤ k) : Pre g (g'.take k) := by
  obtain ⟨t, rfl⟩ := h
  exact ⟨t.take (k - g.length), by rw [List.take_append, List.take_of_length_le hk]⟩
theorem body_gcN {np n : Nat} {b : Sm} {ds : List D} {G0 g' : G} {δ : DV.Env} (hn : ds.length = np) (h : b (DV.start n ds) G0 = .ok (.nx δ) g') : body np n b ds G0 = R.gc G0 (.ok .non g') := by
  unfold body
  rw [if_pos hn, h]
theorem body_Ex2 {np n : Nat} {b : Sm} {ds : List D} {g G0 g' : G} {δ : DV.Env} (hn : ds.length = np) (h : b (DV.start n ds) G0 = .exc 2 .non δ g') (hp : Pre g g') (hG : g.length ≤ G0.length) : Ex2 g (body np n b ds G0) := by
  unfold body
  rw [if_pos hn, h]
  show Ex2 g (if D.low G0.length .non && oldOk G0 g' then R.exc 2 .non (g'.take G0.length) else .exc 2 .non g')
  split
  · exact ⟨_, rfl, Pre.take hp hG⟩
  · exact ⟨_, rfl, hp⟩
theorem ex_meth {T : Clss} {cl : Cl} {a : Ex} {mm : Str} {es : Exs} {δ : DV.Env} {g g1 : G} {k c f : Nat} {fs : List (Str × D)} {tt : Cls} (h : a δ g = .ok (.ref k) g1) (hk : g1[k]? = some (.ins c fs)) (hT : T[c]? = some tt) (hm : tt.meths.lookup mm = some f) (hf : fs.lookup mm = none) :
    Ex.meth T cl a mm es δ g = (es δ g1).bind fun ds g => cl f (.ref k :: ds) g := by
  show (a δ g).bind _ = _
  rw [h, R.bind_ok]
  simp only [hk, hT, hm, hf]
section
variable {g : G} {sg : D} {w w' : List Int} {t t' : List D} {z : G} {cl : Cl} {es : Exs} {δ : DV.Env} {a : Ex}
theorem m_kind (h : a δ (St g sg w t z) = .ok (.ref g.length) (St g sg w t z)) : Ex.meth T cl a (Str.ofString "kind") es δ (St g sg w t z) = (es δ (St g sg w t z)).bind fun ds g' => cl 8 (.ref g.length :: ds) g' := ex_meth (tt := T[0]) h St_0 rfl (by decide +kernel) (by
  have : ([Str.ofString "signs", Str.ofString "word", Str.ofString "waiting"].contains (Str.ofString "kind")) = false := by decide +kernel
  rfl)
theorem m_look (h : a δ (St g sg w t z) = .ok (.ref g.length) (St g sg w t z)) : Ex.meth T cl a (Str.ofString "look_at") es δ (St g sg w t z) = (es δ (St g sg w t z)).bind fun ds g' => cl 9 (.ref g.length :: ds) g' := ex_meth (tt := T[0]) h St_0 rfl (by decide +kernel) rfl
theorem m_put (h : a δ (St g sg w t z) = .ok (.ref g.length) (St g sg w t z)) : Ex.meth T cl a (Str.ofString "put") es δ (St g sg w t z) = (es δ (St g sg w t z)).bind fun ds g' => cl 10 (.ref g.length :: ds) g' := ex_meth (tt := T[0]) h St_0 rfl (by decide +kernel) rfl
theorem m_take (h : a δ (St g sg w t z) = .ok (.ref g.length) (St g sg w t z)) : Ex.meth T cl a (Str.ofString "take") es δ (St g sg w t z) = (es δ (St g sg w t z)).bind fun ds g' => cl 11 (.ref g.length :: ds) g' := ex_meth (tt := T[0]) h St_0 rfl (by decide +kernel) rfl
theorem m_spell (h : a δ (St g sg w t z) = .ok (.ref g.length) (St g sg w t z)) : Ex.meth T cl a (Str.ofString "spell") es δ (St g sg w t z) = (es δ (St g sg w t z)).bind fun ds g' => cl 12 (.ref g.length :: ds) g' := ex_meth (tt := T[0]) h St_0 rfl (by decide +kernel) rfl
theorem f_signs : DV.fld T (.ref g.length) (Str.ofString "signs") (St g sg w t z) = .ok sg (St g sg w t z) := fld_ref (k := T[0]) St_0 rfl (by decide +kernel) rfl
theorem f_word : DV.fld T (.ref g.length) (Str.ofString "word") (St g sg w t z) = .ok (.ref (g.length + 1)) (St g sg w t z) := fld_ref (k := T[0]) St_0 rfl (by decide +kernel) rfl
theorem f_wait : DV.fld T (.ref g.length) (Str.ofString "waiting") (St g sg w t z) = .ok (.ref (g.length + 2)) (St g sg w t z) := fld_ref (k := T[0]) St_0 rfl (by decide +kernel) rfl
end
def kdD : Option Int → D
  | none => .non
  | some k => .int k
theorem kind_spec (m : Nat) {g : G} {a b c : Nat} {s : Int} {w : List Int} {t : List D} {z : G} : callN (m + 2) 8 [.ref g.length, .int s] (St g (sgT a b c) w t z) = .ok (kdD (kd a b c s)) (St g (sgT a b c) w t z) := by
  rw [c8]
  have hi := intOk m (St g (sgT a b c) w t z) (.int s) 0 ((a : Int) + b + c - 1) rfl
  have key : b_Spelling_kind (callN (m + 1)) [some (.ref g.length), some (.int s), none, none, none, none] (St g (sgT a b c) w t z) = .ok (.rt (kdD (kd a b c s))) (St g (sgT a b c) w t z) := by
    unfold b_Spelling_kind
    have e1 : Tg.tup 4 (tgCons (.name 2) (tgCons (.name 3) (tgCons (.name 4) (tgCons (.name 5) tgNil)))) (sgT a b c) [some (.ref g.length), some (.int s), none, none, none, none] (St g (sgT a b c) w t z) = .ok [some (.ref g.length), some (.int s), some (.str (Str.ofString "signs")), some (.int a), some (.int b), some (.int c)] (St g (sgT a b c) w t z) := rfl
    unfold kd
    by_cases h : 0 ≤ s ∧ s ≤ (a : Int) + b + c - 1
    · have hi' : isInt 0 ((a : Int) + b + c - 1) (.int s) = true := by simp only [isInt, h.1, h.2, decide_true, Bool.and_true]
      rw [hi'] at hi
      rw [if_pos h]
      by_cases h1 : (a : Int) ≤ s
      · by_cases h2 : (a : Int) + b ≤ s
        · simp! [f_signs, e1, hi, h1, h2]; rfl
        · simp! [f_signs, e1, hi, h1, h2]; rfl
      · have h2 : ¬ (a : Int) + b ≤ s := by omega
        simp! [f_signs, e1, hi, h1, h2]; rfl
    · have hi' : isInt 0 ((a : Int) + b + c - 1) (.int s) = false := by
        simp only [isInt, Bool.and_eq_false_iff, decide_eq_false_iff_not]
        omega
      rw [hi'] at hi
      rw [if_neg h]
      simp! [f_signs, e1, hi]; rfl
  exact body_rt0 rfl key (by cases kd (↑a) (↑b) (↑c) s <;> rfl)
/-! ### put, look_at -/
theorem kdD_nb (o : Option Int) : nb 1 (kdD o) = true := by cases o <;> rfl
theorem ints_low (ns : List Int) (k : Nat) : D.lows k (ns.map .int) = true := lows_ints k ns
theorem put_spec (m : Nat) {g : G} {a b c : Nat} {s k : Int} {w : List Int} {t : List D} {z : G} (hw : w.length ≤ 100000) (ht : ∀ k, D.lows k t = true) :
    (kd a b c s = some k ∧ callN (m + 3) 10 [.ref g.length, .int s, .int k] (St g (sgT a b c) w t z) = .ok .non (St g (sgT a b c) (w ++ [s]) t z)) ∨
    (kd a b c s ≠ some k ∧ Ex2 g (callN (m + 3) 10 [.ref g.length, .int s, .int k] (St g (sgT a b c) w t z))) := by
  have hL : (1000000 : Nat) < LINE := by unfold LINE; decide
  have hk := kind_spec m (g := g) (a := a) (b := b) (c := c) (s := s) (w := w) (t := t) (z := z)
  rw [c10]
  have hne : cmpD .ne (kdD (kd a b c s)) (.int k) (St g (sgT a b c) w t z) = some (!decide (kdD (kd a b c s) = .int k)) := neG_nb (n := 1) (m := 1) _ (kdD_nb _) rfl (by decide) (by decide)
  by_cases h : kd a b c s = some k
  · refine .inl ⟨h, ?_⟩
    rw [h] at hk hne
    have e0 : decide (kdD (some k) = .int k) = true := by simp [kdD]
    rw [e0] at hne
    have key : b_Spelling_put (callN (m + 2)) [some (.ref g.length), some (.int s), some (.int k)] (St g (sgT a b c) w t z) = .ok (.nx [some (.ref g.length), some (.int s), some (.int k)]) (St g (sgT a b c) (w ++ [s]) t z) := by
      unfold b_Spelling_put
      have ha : mth .append (.ref (g.length + 1)) [.int s] (St g (sgT a b c) w t z) = .ok .non (St g (sgT a b c) (w ++ [s]) t z) := by
        rw [app_ref _ _ (.int s) _ St_1 (by simp; omega), show w.map D.int ++ [D.int s] = (w ++ [s]).map D.int by simp, St_set1]
      simp! [m_kind (a := .loc 0) (δ := [some (.ref g.length), some (.int s), some (.int k)]) rfl, hk, hne, f_word, isL_ref _ _ _ St_1, ha]
    refine (body_gcN rfl key).trans ?_
    exact St_gcN ht
  · refine .inr ⟨h, ?_⟩
    have e0 : decide (kdD (kd a b c s) = .int k) = false := by
      cases e : kd (↑a) (↑b) (↑c) s with
      | none => simp [kdD]
      | some j => rw [e] at h; simp [kdD]; intro z; exact h (by rw [z])
    rw [e0] at hne
    refine body_Ex2 (δ := [some (.ref g.length), some (.int s), some (.int k)]) (g' := St g (sgT a b c) w t z) rfl ?_ St_pre (by rw [St_len]; omega)
    show b_Spelling_put (callN (m + 2)) [some (.ref g.length), some (.int s), some (.int k)] (St g (sgT a b c) w t z) = _
    unfold b_Spelling_put
    simp! [m_kind (a := .loc 0) (δ := [some (.ref g.length), some (.int s), some (.int k)]) rfl, hk, hne]
def itD (x : D) : D := .tup [.str (Str.ofString "item"), x]
def sgD (s : Int) : D := .tup [.str (Str.ofString "sign"), .int s]
theorem lows_app (k : Nat) : ∀ xs ys : List D, D.lows k (xs ++ ys) = (D.lows k xs && D.lows k ys)
  | [], ys => by simp [D.lows]
  | x :: xs, ys => by rw [List.cons_append, D.lows, D.lows, lows_app k xs ys, Bool.and_assoc]
theorem itD_low {n : Nat} {l : List D} (h : ∀ x ∈ l, Nr n x) (k : Nat) : D.lows k (l.map itD) = true := by
  induction l with
  | nil => rfl
  | cons x l ih =>
    rw [List.map_cons, D.lows, ih fun y hy => h y (List.mem_cons_of_mem _ hy), Bool.and_true]
    simp [itD, D.low, D.lows, tree_low k (nb_tree (h x List.mem_cons_self).nb)]
theorem look_spec (m n : Nat) {g : G} {sg : D} {l : List D} {w : List Int} {t : List D} {z : G} (hl : ∀ x ∈ l, Nr n x) (hs : l.length ≤ 4096) (hs2 : t.length ≤ 100000) (ht : ∀ k, D.lows k t = true) :
    callN (m + 1) 9 [.ref g.length, .tup l] (St g sg w t z) = .ok .non (St g sg w (t ++ l.reverse.map itD) z) := by
  have hL : (1000000 : Nat) < LINE := by unfold LINE; decide
  rw [c9]
  have key : b_Spelling_look_at (callN m) [some (.ref g.length), some (.tup l), none] (St g sg w t z) = .ok (.nx [some (.ref g.length), some (.tup l), none]) (St g sg w (t ++ l.reverse.map itD) (z ++ [.lst (l.reverse.map itD)])) := by
    unfold b_Spelling_look_at
    have hc : Ex.comp [2] (.of (.rev (.loc 1))) (.name 2) .tt (.tup (exCons (.cst (.str (Str.ofString "item"))) (exCons (.loc 2) exNil))) [some (.ref g.length), some (.tup l), none] (St g sg w t z) = .ok (.ref (g.length + 3 + z.length)) (St g sg w t (z ++ [.lst (l.reverse.map itD)])) := by
      have hi : Ie.of (.rev (.loc 1)) [some (.ref g.length), some (.tup l), none] (St g sg w t z) = .ok (.seq l.reverse) (St g sg w t z) := rfl
      have h2 := comp_pure (it := .seq l.reverse) (xs := l.reverse) (tg := Tg.name 2) (e := .tup (exCons (.cst (.str (Str.ofString "item"))) (exCons (.loc 2) exNil))) (δ := [some (.ref g.length), some (.tup l), none]) (g := St g sg w t z) (δ' := fun x => [some (.ref g.length), some (.tup l), some x]) itD (fun _ => rfl) (fun _ _ => rfl) (fun x _ => by simp! [itD]) (by simp; omega)
      rw [x_comp hi h2, St_len, St_app]
    have hex : mth .extend (.ref (g.length + 2)) [.ref (g.length + 3 + z.length)] (St g sg w t (z ++ [.lst (l.reverse.map itD)])) = .ok .non (St g sg w (t ++ l.reverse.map itD) (z ++ [.lst (l.reverse.map itD)])) := by
      have h1 : (St g sg w t (z ++ [O.lst (l.reverse.map itD)]))[g.length + 2]? = some (.lst t) := St_2
      have h2 : (St g sg w t (z ++ [O.lst (l.reverse.map itD)]))[g.length + 3 + z.length]? = some (.lst (l.reverse.map itD)) := by
        rw [← St_len (g := g) (sg := sg) (w := w) (t := t) (z := z), ← St_app]; exact get_new
      simp only [mth, h1, h2]
      rw [if_pos (by simp; omega), St_set2]
    simp! [f_wait, isL_ref _ _ _ St_2, hc, hex]
  refine (body_gcN rfl key).trans ?_
  exact St_gc (by intro k; rw [lows_app, ht, itD_low (n := n) (by intro x hx; exact hl x (by simpa using hx)) k]; rfl) (fun _ => rfl)
theorem look_no (m : Nat) {g : G} {sg : D} {w : List Int} {t : List D} {z : G} : Ex2 g (callN (m + 1) 9 [.ref g.length, .non] (St g sg w t z)) := by
  rw [c9]
  refine body_Ex2 (δ := [some (.ref g.length), some .non, none]) (g' := St g sg w t z) rfl ?_ St_pre (by rw [St_len]; omega)
  show b_Spelling_look_at (callN m) [some (.ref g.length), some .non, none] (St g sg w t z) = _
  unfold b_Spelling_look_at
  simp! []
end K44
end
section
set_option Elab.async false
set_option linter.all false
set_option maxRecDepth 100000
set_option maxHeartbeats 1000000
namespace K44
open PySem DV P44
theorem eq_form {h q : Str} (hh : h ∈ [SP, SF, SO, SR, SC]) (hq : q ∈ [SP, SF, SO, SR, SC]) (i j : Int) (g : G) : cmpD .eq (.tup [.str h, .int i]) (.tup [.str q, .int j]) g = some (decide (h = q ∧ i = j)) := by
  rw [eqG_nb g (pair_nb hh i) (pair_nb hq j) (by decide) (by decide)]
  congr 2
  simp
theorem eq_t {h q : Str} (hh : h ∈ [SP, SF, SO, SR, SC]) (hq : q ∈ [SP, SF, SO, SR, SC]) {i j : Int} (h1 : h = q) (h2 : i = j) (g : G) : cmpD .eq (.tup [.str h, .int i]) (.tup [.str q, .int j]) g = some true := by
  rw [eq_form hh hq]; simp [h1, h2]
theorem eq_f {h q : Str} (hh : h ∈ [SP, SF, SO, SR, SC]) (hq : q ∈ [SP, SF, SO, SR, SC]) {i j : Int} (h1 : ¬ (h = q ∧ i = j)) (g : G) : cmpD .eq (.tup [.str h, .int i]) (.tup [.str q, .int j]) g = some false := by
  rw [eq_form hh hq, decide_eq_false h1]
theorem eq_emp {n : Nat} {x : D} {xs : List D} (hx : Nr n (.tup (x :: xs))) (hn : n ≤ 30) (g : G) : cmpD .eq (.tup (x :: xs)) (.tup []) g = some false := by
  rw [eqG_nb (n := 2 * n) (m := 1) g hx.nb rfl (by omega) (by decide)]
  simp
def tk (a b c : Int) : D → Option (List Int × List D)
  | .tup [.str h, .int s] => if (h = SP ∧ kd a b c s = some 2) ∨ (h = SF ∧ kd a b c s = some 1) then some ([s], []) else none
  | .tup [.str h, .int s, .tup l] => if h = SO ∧ kd a b c s = some 0 then some ([s], l.reverse.map itD) else none
  | .tup [.str h, .int s, .tup l, .int r] => if h = SR ∧ kd a b c s = some 0 then some ([s], sgD r :: l.reverse.map itD) else none
  | _ => none
theorem take_spec (m n : Nat) {g : G} {a b c : Nat} {x : D} {w : List Int} {t : List D} {z : G} (hx : Nr n x) (hn : n ≤ 30) (hw : w.length ≤ 10000) (hs2 : t.length ≤ 10000) (ht : ∀ k, D.lows k t = true) :
    (∃ v t', tk a b c x = some (v, t') ∧ callN (m + 4) 11 [.ref g.length, x] (St g (sgT a b c) w t z) = .ok .non (St g (sgT a b c) (w ++ v) (t ++ t') z)) ∨
    (tk a b c x = none ∧ Ex2 g (callN (m + 4) 11 [.ref g.length, x] (St g (sgT a b c) w t z))) := by
  have hL : (1000000 : Nat) < LINE := by unfold LINE; decide
  have ex : ∀ {δ : DV.Env} {g' : G}, b_Spelling_take (callN (m + 3)) [some (.ref g.length), some x, none] (St g (sgT a b c) w t z) = .exc 2 .non δ g' → Pre g g' → Ex2 g (callN (m + 4) 11 [.ref g.length, x] (St g (sgT a b c) w t z)) := fun h hp => by
    rw [c11]
    exact body_Ex2 rfl h hp (by rw [St_len]; omega)
  have fin : ∀ {δ : DV.Env} {w' : List Int} {t' : List D}, (∀ k, D.lows k t' = true) → b_Spelling_take (callN (m + 3)) [some (.ref g.length), some x, none] (St g (sgT a b c) w t z) = .ok (.nx δ) (St g (sgT a b c) w' t' z) → callN (m + 4) 11 [.ref g.length, x] (St g (sgT a b c) w t z) = .ok .non (St g (sgT a b c) w' t' z) := fun hl h => by
    rw [c11]
    exact (body_gcN rfl h).trans (St_gcN hl)
  have pS : SP ∈ [SP, SF, SO, SR, SC] := by simp
  have fS : SF ∈ [SP, SF, SO, SR, SC] := by simp
  have oS : SO ∈ [SP, SF, SO, SR, SC] := by simp
  have rS : SR ∈ [SP, SF, SO, SR, SC] := by simp
  have mp : ∀ {es : Exs} (f : D), Ex.meth T (callN (m + 3)) (.loc 0) (Str.ofString "put") es [some (.ref g.length), some x, some f] (St g (sgT a b c) w t z) = (es [some (.ref g.length), some x, some f] (St g (sgT a b c) w t z)).bind fun ds g' => callN (m + 3) 10 (.ref g.length :: ds) g' := fun f => m_put rfl
  have ml : ∀ {es : Exs} (f : D) (w : List Int) (t : List D), Ex.meth T (callN (m + 3)) (.loc 0) (Str.ofString "look_at") es [some (.ref g.length), some x, some f] (St g (sgT a b c) w t z) = (es [some (.ref g.length), some x, some f] (St g (sgT a b c) w t z)).bind fun ds g' => callN (m + 3) 9 (.ref g.length :: ds) g' := fun f w t => m_look rfl
  cases hx with
  | @non n =>
    refine .inr ⟨rfl, ex (δ := [some (.ref g.length), some .non, none]) (g' := St g (sgT a b c) w t z) ?_ St_pre⟩
    unfold b_Spelling_take
    simp! []
  | @two n h s hh h0 =>
    have e0 := fun g' => eq_emp (n := n + 1) (x := .str h) (xs := [.int s]) (.two hh h0) hn g'
    by_cases hcase : h = SP
    · have q1 := fun g' => eq_t hh pS (i := 2) (j := 2) hcase rfl g'
      have q2 := fun g' => eq_f hh fS (i := 2) (j := 2) (fun z => (fun y => ne_PF (hcase.symm.trans y)) z.1) g'
      have q3 := fun g' => eq_f hh rS (i := 2) (j := 4) (fun z => absurd z.2 (by decide)) g'
      have q4 := fun g' => eq_f hh oS (i := 2) (j := 3) (fun z => absurd z.2 (by decide)) g'
      rcases put_spec m (g := g) (a := a) (b := b) (c := c) (s := s) (k := 2) (w := w) (t := t) (z := z) (by omega) ht with ⟨hk, e⟩ | ⟨hk, g', e, hpre⟩
      · refine .inl ⟨[s], [], by show (if _ then _ else _) = _; rw [if_pos (.inl ⟨hcase, hk⟩)], ?_⟩
        refine fin (by rw [List.append_nil]; exact ht) (δ := [some (.ref g.length), some (.tup [.str h, .int s]), some (.tup [.str h, .int 2])]) ?_
        rw [List.append_nil]
        unfold b_Spelling_take
        simp! [e0, q1, q2, q3, q4, mp, e]
      · refine .inr ⟨by show (if _ then _ else _) = _; rw [if_neg (by rintro (z | z); exact hk z.2; exact ne_PF (hcase.symm.trans z.1))], ex (δ := [some (.ref g.length), some (.tup [.str h, .int s]), some (.tup [.str h, .int 2])]) (g' := g') ?_ hpre⟩
        unfold b_Spelling_take
        simp! [e0, q1, q2, q3, q4, mp, e]
    · have hnp := hcase
      clear hcase
      by_cases hcase : h = SF
      · have q1 := fun g' => eq_f hh pS (i := 2) (j := 2) (fun z => hnp z.1) g'
        have q2 := fun g' => eq_t hh fS (i := 2) (j := 2) hcase rfl g'
        have q3 := fun g' => eq_f hh rS (i := 2) (j := 4) (fun z => absurd z.2 (by decide)) g'
        have q4 := fun g' => eq_f hh oS (i := 2) (j := 3) (fun z => absurd z.2 (by decide)) g'
        rcases put_spec m (g := g) (a := a) (b := b) (c := c) (s := s) (k := 1) (w := w) (t := t) (z := z) (by omega) ht with ⟨hk, e⟩ | ⟨hk, g', e, hpre⟩
        · refine .inl ⟨[s], [], by show (if _ then _ else _) = _; rw [if_pos (.inr ⟨hcase, hk⟩)], ?_⟩
          refine fin (by rw [List.append_nil]; exact ht) (δ := [some (.ref g.length), some (.tup [.str h, .int s]), some (.tup [.str h, .int 2])]) ?_
          rw [List.append_nil]
          unfold b_Spelling_take
          simp! [e0, q1, q2, q3, q4, mp, e]
        · refine .inr ⟨by show (if _ then _ else _) = _; rw [if_neg (by rintro (z | z); exact hnp z.1; exact hk z.2)], ex (δ := [some (.ref g.length), some (.tup [.str h, .int s]), some (.tup [.str h, .int 2])]) (g' := g') ?_ hpre⟩
          unfold b_Spelling_take
          simp! [e0, q1, q2, q3, q4, mp, e]
      · have q1 := fun g' => eq_f hh pS (i := 2) (j := 2) (fun z => hnp z.1) g'
        have q2 := fun g' => eq_f hh fS (i := 2) (j := 2) (fun z => hcase z.1) g'
        have q3 := fun g' => eq_f hh rS (i := 2) (j := 4) (fun z => absurd z.2 (by decide)) g'
        have q4 := fun g' => eq_f hh oS (i := 2) (j := 3) (fun z => absurd z.2 (by decide)) g'
        refine .inr ⟨by show (if _ then _ else _) = _; rw [if_neg (by rintro (z | z); exact hnp z.1; exact hcase z.1)], ex (δ := [some (.ref g.length), some (.tup [.str h, .int s]), some (.tup [.str h, .int 2])]) (g' := St g (sgT a b c) w t z) ?_ St_pre⟩
        unfold b_Spelling_take
        simp! [e0, q1, q2, q3, q4]
  | @no3 n h s hh h0 =>
    have e0 := fun g' => eq_emp (n := n + 1) (x := .str h) (xs := [.int s, .non]) (.no3 hh h0) hn g'
    refine .inr ⟨rfl, ?_⟩
    by_cases hcase : h = SO
    · have q1 := fun g' => eq_f hh pS (i := 3) (j := 2) (fun z => absurd z.2 (by decide)) g'
      have q2 := fun g' => eq_f hh fS (i := 3) (j := 2) (fun z => absurd z.2 (by decide)) g'
      have q3 := fun g' => eq_f hh rS (i := 3) (j := 4) (fun z => absurd z.2 (by decide)) g'
      have q4 := fun g' => eq_t hh oS (i := 3) (j := 3) hcase rfl g'
      rcases put_spec m (g := g) (a := a) (b := b) (c := c) (s := s) (k := 0) (w := w) (t := t) (z := z) (by omega) ht with ⟨hk, e⟩ | ⟨hk, g', e, hpre⟩
      · obtain ⟨g', e5, hpre⟩ := look_no (m + 2) (g := g) (sg := sgT a b c) (w := w ++ [s]) (t := t) (z := z)
        refine ex (δ := [some (.ref g.length), some (.tup [.str h, .int s, .non]), some (.tup [.str h, .int 3])]) (g' := g') ?_ hpre
        unfold b_Spelling_take
        simp! [e0, q1, q2, q3, q4, mp, e, ml, e5]
      · refine ex (δ := [some (.ref g.length), some (.tup [.str h, .int s, .non]), some (.tup [.str h, .int 3])]) (g' := g') ?_ hpre
        unfold b_Spelling_take
        simp! [e0, q1, q2, q3, q4, mp, e]
    · have q1 := fun g' => eq_f hh pS (i := 3) (j := 2) (fun z => absurd z.2 (by decide)) g'
      have q2 := fun g' => eq_f hh fS (i := 3) (j := 2) (fun z => absurd z.2 (by decide)) g'
      have q3 := fun g' => eq_f hh rS (i := 3) (j := 4) (fun z => absurd z.2 (by decide)) g'
      have q4 := fun g' => eq_f hh oS (i := 3) (j := 3) (fun z => hcase z.1) g'
      refine ex (δ := [some (.ref g.length), some (.tup [.str h, .int s, .non]), some (.tup [.str h, .int 3])]) (g' := St g (sgT a b c) w t z) ?_ St_pre
      unfold b_Spelling_take
      simp! [e0, q1, q2, q3, q4]
  | @three n h s l hh h0 hl hm =>
    have e0 := fun g' => eq_emp (n := n + 1) (x := .str h) (xs := [.int s, .tup l]) (.three hh h0 hl hm) hn g'
    by_cases hcase : h = SO
    · have q1 := fun g' => eq_f hh pS (i := 3) (j := 2) (fun z => absurd z.2 (by decide)) g'
      have q2 := fun g' => eq_f hh fS (i := 3) (j := 2) (fun z => absurd z.2 (by decide)) g'
      have q3 := fun g' => eq_f hh rS (i := 3) (j := 4) (fun z => absurd z.2 (by decide)) g'
      have q4 := fun g' => eq_t hh oS (i := 3) (j := 3) hcase rfl g'
      rcases put_spec m (g := g) (a := a) (b := b) (c := c) (s := s) (k := 0) (w := w) (t := t) (z := z) (by omega) ht with ⟨hk, e⟩ | ⟨hk, g', e, hpre⟩
      · have e5 := look_spec (m + 2) n (g := g) (sg := sgT a b c) (l := l) (w := w ++ [s]) (t := t) (z := z) hm hl (by omega) ht
        refine .inl ⟨[s], l.reverse.map itD, by show (if _ then _ else _) = _; rw [if_pos ⟨hcase, hk⟩], ?_⟩
        refine fin (by intro k; rw [lows_app, ht, itD_low (n := n) (by intro x hx; exact hm x (by simpa using hx)) k]; rfl) (δ := [some (.ref g.length), some (.tup [.str h, .int s, .tup l]), some (.tup [.str h, .int 3])]) ?_
        unfold b_Spelling_take
        simp! [e0, q1, q2, q3, q4, mp, e, ml, e5]
      · refine .inr ⟨by show (if _ then _ else _) = _; rw [if_neg (fun z => hk z.2)], ex (δ := [some (.ref g.length), some (.tup [.str h, .int s, .tup l]), some (.tup [.str h, .int 3])]) (g' := g') ?_ hpre⟩
        unfold b_Spelling_take
        simp! [e0, q1, q2, q3, q4, mp, e]
    · have q1 := fun g' => eq_f hh pS (i := 3) (j := 2) (fun z => absurd z.2 (by decide)) g'
      have q2 := fun g' => eq_f hh fS (i := 3) (j := 2) (fun z => absurd z.2 (by decide)) g'
      have q3 := fun g' => eq_f hh rS (i := 3) (j := 4) (fun z => absurd z.2 (by decide)) g'
      have q4 := fun g' => eq_f hh oS (i := 3) (j := 3) (fun z => hcase z.1) g'
      refine .inr ⟨by show (if _ then _ else _) = _; rw [if_neg (fun z => hcase z.1)], ex (δ := [some (.ref g.length), some (.tup [.str h, .int s, .tup l]), some (.tup [.str h, .int 3])]) (g' := St g (sgT a b c) w t z) ?_ St_pre⟩
      unfold b_Spelling_take
      simp! [e0, q1, q2, q3, q4]
  | @four n h s r l hh h0 h1 hl hm =>
    have e0 := fun g' => eq_emp (n := n + 1) (x := .str h) (xs := [.int s, .tup l, .int r]) (.four hh h0 h1 hl hm) hn g'
    by_cases hcase : h = SR
    · have q1 := fun g' => eq_f hh pS (i := 4) (j := 2) (fun z => absurd z.2 (by decide)) g'
      have q2 := fun g' => eq_f hh fS (i := 4) (j := 2) (fun z => absurd z.2 (by decide)) g'
      have q3 := fun g' => eq_t hh rS (i := 4) (j := 4) hcase rfl g'
      have q4 := fun g' => eq_f hh oS (i := 4) (j := 3) (fun z => absurd z.2 (by decide)) g'
      rcases put_spec m (g := g) (a := a) (b := b) (c := c) (s := s) (k := 0) (w := w) (t := t) (z := z) (by omega) ht with ⟨hk, e⟩ | ⟨hk, g', e, hpre⟩
      · have ht1 : ∀ k, D.lows k (t ++ [sgD r]) = true := by intro k; rw [lows_app, ht]; rfl
        have e5 := look_spec (m + 2) n (g := g) (sg := sgT a b c) (l := l) (w := w ++ [s]) (t := t ++ [sgD r]) (z := z) hm hl (by simp; omega) ht1
        have hi2 := isL_ref _ _ _ (St_2 (g := g) (sg := sgT a b c) (w := w ++ [s]) (t := t) (z := z))
        have ha : mth .append (.ref (g.length + 2)) [.tup [.str (Str.ofString "sign"), .int r]] (St g (sgT a b c) (w ++ [s]) t z) = .ok .non (St g (sgT a b c) (w ++ [s]) (t ++ [sgD r]) z) := by
          show mth .append (.ref (g.length + 2)) [sgD r] _ = _
          rw [app_ref _ _ (sgD r) _ St_2 (by omega), St_set2]
        refine .inl ⟨[s], sgD r :: l.reverse.map itD, by show (if _ then _ else _) = _; rw [if_pos ⟨hcase, hk⟩], ?_⟩
        rw [show t ++ sgD r :: l.reverse.map itD = (t ++ [sgD r]) ++ l.reverse.map itD by simp]
        refine fin (by intro k; rw [lows_app, ht1, itD_low (n := n) (by intro x hx; exact hm x (by simpa using hx)) k]; rfl) (δ := [some (.ref g.length), some (.tup [.str h, .int s, .tup l, .int r]), some (.tup [.str h, .int 4])]) ?_
        unfold b_Spelling_take
        simp! [e0, q1, q2, q3, q4, mp, e, f_wait, hi2, ha, ml, e5]
      · refine .inr ⟨by show (if _ then _ else _) = _; rw [if_neg (fun z => hk z.2)], ex (δ := [some (.ref g.length), some (.tup [.str h, .int s, .tup l, .int r]), some (.tup [.str h, .int 4])]) (g' := g') ?_ hpre⟩
        unfold b_Spelling_take
        simp! [e0, q1, q2, q3, q4, mp, e]
    · have q1 := fun g' => eq_f hh pS (i := 4) (j := 2) (fun z => absurd z.2 (by decide)) g'
      have q2 := fun g' => eq_f hh fS (i := 4) (j := 2) (fun z => absurd z.2 (by decide)) g'
      have q3 := fun g' => eq_f hh rS (i := 4) (j := 4) (fun z => hcase z.1) g'
      have q4 := fun g' => eq_f hh oS (i := 4) (j := 3) (fun z => absurd z.2 (by decide)) g'
      refine .inr ⟨by show (if _ then _ else _) = _; rw [if_neg (fun z => hcase z.1)], ex (δ := [some (.ref g.length), some (.tup [.str h, .int s, .tup l, .int r]), some (.tup [.str h, .int 4])]) (g' := St g (sgT a b c) w t z) ?_ St_pre⟩
      unfold b_Spelling_take
      simp! [e0, q1, q2, q3, q4]
end K44
end
section
set_option Elab.async false
set_option linter.all false
set_option maxRecDepth 100000
set_option maxHeartbeats 1000000
namespace K44
open PySem DV P44
/-! ### tasks -/
inductive Tk | it (x : D) | sg (s : Int)
def Tk.d : Tk → D
  | .it x => itD x
  | .sg s => sgD s
def Tk.sz : Tk → Nat
  | .it x => P44.sz x
  | .sg _ => 1
def msr (ts : List Tk) : Nat := (ts.map Tk.sz).sum
def val (a b c : Int) (n : Nat) : List Tk → Option (List Int)
  | [] => some []
  | .it x :: r => (spI a b c n x).bind fun v => (val a b c n r).map (v ++ ·)
  | .sg s :: r => if kd a b c s = some 1 then (val a b c n r).map (s :: ·) else none
def TOk (n : Nat) : Tk → Prop
  | .it x => Nr n x
  | .sg _ => True
theorem mapM_congr {f g : D → Option (List Int)} : ∀ {l : List D}, (∀ x ∈ l, f x = g x) → l.mapM f = l.mapM g
  | [], _ => rfl
  | x :: l, h => by rw [List.mapM_cons, List.mapM_cons, h x List.mem_cons_self, mapM_congr fun y hy => h y (List.mem_cons_of_mem _ hy)]
theorem stab {a b c : Int} : ∀ {n : Nat} {x : D}, Nr n x → spI a b c (n + 1) x = spI a b c n x := by
  intro n
  induction n with
  | zero => intro x h; cases h
  | succ n ih =>
    intro x h
    cases h with
    | non => rfl
    | two => rfl
    | no3 => rfl
    | three h1 h2 h3 h4 =>
      show (if _ then _ else _) = (if _ then _ else _)
      rw [mapM_congr fun y hy => ih (h4 y hy)]
    | four h1 h2 h3 h4 h5 =>
      show (if _ then _ else _) = (if _ then _ else _)
      rw [mapM_congr fun y hy => ih (h5 y hy)]
variable {a b c : Int} {n : Nat}
theorem val_app : ∀ (u v : List Tk), val a b c n (u ++ v) = (val a b c n u).bind fun p => (val a b c n v).map (p ++ ·)
  | [], v => by simp [val]
  | .it x :: u, v => by
    rw [List.cons_append, val, val, val_app u v]
    cases spI a b c n x with
    | none => rfl
    | some p =>
      cases val a b c n u with
      | none => rfl
      | some q =>
        cases val a b c n v with
        | none => rfl
        | some r => simp
  | .sg s :: u, v => by
    rw [List.cons_append, val, val, val_app u v]
    split
    · cases val a b c n u with
      | none => rfl
      | some q =>
        cases val a b c n v with
        | none => rfl
        | some r => simp
    · rfl
theorem val_its : ∀ (l : List D), val a b c n (l.map .it) = spL a b c n l
  | [] => rfl
  | x :: l => by
    rw [List.map_cons, val, val_its l]
    unfold spL
    rw [List.mapM_cons]
    cases spI a b c n x with
    | none => rfl
    | some p => cases l.mapM (spI a b c n) <;> rfl
/-- what a task leaves -/
def nxt : D → List Tk
  | .tup [_, _] => []
  | .tup [_, _, .tup l] => l.map .it
  | .tup [_, _, .tup l, .int r] => l.map .it ++ [.sg r]
  | _ => []
theorem tk_val {x : D} (hx : Nr n x) {v : List Int} {t' : List D} (h : tk a b c x = some (v, t')) :
    t' = (nxt x).reverse.map Tk.d ∧ spI a b c n x = (val a b c n (nxt x)).map (v ++ ·) ∧ v.length = 1 ∧ msr (nxt x) + 1 ≤ sz x ∧ ∀ k ∈ nxt x, TOk n k := by
  cases hx with
  | non => cases h
  | @two n hh s h1 h2 =>
    simp only [tk] at h
    split at h
    · rename_i hc
      cases h
      refine ⟨rfl, ?_, rfl, by simp [nxt, msr, sz, szs], by simp [nxt]⟩
      show (if _ then _ else _) = _
      rw [if_pos hc]
      rfl
    · cases h
  | no3 => cases h
  | @three n hh s l h1 h2 h3 h4 =>
    simp only [tk] at h
    split at h
    · rename_i hc
      cases h
      refine ⟨by show _ = (l.map Tk.it).reverse.map Tk.d; rw [← List.map_reverse, List.map_map]; rfl, ?_, rfl, ?_, fun k hk => ?_⟩
      · show (if _ then _ else _) = (val a b c (n + 1) (l.map .it)).map _
        rw [if_pos hc, val_its]
        unfold spL
        rw [mapM_congr fun y hy => stab (h4 y hy)]
        rfl
      · show msr (l.map .it) + 1 ≤ _
        have : msr (l.map .it) = szs l := its_sz l
        rw [this]; simp [sz, szs]; omega
      · obtain ⟨y, hy, rfl⟩ := List.mem_map.mp hk
        exact (h4 y hy).mono (by omega)
    · cases h
  | @four n hh s r l h1 h2 h3 h4 h5 =>
    simp only [tk] at h
    split at h
    · rename_i hc
      cases h
      refine ⟨by show _ = (l.map Tk.it ++ [Tk.sg r]).reverse.map Tk.d; rw [List.reverse_append, ← List.map_reverse, List.map_append, List.map_map]; rfl, ?_, rfl, ?_, fun k hk => ?_⟩
      · show (if _ then _ else _) = (val a b c (n + 1) (l.map .it ++ [.sg r])).map _
        rw [val_app, val_its]
        unfold spL
        rw [mapM_congr fun y hy => stab (h5 y hy)]
        by_cases hr : kd a b c r = some 1
        · rw [if_pos ⟨hc.1, hc.2, hr⟩]
          cases l.mapM (spI a b c n) with
          | none => rfl
          | some ws => simp [val, hr]
        · rw [if_neg (fun z => hr z.2.2)]
          cases l.mapM (spI a b c n) with
          | none => rfl
          | some ws => simp [val, hr]
      · show msr (l.map .it ++ [.sg r]) + 1 ≤ _
        have : msr (l.map .it ++ [.sg r]) = szs l + 1 := by
          have := its_sz l
          unfold msr at this ⊢
          rw [List.map_append, List.sum_append, this]
          rfl
        rw [this]; simp [sz, szs]; omega
      · rcases List.mem_append.mp hk with hk | hk
        · obtain ⟨y, hy, rfl⟩ := List.mem_map.mp hk
          exact (h5 y hy).mono (by omega)
        · simp at hk; subst hk; trivial
    · cases h
where
  its_sz : ∀ l : List D, msr (l.map .it) = szs l
    | [] => rfl
    | x :: l => by
      have := its_sz l
      unfold msr at this ⊢
      rw [List.map_cons, List.map_cons, List.sum_cons, this, szs]
      rfl
theorem tk_none {x : D} (hx : Nr n x) (h : tk a b c x = none) : spI a b c n x = none := by
  cases hx with
  | non => rfl
  | two h1 h2 =>
    simp only [tk] at h
    split at h
    · cases h
    · rename_i hc
      show (if _ then _ else _) = _
      rw [if_neg hc]
  | no3 => rfl
  | three h1 h2 h3 h4 =>
    simp only [tk] at h
    split at h
    · cases h
    · rename_i hc
      show (if _ then _ else _) = _
      rw [if_neg hc]
  | four h1 h2 h3 h4 h5 =>
    simp only [tk] at h
    split at h
    · cases h
    · rename_i hc
      show (if _ then _ else _) = _
      rw [if_neg (fun z => hc ⟨z.1, z.2.1⟩)]
end K44
end
section
set_option Elab.async false
set_option linter.all false
set_option maxRecDepth 100000
set_option maxHeartbeats 1000000
namespace K44
open PySem DV P44
theorem str_nb1 : nb 1 (.str (Str.ofString "item")) = true := by decide +kernel
theorem str_nb2 : nb 1 (.str (Str.ofString "sign")) = true := by decide +kernel
theorem seq_it (g : G) : cmpD .eq (.str (Str.ofString "item")) (.str (Str.ofString "sign")) g = some false := by
  rw [eqG_nb g str_nb1 str_nb2 (by decide) (by decide)]
  have : Str.ofString "item" ≠ Str.ofString "sign" := by decide +kernel
  simp [this]
theorem seq_sg (g : G) : cmpD .eq (.str (Str.ofString "sign")) (.str (Str.ofString "sign")) g = some true := by
  rw [eqG_nb g str_nb2 str_nb2 (by decide) (by decide)]
  simp
def spBody (cl : Cl) : Sm := (.seq (.asg (.tup 2 (tgCons (.name 2) (tgCons (.name 3) tgNil))) (.mth .pop (.fld T (.loc 0) (Str.ofString "waiting")) exNil))
  (.seq (.ite (.ex (.cmp .eq (.loc 2) (.cst (.str (Str.ofString "sign"))))) (.ex (.meth T cl (.loc 0) (Str.ofString "put") (exCons (.loc 3) (exCons (.cst (.int 1)) exNil)))) (.ex (.meth T cl (.loc 0) (Str.ofString "take") (exCons (.loc 3) exNil))))
  (.ite (.ex (.cmp .gt (.bi .len (exCons (.fld T (.loc 0) (Str.ofString "word")) exNil)) (.cst (.int 300)))) (.raise 2 (.cst .non)) .skip)))
section
variable {a b c n : Nat} {g : G} {w : List Int} {t : List D} {z : G} {is : D} {x2 x3 : Option D}
theorem pop_St {k : D} : mth .pop (.ref (g.length + 2)) [] (St g (sgT a b c) w (t ++ [k]) z) = .ok k (St g (sgT a b c) w t z) := by
  rw [pop_ref _ _ _ _ St_2, St_set2]
theorem sp_sg (m : Nat) {s : Int} (hw : w.length ≤ 10000) (ht : ∀ k, D.lows k t = true) :
    (kd a b c s = some 1 ∧ (w ++ [s]).length ≤ 300 ∧ spBody (callN (m + 4)) [some (.ref g.length), some is, x2, x3] (St g (sgT a b c) w (t ++ [sgD s]) z) = .ok (.nx [some (.ref g.length), some is, some (.str (Str.ofString "sign")), some (.int s)]) (St g (sgT a b c) (w ++ [s]) t z)) ∨
    ((kd a b c s ≠ some 1 ∨ 300 < (w ++ [s]).length) ∧ ∃ δ g'', spBody (callN (m + 4)) [some (.ref g.length), some is, x2, x3] (St g (sgT a b c) w (t ++ [sgD s]) z) = .exc 2 .non δ g'' ∧ Pre g g'') := by
  have hil := isL_ref _ _ _ (St_2 (g := g) (sg := sgT a b c) (w := w) (t := t ++ [sgD s]) (z := z))
  have hp := pop_St (g := g) (a := a) (b := b) (c := c) (w := w) (t := t) (z := z) (k := sgD s)
  have ht2 : ∀ δ : DV.Env, Tg.tup 2 (tgCons (.name 2) (tgCons (.name 3) tgNil)) (sgD s) δ (St g (sgT a b c) w t z) = .ok ((δ.set 2 (some (.str (Str.ofString "sign")))).set 3 (some (.int s))) (St g (sgT a b c) w t z) := fun δ => rfl
  have mp : ∀ {es : Exs}, Ex.meth T (callN (m + 4)) (.loc 0) (Str.ofString "put") es [some (.ref g.length), some is, some (.str (Str.ofString "sign")), some (.int s)] (St g (sgT a b c) w t z) = (es [some (.ref g.length), some is, some (.str (Str.ofString "sign")), some (.int s)] (St g (sgT a b c) w t z)).bind fun ds g' => callN (m + 4) 10 (.ref g.length :: ds) g' := m_put rfl
  have hs := seq_sg (St g (sgT a b c) w t z)
  rcases put_spec (m + 1) (g := g) (a := a) (b := b) (c := c) (s := s) (k := 1) (w := w) (t := t) (z := z) (by omega) ht with ⟨hk, e⟩ | ⟨hk, g', e, hpre⟩
  · have hln := len_ref _ _ _ (St_1 (g := g) (sg := sgT a b c) (w := w ++ [s]) (t := t) (z := z))
    rw [List.length_map] at hln
    by_cases hl : (w ++ [s]).length ≤ 300
    · refine .inl ⟨hk, hl, ?_⟩
      have hl' : ¬ ((300 : Int) < ((w ++ [s]).length : Nat)) := by omega
      unfold spBody
      simp! [f_wait, hil, hp, ht2, hs, mp, e, f_word, hln, hl']
    · refine .inr ⟨.inr (by omega), [some (.ref g.length), some is, some (.str (Str.ofString "sign")), some (.int s)], _, ?_, St_pre (sg := sgT a b c) (w := w ++ [s]) (t := t) (z := z)⟩
      have hl' : ((300 : Int) < ((w ++ [s]).length : Nat)) := by omega
      unfold spBody
      simp! [f_wait, hil, hp, ht2, hs, mp, e, f_word, hln, hl']
  · refine .inr ⟨.inl hk, [some (.ref g.length), some is, some (.str (Str.ofString "sign")), some (.int s)], g', ?_, hpre⟩
    unfold spBody
    simp! [f_wait, hil, hp, ht2, hs, mp, e]
theorem sp_it (m : Nat) {x : D} (hx : Nr n x) (hn : n ≤ 30) (hw : w.length ≤ 10000) (hs2 : t.length ≤ 10000) (ht : ∀ k, D.lows k t = true) :
    (∃ v t', tk a b c x = some (v, t') ∧ (w ++ v).length ≤ 300 ∧ spBody (callN (m + 4)) [some (.ref g.length), some is, x2, x3] (St g (sgT a b c) w (t ++ [itD x]) z) = .ok (.nx [some (.ref g.length), some is, some (.str (Str.ofString "item")), some x]) (St g (sgT a b c) (w ++ v) (t ++ t') z)) ∨
    ((tk a b c x = none ∨ ∃ v t', tk a b c x = some (v, t') ∧ 300 < (w ++ v).length) ∧ ∃ δ g'', spBody (callN (m + 4)) [some (.ref g.length), some is, x2, x3] (St g (sgT a b c) w (t ++ [itD x]) z) = .exc 2 .non δ g'' ∧ Pre g g'') := by
  have hil := isL_ref _ _ _ (St_2 (g := g) (sg := sgT a b c) (w := w) (t := t ++ [itD x]) (z := z))
  have hp := pop_St (g := g) (a := a) (b := b) (c := c) (w := w) (t := t) (z := z) (k := itD x)
  have ht2 : ∀ δ : DV.Env, Tg.tup 2 (tgCons (.name 2) (tgCons (.name 3) tgNil)) (itD x) δ (St g (sgT a b c) w t z) = .ok ((δ.set 2 (some (.str (Str.ofString "item")))).set 3 (some x)) (St g (sgT a b c) w t z) := fun δ => rfl
  have mt : ∀ {es : Exs}, Ex.meth T (callN (m + 4)) (.loc 0) (Str.ofString "take") es [some (.ref g.length), some is, some (.str (Str.ofString "item")), some x] (St g (sgT a b c) w t z) = (es [some (.ref g.length), some is, some (.str (Str.ofString "item")), some x] (St g (sgT a b c) w t z)).bind fun ds g' => callN (m + 4) 11 (.ref g.length :: ds) g' := m_take rfl
  have hs := seq_it (St g (sgT a b c) w t z)
  rcases take_spec m n (g := g) (a := a) (b := b) (c := c) (x := x) (w := w) (t := t) (z := z) hx hn hw hs2 ht with ⟨v, t', hk, e⟩ | ⟨hk, g', e, hpre⟩
  · have hln := len_ref _ _ _ (St_1 (g := g) (sg := sgT a b c) (w := w ++ v) (t := t ++ t') (z := z))
    rw [List.length_map] at hln
    by_cases hl : (w ++ v).length ≤ 300
    · refine .inl ⟨v, t', hk, hl, ?_⟩
      have hl' : ¬ ((300 : Int) < ((w ++ v).length : Nat)) := by omega
      unfold spBody
      simp! [f_wait, hil, hp, ht2, hs, mt, e, f_word, hln, hl']
    · refine .inr ⟨.inr ⟨v, t', hk, by omega⟩, [some (.ref g.length), some is, some (.str (Str.ofString "item")), some x], _, ?_, St_pre (sg := sgT a b c) (w := w ++ v) (t := t ++ t') (z := z)⟩
      have hl' : ((300 : Int) < ((w ++ v).length : Nat)) := by omega
      unfold spBody
      simp! [f_wait, hil, hp, ht2, hs, mt, e, f_word, hln, hl']
  · refine .inr ⟨.inl hk, [some (.ref g.length), some is, some (.str (Str.ofString "item")), some x], g', ?_, hpre⟩
    unfold spBody
    simp! [f_wait, hil, hp, ht2, hs, mt, e]
/-- the waiting tasks, the next one last -/
abbrev wt (ts : List Tk) : List D := ts.reverse.map Tk.d
theorem wt_cons (k : Tk) (ts : List Tk) : wt (k :: ts) = wt ts ++ [k.d] := by simp [wt]
theorem wt_app (u v : List Tk) : wt (u ++ v) = wt v ++ u.reverse.map Tk.d := by simp [wt]
theorem Tk_nb {k : Tk} (h : TOk n k) : nb (2 * n + 1 + 1) k.d = true := by
  cases k with
  | it x => exact nb_tup (by simp) (by intro y hy; simp at hy; rcases hy with rfl | rfl; exact nb_mono str_nb1 (by omega); exact nb_mono (Nr.nb h) (by omega))
  | sg s => exact nb_tup (by simp) (by intro y hy; simp at hy; rcases hy with rfl | rfl; exact nb_mono str_nb2 (by omega); rfl)
theorem wt_low {ts : List Tk} (h : ∀ k ∈ ts, TOk n k) (j : Nat) : D.lows j (wt ts) = true :=
  trees_low j (n := 2 * n + 1 + 1) fun x hx => by
    obtain ⟨k, hk, rfl⟩ := List.mem_map.mp hx
    exact nb_tree (Tk_nb (h k (by simpa using hk)))
theorem msr_len : ∀ ts : List Tk, ts.length ≤ msr ts
  | [] => Nat.zero_le _
  | k :: ts => by
    have := msr_len ts
    have h1 : 1 ≤ k.sz := by cases k with
      | it x => exact sz_pos x
      | sg s => exact Nat.le_refl _
    simp [msr] at this ⊢; omega
theorem msr_cons (k : Tk) (ts : List Tk) : msr (k :: ts) = k.sz + msr ts := by simp [msr]
theorem msr_app (u v : List Tk) : msr (u ++ v) = msr u + msr v := by simp [msr]
theorem spell_loop (m : Nat) (hn : n ≤ 30) (is : D) (g : G) (R : Option (List Int)) (hR : ∀ v, R = some v → v.length ≤ 300) (ts : List Tk) (hts : ∀ k ∈ ts, TOk n k) (hms : msr ts ≤ 5000) (hv : val a b c n ts = R) :
    (∀ v, R = some v → ∃ x2 x3 z', Sm.while (.ex (.cmp .ne (.fld T (.loc 0) (Str.ofString "waiting")) (.lst exNil))) (spBody (callN (m + 4))) [some (.ref g.length), some is, none, none] (St g (sgT a b c) [] (wt ts) []) = .ok (.nx [some (.ref g.length), some is, x2, x3]) (St g (sgT a b c) v [] z')) ∧
    (R = none → ∃ δ g'', Sm.while (.ex (.cmp .ne (.fld T (.loc 0) (Str.ofString "waiting")) (.lst exNil))) (spBody (callN (m + 4))) [some (.ref g.length), some is, none, none] (St g (sgT a b c) [] (wt ts) []) = .exc 2 .non δ g'' ∧ Pre g g'') := by
  refine while_steps (P := fun q δ g' => ∃ w ts z x2 x3, δ = [some (.ref g.length), some is, x2, x3] ∧ g' = St g (sgT a b c) w (wt ts) z ∧ (∀ k ∈ ts, TOk n k) ∧ msr ts = q ∧ w.length + msr ts ≤ 5000 ∧ (val a b c n ts).map (w ++ ·) = R)
    (Q := fun r => (∀ v, R = some v → ∃ x2 x3 z', r = .ok (.nx [some (.ref g.length), some is, x2, x3]) (St g (sgT a b c) v [] z')) ∧ (R = none → ∃ δ g'', r = .exc 2 .non δ g'' ∧ Pre g g''))
    ?_ fuel (msr ts) _ _ ⟨[], ts, [], none, none, rfl, rfl, hts, rfl, by simpa using hms, by rw [hv]; cases R <;> simp⟩ (by unfold fuel; omega)
  rintro q δ g1 ⟨w, ts, z, x2, x3, rfl, rfl, hok, hq, hB, hval⟩
  have hlow := fun j => wt_low hok j
  have hlen := msr_len ts
  have hwl : (wt ts).length = ts.length := by simp [wt]
  have e2 : cmpD .ne (.ref (g.length + 2)) (.ref (St g (sgT a b c) w (wt ts) z).length) (St g (sgT a b c) w (wt ts) z ++ [.lst []]) = some (!(wt ts).isEmpty) := by
    refine ne_nil (ts := (wt ts).map tr) (get_push St_2) get_new ?_
    refine mapM_some fun x hx => ?_
    obtain ⟨k, hk, rfl⟩ := List.mem_map.mp hx
    exact snap_tree _ (nb_tree (Tk_nb (hok k (by simpa using hk)))) (by omega)
  have ec : Te.ex (.cmp .ne (.fld T (.loc 0) (Str.ofString "waiting")) (.lst exNil)) [some (.ref g.length), some is, x2, x3] (St g (sgT a b c) w (wt ts) z) = .ok (!(wt ts).isEmpty) (St g (sgT a b c) w (wt ts) (z ++ [.lst []])) := by
    simp! [f_wait, e2]
    rw [St_app]
  refine ⟨_, _, ec, ?_⟩
  cases ts with
  | nil =>
    refine .inl ⟨rfl, fun v h => ?_, fun h => ?_⟩
    · rw [h] at hval
      simp [val] at hval
      subst hval
      exact ⟨x2, x3, _, rfl⟩
    · rw [h] at hval; simp [val] at hval
  | cons k ts =>
    refine .inr ⟨by rw [wt_cons]; simp, ?_⟩
    rw [msr_cons] at hq hB
    have hok' : ∀ k ∈ ts, TOk n k := fun j hj => hok j (List.mem_cons_of_mem _ hj)
    have hl1 := msr_len ts
    have hwl' : (wt ts).length = ts.length := by simp [wt]
    rw [wt_cons]
    cases k with
    | sg s =>
      have hsz : (Tk.sg s).sz = 1 := rfl
      rcases sp_sg (g := g) (a := a) (b := b) (c := c) (is := is) (x2 := x2) (x3 := x3) (w := w) (t := wt ts) (z := z ++ [.lst []]) m (s := s) (by omega) (fun j => wt_low hok' j) with ⟨hk, hl, e⟩ | ⟨hk, δ', g'', e, hpre⟩
      · refine .inl ⟨_, _, msr ts, .inl e, by omega, w ++ [s], ts, _, _, _, rfl, rfl, hok', rfl, by simp; omega, ?_⟩
        rw [← hval, val, if_pos hk]
        cases val (a : Int) b c n ts <;> simp
      · refine .inr (.inr (.inr ⟨2, .non, δ', g'', e, fun v h => ?_, fun _ => ⟨δ', g'', rfl, hpre⟩⟩))
        rw [h, val] at hval
        rcases hk with hk | hk
        · rw [if_neg hk] at hval; cases hval
        · have := hR v h
          split at hval
          · cases e3 : val (a : Int) b c n ts with
            | none => rw [e3] at hval; cases hval
            | some u =>
              rw [e3] at hval
              simp at hval
              subst hval
              simp at this hk; omega
          · cases hval
    | it x =>
      have hsz : (Tk.it x).sz = sz x := rfl
      have hx : Nr n x := hok (.it x) List.mem_cons_self
      rcases sp_it (g := g) (a := a) (b := b) (c := c) (is := is) (x2 := x2) (x3 := x3) (w := w) (t := wt ts) (z := z ++ [.lst []]) m (x := x) hx hn (by omega) (by omega) (fun j => wt_low hok' j) with ⟨v, t', hk, hl, e⟩ | ⟨hk, δ', g'', e, hpre⟩
      · obtain ⟨q1, q2, q3, q4, q5⟩ := tk_val hx hk
        refine .inl ⟨_, _, msr (nxt x ++ ts), .inl e, by rw [msr_app]; omega, w ++ v, nxt x ++ ts, _, _, _, rfl, by rw [wt_app, q1], fun j hj => ?_, rfl, by rw [msr_app]; simp; omega, ?_⟩
        · rcases List.mem_append.mp hj with hj | hj
          · exact q5 j hj
          · exact hok' j hj
        · rw [← hval, val, q2, val_app]
          cases val (a : Int) b c n (nxt x) with
          | none => rfl
          | some u => cases val (a : Int) b c n ts <;> simp
      · refine .inr (.inr (.inr ⟨2, .non, δ', g'', e, fun v h => ?_, fun _ => ⟨δ', g'', rfl, hpre⟩⟩))
        rw [h, val] at hval
        rcases hk with hk | ⟨v', t', hk, hl⟩
        · rw [tk_none hx hk] at hval; cases hval
        · obtain ⟨q1, q2, q3, q4, q5⟩ := tk_val hx hk
          have := hR v h
          rw [q2] at hval
          cases e3 : val (a : Int) b c n (nxt x) with
          | none => rw [e3] at hval; cases hval
          | some u =>
            cases e4 : val (a : Int) b c n ts with
            | none => rw [e3, e4] at hval; cases hval
            | some u2 =>
              rw [e3, e4] at hval
              simp at hval
              subst hval
              simp at this hl; omega
end
end K44
end
section
set_option Elab.async false
set_option linter.all false
set_option maxRecDepth 100000
set_option maxHeartbeats 1000000
namespace P44
open DV PySem
mutual
def cn : D → Nat
  | .int _ => 1
  | .tup xs => cns xs
  | _ => 0
def cns : List D → Nat
  | [] => 0
  | x :: xs => cn x + cns xs
end
theorem cns_app : ∀ xs ys : List D, cns (xs ++ ys) = cns xs + cns ys
  | [], ys => by simp [cns]
  | x :: xs, ys => by rw [List.cons_append, cns, cns, cns_app xs ys]; omega
theorem mapM_cn {f : D → Option (List Int)} : ∀ {l : List D} {ws : List (List Int)}, (∀ x ∈ l, ∀ w, f x = some w → w.length ≤ cn x) → l.mapM f = some ws → ws.flatten.length ≤ cns l
  | [], ws, _, h => by simp at h; subst h; simp
  | x :: l, ws, h, hw => by
    simp only [List.mapM_cons, Option.pure_def, Option.bind_eq_bind, Option.bind_eq_some_iff, Option.some.injEq] at hw
    obtain ⟨w, h1, vs, h2, rfl⟩ := hw
    have a := h x List.mem_cons_self w h1
    have b := mapM_cn (fun y hy => h y (List.mem_cons_of_mem _ hy)) h2
    rw [List.flatten_cons, List.length_append, cns]; omega
theorem flI_cn : ∀ (n : Nat) (d : D) (w : List Int), flI n d = some w → w.length ≤ cn d := by
  intro n
  induction n with
  | zero => intro d w h; cases h
  | succ n ih =>
    intro d w h
    unfold flI at h
    split at h
    · split at h
      · cases h; simp [cn, cns]
      · cases h
    · rename_i hh s l
      split at h
      · simp only [Option.map_map, Option.map_eq_some_iff] at h
        obtain ⟨ws, h1, rfl⟩ := h
        have := mapM_cn (fun x _ v hv => ih x v hv) h1
        simp [cn, cns] at this ⊢; omega
      · cases h
    · rename_i hh s l r
      split at h
      · simp only [Option.map_map, Option.map_eq_some_iff] at h
        obtain ⟨ws, h1, rfl⟩ := h
        have := mapM_cn (fun x _ v hv => ih x v hv) h1
        simp [cn, cns] at this ⊢; omega
      · cases h
    · cases h
theorem flL_cn {n : Nat} {l : List D} {w : List Int} (h : flL n l = some w) : w.length ≤ cns l := by
  unfold flL at h
  simp only [Option.map_eq_some_iff] at h
  obtain ⟨ws, h1, rfl⟩ := h
  exact mapM_cn (fun x _ v hv => flI_cn n x v hv) h1
theorem cns_items (a b : Int) : ∀ (n : Nat) (w : List Int), w.length ≤ n → cns (litems a b w) ≤ w.length := by
  intro n
  induction n with
  | zero => intro w h; have : w = [] := List.length_eq_zero_iff.mp (by omega); subst this; rw [litems_nil]; simp [cns]
  | succ n ih =>
    intro w h
    cases w with
    | nil => rw [litems_nil]; simp [cns]
    | cons s r =>
      have hr : r.length ≤ n := by simp at h; omega
      by_cases h1 : s < a
      · cases e : mt a b 0 r with
        | none => rw [litems_opn h1 e]; have := ih r hr; simp [cns, cn, opn, sD]; omega
        | some k =>
          rw [litems_pr h1 e]
          have hk := mt_lt a b r 0 k e
          have i1 := ih (r.take k) (by rw [List.length_take]; omega)
          have i2 := ih (r.drop (k + 1)) (by rw [List.length_drop]; omega)
          rw [List.length_take] at i1
          rw [List.length_drop] at i2
          simp [cns, cn, pr, sD]; omega
      · rw [litems_leaf h1]
        have := ih r hr
        by_cases h2 : a + b ≤ s
        · rw [if_pos h2]; simp [cns, cn, pln, sD]; omega
        · rw [if_neg h2]; simp [cns, cn, fre, sD]; omega
end P44
namespace K44
open PySem DV P44
section
variable {a b c n : Nat} {g : G} {l : List D}
theorem setF_of {T : Clss} {a c : Nat} {fs : List (Str × D)} {f : Str} {k : Cls} {v : D} {g : G} (h : g[a]? = some (.ins c fs)) (hT : T[c]? = some k) (hf : k.fields.contains f = true) (hl : fs.length < 1000) : setF T (.ref a) f v g = .ok () (g.set a (.ins c (putF f v fs))) := by
  simp only [setF, h, hT, hf, Bool.true_and, decide_eq_true hl, if_true]
theorem init_spec (m : Nat) : callN (m + 1) 7 [.ref g.length, sgT a b c] (g ++ [.ins 0 []]) = .ok .non (St g (sgT a b c) [] [] []) := by
  rw [c7]
  have e1 : setF T (.ref g.length) (Str.ofString "signs") (sgT a b c) (g ++ [.ins 0 []]) = .ok () (g ++ [.ins 0 [(Str.ofString "signs", sgT a b c)]]) := by
    have h : (g ++ [O.ins 0 []])[g.length]? = some (.ins 0 []) := get_new
    rw [setF_of (k := T[0]) h rfl (by decide +kernel) (by simp), List.set_append_right _ _ (Nat.le_refl _)]
    simp [putF]
  have k2 : putF (Str.ofString "word") (.ref (g.length + 1)) [(Str.ofString "signs", sgT a b c)] = [(Str.ofString "signs", sgT a b c), (Str.ofString "word", .ref (g.length + 1))] := by
    have : ¬ (Str.ofString "signs" = Str.ofString "word") := by decide +kernel
    simp [putF, this]
  have k3 : putF (Str.ofString "waiting") (.ref (g.length + 2)) [(Str.ofString "signs", sgT a b c), (Str.ofString "word", .ref (g.length + 1))] = [(Str.ofString "signs", sgT a b c), (Str.ofString "word", .ref (g.length + 1)), (Str.ofString "waiting", .ref (g.length + 2))] := by
    have h1 : ¬ (Str.ofString "signs" = Str.ofString "waiting") := by decide +kernel
    have h2 : ¬ (Str.ofString "word" = Str.ofString "waiting") := by decide +kernel
    simp [putF, h1, h2]
  have e2 : setF T (.ref g.length) (Str.ofString "word") (.ref (g.length + 1)) (g ++ [.ins 0 [(Str.ofString "signs", sgT a b c)]] ++ [.lst []]) = .ok () (g ++ [.ins 0 [(Str.ofString "signs", sgT a b c), (Str.ofString "word", .ref (g.length + 1))]] ++ [.lst []]) := by
    have h : (g ++ [O.ins 0 [(Str.ofString "signs", sgT a b c)]] ++ [.lst []])[g.length]? = some (.ins 0 [(Str.ofString "signs", sgT a b c)]) := get_push get_new
    rw [setF_of (k := T[0]) h rfl (by decide +kernel) (by simp), k2, List.append_assoc, List.set_append_right _ _ (Nat.le_refl _)]
    simp
  have e3 : setF T (.ref g.length) (Str.ofString "waiting") (.ref (g.length + 2)) (g ++ [.ins 0 [(Str.ofString "signs", sgT a b c), (Str.ofString "word", .ref (g.length + 1))]] ++ [.lst []] ++ [.lst []]) = .ok () (St g (sgT a b c) [] [] []) := by
    have h : (g ++ [O.ins 0 [(Str.ofString "signs", sgT a b c), (Str.ofString "word", .ref (g.length + 1))]] ++ [.lst []] ++ [.lst []])[g.length]? = some (.ins 0 [(Str.ofString "signs", sgT a b c), (Str.ofString "word", .ref (g.length + 1))]) := get_push (get_push get_new)
    rw [setF_of (k := T[0]) h rfl (by decide +kernel) (by simp), k3, List.append_assoc, List.append_assoc, List.set_append_right _ _ (Nat.le_refl _)]
    simp [St]
  have key : b_Spelling___init__ (callN m) [some (.ref g.length), some (sgT a b c)] (g ++ [.ins 0 []]) = .ok (.nx [some (.ref g.length), some (sgT a b c)]) (St g (sgT a b c) [] [] []) := by
    unfold b_Spelling___init__
    have l1 : (g ++ [O.ins 0 [(Str.ofString "signs", sgT a b c)]]).length = g.length + 1 := by simp
    have l2 : (g ++ [O.ins 0 [(Str.ofString "signs", sgT a b c), (Str.ofString "word", .ref (g.length + 1))]] ++ [O.lst []]).length = g.length + 2 := by simp
    simp! [e1, l1, e2, l2, e3]
  refine (body_gcN rfl key).trans ?_
  show R.ok (DV.gc _ _ _).1 (DV.gc _ _ _).2 = _
  have : oldOk (g ++ [.ins 0 []]) (St g (sgT a b c) [] [] []) = false := by
    unfold oldOk St
    rw [List.append_assoc, List.zip_append rfl, List.all_append]
    have : ([O.ins 0 []].zip ([.ins 0 [(Str.ofString "signs", sgT a b c), (Str.ofString "word", .ref (g.length + 1)), (Str.ofString "waiting", .ref (g.length + 2))], .lst (([] : List Int).map .int), .lst []] ++ [])).all (fun p => decide (p.1 = p.2) || p.2.low (g ++ [O.ins 0 []]).length) = false := by
      simp [O.low, D.low]
    rw [this, Bool.and_false]
  unfold DV.gc
  rw [this]
  rfl
theorem spell_spec (m : Nat) (hn : n ≤ 30) (hl : ∀ x ∈ l, Nr n x) (hlen : l.length ≤ 4096) (hsz : szs l ≤ 4000) (hv : ∀ v, spL a b c n l = some v → v.length ≤ 300) :
    (∀ v, spL a b c n l = some v → callN (m + 5) 12 [.ref g.length, .tup l] (St g (sgT a b c) [] [] []) = .ok .non (St g (sgT a b c) v [] [])) ∧
    (spL a b c n l = none → Ex2 g (callN (m + 5) 12 [.ref g.length, .tup l] (St g (sgT a b c) [] [] []))) := by
  have hms : msr (l.map Tk.it) = szs l := tk_val.its_sz l
  have hlk := look_spec (m + 3) n (g := g) (sg := sgT a b c) (l := l) (w := []) (t := []) (z := []) hl hlen (by simp) (fun _ => rfl)
  have hwt : [] ++ l.reverse.map itD = wt (l.map Tk.it) := by
    show _ = (l.map Tk.it).reverse.map Tk.d
    rw [← List.map_reverse, List.map_map]
    rfl
  rw [hwt] at hlk
  obtain ⟨L1, L2⟩ := spell_loop (a := a) (b := b) (c := c) (n := n) m hn (.tup l) g (spL a b c n l) hv (l.map Tk.it) (by intro k hk; obtain ⟨x, hx, rfl⟩ := List.mem_map.mp hk; exact hl x hx) (by omega) (val_its l)
  have e0 : (Sm.ex (Ex.meth T (callN (m + 4)) (.loc 0) (Str.ofString "look_at") (exCons (.loc 1) exNil))) [some (.ref g.length), some (.tup l), none, none] (St g (sgT a b c) [] [] []) = .ok (.nx [some (.ref g.length), some (.tup l), none, none]) (St g (sgT a b c) [] (wt (l.map Tk.it)) []) := by
    have ml : ∀ {es : Exs}, Ex.meth T (callN (m + 4)) (.loc 0) (Str.ofString "look_at") es [some (.ref g.length), some (.tup l), none, none] (St g (sgT a b c) [] [] []) = (es [some (.ref g.length), some (.tup l), none, none] (St g (sgT a b c) [] [] [])).bind fun ds g' => callN (m + 4) 9 (.ref g.length :: ds) g' := m_look rfl
    simp! [ml, hlk]
  refine ⟨fun v h => ?_, fun h => ?_⟩
  · obtain ⟨x2, x3, z', e⟩ := L1 v h
    rw [c12]
    have key : b_Spelling_spell (callN (m + 4)) [some (.ref g.length), some (.tup l), none, none] (St g (sgT a b c) [] [] []) = .ok (.nx [some (.ref g.length), some (.tup l), x2, x3]) (St g (sgT a b c) v [] z') := (st_nx e0).trans e
    refine (body_gcN rfl key).trans ?_
    exact St_gc (z := []) (y := z') (fun _ => rfl) (fun _ => rfl)
  · obtain ⟨δ, g'', e, hpre⟩ := L2 h
    rw [c12]
    exact body_Ex2 (δ := δ) (g' := g'') rfl ((st_nx e0).trans e) hpre (by rw [St_len]; omega)
theorem wordof_spec (m : Nat) (ha : a ≤ 3) (hb : b ≤ 3) (hc : c ≤ 3) (h1 : 1 ≤ a + b + c) (hn : n ≤ 30) (hl : ∀ x ∈ l, Nr n x) (hlen : l.length ≤ 4096) (hsz : szs l ≤ 4000) (hcn : cns l ≤ 30) :
    (∀ v, spL a b c n l = some v → litems a b v = l → callN (m + 6) 13 [sgT a b c, .tup l] g = .ok (.tup (v.map .int)) g) ∧
    ((∀ v, spL a b c n l = some v → litems a b v ≠ l) → callN (m + 6) 13 [sgT a b c, .tup l] g = .exc 2 .non g) := by
  have hv : ∀ v, spL (a : Int) b c n l = some v → v.length ≤ 30 := fun v h => Nat.le_trans (flL_cn (spL_fl h)) hcn
  obtain ⟨S1, S2⟩ := spell_spec (a := a) (b := b) (c := c) (g := g) m hn hl hlen hsz (fun v h => by have := hv v h; omega)
  have hck := chk_sg (m + 2) g ha hb hc h1
  have hin := init_spec (a := a) (b := b) (c := c) (g := g) (m + 4)
  have hnew : Ex.new (callN (m + 5)) 0 7 (exCons (.loc 0) exNil) [some (sgT a b c), some (.tup l), none, none] g = .ok (.ref g.length) (St g (sgT a b c) [] [] []) := by
    show (R.ok [sgT a b c] g).bind _ = _
    rw [R.bind_ok, hin]
    rfl
  have ms : ∀ {es : Exs}, Ex.meth T (callN (m + 5)) (.loc 2) (Str.ofString "spell") es [some (sgT a b c), some (.tup l), some (.ref g.length), none] (St g (sgT a b c) [] [] []) = (es [some (sgT a b c), some (.tup l), some (.ref g.length), none] (St g (sgT a b c) [] [] [])).bind fun ds g' => callN (m + 5) 12 (.ref g.length :: ds) g' := m_spell rfl
  have good : ∀ v, spL (a : Int) b c n l = some v → callN (m + 5) 6 [sgT a b c, .tup (v.map .int)] (St g (sgT a b c) v [] []) = .ok (.tup (litems a b v)) (St g (sgT a b c) v [] []) ∧ cmpD .ne (.tup (litems a b v)) (.tup l) (St g (sgT a b c) v [] []) = some (!decide (litems a b v = l)) := fun v h => by
    have hval := spL_valid h
    have hvl := hv v h
    refine ⟨items_spec (m + 1) _ ha hb hc h1 (fun s hs => by have := hval s hs; omega) (by omega), ?_⟩
    have n1 : nb (2 * 30 + 1) (.tup (litems a b v)) = true := nb_tup (Nat.le_trans (litems_len _ _ _ v (Nat.le_refl _)) (by omega)) fun x hx => Nr.nb (litems_Nr _ _ 30 v hvl (by omega) (fun s hs => (hval s hs).1) x hx)
    have n2 : nb (2 * 30 + 1) (.tup l) = true := nb_tup hlen fun x hx => nb_mono (hl x hx).nb (by omega)
    rw [neG_nb _ n1 n2 (by decide) (by decide)]
    simp
  refine ⟨fun v h he => ?_, fun hno => ?_⟩
  · obtain ⟨e1, e2⟩ := good v h
    have e3 : decide (litems (a : Int) b v = l) = true := by simp [he]
    rw [e3] at e2
    have e4 := S1 v h
    rw [c13]
    refine body_pre (g' := St g (sgT a b c) v [] []) rfl ?_ St_pre (by rw [D.low]; exact lows_ints _ v)
    show b_word_of (callN (m + 5)) [some (sgT a b c), some (.tup l), none, none] g = _
    have e5 := tuple_ref _ _ _ (St_1 (g := g) (sg := sgT a b c) (w := v) (t := []) (z := []))
    unfold b_word_of
    simp! [hck, hnew, ms, e4, f_word, e5, e1, e2]
  · cases h : spL (a : Int) b c n l with
    | none =>
      obtain ⟨g'', e, hpre⟩ := S2 h
      rw [c13]
      refine body_preX (δ := [some (sgT a b c), some (.tup l), some (.ref g.length), none]) (g' := g'') rfl ?_ hpre
      show b_word_of (callN (m + 5)) [some (sgT a b c), some (.tup l), none, none] g = _
      unfold b_word_of
      simp! [hck, hnew, ms, e]
    | some v =>
      obtain ⟨e1, e2⟩ := good v h
      have e3 : decide (litems (a : Int) b v = l) = false := by simp [hno v h]
      rw [e3] at e2
      have e4 := S1 v h
      rw [c13]
      refine body_preX (δ := [some (sgT a b c), some (.tup l), some (.ref g.length), some (.tup (v.map .int))]) (g' := St g (sgT a b c) v [] []) rfl ?_ St_pre
      show b_word_of (callN (m + 5)) [some (sgT a b c), some (.tup l), none, none] g = _
      have e5 := tuple_ref _ _ _ (St_1 (g := g) (sg := sgT a b c) (w := v) (t := []) (z := []))
      unfold b_word_of
      simp! [hck, hnew, ms, e4, f_word, e5, e1, e2]
end
end K44
end
section
set_option Elab.async false
set_option linter.all false
set_option maxRecDepth 100000
set_option maxHeartbeats 1000000
namespace P44
open DV PySem
/-- the items of a word, by their form -/
inductive Nw : Nat → D → Prop
  | two {n} {h : Str} {s : Int} : h = SP ∨ h = SF → 0 ≤ s → Nw (n + 1) (.tup [.str h, .int s])
  | three {n} {h : Str} {s : Int} {l : List D} : h = SO → 0 ≤ s → l.length ≤ 4000 → (∀ x ∈ l, Nw n x) → Nw (n + 1) (.tup [.str h, .int s, .tup l])
  | four {n} {h : Str} {s r : Int} {l : List D} : h = SR → 0 ≤ s → 0 ≤ r → l.length ≤ 4000 → (∀ x ∈ l, Nw n x) → Nw (n + 1) (.tup [.str h, .int s, .tup l, .int r])
theorem Nw.mono : ∀ {n m : Nat} {d : D}, Nw n d → n ≤ m → Nw m d := by
  intro n
  induction n with
  | zero => intro m d h; cases h
  | succ n ih =>
    intro m d h hm
    obtain ⟨m, rfl⟩ : ∃ k, m = k + 1 := ⟨m - 1, by omega⟩
    cases h with
    | two a b => exact .two a b
    | three a b c e => exact .three a b c fun x hx => ih (e x hx) (by omega)
    | four a b c e f => exact .four a b c e fun x hx => ih (f x hx) (by omega)
theorem Nw.nr : ∀ {n : Nat} {d : D}, Nw n d → Nr n d := by
  intro n
  induction n with
  | zero => intro d h; cases h
  | succ n ih =>
    intro d h
    cases h with
    | two a b => exact .two (by rcases a with rfl | rfl <;> simp) b
    | three a b c e => exact .three (by subst a; simp) b (by omega) fun x hx => ih (e x hx)
    | four a b c e f => exact .four (by subst a; simp) b c (by omega) fun x hx => ih (f x hx)
theorem litems_Nw (a b : Int) : ∀ (n : Nat) (w : List Int), w.length ≤ n → w.length ≤ 4000 → (∀ s ∈ w, 0 ≤ s) → ∀ x ∈ litems a b w, Nw n x := by
  intro n
  induction n with
  | zero => intro w h _ _; have : w = [] := List.length_eq_zero_iff.mp (by omega); subst this; rw [litems_nil]; simp
  | succ n ih =>
    intro w h hm hv
    cases w with
    | nil => rw [litems_nil]; simp
    | cons s r =>
      have hr : r.length ≤ n := by simp at h; omega
      have hm' : r.length ≤ 4000 := by simp at hm; omega
      have hs := hv s List.mem_cons_self
      have hvr : ∀ s ∈ r, 0 ≤ s := fun x hx => hv x (List.mem_cons_of_mem _ hx)
      by_cases h1 : s < a
      · cases e : mt a b 0 r with
        | none =>
          rw [litems_opn h1 e]
          intro x hx
          simp at hx; subst hx
          exact .three rfl hs (Nat.le_trans (litems_len a b _ r (Nat.le_refl _)) hm') (ih r hr hm' hvr)
        | some k =>
          rw [litems_pr h1 e]
          have hk := mt_lt a b r 0 k e
          have hg : r.getD k 0 = r[k] := by rw [List.getD_eq_getElem?_getD, List.getElem?_eq_getElem hk]; rfl
          intro x hx
          rcases List.mem_cons.mp hx with rfl | hx
          · exact .four rfl hs (by rw [hg]; exact hvr _ (List.getElem_mem hk)) (Nat.le_trans (litems_len a b _ _ (Nat.le_refl _)) (by rw [List.length_take]; omega)) (ih _ (by rw [List.length_take]; omega) (by rw [List.length_take]; omega) fun x hx => hvr x (List.mem_of_mem_take hx))
          · exact (ih _ (by rw [List.length_drop]; omega) (by rw [List.length_drop]; omega) (fun x hx => hvr x (List.mem_of_mem_drop hx)) x hx).mono (by omega)
      · rw [litems_leaf h1]
        intro x hx
        rcases List.mem_cons.mp hx with rfl | hx
        · split
          · exact .two (.inl rfl) hs
          · exact .two (.inr rfl) hs
        · exact (ih r hr hm' hvr x hx).mono (by omega)
/-- what a bend does -/
structure Bt (n : Nat) (l l' : List D) : Prop where
  nr : ∀ x ∈ l', Nr (n + 1) x
  len : l'.length ≤ l.length + 1
  sz : szs l' ≤ szs l + 8
  cn : cns l' ≤ cns l + 2
theorem split_at {α : Type} (l : List α) (j : Nat) (h : j < l.length) : l = l.take j ++ l[j] :: l.drop (j + 1) := by
  rw [← List.drop_eq_getElem_cons h, List.take_append_drop]
theorem Bt.ins {n : Nat} {l : List D} {x : D} {j : Nat} (hl : ∀ x ∈ l, Nr (n + 1) x) (hx : Nr (n + 1) x) (h1 : P44.sz x ≤ 8) (h2 : P44.cn x ≤ 2) : Bt n l (l.take j ++ [x] ++ l.drop j) := by
  have e : szs l = szs (l.take j) + szs (l.drop j) := by rw [← szs_app, List.take_append_drop]
  have e2 : cns l = cns (l.take j) + cns (l.drop j) := by rw [← cns_app, List.take_append_drop]
  refine ⟨fun y hy => ?_, by simp; omega, by rw [szs_app, szs_app]; simp [szs]; omega, by rw [cns_app, cns_app]; simp [cns]; omega⟩
  simp only [List.mem_append, List.mem_singleton] at hy
  rcases hy with (hy | rfl) | hy
  · exact hl y (List.mem_of_mem_take hy)
  · exact hx
  · exact hl y (List.mem_of_mem_drop hy)
theorem Bt.put {n : Nat} {l : List D} {x : D} {j : Nat} (hj : j < l.length) (hl : ∀ x ∈ l, Nr (n + 1) x) (hx : Nr (n + 1) x) (h1 : P44.sz x ≤ P44.sz l[j] + 8) (h2 : P44.cn x ≤ P44.cn l[j] + 2) : Bt n l (l.take j ++ [x] ++ l.drop (j + 1)) := by
  have s := split_at l j hj
  have e : szs l = szs (l.take j) + (P44.sz l[j] + szs (l.drop (j + 1))) := by conv => lhs; rw [s, szs_app, szs]
  have e2 : cns l = cns (l.take j) + (P44.cn l[j] + cns (l.drop (j + 1))) := by conv => lhs; rw [s, cns_app, cns]
  refine ⟨fun y hy => ?_, by simp; omega, by rw [szs_app, szs_app]; simp [szs]; omega, by rw [cns_app, cns_app]; simp [cns]; omega⟩
  simp only [List.mem_append, List.mem_singleton] at hy
  rcases hy with (hy | rfl) | hy
  · exact hl y (List.mem_of_mem_take hy)
  · exact hx
  · exact hl y (List.mem_of_mem_drop hy)
theorem Bt.cut {n : Nat} {l : List D} {j : Nat} (hl : ∀ x ∈ l, Nr (n + 1) x) : Bt n l (l.take j ++ l.drop (j + 1)) := by
  have e : szs (l.take j) + szs (l.drop (j + 1)) ≤ szs l := by
    have := szs_app (l.take j) (l.drop j)
    rw [List.take_append_drop] at this
    have h2 := szs_drop (l.drop j) 1
    rw [List.drop_drop] at h2
    omega
  have e2 : cns (l.take j) + cns (l.drop (j + 1)) ≤ cns l := by
    have := cns_app (l.take j) (l.drop j)
    rw [List.take_append_drop] at this
    have h3 := cns_app ((l.drop j).take 1) ((l.drop j).drop 1)
    rw [List.take_append_drop, List.drop_drop] at h3
    omega
  refine ⟨fun y hy => ?_, by simp; omega, by rw [szs_app]; omega, by rw [cns_app]; omega⟩
  rcases List.mem_append.mp hy with hy | hy
  · exact hl y (List.mem_of_mem_take hy)
  · exact hl y (List.mem_of_mem_drop hy)
theorem szs_rev : ∀ l : List D, szs l.reverse = szs l
  | [] => rfl
  | x :: l => by rw [List.reverse_cons, szs_app, szs_rev l]; simp [szs]; omega
theorem cns_rev : ∀ l : List D, cns l.reverse = cns l
  | [] => rfl
  | x :: l => by rw [List.reverse_cons, cns_app, cns_rev l]; simp [cns]; omega
theorem Bt.rev {n : Nat} {l : List D} (hl : ∀ x ∈ l, Nr (n + 1) x) : Bt n l l.reverse :=
  ⟨fun y hy => hl y (by simpa using hy), by simp, by rw [szs_rev]; omega, by rw [cns_rev]; omega⟩
theorem Bt.low {n k : Nat} {l l' : List D} (h : Bt n l l') : D.low k (.tup l') = true := by
  rw [D.low]
  exact trees_low k fun x hx => nb_tree (h.nr x hx).nb
end P44
namespace K44
open PySem DV P44
def moreL (s M : Int) : List D := [.tup [.str (Str.ofString "plain"), .int s], .tup [.str (Str.ofString "free"), .int s], .tup [.str (Str.ofString "open"), .int s, .tup []], .tup [.str (Str.ofString "pair"), .int s, .tup [], .int s], .tup [.str (Str.ofString "plain"), .int M], .tup [.str (Str.ofString "pair"), .int s, .tup []], .tup [.str (Str.ofString "call"), .int s], .non, .tup [.str (Str.ofString "open"), .int s, .non]]
theorem more_ok {s M : Int} (n : Nat) (h0 : 0 ≤ s) (hM : 0 ≤ M) : ∀ x ∈ moreL s M, Nr (n + 1) x ∧ P44.sz x ≤ 8 ∧ P44.cn x ≤ 2 := by
  intro x hx
  simp only [moreL, List.mem_cons, List.not_mem_nil, or_false] at hx
  rcases hx with rfl | rfl | rfl | rfl | rfl | rfl | rfl | rfl | rfl
  · exact ⟨.two (h := SP) (by simp) h0, by simp [P44.sz, szs], by simp [P44.cn, cns]⟩
  · exact ⟨.two (h := SF) (by simp) h0, by simp [P44.sz, szs], by simp [P44.cn, cns]⟩
  · exact ⟨.three (h := SO) (by simp) h0 (by simp) (by simp), by simp [P44.sz, szs], by simp [P44.cn, cns]⟩
  · exact ⟨.four (h := SR) (by simp) h0 h0 (by simp) (by simp), by simp [P44.sz, szs], by simp [P44.cn, cns]⟩
  · exact ⟨.two (h := SP) (by simp) hM, by simp [P44.sz, szs], by simp [P44.cn, cns]⟩
  · exact ⟨.three (h := SR) (by simp) h0 (by simp) (by simp), by simp [P44.sz, szs], by simp [P44.cn, cns]⟩
  · exact ⟨.two (h := SC) (by simp) h0, by simp [P44.sz, szs], by simp [P44.cn, cns]⟩
  · exact ⟨.non, by simp [P44.sz, szs], by simp [P44.cn, cns]⟩
  · exact ⟨.no3 (h := SO) (by simp) h0, by simp [P44.sz, szs], by simp [P44.cn, cns]⟩
def aBody (cl : Cl) : Sm := (.seq (.asg (.name 5) (.call cl 15 (exCons (.loc 0) (exCons (.loc 2) exNil))))
  (.seq (.asg (.name 6) (.call cl 16 (exCons (.loc 0) (exCons (.lst (exCons (.tup (exCons (.cst (.str (Str.ofString "plain"))) (exCons (.loc 5) exNil))) (exCons (.tup (exCons (.cst (.str (Str.ofString "free"))) (exCons (.loc 5) exNil))) (exCons (.tup (exCons (.cst (.str (Str.ofString "open"))) (exCons (.loc 5) (exCons (.tup exNil) exNil)))) (exCons (.tup (exCons (.cst (.str (Str.ofString "pair"))) (exCons (.loc 5) (exCons (.tup exNil) (exCons (.loc 5) exNil))))) (exCons (.tup (exCons (.cst (.str (Str.ofString "plain"))) (exCons (.loc 2) exNil))) (exCons (.tup (exCons (.cst (.str (Str.ofString "pair"))) (exCons (.loc 5) (exCons (.tup exNil) exNil)))) (exCons (.tup (exCons (.cst (.str (Str.ofString "call"))) (exCons (.loc 5) exNil))) (exCons (.cst .non) (exCons (.tup (exCons (.cst (.str (Str.ofString "open"))) (exCons (.loc 5) (exCons (.cst .non) exNil)))) exNil)))))))))) exNil))))
  (.seq (.asg (.name 3) (.call cl 15 (exCons (.loc 0) (exCons (.bin .add (.bi .len (exCons (.loc 1) exNil)) (.cst (.int 1))) exNil))))
  (.ret (.bin .add (.bin .add (.slc (.loc 1) .no (.at (.loc 3))) (.tup (exCons (.loc 6) exNil))) (.slc (.loc 1) (.at (.loc 3)) .no))))))
theorem pathA {t c n : Nat} {g : G} {l : List D} {M : Int} {x3 x4 x5 x6 : Option D} (m : Nat) (hT : TapeAt t c g) (hM : 1 ≤ M) (hM2 : M < 2 ^ 60) (hl : ∀ x ∈ l, Nr (n + 1) x) (hlen : l.length ≤ 4000) :
    ∃ l' g', aBody (callN (m + 2)) [some (.ref t), some (.tup l), some (.int M), x3, x4, x5, x6] g = .ok (.rt (.tup l')) g' ∧ Bt n l l' ∧ Ts t c g g' := by
  have hL : (1000000 : Nat) < LINE := by unfold LINE; decide
  obtain ⟨s, g1, e1, s0, s1, T1, l1⟩ := drawOk (m + 1) t c g M hT hM hM2
  have hT1 := T1.tp.app [.lst (moreL s M)]
  have hlt := T1.tp.lt
  have hmo := more_ok (s := s) (M := M) n s0 (by omega)
  obtain ⟨x, g2, e2, hx, T2, l2⟩ := pickOk m t c (g1 ++ [.lst (moreL s M)]) g1.length (moreL s M) hT1 get_new (by omega) (by omega) (by simp [moreL]) (by simp [moreL]) (fun y hy => tree_low _ (nb_tree (hmo y hy).1.nb))
  obtain ⟨k, g3, e3, k0, k1, T3, l3⟩ := drawOk (m + 1) t c g2 ((l.length : Int) + 1) T2.tp (by omega) (by omega)
  obtain ⟨j, rfl⟩ : ∃ j : Nat, k = j := ⟨k.toNat, by omega⟩
  obtain ⟨h1, h2, h3⟩ := hmo x hx
  refine ⟨_, g3, ?_, Bt.ins (j := j) hl h1 h2 h3, ((T1.app _).trans T2).trans T3⟩
  have add1 := add_tup (xs := l.take j) (ys := [x]) (g := g3) (by simp; omega)
  have add2 := add_tup (xs := l.take j ++ [x]) (ys := l.drop j) (g := g3) (by simp; omega)
  unfold moreL at e2
  unfold aBody
  simp! [e1, e2, e3, cut_to, cut_from, add1, add2]
end K44
end
section
set_option Elab.async false
set_option linter.all false
set_option maxRecDepth 100000
set_option maxHeartbeats 1000000
namespace K44
open PySem DV P44
theorem cut_f1 {α : Type} (xs : List α) (j : Nat) : cut xs (some ((j : Int) + 1)) none = xs.drop (j + 1) := cut_from xs (j + 1)
theorem cutT2_3 (x y z : D) : cut [x, y, z] none (some 2) = [x, y] := cut_to [x, y, z] 2
theorem cutT2_4 (x y z u : D) : cut [x, y, z, u] none (some 2) = [x, y] := cut_to [x, y, z, u] 2
theorem cutT1 (x : D) (xs : List D) : cut (x :: xs) none (some 1) = [x] := cut_to (x :: xs) 1
theorem cutF2 (x y : D) (xs : List D) : cut (x :: y :: xs) (some 2) none = xs := cut_from (x :: y :: xs) 2
def cBody (cl : Cl) : Sm := (.ret (.call cl 16 (exCons (.loc 0) (exCons (.lst (exCons (.bin .add (.slc (.loc 1) .no (.at (.loc 3))) (.slc (.loc 1) (.at (.bin .add (.loc 3) (.cst (.int 1)))) .no)) (exCons (.rev (.loc 1)) (exCons (.bin .add (.bin .add (.slc (.loc 1) .no (.at (.loc 3))) (.tup (exCons (.bin .add (.bin .add (.slc (.loc 4) .no (.at (.cst (.int 1)))) (.tup (exCons (.call cl 15 (exCons (.loc 0) (exCons (.loc 2) exNil))) exNil))) (.slc (.loc 4) (.at (.cst (.int 2))) .no)) exNil))) (.slc (.loc 1) (.at (.bin .add (.loc 3) (.cst (.int 1)))) .no)) exNil)))) exNil))))
theorem pathC {t c n j : Nat} {g : G} {l : List D} {M : Int} {h : Str} {s : Int} {r : List D} {x5 x6 : Option D} (m : Nat) (hT : TapeAt t c g) (hM : 1 ≤ M) (hM2 : M < 2 ^ 60) (hl : ∀ x ∈ l, Nw (n + 1) x) (hlen : l.length ≤ 4000) (hj : j < l.length) (hx : l[j] = .tup (.str h :: .int s :: r)) :
    ∃ l' g', cBody (callN (m + 2)) [some (.ref t), some (.tup l), some (.int M), some (.int j), some (.tup (.str h :: .int s :: r)), x5, x6] g = .ok (.rt (.tup l')) g' ∧ Bt n l l' ∧ Ts t c g g' := by
  have hL : (1000000 : Nat) < LINE := by unfold LINE; decide
  have hr : ∀ x ∈ l, Nr (n + 1) x := fun x hx => (hl x hx).nr
  have hxm : Nw (n + 1) (.tup (.str h :: .int s :: r)) := hx ▸ hl _ (List.getElem_mem hj)
  have hrl : r.length ≤ 2 := by cases hxm <;> simp
  obtain ⟨d, g1, e1, d0, d1, T1, l1⟩ := drawOk (m + 1) t c g M hT hM hM2
  have hrep : Nr (n + 1) (.tup (.str h :: .int d :: r)) ∧ P44.sz (.tup (.str h :: .int d :: r)) = P44.sz (.tup (.str h :: .int s :: r)) ∧ P44.cn (.tup (.str h :: .int d :: r)) = P44.cn (.tup (.str h :: .int s :: r)) := by
    refine ⟨?_, by simp [P44.sz, szs], by simp [P44.cn, cns]⟩
    cases hxm with
    | two a b => exact .two (by rcases a with rfl | rfl <;> simp) d0
    | three a b cc e => exact .three (by subst a; simp) d0 (by omega) fun x hx => (e x hx).nr
    | four a b cc e f => exact .four (by subst a; simp) d0 cc (by omega) fun x hx => (f x hx).nr
  have lowT : ∀ {l' : List D} (k : Nat), Bt n l l' → D.low k (.tup l') = true := fun k h => h.low
  have B1 := Bt.cut (n := n) (l := l) (j := j) hr
  have B2 := Bt.rev (n := n) (l := l) hr
  have B3 := Bt.put (n := n) (l := l) (x := .tup (.str h :: .int d :: r)) hj hr hrep.1 (by rw [hx, hrep.2.1]; omega) (by rw [hx, hrep.2.2]; omega)
  have hlt := T1.tp.lt
  have hT1 := T1.tp.app [.lst [.tup (l.take j ++ l.drop (j + 1)), .tup l.reverse, .tup (l.take j ++ [.tup (.str h :: .int d :: r)] ++ l.drop (j + 1))]]
  obtain ⟨x, g2, e2, hx2, T2, l2⟩ := pickOk m t c (g1 ++ [.lst [.tup (l.take j ++ l.drop (j + 1)), .tup l.reverse, .tup (l.take j ++ [.tup (.str h :: .int d :: r)] ++ l.drop (j + 1))]]) g1.length _ hT1 get_new (by omega) (by omega) (by simp) (by simp) (fun y hy => by
    simp only [List.mem_cons, List.not_mem_nil, or_false] at hy
    rcases hy with rfl | rfl | rfl
    · exact lowT _ B1
    · exact lowT _ B2
    · exact lowT _ B3)
  have key : ∃ l', x = .tup l' ∧ Bt n l l' := by
    simp only [List.mem_cons, List.not_mem_nil, or_false] at hx2
    rcases hx2 with rfl | rfl | rfl
    · exact ⟨_, rfl, B1⟩
    · exact ⟨_, rfl, B2⟩
    · exact ⟨_, rfl, B3⟩
  obtain ⟨l', rfl, B⟩ := key
  refine ⟨l', g2, ?_, B, (T1.app _).trans T2⟩
  have a1 := fun g => add_tup (xs := l.take j) (ys := l.drop (j + 1)) (g := g) (by simp; omega)
  have a2 := fun g => add_tup (xs := [.str h]) (ys := [.int d]) (g := g) (by simp; omega)
  have a3 := fun g => add_tup (xs := [.str h] ++ [.int d]) (ys := r) (g := g) (by simp; omega)
  have a4 := fun g => add_tup (xs := l.take j) (ys := [.tup (.str h :: .int d :: r)]) (g := g) (by simp; omega)
  have a5 := fun g => add_tup (xs := l.take j ++ [.tup (.str h :: .int d :: r)]) (ys := l.drop (j + 1)) (g := g) (by simp; omega)
  have er : Ex.rev (.loc 1) [some (.ref t), some (.tup l), some (.int M), some (.int j), some (.tup (.str h :: .int s :: r)), x5, x6] g = .ok (.tup l.reverse) g := ex_rev_t rfl
  have a3' : [D.str h] ++ [D.int d] ++ r = .str h :: .int d :: r := rfl
  rw [a3'] at a3
  unfold cBody
  simp! [cut_to, cut_f1, a1, er, cutT1, e1, a2, cutF2, a3, a4, a5, e2]
def bBody (cl : Cl) : Sm := (.seq (.asg (.name 4) (.bin .add (.bin .add (.slc (.loc 4) .no (.at (.cst (.int 2)))) (.tup (exCons (.call cl 24 (exCons (.loc 0) (exCons (.idx (.loc 4) (.cst (.int 2))) (exCons (.loc 2) exNil)))) exNil))) (.slc (.loc 4) (.at (.cst (.int 3))) .no)))
  (.ret (.bin .add (.bin .add (.slc (.loc 1) .no (.at (.loc 3))) (.tup (exCons (.loc 4) exNil))) (.slc (.loc 1) (.at (.bin .add (.loc 3) (.cst (.int 1)))) .no))))
def BentOk (m n t c : Nat) (M : Int) : Prop := ∀ (g : G) (l : List D), TapeAt t c g → (∀ x ∈ l, Nw n x) → l.length ≤ 4000 → ∃ l' g', callN m 24 [.ref t, .tup l, .int M] g = .ok (.tup l') g' ∧ Bt n l l' ∧ Ts t c g g' ∧ g'.length = g.length
theorem pathB {t c n j : Nat} {g : G} {l inn tl : List D} {M : Int} {h : Str} {s : Int} {x5 x6 : Option D} (m : Nat) (hT : TapeAt t c g) (hl : ∀ x ∈ l, Nw (n + 1) x) (hlen : l.length ≤ 4000) (hj : j < l.length) (hx : l[j] = .tup (.str h :: .int s :: .tup inn :: tl)) (hin : BentOk m n t c M) :
    ∃ l' g', bBody (callN m) [some (.ref t), some (.tup l), some (.int M), some (.int j), some (.tup (.str h :: .int s :: .tup inn :: tl)), x5, x6] g = .ok (.rt (.tup l')) g' ∧ Bt (n + 1) l l' ∧ Ts t c g g' := by
  have hL : (1000000 : Nat) < LINE := by unfold LINE; decide
  have hr : ∀ x ∈ l, Nr (n + 1 + 1) x := fun x hx => (hl x hx).nr.mono (by omega)
  have hxm : Nw (n + 1) (.tup (.str h :: .int s :: .tup inn :: tl)) := hx ▸ hl _ (List.getElem_mem hj)
  have hi : (∀ x ∈ inn, Nw n x) ∧ inn.length ≤ 4000 := by
    cases hxm with
    | three a b cc e => exact ⟨e, cc⟩
    | four a b cc e f => exact ⟨f, e⟩
  obtain ⟨i', g1, e1, B, T1, l1⟩ := hin g inn hT hi.1 hi.2
  have hrep : Nr (n + 1 + 1) (.tup (.str h :: .int s :: .tup i' :: tl)) ∧ P44.sz (.tup (.str h :: .int s :: .tup i' :: tl)) ≤ P44.sz (.tup (.str h :: .int s :: .tup inn :: tl)) + 8 ∧ P44.cn (.tup (.str h :: .int s :: .tup i' :: tl)) ≤ P44.cn (.tup (.str h :: .int s :: .tup inn :: tl)) + 2 := by
    have b1 := B.sz
    have b2 := B.cn
    have b3 := B.len
    have b4 := hi.2
    refine ⟨?_, by simp [P44.sz, szs]; omega, by simp [P44.cn, cns]; omega⟩
    cases hxm with
    | three a b cc e => exact .three (by subst a; simp) b (by omega) B.nr
    | four a b cc e f => exact .four (by subst a; simp) b cc (by omega) B.nr
  have htl : tl.length ≤ 1 := by cases hxm <;> simp
  refine ⟨_, g1, ?_, Bt.put (n := n + 1) (l := l) (x := .tup (.str h :: .int s :: .tup i' :: tl)) hj hr hrep.1 (by rw [hx]; exact hrep.2.1) (by rw [hx]; exact hrep.2.2), T1⟩
  have a1 := fun g => add_tup (xs := [.str h, .int s]) (ys := [.tup i']) (g := g) (by simp; omega)
  have a2 := fun g => add_tup (xs := [.str h, .int s] ++ [.tup i']) (ys := tl) (g := g) (by simp; omega)
  have a3 := fun g => add_tup (xs := l.take j) (ys := [.tup (.str h :: .int s :: .tup i' :: tl)]) (g := g) (by simp; omega)
  have a4 := fun g => add_tup (xs := l.take j ++ [.tup (.str h :: .int s :: .tup i' :: tl)]) (ys := l.drop (j + 1)) (g := g) (by simp; omega)
  have a2' : [D.str h, D.int s] ++ [D.tup i'] ++ tl = .str h :: .int s :: .tup i' :: tl := rfl
  rw [a2'] at a2
  have k1 : cut (.str h :: .int s :: .tup inn :: tl) none (some 2) = [.str h, .int s] := cut_to _ 2
  have k2 : cut (.str h :: .int s :: .tup inn :: tl) (some 3) none = tl := cut_from _ 3
  unfold bBody
  simp! [k1, e1, a1, k2, a2, cut_to, cut_f1, a3, a4]
theorem bent_spec (t c : Nat) {M : Int} (hM : 1 ≤ M) (hM2 : M < 2 ^ 60) : ∀ (n m : Nat), n + 4 ≤ m → BentOk m n t c M := by
  intro n
  induction n with
  | zero =>
    intro m hm g l hT hl hlen
    obtain ⟨m, rfl⟩ : ∃ q, m = q + 3 := ⟨m - 3, by omega⟩
    have : l = [] := by
      cases l with
      | nil => rfl
      | cons x l => exact absurd (hl x List.mem_cons_self) (by intro z; cases z)
    subst this
    obtain ⟨l', g', e, B, T⟩ := pathA (t := t) (c := c) (n := 0) (l := []) (x3 := none) (x4 := none) (x5 := none) (x6 := none) m hT hM hM2 (by simp) (by simp)
    obtain ⟨g2, e2, T2, l2⟩ := body_tape (np := 3) (n := 7) (b := b__law_bent (callN (m + 2))) (ds := [.ref t, .tup [], .int M]) (d := .tup l') hT rfl (by
      show b__law_bent (callN (m + 2)) [some (.ref t), some (.tup []), some (.int M), none, none, none, none] g = _
      unfold b__law_bent
      refine st_rt ((st_if ?_).trans e)
      simp! []) T B.low
    exact ⟨l', g2, by rw [c24]; exact e2, B, T2, l2⟩
  | succ n ih =>
    intro m hm g l hT hl hlen
    obtain ⟨m, rfl⟩ : ∃ q, m = q + 3 := ⟨m - 3, by omega⟩
    have hr : ∀ x ∈ l, Nr (n + 1) x := fun x hx => (hl x hx).nr
    have hr2 : ∀ x ∈ l, Nr (n + 1 + 1) x := fun x hx => (hr x hx).mono (by omega)
    suffices key : ∃ l' g', b__law_bent (callN (m + 2)) [some (.ref t), some (.tup l), some (.int M), none, none, none, none] g = .ok (.rt (.tup l')) g' ∧ Bt (n + 1) l l' ∧ Ts t c g g' by
      obtain ⟨l', g', e, B, T⟩ := key
      obtain ⟨g2, e2, T2, l2⟩ := body_tape (np := 3) (n := 7) (b := b__law_bent (callN (m + 2))) (ds := [.ref t, .tup l, .int M]) (d := .tup l') hT rfl e T B.low
      exact ⟨l', g2, by rw [c24]; exact e2, B, T2, l2⟩
    by_cases hn : l = []
    · subst hn
      obtain ⟨l', g', e, B, T⟩ := pathA (t := t) (c := c) (n := n + 1) (l := []) (x3 := none) (x4 := none) (x5 := none) (x6 := none) m hT hM hM2 (by simp) (by simp)
      refine ⟨l', g', ?_, B, T⟩
      unfold b__law_bent
      refine st_rt ((st_if ?_).trans e)
      simp! []
    · have hpos : 0 < l.length := List.length_pos_iff.mpr hn
      have z : ¬ ((l.length : Int) = 0) := by omega
      obtain ⟨d, g1, e1, d0, d1, T1, l1⟩ := drawOk (m + 1) t c g 3 hT (by decide) (by decide)
      by_cases hd : d = 0
      · obtain ⟨l', g', e, B, T⟩ := pathA (t := t) (c := c) (n := n + 1) (l := l) (x3 := none) (x4 := none) (x5 := none) (x6 := none) m T1.tp hM hM2 hr2 hlen
        refine ⟨l', g', ?_, B, T1.trans T⟩
        unfold b__law_bent
        refine st_rt ((st_if ?_).trans e)
        simp! [z, e1, hd]
      · obtain ⟨k, g2, e2, k0, k1, T2, l2⟩ := drawOk (m + 1) t c g1 (l.length : Int) T1.tp (by omega) (by omega)
        obtain ⟨j, rfl⟩ : ∃ j : Nat, k = j := ⟨k.toNat, by omega⟩
        have hj : j < l.length := by omega
        have hat := atI_nat hj
        have hxm := hl _ (List.getElem_mem hj)
        generalize hx : l[j] = x at hat hxm
        have pre : ∀ (b2 : Sm), (Sm.seq (.ite (.or (.ex (.cmp .eq (.bi .len (exCons (.loc 1) exNil)) (.cst (.int 0)))) (.ex (.cmp .eq (.call (callN (m + 2)) 15 (exCons (.loc 0) (exCons (.cst (.int 3)) exNil))) (.cst (.int 0))))) (aBody (callN (m + 2))) .skip)
            (.seq (.asg (.name 3) (.call (callN (m + 2)) 15 (exCons (.loc 0) (exCons (.bi .len (exCons (.loc 1) exNil)) exNil))))
            (.seq (.asg (.name 4) (.idx (.loc 1) (.loc 3))) b2))) [some (.ref t), some (.tup l), some (.int M), none, none, none, none] g = b2 [some (.ref t), some (.tup l), some (.int M), some (.int j), some x, none, none] g2 := fun b2 => by
          simp! [z, e1, hd, e2, hat]
        have fin : ∀ {r : RS} {l' : List D} {g' : G}, Ts t c g2 g' → Bt (n + 1) l l' → b__law_bent (callN (m + 2)) [some (.ref t), some (.tup l), some (.int M), none, none, none, none] g = .ok (.rt (.tup l')) g' → ∃ l' g', b__law_bent (callN (m + 2)) [some (.ref t), some (.tup l), some (.int M), none, none, none, none] g = .ok (.rt (.tup l')) g' ∧ Bt (n + 1) l l' ∧ Ts t c g g' := fun T B e => ⟨_, _, e, B, (T1.trans T2).trans T⟩
        have up : ∀ {l' : List D}, Bt n l l' → Bt (n + 1) l l' := fun B => ⟨fun y hy => (B.nr y hy).mono (by omega), B.len, B.sz, B.cn⟩
        have hl2 : ∀ x ∈ l, Nw (n + 1) x := hl
        cases hxm with
        | @two _ h s hh h0 =>
          have hhm : h ∈ [SP, SF, SO, SR, SC] := by rcases hh with rfl | rfl <;> simp
          have e3 := in_two hhm g2
          have e4 : decide (h = SR ∨ h = SO) = false := by
            rcases hh with rfl | rfl
            · simp [ne_PR, ne_PO]
            · simp [ne_FR, ne_FO]
          rw [e4] at e3
          obtain ⟨l', g', e, B, T⟩ := pathC (x5 := none) (x6 := none) m T2.tp hM hM2 hl hlen hj hx
          refine fin (r := .stuck) T (up B) ?_
          unfold b__law_bent
          refine (pre _).trans ((st_nx (st_no ?_)).trans e)
          simp! [e3]
        | @three _ h s inn hh h0 hil him =>
          have hhm : h ∈ [SP, SF, SO, SR, SC] := by subst hh; simp
          have e3 := in_two hhm g2
          have e4 : decide (h = SR ∨ h = SO) = true := by simp [hh]
          rw [e4] at e3
          obtain ⟨q, g3, e5, q0, q1, T3, l3⟩ := drawOk (m + 1) t c g2 2 T2.tp (by decide) (by decide)
          by_cases hq : q = 0
          · obtain ⟨l', g', e, B, T⟩ := pathB (x5 := none) (x6 := none) (m + 2) T3.tp hl hlen hj hx (ih (m + 2) (by omega))
            refine fin (r := .stuck) (T3.trans T) B ?_
            unfold b__law_bent
            refine (pre _).trans (st_rt ((st_if ?_).trans e))
            simp! [e3, e5, hq]
          · obtain ⟨l', g', e, B, T⟩ := pathC (x5 := none) (x6 := none) m T3.tp hM hM2 hl hlen hj hx
            refine fin (r := .stuck) (T3.trans T) (up B) ?_
            unfold b__law_bent
            refine (pre _).trans ((st_nx (st_no ?_)).trans e)
            simp! [e3, e5, hq]
        | @four _ h s r inn hh h0 h1 hil him =>
          have hhm : h ∈ [SP, SF, SO, SR, SC] := by subst hh; simp
          have e3 := in_two hhm g2
          have e4 : decide (h = SR ∨ h = SO) = true := by simp [hh]
          rw [e4] at e3
          obtain ⟨q, g3, e5, q0, q1, T3, l3⟩ := drawOk (m + 1) t c g2 2 T2.tp (by decide) (by decide)
          by_cases hq : q = 0
          · obtain ⟨l', g', e, B, T⟩ := pathB (x5 := none) (x6 := none) (m + 2) T3.tp hl hlen hj hx (ih (m + 2) (by omega))
            refine fin (r := .stuck) (T3.trans T) B ?_
            unfold b__law_bent
            refine (pre _).trans (st_rt ((st_if ?_).trans e))
            simp! [e3, e5, hq]
          · obtain ⟨l', g', e, B, T⟩ := pathC (x5 := none) (x6 := none) m T3.tp hM hM2 hl hlen hj hx
            refine fin (r := .stuck) (T3.trans T) (up B) ?_
            unfold b__law_bent
            refine (pre _).trans ((st_nx (st_no ?_)).trans e)
            simp! [e3, e5, hq]
end K44
end
section
set_option Elab.async false
set_option linter.all false
set_option maxRecDepth 100000
set_option maxHeartbeats 1000000
namespace K44
open PySem DV P44
abbrev sW : D := .str (Str.ofString "word")
abbrev sS : D := .str (Str.ofString "system")
section
variable {m f : Nat} {x y v : D} {g : G}
theorem callV_eq (hf : f < 27) : Ex.callV (callN m) 27 0 (exCons (.loc 1) (exCons (.loc 2) exNil)) [some (.fn f), some x, some y, none] g = callN m f [x, y] g := by
  show (if f < 27 then _ else _) = _
  rw [if_pos hf]
  rfl
theorem lcall_ok (hf : f < 27) (h : callN m f [x, y] g = .ok v g) (hv : v.low g.length = true) : callN (m + 1) 21 [.fn f, x, y] g = .ok v g := by
  rw [c21]
  refine body_rt0 rfl ?_ hv
  show b__law_call (callN m) [some (.fn f), some x, some y, none] g = _
  unfold b__law_call
  rw [st_nx (δ' := [some (.fn f), some x, some y, some v]) (g1 := g) (by
    unfold Sm.try
    rw [st_set ((callV_eq hf).trans h)]
    rfl)]
  rfl
theorem lcall_2 (hf : f < 27) (h : callN m f [x, y] g = .exc 2 .non g) : callN (m + 1) 21 [.fn f, x, y] g = .ok sW g := by
  rw [c21]
  refine body_rt0 rfl ?_ rfl
  show b__law_call (callN m) [some (.fn f), some x, some y, none] g = _
  unfold b__law_call
  refine st_rt ?_
  unfold Sm.try
  have : Sm.asg (.name 3) (.callV (callN m) 27 0 (exCons (.loc 1) (exCons (.loc 2) exNil))) [some (.fn f), some x, some y, none] g = .exc 2 .non [some (.fn f), some x, some y, none] g := by
    show (Ex.callV _ _ _ _ _ _).thenS _ _ = _
    rw [callV_eq hf, h]
    rfl
  rw [this]
  rfl
theorem lcall_1 (hf : f < 27) (h : callN m f [x, y] g = .exc 1 .non g) : callN (m + 1) 21 [.fn f, x, y] g = .ok sS g := by
  rw [c21]
  refine body_rt0 rfl ?_ rfl
  show b__law_call (callN m) [some (.fn f), some x, some y, none] g = _
  unfold b__law_call
  refine st_rt ?_
  unfold Sm.try
  have : Sm.asg (.name 3) (.callV (callN m) 27 0 (exCons (.loc 1) (exCons (.loc 2) exNil))) [some (.fn f), some x, some y, none] g = .exc 1 .non [some (.fn f), some x, some y, none] g := by
    show (Ex.callV _ _ _ _ _ _).thenS _ _ = _
    rw [callV_eq hf, h]
    rfl
  rw [this]
  rfl
end
/-! ### what is refused -/
section
variable {a b c : Nat} {g : G} {y : D}
theorem sg_non (m : Nat) : callN (m + 1) 1 [.non] g = .ok (.bl false) g := by
  rw [c1]
  refine body_rt0 rfl ?_ rfl
  show b_is_signs (callN m) [some .non, none] g = _
  unfold b_is_signs
  simp! []
theorem sg_emp (m : Nat) : callN (m + 1) 1 [.tup []] g = .ok (.bl false) g := by
  rw [c1]
  refine body_rt0 rfl ?_ rfl
  show b_is_signs (callN m) [some (.tup []), none] g = _
  have z : ¬ ((0 : Int) = 4) := by decide
  unfold b_is_signs
  simp! [z]
theorem chk_sg_no (m : Nat) {s : D} (h : callN (m + 1) 1 [s] g = .ok (.bl false) g) : callN (m + 2) 5 [s] g = .exc 1 .non g := by
  rw [c5]
  refine body_exc0 (δ := [some s]) rfl ?_
  show b_check_signs (callN (m + 1)) [some s] g = _
  unfold b_check_signs
  simp! [h]
theorem items_sys (m : Nat) {s : D} (h : ∀ g, callN (m + 1) 1 [s] g = .ok (.bl false) g) : callN (m + 3) 6 [s, y] g = .exc 1 .non g := by
  rw [c6]
  refine body_exc0 (δ := [some s, some y, none, none, none, none]) rfl ?_
  show b_items_of (callN (m + 2)) [some s, some y, none, none, none, none] g = _
  unfold b_items_of
  refine st_exc ?_
  simp! [chk_sg_no m (h g)]
theorem wordof_sys (m : Nat) {s : D} (h : ∀ g, callN (m + 1) 1 [s] g = .ok (.bl false) g) : callN (m + 3) 13 [s, y] g = .exc 1 .non g := by
  rw [c13]
  refine body_exc0 (δ := [some s, some y, none, none]) rfl ?_
  show b_word_of (callN (m + 2)) [some s, some y, none, none] g = _
  unfold b_word_of
  simp! [chk_sg_no m (h g)]
theorem items_no (m : Nat) (ha : a ≤ 3) (hb : b ≤ 3) (hc : c ≤ 3) (h1 : 1 ≤ a + b + c) (h : callN (m + 2) 3 [sgT a b c, y] g = .ok (.bl false) g) : callN (m + 4) 6 [sgT a b c, y] g = .exc 2 .non g := by
  have hw : callN (m + 3) 4 [sgT a b c, y] g = .exc 2 .non g := by
    rw [c4]
    refine body_exc0 (δ := [some (sgT a b c), some y]) rfl ?_
    show b_check_word (callN (m + 2)) [some (sgT a b c), some y] g = _
    unfold b_check_word
    simp! [h]
  rw [c6]
  refine body_exc0 (δ := [some (sgT a b c), some y, none, none, none, none]) rfl ?_
  show b_items_of (callN (m + 3)) [some (sgT a b c), some y, none, none, none, none] g = _
  unfold b_items_of
  have e1 : (Sm.ex (Ex.call (callN (m + 3)) 5 (exCons (.loc 0) exNil))) [some (sgT a b c), some y, none, none, none, none] g = .ok (.nx [some (sgT a b c), some y, none, none, none, none]) g := by
    simp! [chk_sg m g ha hb hc h1]
  refine (st_nx e1).trans (st_exc ?_)
  simp! [hw]
theorem wordof_lst (m : Nat) (ha : a ≤ 3) (hb : b ≤ 3) (hc : c ≤ 3) (h1 : 1 ≤ a + b + c) {q : Nat} {xs : List D} (hq : g[q]? = some (.lst xs)) : callN (m + 6) 13 [sgT a b c, .ref q] g = .exc 2 .non g := by
  have hck := chk_sg (m + 2) g ha hb hc h1
  have hin := init_spec (a := a) (b := b) (c := c) (g := g) (m + 4)
  have hnew : Ex.new (callN (m + 5)) 0 7 (exCons (.loc 0) exNil) [some (sgT a b c), some (.ref q), none, none] g = .ok (.ref g.length) (St g (sgT a b c) [] [] []) := by
    show (R.ok [sgT a b c] g).bind _ = _
    rw [R.bind_ok, hin]
    rfl
  have ms : ∀ {es : Exs}, Ex.meth T (callN (m + 5)) (.loc 2) (Str.ofString "spell") es [some (sgT a b c), some (.ref q), some (.ref g.length), none] (St g (sgT a b c) [] [] []) = (es [some (sgT a b c), some (.ref q), some (.ref g.length), none] (St g (sgT a b c) [] [] [])).bind fun ds g' => callN (m + 5) 12 (.ref g.length :: ds) g' := m_spell rfl
  have hq' : (St g (sgT a b c) [] [] [])[q]? = some (.lst xs) := by
    obtain ⟨t, ht⟩ := St_pre (g := g) (sg := sgT a b c) (w := []) (t := []) (z := [])
    rw [ht]; exact Pre.get ⟨t, rfl⟩ hq
  have hlk : Ex2 g (callN (m + 4) 9 [.ref g.length, .ref q] (St g (sgT a b c) [] [] [])) := by
    rw [c9]
    refine body_Ex2 (δ := [some (.ref g.length), some (.ref q), none]) (g' := St g (sgT a b c) [] [] []) rfl ?_ St_pre (by rw [St_len]; omega)
    show b_Spelling_look_at (callN (m + 3)) [some (.ref g.length), some (.ref q), none] (St g (sgT a b c) [] [] []) = _
    have it : isTy (St g (sgT a b c) [] [] []) .tuple (.ref q) = some false := by simp only [isTy, hq']; rfl
    unfold b_Spelling_look_at
    simp! [it]
  obtain ⟨g2, e2, p2⟩ := hlk
  have hsp : Ex2 g (callN (m + 5) 12 [.ref g.length, .ref q] (St g (sgT a b c) [] [] [])) := by
    rw [c12]
    refine body_Ex2 (δ := [some (.ref g.length), some (.ref q), none, none]) (g' := g2) rfl ?_ p2 (by rw [St_len]; omega)
    show b_Spelling_spell (callN (m + 4)) [some (.ref g.length), some (.ref q), none, none] (St g (sgT a b c) [] [] []) = _
    have ml : ∀ {es : Exs}, Ex.meth T (callN (m + 4)) (.loc 0) (Str.ofString "look_at") es [some (.ref g.length), some (.ref q), none, none] (St g (sgT a b c) [] [] []) = (es [some (.ref g.length), some (.ref q), none, none] (St g (sgT a b c) [] [] [])).bind fun ds g' => callN (m + 4) 9 (.ref g.length :: ds) g' := m_look rfl
    unfold b_Spelling_spell
    refine st_exc ?_
    simp! [ml, e2]
  obtain ⟨g3, e3, p3⟩ := hsp
  rw [c13]
  refine body_preX (δ := [some (sgT a b c), some (.ref q), some (.ref g.length), none]) (g' := g3) rfl ?_ p3
  show b_word_of (callN (m + 5)) [some (sgT a b c), some (.ref q), none, none] g = _
  unfold b_word_of
  simp! [hck, hnew, ms, e3]
end
end K44
end
section
set_option Elab.async false
set_option linter.all false
set_option maxRecDepth 100000
set_option maxHeartbeats 2000000
namespace P44
open DV PySem
theorem mapM_nn {f : D → Option (List Int)} {l : List D} (h : ∀ x ∈ l, ∀ w, f x = some w → ∀ s ∈ w, 0 ≤ s) {ws : List (List Int)} (hw : l.mapM f = some ws) : ∀ s ∈ ws.flatten, 0 ≤ s := mapM_all h ws hw
theorem fl_nn : ∀ {n : Nat} {d : D} {w : List Int}, Nr n d → flI n d = some w → ∀ s ∈ w, 0 ≤ s := by
  intro n
  induction n with
  | zero => intro d w h; cases h
  | succ n ih =>
    intro d w h hw
    cases h with
    | non => cases hw
    | two h1 h2 =>
      simp only [flI] at hw
      split at hw
      · cases hw; intro x hx; simp at hx; omega
      · cases hw
    | no3 => cases hw
    | three h1 h2 h3 h4 =>
      simp only [flI] at hw
      split at hw
      · simp only [Option.map_map, Option.map_eq_some_iff] at hw
        obtain ⟨ws, e, rfl⟩ := hw
        intro x hx
        simp only [Function.comp, List.mem_cons] at hx
        rcases hx with rfl | hx
        · exact h2
        · exact mapM_nn (fun y hy v hv => ih (h4 y hy) hv) e x hx
      · cases hw
    | four h1 h2 h3 h4 h5 =>
      simp only [flI] at hw
      split at hw
      · simp only [Option.map_map, Option.map_eq_some_iff] at hw
        obtain ⟨ws, e, rfl⟩ := hw
        intro x hx
        simp only [Function.comp, List.mem_cons, List.mem_append, List.cons_append, List.not_mem_nil, or_false] at hx
        rcases hx with rfl | hx | rfl
        · exact h2
        · exact mapM_nn (fun y hy v hv => ih (h5 y hy) hv) e x hx
        · exact h3
      · cases hw
theorem flL_nn {n : Nat} {l : List D} {w : List Int} (hl : ∀ x ∈ l, Nr n x) (h : flL n l = some w) : ∀ s ∈ w, 0 ≤ s := by
  unfold flL at h
  simp only [Option.map_eq_some_iff] at h
  obtain ⟨ws, h1, rfl⟩ := h
  exact mapM_nn (fun x hx v hv => fl_nn (hl x hx) hv) h1
end P44
namespace K44
open PySem DV P44
def b_ag (cl : Cl) : Sm :=
  (.seq (.asg (.name 8) (.call cl 24 (exCons (.loc 1) (exCons (.loc 5) (exCons (.call cl 19 (exCons (.loc 3) exNil)) exNil)))))
  (.seq (.asg (.name 9) (.call cl 25 (exCons (.loc 8) exNil)))
  (.seq (.asg (.name 10) (.and (.cmp .notN (.loc 9) (.cst .non)) (.and (.cmp .eq (.bi .len (exCons (.comp [11] (.of (.loc 9)) (.name 11) (.ex (.cmp .ge (.loc 11) (.call cl 19 (exCons (.loc 3) exNil)))) (.loc 11)) exNil)) (.cst (.int 0))) (.cmp .eq (.call cl 23 (exCons (.loc 3) (exCons (.loc 9) exNil))) (.loc 8)))))
  (.ite (.not (.ex (.call cl 17 (exCons (.call cl 21 (exCons (.cst (.fn 13)) (exCons (.loc 3) (exCons (.loc 8) exNil)))) (exCons (.ite (.ex (.loc 10)) (.loc 9) (.cst (.str (Str.ofString "word")))) exNil))))) (.ret (.cst (.bl false))) .skip))))
def b_turn (cl : Cl) : Sm :=
  (.seq (.asg (.name 3) (.call cl 18 (exCons (.loc 1) exNil)))
  (.seq (.asg (.name 4) (.call cl 20 (exCons (.loc 1) (exCons (.loc 3) (exCons (.cst (.int 14)) exNil)))))
  (.seq (.asg (.name 5) (.call cl 23 (exCons (.loc 3) (exCons (.loc 4) exNil))))
  (.seq (.ite (.or (.not (.ex (.call cl 17 (exCons (.call cl 21 (exCons (.cst (.fn 6)) (exCons (.loc 3) (exCons (.loc 4) exNil)))) (exCons (.loc 5) exNil))))) (.not (.ex (.call cl 17 (exCons (.call cl 21 (exCons (.cst (.fn 13)) (exCons (.loc 3) (exCons (.loc 5) exNil)))) (exCons (.loc 4) exNil)))))) (.ret (.cst (.bl false))) .skip)
  (.seq (.for (.range1 (.cst (.int 4))) (.name 6) (.seq (.asg (.name 8) (.call cl 24 (exCons (.loc 1) (exCons (.loc 5) (exCons (.call cl 19 (exCons (.loc 3) exNil)) exNil)))))
  (.seq (.asg (.name 9) (.call cl 25 (exCons (.loc 8) exNil)))
  (.seq (.asg (.name 10) (.and (.cmp .notN (.loc 9) (.cst .non)) (.and (.cmp .eq (.bi .len (exCons (.comp [11] (.of (.loc 9)) (.name 11) (.ex (.cmp .ge (.loc 11) (.call cl 19 (exCons (.loc 3) exNil)))) (.loc 11)) exNil)) (.cst (.int 0))) (.cmp .eq (.call cl 23 (exCons (.loc 3) (exCons (.loc 9) exNil))) (.loc 8)))))
  (.ite (.not (.ex (.call cl 17 (exCons (.call cl 21 (exCons (.cst (.fn 13)) (exCons (.loc 3) (exCons (.loc 8) exNil)))) (exCons (.ite (.ex (.loc 10)) (.loc 9) (.cst (.str (Str.ofString "word")))) exNil))))) (.ret (.cst (.bl false))) .skip)))))
  (.seq (.asg (.name 7) (.call cl 16 (exCons (.loc 1) (exCons (.lst (exCons (.cst .non) (exCons (.lst (exCons (.cst (.int 0)) exNil)) (exCons (.tup (exCons (.call cl 19 (exCons (.loc 3) exNil)) exNil)) (exCons (.tup (exCons (.cst (.bl true)) exNil)) (exCons (.bin .mul (.tup (exCons (.cst (.int 0)) exNil)) (.cst (.int 301))) exNil)))))) exNil))))
  (.ite (.ex (.cmp .ne (.tup (exCons (.call cl 21 (exCons (.cst (.fn 6)) (exCons (.loc 3) (exCons (.loc 7) exNil)))) (exCons (.call cl 21 (exCons (.cst (.fn 6)) (exCons (.cst .non) (exCons (.loc 7) exNil)))) (exCons (.call cl 21 (exCons (.cst (.fn 13)) (exCons (.loc 3) (exCons (.bi .list (exCons (.loc 5) exNil)) exNil)))) (exCons (.call cl 21 (exCons (.cst (.fn 13)) (exCons (.tup exNil) (exCons (.loc 5) exNil)))) exNil))))) (.tup (exCons (.cst (.str (Str.ofString "word"))) (exCons (.cst (.str (Str.ofString "system"))) (exCons (.cst (.str (Str.ofString "word"))) (exCons (.cst (.str (Str.ofString "system"))) exNil))))))) (.ret (.cst (.bl false))) .skip)))))))
/-- whether bent items are those of a word -/
def gd (a b c : Nat) (near : List D) : Bool := match flL 20 near with
  | none => false
  | some t => decide (t.filter (fun s => decide (((a + b + c : Nat) : Int) ≤ s)) = []) && decide (litems a b t = near)
section
variable {a b c : Nat} {g : G} {w : List Int} {x0 x1 x2 x6 x7 x8 x9 x10 x11 : Option D} {near : List D}
abbrev lEn (x0 x2 : Option D) (sg : D) (x4 x5 x6 x7 x8 x9 x10 x11 : Option D) : DV.Env := [x0, some (.ref 1), x2, some sg, x4, x5, x6, x7, x8, x9, x10, x11]
theorem goodE (near : List D) (hn : ∀ x ∈ near, Nr 20 x) (hlen : near.length ≤ 4000) (hcn : cns near ≤ 20) (h1 : a + b + c ≤ 9) {x4 x5 : Option D} :
    ∃ z x, (Ex.and (.cmp .notN (.loc 9) (.cst .non)) (.and (.cmp .eq (.bi .len (exCons (.comp [11] (.of (.loc 9)) (.name 11) (.ex (.cmp .ge (.loc 11) (.call (callN 114) 19 (exCons (.loc 3) exNil)))) (.loc 11)) exNil)) (.cst (.int 0))) (.cmp .eq (.call (callN 114) 23 (exCons (.loc 3) (exCons (.loc 9) exNil))) (.loc 8))))
      (lEn x0 x2 (sgT a b c) x4 x5 x6 x7 (some (.tup near)) (some (flD (flL 20 near))) x10 x11) g = .ok (.bl (gd a b c near)) (g ++ z) ∧ x = x11 := by
  unfold gd
  cases hf : flL 20 near with
  | none =>
    refine ⟨[], x11, ?_, rfl⟩
    rw [List.append_nil]
    show (Ex.and _ _) [x0, some (.ref 1), x2, some (sgT a b c), x4, x5, x6, x7, some (.tup near), some .non, x10, x11] g = _
    simp! []
  | some t =>
    have hL : (100000 : Nat) < LINE := by unfold LINE; decide
    have htl : t.length ≤ 20 := Nat.le_trans (flL_cn hf) hcn
    have hmany : ∀ g, callN 114 19 [sgT a b c] g = .ok (.int ((a + b + c : Nat) : Int)) g := fun g => manyOk2 113 g a b c
    have hc : Ex.comp [11] (.of (.loc 9)) (.name 11) (.ex (.cmp .ge (.loc 11) (.call (callN 114) 19 (exCons (.loc 3) exNil)))) (.loc 11) [x0, some (.ref 1), x2, some (sgT a b c), x4, x5, x6, x7, some (.tup near), some (.tup (t.map .int)), x10, x11] g = .ok (.ref g.length) (g ++ [.lst ((t.filter (fun s => decide (((a + b + c : Nat) : Int) ≤ s))).map .int)]) := by
      have h2 := comp_filter (it := .seq (t.map .int)) (xs := t.map .int) (tg := Tg.name 11) (c := .ex (.cmp .ge (.loc 11) (.call (callN 114) 19 (exCons (.loc 3) exNil)))) (e := .loc 11) (δ := [x0, some (.ref 1), x2, some (sgT a b c), x4, x5, x6, x7, some (.tup near), some (.tup (t.map .int)), x10, none]) (g := g)
        (δ' := fun x => [x0, some (.ref 1), x2, some (sgT a b c), x4, x5, x6, x7, some (.tup near), some (.tup (t.map .int)), x10, some x]) (fun x => match x with | .int s => decide (((a + b + c : Nat) : Int) ≤ s) | _ => false) id (fun _ => rfl) (fun _ _ => rfl) (fun x hx => by
          obtain ⟨s, _, rfl⟩ := List.mem_map.mp hx
          simp! [hmany]) (fun x _ _ => by simp! [id]) (by simp; omega)
      rw [x_comp (w := .seq (t.map .int)) (g1 := g) rfl h2, List.map_id, List.filter_map]
      rfl
    by_cases hall : t.filter (fun s => decide (((a + b + c : Nat) : Int) ≤ s)) = []
    · rw [hall] at hc
      have hln := len_ref g.length [] (g ++ [.lst []]) get_new
      have hval : ∀ s ∈ t, 0 ≤ s := flL_nn hn hf
      have hrec := litems_spec a b c 100 t (by omega) (by omega) 114 (by omega) (g ++ [.lst []])
      have n1 : nb (2 * 20 + 1) (.tup (litems a b t)) = true := nb_tup (Nat.le_trans (litems_len _ _ _ t (Nat.le_refl _)) (by omega)) fun x hx => Nr.nb (litems_Nr _ _ 20 t htl (by omega) hval x hx)
      have n2 : nb (2 * 20 + 1) (.tup near) = true := nb_tup (by omega) fun x hx => nb_mono (hn x hx).nb (by omega)
      have heq := eqG_nb (g ++ [.lst []]) n1 n2 (by decide) (by decide)
      refine ⟨[.lst []], x11, ?_, rfl⟩
      show (Ex.and _ _) [x0, some (.ref 1), x2, some (sgT a b c), x4, x5, x6, x7, some (.tup near), some (.tup (t.map .int)), x10, x11] g = _
      rw [List.map_nil] at hc
      simp! [hc, hln, hrec, heq, hall]
      simp
    · refine ⟨[.lst ((t.filter (fun s => decide (((a + b + c : Nat) : Int) ≤ s))).map .int)], x11, ?_, rfl⟩
      have hln := len_ref g.length _ (g ++ [.lst ((t.filter (fun s => decide (((a + b + c : Nat) : Int) ≤ s))).map .int)]) get_new
      have z : ¬ (((((t.filter (fun s => decide (((a + b + c : Nat) : Int) ≤ s))).map D.int).length : Nat) : Int) = 0) := by
        rw [List.length_map]
        have := List.length_pos_iff.mpr hall
        omega
      show (Ex.and _ _) [x0, some (.ref 1), x2, some (sgT a b c), x4, x5, x6, x7, some (.tup near), some (.tup (t.map .int)), x10, x11] g = _
      simp! [hc, hln, z, hall]
      simp [hall]
/-- one bend more -/
theorem ag_step (hT : TapeAt 1 0 g) (ha : a ≤ 2) (hb : b ≤ 2) (hc : c ≤ 1) (h1 : 1 ≤ a + b + c) (hw : IntsBelow ((a + b + c : Nat) : Int) w) (hwl : w.length ≤ 14) :
    ∃ y8 y9 y10 g', b_ag (callN 114) (lEn x0 x2 (sgT a b c) (some (.tup (w.map .int))) (some (.tup (litems a b w))) x6 x7 x8 x9 x10 x11) g = .ok (.nx (lEn x0 x2 (sgT a b c) (some (.tup (w.map .int))) (some (.tup (litems a b w))) x6 x7 y8 y9 y10 x11)) g' ∧ TapeAt 1 0 g' := by
  have hL : (100000 : Nat) < LINE := by unfold LINE; decide
  have hmany : ∀ g, callN 114 19 [sgT a b c] g = .ok (.int ((a + b + c : Nat) : Int)) g := fun g => manyOk2 113 g a b c
  have hnw := litems_Nw (a : Int) b 14 w hwl (by omega) fun s hs => (hw s hs).1
  have hil := litems_len (a : Int) b w.length w (Nat.le_refl _)
  have hisz := szs_items (a : Int) b w.length w (Nat.le_refl _)
  have hicn := cns_items (a : Int) b w.length w (Nat.le_refl _)
  obtain ⟨near, g1, e1, B, T1, l1⟩ := bent_spec 1 0 (M := ((a + b + c : Nat) : Int)) (by omega) (by omega) 14 114 (by omega) g (litems a b w) hT hnw (by omega)
  have b1 := B.len
  have b2 := B.sz
  have b3 := B.cn
  have hn : ∀ x ∈ near, Nr 20 x := fun x hx => (B.nr x hx).mono (by omega)
  have e2 := flat_spec 1000 20 near (by omega) hn (by omega) (by omega) 114 (by omega) g1
  obtain ⟨z, _, e3, _⟩ := goodE (x0 := x0) (x2 := x2) (x6 := x6) (x7 := x7) (x10 := x10) (x11 := x11) (g := g1) (a := a) (b := b) (c := c) (x4 := some (.tup (w.map .int))) (x5 := some (.tup (litems a b w))) near hn (by omega) (by omega) (by omega)
  have hval : ∀ v, spL (a : Int) b c 20 near = some v → litems a b v = near → gd a b c near = true ∧ flL 20 near = some v := fun v h he => by
    have hf := spL_fl h
    have hv := spL_valid h
    refine ⟨?_, hf⟩
    unfold gd
    rw [hf]
    simp only [Bool.and_eq_true, decide_eq_true_eq]
    refine ⟨List.filter_eq_nil_iff.mpr fun s hs => ?_, he⟩
    have := hv s hs
    simp; omega
  obtain ⟨W1, W2⟩ := wordof_spec (a := a) (b := b) (c := c) (n := 20) (g := g1 ++ z) (l := near) 107 (by omega) (by omega) (by omega) h1 (by omega) hn (by omega) (by omega) (by omega)
  have nT : tree 41 (.tup near) = true := tree_tup (by omega) fun x hx => nb_tree (hn x hx).nb
  -- what is told, what is due
  have told : ∃ d, callN 114 21 [.fn 13, sgT a b c, .tup near] (g1 ++ z) = .ok d (g1 ++ z) ∧ tree 60 d = true ∧ (if gd a b c near then flD (flL 20 near) else sW) = d := by
    cases hg : gd a b c near with
    | true =>
      have hg' := hg
      unfold gd at hg'
      cases hf : flL 20 near with
      | none => rw [hf] at hg'; cases hg'
      | some t =>
        rw [hf] at hg'
        simp only [Bool.and_eq_true, decide_eq_true_eq] at hg'
        have htl : t.length ≤ 20 := Nat.le_trans (flL_cn hf) (by omega)
        have h0 := flL_nn hn hf
        have hval2 : ∀ s ∈ t, 0 ≤ s ∧ s < (a : Int) + b + c := fun s hs => by
          have q := List.filter_eq_nil_iff.mp hg'.1 s hs
          have := h0 s hs
          simp at q
          omega
        have hsp := sp_items (a := a) (b := b) (c := c) (by omega) (by omega) 20 t htl hval2
        rw [hg'.2] at hsp
        refine ⟨.tup (t.map .int), lcall_ok (m := 113) (by decide) (W1 t hsp hg'.2) (by rw [D.low]; exact lows_ints _ t), tree_mono (tree_ints (by omega)) (by decide), rfl⟩
    | false =>
      refine ⟨sW, lcall_2 (m := 113) (by decide) (W2 fun v h he => ?_), tree_mono (n := 1) (by decide +kernel) (by decide), rfl⟩
      rw [(hval v h he).1] at hg
      cases hg
  obtain ⟨d, t1, t2, t3⟩ := told
  have sm := same 60 d t2 114 (by decide) (g1 ++ z)
  have hT2 : TapeAt 1 0 (g1 ++ z) := T1.tp.app z
  refine ⟨some (.tup near), some (flD (flL 20 near)), some (.bl (gd a b c near)), g1 ++ z, ?_, hT2⟩
  have s1 : (Sm.asg (.name 8) (.call (callN 114) 24 (exCons (.loc 1) (exCons (.loc 5) (exCons (.call (callN 114) 19 (exCons (.loc 3) exNil)) exNil))))) (lEn x0 x2 (sgT a b c) (some (.tup (w.map .int))) (some (.tup (litems a b w))) x6 x7 x8 x9 x10 x11) g = .ok (.nx (lEn x0 x2 (sgT a b c) (some (.tup (w.map .int))) (some (.tup (litems a b w))) x6 x7 (some (.tup near)) x9 x10 x11)) g1 := by
    show (Sm.asg _ _) [x0, some (.ref 1), x2, some (sgT a b c), some (.tup (w.map .int)), some (.tup (litems a b w)), x6, x7, x8, x9, x10, x11] g = _
    simp! [hmany, e1]
  have s2 : (Sm.asg (.name 9) (.call (callN 114) 25 (exCons (.loc 8) exNil))) (lEn x0 x2 (sgT a b c) (some (.tup (w.map .int))) (some (.tup (litems a b w))) x6 x7 (some (.tup near)) x9 x10 x11) g1 = .ok (.nx (lEn x0 x2 (sgT a b c) (some (.tup (w.map .int))) (some (.tup (litems a b w))) x6 x7 (some (.tup near)) (some (flD (flL 20 near))) x10 x11)) g1 := by
    show (Sm.asg _ _) [x0, some (.ref 1), x2, some (sgT a b c), some (.tup (w.map .int)), some (.tup (litems a b w)), x6, x7, some (.tup near), x9, x10, x11] g1 = _
    simp! [e2]
  unfold b_ag
  rw [st_nx s1, st_nx s2]
  refine (st_nx (st_set e3)).trans ?_
  show (Sm.ite _ _ _) [x0, some (.ref 1), x2, some (sgT a b c), some (.tup (w.map .int)), some (.tup (litems a b w)), x6, x7, some (.tup near), some (flD (flL 20 near)), some (.bl (gd a b c near)), x11] (g1 ++ z) = _
  have hite : Ex.ite (.ex (.loc 10)) (.loc 9) (.cst (.str (Str.ofString "word"))) [x0, some (.ref 1), x2, some (sgT a b c), some (.tup (w.map .int)), some (.tup (litems a b w)), x6, x7, some (.tup near), some (flD (flL 20 near)), some (.bl (gd a b c near)), x11] (g1 ++ z) = .ok d (g1 ++ z) := by
    rw [← t3]
    cases gd a b c near <;> rfl
  have hcond : Te.not (.ex (.call (callN 114) 17 (exCons (.call (callN 114) 21 (exCons (.cst (.fn 13)) (exCons (.loc 3) (exCons (.loc 8) exNil)))) (exCons (.ite (.ex (.loc 10)) (.loc 9) (.cst (.str (Str.ofString "word")))) exNil)))) [x0, some (.ref 1), x2, some (sgT a b c), some (.tup (w.map .int)), some (.tup (litems a b w)), x6, x7, some (.tup near), some (flD (flL 20 near)), some (.bl (gd a b c near)), x11] (g1 ++ z) = .ok false (g1 ++ z) := by
    have c1 : exCons (.call (callN 114) 21 (exCons (.cst (.fn 13)) (exCons (.loc 3) (exCons (.loc 8) exNil)))) (exCons (.ite (.ex (.loc 10)) (.loc 9) (.cst (.str (Str.ofString "word")))) exNil) [x0, some (.ref 1), x2, some (sgT a b c), some (.tup (w.map .int)), some (.tup (litems a b w)), x6, x7, some (.tup near), some (flD (flL 20 near)), some (.bl (gd a b c near)), x11] (g1 ++ z) = .ok [d, d] (g1 ++ z) :=
      xs_cons ((x_call (ds := [.fn 13, sgT a b c, .tup near]) (g1 := g1 ++ z) rfl).trans t1) (xs_cons hite rfl)
    exact t_not (t_ex ((x_call c1).trans sm))
  exact st_no hcond
end
end K44
end
section
set_option Elab.async false
set_option linter.all false
set_option maxRecDepth 100000
set_option maxHeartbeats 2000000
namespace K44
open PySem DV P44
theorem list_tup (xs : List D) (g : G) : bi .list [.tup xs] g = .ok (.ref g.length) (g ++ [.lst xs]) := rfl
section
variable {a b c : Nat} {g : G} {w : List Int} {x0 x2 x3 x4 x5 x6 x7 x8 x9 x10 x11 : Option D}
def z301 : D := .tup (List.replicate 301 [D.int 0]).flatten
def odds (q M : Nat) : List D := [.non, .ref q, .tup [.int M], .tup [.bl true], z301]
theorem odd_no (m : Nat) {q : Nat} (hq : g[q]? = some (.lst [.int 0])) {y : D} (hy : y ∈ odds q (a + b + c)) : callN (m + 2) 3 [sgT a b c, y] g = .ok (.bl false) g := by
  simp only [odds, List.mem_cons, List.not_mem_nil, or_false] at hy
  rcases hy with rfl | rfl | rfl | rfl | rfl
  · exact isword_no m g _ _ rfl
  · exact isword_no m g _ _ (by simp only [noTup, isTy, hq]; rfl)
  · rw [isword m 1 g a b c _ rfl]
    congr 2
    simp [isInt]
    omega
  · rw [isword m 1 g a b c _ rfl]
    congr 2
  · unfold z301
    rw [isword m 1 g a b c _ (by decide +kernel)]
    congr 2
theorem turn_step (hT : TapeAt 1 0 g) :
    ∃ y3 y4 y5 y6 y7 y8 y9 y10 y11 g', b_turn (callN 114) [x0, some (.ref 1), x2, x3, x4, x5, x6, x7, x8, x9, x10, x11] g = .ok (.nx [x0, some (.ref 1), x2, y3, y4, y5, y6, y7, y8, y9, y10, y11]) g' ∧ TapeAt 1 0 g' := by
  have hL : (100000 : Nat) < LINE := by unfold LINE; decide
  obtain ⟨s, g1, hs, ⟨a, b, c, rfl, a2, b2, c1, s1⟩, T1, l1⟩ := signs_spec (cl := callN 113) (i := 16) (pickOk 111 1 0) hT
  have hs' : callN 114 18 [.ref 1] g = .ok (sgT a b c) g1 := hs
  obtain ⟨w, g2, hw, hwB, hwl, T2, l2⟩ := word_spec (cl := callN 113) (dr := 15) (mn := 19) (a := a) (b := b) (cc := c) (most := 14) (drawOk 112 1 0) (fun g => manyOk2 112 g a b c) T1.tp s1 (by omega) (by decide)
  have hw' : callN 114 20 [.ref 1, sgT a b c, .int 14] g1 = .ok (.tup (w.map .int)) g2 := hw
  have hi := litems_spec a b c 100 w (by omega) (by omega) 114 (by omega) g2
  have hmany : ∀ g, callN 114 19 [sgT a b c] g = .ok (.int ((a + b + c : Nat) : Int)) g := fun g => manyOk2 113 g a b c
  have hil := litems_len (a : Int) b w.length w (Nat.le_refl _)
  have hisz := szs_items (a : Int) b w.length w (Nat.le_refl _)
  have hicn := cns_items (a : Int) b w.length w (Nat.le_refl _)
  have hv : ∀ s ∈ w, 0 ≤ s ∧ s < (a : Int) + b + c := fun s hs => by have := hwB s hs; omega
  have hnr := litems_Nr (a : Int) b 20 w (by omega) (by omega) fun s hs => (hv s hs).1
  have hsp := sp_items (a := (a : Int)) (b := b) (c := c) (by omega) (by omega) 20 w (by omega) hv
  have L6 : callN 114 21 [.fn 6, sgT a b c, .tup (w.map .int)] g2 = .ok (.tup (litems a b w)) g2 := lcall_ok (m := 113) (by decide) (items_spec 109 g2 (by omega) (by omega) (by omega) s1 hwB (by omega)) (by rw [D.low]; exact litems_low _ _ _ w (by omega))
  have L13 : callN 114 21 [.fn 13, sgT a b c, .tup (litems a b w)] g2 = .ok (.tup (w.map .int)) g2 := lcall_ok (m := 113) (by decide) ((wordof_spec (n := 20) 107 (by omega) (by omega) (by omega) s1 (by omega) hnr (by omega) (by omega) (by omega)).1 w hsp rfl) (by rw [D.low]; exact lows_ints _ w)
  have S1 := same 60 (.tup (litems a b w)) (tree_mono (tree_tup (n := 40) (by omega) fun x hx => nb_tree (hnr x hx).nb) (by decide)) 114 (by decide) g2
  have S2 := same 60 (.tup (w.map .int)) (tree_mono (tree_ints (by omega)) (by decide)) 114 (by decide) g2
  -- the bends
  have loop : ∃ y6 y8 y9 y10 g', Sm.for (.range1 (.cst (.int 4))) (.name 6) (b_ag (callN 114)) (lEn x0 x2 (sgT a b c) (some (.tup (w.map .int))) (some (.tup (litems a b w))) x6 x7 x8 x9 x10 x11) g2 = .ok (.nx (lEn x0 x2 (sgT a b c) (some (.tup (w.map .int))) (some (.tup (litems a b w))) y6 x7 y8 y9 y10 x11)) g' ∧ TapeAt 1 0 g' := by
    rw [st_for (w := .seq (rangeD 0 ((4 : Nat) : Int))) (g1 := g2) (range1_it rfl (by decide))]
    refine for_steps (xs := rangeD 0 ((4 : Nat) : Int)) (P := fun i δ g' => TapeAt 1 0 g' ∧ ∃ y6 y8 y9 y10, δ = lEn x0 x2 (sgT a b c) (some (.tup (w.map .int))) (some (.tup (litems a b w))) y6 x7 y8 y9 y10 x11)
      (Q := fun r => ∃ y6 y8 y9 y10 g', r = .ok (.nx (lEn x0 x2 (sgT a b c) (some (.tup (w.map .int))) (some (.tup (litems a b w))) y6 x7 y8 y9 y10 x11)) g' ∧ TapeAt 1 0 g')
      (fun _ _ _ _ => rfl) ?_ ?_ fuel 0 _ _ ⟨T2.tp, x6, x8, x9, x10, rfl⟩ (Nat.zero_le _) (by rw [rangeD_len]; unfold fuel; omega)
    · rintro i x δ g3 hx ⟨hT3, y6, y8, y9, y10, rfl⟩
      obtain ⟨z8, z9, z10, g4, e, hT4⟩ := ag_step (x0 := x0) (x2 := x2) (x6 := some x) (x7 := x7) (x8 := y8) (x9 := y9) (x10 := y10) (x11 := x11) hT3 a2 b2 c1 s1 hwB hwl
      exact ⟨_, g3, rfl, .inl ⟨_, g4, .inl e, hT4, some x, z8, z9, z10, rfl⟩⟩
    · rintro δ g3 ⟨hT3, y6, y8, y9, y10, rfl⟩
      exact ⟨y6, y8, y9, y10, g3, rfl, hT3⟩
  obtain ⟨y6, y8, y9, y10, g3, e3, hT3⟩ := loop
  -- the odd one
  have hT4 : TapeAt 1 0 (g3 ++ [.lst [.int 0]] ++ [.lst (odds g3.length (a + b + c))]) := (hT3.app _).app _
  have hlt := hT3.lt
  obtain ⟨y, g5, e5, hy, T5, l5⟩ := pickOk 112 1 0 (g3 ++ [.lst [.int 0]] ++ [.lst (odds g3.length (a + b + c))]) (g3.length + 1) (odds g3.length (a + b + c)) hT4 (by
    have := get_new (g := g3 ++ [O.lst [.int 0]]) (o := .lst (odds g3.length (a + b + c)))
    rwa [List.length_append] at this) (by omega) (by omega) (by simp [odds]) (by simp [odds]) (fun y hy => by
      simp only [odds, List.mem_cons, List.not_mem_nil, or_false] at hy
      rcases hy with rfl | rfl | rfl | rfl | rfl
      · rfl
      · simp [D.low]
      · rfl
      · rfl
      · exact tree_low (d := z301) _ (n := 2) (by decide +kernel))
  have hq : g5[g3.length]? = some (.lst [.int 0]) := by
    rw [T5.old g3.length (by simp) (by omega) (by omega)]
    exact get_push get_new
  -- what is refused
  have R1 : callN 114 21 [.fn 6, sgT a b c, y] g5 = .ok sW g5 := lcall_2 (m := 113) (by decide) (items_no 109 (by omega) (by omega) (by omega) s1 (odd_no 109 hq hy))
  have R2 : callN 114 21 [.fn 6, .non, y] g5 = .ok sS g5 := lcall_1 (m := 113) (by decide) (items_sys 110 fun g => sg_non 110)
  have R3 : callN 114 21 [.fn 13, sgT a b c, .ref g5.length] (g5 ++ [.lst (litems a b w)]) = .ok sW (g5 ++ [.lst (litems a b w)]) := lcall_2 (m := 113) (by decide) (wordof_lst 107 (by omega) (by omega) (by omega) s1 get_new)
  have R4 : callN 114 21 [.fn 13, .tup [], .tup (litems a b w)] (g5 ++ [.lst (litems a b w)]) = .ok sS (g5 ++ [.lst (litems a b w)]) := lcall_1 (m := 113) (by decide) (wordof_sys 110 fun g => sg_emp 110)
  have nbS : nb 2 (.tup [sW, sS, sW, sS]) = true := by decide +kernel
  have hne := neG_nb (g5 ++ [.lst (litems a b w)]) nbS nbS (by decide) (by decide)
  have hmul : ∀ g : G, binop .mul (.tup [.int 0]) (.int 301) g = .ok z301 g := fun g => by
    simp only [binop]
    rw [if_pos (by decide)]
    rfl
  refine ⟨some (sgT a b c), some (.tup (w.map .int)), some (.tup (litems a b w)), y6, some y, y8, y9, y10, x11, g5 ++ [.lst (litems a b w)], ?_, T5.tp.app _⟩
  unfold b_turn
  rw [st_nx (δ' := [x0, some (.ref 1), x2, some (sgT a b c), x4, x5, x6, x7, x8, x9, x10, x11]) (g1 := g1) (by simp! [hs'])]
  rw [st_nx (δ' := [x0, some (.ref 1), x2, some (sgT a b c), some (.tup (w.map .int)), x5, x6, x7, x8, x9, x10, x11]) (g1 := g2) (by simp! [hw'])]
  rw [st_nx (δ' := [x0, some (.ref 1), x2, some (sgT a b c), some (.tup (w.map .int)), some (.tup (litems a b w)), x6, x7, x8, x9, x10, x11]) (g1 := g2) (by simp! [hi])]
  rw [st_nx (δ' := [x0, some (.ref 1), x2, some (sgT a b c), some (.tup (w.map .int)), some (.tup (litems a b w)), x6, x7, x8, x9, x10, x11]) (g1 := g2) (by simp! [L6, S1, L13, S2])]
  refine (st_nx e3).trans ?_
  have s7 : (Sm.asg (.name 7) (.call (callN 114) 16 (exCons (.loc 1) (exCons (.lst (exCons (.cst .non) (exCons (.lst (exCons (.cst (.int 0)) exNil)) (exCons (.tup (exCons (.call (callN 114) 19 (exCons (.loc 3) exNil)) exNil)) (exCons (.tup (exCons (.cst (.bl true)) exNil)) (exCons (.bin .mul (.tup (exCons (.cst (.int 0)) exNil)) (.cst (.int 301))) exNil)))))) exNil)))) [x0, some (.ref 1), x2, some (sgT a b c), some (.tup (w.map .int)), some (.tup (litems a b w)), y6, x7, y8, y9, y10, x11] g3 = .ok (.nx [x0, some (.ref 1), x2, some (sgT a b c), some (.tup (w.map .int)), some (.tup (litems a b w)), y6, some y, y8, y9, y10, x11]) g5 := by
    have l4 : (g3 ++ [O.lst [.int 0]]).length = g3.length + 1 := by simp
    have e5 : callN 114 16 [.ref 1, .ref (g3.length + 1)] (g3 ++ [.lst [.int 0]] ++ [.lst (odds g3.length (a + b + c))]) = .ok y g5 := e5
    unfold odds at e5
    simp! [hmany, hmul, l4, e5]
  refine (st_nx s7).trans ?_
  simp! [R1, R2, list_tup, R3, R4, hne]
theorem law_true (ns : List Int) (hl : ns.length ≤ 63) : ∃ g, callN 115 26 [.rol ns] [] = .ok (.bl true) g := by
  obtain ⟨gt, ht1, ht2, ht3⟩ := tape_spec (cl := callN 113) hl
  have ht : callN 114 14 [.rol ns] [] = .ok (.ref 1) gt := ht1
  have loop : ∃ δ g, Sm.for (.range1 (.cst (.int 4))) (.name 2) (b_turn (callN 114)) [some (.rol ns), some (.ref 1), none, none, none, none, none, none, none, none, none, none] gt = .ok (.nx δ) g := by
    rw [st_for (w := .seq (rangeD 0 ((4 : Nat) : Int))) (g1 := gt) (range1_it rfl (by decide))]
    refine for_steps (xs := rangeD 0 ((4 : Nat) : Int)) (P := fun i δ g' => TapeAt 1 0 g' ∧ ∃ y2 y3 y4 y5 y6 y7 y8 y9 y10 y11, δ = [some (.rol ns), some (.ref 1), y2, y3, y4, y5, y6, y7, y8, y9, y10, y11])
      (Q := fun r => ∃ δ g, r = .ok (.nx δ) g)
      (fun _ _ _ _ => rfl) ?_ ?_ fuel 0 _ _ ⟨ht2, _, _, _, _, _, _, _, _, _, _, rfl⟩ (Nat.zero_le _) (by rw [rangeD_len]; unfold fuel; omega)
    · rintro i x δ g3 hx ⟨hT3, y2, y3, y4, y5, y6, y7, y8, y9, y10, y11, rfl⟩
      obtain ⟨z3, z4, z5, z6, z7, z8, z9, z10, z11, g4, e, hT4⟩ := turn_step (x0 := some (.rol ns)) (x2 := some x) (x3 := y3) (x4 := y4) (x5 := y5) (x6 := y6) (x7 := y7) (x8 := y8) (x9 := y9) (x10 := y10) (x11 := y11) hT3
      exact ⟨_, g3, rfl, .inl ⟨_, g4, .inl e, hT4, _, _, _, _, _, _, _, _, _, _, rfl⟩⟩
    · rintro δ g3 ⟨hT3, _⟩
      exact ⟨δ, g3, rfl⟩
  obtain ⟨δ, g, e⟩ := loop
  rw [c26]
  have key : b_law (callN 114) [some (.rol ns), none, none, none, none, none, none, none, none, none, none, none] [] = .ok (.rt (.bl true)) g := by
    unfold b_law
    rw [st_nx (δ' := [some (.rol ns), some (.ref 1), none, none, none, none, none, none, none, none, none, none]) (g1 := gt) (by simp! [ht])]
    refine (st_nx e).trans ?_
    simp! []
  refine ⟨_, body_rt (t := g) rfl key rfl⟩
end
end K44
end
open PySem PySem.W PyProof.Rows in
set_option maxRecDepth 100000 in
set_option maxHeartbeats 0 in
theorem PySem.Challenge.cw_stackstead_k44_words_as_trees_holds : PySem.Challenge.rw_stackstead_k44_words_as_trees.Holds := by
  w_on; o_law; k_head; (case hw => w_witness2)
  k_fill
  refine DV.walkDV (l := PySem.Challenge.rw_stackstead_k44_words_as_trees) rfl rfl (fun w h Y => PySem.W.kIn_of Y) ?F
  case F =>
    intro w mg fa h KX G hmg
    refine' K44.all_mk KX G hmg (fun ns h _ => K44.law_true ns h) ?aC0 ?aE0 ?aE1 ?aE2 ?a0 ?l0 ?c0 ?k0 ?a1 ?l1 ?c1 ?k1 ?a2 ?l2 ?c2 ?k2 ?a3 ?l3 ?c3 ?k3 ?a4 ?l4 ?c4 ?k4 ?a5 ?l5 ?c5 ?k5 ?a6 ?l6 ?c6 ?k6 ?a7 ?i7 ?l7 ?c7 ?k7 ?a8 ?i8 ?l8 ?c8 ?k8 ?a9 ?i9 ?l9 ?c9 ?k9 ?a10 ?i10 ?l10 ?c10 ?k10 ?a11 ?i11 ?l11 ?c11 ?k11 ?a12 ?i12 ?l12 ?c12 ?k12 ?a13 ?l13 ?c13 ?k13 ?a14 ?l14 ?c14 ?k14 ?a15 ?l15 ?c15 ?k15 ?a16 ?l16 ?c16 ?k16 ?a17 ?l17 ?c17 ?k17 ?a18 ?l18 ?c18 ?k18 ?a19 ?l19 ?c19 ?k19 ?a20 ?l20 ?c20 ?k20 ?a21 ?l21 ?c21 ?k21 ?a22 ?l22 ?c22 ?k22 ?a23 ?l23 ?c23 ?k23 ?a24 ?l24 ?c24 ?k24 ?a25 ?l25 ?c25 ?k25 ?a26 ?l26 ?c26 ?k26 ?pg0 ?hd0 ?po0 ?sa0 ?mk0 ?kc0 ?n0_signs ?n0_word ?n0_waiting ?xE0 ?kE0 ?bE0 ?tE0 ?xE1 ?kE1 ?bE1 ?tE1 ?xE2 ?kE2 ?bE2 ?tE2 ?iE1 ?sE0_1 ?sE1_1 ?sE2_1 ?iE2 ?sE0_2 ?sE1_2 ?sE2_2 ?t__MOST_WORD ?t__MOST_KIND ?z_len ?z_int ?z_abs ?z_all ?z_any ?z_tuple ?z_list ?z_max ?z_min ?z_range ?z_isinstance ?z_zip ?z_enumerate ?z_sorted ?z_dict ?z_sum ?z_bool ?z_str ?z_repr ?z_set
    (case aC0 => k_is)
    (case aE0 => k_is)
    (case aE1 => k_is)
    (case aE2 => k_is)
    (case a0 => k_is)
    (case l0 => k_is)
    (case c0 => k_is)
    (case k0 => k_is)
    (case a1 => k_is)
    (case l1 => k_is)
    (case c1 => k_is)
    (case k1 => k_is)
    (case a2 => k_is)
    (case l2 => k_is)
    (case c2 => k_is)
    (case k2 => k_is)
    (case a3 => k_is)
    (case l3 => k_is)
    (case c3 => k_is)
    (case k3 => k_is)
    (case a4 => k_is)
    (case l4 => k_is)
    (case c4 => k_is)
    (case k4 => k_is)
    (case a5 => k_is)
    (case l5 => k_is)
    (case c5 => k_is)
    (case k5 => k_is)
    (case a6 => k_is)
    (case l6 => k_is)
    (case c6 => k_is)
    (case k6 => k_is)
    (case a7 => k_is)
    (case i7 => k_is)
    (case l7 => k_is)
    (case c7 => k_is)
    (case k7 => k_is)
    (case a8 => k_is)
    (case i8 => k_is)
    (case l8 => k_is)
    (case c8 => k_is)
    (case k8 => k_is)
    (case a9 => k_is)
    (case i9 => k_is)
    (case l9 => k_is)
    (case c9 => k_is)
    (case k9 => k_is)
    (case a10 => k_is)
    (case i10 => k_is)
    (case l10 => k_is)
    (case c10 => k_is)
    (case k10 => k_is)
    (case a11 => k_is)
    (case i11 => k_is)
    (case l11 => k_is)
    (case c11 => k_is)
    (case k11 => k_is)
    (case a12 => k_is)
    (case i12 => k_is)
    (case l12 => k_is)
    (case c12 => k_is)
    (case k12 => k_is)
    (case a13 => k_is)
    (case l13 => k_is)
    (case c13 => k_is)
    (case k13 => k_is)
    (case a14 => k_is)
    (case l14 => k_is)
    (case c14 => k_is)
    (case k14 => k_is)
    (case a15 => k_is)
    (case l15 => k_is)
    (case c15 => k_is)
    (case k15 => k_is)
    (case a16 => k_is)
    (case l16 => k_is)
    (case c16 => k_is)
    (case k16 => k_is)
    (case a17 => k_is)
    (case l17 => k_is)
    (case c17 => k_is)
    (case k17 => k_is)
    (case a18 => k_is)
    (case l18 => k_is)
    (case c18 => k_is)
    (case k18 => k_is)
    (case a19 => k_is)
    (case l19 => k_is)
    (case c19 => k_is)
    (case k19 => k_is)
    (case a20 => k_is)
    (case l20 => k_is)
    (case c20 => k_is)
    (case k20 => k_is)
    (case a21 => k_is)
    (case l21 => k_is)
    (case c21 => k_is)
    (case k21 => k_is)
    (case a22 => k_is)
    (case l22 => k_is)
    (case c22 => k_is)
    (case k22 => k_is)
    (case a23 => k_is)
    (case l23 => k_is)
    (case c23 => k_is)
    (case k23 => k_is)
    (case a24 => k_is)
    (case l24 => k_is)
    (case c24 => k_is)
    (case k24 => k_is)
    (case a25 => k_is)
    (case l25 => k_is)
    (case c25 => k_is)
    (case k25 => k_is)
    (case a26 => k_is)
    (case l26 => k_is)
    (case c26 => k_is)
    (case k26 => k_is)
    (case pg0 => k_is)
    (case hd0 => k_is)
    (case po0 => k_is)
    (case sa0 => k_is)
    (case mk0 => k_is)
    (case kc0 => k_is)
    (case n0_signs => k_is)
    (case n0_word => k_is)
    (case n0_waiting => k_is)
    (case xE0 => k_exc)
    (case kE0 => k_is)
    (case bE0 => k_is)
    (case tE0 => k_is)
    (case xE1 => k_exc)
    (case kE1 => k_is)
    (case bE1 => k_is)
    (case tE1 => k_is)
    (case xE2 => k_exc)
    (case kE2 => k_is)
    (case bE2 => k_is)
    (case tE2 => k_is)
    (case iE1 => k_is)
    (case sE0_1 => k_is)
    (case sE1_1 => first | rfl | k_is)
    (case sE2_1 => k_is)
    (case iE2 => k_is)
    (case sE0_2 => k_is)
    (case sE1_2 => k_is)
    (case sE2_2 => first | rfl | k_is)
    (case t__MOST_WORD => k_is)
    (case t__MOST_KIND => k_is)
    (case z_len => k_is)
    (case z_int => k_is)
    (case z_abs => k_is)
    (case z_all => k_is)
    (case z_any => k_is)
    (case z_tuple => k_is)
    (case z_list => k_is)
    (case z_max => k_is)
    (case z_min => k_is)
    (case z_range => k_is)
    (case z_isinstance => k_is)
    (case z_zip => k_is)
    (case z_enumerate => k_is)
    (case z_sorted => k_is)
    (case z_dict => k_is)
    (case z_sum => k_is)
    (case z_bool => k_is)
    (case z_str => k_is)
    (case z_repr => k_is)
    (case z_set => k_is)

