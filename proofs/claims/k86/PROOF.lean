import PyProof.Rows.All
import Wide.All
import OpenK.AllK
import Wide.FinOn
import HandS.ForMost
import HandS.ForExc
import HandS.Defaults
import HandS.Wide
import HandS.WideBits
import HandS.TupAny
import HandS.TupMul
import HandS.Style
import HandS.IsInst
import HandS.CallSlots
import HandS.Flow
import HandS.RevRange
import HandS.Zip
import HandS.HeadWalk
import HandS.DictTup
import HandS.ListItems
import HandS.Rev
import HandS.Codes
import HandS.Head0
import HandS.Head1
import HandS.Head2
import HandS.HeadEnd
import HandS.HeadHook1
import HandS.HeadHook2
import HandS.EndBits
import PySem.Challenge.RW_splitseed_k86_leaning_and_fair
set_option Elab.async false
set_option linter.all false
set_option maxRecDepth 100000
section
set_option Elab.async false
set_option maxRecDepth 100000
/-! A small language of our own: its values, its store, its evaluator. No model here. -/
namespace Mp
open PySem

inductive W where
  | non
  | bl (b : Bool)
  | int (i : Int)
  | str (x : Str)
  | ref (n : Nat)
  | tup (ws : List W)

mutual
def W.beq : W → W → Bool
  | .non, .non => true
  | .bl a, .bl b => a == b
  | .int a, .int b => decide (a = b)
  | .str a, .str b => decide (a = b)
  | .ref a, .ref b => decide (a = b)
  | .tup a, .tup b => W.beqs a b
  | _, _ => false
def W.beqs : List W → List W → Bool
  | [], [] => true
  | x :: xs, y :: ys => W.beq x y && W.beqs xs ys
  | _, _ => false
end
mutual
theorem W.beq_iff : ∀ (a b : W), W.beq a b = true ↔ a = b
  | .non, b => by cases b <;> simp [W.beq]
  | .bl x, b => by cases b <;> simp [W.beq]
  | .int x, b => by cases b <;> simp [W.beq]
  | .str x, b => by cases b <;> simp [W.beq]
  | .ref x, b => by cases b <;> simp [W.beq]
  | .tup x, b => by
    cases b with
    | tup y => rw [W.beq, W.beqs_iff x y]; simp
    | _ => simp [W.beq]
theorem W.beqs_iff : ∀ (a b : List W), W.beqs a b = true ↔ a = b
  | [], b => by cases b <;> simp [W.beqs]
  | x :: xs, b => by
    cases b with
    | nil => simp [W.beqs]
    | cons y ys => rw [W.beqs, Bool.and_eq_true, W.beq_iff x y, W.beqs_iff xs ys]; simp
end
instance : DecidableEq W := fun a b => decidable_of_iff _ (W.beq_iff a b)

/-- what stands at a place of the store: a list; a list that is only read; an instance; a dict whose keys are tuples | ints and texts -/
inductive Ob where
  | lst (ws : List W)
  | fro (ws : List W)
  | ins (c : Nat) (fs : List (Nat × W))
  | dT (kvs : List (W × W))
  | dK (kvs : List (W × W))
  deriving DecidableEq

abbrev Store := List Ob
abbrev Rho := List (Option W)

inductive R (α : Type) where
  | ok (a : α) (S : Store)
  | exn (c : Nat) (fs : List (Nat × W)) (S : Store)
  | bad
def R.bind {α β : Type} (r : R α) (f : α → Store → R β) : R β := match r with
  | .ok a S => f a S
  | .exn c fs S => .exn c fs S
  | .bad => .bad
@[simp] theorem R.bind_ok {α β : Type} (a : α) (S : Store) (f : α → Store → R β) : (R.ok a S).bind f = f a S := rfl
@[simp] theorem R.bind_exn {α β : Type} (c : Nat) (fs : List (Nat × W)) (S : Store) (f : α → Store → R β) : (R.exn c fs S : R α).bind f = .exn c fs S := rfl
@[simp] theorem R.bind_bad {α β : Type} (f : α → Store → R β) : (R.bad : R α).bind f = .bad := rfl

/-- the longest list, text that is made -/
def lim : Nat := 1000000
/-- factors and divisors lie below -/
def big : Nat := 2 ^ 4000

/-! ### what an operation gives -/
inductive Bop where
  | add | sub | mul | fdiv | mod | pow | shl | shr | band | bor | bxor
  deriving DecidableEq
inductive Cop where
  | eq | ne | lt | le | gt | ge | is | isnot | isin | notin
  deriving DecidableEq

def listAt (S : Store) (n : Nat) : Option (List W) := match S[n]? with
  | some (.lst ws) => some ws
  | some (.fro ws) => some ws
  | _ => none
def newLst (ws : List W) (S : Store) : R W := if ws.length ≤ lim then .ok (.ref S.length) (S ++ [.lst ws]) else .bad
def newTup (ws : List W) (S : Store) : R W := if ws.length ≤ lim then .ok (.tup ws) S else .bad
def guardR {α : Type} (c : Prop) [Decidable c] (r : R α) : R α := if c then r else .bad
@[simp] theorem guardR_pos {α : Type} {c : Prop} [Decidable c] (h : c) (r : R α) : guardR c r = r := if_pos h
def smallPow (i j : Int) : Prop := 0 ≤ j ∧ j ≤ 100000 ∧ i.natAbs < 2 ^ 64
instance (i j : Int) : Decidable (smallPow i j) := by unfold smallPow; infer_instance

def bin : Bop → W → W → Store → R W
  | .add, .int i, .int j, S => .ok (.int (i + j)) S
  | .add, .str a, .str b, S => guardR (a.length + b.length ≤ lim) (.ok (.str (a ++ b)) S)
  | .add, .tup a, .tup b, S => guardR (a.length + b.length ≤ lim) (.ok (.tup (a ++ b)) S)
  | .add, .ref a, .ref b, S => match S[a]?, S[b]? with
    | some (.lst xs), some (.lst ys) => guardR (xs.length + ys.length ≤ lim) (.ok (.ref S.length) (S ++ [.lst (xs ++ ys)]))
    | _, _ => .bad
  | .sub, .int i, .int j, S => .ok (.int (i - j)) S
  | .mul, .int i, .int j, S => guardR (i.natAbs < big ∧ j.natAbs < big) (.ok (.int (i * j)) S)
  | .mul, .ref a, .int j, S => match S[a]? with
    | some (.lst xs) => guardR (-(2 ^ 62) ≤ j ∧ j < 2 ^ 62 ∧ xs.length * j.toNat ≤ lim) (.ok (.ref S.length) (S ++ [.lst (List.replicate j.toNat xs).flatten]))
    | _ => .bad
  | .fdiv, .int i, .int j, S => guardR (0 < j ∧ j.natAbs < big) (.ok (.int (i / j)) S)
  | .mod, .int i, .int j, S => guardR (0 < j) (.ok (.int (i % j)) S)
  | .pow, .int i, .int j, S => guardR (smallPow i j) (.ok (.int (i ^ j.toNat)) S)
  | .shl, .int i, .int j, S => guardR (0 ≤ j ∧ j ≤ 100000 ∧ i.natAbs < big) (.ok (.int (i * 2 ^ j.toNat)) S)
  | .shr, .int i, .int j, S => guardR (0 ≤ j) (.ok (.int (i / 2 ^ j.toNat)) S)
  | .band, .int i, .int j, S => .ok (.int (Builtin.bitAnd i j)) S
  | .bor, .int i, .int j, S => .ok (.int (Builtin.bitOr i j)) S
  | .bxor, .int i, .int j, S => .ok (.int (Builtin.bitXor i j)) S
  | _, _, _, _ => .bad

/-- plain data, to a depth -/
def toD : Nat → Store → W → Option PyData
  | 0, _, _ => none
  | _ + 1, _, .non => some .none
  | _ + 1, _, .bl b => some (.bool b)
  | _ + 1, _, .int i => some (.int i)
  | _ + 1, _, .str x => some (.str x)
  | n + 1, S, .tup ws => (ws.mapM (toD n S)).map .tuple
  | n + 1, S, .ref a => (listAt S a).bind fun ws => (ws.mapM (toD n S)).map .list
def eqW (S : Store) : W → W → Option Bool
  | .non, .non => some true
  | .bl a, .bl b => some (a == b)
  | .int a, .int b => some (decide (a = b))
  | .str a, .str b => some (decide (a = b))
  | x, y => match toD 12 S x, toD 12 S y with
    | some d, some e => if SeqAt.shaped d = true ∧ SeqAt.shaped e = true then some (PyData.eqv d e) else none
    | _, _ => none
def truth (S : Store) : W → Option Bool
  | .non => some false
  | .bl b => some b
  | .int i => some (i != 0)
  | .str x => if x.length ≤ lim then some (x.length != 0) else none
  | .tup ws => some (!ws.isEmpty)
  | .ref a => match S[a]? with
    | some (.lst ws) => some (!ws.isEmpty)
    | some (.fro ws) => some (!ws.isEmpty)
    | _ => none
def flatW : W → Bool
  | .non | .bl _ | .int _ | .str _ => true
  | _ => false
/-- == of flat ones -/
def eqF : W → W → Bool
  | .non, .non => true
  | .bl a, .bl b => a == b
  | .bl a, .int i => (if a then 1 else 0) == i
  | .int i, .bl b => i == (if b then 1 else 0)
  | .int i, .int j => i == j
  | .str x, .str y => decide (x = y)
  | _, _ => false
def itemsOf (S : Store) : W → Option (List W)
  | .tup ws => some ws
  | .ref a => listAt S a
  | _ => none
def inW (S : Store) (x y : W) : Option Bool := match y with
  | .str z => match x with
    | .str w => some (!(Builtin.Str.occurrences z w 0 z.length 1).isEmpty)
    | _ => none
  | _ => match itemsOf S y with
    | some ws => if flatW x && ws.all flatW then some (ws.any fun y => eqF y x) else none
    | none => none
def isNon : W → Bool
  | .non => true
  | _ => false
def okB (o : Option Bool) (S : Store) : R W := match o with
  | some b => .ok (.bl b) S
  | none => .bad
def cmp : Cop → W → W → Store → R W
  | .eq, x, y, S => okB (eqW S x y) S
  | .ne, x, y, S => okB ((eqW S x y).map not) S
  | .lt, .int i, .int j, S => .ok (.bl (decide (i < j))) S
  | .le, .int i, .int j, S => .ok (.bl (decide (i ≤ j))) S
  | .gt, .int i, .int j, S => .ok (.bl (decide (j < i))) S
  | .ge, .int i, .int j, S => .ok (.bl (decide (j ≤ i))) S
  | .le, .str x, .str y, S => .ok (.bl (!decide (y.cps.toList < x.cps.toList))) S
  | .is, x, .non, S => .ok (.bl (isNon x)) S
  | .isnot, x, .non, S => .ok (.bl (!isNon x)) S
  | .isin, x, y, S => okB (inW S x y) S
  | .notin, x, y, S => okB ((inW S x y).map not) S
  | _, _, _, _ => .bad

/-- a place in a row of n things -/
def ixN (n : Nat) (i : Int) : Option Nat := if 0 ≤ i then (if i < n then some i.toNat else none) else if -(n : Int) ≤ i then some (i + n).toNat else none
def atW {α : Type} (xs : List α) (i : Int) : Option α := (ixN xs.length i).bind fun j => xs[j]?
def okO (o : Option W) (S : Store) : R W := match o with
  | some w => .ok w S
  | none => .bad
def look (k : W) (kvs : List (W × W)) : Option W := (kvs.find? fun p => decide (p.1 = k)).map (·.2)
def putK (k v : W) (kvs : List (W × W)) : List (W × W) :=
  if (kvs.any fun p => decide (p.1 = k)) = true then kvs.map fun p => if p.1 = k then (p.1, v) else p else kvs ++ [(k, v)]
def keyK : W → Bool
  | .int _ | .str _ => true
  | _ => false
def keyT : W → Bool
  | .tup ws => ws.all keyK
  | _ => false
def index (o i : W) (S : Store) : R W := match o, i with
  | .tup ws, .int j => okO (atW ws j) S
  | .str x, .int j => guardR (x.length ≤ lim) (okO ((atW x.cps.toList j).map fun c => .str ⟨#[c]⟩) S)
  | .ref a, i => match S[a]? with
    | some (.lst ws) => match i with
      | .int j => okO (atW ws j) S
      | _ => .bad
    | some (.fro ws) => match i with
      | .int j => okO (atW ws j) S
      | _ => .bad
    | some (.dT kvs) => guardR (keyT i = true) (okO (look i kvs) S)
    | some (.dK kvs) => guardR (keyK i = true) (okO (look i kvs) S)
    | _ => .bad
  | _, _ => .bad
/-- o[i] of a list or a dict -/
def getAt (x y : W) (S : Store) : R W := match x with
  | .ref _ => index x y S
  | _ => .bad
/-- .. in place: ints alone -/
def augOk : Bop → Bool
  | .add | .sub => true
  | _ => false
def augW (op : Bop) (x y : W) (S : Store) : R W := match x, y with
  | .int i, .int j => if augOk op = true then bin op (.int i) (.int j) S else .bad
  | _, _ => .bad
def setAt (o i v : W) (S : Store) : R Unit := match o with
  | .ref a => match S[a]? with
    | some (.lst ws) => match i with
      | .int j => match ixN ws.length j with
        | some k => .ok () (S.set a (.lst (ws.set k v)))
        | none => .bad
      | _ => .bad
    | some (.dT kvs) => guardR (keyT i = true ∧ kvs.length < lim) (.ok () (S.set a (.dT (putK i v kvs))))
    | some (.dK kvs) => guardR (keyK i = true ∧ kvs.length < lim) (.ok () (S.set a (.dK (putK i v kvs))))
    | _ => .bad
  | _ => .bad
def clipI (n d : Nat) : Option Int → Nat
  | none => d
  | some v => if v < 0 then (v + n).toNat else min v.toNat n
def cutW {α : Type} (xs : List α) (lo hi : Option Int) : List α := (xs.drop (clipI xs.length 0 lo)).take (clipI xs.length xs.length hi - clipI xs.length 0 lo)
def sliceW (o : W) (lo hi : Option Int) (S : Store) : R W := match o with
  | .tup ws => .ok (.tup (cutW ws lo hi)) S
  | .str x => guardR (x.length ≤ lim) (.ok (.str ⟨(cutW x.cps.toList lo hi).toArray⟩) S)
  | .ref a => match listAt S a with
    | some ws => .ok (.ref S.length) (S ++ [.lst (cutW ws lo hi)])
    | none => .bad
  | _ => .bad
def revW (o : W) (S : Store) : R W := match o with
  | .ref a => match listAt S a with
    | some ws => .ok (.ref S.length) (S ++ [.lst ws.reverse])
    | none => .bad
  | _ => .bad

/-! ### built-in functions and methods -/
inductive Bi where
  | len | int | str | sum | max1 | min1 | max2 | min2 | divmod | tuple | list | all | any | sorted
  deriving DecidableEq
def intsOf : List W → Option (List Int)
  | [] => some []
  | .int i :: r => (intsOf r).map (i :: ·)
  | _ :: _ => none
def blsOf : List W → Option (List Bool)
  | [] => some []
  | .bl b :: r => (blsOf r).map (b :: ·)
  | _ :: _ => none
def strsOf : List W → Option (List Str)
  | [] => some []
  | .str x :: r => (strsOf r).map (x :: ·)
  | _ :: _ => none
def maxI : List Int → Int
  | [] => 0
  | [x] => x
  | x :: r => max x (maxI r)
def minI : List Int → Int
  | [] => 0
  | [x] => x
  | x :: r => min x (minI r)
def lenW (S : Store) : W → Option Nat
  | .tup ws => some ws.length
  | .str x => if x.length ≤ lim then some x.length else none
  | .ref a => match S[a]? with
    | some (.lst ws) => some ws.length
    | some (.fro ws) => some ws.length
    | _ => none
  | _ => none
def biF : Bi → List W → Store → R W
  | .len, [x], S => match lenW S x with
    | some n => .ok (.int n) S
    | none => .bad
  | .int, [.int i], S => .ok (.int i) S
  | .int, [.bl b], S => .ok (.int (if b then 1 else 0)) S
  | .str, [.int i], S => guardR (i.natAbs < 2 ^ 1900) (.ok (.str (toString i)) S)
  | .sum, [.ref a], S => match (listAt S a).bind intsOf with
    | some ns => .ok (.int ns.sum) S
    | none => .bad
  | .max1, [.ref a], S => match (listAt S a).bind intsOf with
    | some (n :: ns) => .ok (.int (maxI (n :: ns))) S
    | _ => .bad
  | .min1, [.ref a], S => match (listAt S a).bind intsOf with
    | some (n :: ns) => .ok (.int (minI (n :: ns))) S
    | _ => .bad
  | .max2, [.int i, .int j], S => .ok (.int (max i j)) S
  | .min2, [.int i, .int j], S => .ok (.int (min i j)) S
  | .divmod, [.int i, .int j], S => guardR (0 < j ∧ i.natAbs < big ∧ j.natAbs < big) (.ok (.tup [.int (i / j), .int (i % j)]) S)
  | .tuple, [x], S => match itemsOf S x with
    | some ws => .ok (.tup ws) S
    | none => .bad
  | .list, [x], S => match itemsOf S x with
    | some ws => .ok (.ref S.length) (S ++ [.lst ws])
    | none => .bad
  | .all, [.ref a], S => match (listAt S a).bind blsOf with
    | some bs => .ok (.bl (bs.all id)) S
    | none => .bad
  | .any, [.ref a], S => match (listAt S a).bind blsOf with
    | some bs => .ok (.bl (bs.any id)) S
    | none => .bad
  | _, _, _ => .bad

inductive Bm where
  | append | pop | popAt | clear | reverse | extend
  deriving DecidableEq
def bmF : Bm → W → List W → Store → R W
  | .append, .ref a, [w], S => match S[a]? with
    | some (.lst ws) => guardR (ws.length < lim) (.ok .non (S.set a (.lst (ws ++ [w]))))
    | _ => .bad
  | .pop, .ref a, [], S => match S[a]? with
    | some (.lst ws) => match ws[ws.length - 1]? with
      | some w => .ok w (S.set a (.lst ws.dropLast))
      | none => .bad
    | _ => .bad
  | .popAt, .ref a, [.int i], S => match S[a]? with
    | some (.lst ws) => match ixN ws.length i with
      | some k => match ws[k]? with
        | some w => .ok w (S.set a (.lst (ws.eraseIdx k)))
        | none => .bad
      | none => .bad
    | _ => .bad
  | .clear, .ref a, [], S => match S[a]? with
    | some (.lst _) => .ok .non (S.set a (.lst []))
    | _ => .bad
  | .reverse, .ref a, [], S => match S[a]? with
    | some (.lst ws) => .ok .non (S.set a (.lst ws.reverse))
    | _ => .bad
  | .extend, .ref a, [.ref b], S => match S[a]?, S[b]? with
    | some (.lst ws), some (.lst us) => guardR (ws.length + us.length ≤ lim) (.ok .non (S.set a (.lst (ws ++ us))))
    | _, _ => .bad
  | _, _, _, _ => .bad

inductive Ty where
  | int | bool | str | list | tuple | dict | cls (c : Nat)
  deriving DecidableEq
/-- is x of the type t? -/
def isTy (sub : Nat → Nat → Bool) (S : Store) (x : W) (t : Ty) : Option Bool := match x with
  | .non => some false
  | .bl _ => some (t = .bool || t = .int)
  | .int _ => some (t = .int)
  | .str _ => some (t = .str)
  | .tup _ => some (t = .tuple)
  | .ref a => match S[a]? with
    | some (.lst _) => some (t = .list)
    | some (.fro _) => some (t = .list)
    | some (.dT _) => some (t = .dict)
    | some (.dK _) => some (t = .dict)
    | some (.ins c _) => match t with
      | .cls d => some (sub c d)
      | _ => some false
    | none => none
def isTys (sub : Nat → Nat → Bool) (S : Store) (x : W) : List Ty → Option Bool
  | [] => some false
  | t :: ts => match isTy sub S x t with
    | some true => some true
    | some false => isTys sub S x ts
    | none => none

/-! ### the syntax -/
inductive Tg where
  | nm (i : Nat)
  | tp (ts : List Tg)
mutual
inductive E where
  | any
  | var (i : Nat)
  | cst (w : W)
  | tupE (es : Es)
  | lstE (es : Es)
  | bin (op : Bop) (a b : E)
  | neg (a : E)
  | notE (a : E)
  | cmp (op : Cop) (a b : E)
  | chain (op op' : Cop) (a b c : E)
  | andE (es : Es)
  | orE (es : Es)
  | ifE (t a b : E)
  | attr (a : E) (f : Nat)
  | excf (f : Nat)
  | idx (a i : E)
  | slice (a : E) (lo hi : Es)
  | rev (a : E)
  | call (f : Nat) (es : Es)
  | bi (b : Bi) (es : Es)
  | bm (m : Bm) (a : E) (es : Es)
  | om (m : Nat) (a : E) (es : Es)
  | make (c : Nat) (es : Es)
  | isin (a : E) (single : Bool) (ts : List Ty)
  | lrange (a : E) (b : Es)
  | items (a : E)
  | dnew (tupled : Bool)
  | comp (own : List Nat) (tg : Tg) (it : It) (cond : Es) (elt : E)
inductive Es where
  | nil
  | cons (e : E) (es : Es)
inductive It where
  | seq (e : E)
  | range (es : Es)
  | enum (e : E)
  | zip (a b : E)
  | rev (e : E)
  | revR (es : Es)
end
mutual
inductive St where
  | any
  | asg (t : Tg) (e : E)
  | par (i j : Nat) (a b : E)
  | setS (o i e : E)
  | fld (o : E) (f : Nat) (e : E)
  | aug (i : Nat) (op : Bop) (e : E)
  | augS (o i : E) (op : Bop) (e : E)
  | augF (o : E) (f : Nat) (op : Bop) (e : E)
  | expr (e : E)
  | ret (e : E)
  | retN
  | ifS (t : E) (a b : B)
  | forS (t : Tg) (it : It) (body : B)
  | whileS (t : E) (body : B)
  | pass
  | brk
  | cont
  | raise (c : Nat) (es : Es)
inductive B where
  | nil
  | cons (s : St) (b : B)
end

/-! ### the evaluator -/
structure FDef where
  np : Nat
  nl : Nat
  dfl : List W
  body : B
structure Prog where
  fn : Nat → Option FDef
  mth : Nat → Nat → Option Nat
  ini : Nat → Option Nat
  sub : Nat → Nat → Bool
  exf : Nat → Option (List Nat)
  fld : Nat → Nat → Bool

mutual
def bindT : Tg → W → Rho → Option Rho
  | .nm i, w, ρ => some (ρ.set i (some w))
  | .tp ts, .tup ws, ρ => bindTs ts ws ρ
  | .tp _, _, _ => none
def bindTs : List Tg → List W → Rho → Option Rho
  | [], [], ρ => some ρ
  | t :: ts, w :: ws, ρ => (bindT t w ρ).bind (bindTs ts ws)
  | _, _, _ => none
end
def getF (f : Nat) : List (Nat × W) → Option W
  | [] => none
  | (g, w) :: r => if g = f then some w else getF f r
def putF (f : Nat) (w : W) : List (Nat × W) → List (Nat × W)
  | [] => [(f, w)]
  | (g, u) :: r => if g = f then (g, w) :: r else (g, u) :: putF f w r
def wipeR (ρ : Rho) : List Nat → Rho
  | [] => ρ
  | v :: vs => (wipeR ρ vs).set v none
/-- a, a + c, .. (n of them) -/
def rangeW (a c : Int) (n : Nat) : List W := (List.range n).map fun k => .int (a + (k : Nat) * c)
def smallI (i : Int) : Prop := -1152921504606846976 ≤ i ∧ i ≤ 1152921504606846976
instance (i : Int) : Decidable (smallI i) := by unfold smallI; infer_instance

/-- what is walked: what must stand meanwhile, the items -/
abbrev Src := List (Nat × Ob) × List W
def stands (gs : List (Nat × Ob)) (S : Store) : Prop := ∀ g ∈ gs, S[g.1]? = some g.2
instance (gs : List (Nat × Ob)) (S : Store) : Decidable (stands gs S) := by unfold stands; infer_instance
def seqSrc (S : Store) : W → Option Src
  | .tup ws => some ([], ws)
  | .str x => some ([], x.cps.toList.map fun c => .str ⟨#[c]⟩)
  | .ref a => match S[a]? with
    | some (.lst ws) => some ([(a, .lst ws)], ws)
    | some (.fro ws) => some ([(a, .fro ws)], ws)
    | _ => none
  | _ => none
def okS (o : Option Src) (S : Store) : R Src := match o with
  | some x => .ok x S
  | none => .bad
def rangeSrc : List W → Option Src
  | [.int b] => if smallI b then some ([], rangeW 0 1 b.toNat) else none
  | [.int a, .int b] => if smallI a ∧ smallI b then some ([], rangeW a 1 (b - a).toNat) else none
  | [.int a, .int b, .int c] => if smallI a ∧ smallI b ∧ c = -1 then some ([], rangeW a (-1) (a - b).toNat) else none
  | _ => none
def revRSrc : List W → Option Src
  | [.int b] => if smallI b then some ([], (rangeW 0 1 b.toNat).reverse) else none
  | [.int a, .int b] => if smallI a ∧ smallI b then some ([], (rangeW a 1 (b - a).toNat).reverse) else none
  | _ => none
def enumW (ws : List W) : List W := (List.range ws.length).zipWith (fun i w => .tup [.int (i : Nat), w]) ws

inductive RS where
  | nx (ρ : Rho) (S : Store)
  | rt (w : W) (S : Store)
  | bk (ρ : Rho) (S : Store)
  | ct (ρ : Rho) (S : Store)
  | exn (c : Nat) (fs : List (Nat × W)) (ρ : Rho) (S : Store)
  | bad
/-- nothing is raised -/
def R.calm {α : Type} (r : R α) : R α := match r with
  | .exn _ _ _ => .bad
  | r => r
/-- an expression within a statement -/
def R.st {α : Type} (r : R α) (ρ : Rho) (f : α → Store → RS) : RS := match r with
  | .ok a S => f a S
  | .exn c fs S => .exn c fs ρ S
  | .bad => .bad
def RS.then (r : RS) (f : Rho → Store → RS) : RS := match r with
  | .nx ρ S => f ρ S
  | r => r
def forL (gs : List (Nat × Ob)) (f : W → Rho → Store → RS) : List W → Rho → Store → RS
  | [], ρ, S => if stands gs S then .nx ρ S else .bad
  | w :: ws, ρ, S => if stands gs S then (match f w ρ S with
    | .nx ρ' S' => forL gs f ws ρ' S'
    | .ct ρ' S' => forL gs f ws ρ' S'
    | .bk ρ' S' => .nx ρ' S'
    | r => r) else .bad
def whileL (t : Rho → Store → R Bool) (f : Rho → Store → RS) : Nat → Rho → Store → RS
  | 0, _, _ => .bad
  | n + 1, ρ, S => (t ρ S).st ρ fun b S1 => if b then (match f ρ S1 with
    | .nx ρ' S' => whileL t f n ρ' S'
    | .ct ρ' S' => whileL t f n ρ' S'
    | .bk ρ' S' => .nx ρ' S'
    | r => r) else .nx ρ S1
def wfuel : Nat := 100000
/-- a comprehension's turns: the list grows at n -/
def compL (gs : List (Nat × Ob)) (n : Nat) (f : W → Store → R (Option W)) : List W → Store → R W
  | [], S => if stands gs S then .ok (.ref n) S else .bad
  | w :: ws, S => if stands gs S then (f w S).calm.bind fun o S' => match o with
    | none => compL gs n f ws S'
    | some v => match S'[n]? with
      | some (.lst acc) => if acc.length < lim then compL gs n f ws (S'.set n (.lst (acc ++ [v]))) else .bad
      | _ => .bad
    else .bad

/-- a value as a test -/
def tst (r : R W) : R Bool := r.bind fun x S => match truth S x with
  | some b => .ok b S
  | none => .bad
section
variable (P : Prog) (cl : Nat → List W → Store → R W) (hx : List (Nat × W))
mutual
def evE : E → Rho → Store → R W
  | .any, _, _ => .bad
  | .var i, ρ, S => match ρ[i]? with
    | some (some w) => .ok w S
    | _ => .bad
  | .cst w, _, S => .ok w S
  | .tupE es, ρ, S => (evEs es ρ S).bind newTup
  | .lstE es, ρ, S => (evEs es ρ S).bind newLst
  | .bin op a b, ρ, S => (evE a ρ S).bind fun x S1 => (evE b ρ S1).bind fun y S2 => bin op x y S2
  | .neg a, ρ, S => (evE a ρ S).bind fun x S1 => match x with
    | .int i => .ok (.int (-i)) S1
    | _ => .bad
  | .notE a, ρ, S => (tst (evE a ρ S)).bind fun b S1 => .ok (.bl (!b)) S1
  | .cmp op a b, ρ, S => (evE a ρ S).bind fun x S1 => (evE b ρ S1).bind fun y S2 => cmp op x y S2
  | .chain op op' a b c, ρ, S => (evE a ρ S).bind fun x S1 => (evE b ρ S1).bind fun y S2 => (cmp op x y S2).bind fun r S3 => match r with
    | .bl true => (evE c ρ S3).bind fun z S4 => cmp op' y z S4
    | .bl false => .ok (.bl false) S3
    | _ => .bad
  | .andE es, ρ, S => evAnd es ρ S
  | .orE es, ρ, S => evOr es ρ S
  | .ifE t a b, ρ, S => (tst (evE t ρ S)).bind fun c S1 => if c then evE a ρ S1 else evE b ρ S1
  | .attr a f, ρ, S => (evE a ρ S).bind fun x S1 => match x with
    | .ref n => match S1[n]? with
      | some (.ins _ fs) => okO (getF f fs) S1
      | _ => .bad
    | _ => .bad
  | .excf f, _, S => okO (getF f hx) S
  | .idx a i, ρ, S => (evE a ρ S).bind fun x S1 => (evE i ρ S1).bind fun y S2 => index x y S2
  | .slice a lo hi, ρ, S => (evE a ρ S).bind fun x S1 => (evPart lo ρ S1).bind fun l S2 => (evPart hi ρ S2).bind fun h S3 => sliceW x l h S3
  | .rev a, ρ, S => (evE a ρ S).bind revW
  | .call f es, ρ, S => (evEs es ρ S).bind (cl f)
  | .bi b es, ρ, S => (evEs es ρ S).bind (biF b)
  | .bm m a es, ρ, S => (evE a ρ S).bind fun x S1 => match x with
    | .ref n => match S1[n]? with
      | some (.lst _) => (evEs es ρ S1).bind (bmF m x)
      | _ => .bad
    | _ => .bad
  | .om m a es, ρ, S => (evE a ρ S).bind fun x S1 => match x with
    | .ref n => match S1[n]? with
      | some (.ins c _) => match P.mth c m with
        | some f => (evEs es ρ S1).bind fun ws S2 => cl f (x :: ws) S2
        | none => .bad
      | _ => .bad
    | _ => .bad
  | .make c es, ρ, S => (evEs es ρ S).bind fun ws S1 => match P.ini c with
    | some f => (cl f (.ref S1.length :: ws) (S1 ++ [.ins c []])).bind fun r S2 => match r with
      | .non => .ok (.ref S1.length) S2
      | _ => .bad
    | none => .bad
  | .isin a _ ts, ρ, S => (evE a ρ S).bind fun x S1 => okB (isTys P.sub S1 x ts) S1
  | .lrange a b, ρ, S => (evE a ρ S).bind fun x S1 => (evEs b ρ S1).bind fun ys S2 => match rangeSrc (x :: ys) with
    | some (_, ws) => newLst ws S2
    | none => .bad
  | .items a, ρ, S => (evE a ρ S).bind fun x S1 => match x with
    | .ref n => match S1[n]? with
      | some (.dT kvs) => .ok (.ref S1.length) (S1 ++ [.lst (kvs.map fun p => .tup [p.1, p.2])])
      | _ => .bad
    | _ => .bad
  | .dnew t, _, S => .ok (.ref S.length) (S ++ [if t then .dT [] else .dK []])
  | .comp own tg it cond elt, ρ, S => (evIt it ρ S).bind fun src S1 =>
    compL src.1 S1.length (fun w S2 => match bindT tg w (wipeR ρ own) with
      | none => .bad
      | some ρ' => (evConds cond ρ' S2).bind fun b S3 => if b then (evE elt ρ' S3).bind fun v S4 => .ok (some v) S4 else .ok none S3) src.2 (S1 ++ [.lst []])
def evEs : Es → Rho → Store → R (List W)
  | .nil, _, S => .ok [] S
  | .cons e es, ρ, S => (evE e ρ S).bind fun w S1 => (evEs es ρ S1).bind fun ws S2 => .ok (w :: ws) S2
def evAnd : Es → Rho → Store → R W
  | .nil, _, _ => .bad
  | .cons e .nil, ρ, S => evE e ρ S
  | .cons e es, ρ, S => (evE e ρ S).bind fun x S1 => match truth S1 x with
    | some true => evAnd es ρ S1
    | some false => .ok x S1
    | none => .bad
def evOr : Es → Rho → Store → R W
  | .nil, _, _ => .bad
  | .cons e .nil, ρ, S => evE e ρ S
  | .cons e es, ρ, S => (evE e ρ S).bind fun x S1 => match truth S1 x with
    | some true => .ok x S1
    | some false => evOr es ρ S1
    | none => .bad
def evConds : Es → Rho → Store → R Bool
  | .nil, _, S => .ok true S
  | .cons e _, ρ, S => tst (evE e ρ S)
def evPart : Es → Rho → Store → R (Option Int)
  | .nil, _, S => .ok none S
  | .cons e _, ρ, S => (evE e ρ S).bind fun x S1 => match x with
    | .int i => .ok (some i) S1
    | _ => .bad
def evIt : It → Rho → Store → R Src
  | .seq e, ρ, S => (evE e ρ S).bind fun x S1 => okS (seqSrc S1 x) S1
  | .range es, ρ, S => (evEs es ρ S).bind fun ws S1 => okS (rangeSrc ws) S1
  | .enum e, ρ, S => (evE e ρ S).bind fun x S1 => match x with
    | .ref _ => okS ((seqSrc S1 x).map fun p => (p.1, enumW p.2)) S1
    | _ => .bad
  | .zip a b, ρ, S => (evE a ρ S).bind fun x S1 => (evE b ρ S1).bind fun y S2 => match x, y with
    | .ref _, .ref _ => okS ((seqSrc S2 x).bind fun p => (seqSrc S2 y).map fun q => (p.1 ++ q.1, p.2.zipWith (fun u v => .tup [u, v]) q.2)) S2
    | .tup _, .tup _ => okS ((seqSrc S2 x).bind fun p => (seqSrc S2 y).map fun q => (p.1 ++ q.1, p.2.zipWith (fun u v => .tup [u, v]) q.2)) S2
    | _, _ => .bad
  | .rev e, ρ, S => (evE e ρ S).bind fun x S1 => match x with
    | .str _ => .bad
    | _ => okS ((seqSrc S1 x).map fun p => (p.1, p.2.reverse)) S1
  | .revR es, ρ, S => (evEs es ρ S).bind fun ws S1 => okS (revRSrc ws) S1
end
def evT (e : E) (ρ : Rho) (S : Store) : R Bool := tst (evE P cl hx e ρ S)
mutual
def exS : St → Rho → Store → RS
  | .any, _, _ => .bad
  | .asg t e, ρ, S => (evE P cl hx e ρ S).st ρ fun w S1 => match bindT t w ρ with
    | some ρ' => .nx ρ' S1
    | none => .bad
  | .par i j a b, ρ, S => (evE P cl hx a ρ S).st ρ fun x S1 => (evE P cl hx b ρ S1).st ρ fun y S2 => .nx ((ρ.set i (some x)).set j (some y)) S2
  | .setS o i e, ρ, S => (evE P cl hx e ρ S).st ρ fun v S1 => (evE P cl hx o ρ S1).st ρ fun x S2 => (evE P cl hx i ρ S2).st ρ fun y S3 => (setAt x y v S3).st ρ fun _ S4 => .nx ρ S4
  | .fld o f e, ρ, S => (evE P cl hx e ρ S).st ρ fun v S1 => (evE P cl hx o ρ S1).st ρ fun x S2 => match x with
    | .ref n => match S2[n]? with
      | some (.ins c fs) => if fs.length < 900 ∧ P.fld c f = true then .nx ρ (S2.set n (.ins c (putF f v fs))) else .bad
      | _ => .bad
    | _ => .bad
  | .aug i op e, ρ, S => match ρ[i]? with
    | some (some x) => (evE P cl hx e ρ S).st ρ fun y S1 => (augW op x y S1).st ρ fun z S2 => .nx (ρ.set i (some z)) S2
    | _ => .bad
  | .augS o i op e, ρ, S => (evE P cl hx o ρ S).st ρ fun x S1 => (evE P cl hx i ρ S1).st ρ fun y S2 => (getAt x y S2).st ρ fun u S3 => (evE P cl hx e ρ S3).st ρ fun v S4 =>
    (augW op u v S4).st ρ fun z S5 => (setAt x y z S5).st ρ fun _ S6 => .nx ρ S6
  | .augF o f op e, ρ, S => (evE P cl hx o ρ S).st ρ fun x S1 => match x with
    | .ref n => match S1[n]? with
      | some (.ins c0 fs) => match getF f fs with
        | some u => (evE P cl hx e ρ S1).st ρ fun v S2 => (augW op u v S2).st ρ fun z S3 => match S3[n]? with
          | some (.ins c fs') => if c = c0 ∧ fs'.length < 900 ∧ P.fld c f = true then .nx ρ (S3.set n (.ins c (putF f z fs'))) else .bad
          | _ => .bad
        | none => .bad
      | _ => .bad
    | _ => .bad
  | .expr e, ρ, S => (evE P cl hx e ρ S).st ρ fun _ S1 => .nx ρ S1
  | .ret e, ρ, S => (evE P cl hx e ρ S).st ρ fun w S1 => .rt w S1
  | .retN, _, S => .rt .non S
  | .ifS t a b, ρ, S => (evT P cl hx t ρ S).st ρ fun c S1 => if c then exB a ρ S1 else exB b ρ S1
  | .forS t it body, ρ, S => (evIt P cl hx it ρ S).st ρ fun src S1 => forL src.1 (fun w ρ S => match bindT t w ρ with
    | some ρ' => exB body ρ' S
    | none => .bad) src.2 ρ S1
  | .whileS t body, ρ, S => whileL (evT P cl hx t) (exB body) wfuel ρ S
  | .pass, ρ, S => .nx ρ S
  | .brk, ρ, S => .bk ρ S
  | .cont, ρ, S => .ct ρ S
  | .raise c es, ρ, S => (evEs P cl hx es ρ S).st ρ fun ws S1 => match P.exf c with
    | some fs => if fs.length = ws.length then .exn c (fs.zip ws) ρ S1 else .bad
    | none => .bad
def exB : B → Rho → Store → RS
  | .nil, ρ, S => .nx ρ S
  | .cons s b, ρ, S => (exS s ρ S).then (exB b)
end
end
/-- a def's end -/
def RS.fin (r : RS) : R W := match r with
  | .nx _ S => .ok .non S
  | .rt w S => .ok w S
  | .exn c fs _ S => .exn c fs S
  | _ => .bad
def fill (d : FDef) (ws : List W) : List W := ws ++ d.dfl.drop (d.dfl.length - (d.np - ws.length))
def callN (P : Prog) : Nat → Nat → List W → Store → R W
  | 0, _, _, _ => .bad
  | n + 1, f, ws, S => match P.fn f with
    | none => .bad
    | some d => if (fill d ws).length = d.np then (exB P (callN P n) [] d.body ((fill d ws).map some ++ List.replicate (d.nl - d.np) none) S).fin else .bad
end Mp
end
section
set_option Elab.async false
set_option linter.all false
set_option maxRecDepth 100000
/-! What the store of our own language tells of the model's heap. -/
namespace Mp
open PySem L2

/-- where the text's things stand -/
structure Tb where
  fa : Nat → Addr
  ca : Nat → Addr
  nm : Nat → Str
  cd : Nat → Bool
  fld : Nat → Nat → Bool

section
variable (T : Tb)
mutual
def RepV (m : List Addr) (H : Hp) : W → V → Prop
  | .non, v => v = .non
  | .bl b, v => v = .bl b
  | .int i, v => v = .int i
  | .str x, v => v = .str x
  | .ref n, v => ∃ a, m[n]? = some a ∧ v = .ref a
  | .tup ws, v => ∃ a vs, v = .ref a ∧ H a = some (.tup vs) ∧ RepVs m H ws vs
def RepVs (m : List Addr) (H : Hp) : List W → List V → Prop
  | [], vs => vs = []
  | w :: ws, vs => ∃ v r, vs = v :: r ∧ RepV m H w v ∧ RepVs m H ws r
end
def RepF (m : List Addr) (H : Hp) : List (Nat × W) → List (Str × V) → Prop :=
  Paired fun p q => q.1 = T.nm p.1 ∧ RepV m H p.2 q.2
def keyOf : W → Option Key
  | .int i => some (.inl i)
  | .str x => some (.inr x)
  | _ => none
def keysOf : W → Option (List Key)
  | .tup ws => ws.mapM keyOf
  | _ => none
def SimO (m : List Addr) (H : Hp) : Ob → Addr → Prop
  | .lst ws, a => ∃ vs, H a = some (.lst vs) ∧ RepVs m H ws vs
  | .fro ws, a => ∃ o vs, H a = some (.frz o (.lst vs)) ∧ RepVs m H ws vs
  | .ins c fs, a => (T.cd c = true ∧ ∀ p ∈ fs, T.fld c p.1 = true) ∧ ∃ dx fs', H a = some (.ins (T.ca c) dx fs') ∧ RepF T m H fs fs'
  | .dT kvs, a => ∃ kvs', H a = some (.dT kvs') ∧ Paired (fun p q => keysOf p.1 = some q.1 ∧ RepV m H p.2 q.2) kvs kvs'
  | .dK kvs, a => ∃ kvs', H a = some (.dK kvs') ∧ Paired (fun p q => keyOf p.1 = some q.1 ∧ RepV m H p.2 q.2) kvs kvs'
structure SimS (m : List Addr) (S : Store) (H : Hp) : Prop where
  len : m.length = S.length
  nd : m.Nodup
  at_ : ∀ (n : Nat) (o : Ob) (a : Addr), S[n]? = some o → m[n]? = some a → SimO T m H o a
structure SimL (m : List Addr) (H : Hp) (ρ : Rho) (σ : L2.St) : Prop where
  len : ρ.length = σ.length
  at_ : ∀ (i : Nat) (w : W), ρ[i]? = some (some w) → ∃ v, σ[i]? = some (some v) ∧ RepV m H w v
/-- what a step may do: new places, and what stands at known ones -/
structure Grow (m : List Addr) (H : Hp) (m' : List Addr) (H' : Hp) : Prop where
  pre : m <+: m'
  keep : ∀ a o, H a = some o → a ∉ m → H' a = some o
  new : ∀ a ∈ m', a ∈ m ∨ H a = none
end

section
variable {T : Tb} {m m' m2 : List Addr} {H H' H2 : Hp} {S S' : Store} {ρ : Rho} {σ : L2.St}
theorem Grow.refl : Grow m H m H := ⟨List.prefix_refl _, fun _ _ h _ => h, fun _ h => .inl h⟩
theorem Grow.trans (a : Grow m H m' H') (b : Grow m' H' m2 H2) : Grow m H m2 H2 := by
  refine ⟨a.pre.trans b.pre, fun x o h hx => ?_, fun x hx => ?_⟩
  · refine b.keep x o (a.keep x o h hx) fun hm => ?_
    rcases a.new x hm with h1 | h1
    · exact hx h1
    · rw [h] at h1; cases h1
  · rcases b.new x hx with h1 | h1
    · exact a.new x h1
    · by_cases hm : x ∈ m
      · exact .inl hm
      · right
        cases e : H x with
        | none => rfl
        | some o => rw [a.keep x o e hm] at h1; cases h1
theorem pre_get {α : Type} {l l' : List α} (h : l <+: l') {n : Nat} {a : α} (e : l[n]? = some a) : l'[n]? = some a := by
  obtain ⟨t, rfl⟩ := h
  have hl := (List.getElem?_eq_some_iff.mp e).1
  rw [List.getElem?_append_left hl]; exact e
/-- tracked by the store -/
theorem SimS.there (s : SimS T m S H) {a : Addr} (h : a ∈ m) : ∃ (n : Nat) (o : Ob), m[n]? = some a ∧ S[n]? = some o ∧ SimO T m H o a := by
  obtain ⟨n, hn⟩ := List.mem_iff_getElem?.mp h
  have hl : n < S.length := by rw [← s.len]; exact (List.getElem?_eq_some_iff.mp hn).1
  exact ⟨n, S[n], hn, by simp [hl], s.at_ n _ a (by simp [hl]) hn⟩
theorem SimO.has {o : Ob} {a : Addr} (h : SimO T m H o a) : ∃ u, H a = some u ∧ (∀ xs, u ≠ .tup xs) ∧ (∀ f, u ≠ .xd f) ∧ (∀ x, u ≠ .own x) := by
  cases o with
  | lst ws => obtain ⟨vs, h, _⟩ := h; exact ⟨_, h, (fun _ z => by cases z), (fun _ z => by cases z), (fun _ z => by cases z)⟩
  | fro ws => obtain ⟨o, vs, h, _⟩ := h; exact ⟨_, h, (fun _ z => by cases z), (fun _ z => by cases z), (fun _ z => by cases z)⟩
  | ins c fs => obtain ⟨_, dx, fs', h, _⟩ := h; exact ⟨_, h, (fun _ z => by cases z), (fun _ z => by cases z), (fun _ z => by cases z)⟩
  | dT kvs => obtain ⟨k, h, _⟩ := h; exact ⟨_, h, (fun _ z => by cases z), (fun _ z => by cases z), (fun _ z => by cases z)⟩
  | dK kvs => obtain ⟨k, h, _⟩ := h; exact ⟨_, h, (fun _ z => by cases z), (fun _ z => by cases z), (fun _ z => by cases z)⟩
theorem SimS.notin_tup (s : SimS T m S H) {a : Addr} {xs : List V} (h : H a = some (.tup xs)) : a ∉ m := fun hm => by
  obtain ⟨n, o, _, _, ho⟩ := s.there hm
  obtain ⟨u, hu, h1, _⟩ := ho.has
  rw [h] at hu
  exact h1 xs (Option.some.inj hu).symm
theorem SimS.notin_none (s : SimS T m S H) {a : Addr} (h : H a = none) : a ∉ m := fun hm => by
  obtain ⟨n, o, _, _, ho⟩ := s.there hm
  obtain ⟨u, hu, _⟩ := ho.has
  rw [h] at hu; cases hu
theorem SimS.notin_frzT (s : SimS T m S H) {a : Addr} {o : Obj} {xs : List V} (h : H a = some (.frz o (.tup xs))) : a ∉ m := fun hm => by
  obtain ⟨n, ob, _, _, ho⟩ := s.there hm
  cases ob with
  | lst ws => obtain ⟨vs, h', _⟩ := ho; rw [h] at h'; cases h'
  | fro ws => obtain ⟨_, vs, h', _⟩ := ho; rw [h] at h'; cases h'
  | ins c fs => obtain ⟨_, dx, fs', h', _⟩ := ho; rw [h] at h'; cases h'
  | dT kvs => obtain ⟨k, h', _⟩ := ho; rw [h] at h'; cases h'
  | dK kvs => obtain ⟨k, h', _⟩ := ho; rw [h] at h'; cases h'
mutual
theorem RepV.grow (s : SimS T m S H) (g : Grow m H m' H') : ∀ {w : W} {v : V}, RepV m H w v → RepV m' H' w v
  | .non, v, h => h
  | .bl b, v, h => h
  | .int i, v, h => h
  | .str x, v, h => h
  | .ref n, v, h => by
    obtain ⟨a, h1, h2⟩ := h
    exact ⟨a, pre_get g.pre h1, h2⟩
  | .tup ws, v, h => by
    obtain ⟨a, vs, h1, h2, h3⟩ := h
    exact ⟨a, vs, h1, g.keep _ _ h2 (s.notin_tup h2), RepVs.grow s g h3⟩
theorem RepVs.grow (s : SimS T m S H) (g : Grow m H m' H') : ∀ {ws : List W} {vs : List V}, RepVs m H ws vs → RepVs m' H' ws vs
  | [], vs, h => h
  | w :: ws, vs, h => by
    obtain ⟨v, r, h1, h2, h3⟩ := h
    exact ⟨v, r, h1, RepV.grow s g h2, RepVs.grow s g h3⟩
end
theorem RepF.grow (s : SimS T m S H) (g : Grow m H m' H') {fs : List (Nat × W)} {fs' : List (Str × V)} (h : RepF T m H fs fs') : RepF T m' H' fs fs' :=
  Paired.mapP h fun _ _ z => ⟨z.1, z.2.grow s g⟩
theorem SimL.grow (l : SimL m H ρ σ) (s : SimS T m S H) (g : Grow m H m' H') : SimL m' H' ρ σ :=
  ⟨l.len, fun i w h => let ⟨v, h1, h2⟩ := l.at_ i w h; ⟨v, h1, h2.grow s g⟩⟩
theorem SimL.set (l : SimL m H ρ σ) {w : W} {v : V} (r : RepV m H w v) (i : Nat) : SimL m H (ρ.set i (some w)) (σ.set i (some v)) := by
  refine ⟨by simp [l.len], fun j u h => ?_⟩
  by_cases hj : i = j
  · subst hj
    rw [List.getElem?_set] at h
    by_cases hl : i < ρ.length
    · simp only [if_true, hl, Option.some.injEq] at h
      subst h
      exact ⟨v, by rw [List.getElem?_set_self (by rw [← l.len]; exact hl)], r⟩
    · simp [hl] at h
  · rw [List.getElem?_set_ne hj] at h
    obtain ⟨x, h1, h2⟩ := l.at_ j u h
    exact ⟨x, by rw [List.getElem?_set_ne hj]; exact h1, h2⟩
/-- an object with its content carried -/
theorem SimO.grow (s : SimS T m S H) (g : Grow m H m' H') {o : Ob} {a : Addr} (h : SimO T m H o a) (e : H' a = H a) : SimO T m' H' o a := by
  cases o with
  | lst ws => obtain ⟨vs, h1, h2⟩ := h; exact ⟨vs, e.trans h1, h2.grow s g⟩
  | fro ws => obtain ⟨o, vs, h1, h2⟩ := h; exact ⟨o, vs, e.trans h1, h2.grow s g⟩
  | ins c fs => obtain ⟨h0, dx, fs', h1, h2⟩ := h; exact ⟨h0, dx, fs', e.trans h1, h2.grow s g⟩
  | dT kvs => obtain ⟨k, h1, h2⟩ := h; exact ⟨k, e.trans h1, Paired.mapP h2 fun _ _ z => ⟨z.1, z.2.grow s g⟩⟩
  | dK kvs => obtain ⟨k, h1, h2⟩ := h; exact ⟨k, e.trans h1, Paired.mapP h2 fun _ _ z => ⟨z.1, z.2.grow s g⟩⟩
/-- a new thing that is not the store's (a tuple) -/
theorem grow_tup (s : SimS T m S H) {p : Addr} {o : HO} (hp : H p = none) : Grow m H m (upd H p o) :=
  ⟨List.prefix_refl _, fun a u h _ => by rw [upd_ne (ne_of_none h hp)]; exact h, fun _ h => .inl h⟩
theorem SimS.off (s : SimS T m S H) {p : Addr} {o : HO} (hp : H p = none) : SimS T m S (upd H p o) :=
  ⟨s.len, s.nd, fun n ob a h1 h2 => (s.at_ n ob a h1 h2).grow s (grow_tup s hp) (by
    refine upd_ne fun z => ?_
    exact s.notin_none hp (z ▸ List.mem_of_getElem? h2))⟩
/-- a new thing of the store -/
theorem grow_new (s : SimS T m S H) {p : Addr} {o : HO} (hp : H p = none) : Grow m H (m ++ [p]) (upd H p o) :=
  ⟨List.prefix_append _ _, fun a u h _ => by rw [upd_ne (ne_of_none h hp)]; exact h, fun a h => by
    rcases List.mem_append.mp h with h | h
    · exact .inl h
    · right; rw [List.mem_singleton.mp h]; exact hp⟩
theorem SimS.alloc (s : SimS T m S H) {p : Addr} {o : HO} {ob : Ob} (hp : H p = none) (h : SimO T (m ++ [p]) (upd H p o) ob p) : SimS T (m ++ [p]) (S ++ [ob]) (upd H p o) := by
  have hn := s.notin_none hp
  refine ⟨by simp [s.len], List.nodup_append.mpr ⟨s.nd, by simp, fun a ha b hb z => ?_⟩, fun n o' a h1 h2 => ?_⟩
  · rw [z, List.mem_singleton.mp hb] at ha; exact hn ha
  · by_cases hl : n < m.length
    · rw [List.getElem?_append_left hl] at h2
      rw [List.getElem?_append_left (by rw [← s.len]; exact hl)] at h1
      exact (s.at_ n o' a h1 h2).grow s (grow_new s hp) (upd_ne fun z => hn (z ▸ List.mem_of_getElem? h2))
    · have hr : n = m.length := by
        have := (List.getElem?_eq_some_iff.mp h2).1
        simp at this; omega
      subst hr
      rw [List.getElem?_append_right (Nat.le_refl _)] at h2
      rw [List.getElem?_append_right (by rw [s.len]; exact Nat.le_refl _)] at h1
      simp [s.len] at h1 h2
      subst h1 h2
      exact h
theorem SimS.last (s : SimS T m S H) {p : Addr} : (m ++ [p])[S.length]? = some p := by
  rw [← s.len, List.getElem?_append_right (Nat.le_refl _)]; simp
/-- a thing of the store changed -/
theorem grow_set (s : SimS T m S H) {n : Nat} {a : Addr} {o : HO} (ha : m[n]? = some a) : Grow m H m (upd H a o) :=
  ⟨List.prefix_refl _, fun b u h hb => by
    rw [upd_ne (fun z => hb (by rw [z]; exact List.mem_of_getElem? ha))]; exact h, fun _ h => .inl h⟩
theorem nodup_ixA {l : List Addr} (hN : l.Nodup) {i j : Nat} {x : Addr} (a : l[i]? = some x) (b : l[j]? = some x) : i = j := by
  obtain ⟨h1, e1⟩ := List.getElem?_eq_some_iff.mp a
  obtain ⟨h2, e2⟩ := List.getElem?_eq_some_iff.mp b
  exact (List.getElem_inj hN).mp (e1.trans e2.symm)
theorem SimS.upd (s : SimS T m S H) {n : Nat} {a : Addr} {o : HO} {ob : Ob} (ha : m[n]? = some a) (h : SimO T m (L2.upd H a o) ob a) : SimS T m (S.set n ob) (L2.upd H a o) := by
  refine ⟨by simp [s.len], s.nd, fun k o' b h1 h2 => ?_⟩
  by_cases hk : n = k
  · subst hk
    rw [ha] at h2; cases h2
    rw [List.getElem?_set] at h1
    by_cases hl : n < S.length
    · simp [hl] at h1; subst h1; exact h
    · simp [hl] at h1
  · rw [List.getElem?_set_ne hk] at h1
    refine (s.at_ k o' b h1 h2).grow s (grow_set s ha) (upd_ne fun z => hk ?_)
    subst z
    exact (nodup_ixA s.nd ha h2)
theorem SimS.addr (s : SimS T m S H) {n : Nat} {o : Ob} (h : S[n]? = some o) : ∃ a, m[n]? = some a ∧ SimO T m H o a := by
  have hl : n < m.length := by rw [s.len]; exact (List.getElem?_eq_some_iff.mp h).1
  exact ⟨m[n], by simp [hl], s.at_ n o _ h (by simp [hl])⟩
/-! ### lists of values -/
theorem RepVs.length : ∀ {ws : List W} {vs : List V}, RepVs m H ws vs → ws.length = vs.length
  | [], vs, h => by rw [show vs = [] from h]; rfl
  | w :: ws, vs, h => by
    obtain ⟨v, r, h1, _, h3⟩ := h
    rw [h1, List.length_cons, List.length_cons, RepVs.length h3]
theorem RepVs.append : ∀ {ws us : List W} {vs xs : List V}, RepVs m H ws vs → RepVs m H us xs → RepVs m H (ws ++ us) (vs ++ xs)
  | [], us, vs, xs, h, g => by rw [show vs = [] from h]; exact g
  | w :: ws, us, vs, xs, h, g => by
    obtain ⟨v, r, h1, h2, h3⟩ := h
    exact ⟨v, r ++ xs, by rw [h1]; rfl, h2, RepVs.append h3 g⟩
theorem RepVs.one {w : W} {v : V} (h : RepV m H w v) : RepVs m H [w] [v] := ⟨v, [], rfl, h, rfl⟩
theorem RepVs.get : ∀ {ws : List W} {vs : List V}, RepVs m H ws vs → ∀ {i : Nat} {w : W}, ws[i]? = some w → ∃ v, vs[i]? = some v ∧ RepV m H w v
  | [], _, _, i, w, e => by simp at e
  | x :: ws, vs, h, i, w, e => by
    obtain ⟨v, r, h1, h2, h3⟩ := h
    subst h1
    cases i with
    | zero => simp at e; subst e; exact ⟨v, rfl, h2⟩
    | succ i =>
      obtain ⟨y, e1, e2⟩ := RepVs.get h3 (i := i) (w := w) (by simpa using e)
      exact ⟨y, by simpa using e1, e2⟩
theorem RepVs.take : ∀ {ws : List W} {vs : List V} (n : Nat), RepVs m H ws vs → RepVs m H (ws.take n) (vs.take n)
  | _, _, 0, _ => rfl
  | [], vs, n + 1, h => by rw [show vs = [] from h]; rfl
  | w :: ws, vs, n + 1, h => by
    obtain ⟨v, r, h1, h2, h3⟩ := h
    subst h1
    exact ⟨v, r.take n, rfl, h2, RepVs.take n h3⟩
theorem RepVs.drop : ∀ {ws : List W} {vs : List V} (n : Nat), RepVs m H ws vs → RepVs m H (ws.drop n) (vs.drop n)
  | _, _, 0, h => h
  | [], vs, n + 1, h => by rw [show vs = [] from h]; rfl
  | w :: ws, vs, n + 1, h => by
    obtain ⟨v, r, h1, h2, h3⟩ := h
    subst h1
    exact RepVs.drop n h3
theorem RepVs.set : ∀ {ws : List W} {vs : List V} (i : Nat) {w : W} {v : V}, RepVs m H ws vs → RepV m H w v → RepVs m H (ws.set i w) (vs.set i v)
  | [], vs, i, w, v, h, r => by rw [show vs = [] from h]; rfl
  | x :: ws, vs, 0, w, v, h, r => by
    obtain ⟨y, t, h1, h2, h3⟩ := h
    subst h1
    exact ⟨v, t, rfl, r, h3⟩
  | x :: ws, vs, i + 1, w, v, h, r => by
    obtain ⟨y, t, h1, h2, h3⟩ := h
    subst h1
    exact ⟨y, t.set i v, rfl, h2, RepVs.set i h3 r⟩
theorem RepVs.eraseIdx : ∀ {ws : List W} {vs : List V} (i : Nat), RepVs m H ws vs → RepVs m H (ws.eraseIdx i) (vs.eraseIdx i)
  | [], vs, i, h => by rw [show vs = [] from h]; rfl
  | x :: ws, vs, 0, h => by
    obtain ⟨y, t, h1, h2, h3⟩ := h
    subst h1
    exact h3
  | x :: ws, vs, i + 1, h => by
    obtain ⟨y, t, h1, h2, h3⟩ := h
    subst h1
    exact ⟨y, t.eraseIdx i, rfl, h2, RepVs.eraseIdx i h3⟩
theorem RepVs.dropLast {ws : List W} {vs : List V} (h : RepVs m H ws vs) : RepVs m H ws.dropLast vs.dropLast := by
  rw [List.dropLast_eq_take, List.dropLast_eq_take, h.length]
  exact h.take _
theorem RepVs.reverse : ∀ {ws : List W} {vs : List V}, RepVs m H ws vs → RepVs m H ws.reverse vs.reverse
  | [], vs, h => by rw [show vs = [] from h]; rfl
  | w :: ws, vs, h => by
    obtain ⟨v, r, h1, h2, h3⟩ := h
    subst h1
    rw [List.reverse_cons, List.reverse_cons]
    exact (RepVs.reverse h3).append (RepVs.one h2)
theorem RepVs.rep {ws : List W} {vs : List V} (h : RepVs m H ws vs) : ∀ n : Nat, RepVs m H (List.replicate n ws).flatten (List.replicate n vs).flatten
  | 0 => rfl
  | n + 1 => by
    rw [List.replicate_succ, List.replicate_succ, List.flatten_cons, List.flatten_cons]
    exact h.append (RepVs.rep h n)
theorem RepVs.ints : ∀ {ws : List W} {vs : List V} {ns : List Int}, RepVs m H ws vs → intsOf ws = some ns → vs = ns.map V.int
  | [], vs, ns, h, e => by
    have e' : some [] = some ns := e
    cases e'
    exact h
  | w :: ws, vs, ns, h, e => by
    obtain ⟨v, r, h1, h2, h3⟩ := h
    cases w with
    | int i =>
      have e' : (intsOf ws).map (i :: ·) = some ns := e
      cases q : intsOf ws with
      | none => rw [q] at e'; cases e'
      | some l =>
        rw [q] at e'; cases e'
        rw [h1, RepVs.ints h3 q]
        have : v = .int i := h2
        rw [this]; rfl
    | _ => cases e
theorem RepVs.bls : ∀ {ws : List W} {vs : List V} {ns : List Bool}, RepVs m H ws vs → blsOf ws = some ns → vs = ns.map V.bl
  | [], vs, ns, h, e => by
    have e' : some [] = some ns := e
    cases e'
    exact h
  | w :: ws, vs, ns, h, e => by
    obtain ⟨v, r, h1, h2, h3⟩ := h
    cases w with
    | bl i =>
      have e' : (blsOf ws).map (i :: ·) = some ns := e
      cases q : blsOf ws with
      | none => rw [q] at e'; cases e'
      | some l =>
        rw [q] at e'; cases e'
        rw [h1, RepVs.bls h3 q]
        have : v = .bl i := h2
        rw [this]; rfl
    | _ => cases e
theorem RepVs.cons_inv {w : W} {ws : List W} {vs : List V} (h : RepVs m H (w :: ws) vs) : ∃ v r, vs = v :: r ∧ RepV m H w v ∧ RepVs m H ws r := h
theorem RepVs.nil_inv {vs : List V} (h : RepVs m H [] vs) : vs = [] := h

/-! ### what is wanted behind a step -/
/-- an exception's fields, at its own dict -/
def RepX (T : Tb) (m : List Addr) (H : Hp) (c : Nat) (fs : List (Nat × W)) (cls : Value) (d : Option Addr) : Prop :=
  cls = .ref (T.ca c) ∧ ∃ dd gs, d = some dd ∧ H dd = some (.xd gs) ∧ ∀ f w, getF f fs = some w → ∃ v, gs.lookup (T.nm f) = some v ∧ RepV m H w v
def PostR {α β : Type} (T : Tb) (rel : List Addr → Hp → α → β → Prop) (m : List Addr) (H : Hp) (W : Value → Option Addr → Hp → Prop) (Q : β → Hp → Prop) : R α → Prop
  | .ok w S' => ∀ m' H' v, Grow m H m' H' → SimS T m' S' H' → rel m' H' w v → Q v H'
  | .exn c fs S' => ∀ m' H' cls d, Grow m H m' H' → SimS T m' S' H' → RepX T m' H' c fs cls d → W cls d H'
  | .bad => False
theorem PostR.bind {α β γ δ : Type} {rel : List Addr → Hp → α → β → Prop} {rel' : List Addr → Hp → γ → δ → Prop} {W : Value → Option Addr → Hp → Prop} {Q : δ → Hp → Prop} {r : R α} {f : α → Store → R γ}
    (h : PostR T rel' m H W Q (r.bind f)) : PostR T rel m H W (fun v H1 => ∃ m1 w S1, Grow m H m1 H1 ∧ SimS T m1 S1 H1 ∧ rel m1 H1 w v ∧ PostR T rel' m1 H1 W Q (f w S1)) r := by
  cases r with
  | ok w S1 =>
    intro m1 H1 v g s rv
    refine ⟨m1, w, S1, g, s, rv, ?_⟩
    have h' : PostR T rel' m H W Q (f w S1) := h
    cases e : f w S1 with
    | ok u S2 =>
      rw [e] at h'
      exact fun m2 H2 x g2 s2 r2 => h' m2 H2 x (g.trans g2) s2 r2
    | exn c fs S2 =>
      rw [e] at h'
      exact fun m2 H2 cls d g2 s2 r2 => h' m2 H2 cls d (g.trans g2) s2 r2
    | bad => rw [e] at h'; exact h'
  | exn c fs S1 => exact h
  | bad => exact h
theorem PostR.mono {α β : Type} {rel : List Addr → Hp → α → β → Prop} {W : Value → Option Addr → Hp → Prop} {Q Q' : β → Hp → Prop} {r : R α}
    (h : PostR T rel m H W Q r) (q : ∀ v H, Q v H → Q' v H) : PostR T rel m H W Q' r := by
  cases r with
  | ok w S1 => exact fun m' H' v g s rv => q _ _ (h m' H' v g s rv)
  | exn c fs S1 => exact h
  | bad => exact h
end
end Mp
end
section
set_option Elab.async false
set_option linter.all false
set_option maxRecDepth 100000
set_option exponentiation.threshold 5000
/-! Each operation of our own language is the model's. -/
namespace Mp
open PySem L2

def Bop.op : Bop → Operator
  | .add => .Add | .sub => .Sub | .mul => .Mult | .fdiv => .FloorDiv | .mod => .Mod | .pow => .Pow | .shl => .LShift | .shr => .RShift | .band => .BitAnd | .bor => .BitOr | .bxor => .BitXor
def Cop.op : Cop → CmpOp
  | .eq => .Eq | .ne => .NotEq | .lt => .Lt | .le => .LtE | .gt => .Gt | .ge => .GtE | .is => .Is | .isnot => .IsNot | .isin => .In | .notin => .NotIn

theorem lim_le {n : Nat} (h : n ≤ lim) : n ≤ sizeLine := Nat.le_trans h (by decide)
theorem lim_lt {n : Nat} (h : n < lim) : n < sizeLine := Nat.lt_of_lt_of_le h (by decide)
theorem guardR_inv {α β : Type} {T : Tb} {rel : List Addr → Hp → α → β → Prop} {m : List Addr} {H : Hp} {W : Value → Option Addr → Hp → Prop} {Q : β → Hp → Prop} {c : Prop} [Decidable c] {r : R α}
    (h : PostR T rel m H W Q (guardR c r)) : c ∧ PostR T rel m H W Q r := by
  by_cases hc : c
  · rw [guardR_pos hc] at h; exact ⟨hc, h⟩
  · unfold guardR at h; rw [if_neg hc] at h; exact h.elim

abbrev Wz := Value → Option Addr → Hp → Prop
section
variable {X : Cx} {T : Tb} {m : List Addr} {S : Store} {H : Hp} {Z : Wz}
/-- a value handed on, the heap as it is -/
theorem post_here {w : W} {v : V} {Q : VK} (h : PostR T RepV m H Z Q (.ok w S)) (s : SimS T m S H) (r : RepV m H w v) : Q v H := h m H v Grow.refl s r
/-- a new tuple -/
theorem post_tup {ws : List W} {vs : List V} {Q : VK} (h : PostR T RepV m H Z Q (.ok (.tup ws) S)) (s : SimS T m S H) (r : RepVs m H ws vs) {p : Addr} (hp : H p = none) : Q (.ref p) (upd H p (.tup vs)) :=
  h m _ _ (grow_tup s hp) (s.off hp) ⟨p, vs, rfl, upd_same, r.grow s (grow_tup s hp)⟩
/-- a new list -/
theorem post_lst {ws : List W} {vs : List V} {Q : VK} (h : PostR T RepV m H Z Q (.ok (.ref S.length) (S ++ [.lst ws]))) (s : SimS T m S H) (r : RepVs m H ws vs) {p : Addr} (hp : H p = none) : Q (.ref p) (upd H p (.lst vs)) :=
  h _ _ _ (grow_new s hp) (s.alloc hp ⟨vs, upd_same, r.grow s (grow_new s hp)⟩) ⟨p, s.last, rfl⟩
theorem listAt_inv {a : Nat} {ws : List W} {v : V} {K : PySem.W.Frag} (e : listAt S a = some ws) (s : SimS T m S H) (r : RepV m H (.ref a) v) : ∃ b vs, v = .ref b ∧ SqL K H b vs ∧ RepVs m H ws vs := by
  obtain ⟨b, hb, rfl⟩ := r
  unfold listAt at e
  cases q : S[a]? with
  | none => rw [q] at e; cases e
  | some o =>
    rw [q] at e
    cases o with
    | lst us =>
      cases e
      obtain ⟨vs, h1, h2⟩ := s.at_ a _ b q hb
      exact ⟨b, vs, rfl, SqL.of h1, h2⟩
    | fro us =>
      cases e
      obtain ⟨o, vs, h1, h2⟩ := s.at_ a _ b q hb
      exact ⟨b, vs, rfl, .inl (.inr ⟨o, h1⟩), h2⟩
    | _ => cases e
theorem lst_inv {a : Nat} {ws : List W} {v : V} (e : S[a]? = some (.lst ws)) (s : SimS T m S H) (r : RepV m H (.ref a) v) : ∃ b vs, v = .ref b ∧ m[a]? = some b ∧ H b = some (.lst vs) ∧ RepVs m H ws vs := by
  obtain ⟨b, hb, rfl⟩ := r
  obtain ⟨vs, h1, h2⟩ := s.at_ a _ b e hb
  exact ⟨b, vs, rfl, hb, h1, h2⟩
/-- what is read: a two-place operation -/
def rTwo (T : Tb) (f : W → W → Store → R W) : R2 := fun v u H Q => ∃ (Z : Wz) (m : List Addr) (S : Store) (x y : W), SimS T m S H ∧ RepV m H x v ∧ RepV m H y u ∧ PostR T RepV m H Z Q (f x y S)
theorem big_lt {n : Nat} (h : n < big) : n < 2 ^ 4000 := h
theorem op_bin_ok (hu : X.A.units + 64 < cLine) (op : Bop) : OpR X (binaryOp op.op) (rTwo T (bin op)) := by
  rintro pins s σ H v u va ua Q I rv ru ⟨Z, m, S, x, y, ss, rx, ry, h⟩
  cases op with
  | add =>
    cases x with
    | int i => cases y with
      | int j =>
        cases (show v = .int i from rx); cases (show u = .int j from ry)
        exact op_add pins s σ H _ _ va ua Q I rv ru ⟨i, j, rfl, rfl, post_here h ss rfl⟩
      | _ => exact h.elim
    | str i => cases y with
      | str j =>
        cases (show v = .str i from rx); cases (show u = .str j from ry)
        obtain ⟨hc, h⟩ := guardR_inv h
        exact op_add_str pins s σ H _ _ va ua Q I rv ru ⟨i, j, rfl, rfl, lim_le hc, post_here h ss rfl⟩
      | _ => exact h.elim
    | tup i => cases y with
      | tup j =>
        have rx0 := rx
        have ry0 := ry
        obtain ⟨a, vs, rfl, h1, h2⟩ := rx
        obtain ⟨b, us, rfl, h3, h4⟩ := ry
        obtain ⟨hc, h⟩ := guardR_inv h
        refine op_catA pins s σ H _ _ va ua Q I rv ru ⟨a, b, vs, us, rfl, rfl, SqT.of h1, SqT.of h3, by rw [← h2.length, ← h4.length]; exact lim_le hc, fun e => ?_, fun e1 e2 => ?_, fun _ _ p hp => post_tup h ss (h2.append h4) hp⟩
        · subst e
          have e2 : i = [] := List.length_eq_zero_iff.mp (by rw [h2.length]; rfl)
          subst e2
          exact post_here h ss ry0
        · subst e2
          have e3 : j = [] := List.length_eq_zero_iff.mp (by rw [h4.length]; rfl)
          subst e3
          rw [List.append_nil] at h
          exact post_here h ss rx0
      | _ => exact h.elim
    | ref i => cases y with
      | ref j =>
        cases e1 : S[i]? with
        | none => simp only [bin, e1] at h; exact h.elim
        | some o1 => cases o1 with
          | lst xs => cases e2 : S[j]? with
            | none => simp only [bin, e1, e2] at h; exact h.elim
            | some o2 => cases o2 with
              | lst ys =>
                simp only [bin, e1, e2] at h
                obtain ⟨hc, h⟩ := guardR_inv h
                obtain ⟨a, vs, rfl, _, h1, h2⟩ := lst_inv e1 ss rx
                obtain ⟨b, us, rfl, _, h3, h4⟩ := lst_inv e2 ss ry
                exact op_cat pins s σ H _ _ va ua Q I rv ru ⟨a, b, vs, us, rfl, rfl, h1, h3, by rw [← h2.length, ← h4.length]; exact lim_le hc, fun p hp => post_lst h ss (h2.append h4) hp⟩
              | _ => simp only [bin, e1, e2] at h; exact h.elim
          | _ => simp only [bin, e1] at h; exact h.elim
      | _ => exact h.elim
    | _ => exact h.elim
  | sub => cases x with
    | int i => cases y with
      | int j =>
        cases (show v = .int i from rx); cases (show u = .int j from ry)
        exact op_sub pins s σ H _ _ va ua Q I rv ru ⟨i, j, rfl, rfl, post_here h ss rfl⟩
      | _ => exact h.elim
    | _ => exact h.elim
  | mul => cases x with
    | int i => cases y with
      | int j =>
        cases (show v = .int i from rx); cases (show u = .int j from ry)
        obtain ⟨hc, h⟩ := guardR_inv h
        exact op_mulW pins s σ H _ _ va ua Q I rv ru ⟨i, j, rfl, rfl, wide_mul (big_lt hc.1) (big_lt hc.2) (by omega) (by omega) (by omega), post_here h ss rfl⟩
      | _ => exact h.elim
    | ref i => cases y with
      | int j =>
        cases (show u = .int j from ry)
        cases e1 : S[i]? with
        | none => simp only [bin, e1] at h; exact h.elim
        | some o1 => cases o1 with
          | lst xs =>
            simp only [bin, e1] at h
            obtain ⟨hc, h⟩ := guardR_inv h
            obtain ⟨a, vs, rfl, _, h1, h2⟩ := lst_inv e1 ss rx
            exact op_rep pins s σ H _ _ va ua Q I rv ru ⟨a, j, vs, rfl, rfl, h1, by omega, by omega, by rw [← h2.length]; exact lim_le hc.2.2, fun p hp => post_lst h ss (h2.rep _) hp⟩
          | _ => simp only [bin, e1] at h; exact h.elim
      | _ => exact h.elim
    | _ => exact h.elim
  | fdiv => cases x with
    | int i => cases y with
      | int j =>
        cases (show v = .int i from rx); cases (show u = .int j from ry)
        obtain ⟨hc, h⟩ := guardR_inv h
        exact op_fdivW pins s σ H _ _ va ua Q I rv ru ⟨i, j, rfl, rfl, wide_div hc.1 (big_lt hc.2) (by omega) (by omega), post_here h ss rfl⟩
      | _ => exact h.elim
    | _ => exact h.elim
  | mod => cases x with
    | int i => cases y with
      | int j =>
        cases (show v = .int i from rx); cases (show u = .int j from ry)
        obtain ⟨hc, h⟩ := guardR_inv h
        exact op_mod pins s σ H _ _ va ua Q I rv ru ⟨i, j, rfl, rfl, hc, post_here h ss rfl⟩
      | _ => exact h.elim
    | _ => exact h.elim
  | pow => cases x with
    | int i => cases y with
      | int j =>
        cases (show v = .int i from rx); cases (show u = .int j from ry)
        obtain ⟨hc, h⟩ := guardR_inv h
        exact op_pow pins s σ H _ _ va ua Q I rv ru ⟨i, j, rfl, rfl, ⟨hc.1, Int.le_trans hc.2.1 (by decide), hc.2.2⟩, post_here h ss rfl⟩
      | _ => exact h.elim
    | _ => exact h.elim
  | shl => cases x with
    | int i => cases y with
      | int j =>
        cases (show v = .int i from rx); cases (show u = .int j from ry)
        obtain ⟨hc, h⟩ := guardR_inv h
        have hj : ((j.toNat : Nat) : Int) = j := Int.toNat_of_nonneg hc.1
        have hs := shl_ok (i := i) (j := j.toNat) (n := 4000) (big_lt hc.2.2) (by omega)
        rw [hj] at hs
        exact op_shlW pins s σ H _ _ va ua Q I rv ru ⟨i, j, rfl, rfl, hs, post_here h ss rfl⟩
      | _ => exact h.elim
    | _ => exact h.elim
  | shr => cases x with
    | int i => cases y with
      | int j =>
        cases (show v = .int i from rx); cases (show u = .int j from ry)
        obtain ⟨hc, h⟩ := guardR_inv h
        exact op_shr pins s σ H _ _ va ua Q I rv ru ⟨i, j, rfl, rfl, hc, post_here h ss rfl⟩
      | _ => exact h.elim
    | _ => exact h.elim
  | band => cases x with
    | int i => cases y with
      | int j =>
        cases (show v = .int i from rx); cases (show u = .int j from ry)
        exact op_and pins s σ H _ _ va ua Q I rv ru ⟨i, j, rfl, rfl, post_here h ss rfl⟩
      | _ => exact h.elim
    | _ => exact h.elim
  | bor => cases x with
    | int i => cases y with
      | int j =>
        cases (show v = .int i from rx); cases (show u = .int j from ry)
        exact op_or pins s σ H _ _ va ua Q I rv ru ⟨i, j, rfl, rfl, post_here h ss rfl⟩
      | _ => exact h.elim
    | _ => exact h.elim
  | bxor => cases x with
    | int i => cases y with
      | int j =>
        cases (show v = .int i from rx); cases (show u = .int j from ry)
        exact op_xor pins s σ H _ _ va ua Q I rv ru ⟨i, j, rfl, rfl, post_here h ss rfl⟩
      | _ => exact h.elim
    | _ => exact h.elim
theorem op_aug_ok (op : Bop) : PIp X op.op (rTwo T (augW op)) := by
  rintro pins s σ H v u va ua Q I rv ru ⟨Z, m, S, x, y, ss, rx, ry, h⟩
  cases x with
  | int i => cases y with
    | int j =>
      cases (show v = .int i from rx); cases (show u = .int j from ry)
      cases op with
      | add => exact iop_add pins s σ H _ _ va ua Q I rv ru ⟨i, j, rfl, rfl, post_here h ss rfl⟩
      | sub => exact iop_sub pins s σ H _ _ va ua Q I rv ru ⟨i, j, rfl, rfl, post_here h ss rfl⟩
      | _ => exact h.elim
    | _ => exact h.elim
  | _ => exact h.elim
end
end Mp
end
section
set_option Elab.async false
set_option linter.all false
set_option maxRecDepth 100000
namespace Mp
open PySem L2
section
variable {X : Cx} {T : Tb} {m : List Addr} {S : Store} {H : Hp} {Z : Wz}
/-! ### == -/
theorem mapM_inv {α β : Type} {f : α → Option β} : ∀ {l : List α} {r : List β}, l.mapM f = some r → Paired (fun a b => f a = some b) l r
  | [], r, h => by
    simp at h
    subst h
    exact .nil
  | a :: l, r, h => by
    rw [List.mapM_cons] at h
    cases e : f a with
    | none => rw [e] at h; cases h
    | some b =>
      rw [e] at h
      cases e2 : l.mapM f with
      | none => rw [e2] at h; cases h
      | some bs =>
        rw [e2] at h
        cases h
        exact .cons e (mapM_inv e2)
mutual
theorem dp_of {K : PySem.W.Frag} (s : SimS T m S H) : ∀ (n : Nat) {w : W} {v : V} {d : PyData}, toD n S w = some d → RepV m H w v → Dp K H v d
  | 0, _, _, _, h, _ => by cases h
  | n + 1, .non, v, d, h, r => by cases h; cases (show v = .non from r); exact .non
  | n + 1, .bl b, v, d, h, r => by cases h; cases (show v = .bl b from r); exact .bl b
  | n + 1, .int i, v, d, h, r => by cases h; cases (show v = .int i from r); exact .int i
  | n + 1, .str x, v, d, h, r => by cases h; cases (show v = .str x from r); exact .str x
  | n + 1, .tup ws, v, d, h, r => by
    have h' : (ws.mapM (toD n S)).map PyData.tuple = some d := h
    cases e : ws.mapM (toD n S) with
    | none => rw [e] at h'; cases h'
    | some ds =>
      rw [e] at h'; cases h'
      obtain ⟨a, vs, rfl, h1, h2⟩ := r
      exact .tup (SqT.of h1) (dps_of s n (mapM_inv e) h2)
  | n + 1, .ref a, v, d, h, r => by
    have h' : ((listAt S a).bind fun ws => (ws.mapM (toD n S)).map PyData.list) = some d := h
    cases e0 : listAt S a with
    | none => rw [e0] at h'; cases h'
    | some ws =>
      rw [e0] at h'
      have h'' : (ws.mapM (toD n S)).map PyData.list = some d := h'
      cases e : ws.mapM (toD n S) with
      | none => rw [e] at h''; cases h''
      | some ds =>
        rw [e] at h''; cases h''
        obtain ⟨b, vs, rfl, h1, h2⟩ := listAt_inv (K := K) e0 s r
        exact .lst h1 (dps_of s n (mapM_inv e) h2)
theorem dps_of {K : PySem.W.Frag} (s : SimS T m S H) : ∀ (n : Nat) {ws : List W} {vs : List V} {ds : List PyData}, Paired (fun a b => toD n S a = some b) ws ds → RepVs m H ws vs → DpAll K H vs ds
  | n, [], vs, _, .nil, r => by rw [show vs = [] from r]; exact .nil
  | n, w :: ws, vs, _, .cons e t, r => by
    obtain ⟨v, rr, rfl, h1, h2⟩ := r
    exact .cons (dp_of s n e h1) (dps_of s n t h2)
end
theorem eqv_int (i j : Int) : PyData.eqv (.int i) (.int j) = decide (i = j) := by
  show (i == j) = _
  exact Bool.beq_eq_decide_eq i j
theorem dec_str2 {i j : Str} : decide (V.str i = V.str j) = decide (i = j) := by
  by_cases h : i = j
  · subst h; simp
  · rw [decide_eq_false h, decide_eq_false fun z => h (by injection z)]
theorem eqv_str (i j : Str) : PyData.eqv (.str i) (.str j) = decide (i = j) := by
  show (i == j) = _
  by_cases h : i = j
  · subst h; simp
  · rw [decide_eq_false h]; simpa using h
/-- the data behind ==, and the answer -/
theorem eqW_inv {K : PySem.W.Frag} (s : SimS T m S H) {x y : W} {v u : V} {b : Bool} (h : eqW S x y = some b) (rx : RepV m H x v) (ry : RepV m H y u) :
    (∃ i j, v = .str i ∧ u = .str j ∧ b = decide (i = j)) ∨ ∃ d e, Dp K H v d ∧ Dp K H u e ∧ SeqAt.shaped d = true ∧ SeqAt.shaped e = true ∧ PyData.eqv d e = b := by
  have deep : (match toD 12 S x, toD 12 S y with
      | some d, some e => if SeqAt.shaped d = true ∧ SeqAt.shaped e = true then some (PyData.eqv d e) else none
      | _, _ => none) = some b → ∃ d e, Dp K H v d ∧ Dp K H u e ∧ SeqAt.shaped d = true ∧ SeqAt.shaped e = true ∧ PyData.eqv d e = b := fun h => by
    cases e1 : toD 12 S x with
    | none => rw [e1] at h; cases h
    | some d =>
      cases e2 : toD 12 S y with
      | none => rw [e1, e2] at h; cases h
      | some e =>
        rw [e1, e2] at h
        have h' : (if SeqAt.shaped d = true ∧ SeqAt.shaped e = true then some (PyData.eqv d e) else none) = some b := h
        by_cases hc : SeqAt.shaped d = true ∧ SeqAt.shaped e = true
        · rw [if_pos hc] at h'
          cases h'
          exact ⟨d, e, dp_of s 12 e1 rx, dp_of s 12 e2 ry, hc.1, hc.2, rfl⟩
        · rw [if_neg hc] at h'; cases h'
  cases x with
  | non => cases y with
    | non => cases h; cases (show v = .non from rx); cases (show u = .non from ry); exact .inr ⟨_, _, .non, .non, by decide, by decide, rfl⟩
    | _ => exact .inr (deep h)
  | bl a => cases y with
    | bl c => cases h; cases (show v = .bl a from rx); cases (show u = .bl c from ry); exact .inr ⟨_, _, .bl _, .bl _, rfl, rfl, rfl⟩
    | _ => exact .inr (deep h)
  | int a => cases y with
    | int c => cases h; cases (show v = .int a from rx); cases (show u = .int c from ry); exact .inr ⟨_, _, .int _, .int _, rfl, rfl, eqv_int a c⟩
    | _ => exact .inr (deep h)
  | str a => cases y with
    | str c => cases h; cases (show v = .str a from rx); cases (show u = .str c from ry); exact .inl ⟨a, c, rfl, rfl, rfl⟩
    | _ => exact .inr (deep h)
  | ref a => cases y <;> exact .inr (deep h)
  | tup a => cases y <;> exact .inr (deep h)
theorem okB_inv {o : Option Bool} {Q : VK} (h : PostR T RepV m H Z Q (okB o S)) : ∃ b, o = some b ∧ PostR T RepV m H Z Q (.ok (.bl b) S) := by
  cases o with
  | none => exact h.elim
  | some b => exact ⟨b, rfl, h⟩
theorem okO_inv {o : Option W} {Q : VK} (h : PostR T RepV m H Z Q (okO o S)) : ∃ b, o = some b ∧ PostR T RepV m H Z Q (.ok b S) := by
  cases o with
  | none => exact h.elim
  | some b => exact ⟨b, rfl, h⟩
theorem flat_of {w : W} {v : V} (h : flatW w = true) (r : RepV m H w v) : flatV v = true := by
  cases w with
  | non => cases (show v = .non from r); rfl
  | bl b => cases (show v = .bl b from r); rfl
  | int b => cases (show v = .int b from r); rfl
  | str b => cases (show v = .str b from r); rfl
  | _ => cases h
theorem flats_of : ∀ {ws : List W} {vs : List V}, ws.all flatW = true → RepVs m H ws vs → vs.all flatV = true
  | [], vs, _, r => by rw [show vs = [] from r]; rfl
  | w :: ws, vs, h, r => by
    obtain ⟨v, t, rfl, h1, h2⟩ := r
    rw [List.all_cons, Bool.and_eq_true] at h ⊢
    exact ⟨flat_of h.1 h1, flats_of h.2 h2⟩
theorem eqF_of {x y : W} {v u : V} (fx : flatW x = true) (fy : flatW y = true) (rx : RepV m H x v) (ry : RepV m H y u) : eqV v u = eqF x y := by
  cases x with
  | ref a => cases fx
  | tup a => cases fx
  | non => cases (show v = .non from rx); cases y with
    | ref a => cases fy
    | tup a => cases fy
    | non => cases (show u = .non from ry); rfl
    | bl c => cases (show u = .bl c from ry); rfl
    | int c => cases (show u = .int c from ry); rfl
    | str c => cases (show u = .str c from ry); rfl
  | bl a => cases (show v = .bl a from rx); cases y with
    | ref a => cases fy
    | tup a => cases fy
    | non => cases (show u = .non from ry); rfl
    | bl c => cases (show u = .bl c from ry); rfl
    | int c => cases (show u = .int c from ry); rfl
    | str c => cases (show u = .str c from ry); rfl
  | int a => cases (show v = .int a from rx); cases y with
    | ref a => cases fy
    | tup a => cases fy
    | non => cases (show u = .non from ry); rfl
    | bl c => cases (show u = .bl c from ry); rfl
    | int c => cases (show u = .int c from ry); rfl
    | str c => cases (show u = .str c from ry); rfl
  | str a => cases (show v = .str a from rx); cases y with
    | ref a => cases fy
    | tup a => cases fy
    | non => cases (show u = .non from ry); rfl
    | bl c => cases (show u = .bl c from ry); rfl
    | int c => cases (show u = .int c from ry); rfl
    | str c =>
      cases (show u = .str c from ry)
      show (a == c) = decide (a = c)
      by_cases h : a = c
      · subst h; simp
      · rw [decide_eq_false h]; simpa using h
theorem inF_of {x : W} {u : V} (fx : flatW x = true) (rx : RepV m H x u) : ∀ {ws : List W} {vs : List V}, ws.all flatW = true → RepVs m H ws vs → inV u vs = ws.any fun y => eqF y x
  | [], vs, _, r => by rw [show vs = [] from r]; rfl
  | w :: ws, vs, h, r => by
    obtain ⟨v, t, rfl, h1, h2⟩ := r
    rw [List.all_cons, Bool.and_eq_true] at h
    have ih := inF_of fx rx h.2 h2
    unfold inV at ih ⊢
    rw [List.any_cons, List.any_cons, ih, eqF_of h.1 fx h1 rx]
theorem items_inv {x : W} {ws : List W} {v : V} {K : PySem.W.Frag} (e : itemsOf S x = some ws) (s : SimS T m S H) (r : RepV m H x v) :
    ∃ b vs, v = .ref b ∧ RepVs m H ws vs ∧ (SqL K H b vs ∨ H b = some (.tup vs)) := by
  cases x with
  | tup us =>
    cases e
    obtain ⟨a, vs, rfl, h1, h2⟩ := r
    exact ⟨a, vs, rfl, h2, .inr h1⟩
  | ref a =>
    obtain ⟨b, vs, rfl, h1, h2⟩ := listAt_inv (K := K) e s r
    exact ⟨b, vs, rfl, h2, .inl h1⟩
  | _ => cases e
theorem inW_inv {K : PySem.W.Frag} (s : SimS T m S H) {x y : W} {v u : V} {b : Bool} (h : inW S x y = some b) (rx : RepV m H x v) (ry : RepV m H y u) :
    (∃ i j, v = .str i ∧ u = .str j ∧ b = !(Builtin.Str.occurrences j i 0 j.length 1).isEmpty) ∨
    ∃ p vs, u = .ref p ∧ (SqL K H p vs ∨ SqT K H p vs) ∧ flatV v = true ∧ vs.all flatV = true ∧ b = inV v vs := by
  have deep : (match itemsOf S y with
    | some ws => if (flatW x && ws.all flatW) = true then some (ws.any fun y => eqF y x) else none
    | none => none) = some b → ∃ p vs, u = .ref p ∧ (SqL K H p vs ∨ SqT K H p vs) ∧ flatV v = true ∧ vs.all flatV = true ∧ b = inV v vs := fun h => by
    cases e : itemsOf S y with
    | none => rw [e] at h; cases h
    | some ws =>
      rw [e] at h
      have h' : (if (flatW x && ws.all flatW) = true then some (ws.any fun y => eqF y x) else none) = some b := h
      by_cases hc : (flatW x && ws.all flatW) = true
      · rw [if_pos hc] at h'
        cases h'
        rw [Bool.and_eq_true] at hc
        obtain ⟨p, vs, rfl, h2, h3⟩ := items_inv (K := K) e s ry
        refine ⟨p, vs, rfl, h3.imp id SqT.of, flat_of hc.1 rx, flats_of hc.2 h2, (inF_of hc.1 rx hc.2 h2).symm⟩
      · rw [if_neg hc] at h'; cases h'
  cases y with
  | str z => cases x with
    | str w =>
      cases (show v = .str w from rx); cases (show u = .str z from ry)
      exact .inl ⟨w, z, rfl, rfl, (Option.some.inj h).symm⟩
    | _ => cases h
  | _ => exact .inr (deep h)
theorem op_cmp_ok (hu : X.A.units + 64 < cLine) (op : Cop) : OpR X (compareOp op.op) (rTwo T (cmp op)) := by
  rintro pins s σ H v u va ua Q I rv ru ⟨Z, m, S, x, y, ss, rx, ry, h⟩
  cases op with
  | eq =>
    obtain ⟨b, e, h⟩ := okB_inv h
    rcases eqW_inv (K := X.K) ss e rx ry with ⟨i, j, rfl, rfl, rfl⟩ | ⟨d, d', h1, h2, h3, h4, h5⟩
    · exact op_eq pins s σ H _ _ va ua Q I rv ru ⟨rfl, by rw [dec_str2]; exact post_here h ss rfl⟩
    exact op_eqD hu pins s σ H _ _ va ua Q I rv ru ⟨d, d', h1, h2, h3, h4, by rw [h5]; exact post_here h ss rfl⟩
  | ne =>
    obtain ⟨b, e, h⟩ := okB_inv h
    cases e2 : eqW S x y with
    | none => rw [e2] at e; cases e
    | some c =>
      rw [e2] at e
      have e' : (!c) = b := Option.some.inj e
      rcases eqW_inv (K := X.K) ss e2 rx ry with ⟨i, j, rfl, rfl, rfl⟩ | ⟨d, d', h1, h2, h3, h4, h5⟩
      · exact op_ne pins s σ H _ _ va ua Q I rv ru ⟨rfl, by rw [dec_str2, e']; exact post_here h ss rfl⟩
      exact op_neD hu pins s σ H _ _ va ua Q I rv ru ⟨d, d', h1, h2, h3, h4, by rw [h5, e']; exact post_here h ss rfl⟩
  | lt => cases x with
    | int i => cases y with
      | int j =>
        cases (show v = .int i from rx); cases (show u = .int j from ry)
        exact op_lt pins s σ H _ _ va ua Q I rv ru ⟨i, j, rfl, rfl, post_here h ss rfl⟩
      | _ => exact h.elim
    | _ => exact h.elim
  | le => cases x with
    | int i => cases y with
      | int j =>
        cases (show v = .int i from rx); cases (show u = .int j from ry)
        exact op_le pins s σ H _ _ va ua Q I rv ru ⟨i, j, rfl, rfl, post_here h ss rfl⟩
      | _ => exact h.elim
    | str i => cases y with
      | str j =>
        cases (show v = .str i from rx); cases (show u = .str j from ry)
        exact op_le_str pins s σ H _ _ va ua Q I rv ru ⟨i, j, rfl, rfl, post_here h ss rfl⟩
      | _ => exact h.elim
    | _ => exact h.elim
  | gt => cases x with
    | int i => cases y with
      | int j =>
        cases (show v = .int i from rx); cases (show u = .int j from ry)
        exact op_gt pins s σ H _ _ va ua Q I rv ru ⟨i, j, rfl, rfl, post_here h ss rfl⟩
      | _ => exact h.elim
    | _ => exact h.elim
  | ge => cases x with
    | int i => cases y with
      | int j =>
        cases (show v = .int i from rx); cases (show u = .int j from ry)
        exact op_ge pins s σ H _ _ va ua Q I rv ru ⟨i, j, rfl, rfl, post_here h ss rfl⟩
      | _ => exact h.elim
    | _ => exact h.elim
  | is => cases y with
    | non =>
      cases (show u = .non from ry)
      refine op_isN pins s σ H _ _ va ua Q I rv ru ⟨rfl, ?_⟩
      refine post_here (Z := Z) (w := .bl (decide (v = .non))) ?_ ss rfl
      have e : isNon x = decide (v = .non) := by
        cases x with
        | non => cases (show v = .non from rx); rfl
        | bl a => cases (show v = .bl a from rx); rfl
        | int a => cases (show v = .int a from rx); rfl
        | str a => cases (show v = .str a from rx); rfl
        | ref a => obtain ⟨b, _, rfl⟩ := rx; rfl
        | tup a => obtain ⟨b, _, rfl, _⟩ := rx; rfl
      rw [← e]
      cases x <;> exact h
    | _ => cases x <;> exact h.elim
  | isnot => cases y with
    | non =>
      cases (show u = .non from ry)
      refine op_notN pins s σ H _ _ va ua Q I rv ru ⟨rfl, ?_⟩
      refine post_here (Z := Z) (w := .bl (!decide (v = .non))) ?_ ss rfl
      have e : (!isNon x) = !decide (v = .non) := by
        cases x with
        | non => cases (show v = .non from rx); rfl
        | bl a => cases (show v = .bl a from rx); rfl
        | int a => cases (show v = .int a from rx); rfl
        | str a => cases (show v = .str a from rx); rfl
        | ref a => obtain ⟨b, _, rfl⟩ := rx; rfl
        | tup a => obtain ⟨b, _, rfl, _⟩ := rx; rfl
      rw [← e]
      cases x <;> exact h
    | _ => cases x <;> exact h.elim
  | isin =>
    obtain ⟨b, e, h⟩ := okB_inv h
    rcases inW_inv (K := X.K) ss e rx ry with ⟨i, j, rfl, rfl, rfl⟩ | ⟨p, vs, rfl, h1, h2, h3, rfl⟩
    · exact op_in_str pins s σ H _ _ va ua Q I rv ru ⟨i, j, rfl, rfl, post_here h ss rfl⟩
    · exact op_in_seq pins s σ H _ _ va ua Q I rv ru ⟨p, vs, rfl, h1, h2, h3, post_here h ss rfl⟩
  | notin =>
    obtain ⟨b, e, h⟩ := okB_inv h
    cases e2 : inW S x y with
    | none => rw [e2] at e; cases e
    | some c =>
      rw [e2] at e
      have e' : (!c) = b := Option.some.inj e
      subst e'
      rcases inW_inv (K := X.K) ss e2 rx ry with ⟨i, j, rfl, rfl, rfl⟩ | ⟨p, vs, rfl, h1, h2, h3, rfl⟩
      · exact op_notIn_str pins s σ H _ _ va ua Q I rv ru ⟨i, j, rfl, rfl, post_here h ss rfl⟩
      · exact op_notIn_seq pins s σ H _ _ va ua Q I rv ru ⟨p, vs, rfl, h1, h2, h3, post_here h ss rfl⟩
/-! ### truth -/
theorem tru_of {K : PySem.W.Frag} (s : SimS T m S H) {x : W} {v : V} {b : Bool} (h : truth S x = some b) (r : RepV m H x v) : TruV K v H b := by
  cases x with
  | non => cases (show v = .non from r); exact (Option.some.inj h).symm
  | bl a => cases (show v = .bl a from r); exact (Option.some.inj h).symm
  | int a => cases (show v = .int a from r); exact (Option.some.inj h).symm
  | str a =>
    cases (show v = .str a from r)
    have h' : (if a.length ≤ lim then some (a.length != 0) else none) = some b := h
    by_cases hc : a.length ≤ lim
    · rw [if_pos hc] at h'
      cases h'
      refine ⟨lim_le hc, ?_⟩
      by_cases hz : a.length = 0
      · rw [hz]; rfl
      · have h1 : (a.length != 0) = true := by simpa using hz
        have h2 : ((a.length : Int) != 0) = true := by simp; omega
        rw [h1, h2]
    · rw [if_neg hc] at h'; cases h'
  | tup a =>
    obtain ⟨p, vs, rfl, h1, h2⟩ := r
    refine .inr (.inl ⟨vs, SqT.of h1, ?_⟩)
    have e : (!a.isEmpty) = b := Option.some.inj h
    rw [← e]
    have hl := h2.length
    cases a <;> cases vs <;> simp_all
  | ref a =>
    have h' : (match S[a]? with
      | some (.lst ws) => some (!ws.isEmpty)
      | some (.fro ws) => some (!ws.isEmpty)
      | _ => none) = some b := h
    have key : ∀ ws, listAt S a = some ws → some (!ws.isEmpty) = some b → TruV K v H b := fun ws e q => by
      obtain ⟨p, vs, rfl, h1, h2⟩ := listAt_inv (K := K) e s r
      refine .inl ⟨vs, h1, ?_⟩
      rw [← Option.some.inj q]
      have hl := h2.length
      cases ws <;> cases vs <;> simp_all
    cases e : S[a]? with
    | none => rw [e] at h'; cases h'
    | some o =>
      rw [e] at h'
      cases o with
      | lst ws => exact key ws (by unfold listAt; rw [e]) h'
      | fro ws => exact key ws (by unfold listAt; rw [e]) h'
      | _ => cases h'
end
end Mp
end
section
set_option Elab.async false
set_option linter.all false
set_option maxRecDepth 100000
set_option exponentiation.threshold 5000
namespace Mp
open PySem L2 PyProof.Rows
section
variable {X : Cx} {T : Tb} {m : List Addr} {S : Store} {H : Hp} {Z : Wz}
/-! ### keys -/
theorem keyOf_some {w : W} (h : keyK w = true) : ∃ k, keyOf w = some k := by
  cases w with
  | int i => exact ⟨_, rfl⟩
  | str i => exact ⟨_, rfl⟩
  | _ => cases h
theorem keyOf_rep {w : W} {k : Key} {v : V} (h : keyOf w = some k) (r : RepV m H w v) : v = kV k := by
  cases w with
  | int i => cases h; exact r
  | str i => cases h; exact r
  | _ => cases h
theorem keyOf_inj {w u : W} {k : Key} (h : keyOf w = some k) (g : keyOf u = some k) : w = u := by
  cases w with
  | int i => cases u with
    | int j => cases h; cases g; rfl
    | str j => cases h; cases g
    | _ => cases g
  | str i => cases u with
    | int j => cases h; cases g
    | str j => cases h; cases g; rfl
    | _ => cases g
  | _ => cases h
theorem keys_rep : ∀ {ws : List W} {ks : List Key} {vs : List V}, Paired (fun a b => keyOf a = some b) ws ks → RepVs m H ws vs → vs = ks.map kV
  | [], _, vs, .nil, r => r
  | w :: ws, _, vs, .cons e t, r => by
    obtain ⟨v, rr, rfl, h1, h2⟩ := r
    rw [List.map_cons, keyOf_rep e h1, keys_rep t h2]
theorem keys_some : ∀ {ws : List W}, ws.all keyK = true → ∃ ks, ws.mapM keyOf = some ks
  | [], _ => ⟨[], rfl⟩
  | w :: ws, h => by
    rw [List.all_cons, Bool.and_eq_true] at h
    obtain ⟨k, e⟩ := keyOf_some h.1
    obtain ⟨ks, e2⟩ := keys_some h.2
    exact ⟨k :: ks, by rw [List.mapM_cons, e, e2]; rfl⟩
theorem keysOf_some {w : W} (h : keyT w = true) : ∃ ks, keysOf w = some ks := by
  cases w with
  | tup ws => exact keys_some h
  | _ => cases h
theorem paired_inj {α β : Type} {f : α → β → Prop} (hf : ∀ a a' b, f a b → f a' b → a = a') : ∀ {l l' : List α} {r : List β}, Paired f l r → Paired f l' r → l = l'
  | _, _, _, .nil, .nil => rfl
  | _, _, _, .cons a t, .cons b u => by rw [hf _ _ _ a b, paired_inj hf t u]
theorem keysOf_inj {w u : W} {k : List Key} (h : keysOf w = some k) (g : keysOf u = some k) : w = u := by
  cases w with
  | tup ws => cases u with
    | tup us => rw [show ws = us from paired_inj (f := fun a b => keyOf a = some b) (fun a a' b x y => keyOf_inj x y) (mapM_inv h) (mapM_inv g)]
    | _ => cases g
  | _ => cases h
theorem keysOf_rep {w : W} {k : List Key} {v : V} (h : keysOf w = some k) (r : RepV m H w v) : ∃ b, v = .ref b ∧ H b = some (.tup (k.map kV)) := by
  cases w with
  | tup ws =>
    obtain ⟨a, vs, rfl, h1, h2⟩ := r
    exact ⟨a, rfl, by rw [h1, keys_rep (mapM_inv h) h2]⟩
  | _ => cases h
theorem pair_app {α β : Type} {F : α → β → Prop} : ∀ {l l' : List α} {r r' : List β}, Paired F l r → Paired F l' r' → Paired F (l ++ l') (r ++ r')
  | _, _, _, _, .nil, h => h
  | _, _, _, _, .cons a t, h => .cons a (pair_app t h)
section
variable {κ : Type} [DecidableEq κ] {f : W → Option κ} (hf : ∀ {w u k}, f w = some k → f u = some k → w = u)
include hf
theorem dec_key {w u : W} {k j : κ} (h : f w = some k) (g : f u = some j) : decide (w = u) = decide (k = j) := by
  by_cases e : k = j
  · subst e
    rw [decide_eq_true rfl, decide_eq_true (hf h g)]
  · rw [decide_eq_false e, decide_eq_false fun z => e (by subst z; rw [h] at g; exact Option.some.inj g)]
theorem look_rep {k : W} {j : κ} (hk : f k = some j) : ∀ {kvs : List (W × W)} {kvs' : List (κ × V)}, Paired (fun p q => f p.1 = some q.1 ∧ RepV m H p.2 q.2) kvs kvs' →
    ∀ {w : W}, look k kvs = some w → ∃ v, valV kvs' j = some v ∧ RepV m H w v
  | _, _, .nil, w, h => by cases h
  | p :: l, q :: r, .cons ⟨e1, e2⟩ t, w, h => by
    have e := dec_key hf e1 hk
    unfold look at h
    unfold valV
    rw [List.find?_cons] at h ⊢
    rw [e] at h
    cases hd : decide (q.1 = j) with
    | true =>
      rw [hd] at h
      cases h
      exact ⟨q.2, rfl, e2⟩
    | false =>
      rw [hd] at h
      exact look_rep hk t h
theorem any_rep {k : W} {j : κ} (hk : f k = some j) : ∀ {kvs : List (W × W)} {kvs' : List (κ × V)}, Paired (fun p q => f p.1 = some q.1 ∧ RepV m H p.2 q.2) kvs kvs' →
    (kvs.any fun p => decide (p.1 = k)) = kvs'.any fun p => decide (p.1 = j)
  | _, _, .nil => rfl
  | p :: l, q :: r, .cons ⟨e1, e2⟩ t => by
    rw [List.any_cons, List.any_cons, dec_key hf e1 hk, any_rep hk t]
theorem map_rep {k : W} {j : κ} (hk : f k = some j) {w : W} {v : V} (hw : RepV m H w v) : ∀ {kvs : List (W × W)} {kvs' : List (κ × V)}, Paired (fun p q => f p.1 = some q.1 ∧ RepV m H p.2 q.2) kvs kvs' →
    Paired (fun p q => f p.1 = some q.1 ∧ RepV m H p.2 q.2) (kvs.map fun p => if p.1 = k then (p.1, w) else p) (kvs'.map fun p => if p.1 = j then (p.1, v) else p)
  | _, _, .nil => .nil
  | p :: l, q :: r, .cons ⟨e1, e2⟩ t => by
    refine .cons ?_ (map_rep hk hw t)
    have e := dec_key hf e1 hk
    dsimp only
    by_cases hd : q.1 = j
    · have hp : p.1 = k := of_decide_eq_true (e.trans (decide_eq_true hd))
      rw [if_pos hd, if_pos hp]
      exact ⟨e1, hw⟩
    · have hp : ¬ p.1 = k := of_decide_eq_false (e.trans (decide_eq_false hd))
      rw [if_neg hd, if_neg hp]
      exact ⟨e1, e2⟩
theorem put_rep {k : W} {j : κ} (hk : f k = some j) {w : W} {v : V} (hw : RepV m H w v) {kvs : List (W × W)} {kvs' : List (κ × V)} (h : Paired (fun p q => f p.1 = some q.1 ∧ RepV m H p.2 q.2) kvs kvs') :
    Paired (fun p q => f p.1 = some q.1 ∧ RepV m H p.2 q.2) (putK k w kvs) (L2.putK kvs' j v) := by
  unfold putK L2.putK
  rw [any_rep hf hk h]
  by_cases hc : (kvs'.any fun p => decide (p.1 = j)) = true
  · rw [if_pos hc, if_pos hc]
    exact map_rep hf hk hw h
  · rw [if_neg hc, if_neg hc]
    exact pair_app h (.cons ⟨hk, hw⟩ .nil)
end
/-! ### places -/
theorem atW_eq {α : Type} (xs : List α) (i : Int) : atW xs i = atI xs i := rfl
theorem at_rep {ws : List W} {vs : List V} (r : RepVs m H ws vs) {i : Int} {w : W} (h : atW ws i = some w) : ∃ v, atI vs i = some v ∧ RepV m H w v := by
  unfold atW at h
  unfold atI
  rw [show Mp.ixN ws.length i = L2.ixN vs.length i by rw [r.length]; rfl] at h
  cases e : L2.ixN vs.length i with
  | none => rw [e] at h; cases h
  | some j =>
    rw [e] at h
    obtain ⟨v, h1, h2⟩ := r.get (show ws[j]? = some w from h)
    exact ⟨v, h1, h2⟩
theorem ix_dict (hu : X.A.units + 1 < cLine) : IxR X (fun x y H Q => ∃ a v, x = .ref a ∧ DGet H a y (some v) ∧ Q v H) := by
  intro value slice pins s σ H x y v u Q I rx ry h hs
  obtain ⟨a, z, rfl, g, q⟩ := h
  cases (show v = Value.ref a from rx)
  exact tail_any (dict_typeIs I g) PySem.F.slot_dict_getitem.lookup (d_getItem hu I g ry fun w' s3 I3 rw' => ⟨z, H, I3, rw', q⟩) hs
theorem index_ok (hu : X.A.units + 1 < cLine) : IxR X (rTwo T index) := by
  rintro value slice pins s σ H v u va ua Q I rv ru ⟨Z, m, S, x, y, ss, rx, ry, h⟩ hs
  cases x with
  | tup ws => cases y with
    | int j =>
      cases (show u = .int j from ry)
      obtain ⟨w, e, h⟩ := okO_inv h
      obtain ⟨a, vs, rfl, h1, h2⟩ := rx
      obtain ⟨z, e1, e2⟩ := at_rep h2 e
      exact ix_tup value slice pins s σ H _ _ va ua Q I rv ru ⟨a, vs, j, z, rfl, rfl, SqT.of h1, e1, post_here h ss e2⟩ hs
    | _ => exact h.elim
  | str z => cases y with
    | int j =>
      cases (show v = .str z from rx); cases (show u = .int j from ry)
      obtain ⟨hc, h⟩ := guardR_inv h
      obtain ⟨w, e, h⟩ := okO_inv h
      cases e1 : atW z.cps.toList j with
      | none => rw [e1] at e; cases e
      | some c =>
        rw [e1] at e
        cases e
        exact ix_str value slice pins s σ H _ _ va ua Q I rv ru ⟨z, j, c, rfl, rfl, lim_le hc, e1, post_here h ss rfl⟩ hs
    | _ => exact h.elim
  | ref a =>
    have list : ∀ ws, listAt S a = some ws → ∀ j, y = .int j → PostR T RepV m H Z Q (okO (atW ws j) S) → wpAny (model X.prog X.w) X.A (subscriptTail value slice va ua) (EP X pins σ Q) X.xe s := fun ws e j ey hh => by
      subst ey
      cases (show u = .int j from ry)
      obtain ⟨w, e0, h⟩ := okO_inv hh
      obtain ⟨b, vs, rfl, h1, h2⟩ := listAt_inv (K := X.K) e ss rx
      obtain ⟨z, e1, e2⟩ := at_rep h2 e0
      exact ix_list value slice pins s σ H _ _ va ua Q I rv ru ⟨b, vs, j, z, rfl, rfl, h1, e1, post_here h ss e2⟩ hs
    cases e : S[a]? with
    | none => simp only [index, e] at h; exact h.elim
    | some o => cases o with
      | lst ws => cases y with
        | int j => simp only [index, e] at h; exact list ws (by unfold listAt; rw [e]) j rfl h
        | _ => simp only [index, e] at h; exact h.elim
      | fro ws => cases y with
        | int j => simp only [index, e] at h; exact list ws (by unfold listAt; rw [e]) j rfl h
        | _ => simp only [index, e] at h; exact h.elim
      | ins c fs => simp only [index, e] at h; exact h.elim
      | dT kvs =>
        simp only [index, e] at h
        obtain ⟨hc, h⟩ := guardR_inv h
        obtain ⟨w, e0, h⟩ := okO_inv h
        obtain ⟨b, hb, rfl⟩ := rx
        obtain ⟨kvs', h1, h2⟩ := ss.at_ a _ b e hb
        obtain ⟨k, hk⟩ := keysOf_some hc
        obtain ⟨d, rfl, h3⟩ := keysOf_rep hk ry
        obtain ⟨z, e1, e2⟩ := look_rep (f := keysOf) keysOf_inj hk h2 e0
        exact ix_dict hu value slice pins s σ H _ _ va ua Q I rv ru ⟨b, z, rfl, by rw [← e1]; exact DGet.t h1 h3, post_here h ss e2⟩ hs
      | dK kvs =>
        simp only [index, e] at h
        obtain ⟨hc, h⟩ := guardR_inv h
        obtain ⟨w, e0, h⟩ := okO_inv h
        obtain ⟨b, hb, rfl⟩ := rx
        obtain ⟨kvs', h1, h2⟩ := ss.at_ a _ b e hb
        obtain ⟨k, hk⟩ := keyOf_some hc
        cases keyOf_rep hk ry
        obtain ⟨z, e1, e2⟩ := look_rep (f := keyOf) keyOf_inj hk h2 e0
        exact ix_dict hu value slice pins s σ H _ _ va ua Q I rv ru ⟨b, z, rfl, by rw [← e1]; exact DGet.k h1, post_here h ss e2⟩ hs
  | _ => cases y <;> exact h.elim
/-- .. the same, not at a subscript -/
theorem get_list {pins : List (Addr × Obj)} {s : Shared} {σ : L2.St} {b : Addr} {vs : List V} {j : Int} {z : V} {t : Tok} {Q : VK} (I : L2.Inv X pins σ H s) (h : SqL X.K H b vs) (e : atI vs j = some z) (q : Q z H) :
    wpAny (model X.prog X.w) X.A (getItem (.ref b) (.int j t)) (EP X pins σ Q) X.xe s := by
  obtain ⟨its, r, pl, hz⟩ := I.list h
  obtain ⟨k, h1, h2, h3, h4, h5⟩ := atI_get e
  obtain ⟨w, ew, rw'⟩ := r.get h2
  have hl := r.length
  have hn := line63
  have fin : EP X pins σ Q w s := ⟨z, H, I, rw', q⟩
  by_cases h0 : 0 ≤ j
  · have hj : j.toNat = k := by
      rw [seqIndex_of h0 h5] at h1
      exact Option.some.inj h1
    exact wpAny_getItem_list pl.isList h0 (by omega) (by rw [hj]; simpa using ew) fin
  · have hj : (j + (its.toArray.size : Int)).toNat = k := by
      rw [seqIndex_neg (by omega) h4] at h1
      rw [List.size_toArray, ← hl]
      exact Option.some.inj h1
    exact wpAny_getItem_list_neg pl.isList (by omega) (by rw [List.size_toArray] <;> omega) (by omega) (by rw [hj]; simpa using ew) fin
theorem get_ok (hu : X.A.units + 1 < cLine) : PGet X (rTwo T getAt) := by
  rintro pins s σ H v u va ua Q I rv ru ⟨Z, m, S, x, y, ss, rx, ry, h⟩
  cases x with
  | ref a =>
    have h : PostR T RepV m H Z Q (index (.ref a) y S) := h
    have list : ∀ ws, listAt S a = some ws → ∀ j, y = .int j → PostR T RepV m H Z Q (okO (atW ws j) S) → wpAny (model X.prog X.w) X.A (getItem va ua) (EP X pins σ Q) X.xe s := fun ws e j ey hh => by
      subst ey
      cases (show u = .int j from ry)
      obtain ⟨w, e0, h⟩ := okO_inv hh
      obtain ⟨b, vs, rfl, h1, h2⟩ := listAt_inv (K := X.K) e ss rx
      obtain ⟨z, e1, e2⟩ := at_rep h2 e0
      cases (show va = Value.ref b from rv)
      obtain ⟨t, rfl⟩ := ru
      exact get_list I h1 e1 (post_here h ss e2)
    cases e : S[a]? with
    | none => simp only [index, e] at h; exact h.elim
    | some o => cases o with
      | lst ws => cases y with
        | int j => simp only [index, e] at h; exact list ws (by unfold listAt; rw [e]) j rfl h
        | _ => simp only [index, e] at h; exact h.elim
      | fro ws => cases y with
        | int j => simp only [index, e] at h; exact list ws (by unfold listAt; rw [e]) j rfl h
        | _ => simp only [index, e] at h; exact h.elim
      | ins c fs => simp only [index, e] at h; exact h.elim
      | dT kvs =>
        simp only [index, e] at h
        obtain ⟨hc, h⟩ := guardR_inv h
        obtain ⟨w, e0, h⟩ := okO_inv h
        obtain ⟨b, hb, rfl⟩ := rx
        obtain ⟨kvs', h1, h2⟩ := ss.at_ a _ b e hb
        obtain ⟨k, hk⟩ := keysOf_some hc
        obtain ⟨d, rfl, h3⟩ := keysOf_rep hk ry
        obtain ⟨z, e1, e2⟩ := look_rep (f := keysOf) keysOf_inj hk h2 e0
        cases (show va = Value.ref b from rv)
        exact d_getItem hu I (by rw [← e1]; exact DGet.t h1 h3) ru fun w' s3 I3 rw' => ⟨z, H, I3, rw', post_here h ss e2⟩
      | dK kvs =>
        simp only [index, e] at h
        obtain ⟨hc, h⟩ := guardR_inv h
        obtain ⟨w, e0, h⟩ := okO_inv h
        obtain ⟨b, hb, rfl⟩ := rx
        obtain ⟨kvs', h1, h2⟩ := ss.at_ a _ b e hb
        obtain ⟨k, hk⟩ := keyOf_some hc
        cases keyOf_rep hk ry
        obtain ⟨z, e1, e2⟩ := look_rep (f := keyOf) keyOf_inj hk h2 e0
        cases (show va = Value.ref b from rv)
        exact d_getItem hu I (by rw [← e1]; exact DGet.k h1) ru fun w' s3 I3 rw' => ⟨z, H, I3, rw', post_here h ss e2⟩
  | _ => exact h.elim
/-! ### stores -/
def RelU : List Addr → Hp → Unit → Unit → Prop := fun _ _ _ _ => True
def rSet (T : Tb) : TSet := fun o i v H Q => ∃ (Z : Wz) (m : List Addr) (S : Store) (x y w : W), SimS T m S H ∧ RepV m H x o ∧ RepV m H y i ∧ RepV m H w v ∧ PostR T RelU m H Z (fun _ H' => Q H') (setAt x y w S)
theorem post_upd {n : Nat} {a : Addr} {o : HO} {ob : Ob} {Q : Hp → Prop} (h : PostR T RelU m H Z (fun _ H' => Q H') (.ok () (S.set n ob))) (s : SimS T m S H) (ha : m[n]? = some a) (ho : SimO T m (upd H a o) ob a) : Q (upd H a o) :=
  h m _ () (grow_set s ha) (s.upd ha ho) True.intro
theorem set_ok (hu : X.A.units + 1 < cLine) : PSet X (rSet T) := by
  rintro pins s σ H o i v ov iv u Q I ro ri rv ⟨Z, m, S, x, y, w, ss, rx, ry, rw', h⟩
  cases x with
  | ref a =>
    cases e : S[a]? with
    | none => simp only [setAt, e] at h; exact h.elim
    | some ob => cases ob with
      | lst ws => cases y with
        | int j =>
          simp only [setAt, e] at h
          cases ek : Mp.ixN ws.length j with
          | none => rw [ek] at h; exact h.elim
          | some k =>
            rw [ek] at h
            cases (show i = .int j from ry)
            obtain ⟨b, vs, rfl, hb, h1, h2⟩ := lst_inv e ss rx
            refine set_list pins s σ H _ _ _ ov iv u Q I ro ri rv ⟨b, vs, j, k, rfl, rfl, h1, by rw [← h2.length]; exact ek, ?_⟩
            exact post_upd h ss hb ⟨_, upd_same, (h2.grow ss (grow_set ss hb)).set k (rw'.grow ss (grow_set ss hb))⟩
        | _ => simp only [setAt, e] at h; exact h.elim
      | dT kvs =>
        simp only [setAt, e] at h
        obtain ⟨⟨hc, hl⟩, h⟩ := guardR_inv h
        obtain ⟨b, hb, rfl⟩ := rx
        obtain ⟨kvs', h1, h2⟩ := ss.at_ a _ b e hb
        obtain ⟨k, hk⟩ := keysOf_some hc
        obtain ⟨d, rfl, h3⟩ := keysOf_rep hk ry
        cases (show ov = Value.ref b from ro)
        refine d_setItem hu I (DPut.t h1 h3 (by rw [← Paired.length h2]; exact lim_lt hl)) ri rv fun s4 I4 => ⟨_, I4, ?_⟩
        exact post_upd h ss hb ⟨_, upd_same, put_rep (f := keysOf) keysOf_inj hk (rw'.grow ss (grow_set ss hb)) (Paired.mapP h2 fun _ _ z => ⟨z.1, z.2.grow ss (grow_set ss hb)⟩)⟩
      | dK kvs =>
        simp only [setAt, e] at h
        obtain ⟨⟨hc, hl⟩, h⟩ := guardR_inv h
        obtain ⟨b, hb, rfl⟩ := rx
        obtain ⟨kvs', h1, h2⟩ := ss.at_ a _ b e hb
        obtain ⟨k, hk⟩ := keyOf_some hc
        cases keyOf_rep hk ry
        cases (show ov = Value.ref b from ro)
        refine d_setItem hu I (DPut.k h1 (by rw [← Paired.length h2]; exact lim_lt hl)) ri rv fun s4 I4 => ⟨_, I4, ?_⟩
        exact post_upd h ss hb ⟨_, upd_same, put_rep (f := keyOf) keyOf_inj hk (rw'.grow ss (grow_set ss hb)) (Paired.mapP h2 fun _ _ z => ⟨z.1, z.2.grow ss (grow_set ss hb)⟩)⟩
      | _ => simp only [setAt, e] at h; exact h.elim
  | _ => exact h.elim
end
end Mp
end
section
set_option Elab.async false
set_option linter.all false
set_option maxRecDepth 100000
set_option exponentiation.threshold 5000
namespace Mp
open PySem L2 PyProof.Rows
section
variable {X : Cx} {T : Tb} {m : List Addr} {S : Store} {H : Hp} {Z : Wz}
/-! ### slices -/
theorem clip_eq (n d : Nat) (o : Option Int) : clipI n d o = HT.sIx n d o := by cases o <;> rfl
theorem cut_rep {ws : List W} {vs : List V} (r : RepVs m H ws vs) (lo hi : Option Int) : RepVs m H (cutW ws lo hi) (cutV vs lo hi) := by
  unfold cutW cutV
  rw [clip_eq, clip_eq, r.length]
  exact (r.drop _).take _
def rSl (T : Tb) : V → Option Int → Option Int → Hp → VK → Prop := fun v lo hi H Q => ∃ (Z : Wz) (m : List Addr) (S : Store) (x : W), SimS T m S H ∧ RepV m H x v ∧ PostR T RepV m H Z Q (sliceW x lo hi S)
theorem whole {α : Type} (l : List α) (a b : Nat) (h : a = 0 ∧ b = l.length) : (l.drop a).take (b - a) = l := by
  obtain ⟨rfl, rfl⟩ := h
  simp
theorem slice_ok : SlR X (rSl T) := by
  rintro pins s σ H v va vl vu lo hi sl Q I rv hs pl pu ⟨Z, m, S, x, ss, rx, h⟩
  cases x with
  | tup ws =>
    have rx0 := rx
    obtain ⟨a, vs, rfl, h1, h2⟩ := rx
    refine sl_tupA pins s σ H _ va vl vu lo hi sl Q I rv hs pl pu ⟨a, vs, rfl, SqT.of h1, fun hw => ?_, fun _ p hp => post_tup h ss (cut_rep h2 lo hi) hp⟩
    have e : cutW ws lo hi = ws := by
      unfold cutW
      rw [clip_eq, clip_eq]
      rw [← h2.length] at hw
      exact whole ws _ _ hw
    have h : PostR T RepV m H Z Q (.ok (.tup (cutW ws lo hi)) S) := h
    rw [e] at h
    exact post_here h ss rx0
  | str z =>
    cases (show v = .str z from rx)
    obtain ⟨hc, h⟩ := guardR_inv h
    refine sl_str pins s σ H _ va vl vu lo hi sl Q I rv hs pl pu ⟨z, rfl, lim_le hc, ?_⟩
    have e : cutS z lo hi = ⟨(cutW z.cps.toList lo hi).toArray⟩ := by
      unfold cutS cutW
      have hl : z.cps.toList.length = z.length := by simp [Str.length]
      rw [clip_eq, clip_eq, hl]
    rw [e]
    exact post_here h ss rfl
  | ref a =>
    have h : PostR T RepV m H Z Q (match listAt S a with | some ws => .ok (.ref S.length) (S ++ [.lst (cutW ws lo hi)]) | none => .bad) := h
    cases e : listAt S a with
    | none => rw [e] at h; exact h.elim
    | some ws =>
      rw [e] at h
      obtain ⟨b, vs, rfl, h1, h2⟩ := listAt_inv (K := X.K) e ss rx
      exact sl_list pins s σ H _ va vl vu lo hi sl Q I rv hs pl pu ⟨b, vs, rfl, h1, fun p hp => post_lst h ss (cut_rep h2 lo hi) hp⟩
  | _ => exact h.elim
/-! ### built-in functions -/
def Bi.name : Bi → Str
  | .len => "len" | .int => "int" | .str => "str" | .sum => "sum" | .max1 => "max" | .min1 => "min" | .max2 => "max" | .min2 => "min" | .divmod => "divmod" | .tuple => "tuple" | .list => "list" | .all => "all" | .any => "any" | .sorted => "sorted"
/-- the built-in behind it: a class | a function -/
def Bi.cls : Bi → Option String
  | .int => some "int" | .str => some "str" | .tuple => some "tuple" | .list => some "list" | _ => none
def Bi.fn : Bi → String
  | .len => "len" | .sum => "sum" | .max1 => "max" | .min1 => "min" | .max2 => "max" | .min2 => "min" | .divmod => "divmod" | .all => "all" | .any => "any" | .sorted => "sorted" | _ => ""
def Bi.val (b : Bi) : Value := match b.cls with
  | some n => .type n
  | none => .builtin b.fn
def rCallW (T : Tb) (f : List W → Store → R W) : List V → Hp → VK → Prop := fun vs H Q => ∃ (Z : Wz) (m : List Addr) (S : Store) (ws : List W), SimS T m S H ∧ RepVs m H ws vs ∧ PostR T RepV m H Z Q (f ws S)
theorem one_inv {ws : List W} {vs : List V} {w : W} (e : ws = [w]) (r : RepVs m H ws vs) : ∃ v, vs = [v] ∧ RepV m H w v := by
  subst e
  obtain ⟨v, t, rfl, h1, h2⟩ := r
  exact ⟨v, by rw [show t = [] from h2], h1⟩
theorem two_inv {ws : List W} {vs : List V} {w u : W} (e : ws = [w, u]) (r : RepVs m H ws vs) : ∃ v z, vs = [v, z] ∧ RepV m H w v ∧ RepV m H u z := by
  subst e
  obtain ⟨v, t, rfl, h1, h2⟩ := r
  obtain ⟨z, t2, rfl, h3, h4⟩ := h2
  exact ⟨v, z, by rw [show t2 = [] from h4], h1, h3⟩
theorem ints_inv {a : Nat} {ns : List Int} {v : V} {K : PySem.W.Frag} (e : (listAt S a).bind intsOf = some ns) (s : SimS T m S H) (r : RepV m H (.ref a) v) : ∃ b, v = .ref b ∧ SqL K H b (ns.map V.int) := by
  cases e1 : listAt S a with
  | none => rw [e1] at e; cases e
  | some ws =>
    rw [e1] at e
    obtain ⟨b, vs, rfl, h1, h2⟩ := listAt_inv (K := K) e1 s r
    exact ⟨b, rfl, by rw [← h2.ints e]; exact h1⟩
theorem bls_inv {a : Nat} {ns : List Bool} {v : V} {K : PySem.W.Frag} (e : (listAt S a).bind blsOf = some ns) (s : SimS T m S H) (r : RepV m H (.ref a) v) : ∃ b, v = .ref b ∧ SqL K H b (ns.map V.bl) := by
  cases e1 : listAt S a with
  | none => rw [e1] at e; cases e
  | some ws =>
    rw [e1] at e
    obtain ⟨b, vs, rfl, h1, h2⟩ := listAt_inv (K := K) e1 s r
    exact ⟨b, rfl, by rw [← h2.bls e]; exact h1⟩
theorem maxI_mem : ∀ (l : List Int), l ≠ [] → maxI l ∈ l
  | [], h => absurd rfl h
  | [x], _ => by simp [maxI]
  | x :: y :: r, _ => by
    have ih := maxI_mem (y :: r) (by simp)
    show max x (maxI (y :: r)) ∈ _
    by_cases h : x ≤ maxI (y :: r)
    · rw [Int.max_eq_right h]; exact List.mem_cons_of_mem _ ih
    · rw [Int.max_eq_left (by omega)]; exact List.mem_cons_self
theorem maxI_le : ∀ (l : List Int), ∀ y ∈ l, y ≤ maxI l
  | [], y, h => by cases h
  | [x], y, h => by simp at h; subst h; exact Int.le_refl _
  | x :: z :: r, y, h => by
    show y ≤ max x (maxI (z :: r))
    rcases List.mem_cons.mp h with h | h
    · subst h; exact Int.le_max_left _ _
    · exact Int.le_trans (maxI_le (z :: r) y h) (Int.le_max_right _ _)
theorem minI_mem : ∀ (l : List Int), l ≠ [] → minI l ∈ l
  | [], h => absurd rfl h
  | [x], _ => by simp [minI]
  | x :: y :: r, _ => by
    have ih := minI_mem (y :: r) (by simp)
    show min x (minI (y :: r)) ∈ _
    by_cases h : x ≤ minI (y :: r)
    · rw [Int.min_eq_left h]; exact List.mem_cons_self
    · rw [Int.min_eq_right (by omega)]; exact List.mem_cons_of_mem _ ih
theorem minI_le : ∀ (l : List Int), ∀ y ∈ l, minI l ≤ y
  | [], y, h => by cases h
  | [x], y, h => by simp at h; subst h; exact Int.le_refl _
  | x :: z :: r, y, h => by
    show min x (minI (z :: r)) ≤ y
    rcases List.mem_cons.mp h with h | h
    · subst h; exact Int.min_le_left _ _
    · exact Int.le_trans (Int.min_le_right _ _) (minI_le (z :: r) y h)
theorem log2_big {i : Int} (h : i.natAbs < 2 ^ 1900) : i.natAbs.log2 < 1920 := Nat.lt_trans (PySem.Flt.log2_lt_of (by decide) h) (by decide)
theorem bits_big {i : Int} (h : i.natAbs < big) : Builtin.Int.intBits i ≤ 4000 := by
  unfold Builtin.Int.intBits
  split
  · omega
  · have := PySem.Flt.log2_lt_of (n := i.natAbs) (k := 4000) (by decide) (big_lt h)
    omega
theorem callB_ok (hc : X.calm = true) (b : Bi) : CallR X b.val (rCallW T (biF b)) := by
  rintro pins s σ H vs us Q I rv ⟨Z, m, S, ws, ss, rs, h⟩
  have bad : ∀ {P : Prop}, PostR T RepV m H Z Q (.bad : R W) → P := fun z => z.elim
  cases b with
  | len =>
    cases ws with
    | nil => exact bad h
    | cons x l => cases l with
      | cons _ _ => exact bad h
      | nil =>
        obtain ⟨v, rfl, r1⟩ := one_inv rfl rs
        have h : PostR T RepV m H Z Q (match lenW S x with | some n => .ok (.int n) S | none => .bad) := h
        cases e : lenW S x with
        | none => rw [e] at h; exact h.elim
        | some n =>
          rw [e] at h
          have fin : Q (.int (n : Nat)) H := post_here h ss rfl
          cases x with
          | tup l =>
            cases e
            obtain ⟨a, us', rfl, h1, h2⟩ := r1
            exact call_len_seq pins s σ H _ us Q I rv ⟨a, us', rfl, .inr (SqT.of h1), by rw [← h2.length]; exact fin⟩
          | str z =>
            cases (show v = .str z from r1)
            have e' : (if z.length ≤ lim then some z.length else none) = some n := e
            by_cases hz : z.length ≤ lim
            · rw [if_pos hz] at e'
              cases e'
              exact call_len_str pins s σ H _ us Q I rv ⟨z, rfl, lim_le hz, fin⟩
            · rw [if_neg hz] at e'; cases e'
          | ref a =>
            have key : ∀ l, listAt S a = some l → n = l.length → wpAny (model X.prog X.w) X.A (call (.builtin "len") us) (EP X pins σ Q) X.xe s := fun l el en => by
              obtain ⟨p, us', rfl, h1, h2⟩ := listAt_inv (K := X.K) el ss r1
              exact call_len_seq pins s σ H _ us Q I rv ⟨p, us', rfl, .inl h1, by rw [← h2.length, ← en]; exact fin⟩
            cases eo : S[a]? with
            | none => simp only [lenW, eo] at e; cases e
            | some o => cases o with
              | lst l => simp only [lenW, eo] at e; exact key l (by unfold listAt; rw [eo]) (Option.some.inj e).symm
              | fro l => simp only [lenW, eo] at e; exact key l (by unfold listAt; rw [eo]) (Option.some.inj e).symm
              | _ => simp only [lenW, eo] at e; cases e
          | _ => cases e
  | int =>
    cases ws with
    | nil => exact bad h
    | cons x l => cases l with
      | cons _ _ => cases x <;> exact bad h
      | nil =>
        obtain ⟨v, rfl, r1⟩ := one_inv rfl rs
        cases x with
        | int i => cases (show v = .int i from r1); exact call_int1 pins s σ H _ us Q I rv (.inl ⟨i, rfl, post_here h ss rfl⟩)
        | bl i => cases (show v = .bl i from r1); exact call_int1 pins s σ H _ us Q I rv (.inr ⟨i, rfl, post_here h ss rfl⟩)
        | _ => exact bad h
  | str =>
    cases ws with
    | nil => exact bad h
    | cons x l => cases l with
      | cons _ _ => cases x <;> exact bad h
      | nil =>
        obtain ⟨v, rfl, r1⟩ := one_inv rfl rs
        cases x with
        | int i =>
          cases (show v = .int i from r1)
          obtain ⟨hc, h⟩ := guardR_inv h
          exact call_str_int pins s σ H _ us Q I rv ⟨i, rfl, log2_big hc, post_here h ss rfl⟩
        | _ => exact bad h
  | sum =>
    cases ws with
    | nil => exact bad h
    | cons x l => cases l with
      | cons _ _ => cases x <;> exact bad h
      | nil =>
        obtain ⟨v, rfl, r1⟩ := one_inv rfl rs
        cases x with
        | ref a =>
          cases e : (listAt S a).bind intsOf with
          | none => simp only [biF, e] at h; exact h.elim
          | some ns =>
            simp only [biF, e] at h
            obtain ⟨p, rfl, h1⟩ := ints_inv (K := X.K) e ss r1
            exact cr_sum hc pins s σ H _ us Q I rv ⟨p, ns, rfl, h1, post_here h ss rfl⟩
        | _ => exact bad h
  | max1 =>
    cases ws with
    | nil => exact bad h
    | cons x l => cases l with
      | cons _ _ => cases x <;> exact bad h
      | nil =>
        obtain ⟨v, rfl, r1⟩ := one_inv rfl rs
        cases x with
        | ref a =>
          cases e : (listAt S a).bind intsOf with
          | none => simp only [biF, e] at h; exact h.elim
          | some ns =>
            cases ns with
            | nil => simp only [biF, e] at h; exact h.elim
            | cons n ns =>
              simp only [biF, e] at h
              obtain ⟨p, rfl, h1⟩ := ints_inv (K := X.K) e ss r1
              refine cr_max hc pins s σ H _ us Q I rv ⟨p, n :: ns, rfl, h1, Nat.succ_pos _, fun z hz hle => ?_⟩
              have e2 : z = maxI (n :: ns) := Int.le_antisymm (maxI_le _ _ hz) (hle _ (maxI_mem _ (by simp)))
              rw [e2]
              exact post_here h ss rfl
        | _ => exact bad h
  | min1 =>
    cases ws with
    | nil => exact bad h
    | cons x l => cases l with
      | cons _ _ => cases x <;> exact bad h
      | nil =>
        obtain ⟨v, rfl, r1⟩ := one_inv rfl rs
        cases x with
        | ref a =>
          cases e : (listAt S a).bind intsOf with
          | none => simp only [biF, e] at h; exact h.elim
          | some ns =>
            cases ns with
            | nil => simp only [biF, e] at h; exact h.elim
            | cons n ns =>
              simp only [biF, e] at h
              obtain ⟨p, rfl, h1⟩ := ints_inv (K := X.K) e ss r1
              refine cr_min hc pins s σ H _ us Q I rv ⟨p, n :: ns, rfl, h1, Nat.succ_pos _, fun z hz hle => ?_⟩
              have e2 : z = minI (n :: ns) := Int.le_antisymm (hle _ (minI_mem _ (by simp))) (minI_le _ _ hz)
              rw [e2]
              exact post_here h ss rfl
        | _ => exact bad h
  | max2 =>
    cases ws with
    | nil => exact bad h
    | cons x l => cases l with
      | nil => cases x <;> exact bad h
      | cons y l => cases l with
        | cons _ _ => cases x <;> cases y <;> exact bad h
        | nil =>
          obtain ⟨v, u, rfl, r1, r2⟩ := two_inv rfl rs
          cases x with
          | int i => cases y with
            | int j =>
              cases (show v = .int i from r1); cases (show u = .int j from r2)
              refine call_max2 hc pins s σ H _ us Q I rv ⟨i, j, rfl, ?_⟩
              have e : (if j > i then j else i) = max i j := by
                by_cases h : j > i
                · rw [if_pos h]; omega
                · rw [if_neg h]; omega
              rw [e]
              exact post_here h ss rfl
            | _ => exact bad h
          | _ => cases y <;> exact bad h
  | min2 =>
    cases ws with
    | nil => exact bad h
    | cons x l => cases l with
      | nil => cases x <;> exact bad h
      | cons y l => cases l with
        | cons _ _ => cases x <;> cases y <;> exact bad h
        | nil =>
          obtain ⟨v, u, rfl, r1, r2⟩ := two_inv rfl rs
          cases x with
          | int i => cases y with
            | int j =>
              cases (show v = .int i from r1); cases (show u = .int j from r2)
              refine call_min2 hc pins s σ H _ us Q I rv ⟨i, j, rfl, ?_⟩
              have e : (if j < i then j else i) = min i j := by
                by_cases h : j < i
                · rw [if_pos h]; omega
                · rw [if_neg h]; omega
              rw [e]
              exact post_here h ss rfl
            | _ => exact bad h
          | _ => cases y <;> exact bad h
  | divmod =>
    cases ws with
    | nil => exact bad h
    | cons x l => cases l with
      | nil => cases x <;> exact bad h
      | cons y l => cases l with
        | cons _ _ => cases x <;> cases y <;> exact bad h
        | nil =>
          obtain ⟨v, u, rfl, r1, r2⟩ := two_inv rfl rs
          cases x with
          | int i => cases y with
            | int j =>
              cases (show v = .int i from r1); cases (show u = .int j from r2)
              obtain ⟨⟨c1, c2, c3⟩, h⟩ := guardR_inv h
              exact call_divmodW pins s σ H _ us Q I rv ⟨i, j, rfl, divp_ok c1 (by have := bits_big c2; omega), fun p hp => post_tup (vs := [.int (i / j), .int (i % j)]) h ss ⟨_, _, rfl, rfl, _, _, rfl, rfl, rfl⟩ hp⟩
            | _ => exact bad h
          | _ => cases y <;> exact bad h
  | tuple =>
    cases ws with
    | nil => exact bad h
    | cons x l => cases l with
      | cons _ _ => exact bad h
      | nil =>
        obtain ⟨v, rfl, r1⟩ := one_inv rfl rs
        have h : PostR T RepV m H Z Q (match itemsOf S x with | some ws => .ok (.tup ws) S | none => .bad) := h
        cases e : itemsOf S x with
        | none => rw [e] at h; exact h.elim
        | some l =>
          rw [e] at h
          obtain ⟨b, us', rfl, h2, h3⟩ := items_inv (K := X.K) e ss r1
          refine call_tuple_of pins s σ H _ us Q I rv ⟨b, us', rfl, ?_⟩
          rcases h3 with h3 | h3
          · exact .inl ⟨h3, fun p hp => post_tup h ss h2 hp⟩
          · exact .inr ⟨SqT.of h3, post_here h ss ⟨b, us', rfl, h3, h2⟩⟩
  | list =>
    cases ws with
    | nil => exact bad h
    | cons x l => cases l with
      | cons _ _ => exact bad h
      | nil =>
        obtain ⟨v, rfl, r1⟩ := one_inv rfl rs
        have h : PostR T RepV m H Z Q (match itemsOf S x with | some ws => .ok (.ref S.length) (S ++ [.lst ws]) | none => .bad) := h
        cases e : itemsOf S x with
        | none => rw [e] at h; exact h.elim
        | some l =>
          rw [e] at h
          obtain ⟨b, us', rfl, h2, h3⟩ := items_inv (K := X.K) e ss r1
          exact call_list_of pins s σ H _ us Q I rv ⟨b, us', rfl, h3.imp id SqT.of, fun p hp => post_lst h ss h2 hp⟩
  | all =>
    cases ws with
    | nil => exact bad h
    | cons x l => cases l with
      | cons _ _ => cases x <;> exact bad h
      | nil =>
        obtain ⟨v, rfl, r1⟩ := one_inv rfl rs
        cases x with
        | ref a =>
          cases e : (listAt S a).bind blsOf with
          | none => simp only [biF, e] at h; exact h.elim
          | some ns =>
            simp only [biF, e] at h
            obtain ⟨p, rfl, h1⟩ := bls_inv (K := X.K) e ss r1
            exact cr_all hc pins s σ H _ us Q I rv ⟨p, ns, rfl, h1, post_here h ss rfl⟩
        | _ => exact bad h
  | any =>
    cases ws with
    | nil => exact bad h
    | cons x l => cases l with
      | cons _ _ => cases x <;> exact bad h
      | nil =>
        obtain ⟨v, rfl, r1⟩ := one_inv rfl rs
        cases x with
        | ref a =>
          cases e : (listAt S a).bind blsOf with
          | none => simp only [biF, e] at h; exact h.elim
          | some ns =>
            simp only [biF, e] at h
            obtain ⟨p, rfl, h1⟩ := bls_inv (K := X.K) e ss r1
            exact cr_any hc pins s σ H _ us Q I rv ⟨p, ns, rfl, h1, post_here h ss rfl⟩
        | _ => exact bad h
  | sorted => exact bad h
end
end Mp
end
section
set_option Elab.async false
set_option linter.all false
set_option maxRecDepth 100000
namespace Mp
open PySem L2 PyProof.Rows
section
variable {X : Cx} {T : Tb} {m : List Addr} {S : Store} {H : Hp} {Z : Wz}
/-! ### methods of lists -/
def Bm.name : Bm → Str
  | .append => "append" | .pop => "pop" | .popAt => "pop" | .clear => "clear" | .reverse => "reverse" | .extend => "extend"
def Bm.id : Bm → String
  | .append => "list.append" | .pop => "list.pop" | .popAt => "list.pop" | .clear => "list.clear" | .reverse => "list.reverse" | .extend => "list.extend"
def rMt (T : Tb) (f : W → List W → Store → R W) : V → List V → Hp → VK → Prop := fun v vs H Q => ∃ (Z : Wz) (m : List Addr) (S : Store) (x : W) (ws : List W), SimS T m S H ∧ RepV m H x v ∧ RepVs m H ws vs ∧ PostR T RepV m H Z Q (f x ws S)
theorem post_set {n : Nat} {a : Addr} {us : List W} {w : W} {v : V} {vs : List V} {Q : VK} (h : PostR T RepV m H Z Q (.ok w (S.set n (.lst us)))) (s : SimS T m S H) (ha : m[n]? = some a) (r : RepVs m H us vs) (rw' : RepV m H w v) : Q v (upd H a (.lst vs)) :=
  h m _ v (grow_set s ha) (s.upd ha ⟨vs, upd_same, r.grow s (grow_set s ha)⟩) (rw'.grow s (grow_set s ha))
theorem ix_seq' {n : Nat} {i : Int} {k : Nat} (h : Mp.ixN n i = some k) (hn : n ≤ sizeLine) : seqIndex? i n = some k ∧ -(2 ^ 63) ≤ i ∧ i < 2 ^ 63 := by
  obtain ⟨h1, h2, h3, h4⟩ := ixN_seq (show L2.ixN n i = some k from h)
  have := line63
  exact ⟨h1, by omega, by omega⟩
theorem mt_ok (b : Bm) : MtM X b.id (rMt T (bmF b)) := by
  rintro pins s σ H v vs va us Q I rv ru ⟨Z, m, S, x, ws, ss, rx, rs, h⟩
  have bad : ∀ {P : Prop}, PostR T RepV m H Z Q (.bad : R W) → P := fun z => z.elim
  cases x with
  | ref a =>
    cases e : S[a]? with
    | none => cases b <;> cases ws with
      | nil => first | exact bad h | (simp only [bmF, e] at h; exact bad h)
      | cons y l => cases l <;> cases y <;> first | exact bad h | (simp only [bmF, e] at h; exact bad h)
    | some ob => cases ob with
      | lst l0 =>
        obtain ⟨p, xs, rfl, hp, h1, h2⟩ := lst_inv e ss rx
        have hz : xs.length ≤ sizeLine := by
          obtain ⟨z, _⟩ := (show ObjOk X.prog X.w H s.heap p (.lst xs) from I.hok p _ h1)
          exact z
        cases b with
        | append => cases ws with
          | nil => exact bad h
          | cons y l => cases l with
            | cons _ _ => exact bad h
            | nil =>
              obtain ⟨z, rfl, r1⟩ := one_inv rfl rs
              simp only [bmF, e] at h
              obtain ⟨hc, h⟩ := guardR_inv h
              exact mt_append pins s σ H _ _ va us Q I rv ru ⟨p, xs, z, rfl, rfl, h1, by rw [← h2.length]; exact lim_lt hc, post_set h ss hp (h2.append (RepVs.one r1)) rfl⟩
        | pop => cases ws with
          | nil =>
            cases (show vs = [] from rs)
            simp only [bmF, e] at h
            cases e2 : l0[l0.length - 1]? with
            | none => rw [e2] at h; exact bad h
            | some w =>
              rw [e2] at h
              obtain ⟨z, e3, r3⟩ := h2.get e2
              exact mt_pop pins s σ H _ _ va us Q I rv ru ⟨p, xs, z, rfl, rfl, h1, by rw [← h2.length]; exact e3, post_set h ss hp h2.dropLast r3⟩
          | cons y l => exact bad h
        | popAt => cases ws with
          | nil => exact bad h
          | cons y l => cases l with
            | cons _ _ => cases y <;> exact bad h
            | nil => cases y with
              | int i =>
                obtain ⟨z, rfl, r1⟩ := one_inv rfl rs
                cases (show z = .int i from r1)
                simp only [bmF, e] at h
                cases e2 : Mp.ixN l0.length i with
                | none => rw [e2] at h; exact bad h
                | some k =>
                  simp only [e2] at h
                  cases e3 : l0[k]? with
                  | none => rw [e3] at h; exact bad h
                  | some w =>
                    rw [e3] at h
                    obtain ⟨z, e4, r4⟩ := h2.get e3
                    obtain ⟨q1, q2, q3⟩ := ix_seq' (by rw [← h2.length]; exact e2) hz
                    exact mt_popAt pins s σ H _ _ va us Q I rv ru ⟨p, xs, i, k, z, rfl, rfl, h1, q2, q3, q1, e4, post_set h ss hp (h2.eraseIdx k) r4⟩
              | _ => exact bad h
        | clear => cases ws with
          | nil =>
            cases (show vs = [] from rs)
            simp only [bmF, e] at h
            exact mt_clear pins s σ H _ _ va us Q I rv ru ⟨p, xs, rfl, rfl, h1, post_set (vs := []) h ss hp rfl rfl⟩
          | cons y l => exact bad h
        | reverse => cases ws with
          | nil =>
            cases (show vs = [] from rs)
            simp only [bmF, e] at h
            exact mt_reverse pins s σ H _ _ va us Q I rv ru ⟨p, xs, rfl, rfl, h1, post_set h ss hp h2.reverse rfl⟩
          | cons y l => exact bad h
        | extend => cases ws with
          | nil => exact bad h
          | cons y l => cases l with
            | cons _ _ => cases y <;> exact bad h
            | nil => cases y with
              | ref c =>
                obtain ⟨z, rfl, r1⟩ := one_inv rfl rs
                simp only [bmF, e] at h
                cases e2 : S[c]? with
                | none => rw [e2] at h; exact bad h
                | some o2 => cases o2 with
                  | lst l2 =>
                    simp only [e2] at h
                    obtain ⟨hc, h⟩ := guardR_inv h
                    obtain ⟨p2, xs2, rfl, hp2, h3, h4⟩ := lst_inv e2 ss r1
                    exact mt_extend pins s σ H _ _ va us Q I rv ru ⟨p, p2, xs, xs2, rfl, rfl, h1, h3, by rw [← h2.length, ← h4.length]; exact lim_le hc, post_set h ss hp (h2.append h4) rfl⟩
                  | _ => simp only [e2] at h; exact bad h
              | _ => exact bad h
      | _ => cases b <;> cases ws with
        | nil => first | exact bad h | (simp only [bmF, e] at h; exact bad h)
        | cons y l => cases l <;> cases y <;> first | exact bad h | (simp only [bmF, e] at h; exact bad h)
  | _ => cases b <;> cases ws with
    | nil => exact bad h
    | cons y l => cases l <;> cases y <;> exact bad h
/-! ### isinstance -/
def Ty.val (T : Tb) : Ty → Value
  | .int => .type "int" | .bool => .type "bool" | .str => .type "str" | .list => .type "list" | .tuple => .type "tuple" | .dict => .type "dict"
  | .cls c => .ref (T.ca c)
def Ty.v (T : Tb) : Ty → V
  | .int => .ty "int" | .bool => .ty "bool" | .str => .ty "str" | .list => .ty "list" | .tuple => .ty "tuple" | .dict => .ty "dict"
  | .cls c => .ref (T.ca c)
theorem Ty.clsV (t : Ty) : ClsV (t.v T) (t.val T) := by
  cases t with
  | cls c => exact .own _
  | _ => exact .ty _
def plainTys : List String := ["NoneType", "bool", "int", "str", "list", "tuple", "dict"]
/-- what is known of the classes of the text -/
structure ClsOk (K : PySem.W.Frag) (T : Tb) (sub : Nat → Nat → Bool) (dom : Nat → Bool) : Prop where
  cls : ∀ c, dom c = true → Cls K (T.ca c)
  at_ : ∀ c, dom c = true → PySem.W.findIn K (.ref (T.ca c)) "__class__" = some (some (.builtin "object.__class__"))
  obj : ∀ c, dom c = true → PySem.W.mroIn K (T.ca c) (.type "object") = some true
  sp : (∃ c, dom c = true) → PySem.W.specialIn K (.builtin "object.__class__") "__get__" = some (some (.builtin "getset_descriptor.__get__"))
  tk : (∃ c, dom c = true) → PySem.W.takesIn K (.builtin "object.__class__") = some true
  own : ∀ c d, dom c = true → dom d = true → PySem.W.kitOne K (.ref (T.ca c)) (.ref (T.ca d)) = some (sub c d)
  ty : ∀ c n, dom c = true → n ∈ plainTys → PySem.W.kitOne K (.ref (T.ca c)) (.type n) = some false
  cl : ∀ d n, dom d = true → n ∈ plainTys → PySem.W.kitOne K (.type n) (.ref (T.ca d)) = some false
def tyOk (dom : Nat → Bool) : Ty → Bool
  | .cls c => dom c
  | _ => true
theorem isTy_inv {K : PySem.W.Frag} {sub : Nat → Nat → Bool} (C : ClsOk K T sub T.cd) (s : SimS T m S H) {x : W} {v : V} (r : RepV m H x v) :
    (∃ a, x = .ref a ∧ S[a]? = none) ∨ ∃ t, TyX K H v t ∧ ∀ ty b, tyOk T.cd ty = true → isTy sub S x ty = some b → PySem.W.kitOne K t (ty.val T) = some b := by
  have fin : ∀ (n : String) (g : Ty → Bool), n ∈ plainTys → (∀ ty, (∀ c, ty ≠ .cls c) → PySem.W.kitOne K (.type n) (ty.val T) = some (g ty)) → (∀ c, g (.cls c) = false) →
      ∀ ty b, tyOk T.cd ty = true → some (g ty) = some b → PySem.W.kitOne K (.type n) (ty.val T) = some b := fun n g hn h1 h2 ty b ho e => by
    cases e
    cases ty with
    | cls c => rw [h2 c]; exact C.cl c n ho hn
    | _ => exact h1 _ (fun c z => by cases z)
  cases x with
  | non =>
    cases (show v = .non from r)
    exact .inr ⟨_, .base .non, fin "NoneType" (fun _ => false) (by decide) (fun ty hc => by cases ty <;> first | exact kit_ty (by decide +kernel) | exact absurd rfl (hc _)) (fun _ => rfl)⟩
  | bl a =>
    cases (show v = .bl a from r)
    exact .inr ⟨_, .base (.bl a), fin "bool" (fun ty => ty = .bool || ty = .int) (by decide) (fun ty hc => by cases ty <;> first | exact kit_ty (by decide +kernel) | exact absurd rfl (hc _)) (fun _ => rfl)⟩
  | int a =>
    cases (show v = .int a from r)
    exact .inr ⟨_, .base (.int a), fin "int" (fun ty => ty = .int) (by decide) (fun ty hc => by cases ty <;> first | exact kit_ty (by decide +kernel) | exact absurd rfl (hc _)) (fun _ => rfl)⟩
  | str a =>
    cases (show v = .str a from r)
    exact .inr ⟨_, .base (.str a), fin "str" (fun ty => ty = .str) (by decide) (fun ty hc => by cases ty <;> first | exact kit_ty (by decide +kernel) | exact absurd rfl (hc _)) (fun _ => rfl)⟩
  | tup a =>
    obtain ⟨p, vs, rfl, h1, _⟩ := r
    exact .inr ⟨_, .base (.tup h1), fin "tuple" (fun ty => ty = .tuple) (by decide) (fun ty hc => by cases ty <;> first | exact kit_ty (by decide +kernel) | exact absurd rfl (hc _)) (fun _ => rfl)⟩
  | ref a =>
    obtain ⟨p, hp, rfl⟩ := r
    cases e : S[a]? with
    | none => exact .inl ⟨a, rfl, e⟩
    | some o =>
      refine .inr ?_
      have ho := s.at_ a o p e hp
      cases o with
      | lst ws =>
        obtain ⟨vs, h1, _⟩ := ho
        refine ⟨_, .base (.lst h1), fun ty b h2 h3 => ?_⟩
        simp only [isTy, e] at h3
        exact fin "list" (fun ty => ty = .list) (by decide) (fun ty hc => by cases ty <;> first | exact kit_ty (by decide +kernel) | exact absurd rfl (hc _)) (fun _ => rfl) ty b h2 h3
      | fro ws =>
        obtain ⟨_, vs, h1, _⟩ := ho
        refine ⟨_, .base (.frz h1), fun ty b h2 h3 => ?_⟩
        simp only [isTy, e] at h3
        exact fin "list" (fun ty => ty = .list) (by decide) (fun ty hc => by cases ty <;> first | exact kit_ty (by decide +kernel) | exact absurd rfl (hc _)) (fun _ => rfl) ty b h2 h3
      | dT kvs =>
        obtain ⟨vs, h1, _⟩ := ho
        refine ⟨_, .base (.dT h1), fun ty b h2 h3 => ?_⟩
        simp only [isTy, e] at h3
        exact fin "dict" (fun ty => ty = .dict) (by decide) (fun ty hc => by cases ty <;> first | exact kit_ty (by decide +kernel) | exact absurd rfl (hc _)) (fun _ => rfl) ty b h2 h3
      | dK kvs =>
        obtain ⟨vs, h1, _⟩ := ho
        refine ⟨_, .base (.dK h1), fun ty b h2 h3 => ?_⟩
        simp only [isTy, e] at h3
        exact fin "dict" (fun ty => ty = .dict) (by decide) (fun ty hc => by cases ty <;> first | exact kit_ty (by decide +kernel) | exact absurd rfl (hc _)) (fun _ => rfl) ty b h2 h3
      | ins c fs =>
        obtain ⟨⟨hd, _⟩, dx, fs', h1, _⟩ := ho
        refine ⟨_, .base (.ins h1 (C.cls c hd) (C.at_ c hd) (C.sp ⟨c, hd⟩) (C.tk ⟨c, hd⟩) (C.obj c hd)), fun ty b h2 h3 => ?_⟩
        simp only [isTy, e] at h3
        cases ty with
        | cls d =>
          have h3 : some (sub c d) = some b := h3
          cases h3
          exact C.own c d hd h2
        | int => cases h3; exact C.ty c _ hd (by decide)
        | bool => cases h3; exact C.ty c _ hd (by decide)
        | str => cases h3; exact C.ty c _ hd (by decide)
        | list => cases h3; exact C.ty c _ hd (by decide)
        | tuple => cases h3; exact C.ty c _ hd (by decide)
        | dict => cases h3; exact C.ty c _ hd (by decide)
end
end Mp
end
section
set_option Elab.async false
set_option linter.all false
set_option maxRecDepth 100000
/-! The matcher: does a piece of our own language stand for a piece of the model's syntax? -/
namespace Mp
open PySem L2

structure MEnv where
  N : List Str
  fns : List (Str × Nat)
  clss : List (Str × Nat)
  cons : List (Str × W)
  nms : List (Str × Nat)
  P : Prog

def visB (sc : Scope) (x : Str) : Bool := match sc.names.lookup x with
  | some .local | some .cell | some .free => true
  | _ => false
def locB (sc : Scope) (x : Str) : Bool := match sc.names.lookup x with
  | some .local | some .cell => true
  | _ => false
def glB (sc : Scope) (x : Str) : Bool := match sc.names.lookup x with
  | some .globalImplicit => true
  | _ => false
def nmOk (x : Str) : Bool := !(x == ("__debug__" : Str)) && !(x == ("__classdict__" : Str)) && !(x == ("__name__" : Str))
def notStar : Expr → Bool
  | .Starred _ _ => false
  | _ => true
/-- no o() of a plain name, no slice -/
def plainO : Expr → Bool
  | .Call (.Name _ _) [] [] _ => false
  | _ => true
def plainI : Expr → Bool
  | .Slice _ _ _ _ => false
  | _ => true
def notComp : Expr → Bool
  | .ListComp _ _ _ _ => false
  | .SetComp _ _ _ _ => false
  | .DictComp _ _ _ _ _ => false
  | _ => true
def notSet : Expr → Bool
  | .Set _ _ _ => false
  | _ => true
/-- arguments' number, f's parameters -/
def arity (P : Prog) (f k : Nat) : Bool := match P.fn f with
  | some d => decide (k ≤ d.np ∧ d.np - k ≤ d.dfl.length)
  | none => false
def Es.len : Es → Nat
  | .nil => 0
  | .cons _ es => es.len + 1
def isNone1 : Option Expr → Bool
  | none => true
  | _ => false
def mTy (M : MEnv) (sc : Scope) (t : Ty) (e : Expr) : Bool := match e with
  | .Name x _ => glB sc x && nmOk x && (match t with
    | .int => decide (x = "int") | .bool => decide (x = "bool") | .str => decide (x = "str") | .list => decide (x = "list") | .tuple => decide (x = "tuple") | .dict => decide (x = "dict")
    | .cls c => decide (M.clss.lookup x = some c))
  | _ => false
def mTys (M : MEnv) (sc : Scope) : List Ty → List Expr → Bool
  | [], [] => true
  | t :: ts, e :: es => notStar e && mTy M sc t e && mTys M sc ts es
  | _, _ => false
mutual
def mT (M : MEnv) (sc : Scope) : Tg → Expr → Bool
  | .nm i, e => match e with
    | .Name x _ => decide (M.N[i]? = some x) && locB sc x && nmOk x
    | _ => false
  | .tp ts, e => match e with
    | .Tuple es _ _ => mTs M sc ts es
    | _ => false
def mTs (M : MEnv) (sc : Scope) : List Tg → List Expr → Bool
  | [], [] => true
  | t :: ts, e :: es => notStar e && mT M sc t e && mTs M sc ts es
  | _, _ => false
end
def ownOf (M : MEnv) (own : List Nat) : List (Str × Nat) := own.map fun i => (M.N.getD i Str.empty, i)
def tupTg : Expr → Bool
  | .Tuple _ _ _ => true
  | _ => false
mutual
def mE (M : MEnv) : Scope → E → Expr → Bool
  | _, .any, _ => true
  | sc, .var i, e => match e with
    | .Name x _ => decide (M.N[i]? = some x) && visB sc x && nmOk x
    | _ => false
  | sc, .cst w, e => match e with
    | .Constant c _ _ => (match c, w with
      | .int i, .int j => decide (i = j)
      | .bool a, .bl b => a == b
      | .none, .non => true
      | .str x, .str y => decide (x = y)
      | _, _ => false)
    | .Name x _ => glB sc x && nmOk x && decide (M.cons.lookup x = some w)
    | _ => false
  | sc, .tupE es, e => match e with
    | .Tuple l _ _ => mEs M sc es l
    | _ => false
  | sc, .lstE es, e => match e with
    | .List l _ => mEs M sc es l
    | _ => false
  | sc, .bin op a b, e => match e with
    | .BinOp a' o b' _ => decide (o = op.op) && mE M sc a a' && mE M sc b b'
    | _ => false
  | sc, .neg a, e => match e with
    | .UnaryOp .USub a' _ => mE M sc a a'
    | _ => false
  | sc, .notE a, e => match e with
    | .UnaryOp .Not a' _ => mE M sc a a'
    | _ => false
  | sc, .cmp op a b, e => match e with
    | .Compare a' [o] [b'] _ => decide (o = op.op) && notSet b' && mE M sc a a' && mE M sc b b'
    | _ => false
  | sc, .chain op op' a b c, e => match e with
    | .Compare a' [o, o'] [b', c'] _ => decide (o = op.op) && decide (o' = op'.op) && notSet b' && notSet c' && mE M sc a a' && mE M sc b b' && mE M sc c c'
    | _ => false
  | sc, .andE es, e => match e with
    | .BoolOp .And l _ => mEs M sc es l
    | _ => false
  | sc, .orE es, e => match e with
    | .BoolOp .Or l _ => mEs M sc es l
    | _ => false
  | sc, .ifE t a b, e => match e with
    | .IfExp t' a' b' _ => mE M sc t t' && mE M sc a a' && mE M sc b b'
    | _ => false
  | sc, .attr a f, e => match e with
    | .Attribute a' x _ => decide (M.nms.lookup x = some f) && plainO a' && mE M sc a a'
    | _ => false
  | _, .excf _, _ => false
  | sc, .idx a i, e => match e with
    | .Subscript a' i' _ => plainI i' && mE M sc a a' && mE M sc i i'
    | _ => false
  | sc, .slice a lo hi, e => match e with
    | .Subscript a' (.Slice lo' hi' none _) _ => mE M sc a a' && mPart M sc lo lo' && mPart M sc hi hi'
    | _ => false
  | sc, .rev a, e => match e with
    | .Subscript a' (.Slice none none (some (.UnaryOp .USub (.Constant (.int 1) _ _) _)) _) _ => mE M sc a a'
    | _ => false
  | sc, .call f es, e => match e with
    | .Call (.Name x _) l [] _ => glB sc x && nmOk x && decide (M.fns.lookup x = some f) && arity M.P f es.len && mEs M sc es l
    | _ => false
  | sc, .bi b es, e => match e with
    | .Call (.Name x _) l [] _ => glB sc x && nmOk x && decide (x = b.name) && decide (l ≠ []) && mEs M sc es l
    | _ => false
  | sc, .bm m a es, e => match e with
    | .Call (.Attribute a' x apos) l [] pos => decide (x = m.name) && (apos.endLine == pos.line) && plainO a' && decide (l.length < 20) && mE M sc a a' && mEs M sc es l
    | _ => false
  | sc, .om m a es, e => match e with
    | .Call (.Attribute a' x apos) l [] pos => decide (M.nms.lookup x = some m) && (apos.endLine == pos.line) && plainO a' && decide (l.length < 20) && mE M sc a a' && mEs M sc es l
    | _ => false
  | sc, .make c es, e => match e with
    | .Call (.Name x _) l [] _ => glB sc x && nmOk x && decide (M.clss.lookup x = some c) && (match M.P.ini c with | some f => arity M.P f (es.len + 1) | none => false) && mEs M sc es l
    | _ => false
  | sc, .isin a single ts, e => match e with
    | .Call (.Name x _) [a', t'] [] _ => glB sc x && decide (x = "isinstance") && notStar a' && notStar t' && mE M sc a a' && (match single, ts, t' with
      | true, [t], t' => mTy M sc t t'
      | false, ts, .Tuple l _ _ => decide (ts.length < 100) && mTys M sc ts l
      | _, _, _ => false)
    | _ => false
  | sc, .lrange a b, e => match e with
    | .Call (.Name x _) [.Call (.Name y _) (a' :: l) [] _] [] _ => glB sc x && decide (x = "list") && glB sc y && decide (y = "range") && notStar a' && mE M sc a a' && mEs M sc b l && decide (l.length < 3)
    | _ => false
  | sc, .items a, e => match e with
    | .Call (.Name x _) [.Call (.Attribute a' y apos) [] [] pos] [] _ => glB sc x && decide (x = "list") && decide (y = "items") && (apos.endLine == pos.line) && plainO a' && mE M sc a a'
    | _ => false
  | _, .dnew _, e => match e with
    | .Dict [] [] _ => true
    | _ => false
  | sc, .comp own tg it cond elt, e => match e with
    | .ListComp elt' [⟨tg', it', ifs, 0⟩] scope _ => mIt M sc (tupTg tg') it it' && mT M scope tg tg' && mConds M scope cond ifs && mE M scope elt elt' && notSet it' && blkC M.N sc scope (ownOf M own)
    | _ => false
def mEs (M : MEnv) : Scope → Es → List Expr → Bool
  | _, .nil, l => l.isEmpty
  | sc, .cons e es, l => match l with
    | e' :: l' => notStar e' && mE M sc e e' && mEs M sc es l'
    | [] => false
def mPart (M : MEnv) : Scope → Es → Option Expr → Bool
  | _, .nil, o => isNone1 o
  | sc, .cons e .nil, o => match o with
    | some e' => mE M sc e e'
    | none => false
  | _, .cons _ (.cons _ _), _ => false
def mConds (M : MEnv) : Scope → Es → List Expr → Bool
  | _, .nil, l => l.isEmpty
  | sc, .cons e .nil, l => match l with
    | [e'] => mE M sc e e'
    | _ => false
  | _, .cons _ (.cons _ _), _ => false
def mIt (M : MEnv) : Scope → Bool → It → Expr → Bool
  | sc, _, .seq e, e' => mE M sc e e'
  | sc, _, .range es, e' => match e' with
    | .Call (.Name x _) l [] _ => glB sc x && decide (x = "range") && mEs M sc es l && decide (0 < l.length) && decide (l.length < 4)
    | _ => false
  | sc, tup, .enum e, e' => match e' with
    | .Call (.Name x _) [l] [] _ => tup && glB sc x && decide (x = "enumerate") && notStar l && mE M sc e l
    | _ => false
  | sc, tup, .zip a b, e' => match e' with
    | .Call (.Name x _) [a', b'] [] _ => tup && glB sc x && decide (x = "zip") && notStar a' && notStar b' && mE M sc a a' && mE M sc b b'
    | _ => false
  | sc, _, .rev e, e' => match e' with
    | .Call (.Name x _) [l] [] _ => glB sc x && decide (x = "reversed") && notStar l && mE M sc e l
    | _ => false
  | sc, _, .revR es, e' => match e' with
    | .Call (.Name x _) [.Call (.Name y _) l [] _] [] _ => glB sc x && decide (x = "reversed") && glB sc y && decide (y = "range") && mEs M sc es l && decide (0 < l.length) && decide (l.length < 3)
    | _ => false
end
end Mp
end
section
set_option Elab.async false
set_option linter.all false
set_option maxRecDepth 100000
/-! The readings of our own language, and each construct's rule. -/
namespace Mp
open PySem L2

structure Bs where
  prog : Program
  w : World
  K : PySem.W.Frag
  mg : Str → Option Value
  base : Heap

/-! ### readings -/
section
variable (T : Tb) (W0 : WX)
def tE (ev : Rho → Store → R W) : TE := fun σ H Q => ∃ (m : List Addr) (ρ : Rho) (S : Store), SimS T m S H ∧ SimL m H ρ σ ∧ PostR T RepV m H (fun c d H' => W0 c d σ H') Q (ev ρ S)
def tA (ev : Rho → Store → R (List W)) : TA := fun σ H Q => ∃ (m : List Addr) (ρ : Rho) (S : Store), SimS T m S H ∧ SimL m H ρ σ ∧ PostR T RepVs m H (fun c d H' => W0 c d σ H') Q (ev ρ S)
def RelB : List Addr → Hp → Bool → Bool → Prop := fun _ _ a b => a = b
def tTs (ev : Rho → Store → R Bool) : TT := fun σ H Q => ∃ (m : List Addr) (ρ : Rho) (S : Store), SimS T m S H ∧ SimL m H ρ σ ∧ PostR T RelB m H (fun c d H' => W0 c d σ H') Q (ev ρ S)
end
/-! ### what is known of the text -/
def bltNames : List Str := ["len", "int", "str", "sum", "max", "min", "divmod", "tuple", "list", "all", "any", "sorted", "range", "enumerate", "zip", "reversed", "isinstance", "bool", "dict", "repr", "set"]
/-- a def's promise -/
def spI (T : Tb) (np : Nat) (run : List W → Store → R W) : Sp := fun vs H Q E => ∃ (m : List Addr) (S : Store) (ws : List W), SimS T m S H ∧ RepVs m H ws vs ∧ ws.length = np ∧ PostR T RepV m H (fun c d H' => E c d H') Q (run ws S)
def FnT (B : Bs) (T : Tb) (P : Prog) (n f : Nat) : Prop := ∃ (fd : FuncData) (ps : List Str) (d : FDef), P.fn f = some d ∧ ps.length = d.np ∧ PySem.W.keepIn B.K (.ref (T.fa f)) = true ∧
  FnOk B.prog B.w B.K B.mg B.base (L2.CX B.prog B.w) (2 * n + 2) (T.fa f) fd ps (spI T d.np (callN P n f)) ∧
  ∀ k, k ≤ d.np → d.np - k ≤ d.dfl.length → ∃ (dvs : List V) (ds : List Value), Vals dvs ds ∧ (∀ m H, RepVs m H (d.dfl.drop (d.dfl.length - (d.np - k))) dvs) ∧ Binds B.K fd ps ds
structure Facts (B : Bs) (T : Tb) (M : MEnv) (fdom : Nat → Bool) : Prop where
  fn : ∀ x f, M.fns.lookup x = some f → B.mg x = some (.ref (T.fa f)) ∧ fdom f = true
  cl : ∀ x c, M.clss.lookup x = some c → B.mg x = some (.ref (T.ca c)) ∧ T.cd c = true
  co : ∀ x w, M.cons.lookup x = some w → ∃ v u, B.mg x = some u ∧ RelV v u ∧ ∀ m H, RepV m H w v
  bu : ∀ x, x ∈ bltNames → B.mg x = none
  nm : ∀ s f, M.nms.lookup s = some f → T.nm f = s
  na : ∀ c f, T.cd c = true → T.fld c f = true → NoAttr B.K (T.ca c) (T.nm f)
  inj : ∀ c f g, T.cd c = true → T.fld c f = true → T.fld c g = true → T.nm f = T.nm g → f = g
  cls : ClsOk B.K T M.P.sub T.cd
  fldP : M.P.fld = T.fld
  mth : ∀ c m f, T.cd c = true → M.P.mth c m = some f → Meth B.K (T.ca c) (T.nm m) (T.fa f) ∧ (∀ g, T.fld c g = true → T.nm g ≠ T.nm m) ∧ fdom f = true
  mkf : ∀ c f, T.cd c = true → M.P.ini c = some f → Mk B.K (T.ca c) (T.fa f) ∧ fdom f = true
/-! ### where one stands -/
structure Cok (B : Bs) (n : Nat) (M : MEnv) (X : Cx) (sc : Scope) : Prop where
  pr : X.prog = B.prog
  w : X.w = B.w
  K : X.K = B.K
  mg : X.mg = B.mg
  base : X.base = B.base
  N : X.N = M.N
  nd : X.N.Nodup
  calm : X.calm = true
  room : Room (2 * n + 3) X.A
  kd : ∀ x k, sc.names.lookup x = some k → (k ≠ .free → X.env.scope.names.lookup x = some k) ∧ (k = .free → X.env.scope.names.lookup x = some .free ∨ X.env.scope.names.lookup x = some .cell)
  fnc : ∀ x, sc.names.lookup x = some .cell → X.fn x = true
section
variable {B : Bs} {n : Nat} {M : MEnv} {X : Cx} {sc : Scope}
theorem Cok.vis (c : Cok B n M X sc) {x : Str} (h : visB sc x = true) : Vis X.env.scope x := by
  unfold visB at h
  cases e : sc.names.lookup x with
  | none => rw [e] at h; cases h
  | some k =>
    rw [e] at h
    obtain ⟨h1, h2⟩ := c.kd x k e
    cases k with
    | «local» => exact .inl (h1 (by decide))
    | cell => exact .inr (.inl (h1 (by decide)))
    | free =>
      rcases h2 rfl with z | z
      · exact .inr (.inr z)
      · exact .inr (.inl z)
    | _ => cases h
theorem Cok.loc (c : Cok B n M X sc) {x : Str} (h : locB sc x = true) : Loc X.env.scope x ∧ (X.fn x = true ∨ X.env.scope.names.lookup x = some .local) := by
  unfold locB at h
  cases e : sc.names.lookup x with
  | none => rw [e] at h; cases h
  | some k =>
    rw [e] at h
    obtain ⟨h1, h2⟩ := c.kd x k e
    cases k with
    | «local» => exact ⟨.inl (h1 (by decide)), .inr (h1 (by decide))⟩
    | cell => exact ⟨.inr (h1 (by decide)), .inl (c.fnc x e)⟩
    | _ => cases h
theorem Cok.gl (c : Cok B n M X sc) {x : Str} (h : glB sc x = true) : Gl X x := by
  unfold glB at h
  cases e : sc.names.lookup x with
  | none => rw [e] at h; cases h
  | some k =>
    rw [e] at h
    obtain ⟨h1, h2⟩ := c.kd x k e
    cases k with
    | globalImplicit => exact h1 (by decide)
    | _ => cases h
end
theorem PE.imp {X : Cx} {e : Expr} {t t' : TE} (h : PE X e t) (i : ∀ σ H Q, t' σ H Q → t σ H Q) : PE X e t' := ⟨fun pins s σ H Q I q => h.run pins s σ H Q I (i σ H Q q)⟩
theorem PT.imp {X : Cx} {e : Expr} {t t' : TT} (h : PT X e t) (i : ∀ σ H Q, t' σ H Q → t σ H Q) : PT X e t' := ⟨fun pins s σ H Q I q => h.run pins s σ H Q I (i σ H Q q)⟩
theorem PA.imp {X : Cx} {e : List Expr} {t t' : TA} (h : PA X e t) (i : ∀ σ H Q, t' σ H Q → t σ H Q) : PA X e t' := ⟨fun pos pins s σ H Q I q => h.run pos pins s σ H Q I (i σ H Q q)⟩
theorem star_cons {e : Expr} {es : List Expr} {env : Env} (h : notStar e = true) : starEach (e :: es) env = (false, eval e env) :: starEach es env := by
  cases e <;> first | rfl | cases h
theorem nmOk_inv {x : Str} (h : nmOk x = true) : (x == ("__debug__" : Str)) = false ∧ (x == ("__classdict__" : Str)) = false ∧ x ≠ "__name__" := by
  unfold nmOk at h
  simp only [Bool.and_eq_true, Bool.not_eq_true'] at h
  exact ⟨h.1.1, h.1.2, by simpa using h.2⟩
section
variable {T : Tb} {W0 : WX} {X : Cx} {m : List Addr} {H : Hp} {S : Store} {ρ : Rho} {σ : L2.St}
/-- the readings go from the left -/
theorem bindE {ev : Rho → Store → R W} {f : W → Store → R W} {Q : VK} (ss : SimS T m S H) (sl : SimL m H ρ σ) (h : PostR T RepV m H (fun c d H' => W0 c d σ H') Q ((ev ρ S).bind f)) :
    tE T W0 ev σ H fun v H1 => ∃ m1 w S1, Grow m H m1 H1 ∧ SimS T m1 S1 H1 ∧ SimL m1 H1 ρ σ ∧ RepV m1 H1 w v ∧ PostR T RepV m1 H1 (fun c d H' => W0 c d σ H') Q (f w S1) :=
  ⟨m, ρ, S, ss, sl, PostR.mono (PostR.bind h) fun v H1 ⟨m1, w, S1, g, s1, r, q⟩ => ⟨m1, w, S1, g, s1, sl.grow ss g, r, q⟩⟩
theorem bindA {α β : Type} {rel : List Addr → Hp → α → β → Prop} {ev : Rho → Store → R (List W)} {f : List W → Store → R α} {Q : β → Hp → Prop} (ss : SimS T m S H) (sl : SimL m H ρ σ) (h : PostR T rel m H (fun c d H' => W0 c d σ H') Q ((ev ρ S).bind f)) :
    tA T W0 ev σ H fun v H1 => ∃ m1 w S1, Grow m H m1 H1 ∧ SimS T m1 S1 H1 ∧ SimL m1 H1 ρ σ ∧ RepVs m1 H1 w v ∧ PostR T rel m1 H1 (fun c d H' => W0 c d σ H') Q (f w S1) :=
  ⟨m, ρ, S, ss, sl, PostR.mono (PostR.bind h) fun v H1 ⟨m1, w, S1, g, s1, r, q⟩ => ⟨m1, w, S1, g, s1, sl.grow ss g, r, q⟩⟩
theorem bindG {α β : Type} {rel : List Addr → Hp → α → β → Prop} {ev : Rho → Store → R W} {f : W → Store → R α} {Q : β → Hp → Prop} (ss : SimS T m S H) (sl : SimL m H ρ σ) (h : PostR T rel m H (fun c d H' => W0 c d σ H') Q ((ev ρ S).bind f)) :
    tE T W0 ev σ H fun v H1 => ∃ m1 w S1, Grow m H m1 H1 ∧ SimS T m1 S1 H1 ∧ SimL m1 H1 ρ σ ∧ RepV m1 H1 w v ∧ PostR T rel m1 H1 (fun c d H' => W0 c d σ H') Q (f w S1) :=
  ⟨m, ρ, S, ss, sl, PostR.mono (PostR.bind h) fun v H1 ⟨m1, w, S1, g, s1, r, q⟩ => ⟨m1, w, S1, g, s1, sl.grow ss g, r, q⟩⟩
theorem bindT1 {α β : Type} {rel : List Addr → Hp → α → β → Prop} {ev : Rho → Store → R Bool} {f : Bool → Store → R α} {Q : β → Hp → Prop} (ss : SimS T m S H) (sl : SimL m H ρ σ) (h : PostR T rel m H (fun c d H' => W0 c d σ H') Q ((ev ρ S).bind f)) :
    tTs T W0 ev σ H fun b H1 => ∃ m1 S1, Grow m H m1 H1 ∧ SimS T m1 S1 H1 ∧ SimL m1 H1 ρ σ ∧ PostR T rel m1 H1 (fun c d H' => W0 c d σ H') Q (f b S1) :=
  ⟨m, ρ, S, ss, sl, PostR.mono (PostR.bind (rel := RelB) h) fun v H1 ⟨m1, w, S1, g, s1, r, q⟩ => ⟨m1, S1, g, s1, sl.grow ss g, by cases (show w = v from r); exact q⟩⟩

/-! ### rules -/
theorem ru_var {B : Bs} {n : Nat} {M : MEnv} {sc : Scope} (c : Cok B n M X sc) {i : Nat} {x : Str} {pos : Pos} (hN : M.N[i]? = some x) (hv : visB sc x = true) (hn : nmOk x = true) :
    PE X (.Name x pos) (tE T W0 (fun ρ S => match ρ[i]? with | some (some w) => .ok w S | _ => .bad)) := by
  obtain ⟨h1, h2, _⟩ := nmOk_inv hn
  refine PE.imp (pe_var (i := i) (by rw [c.N]; exact hN) (c.vis hv) h1 h2) fun σ H Q ⟨m, ρ, S, ss, sl, h⟩ => ?_
  cases e : ρ[i]? with
  | none => simp only [e] at h; exact h.elim
  | some o => cases o with
    | none => simp only [e] at h; exact h.elim
    | some w =>
      simp only [e] at h
      obtain ⟨v, e1, r⟩ := sl.at_ i w e
      exact ⟨v, e1, post_here h ss r⟩
theorem ru_cst {e : Expr} {w : W} {v : V} (h : PE X e (tC v)) (r : ∀ m H, RepV m H w v) : PE X e (tE T W0 (fun _ S => .ok w S)) :=
  PE.imp h fun σ H Q ⟨m, ρ, S, ss, sl, h⟩ => post_here h ss (r m H)
theorem ru_two {f : W → W → Store → R W} {ea eb : Rho → Store → R W} {a b e : Expr} (hm : ∀ ta tb : TE, PE X a ta → PE X b tb → PE X e (tOp (rTwo T f) ta tb)) (ha : PE X a (tE T W0 ea)) (hb : PE X b (tE T W0 eb)) :
    PE X e (tE T W0 fun ρ S => (ea ρ S).bind fun x S1 => (eb ρ S1).bind fun y S2 => f x y S2) := by
  refine PE.imp (hm _ _ ha hb) fun σ H Q ⟨m, ρ, S, ss, sl, h⟩ => ?_
  obtain ⟨m', ρ', S', s1, s2, h1⟩ := bindE ss sl h
  refine ⟨m', ρ', S', s1, s2, PostR.mono h1 fun v H1 ⟨m1, x, S1, g1, ss1, sl1, r1, q1⟩ => ?_⟩
  obtain ⟨m', ρ', S', s1, s2, h2⟩ := bindE ss1 sl1 q1
  refine ⟨m', ρ', S', s1, s2, PostR.mono h2 fun u H2 ⟨m2, y, S2, g2, ss2, sl2, r2, q2⟩ => ?_⟩
  exact ⟨_, m2, S2, x, y, ss2, r1.grow ss1 g2, r2, q2⟩
theorem ru_anil : PA X [] (tA T W0 fun _ S => .ok [] S) := PA.imp pa_nil fun σ H Q ⟨m, ρ, S, ss, sl, h⟩ => h m H [] Grow.refl ss rfl
theorem ru_acons {e : Expr} {es : List Expr} {ea : Rho → Store → R W} {er : Rho → Store → R (List W)} (hs : notStar e = true) (ha : PE X e (tE T W0 ea)) (hr : PA X es (tA T W0 er)) :
    PA X (e :: es) (tA T W0 fun ρ S => (ea ρ S).bind fun w S1 => (er ρ S1).bind fun ws S2 => .ok (w :: ws) S2) := by
  refine PA.imp (pa_cons ha hr (star_cons hs)) fun σ H Q ⟨m, ρ, S, ss, sl, h⟩ => ?_
  obtain ⟨m', ρ', S', s1, s2, h1⟩ := bindG ss sl h
  refine ⟨m', ρ', S', s1, s2, PostR.mono h1 fun v H1 ⟨m1, x, S1, g1, ss1, sl1, r1, q1⟩ => ?_⟩
  obtain ⟨m', ρ', S', s1, s2, h2⟩ := bindA ss1 sl1 q1
  refine ⟨m', ρ', S', s1, s2, PostR.mono h2 fun u H2 ⟨m2, y, S2, g2, ss2, sl2, r2, q2⟩ => ?_⟩
  exact q2 m2 H2 (v :: u) Grow.refl ss2 ⟨v, u, rfl, r1.grow ss1 g2, r2⟩
theorem ru_tup {es : List Expr} {k : Nat} {pos : Pos} {ea : Rho → Store → R (List W)} (ha : PA X es (tA T W0 ea)) : PE X (.Tuple es k pos) (tE T W0 fun ρ S => (ea ρ S).bind newTup) := by
  refine PE.imp (pe_tup ha) fun σ H Q ⟨m, ρ, S, ss, sl, h⟩ => ?_
  obtain ⟨m', ρ', S', s1, s2, h1⟩ := bindA ss sl h
  refine ⟨m', ρ', S', s1, s2, PostR.mono h1 fun v H1 ⟨m1, x, S1, g1, ss1, sl1, r1, q1⟩ => ?_⟩
  unfold newTup at q1
  by_cases hc : x.length ≤ lim
  · rw [if_pos hc] at q1
    exact ⟨by rw [← r1.length]; exact lim_le hc, fun p hp => post_tup q1 ss1 r1 hp⟩
  · rw [if_neg hc] at q1; exact q1.elim
theorem ru_lst {es : List Expr} {pos : Pos} {ea : Rho → Store → R (List W)} (ha : PA X es (tA T W0 ea)) : PE X (.List es pos) (tE T W0 fun ρ S => (ea ρ S).bind newLst) := by
  refine PE.imp (pe_lst ha) fun σ H Q ⟨m, ρ, S, ss, sl, h⟩ => ?_
  obtain ⟨m', ρ', S', s1, s2, h1⟩ := bindA ss sl h
  refine ⟨m', ρ', S', s1, s2, PostR.mono h1 fun v H1 ⟨m1, x, S1, g1, ss1, sl1, r1, q1⟩ => ?_⟩
  unfold newLst at q1
  by_cases hc : x.length ≤ lim
  · rw [if_pos hc] at q1
    exact ⟨by rw [← r1.length]; exact lim_le hc, fun p hp => post_lst q1 ss1 r1 hp⟩
  · rw [if_neg hc] at q1; exact q1.elim
theorem ru_neg {a : Expr} {pos : Pos} {ea : Rho → Store → R W} (ha : PE X a (tE T W0 ea)) : PE X (.UnaryOp .USub a pos) (tE T W0 fun ρ S => (ea ρ S).bind fun x S1 => match x with | .int i => .ok (.int (-i)) S1 | _ => .bad) := by
  refine PE.imp (pe_un un_neg ha) fun σ H Q ⟨m, ρ, S, ss, sl, h⟩ => ?_
  obtain ⟨m', ρ', S', s1, s2, h1⟩ := bindE ss sl h
  refine ⟨m', ρ', S', s1, s2, PostR.mono h1 fun v H1 ⟨m1, x, S1, g1, ss1, sl1, r1, q1⟩ => ?_⟩
  cases x with
  | int i => cases (show v = .int i from r1); exact ⟨i, rfl, post_here q1 ss1 rfl⟩
  | _ => exact q1.elim
/-- a test, by its value's truth -/
theorem tst_inv {ev : Rho → Store → R W} {Q : Bool → Hp → Prop} (ss : SimS T m S H) (sl : SimL m H ρ σ) (h : PostR T RelB m H (fun c d H' => W0 c d σ H') Q (tst (ev ρ S))) :
    tE T W0 ev σ H fun v H1 => ∃ b, (∃ m1 S1 w, SimS T m1 S1 H1 ∧ truth S1 w = some b ∧ RepV m1 H1 w v) ∧ Q b H1 := by
  obtain ⟨m', ρ', S', s1, s2, h1⟩ := bindG (ev := ev) ss sl h
  refine ⟨m', ρ', S', s1, s2, PostR.mono h1 fun v H1 ⟨m1, x, S1, g1, ss1, sl1, r1, q1⟩ => ?_⟩
  cases e : truth S1 x with
  | none => rw [e] at q1; exact q1.elim
  | some b =>
    rw [e] at q1
    exact ⟨b, ⟨m1, S1, x, ss1, e, r1⟩, q1 m1 H1 b Grow.refl ss1 rfl⟩
theorem ru_truth {a : Expr} {ea : Rho → Store → R W} (ha : PE X a (tE T W0 ea)) (he : ∀ whole, isTrue a X.env whole = (do let v ← whole; standAt a.pos; holding [v] (truthy v))) : PT X a (tTs T W0 fun ρ S => tst (ea ρ S)) := by
  refine PT.imp (pt_truth ha he) fun σ H Q ⟨m, ρ, S, ss, sl, h⟩ => ?_
  obtain ⟨m', ρ', S', s1, s2, h1⟩ := tst_inv ss sl h
  exact ⟨m', ρ', S', s1, s2, PostR.mono h1 fun v H1 ⟨b, ⟨m1, S1, x, ss1, e, r1⟩, q⟩ => ⟨b, tru_of ss1 e r1, q⟩⟩
/-- a comparison as a test -/
theorem ru_cmpT {f : W → W → Store → R W} {ea eb : Rho → Store → R W} {a b e : Expr} (hm : ∀ ta tb : TE, PE X a ta → PE X b tb → PT X e (tTest (tOp (rTwo T f) ta tb))) (ha : PE X a (tE T W0 ea)) (hb : PE X b (tE T W0 eb))
    (hf : ∀ {m : List Addr} {S : Store} {H : Hp} {x y : W} {Q : Bool → Hp → Prop} {Z : Wz}, SimS T m S H → PostR T RepV m H Z (fun v H1 => ∃ b, (∃ m1 S1 w, SimS T m1 S1 H1 ∧ truth S1 w = some b ∧ RepV m1 H1 w v) ∧ Q b H1) (f x y S) → PostR T RepV m H Z (fun v H1 => ∃ k, v = .bl k ∧ Q k H1) (f x y S)) :
    PT X e (tTs T W0 fun ρ S => tst ((ea ρ S).bind fun x S1 => (eb ρ S1).bind fun y S2 => f x y S2)) := by
  refine PT.imp (hm _ _ ha hb) fun σ H Q ⟨m, ρ, S, ss, sl, h⟩ => ?_
  obtain ⟨m', ρ', S', s1, s2, h0⟩ := tst_inv (ev := fun ρ S => (ea ρ S).bind fun x S1 => (eb ρ S1).bind fun y S2 => f x y S2) ss sl h
  obtain ⟨m', ρ', S', s1, s2, h1⟩ := bindE (ev := ea) s1 s2 h0
  refine ⟨m', ρ', S', s1, s2, PostR.mono h1 fun v H1 ⟨m1, x, S1, g1, ss1, sl1, r1, q1⟩ => ?_⟩
  obtain ⟨m', ρ', S', s1, s2, h2⟩ := bindE (ev := eb) ss1 sl1 q1
  refine ⟨m', ρ', S', s1, s2, PostR.mono h2 fun u H2 ⟨m2, y, S2, g2, ss2, sl2, r2, q2⟩ => ?_⟩
  exact ⟨_, m2, S2, x, y, ss2, r1.grow ss1 g2, r2, hf ss2 q2⟩
theorem bl_test {m : List Addr} {S : Store} {H : Hp} {b : Bool} {Q : Bool → Hp → Prop} {Z : Wz} (ss : SimS T m S H)
    (h : PostR T RepV m H Z (fun v H1 => ∃ b, (∃ m1 S1 w, SimS T m1 S1 H1 ∧ truth S1 w = some b ∧ RepV m1 H1 w v) ∧ Q b H1) (.ok (.bl b) S)) : PostR T RepV m H Z (fun v H1 => ∃ k, v = .bl k ∧ Q k H1) (.ok (.bl b) S) :=
  PostR.mono (rel := RepV) (Q := fun v H1 => v = .bl b ∧ ∃ b, (∃ m1 S1 w, SimS T m1 S1 H1 ∧ truth S1 w = some b ∧ RepV m1 H1 w v) ∧ Q b H1)
    (fun m' H' v g s r => ⟨r, h m' H' v g s r⟩) fun v H1 ⟨e, c, ⟨m1, S1, w, s1, e1, r1⟩, q⟩ => by
      subst e
      refine ⟨b, rfl, ?_⟩
      cases w with
      | bl d =>
        cases (show V.bl b = .bl d from r1)
        cases e1
        exact q
      | non => cases (show V.bl b = .non from r1)
      | int i => cases (show V.bl b = .int i from r1)
      | str i => cases (show V.bl b = .str i from r1)
      | ref i => obtain ⟨a, _, z⟩ := r1; cases z
      | tup i => obtain ⟨a, _, z, _⟩ := r1; cases z
theorem cmp_bl (op : Cop) (x y : W) (S : Store) : cmp op x y S = .bad ∨ ∃ b, cmp op x y S = .ok (.bl b) S := by
  have okb : ∀ o : Option Bool, okB o S = .bad ∨ ∃ b, okB o S = .ok (.bl b) S := fun o => by cases o <;> first | exact .inl rfl | exact .inr ⟨_, rfl⟩
  cases op with
  | eq => exact okb _
  | ne => exact okb _
  | isin => exact okb _
  | notin => exact okb _
  | lt => cases x <;> cases y <;> first | exact .inl rfl | exact .inr ⟨_, rfl⟩
  | le => cases x <;> cases y <;> first | exact .inl rfl | exact .inr ⟨_, rfl⟩
  | gt => cases x <;> cases y <;> first | exact .inl rfl | exact .inr ⟨_, rfl⟩
  | ge => cases x <;> cases y <;> first | exact .inl rfl | exact .inr ⟨_, rfl⟩
  | is => cases x <;> cases y <;> first | exact .inl rfl | exact .inr ⟨_, rfl⟩
  | isnot => cases x <;> cases y <;> first | exact .inl rfl | exact .inr ⟨_, rfl⟩
theorem cmp_test {op : Cop} {m : List Addr} {S : Store} {H : Hp} {x y : W} {Q : Bool → Hp → Prop} {Z : Wz} (ss : SimS T m S H)
    (h : PostR T RepV m H Z (fun v H1 => ∃ b, (∃ m1 S1 w, SimS T m1 S1 H1 ∧ truth S1 w = some b ∧ RepV m1 H1 w v) ∧ Q b H1) (cmp op x y S)) : PostR T RepV m H Z (fun v H1 => ∃ k, v = .bl k ∧ Q k H1) (cmp op x y S) := by
  rcases cmp_bl op x y S with e | ⟨b, e⟩
  · rw [e] at h; exact h.elim
  · rw [e] at h ⊢; exact bl_test ss h
end
end Mp
end
section
set_option Elab.async false
set_option linter.all false
set_option maxRecDepth 100000
/-! Rules: chains, and, or, not, conditional, fields, subscripts. -/
namespace Mp
open PySem L2

theorem base_plain {e : Expr} {f : Str} {env : Env} (h : plainO e = true) : attributeBase e f env (eval e env) = eval e env := by
  unfold attributeBase
  split
  · simp [plainO] at h
  · rfl
theorem ix_plain {e : Expr} (h : plainI e = true) : PlainIx e := fun o i => by
  unfold subscripted
  cases e <;> first | rfl | cases h
theorem marks_set {op : CmpOp} {e : Expr} (h : notSet e = true) : behindInMarks op e = false := by
  cases e <;> first | rfl | cases h
def plainTst : Expr → Bool
  | .UnaryOp .Not _ _ => false
  | .BoolOp _ _ _ => false
  | .IfExp _ _ _ _ => false
  | .Compare _ _ _ _ => false
  | _ => true
theorem isTrue_plain {e : Expr} {env : Env} (h : plainTst e = true) (whole : Sem Value) : isTrue e env whole = (do let v ← whole; standAt e.pos; holding [v] (truthy v)) := by
  cases e with
  | UnaryOp op a p => cases op <;> first | rfl | cases h
  | BoolOp op a p => cases h
  | IfExp a b c p => cases h
  | Compare a b c p => cases h
  | _ => rfl
section
variable {T : Tb} {W0 : WX} {X : Cx} {m : List Addr} {H : Hp} {S : Store} {ρ : Rho} {σ : L2.St}
theorem ru_plain {a : Expr} {ea : Rho → Store → R W} (h : plainTst a = true) (ha : PE X a (tE T W0 ea)) : PE X a (tE T W0 ea) ∧ PT X a (tTs T W0 fun ρ S => tst (ea ρ S)) :=
  ⟨ha, ru_truth ha fun w => isTrue_plain h w⟩
def blR (r : R W) : Prop := match r with
  | .ok (.bl _) _ => True
  | .ok _ _ => False
  | _ => True
theorem blR_bind {α : Type} {r : R α} {f : α → Store → R W} (h : ∀ x S, blR (f x S)) : blR (r.bind f) := by cases r <;> first | exact h _ _ | exact trivial
theorem blR_cmp (op : Cop) (x y : W) (S : Store) : blR (cmp op x y S) := by
  rcases cmp_bl op x y S with e | ⟨b, e⟩ <;> rw [e] <;> exact trivial
theorem bl_post {r : R W} {m : List Addr} {H : Hp} {Q : Bool → Hp → Prop} {Z : Wz} (hb : blR r)
    (h : PostR T RepV m H Z (fun v H1 => ∃ b, (∃ m1 S1 w, SimS T m1 S1 H1 ∧ truth S1 w = some b ∧ RepV m1 H1 w v) ∧ Q b H1) r) : PostR T RepV m H Z (fun v H1 => ∃ k, v = .bl k ∧ Q k H1) r := by
  cases r with
  | ok w S' =>
    cases w with
    | bl b => 
      intro m1 H1 v g s r
      obtain ⟨c, ⟨m2, S2, w2, s2, e2, r2⟩, q⟩ := h m1 H1 v g s r
      cases (show v = .bl b from r)
      refine ⟨b, rfl, ?_⟩
      cases w2 with
      | bl d =>
        cases (show V.bl b = .bl d from r2)
        cases e2
        exact q
      | non => cases (show V.bl b = .non from r2)
      | int i => cases (show V.bl b = .int i from r2)
      | str i => cases (show V.bl b = .str i from r2)
      | ref i => obtain ⟨a, _, z⟩ := r2; cases z
      | tup i => obtain ⟨a, _, z, _⟩ := r2; cases z
    | _ => exact hb.elim
  | exn c f S' => exact h
  | bad => exact h
/-- a test's wish, by the value -/
theorem tst_post {r : R W} {m : List Addr} {H : Hp} {Z : Wz} {Q : Bool → Hp → Prop} (h : PostR T RelB m H Z Q (tst r)) :
    PostR T RepV m H Z (fun v H1 => ∃ b, (∃ m1 S1 w, SimS T m1 S1 H1 ∧ truth S1 w = some b ∧ RepV m1 H1 w v) ∧ Q b H1) r := by
  cases r with
  | ok w S' =>
    intro m1 H1 v g s r
    have h' : PostR T RelB m H Z Q (match truth S' w with
      | some b => .ok b S'
      | none => .bad) := h
    cases e : truth S' w with
    | none => rw [e] at h'; exact h'.elim
    | some b =>
      rw [e] at h'
      exact ⟨b, ⟨m1, S', w, s, e, r⟩, h' m1 H1 b g s rfl⟩
  | exn c f S' => exact h
  | bad => exact h
/-- later is fine, too -/
theorem PostR.later {α β : Type} {rel : List Addr → Hp → α → β → Prop} {m m' : List Addr} {H H' : Hp} {Z : Wz} {Q : β → Hp → Prop} {r : R α} (g : Grow m H m' H') (h : PostR T rel m H Z Q r) : PostR T rel m' H' Z Q r := by
  cases r with
  | ok w S => exact fun m5 H5 v5 g5 s5 r5 => h m5 H5 v5 (g.trans g5) s5 r5
  | exn c f S => exact fun m5 H5 v5 d5 g5 s5 r5 => h m5 H5 v5 d5 (g.trans g5) s5 r5
  | bad => exact h
/-- the chained comparison: its reading -/
theorem chain_read {op op' : Cop} {ea eb ec : Rho → Store → R W} {Q : VK} (ss : SimS T m S H) (sl : SimL m H ρ σ)
    (h : PostR T RepV m H (fun c d H' => W0 c d σ H') Q ((ea ρ S).bind fun x S1 => (eb ρ S1).bind fun y S2 => (cmp op x y S2).bind fun r S3 => match r with
      | .bl true => (ec ρ S3).bind fun z S4 => cmp op' y z S4
      | .bl false => .ok (.bl false) S3
      | _ => .bad)) : tChain (rTwo T (cmp op)) (rTwo T (cmp op')) (tE T W0 ea) (tE T W0 eb) (tE T W0 ec) σ H Q := by
  obtain ⟨m', ρ', S', s1, s2, h1⟩ := bindE (ev := ea) ss sl h
  refine ⟨m', ρ', S', s1, s2, PostR.mono h1 fun v H1 ⟨m1, x, S1, g1, ss1, sl1, r1, q1⟩ => ?_⟩
  obtain ⟨m', ρ', S', s1, s2, h2⟩ := bindE (ev := eb) ss1 sl1 q1
  refine ⟨m', ρ', S', s1, s2, PostR.mono h2 fun u H2 ⟨m2, y, S2, g2, ss2, sl2, r2, q2⟩ => ?_⟩
  refine ⟨fun c d H' => W0 c d σ H', m2, S2, x, y, ss2, r1.grow ss1 g2, r2, ?_⟩
  rcases cmp_bl op x y S2 with e | ⟨b, e⟩
  · rw [e] at q2; exact q2.elim
  · rw [e] at q2 ⊢
    intro m3 H3 v3 g3 s3 r3
    cases (show v3 = .bl b from r3)
    refine ⟨b, rfl, ?_⟩
    cases b with
    | true =>
      rw [if_pos rfl]
      have q3 : PostR T RepV m2 H2 (fun c d H' => W0 c d σ H') Q ((ec ρ S2).bind fun z S4 => cmp op' y z S4) := q2
      have q4 := PostR.later g3 q3
      obtain ⟨m', ρ', S', s1, s2, h3⟩ := bindE (ev := ec) s3 (sl2.grow ss2 g3) q4
      refine ⟨m', ρ', S', s1, s2, PostR.mono h3 fun u5 H5 ⟨m5, z, S5, g5, ss5, sl5, r5, q5⟩ => ?_⟩
      exact ⟨_, m5, S5, y, z, ss5, (r2.grow ss2 g3).grow s3 g5, r5, q5⟩
    | false =>
      rw [if_neg (by decide)]
      exact q2 m3 H3 (.bl false) g3 s3 rfl
def chainR (ea eb ec : Rho → Store → R W) (op op' : Cop) (ρ : Rho) (S : Store) : R W := (ea ρ S).bind fun x S1 => (eb ρ S1).bind fun y S2 => (cmp op x y S2).bind fun r S3 => match r with
      | .bl true => (ec ρ S3).bind fun z S4 => cmp op' y z S4
      | .bl false => .ok (.bl false) S3
      | _ => .bad
theorem ru_chain {op op' : Cop} {ea eb ec : Rho → Store → R W} {a b c : Expr} {pos : Pos} (hu : X.A.units + 64 < cLine) (ha : PE X a (tE T W0 ea)) (hb : PE X b (tE T W0 eb)) (hc : PE X c (tE T W0 ec)) (h1 : notSet c = true) :
    PE X (.Compare a [op.op, op'.op] [b, c] pos) (tE T W0 (chainR ea eb ec op op')) ∧ PT X (.Compare a [op.op, op'.op] [b, c] pos) (tTs T W0 fun ρ S => tst (chainR ea eb ec op op' ρ S)) := by
  have hm : lastMarks [op.op, op'.op] [b, c] = false := marks_set h1
  refine ⟨PE.imp (pe_chain (op_cmp_ok (T := T) hu op) (op_cmp_ok (T := T) hu op') ha hb hc hm) fun σ H Q ⟨m, ρ, S, ss, sl, h⟩ => chain_read ss sl h, ?_⟩
  refine PT.imp (pt_chain (op_cmp_ok (T := T) hu op) (op_cmp_ok (T := T) hu op') ha hb hc hm) fun σ H Q ⟨m, ρ, S, ss, sl, h⟩ => ?_
  refine chain_read ss sl (bl_post (blR_bind fun x S1 => blR_bind fun y S2 => ?_) (tst_post h))
  rcases cmp_bl op x y S2 with e | ⟨b, e⟩
  · rw [e]; exact trivial
  · rw [e]
    cases b with
    | true =>
      show blR ((ec ρ S2).bind fun z S4 => cmp op' y z S4)
      exact blR_bind fun z S4 => blR_cmp op' y z S4
    | false => exact trivial
theorem ru_cmp {op : Cop} {ea eb : Rho → Store → R W} {a b : Expr} {pos : Pos} (hu : X.A.units + 64 < cLine) (ha : PE X a (tE T W0 ea)) (hb : PE X b (tE T W0 eb)) (h1 : notSet b = true) :
    PE X (.Compare a [op.op] [b] pos) (tE T W0 fun ρ S => (ea ρ S).bind fun x S1 => (eb ρ S1).bind fun y S2 => cmp op x y S2) ∧ PT X (.Compare a [op.op] [b] pos) (tTs T W0 fun ρ S => tst ((ea ρ S).bind fun x S1 => (eb ρ S1).bind fun y S2 => cmp op x y S2)) :=
  ⟨ru_two (fun ta tb ha hb => pe_cmpR (op_cmp_ok (T := T) hu op) ha hb (marks_set h1)) ha hb,
    ru_cmpT (fun ta tb ha hb => pt_cmpR (op_cmp_ok (T := T) hu op) ha hb (marks_set h1)) ha hb fun ss h => cmp_test ss h⟩
/-! ### not, and, or -/
theorem ru_not {ea : Rho → Store → R W} {a : Expr} {pos : Pos} (ha : PE X a (tE T W0 ea)) (ht : PT X a (tTs T W0 fun ρ S => tst (ea ρ S))) :
    PE X (.UnaryOp .Not a pos) (tE T W0 fun ρ S => (tst (ea ρ S)).bind fun b S1 => .ok (.bl (!b)) S1) ∧ PT X (.UnaryOp .Not a pos) (tTs T W0 fun ρ S => tst ((tst (ea ρ S)).bind fun b S1 => .ok (.bl (!b)) S1)) := by
  constructor
  · refine PE.imp (pe_notT ha) fun σ H Q ⟨m, ρ, S, ss, sl, h⟩ => ?_
    obtain ⟨m1, ρ1, S1, s1, l1, h1⟩ := bindT1 (ev := fun ρ S => tst (ea ρ S)) ss sl h
    obtain ⟨m', ρ', S', s1, s2, h1⟩ := tst_inv (ev := ea) s1 l1 h1
    refine ⟨m', ρ', S', s1, s2, PostR.mono h1 fun v H1 ⟨b, ⟨m1, S1, x, ss1, e, r1⟩, m2, S2, g2, ss2, sl2, q⟩ => ⟨b, tru_of ss1 e r1, post_here q ss2 rfl⟩⟩
  · refine PT.imp (pt_not ht) fun σ H Q ⟨m, ρ, S, ss, sl, h⟩ => ?_
    simp only [] at h
    have h' : PostR T RelB m H (fun c d H' => W0 c d σ H') Q ((tst (ea ρ S)).bind fun b S1 => .ok (!b) S1) := by
      cases e : tst (ea ρ S) with
      | ok b S1 => rw [e] at h; exact h
      | exn c f S1 => rw [e] at h; exact h
      | bad => rw [e] at h; exact h
    obtain ⟨m1, ρ1, S1, s1, l1, h1⟩ := bindT1 (ev := fun ρ S => tst (ea ρ S)) ss sl h'
    exact ⟨m1, ρ1, S1, s1, l1, PostR.mono h1 fun b H1 ⟨m2, S2, g2, ss2, sl2, q⟩ => q m2 H1 (!b) Grow.refl ss2 rfl⟩
theorem ru_and {ea er : Rho → Store → R W} {a b : Expr} {rest : List Expr} {pos : Pos} (ha : PE X a (tE T W0 ea)) (ht : PT X a (tTs T W0 fun ρ S => tst (ea ρ S)))
    (hb : PE X (.BoolOp .And (b :: rest) pos) (tE T W0 er)) (hw : PW X (.BoolOp .And (b :: rest) pos) (tTs T W0 fun ρ S => tst (er ρ S))) :
    PE X (.BoolOp .And (a :: b :: rest) pos) (tE T W0 fun ρ S => (ea ρ S).bind fun x S1 => match truth S1 x with
      | some true => er ρ S1
      | some false => .ok x S1
      | none => .bad) ∧ PW X (.BoolOp .And (a :: b :: rest) pos) (tTs T W0 fun ρ S => tst ((ea ρ S).bind fun x S1 => match truth S1 x with
      | some true => er ρ S1
      | some false => .ok x S1
      | none => .bad)) := by
  constructor
  · refine PE.imp (pe_andT ha hb) fun σ H Q ⟨m, ρ, S, ss, sl, h⟩ => ?_
    obtain ⟨m', ρ', S', s1, s2, h1⟩ := bindE (ev := ea) ss sl h
    refine ⟨m', ρ', S', s1, s2, PostR.mono h1 fun v H1 ⟨m1, x, S1, g1, ss1, sl1, r1, q1⟩ => ?_⟩
    cases e : truth S1 x with
    | none => rw [e] at q1; exact q1.elim
    | some k =>
      refine ⟨k, tru_of ss1 e r1, ?_⟩
      rw [e] at q1
      cases k with
      | true => exact ⟨m1, ρ, S1, ss1, sl1, q1⟩
      | false => exact post_here q1 ss1 r1
  · refine ⟨fun wh pins s σ H Q I ⟨m, ρ, S, ss, sl, h⟩ => (pw_and ht hw).run wh pins s σ H Q I ?_⟩
    simp only [] at h
    have h' : PostR T RelB m H (fun c d H' => W0 c d σ H') Q ((tst (ea ρ S)).bind fun b S1 => if b then tst (er ρ S1) else .ok false S1) := by
      cases e : ea ρ S with
      | ok x S1 =>
        rw [e] at h
        simp only [R.bind_ok, tst] at h ⊢
        cases e2 : truth S1 x with
        | none => rw [e2] at h; exact h
        | some k =>
          rw [e2] at h
          cases k with
          | true => exact h
          | false => simpa only [R.bind_ok, e2, Bool.false_eq_true, if_false, if_true] using h
      | exn c f S1 => rw [e] at h; exact h
      | bad => rw [e] at h; exact h
    obtain ⟨m1, ρ1, S1, s1, l1, h1⟩ := bindT1 (ev := fun ρ S => tst (ea ρ S)) ss sl h'
    refine ⟨m1, ρ1, S1, s1, l1, PostR.mono h1 fun b H1 ⟨m2, S2, g2, ss2, sl2, q⟩ => ?_⟩
    cases b with
    | true => exact ⟨m2, ρ, S2, ss2, sl2, q⟩
    | false => exact q m2 H1 false Grow.refl ss2 rfl
theorem ru_or {ea er : Rho → Store → R W} {a b : Expr} {rest : List Expr} {pos : Pos} (ha : PE X a (tE T W0 ea)) (ht : PT X a (tTs T W0 fun ρ S => tst (ea ρ S)))
    (hb : PE X (.BoolOp .Or (b :: rest) pos) (tE T W0 er)) (hw : PW X (.BoolOp .Or (b :: rest) pos) (tTs T W0 fun ρ S => tst (er ρ S))) :
    PE X (.BoolOp .Or (a :: b :: rest) pos) (tE T W0 fun ρ S => (ea ρ S).bind fun x S1 => match truth S1 x with
      | some true => .ok x S1
      | some false => er ρ S1
      | none => .bad) ∧ PW X (.BoolOp .Or (a :: b :: rest) pos) (tTs T W0 fun ρ S => tst ((ea ρ S).bind fun x S1 => match truth S1 x with
      | some true => .ok x S1
      | some false => er ρ S1
      | none => .bad)) := by
  constructor
  · refine PE.imp (pe_orT ha hb) fun σ H Q ⟨m, ρ, S, ss, sl, h⟩ => ?_
    obtain ⟨m', ρ', S', s1, s2, h1⟩ := bindE (ev := ea) ss sl h
    refine ⟨m', ρ', S', s1, s2, PostR.mono h1 fun v H1 ⟨m1, x, S1, g1, ss1, sl1, r1, q1⟩ => ?_⟩
    cases e : truth S1 x with
    | none => rw [e] at q1; exact q1.elim
    | some k =>
      refine ⟨k, tru_of ss1 e r1, ?_⟩
      rw [e] at q1
      cases k with
      | true => exact post_here q1 ss1 r1
      | false => exact ⟨m1, ρ, S1, ss1, sl1, q1⟩
  · refine ⟨fun wh pins s σ H Q I ⟨m, ρ, S, ss, sl, h⟩ => (pw_or ht hw).run wh pins s σ H Q I ?_⟩
    simp only [] at h
    have h' : PostR T RelB m H (fun c d H' => W0 c d σ H') Q ((tst (ea ρ S)).bind fun b S1 => if b then .ok true S1 else tst (er ρ S1)) := by
      cases e : ea ρ S with
      | ok x S1 =>
        rw [e] at h
        simp only [R.bind_ok, tst] at h ⊢
        cases e2 : truth S1 x with
        | none => rw [e2] at h; exact h
        | some k =>
          rw [e2] at h
          cases k with
          | true => simpa only [R.bind_ok, e2, Bool.false_eq_true, if_false, if_true] using h
          | false => exact h
      | exn c f S1 => rw [e] at h; exact h
      | bad => rw [e] at h; exact h
    obtain ⟨m1, ρ1, S1, s1, l1, h1⟩ := bindT1 (ev := fun ρ S => tst (ea ρ S)) ss sl h'
    refine ⟨m1, ρ1, S1, s1, l1, PostR.mono h1 fun b H1 ⟨m2, S2, g2, ss2, sl2, q⟩ => ?_⟩
    cases b with
    | true => exact q m2 H1 true Grow.refl ss2 rfl
    | false => exact ⟨m2, ρ, S2, ss2, sl2, q⟩
theorem ru_if {ec ea eb : Rho → Store → R W} {c a b : Expr} {pos : Pos} (hc : PT X c (tTs T W0 fun ρ S => tst (ec ρ S))) (ha : PE X a (tE T W0 ea)) (hb : PE X b (tE T W0 eb)) (ha' : PT X a (tTs T W0 fun ρ S => tst (ea ρ S))) (hb' : PT X b (tTs T W0 fun ρ S => tst (eb ρ S))) :
    PE X (.IfExp c a b pos) (tE T W0 fun ρ S => (tst (ec ρ S)).bind fun k S1 => if k then ea ρ S1 else eb ρ S1) ∧ PT X (.IfExp c a b pos) (tTs T W0 fun ρ S => tst ((tst (ec ρ S)).bind fun k S1 => if k then ea ρ S1 else eb ρ S1)) := by
  constructor
  · refine PE.imp (pe_ifExp hc ha hb) fun σ H Q ⟨m, ρ, S, ss, sl, h⟩ => ?_
    obtain ⟨m1, ρ1, S1, s1, l1, h1⟩ := bindT1 (ev := fun ρ S => tst (ec ρ S)) ss sl h
    refine ⟨m1, ρ1, S1, s1, l1, PostR.mono h1 fun k H1 ⟨m2, S2, g2, ss2, sl2, q⟩ => ?_⟩
    cases k with
    | true => exact ⟨m2, ρ, S2, ss2, sl2, q⟩
    | false => exact ⟨m2, ρ, S2, ss2, sl2, q⟩
  · refine ⟨fun pins s σ H Q I ⟨m, ρ, S, ss, sl, h⟩ => ?_⟩
    simp only [] at h
    have h' : PostR T RelB m H (fun c d H' => W0 c d σ H') Q ((tst (ec ρ S)).bind fun k S1 => if k then tst (ea ρ S1) else tst (eb ρ S1)) := by
      cases e : tst (ec ρ S) with
      | ok k S1 => rw [e] at h; cases k <;> exact h
      | exn c f S1 => rw [e] at h; exact h
      | bad => rw [e] at h; exact h
    obtain ⟨m1, ρ1, S1, s1, l1, h1⟩ := bindT1 (ev := fun ρ S => tst (ec ρ S)) ss sl h'
    refine PyProof.Rows.isTrue_IfExp (thn (hc.run pins s σ H _ I ⟨m1, ρ1, S1, s1, l1, h1⟩) fun k s1 ⟨H1, I1, m2, S2, g2, ss2, sl2, q⟩ => ?_)
    cases k with
    | true => exact ha'.run pins s1 σ H1 Q I1 ⟨m2, ρ, S2, ss2, sl2, q⟩
    | false => exact hb'.run pins s1 σ H1 Q I1 ⟨m2, ρ, S2, ss2, sl2, q⟩
end
end Mp
end
section
set_option Elab.async false
set_option linter.all false
set_option maxRecDepth 100000
/-! Rules: fields, subscripts, slices, calls of built-in things. -/
namespace Mp
open PySem L2
theorem back_any {env : Env} {pos : Pos} : ∀ {es : List Expr}, es.all notStar = true → (backTo pos (starEach es env)).any (·.1) = false
  | [], _ => rfl
  | e :: es, h => by
    rw [List.all_cons, Bool.and_eq_true] at h
    rw [star_cons h.1]
    show (false || (backTo pos (starEach es env)).any (·.1)) = false
    rw [back_any h.2]; rfl
theorem back_all {env : Env} {pos : Pos} : ∀ {es : List Expr}, es.all notStar = true → (backTo pos (starEach es env)).all (!·.1) = true
  | [], _ => rfl
  | e :: es, h => by
    rw [List.all_cons, Bool.and_eq_true] at h
    rw [star_cons h.1]
    show (true && (backTo pos (starEach es env)).all (!·.1)) = true
    rw [back_all h.2]; rfl
theorem form_ok {env : Env} {pos : Pos} {es : List Expr} (h : es.all notStar = true) (hl : es.length < 20) : methodCallForm (es.length + ([] : List Keyword).length) (backTo pos (starEach es env)) (backToKw pos (keywordEach [] env)) = true := by
  unfold methodCallForm
  rw [back_all h]
  simp only [Bool.true_and]
  show (true && decide (es.length + 0 + 0 < 30)) = true
  simp; omega
section
variable {T : Tb} {W0 : WX} {X : Cx} {B : Bs} {n : Nat} {M : MEnv} {sc : Scope} {fdom : Nat → Bool}
theorem ru_idx {ea eb : Rho → Store → R W} {a b : Expr} {pos : Pos} (hu : X.A.units + 64 < cLine) (ha : PE X a (tE T W0 ea)) (hb : PE X b (tE T W0 eb)) (hp : plainI b = true) :
    PE X (.Subscript a b pos) (tE T W0 fun ρ S => (ea ρ S).bind fun x S1 => (eb ρ S1).bind fun y S2 => index x y S2) :=
  ru_two (fun ta tb ha hb => pe_ix (index_ok (T := T) (by omega)) ha hb (ix_plain hp)) ha hb
theorem ru_bin {op : Bop} {ea eb : Rho → Store → R W} {a b : Expr} {pos : Pos} (hu : X.A.units + 64 < cLine) (ha : PE X a (tE T W0 ea)) (hb : PE X b (tE T W0 eb)) :
    PE X (.BinOp a op.op b pos) (tE T W0 fun ρ S => (ea ρ S).bind fun x S1 => (eb ρ S1).bind fun y S2 => bin op x y S2) :=
  ru_two (fun ta tb ha hb => pe_op (op_bin_ok (T := T) hu op) ha hb) ha hb
/-! ### a part of a slice -/
def RelO : List Addr → Hp → Option Int → Option Int → Prop := fun _ _ a b => a = b
def tPt (T : Tb) (W0 : WX) (ev : Rho → Store → R (Option Int)) : TO := fun σ H Q => ∃ (m : List Addr) (ρ : Rho) (S : Store), SimS T m S H ∧ SimL m H ρ σ ∧ PostR T RelO m H (fun c d H' => W0 c d σ H') Q (ev ρ S)
theorem PO.imp {X : Cx} {e : Option Expr} {t t' : TO} (h : PO X e t) (i : ∀ σ H Q, t' σ H Q → t σ H Q) : PO X e t' := ⟨fun pins s σ H Q I q => h.run pins s σ H Q I (i σ H Q q)⟩
theorem ru_none : PO X none (tPt T W0 fun _ S => .ok none S) := PO.imp po_none fun σ H Q ⟨m, ρ, S, ss, sl, h⟩ => h m H none Grow.refl ss rfl
theorem ru_some {a : Expr} {ea : Rho → Store → R W} (ha : PE X a (tE T W0 ea)) : PO X (some a) (tPt T W0 fun ρ S => (ea ρ S).bind fun x S1 => match x with
    | .int i => .ok (some i) S1
    | _ => .bad) := by
  refine PO.imp (po_some ha) fun σ H Q ⟨m, ρ, S, ss, sl, h⟩ => ?_
  obtain ⟨m', ρ', S', s1, s2, h1⟩ := bindG (ev := ea) ss sl h
  refine ⟨m', ρ', S', s1, s2, PostR.mono h1 fun v H1 ⟨m1, x, S1, g1, ss1, sl1, r1, q1⟩ => ?_⟩
  cases x with
  | int i => cases (show v = .int i from r1); exact ⟨i, rfl, q1 m1 H1 (some i) Grow.refl ss1 rfl⟩
  | _ => exact q1.elim
section
variable {m : List Addr} {H : Hp} {S : Store} {ρ : Rho} {σ : L2.St}
theorem bindP {α β : Type} {rel : List Addr → Hp → α → β → Prop} {ev : Rho → Store → R (Option Int)} {f : Option Int → Store → R α} {Q : β → Hp → Prop} (ss : SimS T m S H) (sl : SimL m H ρ σ) (h : PostR T rel m H (fun c d H' => W0 c d σ H') Q ((ev ρ S).bind f)) :
    tPt T W0 ev σ H fun b H1 => ∃ m1 S1, Grow m H m1 H1 ∧ SimS T m1 S1 H1 ∧ SimL m1 H1 ρ σ ∧ PostR T rel m1 H1 (fun c d H' => W0 c d σ H') Q (f b S1) :=
  ⟨m, ρ, S, ss, sl, PostR.mono (PostR.bind (rel := RelO) h) fun v H1 ⟨m1, w, S1, g, s1, r, q⟩ => ⟨m1, S1, g, s1, sl.grow ss g, by cases (show w = v from r); exact q⟩⟩
end
theorem ru_slice {ea : Rho → Store → R W} {el eh : Rho → Store → R (Option Int)} {a : Expr} {lo hi : Option Expr} {p2 pos : Pos} (ha : PE X a (tE T W0 ea)) (hl : PO X lo (tPt T W0 el)) (hh : PO X hi (tPt T W0 eh)) :
    PE X (.Subscript a (.Slice lo hi none p2) pos) (tE T W0 fun ρ S => (ea ρ S).bind fun x S1 => (el ρ S1).bind fun l S2 => (eh ρ S2).bind fun h S3 => sliceW x l h S3) := by
  refine PE.imp (pe_slice (slice_ok (T := T)) ha hl hh) fun σ H Q ⟨m, ρ, S, ss, sl, h⟩ => ?_
  obtain ⟨m', ρ', S', s1, s2, h1⟩ := bindE (ev := ea) ss sl h
  refine ⟨m', ρ', S', s1, s2, PostR.mono h1 fun v H1 ⟨m1, x, S1, g1, ss1, sl1, r1, q1⟩ => ?_⟩
  obtain ⟨m', ρ', S', s1, s2, h2⟩ := bindP (ev := el) ss1 sl1 q1
  refine ⟨m', ρ', S', s1, s2, PostR.mono h2 fun l H2 ⟨m2, S2, g2, ss2, sl2, q2⟩ => ?_⟩
  obtain ⟨m', ρ', S', s1, s2, h3⟩ := bindP (ev := eh) ss2 sl2 q2
  refine ⟨m', ρ', S', s1, s2, PostR.mono h3 fun k H3 ⟨m3, S3, g3, ss3, sl3, q3⟩ => ?_⟩
  exact ⟨_, m3, S3, x, ss3, (r1.grow ss1 g2).grow ss2 g3, q3⟩
theorem ru_rev {ea : Rho → Store → R W} {a : Expr} {k : Nat} {p1 p2 p3 pos : Pos} (ha : PE X a (tE T W0 ea)) :
    PE X (.Subscript a (.Slice none none (some (.UnaryOp .USub (.Constant (.int 1) k p1) p2)) p3) pos) (tE T W0 fun ρ S => (ea ρ S).bind revW) := by
  refine PE.imp (pe_revL ha) fun σ H Q ⟨m, ρ, S, ss, sl, h⟩ => ?_
  obtain ⟨m', ρ', S', s1, s2, h1⟩ := bindE (ev := ea) ss sl h
  refine ⟨m', ρ', S', s1, s2, PostR.mono h1 fun v H1 ⟨m1, x, S1, g1, ss1, sl1, r1, q1⟩ => ?_⟩
  cases x with
  | ref a =>
    have q1 : PostR T RepV m1 H1 (fun c d H' => W0 c d σ H') Q (match listAt S1 a with | some ws => .ok (.ref S1.length) (S1 ++ [.lst ws.reverse]) | none => .bad) := q1
    cases e : listAt S1 a with
    | none => rw [e] at q1; exact q1.elim
    | some ws =>
      rw [e] at q1
      obtain ⟨b, vs, rfl, h2, h3⟩ := listAt_inv (K := X.K) e ss1 r1
      exact ⟨b, vs, rfl, h2, fun p hp => post_lst q1 ss1 h3.reverse hp⟩
  | _ => exact q1.elim
/-! ### fields -/
theorem getF_mem {f : Nat} {w : W} : ∀ {fs : List (Nat × W)}, getF f fs = some w → ∃ p ∈ fs, p.1 = f
  | [], h => by cases h
  | (g, u) :: r, h => by
    rw [getF] at h
    by_cases e : g = f
    · exact ⟨_, List.mem_cons_self .., e⟩
    · rw [if_neg e] at h
      obtain ⟨p, h1, h2⟩ := getF_mem h
      exact ⟨p, List.mem_cons_of_mem _ h1, h2⟩
theorem getF_rep {m : List Addr} {H : Hp} {f : Nat} {w : W} (dom : Nat → Prop) (hf : dom f) (hi : ∀ g, dom g → T.nm g = T.nm f → g = f) : ∀ {fs : List (Nat × W)} {fs' : List (Str × V)}, RepF T m H fs fs' → (∀ p ∈ fs, dom p.1) → getF f fs = some w →
    ∃ v, fs'.lookup (T.nm f) = some v ∧ RepV m H w v
  | [], _, _, _, h => by cases h
  | (g, u) :: r, _, .cons (b := b) hb ht, hd, h => by
    obtain ⟨x, y⟩ := b
    obtain ⟨h1, h2⟩ := hb
    simp only at h1 h2
    rw [getF] at h
    by_cases e : g = f
    · rw [if_pos e] at h
      cases h
      subst e
      exact ⟨y, by rw [List.lookup_cons, h1]; simp, h2⟩
    · rw [if_neg e] at h
      obtain ⟨v, e1, e2⟩ := getF_rep dom hf hi ht (fun p hp => hd p (List.mem_cons_of_mem _ hp)) h
      refine ⟨v, ?_, e2⟩
      have hne : (T.nm f == x) = false := by
        rw [h1, beq_eq_false_iff_ne]
        exact fun z => e (hi g (hd _ (List.mem_cons_self ..)) z.symm)
      rw [List.lookup_cons, hne]; exact e1
theorem ru_attr (F : Facts B T M fdom) (c : Cok B n M X sc) {f : Nat} {s : Str} {a : Expr} {pos : Pos} {ea : Rho → Store → R W} (hs : M.nms.lookup s = some f) (hp : plainO a = true) (ha : PE X a (tE T W0 ea)) :
    PE X (.Attribute a s pos) (tE T W0 fun ρ S => (ea ρ S).bind fun x S1 => match x with
      | .ref n => match S1[n]? with
        | some (.ins _ fs) => okO (getF f fs) S1
        | _ => .bad
      | _ => .bad) := by
  refine PE.imp (pe_fld ha (base_plain hp)) fun σ H Q ⟨m, ρ, S, ss, sl, h⟩ => ?_
  obtain ⟨m', ρ', S', s1, s2, h1⟩ := bindE (ev := ea) ss sl h
  refine ⟨m', ρ', S', s1, s2, PostR.mono h1 fun v H1 ⟨m1, x, S1, g1, ss1, sl1, r1, q1⟩ => ?_⟩
  cases x with
  | ref k =>
    obtain ⟨b, hb, rfl⟩ := r1
    cases e : S1[k]? with
    | none => simp only [e] at q1; exact q1.elim
    | some o =>
      cases o with
      | ins cc fs =>
        simp only [e] at q1
        obtain ⟨⟨hd, hf⟩, dx, fs', h3, h4⟩ := ss1.at_ k _ b e hb
        obtain ⟨w, e1, q2⟩ := okO_inv q1
        obtain ⟨p, hp1, hp2⟩ := getF_mem e1
        have hff : T.fld cc f = true := hp2 ▸ hf p hp1
        obtain ⟨u, e2, r2⟩ := getF_rep (fun g => T.fld cc g = true) hff (fun g hg z => F.inj cc g f hd hg hff z) h4 hf e1
        rw [F.nm s f hs] at e2
        refine ⟨b, T.ca cc, dx, fs', u, rfl, h3, ?_, ?_, e2, post_here q2 ss1 r2⟩
        · rw [c.K]; exact F.cls.cls cc hd
        · rw [c.K, ← F.nm s f hs]; exact F.na cc f hd hff
      | _ => simp only [e] at q1; exact q1.elim
  | _ => exact q1.elim
/-! ### built-in functions -/
def biIn (b : Bi) : Bool := match b with
  | .sorted => false
  | _ => true
theorem bi_name (b : Bi) : b.name ∈ bltNames ∧ b.name ≠ "__name__" ∧ (b.name == ("__debug__" : Str)) = false ∧ bootBuiltins b.name = some b.val := by
  cases b <;> exact ⟨by decide, by decide, by decide, by with_unfolding_all rfl⟩
theorem ru_bi (F : Facts B T M fdom) (c : Cok B n M X sc) {b : Bi} {p pos : Pos} {e : Expr} {es : List Expr} {ea : Rho → Store → R (List W)} (hg : glB sc b.name = true) (hn : (e :: es).all notStar = true) (ha : PA X (e :: es) (tA T W0 ea)) :
    PE X (.Call (.Name b.name p) (e :: es) [] pos) (tE T W0 fun ρ S => (ea ρ S).bind (biF b)) := by
  obtain ⟨h1, h2, h3, h4⟩ := bi_name b
  have hm : X.mg b.name = none := by rw [c.mg]; exact F.bu _ h1
  rw [List.all_cons, Bool.and_eq_true] at hn
  have key : ∀ {r : List V → Hp → VK → Prop}, PE X (.Call (.Name b.name p) (e :: es) [] pos) (tCB (rCallW T (biF b)) (tA T W0 ea)) → PE X (.Call (.Name b.name p) (e :: es) [] pos) (tE T W0 fun ρ S => (ea ρ S).bind (biF b)) := fun {r} h => by
    refine PE.imp h fun σ H Q ⟨m, ρ, S, ss, sl, h⟩ => ?_
    obtain ⟨m', ρ', S', s1, s2, h1⟩ := bindA (ev := ea) ss sl h
    refine ⟨m', ρ', S', s1, s2, PostR.mono h1 fun v H1 ⟨m1, x, S1, g1, ss1, sl1, r1, q1⟩ => ?_⟩
    exact ⟨_, m1, S1, x, ss1, r1, q1⟩
  refine key (r := rCallW T (biF b)) ?_
  have hc := callB_ok (T := T) c.calm b
  have hst := star_cons (es := es) (env := X.env) hn.1
  have hpl := back_any (env := X.env) (pos := pos) hn.2
  unfold Bi.val at hc h4
  cases e1 : b.cls with
  | some t =>
    rw [e1] at hc h4
    exact pe_callTy hc (c.gl hg) hm h4 ha h2 h3 hst hpl
  | none =>
    rw [e1] at hc h4
    exact pe_callB hc (c.gl hg) hm h4 ha h2 h3 hst hpl
/-! ### methods of lists -/
theorem slot_bm (b : Bm) : Slot "list" b.name b.id ∧ typeOf (.builtin b.id) = pure (.type "method_descriptor") := by
  cases b
  · exact ⟨PySem.F.slot_list_append, PySem.F.type_list_append⟩
  · exact ⟨PySem.F.slot_list_pop, PySem.F.type_list_pop⟩
  · exact ⟨PySem.F.slot_list_pop, PySem.F.type_list_pop⟩
  · exact ⟨PySem.F.slot_list_clear, PySem.F.type_list_clear⟩
  · exact ⟨PySem.F.slot_list_reverse, PySem.F.type_list_reverse⟩
  · exact ⟨PySem.F.slot_list_extend, PySem.F.type_list_extend⟩
theorem ru_bm {b : Bm} {a : Expr} {es : List Expr} {apos pos : Pos} {ea : Rho → Store → R W} {er : Rho → Store → R (List W)} (hp : plainO a = true) (hl : (apos.endLine == pos.line) = true) (hlen : es.length < 20) (hn : es.all notStar = true) (ha : PE X a (tE T W0 ea)) (hr : PA X es (tA T W0 er)) (h0 : es = [] → er = fun _ S => .ok [] S) :
    PE X (.Call (.Attribute a b.name apos) es [] pos) (tE T W0 fun ρ S => (ea ρ S).bind fun x S1 => match x with
    | .ref n => match S1[n]? with
      | some (.lst _) => (er ρ S1).bind (bmF b x)
      | _ => .bad
    | _ => .bad) := by
  obtain ⟨h1, h2⟩ := slot_bm b
  have hf := form_ok (env := X.env) (pos := pos) hn hlen
  cases es with
  | nil =>
    refine PE.imp (pe_bm0 PySem.F.plainAttrs_list h1 h2 (mt_ok (T := T) b) ha (base_plain hp) hl) fun σ H Q ⟨m, ρ, S, ss, sl, h⟩ => ?_
    obtain ⟨m', ρ', S', s1, s2, h1⟩ := bindE (ev := ea) ss sl h
    refine ⟨m', ρ', S', s1, s2, PostR.mono h1 fun v H1 ⟨m1, x, S1, g1, ss1, sl1, r1, q1⟩ => ?_⟩
    cases x with
    | ref k =>
      cases e : S1[k]? with
      | none => simp only [e] at q1; exact q1.elim
      | some o =>
        cases o with
        | lst ws =>
          simp only [e] at q1
          obtain ⟨p, vs, rfl, hp, h3, h4⟩ := lst_inv e ss1 r1
          rw [h0 rfl] at q1
          exact ⟨.inl ⟨rfl, vs, .inl (.inl h3)⟩, _, m1, S1, .ref k, [], ss1, r1, rfl, q1⟩
        | _ => simp only [e] at q1; exact q1.elim
    | _ => exact q1.elim
  | cons e0 es =>
    have hn' := hn
    rw [List.all_cons, Bool.and_eq_true] at hn'
    refine PE.imp (pe_bm PySem.F.plainAttrs_list h1 h2 (mt_ok (T := T) b) ha hr (base_plain hp) ?_ hl (star_cons hn'.1) (back_any hn'.2)) fun σ H Q ⟨m, ρ, S, ss, sl, h⟩ => ?_
    · exact hf
    obtain ⟨m', ρ', S', s1, s2, h1⟩ := bindE (ev := ea) ss sl h
    refine ⟨m', ρ', S', s1, s2, PostR.mono h1 fun v H1 ⟨m1, x, S1, g1, ss1, sl1, r1, q1⟩ => ?_⟩
    cases x with
    | ref k =>
      cases e : S1[k]? with
      | none => simp only [e] at q1; exact q1.elim
      | some o =>
        cases o with
        | lst ws =>
          simp only [e] at q1
          obtain ⟨p, vs, rfl, hp, h3, h4⟩ := lst_inv e ss1 r1
          refine ⟨.inl ⟨rfl, vs, .inl (.inl h3)⟩, ?_⟩
          obtain ⟨m', ρ', S', s1, s2, h2⟩ := bindA (ev := er) ss1 sl1 q1
          refine ⟨m', ρ', S', s1, s2, PostR.mono h2 fun us H2 ⟨m2, ws2, S2, g2, ss2, sl2, r2, q2⟩ => ?_⟩
          exact ⟨_, m2, S2, .ref k, ws2, ss2, RepV.grow ss1 g2 r1, r2, q2⟩
        | _ => simp only [e] at q1; exact q1.elim
    | _ => exact q1.elim
end
end Mp
end
section
set_option Elab.async false
set_option linter.all false
set_option maxRecDepth 100000
/-! Rules: calls of the text's own defs. -/
namespace Mp
open PySem PySem.Spec PyProof.Rows L2
theorem fill_len {d : FDef} {ws : List W} (h : ws.length = d.np) : fill d ws = ws := by
  unfold fill
  rw [h, Nat.sub_self, Nat.sub_zero, List.drop_length, List.append_nil]
theorem callN_fill {P : Prog} {n f : Nat} {d : FDef} {ws : List W} {S : Store} (hd : P.fn f = some d) (h : (fill d ws).length = d.np) : callN P n f (fill d ws) S = callN P n f ws S := by
  cases n with
  | zero => rfl
  | succ n =>
    unfold callN
    rw [hd]
    simp only [fill_len h]
section
variable {T : Tb} {W0 : WX} {X : Cx} {B : Bs} {n : Nat} {M : MEnv} {sc : Scope} {fdom : Nat → Bool}
theorem Cok.fo {n : Nat} (c : Cok B n M X sc) {k : Nat} {f : Addr} {fd : FuncData} {ps : List Str} {sp : Sp} (F : FnOk B.prog B.w B.K B.mg B.base (L2.CX B.prog B.w) k f fd ps sp) : FnOk X.prog X.w X.K X.mg X.base (L2.CX X.prog X.w) k f fd ps sp := by
  rw [c.pr, c.w, c.K, c.mg, c.base]; exact F
theorem arity_inv {P : Prog} {f k : Nat} (h : arity P f k = true) : ∃ d, P.fn f = some d ∧ k ≤ d.np ∧ d.np - k ≤ d.dfl.length := by
  unfold arity at h
  cases e : P.fn f with
  | none => rw [e] at h; cases h
  | some d => rw [e] at h; exact ⟨d, rfl, by simpa using h⟩
/-- behind the arguments: the def's promise -/
theorem sp_of {P : Prog} {f : Nat} {d : FDef} (hd : P.fn f = some d) {m : List Addr} {S : Store} {H : Hp} {ws : List W} {vs : List V} {dvs : List V} {Z : XK} {Q : VK} (ss : SimS T m S H) (r : RepVs m H ws vs)
    (hk : ws.length ≤ d.np) (hk2 : d.np - ws.length ≤ d.dfl.length) (hv : RepVs m H (d.dfl.drop (d.dfl.length - (d.np - ws.length))) dvs) (h : PostR T RepV m H (fun c dd H' => Z c dd H') Q (callN P n f ws S)) :
    spI T d.np (callN P n f) (vs ++ dvs) H Q Z := by
  have hl : (fill d ws).length = d.np := by
    unfold fill
    rw [List.length_append, List.length_drop]
    omega
  exact ⟨m, S, fill d ws, ss, r.append hv, hl, by rw [callN_fill hd hl]; exact h⟩
theorem ru_call (F : Facts B T M fdom) (c : Cok B n M X sc) (tk : Takes X W0) (hF : ∀ f, fdom f = true → FnT B T M.P n f) {f : Nat} {x : Str} {p pos : Pos} {es : List Expr} {k : Nat} {ea : Rho → Store → R (List W)} (hx : M.fns.lookup x = some f) (hg : glB sc x = true) (hnm : nmOk x = true)
    (har : arity M.P f k = true) (hn : es.all notStar = true) (hlen : ∀ ρ S ws S', ea ρ S = .ok ws S' → ws.length = k) (ha : PA X es (tA T W0 ea)) (h0 : es = [] → ea = fun _ S => .ok [] S) :
    PE X (.Call (.Name x p) es [] pos) (tE T W0 fun ρ S => (ea ρ S).bind (callN M.P n f)) := by
  obtain ⟨d, hd, hk, hk2⟩ := arity_inv har
  obtain ⟨hm, hfd⟩ := F.fn x f hx
  obtain ⟨fd, ps, d', hd', hps, kp, F1, hdf⟩ := hF f hfd
  rw [hd] at hd'; cases hd'
  obtain ⟨dvs, ds, v1, v2, v3⟩ := hdf k hk hk2
  have F2 := c.fo F1
  have hm' : X.mg x = some (.ref (T.fa f)) := by rw [c.mg]; exact hm
  have hr : Room (2 * n + 2) X.A := c.room.mono (by omega)
  have kp' : PySem.W.keepIn X.K (.ref (T.fa f)) = true := by rw [c.K]; exact kp
  have v3' : Binds X.K fd ps ds := by rw [c.K]; exact v3
  obtain ⟨n1, n2, n3⟩ := nmOk_inv hnm
  have key : ∀ {ea : Rho → Store → R (List W)}, (∀ ρ S ws S', ea ρ S = .ok ws S' → ws.length = k) → PE X (.Call (.Name x p) es [] pos) (tCallSD (spI T d.np (callN M.P n f)) dvs (WE W0) (tA T W0 ea)) → PE X (.Call (.Name x p) es [] pos) (tE T W0 fun ρ S => (ea ρ S).bind (callN M.P n f)) := fun {ea} hlen h => by
    refine PE.imp h fun σ H Q ⟨m, ρ, S, ss, sl, h⟩ => ?_
    refine ⟨m, ρ, S, ss, sl, ?_⟩
    simp only [] at h
    cases e : ea ρ S with
    | ok ws S1 =>
      rw [e] at h
      intro m1 H1 vs g s r
      have hl := hlen ρ S ws S1 e
      exact sp_of hd s r (by omega) (by omega) (by rw [hl]; exact v2 m1 H1) (PostR.later g h)
    | exn c f S1 => rw [e] at h; exact h
    | bad => rw [e] at h; exact h
  cases es with
  | nil =>
    rw [h0 rfl] at hlen ⊢
    refine key hlen ⟨fun pins s σ H Q I h => ?_⟩
    obtain ⟨m, ρ, S, ss, sl, h⟩ := h
    refine wpAny_Call_Name_kw (ld_glob I (c.gl hg) hm' ?_ n1)
    exact PySem.W.callWith_K0 I.kIn kp' (run_fnSD (us := []) (vs := []) F2 hr v3' v1 (passAt tk σ) I .nil (h m H [] Grow.refl ss rfl))
  | cons e es =>
    have hn' := hn
    rw [List.all_cons, Bool.and_eq_true] at hn'
    exact key hlen (pe_callSD F2 hr (c.gl hg) hm' kp' v3' v1 (fun σ => passAt tk σ) ha n1 (star_cons hn'.1) (back_any hn'.2))
theorem fill_inv {d : FDef} {ws : List W} (h : (fill d ws).length = d.np) : ws.length ≤ d.np ∧ d.np - ws.length ≤ d.dfl.length := by
  unfold fill at h
  rw [List.length_append, List.length_drop] at h
  omega
/-- a def's run: nothing, or with as many as it takes -/
theorem callN_inv {P : Prog} {n f : Nat} {ws : List W} {S : Store} : callN P n f ws S = .bad ∨ ∃ d, P.fn f = some d ∧ ws.length ≤ d.np ∧ d.np - ws.length ≤ d.dfl.length := by
  cases n with
  | zero => exact .inl rfl
  | succ n =>
    unfold callN
    cases e : P.fn f with
    | none => exact .inl rfl
    | some d =>
      simp only []
      by_cases h : (fill d ws).length = d.np
      · exact .inr ⟨d, rfl, fill_inv h⟩
      · rw [if_neg h]; exact .inl rfl
theorem repF_none {m : List Addr} {H : Hp} {s : Str} : ∀ {fs : List (Nat × W)} {fs' : List (Str × V)}, RepF T m H fs fs' → (∀ p ∈ fs, T.nm p.1 ≠ s) → fs'.lookup s = none
  | [], _, .nil, _ => rfl
  | (g, u) :: r, _, .cons (b := b) hb ht, hd => by
    obtain ⟨x, y⟩ := b
    obtain ⟨h1, h2⟩ := hb
    simp only at h1
    have hne : (s == x) = false := by
      rw [h1, beq_eq_false_iff_ne]
      exact fun z => hd _ (List.mem_cons_self ..) z.symm
    rw [List.lookup_cons, hne]
    exact repF_none ht fun p hp => hd p (List.mem_cons_of_mem _ hp)
/-- a def is called, its arguments there -/
theorem run_sp (c : Cok B n M X sc) (tk : Takes X W0) {f : Nat} (hF : FnT B T M.P n f) {pins : List (Addr × Obj)} {s : Shared} {σ : L2.St} {H : Hp} {Q : VK} {m : List Addr} {S : Store} {ws : List W} {vs : List V} {us : List Value}
    (I : L2.Inv X pins σ H s) (ss : SimS T m S H) (r : RepVs m H ws vs) (rv : Vals vs us) (h : PostR T RepV m H (fun c d H' => W0 c d σ H') Q (callN M.P n f ws S)) : wpAny (model X.prog X.w) X.A (call (.ref (T.fa f)) us) (EP X pins σ Q) X.xe s := by
  rcases callN_inv (P := M.P) (n := n) (f := f) (ws := ws) (S := S) with e | ⟨d, hd, hk, hk2⟩
  · rw [e] at h; exact h.elim
  · obtain ⟨fd, ps, d', hd', hps, kp, F1, hdf⟩ := hF
    rw [hd] at hd'; cases hd'
    obtain ⟨dvs, ds, v1, v2, v3⟩ := hdf ws.length hk hk2
    have v3' : Binds X.K fd ps ds := by rw [c.K]; exact v3
    exact run_fnSD (c.fo F1) (c.room.mono (by omega)) v3' v1 (passAt tk σ) I rv (sp_of hd ss r hk hk2 (v2 m H) h)
theorem ru_om (F : Facts B T M fdom) (c : Cok B n M X sc) (tk : Takes X W0) (hF : ∀ f, fdom f = true → FnT B T M.P n f) {mi : Nat} {s : Str} {a : Expr} {apos pos : Pos} {es : List Expr} {ea : Rho → Store → R W} {er : Rho → Store → R (List W)}
    (hs : M.nms.lookup s = some mi) (hp : plainO a = true) (hl : (apos.endLine == pos.line) = true) (hlen : es.length < 20) (hn : es.all notStar = true) (ha : PE X a (tE T W0 ea)) (hr : PA X es (tA T W0 er)) (h0 : es = [] → er = fun _ S => .ok [] S) :
    PE X (.Call (.Attribute a s apos) es [] pos) (tE T W0 fun ρ S => (ea ρ S).bind fun x S1 => match x with
    | .ref k => match S1[k]? with
      | some (.ins c _) => match M.P.mth c mi with
        | some f => (er ρ S1).bind fun ws S2 => callN M.P n f (x :: ws) S2
        | none => .bad
      | _ => .bad
    | _ => .bad) := by
  refine ⟨fun pins s1 σ H Q I ⟨m, ρ, S, ss, sl, h⟩ => ?_⟩
  have ht := mcall_of (m := s) (apos := apos) (pos := pos) (kws := []) (base_plain hp) fun ov => mcall_line (env := X.env) (o := a) (m := s) (ov := ov) (form_ok (env := X.env) (pos := pos) hn hlen) hl
  refine PySem.W.methodCall_KW (pl := plainOf a X.env) (thn (ha.run pins s1 σ H _ I (bindE (ev := ea) ss sl h)) fun u s2 ⟨v, H1, I1, rv, m1, x, S1, g1, ss1, sl1, r1, q1⟩ => ?_) ht
  cases x with
  | ref k =>
    obtain ⟨b, hb, rfl⟩ := r1
    obtain rfl : u = Value.ref b := rv
    cases e : S1[k]? with
    | none => simp only [e] at q1; exact q1.elim
    | some o =>
      cases o with
      | ins cc fs =>
        simp only [e] at q1
        cases e2 : M.P.mth cc mi with
        | none => simp only [e2] at q1; exact q1.elim
        | some f =>
          simp only [e2] at q1
          obtain ⟨⟨hd, hf⟩, dx, fs', h3, h4⟩ := ss1.at_ k _ b e hb
          obtain ⟨M1, M2, M3⟩ := F.mth cc mi f hd e2
          rw [F.nm s mi hs] at M1 M2
          have hno : fs'.lookup s = none := repF_none h4 fun p hp => M2 p.1 (hf p hp)
          have hcl : Cls X.K (T.ca cc) := by rw [c.K]; exact F.cls.cls cc hd
          have hme : Meth X.K (T.ca cc) s (T.fa f) := by rw [c.K]; exact M1
          refine getmeth_ok I1 h3 hcl hme hno ?_
          cases es with
          | nil =>
            rw [h0 rfl] at q1
            refine PySem.W.callWith_K0 (first := [.ref b]) I1.kIn hme.kp ?_
            exact run_sp c tk (hF f M3) (us := [.ref b]) (vs := [.ref b]) (ws := [.ref k]) I1 ss1 (RepVs.one ⟨b, hb, rfl⟩) (.cons rfl .nil) q1
          | cons e0 es =>
            have hn' := hn
            rw [List.all_cons, Bool.and_eq_true] at hn'
            refine PySem.W.callWith_K (first := [.ref b]) (h₀ := X.base) I1.ok.mod.kin hme.kp (thn (hr.run pos pins s2 σ H1 _ I1 (bindA (ev := er) ss1 sl1 q1)) fun us s3 ⟨vs, H2, I2, r, m2, ws, S2, g2, ss2, sl2, r2, q2⟩ => ⟨I2.kIn, ?_⟩) (star_cons hn'.1) (back_any hn'.2)
            exact run_sp c tk (hF f M3) (us := .ref b :: us) (vs := .ref b :: vs) (ws := .ref k :: ws) I2 ss2 ⟨.ref b, vs, rfl, ⟨b, pre_get g2.pre hb, rfl⟩, r2⟩ (.cons rfl r) q2
      | _ => simp only [e] at q1; exact q1.elim
  | _ => exact q1.elim
/-- an instance is made -/
theorem run_mk (F : Facts B T M fdom) (c : Cok B n M X sc) (tk : Takes X W0) {cc f : Nat} (hd : T.cd cc = true) (hi : M.P.ini cc = some f) (hF : FnT B T M.P n f) {pins : List (Addr × Obj)} {s : Shared} {σ : L2.St} {H : Hp} {Q : VK} {m : List Addr} {S : Store} {ws : List W} {vs : List V} {us : List Value}
    (I : L2.Inv X pins σ H s) (ss : SimS T m S H) (r : RepVs m H ws vs) (rv : Vals vs us) (h : PostR T RepV m H (fun c d H' => W0 c d σ H') Q ((callN M.P n f (.ref S.length :: ws) (S ++ [.ins cc []])).bind fun r S2 => match r with
      | .non => .ok (.ref S.length) S2
      | _ => .bad)) : wpAny (model X.prog X.w) X.A (call (.ref (T.ca cc)) us) (EP X pins σ Q) X.xe s := by
  rcases callN_inv (P := M.P) (n := n) (f := f) (ws := .ref S.length :: ws) (S := S ++ [.ins cc []]) with e | ⟨d, hdd, hk, hk2⟩
  · rw [e] at h; exact h.elim
  obtain ⟨fd, ps, d', hd', hps, kp, F1, hdf⟩ := hF
  rw [hdd] at hd'; cases hd'
  obtain ⟨dvs, ds, v1, v2, v3⟩ := hdf _ hk hk2
  have v3' : Binds X.K fd ps ds := by rw [c.K]; exact v3
  have MK : Mk X.K (T.ca cc) (T.fa f) := by rw [c.K]; exact (F.mkf cc f hd hi).1
  have hx := I.hok.fresh (Nat.le_succ s.heap.objs.size)
  have hdx := I.hok.fresh (Nat.le_refl s.heap.objs.size)
  have hne : s.heap.objs.size + 1 ≠ s.heap.objs.size := Nat.succ_ne_self _
  have I2 := Inv.made (C := T.ca cc) I
  -- the store there
  have s1 := ss.off (o := .own (s.heap.objs.size + 1)) hdx
  have g1 := grow_tup ss (o := .own (s.heap.objs.size + 1)) hdx
  have hx1 : L2.upd H s.heap.objs.size (.own (s.heap.objs.size + 1)) (s.heap.objs.size + 1) = none := by rw [upd_ne hne]; exact hx
  have s2 : SimS T (m ++ [s.heap.objs.size + 1]) (S ++ [.ins cc []]) (L2.upd (L2.upd H s.heap.objs.size (.own (s.heap.objs.size + 1))) (s.heap.objs.size + 1) (.ins (T.ca cc) s.heap.objs.size [])) :=
    s1.alloc hx1 ⟨⟨hd, fun p hp => by cases hp⟩, _, _, upd_same, .nil⟩
  have g2 := g1.trans (grow_new s1 (o := .ins (T.ca cc) s.heap.objs.size []) hx1)
  have rs : RepVs (m ++ [s.heap.objs.size + 1]) (L2.upd (L2.upd H s.heap.objs.size (.own (s.heap.objs.size + 1))) (s.heap.objs.size + 1) (.ins (T.ca cc) s.heap.objs.size [])) (.ref S.length :: ws) (.ref (s.heap.objs.size + 1) :: vs) :=
    ⟨_, vs, rfl, ⟨_, ss.last, rfl⟩, r.grow ss g2⟩
  have h2 : PostR T RepV (m ++ [s.heap.objs.size + 1]) (L2.upd (L2.upd H s.heap.objs.size (.own (s.heap.objs.size + 1))) (s.heap.objs.size + 1) (.ins (T.ca cc) s.heap.objs.size [])) (fun c d H' => W0 c d σ H') (fun v H2 => v = .non ∧ Q (.ref (s.heap.objs.size + 1)) H2) (callN M.P n f (.ref S.length :: ws) (S ++ [.ins cc []])) := by
    cases e : callN M.P n f (.ref S.length :: ws) (S ++ [.ins cc []]) with
    | ok w S2 =>
      rw [e] at h
      intro m3 H3 v3 g3 s3 r3
      cases w with
      | non =>
        refine ⟨r3, ?_⟩
        have h : PostR T RepV m H (fun c d H' => W0 c d σ H') Q (.ok (.ref S.length) S2) := h
        exact h m3 H3 _ (g2.trans g3) s3 ⟨_, pre_get g3.pre ss.last, rfl⟩
      | _ => exact h.elim
    | exn c f S2 => rw [e] at h; exact fun m3 H3 cls d g3 s3 r3 => h m3 H3 cls d (g2.trans g3) s3 r3
    | bad => rw [e] at h; exact h
  have hq := sp_of (n := n) hdd s2 rs hk hk2 (v2 _ _) h2
  have r2 : Vals ((V.ref (s.heap.objs.size + 1) :: vs) ++ dvs) ((Value.ref (s.heap.objs.size + 1) :: us) ++ ds) := Vals.append (.cons (show RelV (V.ref (s.heap.objs.size + 1)) (Value.ref (s.heap.objs.size + 1)) from rfl) rv) v1
  have hl : (Value.ref (s.heap.objs.size + 1) :: us ++ ds).length = ps.length := by
    rw [← r2.length]
    exact (c.fo F1).len _ _ _ _ hq
  refine wpAny_call (make_map (f := T.fa f) I.kIn MK.makes MK.init (beq_iff_eq.mp MK.fn) (codeAny_mono ((c.fo F1).run _ X.stack _ _ ⟨Value.ref (s.heap.objs.size + 1) :: us, []⟩ _ _ _ _ (Room.make c.room _ us []) (I2.env0.make _ us []) (v3' _ (Value.ref (s.heap.objs.size + 1) :: us) I2.kIn hl) r2 hq) fun z s' hz => ?_))
  cases z with
  | error e => exact passAt tk σ pins _ _ e s' I2 hz
  | ok fl =>
    cases fl with
    | ret u =>
      obtain ⟨v, H', I3, rv3, ev, q3⟩ := I2.after hz
      subst ev
      exact ⟨rv3, ⟨V.ref (s.heap.objs.size + 1), H', I3, rfl, q3⟩⟩
    | _ => exact False.elim hz
theorem ru_make (F : Facts B T M fdom) (c : Cok B n M X sc) (tk : Takes X W0) (hF : ∀ f, fdom f = true → FnT B T M.P n f) {cc : Nat} {x : Str} {p pos : Pos} {es : List Expr} {ea : Rho → Store → R (List W)} (hx : M.clss.lookup x = some cc) (hg : glB sc x = true) (hnm : nmOk x = true)
    (hn : es.all notStar = true) (hi : (M.P.ini cc).isSome = true) (ha : PA X es (tA T W0 ea)) (h0 : es = [] → ea = fun _ S => .ok [] S) :
    PE X (.Call (.Name x p) es [] pos) (tE T W0 fun ρ S => (ea ρ S).bind fun ws S1 => match M.P.ini cc with
    | some f => (callN M.P n f (.ref S1.length :: ws) (S1 ++ [.ins cc []])).bind fun r S2 => match r with
      | .non => .ok (.ref S1.length) S2
      | _ => .bad
    | none => .bad) := by
  obtain ⟨hm, hd⟩ := F.cl x cc hx
  obtain ⟨f, hf⟩ := Option.isSome_iff_exists.mp hi
  obtain ⟨MK, hfd⟩ := F.mkf cc f hd hf
  have hm' : X.mg x = some (.ref (T.ca cc)) := by rw [c.mg]; exact hm
  have kp : PySem.W.keepIn X.K (.ref (T.ca cc)) = true := by rw [c.K]; exact MK.kp
  obtain ⟨n1, n2, n3⟩ := nmOk_inv hnm
  simp only [hf]
  refine ⟨fun pins s σ H Q I ⟨m, ρ, S, ss, sl, h⟩ => ?_⟩
  refine wpAny_Call_Name_kw (ld_glob I (c.gl hg) hm' ?_ n1)
  cases es with
  | nil =>
    rw [h0 rfl] at h
    exact PySem.W.callWith_K0 I.kIn kp (run_mk F c tk hd hf (hF f hfd) (us := []) (vs := []) (ws := []) I ss rfl .nil h)
  | cons e es =>
    have hn' := hn
    rw [List.all_cons, Bool.and_eq_true] at hn'
    refine PySem.W.callWith_K (h₀ := X.base) I.ok.mod.kin kp (thn (ha.run pos pins s σ H _ I (bindA (ev := ea) ss sl h)) fun us s1 ⟨vs, H1, I1, r, m1, ws, S1, g1, ss1, sl1, r1, q1⟩ => ⟨I1.kIn, ?_⟩) (star_cons hn'.1) (back_any hn'.2)
    exact run_mk F c tk hd hf (hF f hfd) I1 ss1 r1 r q1
end
end Mp
end
section
set_option Elab.async false
set_option linter.all false
set_option maxRecDepth 100000
/-! Rules: isinstance, a new dict, list(range(..)), list(d.items()). -/
namespace Mp
open PySem PySem.Spec PyProof.Rows L2
section
variable {T : Tb} {W0 : WX} {X : Cx} {B : Bs} {n : Nat} {M : MEnv} {sc : Scope} {fdom : Nat → Bool}
/-! ### isinstance -/
theorem ty_name (F : Facts B T M fdom) (c : Cok B n M X sc) {t : Ty} {e : Expr} (h : mTy M sc t e = true) : PE X e (tC (t.v T)) ∧ tyOk T.cd t = true := by
  unfold mTy at h
  cases e with
  | Name x pos =>
    simp only [Bool.and_eq_true] at h
    obtain ⟨⟨hg, hn⟩, ht⟩ := h
    obtain ⟨n1, n2, n3⟩ := nmOk_inv hn
    have blt : ∀ (s : String), x = Str.ofString s → (Str.ofString s ∈ bltNames) → bootBuiltins (Str.ofString s) = some (.type s) → PE X (.Name x pos) (tC (.ty s)) := fun s e1 e2 e3 => by
      subst e1
      exact pe_bltn (c.gl hg) (by rw [c.mg]; exact F.bu _ e2) e3 rfl n3 n1
    cases t with
    | cls cc =>
      obtain ⟨h1, h2⟩ := F.cl x cc (by simpa using ht)
      exact ⟨pe_glob (c.gl hg) (by rw [c.mg]; exact h1) rfl n1, h2⟩
    | int => exact ⟨blt "int" (by simpa using ht) (by decide) (by with_unfolding_all rfl), rfl⟩
    | bool => exact ⟨blt "bool" (by simpa using ht) (by decide) (by with_unfolding_all rfl), rfl⟩
    | str => exact ⟨blt "str" (by simpa using ht) (by decide) (by with_unfolding_all rfl), rfl⟩
    | list => exact ⟨blt "list" (by simpa using ht) (by decide) (by with_unfolding_all rfl), rfl⟩
    | tuple => exact ⟨blt "tuple" (by simpa using ht) (by decide) (by with_unfolding_all rfl), rfl⟩
    | dict => exact ⟨blt "dict" (by simpa using ht) (by decide) (by with_unfolding_all rfl), rfl⟩
  | _ => cases h
def tTyL (T : Tb) (ts : List Ty) : TA := fun _ H Q => Q (ts.map (Ty.v T)) H
theorem ty_names (F : Facts B T M fdom) (c : Cok B n M X sc) : ∀ {ts : List Ty} {es : List Expr}, mTys M sc ts es = true → PA X es (tTyL T ts) ∧ ∀ t ∈ ts, tyOk T.cd t = true
  | [], [], _ => ⟨PA.imp pa_nil fun σ H Q h => h, fun t h => by cases h⟩
  | [], _ :: _, h => by cases h
  | _ :: _, [], h => by cases h
  | t :: ts, e :: es, h => by
    rw [mTys, Bool.and_eq_true, Bool.and_eq_true] at h
    obtain ⟨⟨h1, h2⟩, h3⟩ := h
    obtain ⟨p1, o1⟩ := ty_name F c h2
    obtain ⟨p2, o2⟩ := ty_names F c h3
    refine ⟨PA.imp (pa_cons p1 p2 (star_cons h1)) fun σ H Q h => h, fun u hu => ?_⟩
    rcases List.mem_cons.mp hu with rfl | hu
    · exact o1
    · exact o2 u hu
theorem isTys_inv {K : PySem.W.Frag} {sub : Nat → Nat → Bool} (C : ClsOk K T sub T.cd) {m : List Addr} {S : Store} {H : Hp} (s : SimS T m S H) {x : W} {v : V} (r : RepV m H x v) :
    ∃ t, TyX K H v t ∧ (∀ ty b, tyOk T.cd ty = true → isTy sub S x ty = some b → PySem.W.kitOne K t (ty.val T) = some b) ∧
      ∀ (ts : List Ty) b, (∀ t ∈ ts, tyOk T.cd t = true) → isTys sub S x ts = some b → PySem.W.kitAny K t (ts.map (Ty.val T)) = some b := by
  rcases isTy_inv C s r with ⟨a, rfl, e⟩ | ⟨t, h1, h2⟩
  · obtain ⟨p, hp, _⟩ := r
    have h3 : a < S.length := by rw [← s.len]; exact (List.getElem?_eq_some_iff.mp hp).1
    rw [List.getElem?_eq_none_iff] at e
    omega
  · refine ⟨t, h1, h2, fun ts => ?_⟩
    induction ts with
    | nil => intro b _ h; exact h
    | cons ty ts ih =>
      intro b ho h
      rw [isTys] at h
      rw [List.map_cons, PySem.W.kitAny]
      cases e : isTy sub S x ty with
      | none => rw [e] at h; cases h
      | some k =>
        rw [h2 ty k (ho _ (List.mem_cons_self ..)) e]
        rw [e] at h
        cases k with
        | true => exact h
        | false => exact ih b (fun u hu => ho u (List.mem_cons_of_mem _ hu)) h
theorem boot_isi : bootBuiltins "isinstance" = some (.builtin "isinstance") := by with_unfolding_all rfl
theorem ru_isin1 (F : Facts B T M fdom) (c : Cok B n M X sc) {t : Ty} {a b : Expr} {p pos : Pos} {ea : Rho → Store → R W} (hg : glB sc "isinstance" = true) (na : notStar a = true) (nb : notStar b = true) (ha : PE X a (tE T W0 ea)) (ht : mTy M sc t b = true) :
    PE X (.Call (.Name "isinstance" p) [a, b] [] pos) (tE T W0 fun ρ S => (ea ρ S).bind fun x S1 => okB (isTys M.P.sub S1 x [t]) S1) := by
  obtain ⟨p1, o1⟩ := ty_name F c ht
  refine PE.imp (pe_callB call_isi (c.gl hg) (by rw [c.mg]; exact F.bu _ (by decide)) boot_isi (pa_cons ha (pa_cons p1 pa_nil (star_cons nb)) (star_cons na)) (by decide) (by decide) (star_cons na) (back_any (by simp [nb]))) fun σ H Q ⟨m, ρ, S, ss, sl, h⟩ => ?_
  obtain ⟨m', ρ', S', s1, s2, h1⟩ := bindE (ev := ea) ss sl h
  refine ⟨m', ρ', S', s1, s2, PostR.mono h1 fun v H1 ⟨m1, x, S1, g1, ss1, sl1, r1, q1⟩ => ?_⟩
  obtain ⟨k, e, q⟩ := okB_inv q1
  have C : ClsOk X.K T M.P.sub T.cd := by rw [c.K]; exact F.cls
  obtain ⟨tv, h2, h3, h4⟩ := isTys_inv C ss1 r1
  have h5 := h4 [t] k (fun u hu => by rw [List.mem_singleton.mp hu]; exact o1) e
  rw [List.map_cons, List.map_nil, PySem.W.kitAny] at h5
  refine ⟨v, t.v T, tv, t.val T, k, rfl, t.clsV, h2, ?_, post_here q ss1 rfl⟩
  cases e6 : PySem.W.kitOne X.K tv (t.val T) with
  | none => rw [e6] at h5; cases h5
  | some z =>
    rw [e6] at h5
    cases z with
    | true => exact h5
    | false => exact h5
theorem ru_isinT (F : Facts B T M fdom) (c : Cok B n M X sc) {ts : List Ty} {a : Expr} {es : List Expr} {k : Nat} {p p2 pos : Pos} {ea : Rho → Store → R W} (hg : glB sc "isinstance" = true) (na : notStar a = true) (hl : ts.length < 100) (ha : PE X a (tE T W0 ea)) (ht : mTys M sc ts es = true) :
    PE X (.Call (.Name "isinstance" p) [a, .Tuple es k p2] [] pos) (tE T W0 fun ρ S => (ea ρ S).bind fun x S1 => okB (isTys M.P.sub S1 x ts) S1) := by
  obtain ⟨p1, o1⟩ := ty_names F c ht
  refine PE.imp (pe_callB call_isiT (c.gl hg) (by rw [c.mg]; exact F.bu _ (by decide)) boot_isi (pa_cons ha (pa_cons (pe_tup p1) pa_nil rfl) (star_cons na)) (by decide) (by decide) (star_cons na) rfl) fun σ H Q ⟨m, ρ, S, ss, sl, h⟩ => ?_
  obtain ⟨m', ρ', S', s1, s2, h1⟩ := bindE (ev := ea) ss sl h
  refine ⟨m', ρ', S', s1, s2, PostR.mono h1 fun v H1 ⟨m1, x, S1, g1, ss1, sl1, r1, q1⟩ => ?_⟩
  obtain ⟨k, e, q⟩ := okB_inv q1
  refine ⟨by rw [List.length_map]; exact lim_le (Nat.le_trans (Nat.le_of_lt hl) (by decide)), fun tp htp => ?_⟩
  have C : ClsOk X.K T M.P.sub T.cd := by rw [c.K]; exact F.cls
  have ss2 := ss1.off (o := .tup (ts.map (Ty.v T))) htp
  have g2 := grow_tup ss1 (o := .tup (ts.map (Ty.v T))) htp
  obtain ⟨tv, h2, h3, h4⟩ := isTys_inv C ss2 (r1.grow ss1 g2)
  refine ⟨v, tp, ts.map (Ty.v T), tv, ts.map (Ty.val T), k, rfl, upd_same, ?_, h2, h4 ts k o1 e, q m1 _ (.bl k) g2 ss2 rfl⟩
  have pr : ∀ ts : List Ty, Paired ClsV (ts.map (Ty.v T)) (ts.map (Ty.val T)) := fun ts => by
    induction ts with
    | nil => exact .nil
    | cons t ts ih => exact .cons t.clsV ih
  exact pr ts
/-! ### {} -/
theorem ru_dnew {t : Bool} {pos : Pos} : PE X (.Dict [] [] pos) (tE T W0 fun _ S => .ok (.ref S.length) (S ++ [if t then .dT [] else .dK []])) := by
  cases t with
  | true =>
    refine PE.imp pe_dnewT fun σ H Q ⟨m, ρ, S, ss, sl, h⟩ p hp => ?_
    exact h (m ++ [p]) _ (.ref p) (grow_new ss hp) (ss.alloc hp ⟨[], upd_same, .nil⟩) ⟨p, ss.last, rfl⟩
  | false =>
    refine PE.imp pe_dnewK fun σ H Q ⟨m, ρ, S, ss, sl, h⟩ p hp => ?_
    exact h (m ++ [p]) _ (.ref p) (grow_new ss hp) (ss.alloc hp ⟨[], upd_same, .nil⟩) ⟨p, ss.last, rfl⟩
/-! ### list(range(..)) -/
theorem rgV_rep (m : List Addr) (H : Hp) (a c : Int) : ∀ (n : Nat) (vs : List V), vs = (List.range n).map (fun i => V.int (a + (i : Nat) * c)) → RepVs m H (rangeW a c n) vs := by
  have gen : ∀ l : List Nat, RepVs m H (l.map fun k => W.int (a + (k : Nat) * c)) (l.map fun i => V.int (a + (i : Nat) * c)) := fun l => by
    induction l with
    | nil => exact rfl
    | cons i l ih => exact ⟨_, _, rfl, rfl, ih⟩
  intro n vs e
  subst e
  exact gen _
theorem vals_rg3 {a c : Int} {n : Nat} {acc : Array Value} (h : ItemsOf (fun i v => ∃ t, v = .int (a + i * c) t) acc n) : Vals ((List.range n).map fun i => V.int (a + (i : Nat) * c)) acc.toList := by
  have e : acc.toList.length = n := by rw [Array.length_toList]; exact h.1
  rw [← e]
  refine vals_of_get acc.toList _ fun j u hj => ?_
  obtain ⟨t, rfl⟩ := h.2 j u (by rw [← hj, Array.getElem?_toList])
  exact ⟨t, rfl⟩
theorem call_rg {pins : List (Addr × Obj)} {σ : L2.St} {H : Hp} {s : Shared} {m : List Addr} {ws : List W} {vs : List V} {us : List Value} {src : Src} {Q : Value → Shared → Prop} (I : L2.Inv X pins σ H s) (r : RepVs m H ws vs) (rv : Vals vs us) (e : rangeSrc ws = some src)
    (q : ∀ (a b c : Int) (n : Nat) (k : Addr) (t u v : Tok) (s' : Shared), src = ([], rangeW a c n) → (c = 1 ∨ (c = -1 ∧ ws.length = 3)) → smallI a ∧ smallI b → Builtin.Range.small a b c = true → Builtin.Range.rangeSize a b c = (n : Int) → IsRange s'.heap k a b c t u v → L2.Inv X pins σ H s' → Q (.ref k) s') :
    wpAny (model X.prog X.w) X.A (call (.type "range") us) Q X.xe s := by
  unfold rangeSrc at e
  split at e
  · split at e
    · rename_i b hb
      cases e
      obtain ⟨v1, vs, rfl, r1, r2⟩ := r
      cases (show vs = [] from r2)
      cases rv with
      | cons t1 t2 =>
        cases t2
        cases (show v1 = .int b from r1)
        obtain ⟨t, rfl⟩ := t1
        obtain ⟨b1, b2⟩ := hb
        exact call_range_1 (q 0 b 1 b.toNat _ _ _ _ _ rfl (.inl rfl) ⟨⟨by decide, by decide⟩, b1, b2⟩ (small_one (by omega) (by omega) (by omega) (by omega)) (by rw [rangeSize_nat]; simp) (IsRange.new _ _ _ _ _ _ _) (I.kept fun b o e => Heap.get?_push_of_some _ e))
    · cases e
  · split at e
    · rename_i a b hb
      cases e
      obtain ⟨v1, vs, rfl, r1, v2, vs2, rfl, r2, r3⟩ := r
      cases (show vs2 = [] from r3)
      cases rv with
      | cons t1 t2 =>
        cases t2 with
        | cons t2 t3 =>
          cases t3
          cases (show v1 = .int a from r1)
          cases (show v2 = .int b from r2)
          obtain ⟨t, rfl⟩ := t1
          obtain ⟨t', rfl⟩ := t2
          obtain ⟨⟨b1, b2⟩, b3, b4⟩ := hb
          exact call_range_2 (q a b 1 (b - a).toNat _ _ _ _ _ rfl (.inl rfl) ⟨⟨b1, b2⟩, b3, b4⟩ (small_one (by omega) (by omega) (by omega) (by omega)) (rangeSize_nat a b) (IsRange.new _ _ _ _ _ _ _) (I.kept fun b o e => Heap.get?_push_of_some _ e))
    · cases e
  · split at e
    · rename_i a b c hb
      cases e
      obtain ⟨⟨b1, b2⟩, ⟨b3, b4⟩, rfl⟩ := hb
      obtain ⟨v1, vs, rfl, r1, v2, vs2, rfl, r2, v3, vs3, rfl, r3, r4⟩ := r
      cases (show vs3 = [] from r4)
      cases rv with
      | cons t1 t2 =>
        cases t2 with
        | cons t2 t3 =>
          cases t3 with
          | cons t3 t4 =>
            cases t4
            cases (show v1 = .int a from r1)
            cases (show v2 = .int b from r2)
            cases (show v3 = .int (-1) from r3)
            obtain ⟨t, rfl⟩ := t1
            obtain ⟨t', rfl⟩ := t2
            obtain ⟨t'', rfl⟩ := t3
            refine call_range_3 (by decide) ?_ (.inl (PyProof.noPylong_small (by decide)))
            exact q a b (-1) (a - b).toNat _ _ _ _ _ rfl (.inr ⟨rfl, rfl⟩) ⟨⟨b1, b2⟩, b3, b4⟩ (PySem.W.small_down (by omega) (by omega) (by omega) (by omega)) (PySem.W.rangeSize_downNat a b) (IsRange.new _ _ _ _ _ _ _) (I.kept fun b o e => Heap.get?_push_of_some _ e)
    · cases e
  · cases e
theorem rangeW_len (a c : Int) (n : Nat) : (rangeW a c n).length = n := by unfold rangeW; rw [List.length_map, List.length_range]
theorem ru_lrange (F : Facts B T M fdom) (c : Cok B n M X sc) {e : Expr} {es : List Expr} {p p2 pos pos2 : Pos} {ea : Rho → Store → R (List W)} (g1 : glB sc "list" = true) (g2 : glB sc "range" = true) (hn : (e :: es).all notStar = true) (ha : PA X (e :: es) (tA T W0 ea)) :
    PE X (.Call (.Name "list" p) [.Call (.Name "range" p2) (e :: es) [] pos2] [] pos) (tE T W0 fun ρ S => (ea ρ S).bind fun ws S1 => match rangeSrc ws with
      | some (_, us) => newLst us S1
      | none => .bad) := by
  have hn' := hn
  rw [List.all_cons, Bool.and_eq_true] at hn'
  refine ⟨fun pins s σ H Q I ⟨m, ρ, S, ss, sl, h⟩ => ?_⟩
  refine Call_ (ld_blt I (c.gl g1) (by rw [c.mg]; exact F.bu _ (by decide)) boot_list (PyProof.Rows.callWith_type1 (args_cons ?_ rfl) rfl))
  refine Call_ (ld_blt I (c.gl g2) (by rw [c.mg]; exact F.bu _ (by decide)) boot_range (PyProof.Rows.callWith_type1 (thn (ha.run pos2 pins s σ H _ I (bindA (ev := ea) ss sl h)) fun us s1 ⟨vs, H1, I1, rv, m1, ws, S1, g1, ss1, sl1, r1, q1⟩ => ?_) (star_cons hn'.1) (back_any hn'.2)))
  cases e1 : rangeSrc ws with
  | none => simp only [e1] at q1; exact q1.elim
  | some src =>
    obtain ⟨gs, zs⟩ := src
    simp only [e1] at q1
    refine call_rg I1 r1 rv e1 fun a b cc k r t u v s2 he hc hsm hs hz hr I2 => args_nil ?_
    cases he
    unfold newLst at q1
    rw [rangeW_len] at q1
    by_cases hk : k ≤ lim
    · rw [if_pos hk] at q1
      refine call_list_range (n := k) (I2.ok.hd c.calm) hr hs hz (Nat.le_trans hk (by decide)) fun h' tk acc c' hk' e' hi => ?_
      have hv := vals_rg3 hi
      have hl : ((List.range k).map fun i => V.int (a + (i : Nat) * cc)).length ≤ sizeLine := by rw [List.length_map, List.length_range]; exact lim_le hk
      refine ⟨.ref s2.heap.objs.size, _, I2.laid hk' (Nat.le_refl _) (show ObjOk X.prog X.w _ _ _ (.lst ((List.range k).map fun i => V.int (a + (i : Nat) * cc))) from ⟨hl, acc.toList, c', hv, ?_⟩), rfl, ?_⟩
      · rw [Array.toArray_toList]; exact e'
      · exact post_lst q1 ss1 (rgV_rep m1 H1 a cc k _ rfl) (I2.hok.fresh (Nat.le_refl _))
    · rw [if_neg hk] at q1; exact q1.elim
end
end Mp
end
section
set_option Elab.async false
set_option linter.all false
set_option maxRecDepth 100000
/-! Rules: list(d.items()), d's keys tuples. -/
namespace Mp
open PySem PySem.Spec PyProof.Rows L2 L2.DX
theorem paired_of {α β : Type} {F : α → β → Prop} : ∀ {xs : List α} {ys : List β}, xs.length = ys.length → (∀ (i : Nat) (x : α) (y : β), xs[i]? = some x → ys[i]? = some y → F x y) → Paired F xs ys
  | [], [], _, _ => .nil
  | [], _ :: _, h, _ => by cases h
  | _ :: _, [], h, _ => by cases h
  | x :: xs, y :: ys, h, f => .cons (f 0 x y rfl rfl) (paired_of (Nat.succ.inj h) fun i a b ha hb => f (i + 1) a b (by simpa using ha) (by simpa using hb))
theorem paired_at {α β : Type} {F : α → β → Prop} : ∀ {xs : List α} {ys : List β}, Paired F xs ys → ∀ {i : Nat} {x : α} {y : β}, xs[i]? = some x → ys[i]? = some y → F x y
  | _, _, .nil, i, x, y, h, _ => by cases h
  | _, _, .cons r t, 0, x, y, h, g => by cases h; cases g; exact r
  | _, _, .cons r t, i + 1, x, y, h, g => paired_at t (i := i) (by simpa using h) (by simpa using g)
section
variable {prog : Program} {w : World} {A : Around} {E : Value → Shared → Prop} {s : Shared} {r d : Addr} {es : Array DictEntry} {ep : Nat}
theorem list_view {Q : Value → Shared → Prop} (hh : A.handled = none) (hv : s.heap.IsItemsView r d) (hm : DT.Raw s.heap d es ep) (hn : es.size ≤ sizeLine)
    (q : ∀ (h' : Heap) (tk c : Nat) (acc : Array Value) (as : List Addr), (∀ b o, s.heap.get? b = some o → h'.get? b = some o) → h'.get? s.heap.objs.size = some { cls := .type "list", dict := none, data := .seq acc c, slots := #[] } → as.length = es.size →
      DT.Made es s.heap.objs.size h' as → acc.toList = as.map Value.ref → Q (.ref s.heap.objs.size) { s with heap := h', toks := tk }) :
    wpAny (model prog w) A (call (.type "list") [.ref r]) Q E s := by
  have lr : r < s.heap.objs.size := by
    obtain ⟨o, ho, _⟩ := hv
    exact Heap.lt_size ho
  have ld : d < s.heap.objs.size := hm.lt
  refine callType_codes (Q₁ := fun z s1 => z = .ref s.heap.objs.size ∧ s1 = { s with heap := s.heap.push { cls := .type "list", data := .seq #[] } }) PySem.F.called_list
    (PySem.F.typeCall_list_1 _) PySem.F.entry_list_init (code_list_new _ ⟨rfl, rfl⟩) fun z s1 hz => ?_
  obtain ⟨rfl, rfl⟩ := hz
  have e0 : (s.heap.push { cls := .type "list", data := .seq #[] }).get? s.heap.objs.size = some { cls := .type "list", data := .seq #[] } := Heap.get?_push_size _ rfl
  refine ⟨⟨_, e0, rfl⟩, PySem.F.args_list_init_2 _ _, ?_⟩
  show wpAny _ _ (do
    let old ← Builtin.List.listItems (.ref s.heap.objs.size)
    Builtin.List.listUpdate (.ref s.heap.objs.size) (fun _ => #[])
    letGo old.toList.reverse
    Builtin.List.listExtendWith (.ref s.heap.objs.size) (.ref r) .none) _ _ _
  refine wpAny_bind ?_
  unfold Builtin.List.listItems
  refine wpAny_bind (wpAny_seqItems e0 rfl (wpAny_pure ?_))
  show wpAny _ _ (updateSeq s.heap.objs.size (fun _ => #[]) >>= fun _ =>
    letGo (#[] : Array Value).toList.reverse >>= fun _ => Builtin.List.listExtendWith (.ref s.heap.objs.size) (.ref r) .none) _ _ _
  refine wpAny_bind (wpAny_updateSeq e0 rfl ?_)
  have e1 := Heap.get?_update_self (Obj.mapSeq (fun _ => (#[] : Array Value))) e0 rfl
  have ot : ∀ b o, s.heap.get? b = some o → ((s.heap.push { cls := .type "list", data := .seq #[] }).update s.heap.objs.size (Obj.mapSeq (fun _ => (#[] : Array Value)))).get? b = some o := fun b o e =>
    (Heap.get?_update_other _ _ (Nat.ne_of_gt (Heap.lt_size e))).trans (Heap.get?_push_of_some _ e)
  refine wpAny_bind (wpAny_letGo ?_)
  refine DT.extI (prog := prog) (w := w) (A := A.in1) (s := { s with heap := (s.heap.push { cls := .type "list", data := .seq #[] }).update s.heap.objs.size (Obj.mapSeq (fun _ => (#[] : Array Value))) }) (es := es) (ep := ep) hh ?_ (hm.at' fun o e => ot d o e) _ (Nat.ne_of_gt lr) (Nat.ne_of_lt ld) .none _ e1 (fun h' tk acc c as hk hS hl hG ha => ?_) hn
  · obtain ⟨o, ho, x⟩ := hv
    exact ⟨o, ot r o ho, x⟩
  · exact ⟨rfl, q h' tk c acc as (fun b o e => hk b o (Nat.ne_of_lt (Heap.lt_size e)) (ot b o e)) hS hl (hG.low (Nat.le_of_lt (Heap.lt_size e1))) ha⟩
end
section
variable {T : Tb} {W0 : WX} {X : Cx} {B : Bs} {n : Nat} {M : MEnv} {sc : Scope} {fdom : Nat → Bool}
theorem call_items {pins : List (Addr × Obj)} {σ : L2.St} {H : Hp} {s : Shared} {p a : Addr} {kvs : List (List L2.Key × V)} {Q : VK} (hc : X.calm = true) (I : L2.Inv X pins σ H s) (hp : H p = some (itemsO p a)) (ha : H a = some (.dT kvs))
    (q : ∀ (H' : Hp) (l : Addr) (ts : List Addr), (∀ b o, H b = some o → H' b = some o) → H l = none → H' l = some (.lst (ts.map V.ref)) →
      Paired (fun (t : Addr) (kv : List L2.Key × V) => ∃ b, H b = some (.tup (kv.1.map kV)) ∧ H' t = some (.tup [.ref b, kv.2])) ts kvs → Q (.ref l) H') :
    wpAny (model X.prog X.w) X.A (call (.type "list") [.ref p]) (EP X pins σ Q) X.xe s := by
  have view : s.heap.IsItemsView p a := (show ObjOk X.prog X.w H s.heap p (itemsO p a) from I.hok p _ hp).1
  obtain ⟨z, hd, xs, rel, o, es, ep, ho, hx, hdat, hes, his, hn⟩ := dt_of I.hok ha
  have l1 : kvs.length = xs.length := Paired.length rel
  have l2 : es.size = xs.length := size_of_entries hes
  refine list_view (es := es) (ep := ep) (I.ok.hd hc) view ⟨o, ho, hx, hdat⟩ (by omega) fun h' tk c acc as hk hS hl hG hacc => ?_
  have nd : as.Nodup := List.Pairwise.imp (fun h => Nat.ne_of_lt h) hG.rise
  have lk : as.length = kvs.length := by omega
  have fS : H s.heap.objs.size = none := I.hok.fresh (Nat.le_refl _)
  have I1 : L2.Inv X pins σ (upd H s.heap.objs.size (.lst (as.map V.ref))) { s with heap := h', toks := tk } :=
    I.laid hk (Nat.le_refl _) (show ObjOk X.prog X.w _ h' _ (.lst (as.map V.ref)) from ⟨by rw [List.length_map, lk]; exact z, acc.toList, c, by rw [hacc]; exact LiI.vals_refs as, by rw [Array.toArray_toList]; exact hS⟩)
  have fa : ∀ b ∈ as, s.heap.objs.size < b := hG.above
  have ne : ∀ b o, H b = some o → upd H s.heap.objs.size (.lst (as.map V.ref)) b = some o := fun b o e => by rw [upd_ne (ne_of_none e fS)]; exact e
  obtain ⟨H2, I2, g, hq⟩ := takeT (P := fun t vs => ∃ (j : Nat) (kv : List L2.Key × V) (b : Addr), as[j]? = some t ∧ kvs[j]? = some kv ∧ H b = some (.tup (kv.1.map kV)) ∧ vs = [.ref b, kv.2]) I as _ I1 nd fun t ht => by
    refine ⟨Nat.le_of_lt (fa t ht), ?_, ?_⟩
    · rw [upd_ne (Nat.ne_of_gt (fa t ht))]; exact I.hok.fresh (Nat.le_of_lt (fa t ht))
    · obtain ⟨j, hj⟩ := List.mem_iff_getElem?.mp ht
      obtain ⟨en, he, hg⟩ := hG.pairs j t hj
      rw [entry_at hes j] at he
      obtain ⟨x, hxj, hxe⟩ := Option.map_eq_some_iff.mp he
      obtain ⟨kv, hkv, r1, r2, r3⟩ := pget rel hxj
      refine ⟨[.ref x.2.1, kv.2], ⟨j, kv, x.2.1, hj, hkv, r2, rfl⟩, fun H3 => ⟨by show 2 ≤ sizeLine; rw [sizeLine_eq]; decide, [.ref x.2.1, x.2.2], .cons rfl (.cons r3 .nil), _, hg, rfl, 0, ?_⟩⟩
      rw [← hxe]; rfl
  refine ⟨.ref s.heap.objs.size, H2, I2, rfl, q H2 _ as (fun b o e => g b o (ne b o e)) fS (g _ _ upd_same) (paired_of lk fun i t kv ht hkv => ?_)⟩
  obtain ⟨vs, ⟨j, kv', b, h1, h2, h3, h4⟩, h5⟩ := hq t (List.mem_of_getElem? ht)
  have ej := nodup_ixA nd ht h1
  subst ej
  rw [hkv] at h2; cases h2
  exact ⟨b, h3, by rw [h5, h4]⟩
theorem SimS.lay {m : List Addr} {S : Store} {H H' : Hp} {p : Addr} {ob : Ob} (s : SimS T m S H) (hp : H p = none) (hk : ∀ b o, H b = some o → H' b = some o) (h : Grow m H (m ++ [p]) H' → SimO T (m ++ [p]) H' ob p) : Grow m H (m ++ [p]) H' ∧ SimS T (m ++ [p]) (S ++ [ob]) H' := by
  have g : Grow m H (m ++ [p]) H' := ⟨List.prefix_append _ _, fun a o e _ => hk a o e, fun a h => by
    rcases List.mem_append.mp h with h | h
    · exact .inl h
    · right; rw [List.mem_singleton.mp h]; exact hp⟩
  have hn := s.notin_none hp
  refine ⟨g, by simp [s.len], List.nodup_append.mpr ⟨s.nd, by simp, fun a ha b hb z => ?_⟩, fun n o' a h1 h2 => ?_⟩
  · rw [z, List.mem_singleton.mp hb] at ha; exact hn ha
  · by_cases hl : n < m.length
    · rw [List.getElem?_append_left hl] at h2
      rw [List.getElem?_append_left (by rw [← s.len]; exact hl)] at h1
      have ho := s.at_ n o' a h1 h2
      obtain ⟨u, hu, _⟩ := ho.has
      exact ho.grow s g (by rw [hu]; exact hk _ _ hu)
    · have hr : n = m.length := by
        have := (List.getElem?_eq_some_iff.mp h2).1
        simp at this; omega
      subst hr
      rw [List.getElem?_append_right (Nat.le_refl _)] at h2
      rw [List.getElem?_append_right (by rw [s.len]; exact Nat.le_refl _)] at h1
      simp [s.len] at h1 h2
      subst h1 h2
      exact h g
theorem keys_back {m : List Addr} {H : Hp} : ∀ {ws : List W} {ks : List L2.Key}, ws.mapM keyOf = some ks → RepVs m H ws (ks.map kV)
  | [], ks, h => by
    have h : some [] = some ks := h
    cases h; rfl
  | w :: ws, ks, h => by
    rw [List.mapM_cons] at h
    cases e : keyOf w with
    | none => rw [e] at h; cases h
    | some k =>
      cases e2 : ws.mapM keyOf with
      | none => rw [e, e2] at h; cases h
      | some ks' =>
        rw [e, e2] at h
        cases h
        refine ⟨kV k, ks'.map kV, rfl, ?_, keys_back e2⟩
        cases w with
        | int i => cases e; exact rfl
        | str i => cases e; exact rfl
        | _ => cases e
theorem ru_items (F : Facts B T M fdom) (c : Cok B n M X sc) {a : Expr} {apos cpos p pos : Pos} {ea : Rho → Store → R W} (g1 : glB sc "list" = true) (hp : plainO a = true) (hl : (apos.endLine == cpos.line) = true) (ha : PE X a (tE T W0 ea)) :
    PE X (.Call (.Name "list" p) [.Call (.Attribute a "items" apos) [] [] cpos] [] pos) (tE T W0 fun ρ S => (ea ρ S).bind fun x S1 => match x with
    | .ref n => match S1[n]? with
      | some (.dT kvs) => .ok (.ref S1.length) (S1 ++ [.lst (kvs.map fun p => .tup [p.1, p.2])])
      | _ => .bad
    | _ => .bad) := by
  have P1 := pe_bm0 (X := X) (o := a) (name := "items") (apos := apos) (cpos := cpos) PySem.F.plainAttrs_dict PySem.F.slot_dict_items PySem.F.type_dict_items (mt_itemsT (X := X)) ha (base_plain hp) hl
  refine ⟨fun pins s σ H Q I ⟨m, ρ, S, ss, sl, h⟩ => ?_⟩
  refine Call_ (ld_blt I (c.gl g1) (by rw [c.mg]; exact F.bu _ (by decide)) boot_list (PyProof.Rows.callWith_type1 (args_cons (thn (P1.run pins s σ H (fun v H2 => ∃ (b p : Addr) (kvs : List (W × W)) (kvs' : List (List L2.Key × V)) (S1 : Store) (m1 : List Addr) (n : Nat) (H1 : Hp), v = .ref p ∧ H1 p = none ∧ H2 = upd H1 p (itemsO p b) ∧ m1[n]? = some b ∧ H1 b = some (.dT kvs') ∧ S1[n]? = some (.dT kvs) ∧
    Paired (fun (p : W × W) q => keysOf p.1 = some q.1 ∧ RepV m1 H1 p.2 q.2) kvs kvs' ∧ SimS T m1 S1 H1 ∧ PostR T RepV m1 H1 (fun c d H' => W0 c d σ H') Q (.ok (.ref S1.length) (S1 ++ [.lst (kvs.map fun p => .tup [p.1, p.2])]))) I ?_) fun u s1 hu => args_nil ?_) rfl) rfl))
  · obtain ⟨m', ρ', S', s1, s2, h1⟩ := bindE (ev := ea) ss sl h
    refine ⟨m', ρ', S', s1, s2, PostR.mono h1 fun v H1 ⟨m1, x, S1, g1, ss1, sl1, r1, q1⟩ => ?_⟩
    cases x with
    | ref k =>
      obtain ⟨b, hb, rfl⟩ := r1
      cases e : S1[k]? with
      | none => simp only [e] at q1; exact q1.elim
      | some o =>
        cases o with
        | dT kvs =>
          simp only [e] at q1
          obtain ⟨kvs', h3, h4⟩ := ss1.at_ k _ b e hb
          exact ⟨.inr (.inr (.inl ⟨rfl, .inr ⟨kvs', h3⟩⟩)), b, kvs', rfl, rfl, h3, fun p hp => ⟨b, p, kvs, kvs', S1, m1, k, H1, rfl, hp, rfl, hb, h3, e, h4, ss1, q1⟩⟩
        | _ => simp only [e] at q1; exact q1.elim
    | _ => exact q1.elim
  · obtain ⟨v, H2, I2, rv, b, p, kvs, kvs', S1, m1, k, H1, rfl, hp, rfl, hb, h3, e, h4, ss1, q1⟩ := hu
    obtain rfl : u = Value.ref p := rv
    have ss2 := ss1.off (o := itemsO p b) hp
    have g2 := grow_tup ss1 (o := itemsO p b) hp
    have nb : b ≠ p := ne_of_none h3 hp
    refine call_items c.calm I2 upd_same (by rw [upd_ne nb]; exact h3) fun H' l ts hk hn hL hP => ?_
    have key : ∀ {kvs : List (W × W)} {kvs' : List (List L2.Key × V)} {ts : List Addr}, Paired (fun (p : W × W) q => keysOf p.1 = some q.1 ∧ RepV m1 H1 p.2 q.2) kvs kvs' → Paired (fun (t : Addr) (kv : List L2.Key × V) => ∃ b', upd H1 p (itemsO p b) b' = some (.tup (kv.1.map kV)) ∧ H' t = some (.tup [.ref b', kv.2])) ts kvs' →
        Grow m1 H1 (m1 ++ [l]) H' → RepVs (m1 ++ [l]) H' (kvs.map fun p => .tup [p.1, p.2]) (ts.map V.ref) := by
      intro kvs kvs' ts h4 hP g
      induction h4 generalizing ts with
      | nil => cases hP; exact rfl
      | @cons p0 q0 ps qs h1 ht ih =>
        cases hP with
        | cons hp1 hp2 =>
          obtain ⟨b', hb1, hb2⟩ := hp1
          obtain ⟨k1, k2⟩ := h1
          refine ⟨_, _, rfl, ⟨_, _, rfl, hb2, .ref b', [q0.2], rfl, ?_, _, _, rfl, k2.grow ss1 g, rfl⟩, ih hp2⟩
          cases e0 : p0.1 with
          | tup ws =>
            rw [e0] at k1
            exact ⟨b', _, rfl, hk _ _ hb1, keys_back k1⟩
          | _ => rw [e0] at k1; cases k1
    have hl1 : H1 l = none := by
      by_cases z : l = p
      · rw [z]; exact hp
      · rw [upd_ne z] at hn; exact hn
    have hk1 : ∀ b o, H1 b = some o → H' b = some o := fun b' o e' => hk b' o (by rw [upd_ne (ne_of_none e' hp)]; exact e')
    obtain ⟨g3, s3⟩ := ss1.lay (ob := .lst (kvs.map fun p => .tup [p.1, p.2])) hl1 hk1 fun g => ⟨_, hL, key h4 hP g⟩
    exact q1 _ _ _ g3 s3 ⟨l, ss1.last, rfl⟩
end
end Mp
end
section
set_option Elab.async false
set_option linter.all false
set_option maxRecDepth 100000
/-! What is walked. -/
namespace Mp
open PySem PySem.Spec PyProof.Rows L2 L2.DX RZ RT
/-- the iterator tells the things of src, while it stands -/
def Walk (T : Tb) (m0 : List Addr) (H0 : Hp) (src : Src) (J : L2.It) : Prop := ∀ (m : List Addr) (H : Hp) (S : Store), Grow m0 H0 m H → SimS T m S H → stands src.1 S → ∀ i : Nat,
  (∀ w, src.2[i]? = some w → J.go i H ∧ ∀ x H', J.yld i H x H' → Grow m H m H' ∧ SimS T m S H' ∧ RepV m H' w x) ∧ (src.2.length ≤ i → J.stop i H)
def tI (T : Tb) (W0 : WX) (ev : Rho → Store → R Src) : TI := fun σ H Q => ∃ (m : List Addr) (ρ : Rho) (S : Store), SimS T m S H ∧ SimL m H ρ σ ∧ PostR T (Walk T) m H (fun c d H' => W0 c d σ H') Q (ev ρ S)
theorem PI.imp {X : Cx} {tg e : Expr} {t t' : TI} (h : PI X tg e t) (i : ∀ σ H Q, t' σ H Q → t σ H Q) : PI X tg e t' := ⟨fun pins s σ H Q I q => h.run pins s σ H Q I (i σ H Q q)⟩
section
variable {T : Tb} {W0 : WX} {X : Cx} {B : Bs} {n : Nat} {M : MEnv} {sc : Scope} {fdom : Nat → Bool}
theorem RepVs.at_ {m : List Addr} {H : Hp} {ws : List W} {vs : List V} (r : RepVs m H ws vs) {i : Nat} {w : W} (h : ws[i]? = some w) : ∃ v, vs[i]? = some v ∧ RepV m H w v := r.get h
theorem walk_list {K : PySem.W.Frag} {m0 : List Addr} {H0 : Hp} {a : Nat} {b : Addr} {ob : Ob} {ws : List W} (hb : m0[a]? = some b) (ho : ob = .lst ws ∨ ob = .fro ws) : Walk T m0 H0 ([(a, ob)], ws) (Itl K b) := by
  intro m H S g ss st i
  have hm := pre_get g.pre hb
  have hS : S[a]? = some ob := st _ (List.mem_singleton.mpr rfl)
  have hx : ∃ vs, SqL K H b vs ∧ RepVs m H ws vs := by
    have hso := ss.at_ a ob b hS hm
    rcases ho with rfl | rfl
    · obtain ⟨vs, h1, h2⟩ := hso
      exact ⟨vs, .inl (.inl h1), h2⟩
    · obtain ⟨o, vs, h1, h2⟩ := hso
      exact ⟨vs, .inl (.inr ⟨o, h1⟩), h2⟩
  obtain ⟨vs, h1, h2⟩ := hx
  refine ⟨fun w hw => ?_, fun hl => ⟨vs, h1, by rw [← h2.length]; exact hl⟩⟩
  obtain ⟨v, e, r⟩ := h2.get hw
  refine ⟨⟨vs, v, h1, e⟩, fun x H' ⟨e1, e2⟩ => ?_⟩
  subst e1
  have := e2 vs h1
  rw [e] at this; cases this
  exact ⟨Grow.refl, ss, r⟩
theorem walk_tup {K : PySem.W.Frag} {m0 : List Addr} {H0 : Hp} {S0 : Store} {b : Addr} {ws : List W} {vs : List V} (s0 : SimS T m0 S0 H0) (hb : H0 b = some (.tup vs)) (r : RepVs m0 H0 ws vs) : Walk T m0 H0 ([], ws) (Itt K b) := by
  intro m H S g ss st i
  have h1 : SqT K H b vs := SqT.of (g.keep _ _ hb (s0.notin_tup hb))
  have h2 := r.grow s0 g
  refine ⟨fun w hw => ?_, fun hl => ⟨vs, h1, by rw [← h2.length]; exact hl⟩⟩
  obtain ⟨v, e, r⟩ := h2.get hw
  refine ⟨⟨vs, v, h1, e⟩, fun x H' ⟨e1, e2⟩ => ?_⟩
  subst e1
  have := e2 vs h1
  rw [e] at this; cases this
  exact ⟨Grow.refl, ss, r⟩
theorem walk_str {m0 : List Addr} {H0 : Hp} {z : Str} : Walk T m0 H0 ([], z.cps.toList.map fun c => .str ⟨#[c]⟩) (Its z) := by
  intro m H S g ss st i
  refine ⟨fun w hw => ?_, fun hl => ?_⟩
  · simp only [List.getElem?_map, Option.map_eq_some_iff] at hw
    obtain ⟨c, hc, rfl⟩ := hw
    have hc' : z.cps[i]? = some c := by rw [← Array.getElem?_toList]; exact hc
    refine ⟨(Array.getElem?_eq_some_iff.mp hc').1, fun x H' ⟨e1, c', e2, e3⟩ => ?_⟩
    subst e1 e3
    rw [hc'] at e2; cases e2
    exact ⟨Grow.refl, ss, rfl⟩
  · show z.cps.size ≤ i
    simpa using hl
theorem rangeW_at {a c : Int} {n i : Nat} : (rangeW a c n)[i]? = if i < n then some (.int (a + (i : Nat) * c)) else none := by
  unfold rangeW
  rw [List.getElem?_map]
  by_cases h : i < n
  · rw [List.getElem?_range h, if_pos h]; rfl
  · rw [List.getElem?_eq_none (by rw [List.length_range]; omega), if_neg h]; rfl
theorem walk_rg {m0 : List Addr} {H0 : Hp} {a c : Int} {k : Nat} : Walk T m0 H0 ([], rangeW a c k) (Itc a c k) := by
  intro m H S g ss st i
  refine ⟨fun w hw => ?_, fun hl => by rw [rangeW_len] at hl; exact hl⟩
  rw [rangeW_at] at hw
  by_cases h : i < k
  · rw [if_pos h] at hw; cases hw
    refine ⟨h, fun x H' ⟨e1, e2⟩ => ?_⟩
    subst e1 e2
    exact ⟨Grow.refl, ss, rfl⟩
  · rw [if_neg h] at hw; cases hw
theorem ru_seq {tg a : Expr} {ea : Rho → Store → R W} (ha : PE X a (tE T W0 ea)) : PI X tg a (tI T W0 fun ρ S => (ea ρ S).bind fun x S1 => okS (seqSrc S1 x) S1) := by
  refine ⟨fun pins s σ H Q I ⟨m, ρ, S, ss, sl, h⟩ => ?_⟩
  refine thn (ha.run pins s σ H _ I (bindG (ev := ea) ss sl h)) fun v s1 ⟨u, H1, I1, rv, m1, x, S1, g1, ss1, sl1, r1, q1⟩ => ?_
  have q1 : PostR T (Walk T) m1 H1 (fun c d H' => W0 c d σ H') Q (okS (seqSrc S1 x) S1) := q1
  cases x with
  | tup ws =>
    obtain ⟨b, vs, rfl, h1, h2⟩ := r1
    cases rv
    obtain ⟨its, rv, p, hz⟩ := I1.tuple (SqT.of h1)
    exact wpAny_pyIter_tuple (show s1.heap.IsTuple b its.toArray from p) (pi_one (tk := s1.toks) I1 _ (turn_tuple b _) ⟨_, Heap.get?_push_size _ rfl, rfl, rfl⟩ (q1 m1 H1 (Itt X.K b) Grow.refl ss1 (walk_tup ss1 h1 h2)))
  | str z =>
    cases (show u = .str z from r1)
    obtain ⟨t, rfl⟩ := rv
    have q2 := q1 m1 H1 (Its z) Grow.refl ss1 walk_str
    cases hc : z.cps.all (· < 128)
    · exact wpAny_pyIter_wide hc (pi_one (tk := s1.toks) I1 _ (turn_str _ z t "str_iterator" (.inr rfl)) ⟨_, Heap.get?_push_size _ rfl, rfl, rfl⟩ q2)
    · exact wpAny_pyIter_ascii hc (pi_one (tk := s1.toks) I1 _ (turn_str _ z t "str_ascii_iterator" (.inl rfl)) ⟨_, Heap.get?_push_size _ rfl, rfl, rfl⟩ q2)
  | ref k =>
    obtain ⟨b, hb, rfl⟩ := r1
    cases rv
    have go : ∀ (ob : Ob) (ws : List W), S1[k]? = some ob → (ob = .lst ws ∨ ob = .fro ws) → Q (Itl X.K b) H1 → wpAny (model X.prog X.w) X.A (pyIter (.ref b)) (PIE X pins σ tg Q) X.xe s1 := fun ob ws e ho q => by
      have hx : ∃ vs, SqL X.K H1 b vs := by
        have hso := ss1.at_ k ob b e hb
        rcases ho with rfl | rfl
        · obtain ⟨vs, h1, h2⟩ := hso
          exact ⟨vs, .inl (.inl h1)⟩
        · obtain ⟨o, vs, h1, h2⟩ := hso
          exact ⟨vs, .inl (.inr ⟨o, h1⟩)⟩
      obtain ⟨vs, h1⟩ := hx
      obtain ⟨its, rv, p, hz⟩ := I1.list h1
      exact wpAny_pyIter_list p.isList (pi_one (tk := s1.toks) I1 _ (turn_list b _) ⟨_, Heap.get?_push_size _ rfl, rfl, rfl⟩ q)
    cases e : S1[k]? with
    | none => simp only [seqSrc, e] at q1; exact q1.elim
    | some ob =>
      cases ob with
      | lst ws =>
        simp only [seqSrc, e] at q1
        exact go _ ws e (.inl rfl) (q1 m1 H1 _ Grow.refl ss1 (walk_list hb (.inl rfl)))
      | fro ws =>
        simp only [seqSrc, e] at q1
        exact go _ ws e (.inr rfl) (q1 m1 H1 _ Grow.refl ss1 (walk_list hb (.inr rfl)))
      | _ => simp only [seqSrc, e] at q1; exact q1.elim
  | _ => exact q1.elim
/-- range(..) walked -/
theorem ru_range (F : Facts B T M fdom) (c : Cok B n M X sc) {tg e : Expr} {es : List Expr} {p pos : Pos} {ea : Rho → Store → R (List W)} (hg : glB sc "range" = true) (hn : (e :: es).all notStar = true) (ha : PA X (e :: es) (tA T W0 ea)) :
    PI X tg (.Call (.Name "range" p) (e :: es) [] pos) (tI T W0 fun ρ S => (ea ρ S).bind fun ws S1 => okS (rangeSrc ws) S1) := by
  have hn' := hn
  rw [List.all_cons, Bool.and_eq_true] at hn'
  refine ⟨fun pins s σ H Q I ⟨m, ρ, S, ss, sl, h⟩ => ?_⟩
  refine Call_ (ld_blt I (c.gl hg) (by rw [c.mg]; exact F.bu _ (by decide)) boot_range (PyProof.Rows.callWith_type1 (thn (ha.run pos pins s σ H _ I (bindA (ev := ea) ss sl h)) fun us s1 ⟨vs, H1, I1, rv, m1, ws, S1, g1, ss1, sl1, r1, q1⟩ => ?_) (star_cons hn'.1) (back_any hn'.2)))
  have q1 : PostR T (Walk T) m1 H1 (fun c d H' => W0 c d σ H') Q (okS (rangeSrc ws) S1) := q1
  cases e1 : rangeSrc ws with
  | none => rw [e1] at q1; exact q1.elim
  | some src =>
    rw [e1] at q1
    refine call_rg I1 r1 rv e1 fun a b cc k r t u v s2 he hc hsm hs hz hr I2 => ?_
    subst he
    refine wpAny_pyIter_range hr hs ?_
    refine pi_one (tk := s2.toks) I2 _ (turn_rangeC _ a cc k) ?_ (q1 m1 H1 (Itc a cc k) Grow.refl ss1 walk_rg)
    have e2 : a + ((0 : Nat) : Int) * cc = a := by simp
    have e3 : (k : Int) - ((0 : Nat) : Int) = Builtin.Range.rangeSize a b cc := by rw [hz]; simp
    show IsRangeIter _ _ (a + ((0 : Nat) : Int) * cc) ((k : Int) - ((0 : Nat) : Int)) cc
    rw [e2, e3]
    exact Heap.get?_push_size _ rfl
theorem enum_at {ws : List W} {i : Nat} {w : W} (h : (enumW ws)[i]? = some w) : ∃ u, ws[i]? = some u ∧ w = .tup [.int (i : Nat), u] := by
  unfold enumW at h
  rw [List.getElem?_zipWith] at h
  by_cases hi : i < ws.length
  · have h1 : (List.range ws.length)[i]? = some i := List.getElem?_range hi
    have h2 : ws[i]? = some ws[i] := by simp [hi]
    rw [h1, h2] at h
    cases h
    exact ⟨_, h2, rfl⟩
  · have h2 : ws[i]? = none := by simp; omega
    rw [h2] at h
    cases h1 : (List.range ws.length)[i]? <;> rw [h1] at h <;> cases h
theorem enumW_len (ws : List W) : (enumW ws).length = ws.length := by unfold enumW; simp
theorem zip_at {us ws : List W} {i : Nat} {w : W} (h : (us.zipWith (fun u v => W.tup [u, v]) ws)[i]? = some w) : ∃ u v, us[i]? = some u ∧ ws[i]? = some v ∧ w = .tup [u, v] := by
  rw [List.getElem?_zipWith] at h
  cases h1 : us[i]? with
  | none => rw [h1] at h; cases h
  | some u =>
    cases h2 : ws[i]? with
    | none => rw [h1, h2] at h; cases h
    | some v => rw [h1, h2] at h; cases h; exact ⟨u, v, rfl, rfl, rfl⟩
/-- a list as it stands -/
theorem list_of {K : PySem.W.Frag} {m : List Addr} {H : Hp} {S : Store} {a : Nat} {b : Addr} {ob : Ob} {ws : List W} (ss : SimS T m S H) (hm : m[a]? = some b) (hS : S[a]? = some ob) (ho : ob = .lst ws ∨ ob = .fro ws) : ∃ vs, SqL K H b vs ∧ RepVs m H ws vs := by
  have hso := ss.at_ a ob b hS hm
  rcases ho with rfl | rfl
  · obtain ⟨vs, h1, h2⟩ := hso
    exact ⟨vs, .inl (.inl h1), h2⟩
  · obtain ⟨o, vs, h1, h2⟩ := hso
    exact ⟨vs, .inl (.inr ⟨o, h1⟩), h2⟩
theorem seq_ref {S : Store} {k : Nat} {src : Src} (h : seqSrc S (.ref k) = some src) : ∃ ob ws, S[k]? = some ob ∧ (ob = .lst ws ∨ ob = .fro ws) ∧ src = ([(k, ob)], ws) := by
  unfold seqSrc at h
  cases e : S[k]? with
  | none => simp only [e] at h; cases h
  | some ob =>
    simp only [e] at h
    cases ob with
    | lst ws => cases h; exact ⟨_, ws, rfl, .inl rfl, rfl⟩
    | fro ws => cases h; exact ⟨_, ws, rfl, .inr rfl, rfl⟩
    | _ => cases h
/-- a new pair -/
theorem pair_new {m : List Addr} {H : Hp} {S : Store} {p : Addr} {u w : W} {x y : V} (ss : SimS T m S H) (hp : H p = none) (r1 : RepV m H u x) (r2 : RepV m H w y) :
    Grow m H m (upd H p (.tup [x, y])) ∧ SimS T m S (upd H p (.tup [x, y])) ∧ RepV m (upd H p (.tup [x, y])) (.tup [u, w]) (.ref p) := by
  have g := grow_tup ss (o := .tup [x, y]) hp
  exact ⟨g, ss.off hp, p, [x, y], rfl, upd_same, x, [y], rfl, r1.grow ss g, y, [], rfl, r2.grow ss g, rfl⟩
theorem walk_enum {K : PySem.W.Frag} {m0 : List Addr} {H0 : Hp} {a : Nat} {b : Addr} {ob : Ob} {ws : List W} (hb : m0[a]? = some b) (ho : ob = .lst ws ∨ ob = .fro ws) : Walk T m0 H0 ([(a, ob)], enumW ws) (Ite K b) := by
  intro m H S g ss st i
  have hm := pre_get g.pre hb
  have hS : S[a]? = some ob := st _ (List.mem_singleton.mpr rfl)
  obtain ⟨vs, h1, h2⟩ := list_of (K := K) ss hm hS ho
  refine ⟨fun w hw => ?_, fun hl => ⟨vs, h1, by rw [← h2.length]; simpa [enumW_len] using hl⟩⟩
  obtain ⟨u, e1, rfl⟩ := enum_at hw
  obtain ⟨v, e, r⟩ := h2.get e1
  refine ⟨⟨vs, v, h1, e⟩, fun x H' ⟨t, y, ex, ht, eH, ey⟩ => ?_⟩
  subst ex eH
  have := ey vs h1
  rw [e] at this; cases this
  exact pair_new ss ht rfl r
theorem walk_zip {K : PySem.W.Frag} {m0 : List Addr} {H0 : Hp} {a a2 : Nat} {b b2 : Addr} {ob ob2 : Ob} {ws ws2 : List W} (hb : m0[a]? = some b) (ho : ob = .lst ws ∨ ob = .fro ws) (hb2 : m0[a2]? = some b2) (ho2 : ob2 = .lst ws2 ∨ ob2 = .fro ws2) :
    Walk T m0 H0 ([(a, ob)] ++ [(a2, ob2)], ws.zipWith (fun u v => .tup [u, v]) ws2) (Itz K b b2) := by
  intro m H S g ss st i
  obtain ⟨vs, h1, h2⟩ := list_of (K := K) ss (pre_get g.pre hb) (st (a, ob) (by simp)) ho
  obtain ⟨vs2, h3, h4⟩ := list_of (K := K) ss (pre_get g.pre hb2) (st (a2, ob2) (by simp)) ho2
  refine ⟨fun w hw => ?_, fun hl => ⟨vs, vs2, h1, h3, ?_⟩⟩
  · obtain ⟨u, u2, e1, e2, rfl⟩ := zip_at hw
    obtain ⟨v, e3, r⟩ := h2.get e1
    obtain ⟨v2, e4, r2⟩ := h4.get e2
    refine ⟨⟨vs, vs2, v, v2, h1, h3, e3, e4⟩, fun x H' ⟨t, y, y2, ex, ht, eH, ey, ey2⟩ => ?_⟩
    subst ex eH
    have z := ey vs h1
    rw [e3] at z; cases z
    have z := ey2 vs2 h3
    rw [e4] at z; cases z
    exact pair_new ss ht r r2
  · rw [← h2.length, ← h4.length]
    simp only [List.length_zipWith] at hl
    omega
theorem walk_zipT {K : PySem.W.Frag} {m0 : List Addr} {H0 : Hp} {S0 : Store} {b b2 : Addr} {ws ws2 : List W} {vs vs2 : List V} (s0 : SimS T m0 S0 H0) (hb : H0 b = some (.tup vs)) (r : RepVs m0 H0 ws vs) (hb2 : H0 b2 = some (.tup vs2)) (r2 : RepVs m0 H0 ws2 vs2) :
    Walk T m0 H0 ([] ++ [], ws.zipWith (fun u v => .tup [u, v]) ws2) (ItzT K b b2) := by
  intro m H S g ss st i
  have h1 : SqT K H b vs := SqT.of (g.keep _ _ hb (s0.notin_tup hb))
  have h3 : SqT K H b2 vs2 := SqT.of (g.keep _ _ hb2 (s0.notin_tup hb2))
  have h2 := r.grow s0 g
  have h4 := r2.grow s0 g
  refine ⟨fun w hw => ?_, fun hl => ⟨vs, vs2, h1, h3, ?_⟩⟩
  · obtain ⟨u, u2, e1, e2, rfl⟩ := zip_at hw
    obtain ⟨v, e3, r⟩ := h2.get e1
    obtain ⟨v2, e4, r2⟩ := h4.get e2
    refine ⟨⟨vs, vs2, v, v2, h1, h3, e3, e4⟩, fun x H' ⟨t, y, y2, ex, ht, eH, ey, ey2⟩ => ?_⟩
    subst ex eH
    have z := ey vs h1
    rw [e3] at z; cases z
    have z := ey2 vs2 h3
    rw [e4] at z; cases z
    exact pair_new ss ht r r2
  · rw [← h2.length, ← h4.length]
    simp only [List.length_zipWith] at hl
    omega
theorem rev_at {ws : List W} {i : Nat} {w : W} (h : ws.reverse[i]? = some w) : i < ws.length ∧ ws[ws.length - 1 - i]? = some w := by
  have hi : i < ws.length := by simpa using (List.getElem?_eq_some_iff.mp h).1
  exact ⟨hi, by rw [← List.getElem?_reverse hi]; exact h⟩
theorem walk_rev {K : PySem.W.Frag} {m0 : List Addr} {H0 : Hp} {a : Nat} {b : Addr} {ob : Ob} {ws : List W} (hb : m0[a]? = some b) (ho : ob = .lst ws ∨ ob = .fro ws) : Walk T m0 H0 ([(a, ob)], ws.reverse) (Itv K b ws.length) := by
  intro m H S g ss st i
  obtain ⟨vs, h1, h2⟩ := list_of (K := K) ss (pre_get g.pre hb) (st (a, ob) (by simp)) ho
  refine ⟨fun w hw => ?_, fun hl => by show ws.length ≤ i; simpa using hl⟩
  obtain ⟨hi, e1⟩ := rev_at hw
  obtain ⟨v, e3, r⟩ := h2.get e1
  refine ⟨⟨hi, vs, v, h1, e3⟩, fun x H' ⟨eH, ey⟩ => ?_⟩
  subst eH
  have z := ey vs h1
  rw [e3] at z; cases z
  exact ⟨Grow.refl, ss, r⟩
theorem walk_revT {K : PySem.W.Frag} {m0 : List Addr} {H0 : Hp} {S0 : Store} {b : Addr} {ws : List W} {vs : List V} (s0 : SimS T m0 S0 H0) (hb : H0 b = some (.tup vs)) (r : RepVs m0 H0 ws vs) : Walk T m0 H0 ([], ws.reverse) (ItvT K b ws.length) := by
  intro m H S g ss st i
  have h1 : SqT K H b vs := SqT.of (g.keep _ _ hb (s0.notin_tup hb))
  have h2 := r.grow s0 g
  refine ⟨fun w hw => ?_, fun hl => by show ws.length ≤ i; simpa using hl⟩
  obtain ⟨hi, e1⟩ := rev_at hw
  obtain ⟨v, e3, r⟩ := h2.get e1
  refine ⟨⟨hi, vs, v, h1, e3⟩, fun x H' ⟨eH, ey⟩ => ?_⟩
  subst eH
  have z := ey vs h1
  rw [e3] at z; cases z
  exact ⟨Grow.refl, ss, r⟩
theorem ru_enum (F : Facts B T M fdom) (c : Cok B n M X sc) {a : Expr} {elts : List Expr} {kk : Nat} {tpos p pos : Pos} {ea : Rho → Store → R W} (hg : glB sc "enumerate" = true) (na : notStar a = true) (ha : PE X a (tE T W0 ea)) :
    PI X (.Tuple elts kk tpos) (.Call (.Name "enumerate" p) [a] [] pos) (tI T W0 fun ρ S => (ea ρ S).bind fun x S1 => match x with
    | .ref _ => okS ((seqSrc S1 x).map fun p => (p.1, enumW p.2)) S1
    | _ => .bad) := by
  refine PI.imp (pi_enum (c.gl hg) (by rw [c.mg]; exact F.bu _ (by decide)) (pa_cons ha pa_nil (star_cons na)) (star_cons na)) fun σ H Q ⟨m, ρ, S, ss, sl, h⟩ => ?_
  obtain ⟨m', ρ', S', s1, s2, h1⟩ := bindG (ev := ea) ss sl h
  refine ⟨m', ρ', S', s1, s2, PostR.mono h1 fun v H1 ⟨m1, x, S1, g1, ss1, sl1, r1, q1⟩ => ?_⟩
  cases x with
  | ref k =>
    obtain ⟨b, hb, rfl⟩ := r1
    have q1 : PostR T (Walk T) m1 H1 (fun c d H' => W0 c d σ H') Q (okS ((seqSrc S1 (.ref k)).map fun p => (p.1, enumW p.2)) S1) := q1
    cases e : seqSrc S1 (.ref k) with
    | none => rw [e] at q1; exact q1.elim
    | some src =>
      rw [e] at q1
      obtain ⟨ob, ws, e2, ho, rfl⟩ := seq_ref e
      obtain ⟨vs, h1, h2⟩ := list_of (K := X.K) ss1 hb e2 ho
      exact ⟨b, vs, rfl, h1, q1 m1 H1 _ Grow.refl ss1 (walk_enum hb ho)⟩
  | _ => exact q1.elim
theorem ru_zip (F : Facts B T M fdom) (c : Cok B n M X sc) {a b : Expr} {elts : List Expr} {kk : Nat} {tpos p pos : Pos} {ea eb : Rho → Store → R W} (hg : glB sc "zip" = true) (na : notStar a = true) (nb : notStar b = true) (ha : PE X a (tE T W0 ea)) (hb : PE X b (tE T W0 eb)) :
    PI X (.Tuple elts kk tpos) (.Call (.Name "zip" p) [a, b] [] pos) (tI T W0 fun ρ S => (ea ρ S).bind fun x S1 => (eb ρ S1).bind fun y S2 => match x, y with
    | .ref _, .ref _ => okS ((seqSrc S2 x).bind fun p => (seqSrc S2 y).map fun q => (p.1 ++ q.1, p.2.zipWith (fun u v => .tup [u, v]) q.2)) S2
    | .tup _, .tup _ => okS ((seqSrc S2 x).bind fun p => (seqSrc S2 y).map fun q => (p.1 ++ q.1, p.2.zipWith (fun u v => .tup [u, v]) q.2)) S2
    | _, _ => .bad) := by
  refine PI.imp (pi_zipA (c.gl hg) (by rw [c.mg]; exact F.bu _ (by decide)) (pa_cons ha (pa_cons hb pa_nil (star_cons nb)) (star_cons na)) (star_cons na) (back_any (by simp [nb]))) fun σ H Q ⟨m, ρ, S, ss, sl, h⟩ => ?_
  obtain ⟨m', ρ', S', s1, s2, h1⟩ := bindG (ev := ea) ss sl h
  refine ⟨m', ρ', S', s1, s2, PostR.mono h1 fun v H1 ⟨m1, x, S1, g1, ss1, sl1, r1, q1⟩ => ?_⟩
  obtain ⟨m', ρ', S', s1, s2, h1⟩ := bindG (ev := eb) ss1 sl1 q1
  refine ⟨m', ρ', S', s1, s2, PostR.mono h1 fun u H2 ⟨m2, y, S2, g2, ss2, sl2, r2, q2⟩ => ?_⟩
  have r1' := r1.grow ss1 g2
  cases x with
  | ref k =>
    cases y with
    | ref k2 =>
      obtain ⟨b, hb, rfl⟩ := r1'
      obtain ⟨b2, hb2, rfl⟩ := r2
      have q2 : PostR T (Walk T) m2 H2 (fun c d H' => W0 c d σ H') Q (okS ((seqSrc S2 (.ref k)).bind fun p => (seqSrc S2 (.ref k2)).map fun q => (p.1 ++ q.1, p.2.zipWith (fun u v => .tup [u, v]) q.2)) S2) := q2
      cases e : seqSrc S2 (.ref k) with
      | none => rw [e] at q2; exact q2.elim
      | some src =>
        cases e2 : seqSrc S2 (.ref k2) with
        | none => rw [e, e2] at q2; exact q2.elim
        | some src2 =>
          rw [e, e2] at q2
          obtain ⟨ob, ws, e3, ho, rfl⟩ := seq_ref e
          obtain ⟨ob2, ws2, e4, ho2, rfl⟩ := seq_ref e2
          obtain ⟨vs, h1, h2⟩ := list_of (K := X.K) ss2 hb e3 ho
          obtain ⟨vs2, h3, h4⟩ := list_of (K := X.K) ss2 hb2 e4 ho2
          exact ⟨b, b2, vs, vs2, rfl, .inl ⟨h1, h3, q2 m2 H2 _ Grow.refl ss2 (walk_zip hb ho hb2 ho2)⟩⟩
    | _ => exact q2.elim
  | tup ws =>
    cases y with
    | tup ws2 =>
      obtain ⟨b, vs, rfl, h1, h2⟩ := r1'
      obtain ⟨b2, vs2, rfl, h3, h4⟩ := r2
      exact ⟨b, b2, vs, vs2, rfl, .inr ⟨SqT.of h1, SqT.of h3, q2 m2 H2 _ Grow.refl ss2 (walk_zipT ss2 h1 h2 h3 h4)⟩⟩
    | _ => exact q2.elim
  | _ => exact q2.elim
theorem ru_revI (F : Facts B T M fdom) (c : Cok B n M X sc) {tg a : Expr} {p pos : Pos} {ea : Rho → Store → R W} (hg : glB sc "reversed" = true) (na : notStar a = true) (ha : PE X a (tE T W0 ea)) :
    PI X tg (.Call (.Name "reversed" p) [a] [] pos) (tI T W0 fun ρ S => (ea ρ S).bind fun x S1 => match x with
    | .str _ => .bad
    | _ => okS ((seqSrc S1 x).map fun p => (p.1, p.2.reverse)) S1) := by
  refine PI.imp (pi_revA (c.gl hg) (by rw [c.mg]; exact F.bu _ (by decide)) ha (star_cons na)) fun σ H Q ⟨m, ρ, S, ss, sl, h⟩ => ?_
  obtain ⟨m', ρ', S', s1, s2, h1⟩ := bindG (ev := ea) ss sl h
  refine ⟨m', ρ', S', s1, s2, PostR.mono h1 fun v H1 ⟨m1, x, S1, g1, ss1, sl1, r1, q1⟩ => ?_⟩
  cases x with
  | ref k =>
    obtain ⟨b, hb, rfl⟩ := r1
    have q1 : PostR T (Walk T) m1 H1 (fun c d H' => W0 c d σ H') Q (okS ((seqSrc S1 (.ref k)).map fun p => (p.1, p.2.reverse)) S1) := q1
    cases e : seqSrc S1 (.ref k) with
    | none => rw [e] at q1; exact q1.elim
    | some src =>
      rw [e] at q1
      obtain ⟨ob, ws, e2, ho, rfl⟩ := seq_ref e
      obtain ⟨vs, h1, h2⟩ := list_of (K := X.K) ss1 hb e2 ho
      exact ⟨b, vs, rfl, .inl ⟨h1, q1 m1 H1 _ Grow.refl ss1 (by rw [← h2.length]; exact walk_rev hb ho)⟩⟩
  | tup ws =>
    obtain ⟨b, vs, rfl, h1, h2⟩ := r1
    exact ⟨b, vs, rfl, .inr ⟨SqT.of h1, q1 m1 H1 _ Grow.refl ss1 (by rw [← h2.length]; exact walk_revT ss1 h1 h2)⟩⟩
  | _ => exact q1.elim
theorem rangeW_rev {a : Int} {k : Nat} : (rangeW a 1 k).reverse = rangeW (a + (k : Nat) - 1) (-1) k := by
  apply List.ext_getElem?
  intro i
  rw [rangeW_at]
  by_cases h : i < k
  · rw [if_pos h, List.getElem?_reverse (by rw [rangeW_len]; exact h), rangeW_at, rangeW_len, if_pos (by omega)]
    congr 2
    omega
  · rw [if_neg h, List.getElem?_eq_none (by rw [List.length_reverse, rangeW_len]; omega)]
theorem revR_inv {ws : List W} {src : Src} (h : revRSrc ws = some src) : ∃ s0, rangeSrc ws = some s0 ∧ src = (s0.1, s0.2.reverse) ∧ ws.length ≠ 3 := by
  unfold revRSrc at h
  unfold rangeSrc
  split at h
  · split at h
    · rename_i b hb; cases h; exact ⟨_, by simp only [if_pos hb]; rfl, rfl, by simp⟩
    · cases h
  · split at h
    · rename_i a b hb; cases h; exact ⟨_, by simp only [if_pos hb]; rfl, rfl, by simp⟩
    · cases h
  · cases h
theorem ru_revR (F : Facts B T M fdom) (c : Cok B n M X sc) {tg e : Expr} {es : List Expr} {p p2 pos pos2 : Pos} {ea : Rho → Store → R (List W)} (g1 : glB sc "reversed" = true) (g2 : glB sc "range" = true) (hn : (e :: es).all notStar = true) (ha : PA X (e :: es) (tA T W0 ea)) :
    PI X tg (.Call (.Name "reversed" p) [.Call (.Name "range" p2) (e :: es) [] pos2] [] pos) (tI T W0 fun ρ S => (ea ρ S).bind fun ws S1 => okS (revRSrc ws) S1) := by
  have hn' := hn
  rw [List.all_cons, Bool.and_eq_true] at hn'
  refine ⟨fun pins s σ H Q I ⟨m, ρ, S, ss, sl, h⟩ => ?_⟩
  refine Call_ (ld_blt I (c.gl g1) (by rw [c.mg]; exact F.bu _ (by decide)) PyProof.Rows.boot_reversed (PyProof.Rows.callWith_type1 (args_cons ?_ rfl) rfl rfl))
  refine Call_ (ld_blt I (c.gl g2) (by rw [c.mg]; exact F.bu _ (by decide)) boot_range (PyProof.Rows.callWith_type1 (thn (ha.run pos2 pins s σ H _ I (bindA (ev := ea) ss sl h)) fun us s1 ⟨vs, H1, I1, rv, m1, ws, S1, g1, ss1, sl1, r1, q1⟩ => ?_) (star_cons hn'.1) (back_any hn'.2)))
  have q1 : PostR T (Walk T) m1 H1 (fun c d H' => W0 c d σ H') Q (okS (revRSrc ws) S1) := q1
  cases e1 : revRSrc ws with
  | none => rw [e1] at q1; exact q1.elim
  | some src =>
    rw [e1] at q1
    obtain ⟨s0, e2, rfl, hl⟩ := revR_inv e1
    refine call_rg I1 r1 rv e2 fun a b cc k r t u v s2 he hc hsm hs hz hr I2 => args_nil ?_
    obtain rfl : cc = 1 := by
      rcases hc with z | ⟨_, z⟩
      · exact z
      · exact absurd z hl
    subst he
    obtain ⟨⟨b1, b2⟩, b3, b4⟩ := hsm
    refine call_reversed_range hr (smallRev_one (by omega) (by omega) (by omega) (by omega)) (wpAny_pyIter_rangeiter (Heap.get?_push_size _ rfl) ?_)
    refine pi_one (tk := s2.toks) I2 _ (turn_rangeC _ (a + (k : Nat) - 1) (-1) k) ?_ (q1 m1 H1 (Itc (a + (k : Nat) - 1) (-1) k) Grow.refl ss1 (by rw [rangeW_rev]; exact walk_rg))
    have e3 : a + ((k : Nat) : Int) - 1 + ((0 : Nat) : Int) * (-1) = a + (Builtin.Range.rangeSize a b 1 - 1) * 1 := by rw [hz]; omega
    have e4 : (k : Int) - ((0 : Nat) : Int) = Builtin.Range.rangeSize a b 1 := by rw [hz]; omega
    show IsRangeIter _ _ (a + ((k : Nat) : Int) - 1 + ((0 : Nat) : Int) * (-1)) ((k : Int) - ((0 : Nat) : Int)) (-1)
    rw [e3, e4]
    exact Heap.get?_push_size _ rfl
end
end Mp
end
section
set_option Elab.async false
set_option linter.all false
set_option maxRecDepth 100000
/-! Targets, comprehensions. -/
namespace Mp
open PySem PySem.Spec PyProof.Rows L2 L2.DX RZ RT
mutual
def tgVars : Tg → List Nat
  | .nm i => [i]
  | .tp ts => tgVarss ts
def tgVarss : List Tg → List Nat
  | [] => []
  | t :: ts => tgVars t ++ tgVarss ts
end
theorem wipe_at (σ : L2.St) (j : Nat) : ∀ vs : List Nat, (wipe σ vs)[j]? = if j ∈ vs then (if j < σ.length then some none else none) else σ[j]?
  | [] => by simp [wipe]
  | v :: vs => by
    show ((wipe σ vs).set v none)[j]? = _
    rw [List.getElem?_set, wipe_at σ j vs, wipe_length]
    by_cases h : v = j
    · subst h
      by_cases hl : v < σ.length <;> simp [hl]
    · have h' : ¬ j = v := fun z => h z.symm
      simp [h, h']
theorem wipeR_at (ρ : Rho) (j : Nat) : ∀ vs : List Nat, (wipeR ρ vs).length = ρ.length ∧ (wipeR ρ vs)[j]? = if j ∈ vs then (if j < ρ.length then some none else none) else ρ[j]?
  | [] => by simp [wipeR]
  | v :: vs => by
    obtain ⟨h1, h2⟩ := wipeR_at ρ j vs
    show ((wipeR ρ vs).set v none).length = _ ∧ ((wipeR ρ vs).set v none)[j]? = _
    rw [List.length_set, List.getElem?_set, h2, h1]
    refine ⟨rfl, ?_⟩
    by_cases h : v = j
    · subst h
      by_cases hl : v < ρ.length <;> simp [hl]
    · have h' : ¬ j = v := fun z => h z.symm
      simp [h, h']
theorem wipe_set {σ : L2.St} {vs : List Nat} {i : Nat} {x : Option V} (h : i ∈ vs) : wipe (σ.set i x) vs = wipe σ vs := by
  apply List.ext_getElem?
  intro j
  rw [wipe_at, wipe_at, List.length_set]
  by_cases hj : j ∈ vs
  · simp [hj]
  · rw [if_neg hj, if_neg hj, List.getElem?_set_ne (fun z : i = j => hj (by rw [← z]; exact h))]
theorem wipe_wipe {σ : L2.St} {vs : List Nat} : wipe (wipe σ vs) vs = wipe σ vs := by
  apply List.ext_getElem?
  intro j
  rw [wipe_at, wipe_at, wipe_length]
  by_cases hj : j ∈ vs <;> simp [hj]
theorem SimL.wipe {m : List Addr} {H : Hp} {ρ : Rho} {σ : L2.St} (l : SimL m H ρ σ) (vs : List Nat) : SimL m H (wipeR ρ vs) (L2.wipe σ vs) := by
  refine ⟨by rw [(wipeR_at ρ 0 vs).1, wipe_length, l.len], fun i w h => ?_⟩
  rw [(wipeR_at ρ i vs).2] at h
  rw [wipe_at]
  by_cases hi : i ∈ vs
  · rw [if_pos hi] at h
    by_cases hl : i < ρ.length
    · rw [if_pos hl] at h; cases h
    · rw [if_neg hl] at h; cases h
  · rw [if_neg hi] at h ⊢
    exact l.at_ i w h
def SameOff (vs : List Nat) (σ σ' : L2.St) : Prop := ∀ us : List Nat, (∀ i ∈ vs, i ∈ us) → wipe σ' us = wipe σ us
def tG (T : Tb) (tg : Tg) : TG := fun v σ H Q => ∃ (m : List Addr) (ρ : Rho) (S : Store) (w : W) (ρ' : Rho), SimS T m S H ∧ SimL m H ρ σ ∧ RepV m H w v ∧ bindT tg w ρ = some ρ' ∧ ∀ σ', SimL m H ρ' σ' → SameOff (tgVars tg) σ σ' → Q σ' H
def tGs (T : Tb) (ts : List Tg) : TGs := fun vs σ H Q => ∃ (m : List Addr) (ρ : Rho) (S : Store) (ws : List W) (ρ' : Rho), SimS T m S H ∧ SimL m H ρ σ ∧ RepVs m H ws vs ∧ bindTs ts ws ρ = some ρ' ∧ ∀ σ', SimL m H ρ' σ' → SameOff (tgVarss ts) σ σ' → Q σ' H
theorem PG.imp {X : Cx} {e : Expr} {t t' : TG} (h : PG X e t) (i : ∀ v σ H Q, t' v σ H Q → t v σ H Q) : PG X e t' := ⟨fun pins s σ H v u Q I r q => h.run pins s σ H v u Q I r (i v σ H Q q)⟩
theorem PGs.imp {X : Cx} {e : List Expr} {t t' : TGs} (h : PGs X e t) (i : ∀ v σ H Q, t' v σ H Q → t v σ H Q) : PGs X e t' := ⟨fun pins s σ H v u Q I r q => h.run pins s σ H v u Q I r (i v σ H Q q)⟩
theorem asg_cons {e : Expr} {es : List Expr} {env : Env} (h : notStar e = true) : assignEach (e :: es) env = (false, assign e env) :: assignEach es env := by
  cases e <;> first | rfl | cases h
theorem asg_all {env : Env} : ∀ {es : List Expr}, es.all notStar = true → (assignEach es env).length = es.length ∧ (assignEach es env).findIdx? (·.1) = none
  | [], _ => ⟨rfl, rfl⟩
  | e :: es, h => by
    rw [List.all_cons, Bool.and_eq_true] at h
    obtain ⟨h1, h2⟩ := asg_all (env := env) h.2
    rw [asg_cons h.1]
    refine ⟨by rw [List.length_cons, List.length_cons, h1], ?_⟩
    rw [List.findIdx?_cons, h2]; rfl
theorem mTs_star {M : MEnv} {sc : Scope} : ∀ {ts : List Tg} {es : List Expr}, mTs M sc ts es = true → es.all notStar = true ∧ es.length = ts.length
  | [], [], _ => ⟨rfl, rfl⟩
  | [], _ :: _, h => by cases h
  | _ :: _, [], h => by cases h
  | t :: ts, e :: es, h => by
    rw [mTs, Bool.and_eq_true, Bool.and_eq_true] at h
    obtain ⟨h1, h2⟩ := mTs_star h.2
    exact ⟨by rw [List.all_cons, h.1.1, h1]; rfl, by rw [List.length_cons, List.length_cons, h2]⟩
theorem bindTs_len : ∀ {ts : List Tg} {ws : List W} {ρ ρ' : Rho}, bindTs ts ws ρ = some ρ' → ws.length = ts.length
  | [], [], _, _, _ => rfl
  | [], _ :: _, _, _, h => by rw [bindTs] at h <;> first | cases h | simp
  | _ :: _, [], _, _, h => by rw [bindTs] at h <;> first | cases h | simp
  | t :: ts, w :: ws, ρ, ρ', h => by
    rw [bindTs] at h
    obtain ⟨ρ1, h1, h2⟩ := Option.bind_eq_some_iff.mp h
    rw [List.length_cons, List.length_cons, bindTs_len h2]
section
variable {T : Tb} {W0 : WX} {X : Cx} {B : Bs} {n : Nat} {M : MEnv} {sc : Scope} {fdom : Nat → Bool}
mutual
theorem ru_tg (c : Cok B n M X sc) : ∀ {tg : Tg} {e : Expr}, mT M sc tg e = true → PG X e (tG T tg)
  | .nm i, e, h => by
    cases e with
    | Name x pos =>
      simp only [mT, Bool.and_eq_true, decide_eq_true_eq] at h
      obtain ⟨⟨h1, h2⟩, h3⟩ := h
      obtain ⟨l1, l2⟩ := c.loc h2
      refine PG.imp (pg_name (i := i) c.nd (by rw [c.N]; exact h1) l1 l2) fun v σ H Q ⟨m, ρ, S, w, ρ', ss, sl, r, hb, q⟩ => ?_
      rw [bindT] at hb
      cases hb
      exact q _ (sl.set r i) fun us hu => wipe_set (hu i (by rw [tgVars]; exact List.mem_singleton.mpr rfl))
    | _ => simp [mT] at h
  | .tp ts, e, h => by
    cases e with
    | Tuple es k pos =>
      rw [mT] at h
      obtain ⟨h1, h2⟩ := mTs_star h
      obtain ⟨h3, h4⟩ := asg_all (env := X.env) h1
      refine PG.imp (pg_tup (n := ts.length) c.calm (ru_tgs c h) (by rw [h3, h2]) h4) fun v σ H Q ⟨m, ρ, S, w, ρ', ss, sl, r, hb, q⟩ => ?_
      cases w with
      | tup ws =>
        rw [bindT] at hb
        obtain ⟨a, vs, rfl, e1, e2⟩ := r
        exact ⟨a, vs, rfl, SqT.of e1, by rw [← e2.length, bindTs_len hb], m, ρ, S, ws, ρ', ss, sl, e2, hb, q⟩
      | _ => cases hb
    | _ => simp [mT] at h
theorem ru_tgs (c : Cok B n M X sc) : ∀ {ts : List Tg} {es : List Expr}, mTs M sc ts es = true → PGs X es (tGs T ts)
  | [], [], _ => PGs.imp pgs_nil fun v σ H Q ⟨m, ρ, S, ws, ρ', ss, sl, r, hb, q⟩ => by
    cases ws with
    | nil =>
      rw [bindTs] at hb; cases hb
      exact ⟨r, q σ sl fun _ _ => rfl⟩
    | cons w ws => rw [bindTs] at hb <;> first | cases hb | simp
  | [], _ :: _, h => by cases h
  | _ :: _, [], h => by cases h
  | t :: ts, e :: es, h => by
    rw [mTs, Bool.and_eq_true, Bool.and_eq_true] at h
    obtain ⟨⟨h1, h2⟩, h3⟩ := h
    refine PGs.imp (pgs_cons (ru_tg c h2) (ru_tgs c h3) (by rw [asg_cons h1]; rfl)) fun v σ H Q ⟨m, ρ, S, ws, ρ', ss, sl, r, hb, q⟩ => ?_
    cases ws with
    | nil => rw [bindTs] at hb <;> first | cases hb | simp
    | cons w ws =>
      rw [bindTs] at hb
      obtain ⟨ρ1, b1, b2⟩ := Option.bind_eq_some_iff.mp hb
      obtain ⟨x, xs, rfl, r1, r2⟩ := r
      refine ⟨x, xs, rfl, m, ρ, S, w, ρ1, ss, sl, r1, b1, fun σ1 l1 o1 => ?_⟩
      refine ⟨m, ρ1, S, ws, ρ', ss, l1, r2, b2, fun σ2 l2 o2 => ?_⟩
      refine q σ2 l2 fun us hu => ?_
      rw [tgVarss] at hu
      rw [o2 us fun i hi => hu i (List.mem_append_right _ hi), o1 us fun i hi => hu i (List.mem_append_left _ hi)]
end
/-- behind a calm part -/
theorem calm_bind {α β γ δ ε : Type} {rel : List Addr → Hp → α → β → Prop} {rel' : List Addr → Hp → γ → δ → Prop} {m : List Addr} {H : Hp} {Z : Wz} {Q : δ → Hp → Prop} {r : R α} {h : α → Store → R ε} {g : ε → Store → R γ}
    (q : PostR T rel' m H Z Q ((r.bind h).calm.bind g)) : PostR T rel m H (fun _ _ _ => False) (fun v H1 => ∃ m1 w S1, Grow m H m1 H1 ∧ SimS T m1 S1 H1 ∧ rel m1 H1 w v ∧ PostR T rel' m1 H1 Z Q ((h w S1).calm.bind g)) r := by
  cases r with
  | ok w S1 => exact fun m1 H1 v g1 s1 rv => ⟨m1, w, S1, g1, s1, rv, PostR.later g1 q⟩
  | exn c f S1 => exact q.elim
  | bad => exact q.elim
def compF (tg : Tg) (own : List Nat) (ρ : Rho) (ec : Rho → Store → R Bool) (ee : Rho → Store → R W) (w : W) (S2 : Store) : R (Option W) := match bindT tg w (wipeR ρ own) with
      | none => .bad
      | some ρ' => (ec ρ' S2).bind fun b S3 => if b then (ee ρ' S3).bind fun v S4 => .ok (some v) S4 else .ok none S3
theorem comp_read {tg : Tg} {own : List Nat} {ei : Rho → Store → R Src} {ec : Rho → Store → R Bool} {ee : Rho → Store → R W} (hv : ∀ i ∈ tgVars tg, i ∈ own) {m : List Addr} {H : Hp} {S : Store} {ρ : Rho} {σ : L2.St} {Q : VK} (ss : SimS T m S H) (sl : SimL m H ρ σ)
    (h : PostR T RepV m H (fun c d H' => W0 c d σ H') Q ((ei ρ S).bind fun src S1 => compL src.1 S1.length (compF tg own ρ ec ee) src.2 (S1 ++ [.lst []]))) :
    tLc (tI T W0 ei) (tG T tg) (tTs T (fun _ _ _ _ => False) ec) (tE T (fun _ _ _ _ => False) ee) own σ H Q := by
  refine ⟨m, ρ, S, ss, sl, PostR.mono (PostR.bind h) fun J H1 ⟨m1, src, S1, g1, ss1, wk, q1⟩ D hD => ?_⟩
  obtain ⟨gs, its⟩ := src
  simp only [] at q1
  have sl1 := sl.grow ss g1
  have gD := grow_new ss1 (o := .lst []) hD
  have sD : SimS T (m1 ++ [D]) (S1 ++ [.lst []]) (upd H1 D (.lst [])) := ss1.alloc hD ⟨[], upd_same, rfl⟩
  refine ⟨fun i k H => k = its.length - i ∧ i ≤ its.length ∧ ∃ m S, Grow (m1 ++ [D]) (upd H1 D (.lst [])) m H ∧ SimS T m S H ∧ PostR T RepV m H (fun c d H' => W0 c d σ H') Q (compL gs S1.length (compF tg own ρ ec ee) (its.drop i) S),
    ⟨its.length, by simp, Nat.zero_le _, _, _, Grow.refl, sD, PostR.later gD q1⟩, ?_⟩
  rintro i k H2 ⟨rfl, hi, m2, S2, g2, ss2, q2⟩
  have g12 := gD.trans g2
  have hDm : m2[S1.length]? = some D := pre_get g2.pre ss1.last
  by_cases hlt : i < its.length
  · have hdrop : its.drop i = its[i] :: its.drop (i + 1) := by rw [List.drop_eq_getElem_cons hlt]
    have hw : its[i]? = some its[i] := by simp [hlt]
    rw [hdrop] at q2
    unfold compL at q2
    by_cases hst : stands gs S2
    · rw [if_pos hst] at q2
      obtain ⟨go, yld⟩ := (wk m2 H2 S2 g12 ss2 hst i).1 _ hw
      refine .inr ⟨go, fun H' => i + 1 ≤ its.length ∧ ∃ m S, Grow (m1 ++ [D]) (upd H1 D (.lst [])) m H' ∧ SimS T m S H' ∧ PostR T RepV m H' (fun c d H' => W0 c d σ H') Q (compL gs S1.length (compF tg own ρ ec ee) (its.drop (i + 1)) S),
        fun H' ⟨h1, h2⟩ => ⟨its.length - (i + 1), by omega, rfl, h1, h2⟩, fun x H3 hy => ?_⟩
      obtain ⟨g3, ss3, r3⟩ := yld x H3 hy
      have q3 := PostR.later g3 q2
      have g13 := g12.trans g3
      have gD3 := g2.trans g3
      have sl3 := (sl1.grow ss1 g13).wipe own
      unfold compF at q3
      cases eb : bindT tg its[i] (wipeR ρ own) with
      | none => simp only [eb] at q3; exact q3.elim
      | some ρ' =>
        simp only [eb] at q3
        refine ⟨m2, _, S2, its[i], ρ', ss3, sl3, r3, eb, fun σ2 l2 o2 => ⟨by rw [o2 _ hv, wipe_wipe], ?_⟩⟩
        refine ⟨m2, ρ', S2, ss3, l2, PostR.mono (calm_bind (rel := RelB) q3) fun b H4 ⟨m4, b', S4, g4, ss4, rb, q4⟩ => ?_⟩
        obtain rfl : b' = b := rb
        have l4 := l2.grow ss3 g4
        cases b' with
        | true =>
          simp only [if_true] at q4 ⊢
          refine ⟨m4, ρ', S4, ss4, l4, PostR.mono (calm_bind (rel := RepV) q4) fun y H5 ⟨m5, u, S5, g5, ss5, ru, q5⟩ => ?_⟩
          have q5 : PostR T RepV m5 H5 (fun c d H' => W0 c d σ H') Q (match S5[S1.length]? with
            | some (.lst acc) => if acc.length < lim then compL gs S1.length (compF tg own ρ ec ee) (its.drop (i + 1)) (S5.set S1.length (.lst (acc ++ [u]))) else .bad
            | _ => .bad) := q5
          have hDm5 : m5[S1.length]? = some D := pre_get g5.pre (pre_get g4.pre hDm)
          cases eo : S5[S1.length]? with
          | none => rw [eo] at q5; exact q5.elim
          | some o =>
            cases o with
            | lst acc =>
              simp only [eo] at q5
              by_cases hl : acc.length < lim
              · rw [if_pos hl] at q5
                obtain ⟨vs, hv1, hv2⟩ := ss5.at_ _ _ _ eo hDm5
                have g6 := grow_set ss5 (o := .lst (vs ++ [y])) hDm5
                have s6 : SimS T m5 (S5.set S1.length (.lst (acc ++ [u]))) (upd H5 D (.lst (vs ++ [y]))) := ss5.upd hDm5 ⟨_, upd_same, (hv2.append (RepVs.one ru)).grow ss5 g6⟩
                exact ⟨vs, hv1, by rw [← hv2.length]; exact lim_lt hl, hlt, m5, _, ((gD3.trans g4).trans g5).trans g6, s6, PostR.later g6 q5⟩
              · rw [if_neg hl] at q5; exact q5.elim
            | _ => simp only [eo] at q5; exact q5.elim
        | false =>
          simp only [Bool.false_eq_true, if_false] at q4 ⊢
          exact ⟨hlt, m4, S4, gD3.trans g4, ss4, q4⟩
    · rw [if_neg hst] at q2; exact q2.elim
  · have hn : its.drop i = [] := List.drop_eq_nil_of_le (by omega)
    rw [hn] at q2
    unfold compL at q2
    by_cases hst : stands gs S2
    · rw [if_pos hst] at q2
      exact .inl ⟨(wk m2 H2 S2 g12 ss2 hst i).2 (by show its.length ≤ i; omega), q2 m2 H2 _ Grow.refl ss2 ⟨D, hDm, rfl⟩⟩
    · rw [if_neg hst] at q2; exact q2.elim
theorem fold_set {e : Expr} {env : Env} (h : notSet e = true) (x : Value) : foldedSetIterable e env x = pure x := by
  unfold foldedSetIterable
  cases e <;> first | rfl | cases h
theorem ru_comp (c : Cok B n M X sc) {tg : Tg} {tgE itE elt : Expr} {ifs : List Expr} {scope : Scope} {own : List (Str × Nat)} {pos : Pos} {ei : Rho → Store → R Src} {ec : Rho → Store → R Bool} {ee : Rho → Store → R W} (ok : BlkOk X.N X.env.scope scope own) (hv : ∀ i ∈ tgVars tg, i ∈ own.map (·.2))
    (hset : notSet itE = true) (hi : PI X tgE itE (tI T W0 ei)) (hg : ∀ (s : Shared) (H : Hp) (C : Addr) (cl : List (Str × Addr)) (fp : List Addr), PG (X.blk s H scope (compEnvC scope cl C X.env) fp) tgE (tG T tg))
    (ht : ∀ (s : Shared) (H : Hp) (C : Addr) (cl : List (Str × Addr)) (fp : List Addr), PTs (X.blk s H scope (compEnvC scope cl C X.env) fp) ifs (tTs T (fun _ _ _ _ => False) ec))
    (he : ∀ (s : Shared) (H : Hp) (C : Addr) (cl : List (Str × Addr)) (fp : List Addr), PE (X.blk s H scope (compEnvC scope cl C X.env) fp) elt (tE T (fun _ _ _ _ => False) ee)) :
    PE X (.ListComp elt [⟨tgE, itE, ifs, 0⟩] scope pos) (tE T W0 fun ρ S => (ei ρ S).bind fun src S1 => compL src.1 S1.length (compF tg (own.map (·.2)) ρ ec ee) src.2 (S1 ++ [.lst []])) :=
  PE.imp (pe_lc c.calm c.nd hi ok hg ht he (fold_set hset)) fun σ H Q ⟨m, ρ, S, ss, sl, h⟩ => comp_read hv ss sl h
end
end Mp
end
section
set_option Elab.async false
set_option linter.all false
set_option maxRecDepth 100000
/-! Every expression of our own language does in the model what it says. -/
namespace Mp
open PySem PySem.Spec PyProof.Rows L2 L2.DX RZ RT
theorem relab_gen (g : Str × NameKind → Str × NameKind) (h1 : ∀ p, (g p).1 = p.1) (h2 : ∀ p, p.2 = .free → (g p).2 = .free ∨ (g p).2 = .cell) : ∀ {names : List (Str × NameKind)} {x : Str}, names.lookup x = some .free →
    (names.map g).lookup x = some .free ∨ (names.map g).lookup x = some .cell
  | [], x, h => by simp at h
  | (n, k) :: r, x, h => by
    rw [List.map_cons]
    rw [List.lookup_cons] at h
    have e1 := h1 (n, k)
    have e2 := h2 (n, k)
    generalize g (n, k) = q at e1 e2
    obtain ⟨a, b⟩ := q
    simp only at e1 e2
    subst e1
    rw [List.lookup_cons]
    cases hx : x == a with
    | true =>
      rw [hx] at h
      cases h
      rcases e2 rfl with z | z
      · left; simp [z]
      · right; simp [z]
    | false =>
      rw [hx] at h
      exact relab_gen g h1 h2 h
section
variable {T : Tb} {B : Bs} {n : Nat} {M : MEnv} {fdom : Nat → Bool}
theorem Cok.blk {X : Cx} {sc : Scope} (c : Cok B n M X sc) (s : Shared) (H : Hp) (scope : Scope) (cl : List (Str × Addr)) (C : Addr) (fp : List Addr) : Cok B n M (X.blk s H scope (compEnvC scope cl C X.env) fp) scope :=
  ⟨c.pr, c.w, c.K, c.mg, c.base, c.N, c.nd, c.calm, c.room, fun x k h => ⟨fun hk => lookup_relS_keep hk h, fun hk => by subst hk; exact relab_gen _ (fun ⟨n, k⟩ => by dsimp only; split <;> rfl) (fun ⟨n, k⟩ e => by dsimp only at e ⊢; subst e; split <;> simp) h⟩, fun x h => by
    show (scope.names.lookup x == some .cell) = true
    rw [h]; rfl⟩
theorem takes_blk {X : Cx} (s : Shared) (H : Hp) (scope : Scope) (ce : Env) (fp : List Addr) : Takes (X.blk s H scope ce fp) (fun _ _ _ _ => False) :=
  fun u s' ⟨_, _, _, _, _, _, _, _, _, _, _, _, _, _, _, _, h⟩ => h.elim
theorem Cok.blkOk {X : Cx} {sc scope : Scope} {own : List (Str × Nat)} (c : Cok B n M X sc) (h : blkC M.N sc scope own = true) : BlkOk X.N X.env.scope scope own := by
  obtain ⟨h1, h2, h3, h4, h5⟩ := blkOk_by h
  refine ⟨h1, h2, by rw [c.N]; exact h3, fun y hy e => ?_, by rw [c.N]; exact h5⟩
  rcases h4 y hy e with k | k
  · exact .inl ((c.kd _ _ k).1 (by decide))
  · rcases (c.kd _ _ k).2 rfl with z | z
    · exact .inr z
    · exact .inl z
theorem own_map (own : List Nat) : (ownOf M own).map (·.2) = own := by
  unfold ownOf
  rw [List.map_map]
  exact List.map_id _
section
variable {X : Cx} {W0 : WX} {sc : Scope}
theorem PE.cg {e : Expr} {ev ev' : Rho → Store → R W} (p : PE X e (tE T W0 ev)) (h : ∀ ρ S, ev' ρ S = ev ρ S) : PE X e (tE T W0 ev') := by
  have : ev' = ev := by funext ρ S; exact h ρ S
  rw [this]; exact p
theorem PT.cg {e : Expr} {ev ev' : Rho → Store → R Bool} (p : PT X e (tTs T W0 ev)) (h : ∀ ρ S, ev' ρ S = ev ρ S) : PT X e (tTs T W0 ev') := by
  have : ev' = ev := by funext ρ S; exact h ρ S
  rw [this]; exact p
theorem PA.cg {e : List Expr} {ev ev' : Rho → Store → R (List W)} (p : PA X e (tA T W0 ev)) (h : ∀ ρ S, ev' ρ S = ev ρ S) : PA X e (tA T W0 ev') := by
  have : ev' = ev := by funext ρ S; exact h ρ S
  rw [this]; exact p
theorem PI.cg {tg e : Expr} {ev ev' : Rho → Store → R Src} (p : PI X tg e (tI T W0 ev)) (h : ∀ ρ S, ev' ρ S = ev ρ S) : PI X tg e (tI T W0 ev') := by
  have : ev' = ev := by funext ρ S; exact h ρ S
  rw [this]; exact p
/-- both: as a value, as a test -/
def Ev (T : Tb) (X : Cx) (W0 : WX) (x : Expr) (ev : Rho → Store → R W) : Prop := PE X x (tE T W0 ev) ∧ PT X x (tTs T W0 fun ρ S => tst (ev ρ S))
theorem Ev.cg {x : Expr} {ev ev' : Rho → Store → R W} (p : Ev T X W0 x ev) (h : ∀ ρ S, ev' ρ S = ev ρ S) : Ev T X W0 x ev' := ⟨PE.cg p.1 h, PT.cg p.2 fun ρ S => by rw [h]⟩
theorem Ev.pl {x : Expr} {ev ev' : Rho → Store → R W} (p : PE X x (tE T W0 ev)) (hp : plainTst x = true) (h : ∀ ρ S, ev' ρ S = ev ρ S) : Ev T X W0 x ev' := (show Ev T X W0 x ev from ru_plain hp p).cg h
end
theorem evEs_len {P : Prog} {cl : Nat → List W → Store → R W} {hx : List (Nat × W)} : ∀ (es : Es) {ρ : Rho} {S S' : Store} {ws : List W}, evEs P cl hx es ρ S = .ok ws S' → ws.length = es.len
  | .nil, ρ, S, S', ws, h => by rw [evEs] at h; cases h; rfl
  | .cons e es, ρ, S, S', ws, h => by
    rw [evEs] at h
    cases h1 : evE P cl hx e ρ S with
    | ok w S1 =>
      rw [h1, R.bind_ok] at h
      cases h2 : evEs P cl hx es ρ S1 with
      | ok us S2 =>
        rw [h2, R.bind_ok] at h
        cases h
        rw [List.length_cons, evEs_len es h2]; rfl
      | _ => rw [h2] at h; cases h
    | _ => rw [h1] at h; cases h
theorem tgVars_own {N : List Str} {scA scope : Scope} {own : List (Str × Nat)} (nd : N.Nodup) (ok : BlkOk N scA scope own) {x : Str} {i : Nat} (hi : N[i]? = some x) (hl : locB scope x = true) : i ∈ own.map (·.2) := by
  unfold locB at hl
  cases e : scope.names.lookup x with
  | none => rw [e] at hl; cases hl
  | some k =>
    rw [e] at hl
    have hmem : ∀ {l : List (Str × NameKind)}, l.lookup x = some k → (x, k) ∈ l := fun {l} => by
      induction l with
      | nil => intro h; simp at h
      | cons p r ih =>
        obtain ⟨a, b⟩ := p
        intro h
        rw [List.lookup_cons] at h
        cases hx : x == a with
        | true => rw [hx] at h; cases h; rw [eq_of_beq hx]; exact List.mem_cons_self ..
        | false => rw [hx] at h; exact List.mem_cons_of_mem _ (ih h)
    have hk : k = .local ∨ k = .cell := by cases k <;> first | exact .inl rfl | exact .inr rfl | cases hl
    rcases ok.own _ (hmem e) hk with h | h
    · obtain ⟨p, hp, e2⟩ := List.mem_map.mp h
      have hj := ok.ix p hp
      rw [e2] at hj
      have : p.2 = i := by
        obtain ⟨h1, e1⟩ := List.getElem?_eq_some_iff.mp hj
        obtain ⟨h2, e3⟩ := List.getElem?_eq_some_iff.mp hi
        exact (List.getElem_inj nd).mp (e1.trans e3.symm)
      rw [← this]
      exact List.mem_map.mpr ⟨p, hp, rfl⟩
    · exact absurd (List.mem_of_getElem? hi) h
mutual
theorem tg_own {scA scope : Scope} {own : List (Str × Nat)} (nd : M.N.Nodup) (ok : BlkOk M.N scA scope own) : ∀ {tg : Tg} {e : Expr}, mT M scope tg e = true → ∀ i ∈ tgVars tg, i ∈ own.map (·.2)
  | .nm i, e, h => by
    cases e with
    | Name x pos =>
      simp only [mT, Bool.and_eq_true, decide_eq_true_eq] at h
      intro j hj
      rw [tgVars] at hj
      rw [List.mem_singleton.mp hj]
      exact tgVars_own nd ok h.1.1 h.1.2
    | _ => simp [mT] at h
  | .tp ts, e, h => by
    cases e with
    | Tuple es k pos => rw [mT] at h; rw [tgVars]; exact tgs_own nd ok h
    | _ => simp [mT] at h
theorem tgs_own {scA scope : Scope} {own : List (Str × Nat)} (nd : M.N.Nodup) (ok : BlkOk M.N scA scope own) : ∀ {ts : List Tg} {es : List Expr}, mTs M scope ts es = true → ∀ i ∈ tgVarss ts, i ∈ own.map (·.2)
  | [], _, _ => fun i hi => by rw [tgVarss] at hi; cases hi
  | _ :: _, [], h => by cases h
  | t :: ts, e :: es, h => by
    rw [mTs, Bool.and_eq_true, Bool.and_eq_true] at h
    intro i hi
    rw [tgVarss] at hi
    rcases List.mem_append.mp hi with hi | hi
    · exact tg_own nd ok h.1.2 i hi
    · exact tgs_own nd ok h.2 i hi
end
end
end Mp
end
section
set_option Elab.async false
set_option linter.all false
set_option maxRecDepth 100000
set_option maxHeartbeats 4000000
/-! Every expression of our own language does in the model what it says. -/
namespace Mp
open PySem PySem.Spec PyProof.Rows L2 L2.DX RZ RT
theorem R.assoc {α β γ : Type} (r : R α) (f : α → Store → R β) (g : β → Store → R γ) : (r.bind f).bind g = r.bind fun a S => (f a S).bind g := by cases r <;> rfl
section
variable {T : Tb} {B : Bs} {n : Nat} {M : MEnv} {fdom : Nat → Bool}
theorem mEs_nil {sc : Scope} {es : Es} (h : mEs M sc es [] = true) {P : Prog} {cl : Nat → List W → Store → R W} {hx : List (Nat × W)} (ρ : Rho) : evEs P cl hx es ρ = fun S => .ok [] S := by
  cases es with
  | nil => funext S; rw [evEs]
  | cons e es => simp [mEs] at h
theorem mEs_nil' {sc : Scope} {es : Es} {l : List Expr} (h : mEs M sc es l = true) {P : Prog} {cl : Nat → List W → Store → R W} {hx : List (Nat × W)} (e : l = []) : evEs P cl hx es = fun _ S => .ok [] S := by
  subst e
  funext ρ
  exact mEs_nil h ρ
mutual
theorem ok_E (F : Facts B T M fdom) (hF : ∀ f, fdom f = true → FnT B T M.P n f) : ∀ (e : E) {X : Cx} {W0 : WX} {sc : Scope} {x : Expr}, Cok B n M X sc → Takes X W0 → mE M sc e x = true → Ev T X W0 x (evE M.P (callN M.P n) [] e)
  | .any, X, W0, sc, x, c, tk, h => ⟨⟨fun pins s σ H Q I ⟨m, ρ, S, ss, sl, q⟩ => by rw [evE] at q; exact q.elim⟩, ⟨fun pins s σ H Q I ⟨m, ρ, S, ss, sl, q⟩ => by simp only [evE] at q; exact q.elim⟩⟩
  | .var i, X, W0, sc, x, c, tk, h => by
    cases x with
    | Name y pos =>
      simp only [mE, Bool.and_eq_true, decide_eq_true_eq] at h
      exact .pl (ru_var c h.1.1 h.1.2 h.2) rfl fun ρ S => by rw [evE]; try rfl
    | _ => simp [mE] at h
  | .cst w, X, W0, sc, x, c, tk, h => by
    cases x with
    | Name y pos =>
      simp only [mE, Bool.and_eq_true, decide_eq_true_eq] at h
      obtain ⟨v, u, h1, h2, h3⟩ := F.co y w h.2
      exact .pl (ru_cst (pe_glob (c.gl h.1.1) (by rw [c.mg]; exact h1) h2 (nmOk_inv h.1.2).1) h3) rfl fun ρ S => by rw [evE]
    | Constant k j pos =>
      cases k with
      | int i =>
        cases w with
        | int i' => simp only [mE, decide_eq_true_eq] at h; subst h; exact .pl (ru_cst (w := .int i) pe_int fun m H => rfl) rfl fun ρ S => by rw [evE]
        | _ => simp [mE] at h
      | str i =>
        cases w with
        | str i' => simp only [mE, decide_eq_true_eq] at h; subst h; exact .pl (ru_cst (w := .str i) pe_str fun m H => rfl) rfl fun ρ S => by rw [evE]
        | _ => simp [mE] at h
      | bool i =>
        cases w with
        | bl i' => simp only [mE, beq_iff_eq] at h; subst h; exact .pl (ru_cst (w := .bl i) pe_bl fun m H => rfl) rfl fun ρ S => by rw [evE]
        | _ => simp [mE] at h
      | none =>
        cases w with
        | non => exact .pl (ru_cst (w := .non) pe_non fun m H => rfl) rfl fun ρ S => by rw [evE]
        | _ => simp [mE] at h
      | _ => cases w <;> simp [mE] at h
    | _ => simp [mE] at h
  | .tupE es, X, W0, sc, x, c, tk, h => by
    cases x with
    | Tuple l k pos =>
      rw [mE] at h
      exact .pl (ru_tup (ok_Es F hF es c tk h).1) rfl fun ρ S => by rw [evE]
    | _ => simp [mE] at h
  | .lstE es, X, W0, sc, x, c, tk, h => by
    cases x with
    | List l pos =>
      rw [mE] at h
      exact .pl (ru_lst (ok_Es F hF es c tk h).1) rfl fun ρ S => by rw [evE]
    | _ => simp [mE] at h
  | .bin op a b, X, W0, sc, x, c, tk, h => by
    cases x with
    | BinOp a' o b' pos =>
      simp only [mE, Bool.and_eq_true, decide_eq_true_eq] at h
      obtain ⟨⟨rfl, h1⟩, h2⟩ := h
      exact .pl (ru_bin c.room.units (ok_E F hF a c tk h1).1 (ok_E F hF b c tk h2).1) rfl fun ρ S => by rw [evE]
    | _ => simp [mE] at h
  | .neg a, X, W0, sc, x, c, tk, h => by
    cases x with
    | UnaryOp o a' pos =>
      cases o with
      | USub =>
        rw [mE] at h
        exact .pl (ru_neg (ok_E F hF a c tk h).1) rfl fun ρ S => by rw [evE]; try rfl
      | _ => simp [mE] at h
    | _ => simp [mE] at h
  | .notE a, X, W0, sc, x, c, tk, h => by
    cases x with
    | UnaryOp o a' pos =>
      cases o with
      | Not =>
        rw [mE] at h
        have p := ok_E F hF a c tk h
        exact Ev.cg (ru_not p.1 p.2) fun ρ S => by rw [evE]
      | _ => simp [mE] at h
    | _ => simp [mE] at h
  | .cmp op a b, X, W0, sc, x, c, tk, h => by
    cases x with
    | Compare a' os bs pos =>
      match os, bs, h with
      | [o], [b'], h =>
        simp only [mE, Bool.and_eq_true, decide_eq_true_eq] at h
        obtain ⟨⟨⟨rfl, h0⟩, h1⟩, h2⟩ := h
        exact Ev.cg (ru_cmp c.room.units (ok_E F hF a c tk h1).1 (ok_E F hF b c tk h2).1 h0) fun ρ S => by rw [evE]
      | [], _, h => simp [mE] at h
      | _ :: _ :: _, _, h => simp [mE] at h
      | [_], [], h => simp [mE] at h
      | [_], _ :: _ :: _, h => simp [mE] at h
    | _ => simp [mE] at h
  | .chain op op' a b d, X, W0, sc, x, c, tk, h => by
    cases x with
    | Compare a' os bs pos =>
      match os, bs, h with
      | [o, o'], [b', d'], h =>
        simp only [mE, Bool.and_eq_true, decide_eq_true_eq] at h
        obtain ⟨⟨⟨⟨⟨⟨rfl, rfl⟩, h00⟩, h0⟩, h1⟩, h2⟩, h3⟩ := h
        exact Ev.cg (ru_chain c.room.units (ok_E F hF a c tk h1).1 (ok_E F hF b c tk h2).1 (ok_E F hF d c tk h3).1 h0) fun ρ S => by rw [evE]; rfl
      | [], _, h => simp [mE] at h
      | [_], _, h => simp [mE] at h
      | _ :: _ :: _ :: _, _, h => simp [mE] at h
      | [_, _], [], h => simp [mE] at h
      | [_, _], [_], h => simp [mE] at h
      | [_, _], _ :: _ :: _ :: _, h => simp [mE] at h
    | _ => simp [mE] at h
  | .andE es, X, W0, sc, x, c, tk, h => by
    cases x with
    | BoolOp o l pos =>
      cases o with
      | And =>
        rw [mE] at h
        have p := ok_And F hF es (pos := pos) c tk h
        exact Ev.cg ⟨p.1, p.2.pt⟩ fun ρ S => by rw [evE]
      | _ => simp [mE] at h
    | _ => simp [mE] at h
  | .orE es, X, W0, sc, x, c, tk, h => by
    cases x with
    | BoolOp o l pos =>
      cases o with
      | Or =>
        rw [mE] at h
        have p := ok_Or F hF es (pos := pos) c tk h
        exact Ev.cg ⟨p.1, p.2.pt⟩ fun ρ S => by rw [evE]
      | _ => simp [mE] at h
    | _ => simp [mE] at h
  | .ifE t a b, X, W0, sc, x, c, tk, h => by
    cases x with
    | IfExp t' a' b' pos =>
      simp only [mE, Bool.and_eq_true] at h
      have p1 := ok_E F hF t c tk h.1.1
      have p2 := ok_E F hF a c tk h.1.2
      have p3 := ok_E F hF b c tk h.2
      exact Ev.cg (ru_if p1.2 p2.1 p3.1 p2.2 p3.2) fun ρ S => by rw [evE]
    | _ => simp [mE] at h
  | .attr a f, X, W0, sc, x, c, tk, h => by
    cases x with
    | Attribute a' s pos =>
      simp only [mE, Bool.and_eq_true, decide_eq_true_eq] at h
      exact .pl (ru_attr F c h.1.1 h.1.2 (ok_E F hF a c tk h.2).1) rfl fun ρ S => by rw [evE]; try rfl
    | _ => simp [mE] at h
  | .excf f, X, W0, sc, x, c, tk, h => by simp [mE] at h
  | .idx a i, X, W0, sc, x, c, tk, h => by
    cases x with
    | Subscript a' i' pos =>
      simp only [mE, Bool.and_eq_true] at h
      exact .pl (ru_idx c.room.units (ok_E F hF a c tk h.1.2).1 (ok_E F hF i c tk h.2).1 h.1.1) rfl fun ρ S => by rw [evE]
    | _ => simp [mE] at h
  | .slice a lo hi, X, W0, sc, x, c, tk, h => by
    cases x with
    | Subscript a' i' pos =>
      cases i' with
      | Slice lo' hi' st p2 =>
        cases st with
        | none =>
          simp only [mE, Bool.and_eq_true] at h
          exact .pl (ru_slice (ok_E F hF a c tk h.1.1).1 (ok_Part F hF lo c tk h.1.2) (ok_Part F hF hi c tk h.2)) rfl fun ρ S => by rw [evE]
        | some _ => simp [mE] at h
      | _ => simp [mE] at h
    | _ => simp [mE] at h
  | .rev a, X, W0, sc, x, c, tk, h => by
    unfold mE at h
    split at h
    · exact .pl (ru_rev (ok_E F hF a c tk h).1) rfl fun ρ S => by rw [evE]
    · cases h
  | .call f es, X, W0, sc, x, c, tk, h => by
    unfold mE at h
    split at h
    · simp only [Bool.and_eq_true, decide_eq_true_eq] at h
      obtain ⟨⟨⟨⟨h1, h2⟩, h3⟩, h4⟩, h5⟩ := h
      obtain ⟨p1, p2⟩ := ok_Es F hF es c tk h5
      exact .pl (ru_call F c tk hF h3 h1 h2 h4 p2 (fun ρ S ws S' e => evEs_len es e) p1 (mEs_nil' h5)) rfl fun ρ S => by rw [evE]
    · cases h
  | .bi b es, X, W0, sc, x, c, tk, h => by
    unfold mE at h
    split at h
    · rename_i y p l pos
      simp only [Bool.and_eq_true, decide_eq_true_eq] at h
      obtain ⟨⟨⟨⟨h1, h2⟩, h3⟩, h4⟩, h5⟩ := h
      obtain ⟨p1, p2⟩ := ok_Es F hF es c tk h5
      subst h3
      cases l with
      | nil => exact absurd rfl h4
      | cons a l => exact .pl (ru_bi F c h1 p2 p1) rfl fun ρ S => by rw [evE]
    · cases h
  | .bm b a es, X, W0, sc, x, c, tk, h => by
    unfold mE at h
    split at h
    · simp only [Bool.and_eq_true, decide_eq_true_eq] at h
      obtain ⟨⟨⟨⟨⟨rfl, h2⟩, h3⟩, h4⟩, h5⟩, h6⟩ := h
      obtain ⟨p1, p2⟩ := ok_Es F hF es c tk h6
      exact .pl (ru_bm h3 h2 h4 p2 (ok_E F hF a c tk h5).1 p1 (mEs_nil' h6)) rfl fun ρ S => by rw [evE]; try rfl
    · cases h
  | .om b a es, X, W0, sc, x, c, tk, h => by
    unfold mE at h
    split at h
    · simp only [Bool.and_eq_true, decide_eq_true_eq] at h
      obtain ⟨⟨⟨⟨⟨h1, h2⟩, h3⟩, h4⟩, h5⟩, h6⟩ := h
      obtain ⟨p1, p2⟩ := ok_Es F hF es c tk h6
      exact .pl (ru_om F c tk hF h1 h3 h2 h4 p2 (ok_E F hF a c tk h5).1 p1 (mEs_nil' h6)) rfl fun ρ S => by rw [evE]; try rfl
    · cases h
  | .make cc es, X, W0, sc, x, c, tk, h => by
    unfold mE at h
    split at h
    · simp only [Bool.and_eq_true, decide_eq_true_eq] at h
      obtain ⟨⟨⟨⟨h1, h2⟩, h3⟩, h4⟩, h5⟩ := h
      obtain ⟨p1, p2⟩ := ok_Es F hF es c tk h5
      have hi : (M.P.ini cc).isSome = true := by
        cases e : M.P.ini cc with
        | none => rw [e] at h4; cases h4
        | some _ => rfl
      exact .pl (ru_make F c tk hF h3 h1 h2 p2 hi p1 (mEs_nil' h5)) rfl fun ρ S => by rw [evE]; try rfl
    · cases h
  | .isin a single ts, X, W0, sc, x, c, tk, h => by
    unfold mE at h
    split at h
    · simp only [Bool.and_eq_true, decide_eq_true_eq] at h
      obtain ⟨⟨⟨⟨⟨h1, rfl⟩, h3⟩, h4⟩, h5⟩, h6⟩ := h
      have p := (ok_E F hF a c tk h5).1
      split at h6
      · exact .pl (ru_isin1 F c h1 h3 h4 p h6) rfl fun ρ S => by rw [evE]
      · rename_i l k p2
        rw [Bool.and_eq_true, decide_eq_true_eq] at h6
        exact .pl (ru_isinT F c h1 h3 h6.1 p h6.2) rfl fun ρ S => by rw [evE]
      · cases h6
    · cases h
  | .lrange a b, X, W0, sc, x, c, tk, h => by
    unfold mE at h
    split at h
    · simp only [Bool.and_eq_true, decide_eq_true_eq] at h
      obtain ⟨⟨⟨⟨⟨⟨⟨h1, rfl⟩, h3⟩, rfl⟩, h5⟩, h6⟩, h7⟩, h8⟩ := h
      obtain ⟨p1, p2⟩ := ok_Es F hF b c tk h7
      exact .pl (ru_lrange F c h1 h3 (by rw [List.all_cons, h5, p2]; rfl) (ru_acons h5 (ok_E F hF a c tk h6).1 p1)) rfl fun ρ S => by
        rw [evE, R.assoc]
        congr 1
        funext y S1
        rw [R.assoc]
        rfl
    · cases h
  | .items a, X, W0, sc, x, c, tk, h => by
    unfold mE at h
    split at h
    · simp only [Bool.and_eq_true, decide_eq_true_eq] at h
      obtain ⟨⟨⟨⟨⟨h1, rfl⟩, rfl⟩, h4⟩, h5⟩, h6⟩ := h
      exact .pl (ru_items F c h1 h5 h4 (ok_E F hF a c tk h6).1) rfl fun ρ S => by rw [evE]; try rfl
    · cases h
  | .dnew t, X, W0, sc, x, c, tk, h => by
    unfold mE at h
    split at h
    · exact .pl (ru_dnew (t := t)) rfl fun ρ S => by rw [evE]
    · cases h
  | .comp own tg it cond elt, X, W0, sc, x, c, tk, h => by
    unfold mE at h
    split at h
    · rename_i elt' tg' it' ifs scope pos
      simp only [Bool.and_eq_true] at h
      obtain ⟨⟨⟨⟨⟨h1, h2⟩, h3⟩, h4⟩, h5⟩, h6⟩ := h
      have ok := c.blkOk h6
      have nd : M.N.Nodup := by rw [← c.N]; exact c.nd
      have ok' : BlkOk M.N X.env.scope scope (ownOf M own) := by rw [← c.N]; exact ok
      exact .pl (ru_comp c ok (tg_own nd ok' h2) h5 (ok_It F hF it c tk h1) (fun s H C cl fp => ru_tg (c.blk s H scope cl C fp) h2)
        (fun s H C cl fp => ok_Conds F hF cond (c.blk s H scope cl C fp) (takes_blk s H scope _ fp) h3) fun s H C cl fp => (ok_E F hF elt (c.blk s H scope cl C fp) (takes_blk s H scope _ fp) h4).1) rfl fun ρ S => by rw [evE, own_map]; rfl
    · cases h
theorem ok_Es (F : Facts B T M fdom) (hF : ∀ f, fdom f = true → FnT B T M.P n f) : ∀ (es : Es) {X : Cx} {W0 : WX} {sc : Scope} {l : List Expr}, Cok B n M X sc → Takes X W0 → mEs M sc es l = true → PA X l (tA T W0 (evEs M.P (callN M.P n) [] es)) ∧ l.all notStar = true
  | .nil, X, W0, sc, l, c, tk, h => by
    cases l with
    | nil => exact ⟨PA.cg ru_anil fun ρ S => by rw [evEs], rfl⟩
    | cons a l => simp [mEs] at h
  | .cons e es, X, W0, sc, l, c, tk, h => by
    cases l with
    | nil => simp [mEs] at h
    | cons a l =>
      simp only [mEs, Bool.and_eq_true] at h
      obtain ⟨p1, p2⟩ := ok_Es F hF es c tk h.2
      exact ⟨PA.cg (ru_acons h.1.1 (ok_E F hF e c tk h.1.2).1 p1) fun ρ S => by rw [evEs], by rw [List.all_cons, h.1.1, p2]; rfl⟩
theorem ok_And (F : Facts B T M fdom) (hF : ∀ f, fdom f = true → FnT B T M.P n f) : ∀ (es : Es) {X : Cx} {W0 : WX} {sc : Scope} {l : List Expr} {pos : Pos}, Cok B n M X sc → Takes X W0 → mEs M sc es l = true →
    PE X (.BoolOp .And l pos) (tE T W0 (evAnd M.P (callN M.P n) [] es)) ∧ PW X (.BoolOp .And l pos) (tTs T W0 fun ρ S => tst (evAnd M.P (callN M.P n) [] es ρ S))
  | .nil, X, W0, sc, l, pos, c, tk, h => ⟨⟨fun pins s σ H Q I ⟨m, ρ, S, ss, sl, q⟩ => by rw [evAnd] at q; exact q.elim⟩, ⟨fun wh pins s σ H Q I ⟨m, ρ, S, ss, sl, q⟩ => by simp only [evAnd] at q; exact q.elim⟩⟩
  | .cons e .nil, X, W0, sc, l, pos, c, tk, h => by
    match l, h with
    | [], h => simp [mEs] at h
    | [a], h =>
      simp only [mEs, Bool.and_eq_true] at h
      have p := ok_E F hF e c tk h.1.2
      have e1 : evAnd M.P (callN M.P n) [] (.cons e .nil) = evE M.P (callN M.P n) [] e := by funext ρ S; rw [evAnd]
      rw [e1]
      exact ⟨pe_one p.1, pw_and1 p.2⟩
    | _ :: _ :: _, h => simp [mEs] at h
  | .cons e (.cons e2 es), X, W0, sc, l, pos, c, tk, h => by
    match l, h with
    | [], h => simp [mEs] at h
    | [a], h => simp [mEs] at h
    | a :: b :: l, h =>
      have h' : mEs M sc (.cons e2 es) (b :: l) = true := by
        rw [mEs, Bool.and_eq_true, Bool.and_eq_true] at h
        exact h.2
      have h1 : mE M sc e a = true := by
        rw [mEs, Bool.and_eq_true, Bool.and_eq_true] at h
        exact h.1.2
      have p := ok_E F hF e c tk h1
      have q := ok_And F hF (.cons e2 es) (pos := pos) c tk h'
      have e1 : evAnd M.P (callN M.P n) [] (.cons e (.cons e2 es)) = fun ρ S => (evE M.P (callN M.P n) [] e ρ S).bind fun x S1 => match truth S1 x with
          | some true => evAnd M.P (callN M.P n) [] (.cons e2 es) ρ S1
          | some false => .ok x S1
          | none => .bad := by funext ρ S; rw [evAnd] <;> first | rfl | simp
      rw [e1]
      exact ru_and p.1 p.2 q.1 q.2
theorem ok_Or (F : Facts B T M fdom) (hF : ∀ f, fdom f = true → FnT B T M.P n f) : ∀ (es : Es) {X : Cx} {W0 : WX} {sc : Scope} {l : List Expr} {pos : Pos}, Cok B n M X sc → Takes X W0 → mEs M sc es l = true →
    PE X (.BoolOp .Or l pos) (tE T W0 (evOr M.P (callN M.P n) [] es)) ∧ PW X (.BoolOp .Or l pos) (tTs T W0 fun ρ S => tst (evOr M.P (callN M.P n) [] es ρ S))
  | .nil, X, W0, sc, l, pos, c, tk, h => ⟨⟨fun pins s σ H Q I ⟨m, ρ, S, ss, sl, q⟩ => by rw [evOr] at q; exact q.elim⟩, ⟨fun wh pins s σ H Q I ⟨m, ρ, S, ss, sl, q⟩ => by simp only [evOr] at q; exact q.elim⟩⟩
  | .cons e .nil, X, W0, sc, l, pos, c, tk, h => by
    match l, h with
    | [], h => simp [mEs] at h
    | [a], h =>
      simp only [mEs, Bool.and_eq_true] at h
      have p := ok_E F hF e c tk h.1.2
      have e1 : evOr M.P (callN M.P n) [] (.cons e .nil) = evE M.P (callN M.P n) [] e := by funext ρ S; rw [evOr]
      rw [e1]
      exact ⟨pe_one p.1, pw_or1 p.2⟩
    | _ :: _ :: _, h => simp [mEs] at h
  | .cons e (.cons e2 es), X, W0, sc, l, pos, c, tk, h => by
    match l, h with
    | [], h => simp [mEs] at h
    | [a], h => simp [mEs] at h
    | a :: b :: l, h =>
      have h' : mEs M sc (.cons e2 es) (b :: l) = true := by
        rw [mEs, Bool.and_eq_true, Bool.and_eq_true] at h
        exact h.2
      have h1 : mE M sc e a = true := by
        rw [mEs, Bool.and_eq_true, Bool.and_eq_true] at h
        exact h.1.2
      have p := ok_E F hF e c tk h1
      have q := ok_Or F hF (.cons e2 es) (pos := pos) c tk h'
      have e1 : evOr M.P (callN M.P n) [] (.cons e (.cons e2 es)) = fun ρ S => (evE M.P (callN M.P n) [] e ρ S).bind fun x S1 => match truth S1 x with
          | some true => .ok x S1
          | some false => evOr M.P (callN M.P n) [] (.cons e2 es) ρ S1
          | none => .bad := by funext ρ S; rw [evOr] <;> first | rfl | simp
      rw [e1]
      exact ru_or p.1 p.2 q.1 q.2
theorem ok_Part (F : Facts B T M fdom) (hF : ∀ f, fdom f = true → FnT B T M.P n f) : ∀ (es : Es) {X : Cx} {W0 : WX} {sc : Scope} {o : Option Expr}, Cok B n M X sc → Takes X W0 → mPart M sc es o = true → PO X o (tPt T W0 (evPart M.P (callN M.P n) [] es))
  | .nil, X, W0, sc, o, c, tk, h => by
    cases o with
    | none =>
      have e1 : evPart M.P (callN M.P n) [] .nil = fun _ S => .ok none S := by funext ρ S; rw [evPart]
      rw [e1]; exact ru_none
    | some a => simp [mPart, isNone1] at h
  | .cons e .nil, X, W0, sc, o, c, tk, h => by
    cases o with
    | none => simp [mPart] at h
    | some a =>
      simp only [mPart] at h
      have e1 : evPart M.P (callN M.P n) [] (.cons e .nil) = fun ρ S => (evE M.P (callN M.P n) [] e ρ S).bind fun x S1 => match x with
        | .int i => .ok (some i) S1
        | _ => .bad := by funext ρ S; rw [evPart]; try rfl
      rw [e1]; exact ru_some (ok_E F hF e c tk h).1
  | .cons _ (.cons _ _), X, W0, sc, o, c, tk, h => by simp [mPart] at h
theorem ok_Conds (F : Facts B T M fdom) (hF : ∀ f, fdom f = true → FnT B T M.P n f) : ∀ (es : Es) {X : Cx} {W0 : WX} {sc : Scope} {l : List Expr}, Cok B n M X sc → Takes X W0 → mConds M sc es l = true → PTs X l (tTs T W0 (evConds M.P (callN M.P n) [] es))
  | .nil, X, W0, sc, l, c, tk, h => by
    cases l with
    | nil =>
      refine ⟨fun pins s σ H Q I ⟨m, ρ, S, ss, sl, q⟩ => pts_nil.run pins s σ H Q I ?_⟩
      rw [evConds] at q
      exact q m H true Grow.refl ss rfl
    | cons a l => simp [mConds] at h
  | .cons e .nil, X, W0, sc, l, c, tk, h => by
    match l, h with
    | [], h => simp [mConds] at h
    | [a], h =>
      simp only [mConds] at h
      have e1 : evConds M.P (callN M.P n) [] (.cons e .nil) = fun ρ S => tst (evE M.P (callN M.P n) [] e ρ S) := by funext ρ S; rw [evConds]
      rw [e1]
      exact pts_one (ok_E F hF e c tk h).2
    | _ :: _ :: _, h => simp [mConds] at h
  | .cons _ (.cons _ _), X, W0, sc, l, c, tk, h => by simp [mConds] at h
theorem ok_It (F : Facts B T M fdom) (hF : ∀ f, fdom f = true → FnT B T M.P n f) : ∀ (it : It) {X : Cx} {W0 : WX} {sc : Scope} {tgE x : Expr}, Cok B n M X sc → Takes X W0 → mIt M sc (tupTg tgE) it x = true → PI X tgE x (tI T W0 (evIt M.P (callN M.P n) [] it))
  | .seq e, X, W0, sc, tgE, x, c, tk, h => by
    rw [mIt] at h
    exact PI.cg (ru_seq (ok_E F hF e c tk h).1) fun ρ S => by rw [evIt]
  | .range es, X, W0, sc, tgE, x, c, tk, h => by
    unfold mIt at h
    split at h
    · rename_i y p l pos
      simp only [Bool.and_eq_true, decide_eq_true_eq] at h
      obtain ⟨⟨⟨⟨h1, rfl⟩, h3⟩, h4⟩, h5⟩ := h
      obtain ⟨p1, p2⟩ := ok_Es F hF es c tk h3
      cases l with
      | nil => exact absurd h4 (by simp)
      | cons a l => exact PI.cg (ru_range F c h1 p2 p1) fun ρ S => by rw [evIt]
    · cases h
  | .enum e, X, W0, sc, tgE, x, c, tk, h => by
    unfold mIt at h
    split at h
    · simp only [Bool.and_eq_true, decide_eq_true_eq] at h
      obtain ⟨⟨⟨⟨h1, h2⟩, rfl⟩, h4⟩, h5⟩ := h
      cases tgE with
      | Tuple l k p => exact PI.cg (ru_enum F c h2 h4 (ok_E F hF e c tk h5).1) fun ρ S => by rw [evIt]; try rfl
      | _ => cases h1
    · cases h
  | .zip a b, X, W0, sc, tgE, x, c, tk, h => by
    unfold mIt at h
    split at h
    · simp only [Bool.and_eq_true, decide_eq_true_eq] at h
      obtain ⟨⟨⟨⟨⟨⟨h1, h2⟩, rfl⟩, h4⟩, h5⟩, h6⟩, h7⟩ := h
      cases tgE with
      | Tuple l k p => exact PI.cg (ru_zip F c h2 h4 h5 (ok_E F hF a c tk h6).1 (ok_E F hF b c tk h7).1) fun ρ S => by rw [evIt]; try rfl
      | _ => cases h1
    · cases h
  | .rev e, X, W0, sc, tgE, x, c, tk, h => by
    unfold mIt at h
    split at h
    · simp only [Bool.and_eq_true, decide_eq_true_eq] at h
      obtain ⟨⟨⟨h1, rfl⟩, h3⟩, h4⟩ := h
      exact PI.cg (ru_revI F c h1 h3 (ok_E F hF e c tk h4).1) fun ρ S => by rw [evIt]; try rfl
    · cases h
  | .revR es, X, W0, sc, tgE, x, c, tk, h => by
    unfold mIt at h
    split at h
    · rename_i y p z p2 l pos2 pos
      simp only [Bool.and_eq_true, decide_eq_true_eq] at h
      obtain ⟨⟨⟨⟨⟨⟨h1, rfl⟩, h3⟩, rfl⟩, h5⟩, h6⟩, h7⟩ := h
      obtain ⟨p1, p2⟩ := ok_Es F hF es c tk h5
      cases l with
      | nil => exact absurd h6 (by simp)
      | cons a l => exact PI.cg (ru_revR F c h1 h3 p2 p1) fun ρ S => by rw [evIt]
    · cases h
end
end
end Mp
end
section
set_option Elab.async false
set_option linter.all false
set_option maxRecDepth 100000
set_option maxHeartbeats 4000000
/-! Statements. -/
namespace Mp
open PySem PySem.Spec PyProof.Rows L2 L2.DX RZ RT
/-! ### the matcher -/
def notTup : Expr → Bool
  | .Tuple _ _ _ => false
  | .List _ _ => false
  | _ => true
/-- the value isn't kept back for the name: no comprehension, or not for this name -/
def noSwap (sc : Scope) (tg v : Expr) : Bool := notComp v || (match tg with
  | .Name y py => match v with
    | .ListComp _ _ scope vpos => decide (sc.names.lookup y = some .cell) || !(py.line == vpos.line) || (scope.names.any fun (n, k) => n == y && (k == .local || k == .cell))
    | _ => false
  | _ => true)
def swapC (sc : Scope) (tg v : Expr) : Bool := match tg, v with
  | .Name y py, .ListComp _ _ scope vpos => decide (sc.names.lookup y = some .local) && (py.line == vpos.line) && !(scope.names.any fun (n, k) => n == y && (k == .local || k == .cell))
  | _, _ => false
def storesOk (tg v : Expr) : Bool := notTup tg || notTup v || (match v with
  | .Tuple vs _ _ => vs.all (foldedForSure 8)
  | _ => false)
def lineOf : Expr → Nat := fun e => e.pos.line
mutual
def mS (M : MEnv) (sc : Scope) : St → Stmt → Bool
  | .any, _ => true
  | .asg t e, s => match s with
    | .Assign [tg] v _ => mT M sc t tg && mE M sc e v && storesOk tg v && (noSwap sc tg v || swapC sc tg v)
    | _ => false
  | .par i j a b, s => match s with
    | .Assign [.Tuple [.Name x px, .Name y py] _ _] (.Tuple [a', b'] _ _) _ => decide (M.N[i]? = some x) && decide (M.N[j]? = some y) && decide (i ≠ j) && decide (sc.names.lookup x = some .local) && decide (sc.names.lookup y = some .local) && (px.line == py.line) &&
      notStar a' && notStar b' && !([a', b'].all (foldedForSure 8)) && !([a', b'].all (constantsAlone 8)) && mE M sc a a' && mE M sc b b'
    | _ => false
  | .setS o i e, s => match s with
    | .Assign [.Subscript o' i' _] v _ => plainI i' && mE M sc e v && mE M sc o o' && mE M sc i i'
    | _ => false
  | .fld o f e, s => match s with
    | .Assign [.Attribute o' x _] v _ => decide (M.nms.lookup x = some f) && mE M sc e v && mE M sc o o'
    | _ => false
  | .aug i op e, s => match s with
    | .AugAssign (.Name x _) o v _ => decide (o = op.op) && decide (M.N[i]? = some x) && locB sc x && mE M sc e v
    | _ => false
  | .augS o i op e, s => match s with
    | .AugAssign (.Subscript o' i' _) k v _ => decide (k = op.op) && plainI i' && mE M sc o o' && mE M sc i i' && mE M sc e v
    | _ => false
  | .augF o f op e, s => match s with
    | .AugAssign (.Attribute o' x _) k v _ => decide (k = op.op) && decide (M.nms.lookup x = some f) && mE M sc o o' && mE M sc e v
    | _ => false
  | .expr e, s => match s with
    | .Expr v _ => notComp v && mE M sc e v
    | _ => false
  | .ret e, s => match s with
    | .Return (some v) _ => mE M sc e v
    | _ => false
  | .retN, s => match s with
    | .Return none _ => true
    | _ => false
  | .ifS t a b, s => match s with
    | .If t' a' b' _ => mE M sc t t' && mB M sc a a' && mB M sc b b'
    | _ => false
  | .forS t it body, s => match s with
    | .For tg it' b' [] _ => notSet it' && mT M sc t tg && mIt M sc (tupTg tg) it it' && mB M sc body b'
    | _ => false
  | .whileS t body, s => match s with
    | .While t' b' [] _ => mE M sc t t' && mB M sc body b'
    | _ => false
  | .pass, s => match s with
    | .Pass _ => true
    | .Expr (.Constant (.str _) _ _) _ => true
    | _ => false
  | .brk, s => match s with
    | .Break _ => true
    | _ => false
  | .cont, s => match s with
    | .Continue _ => true
    | _ => false
  | .raise _ _, _ => false
def mB (M : MEnv) (sc : Scope) : B → List Stmt → Bool
  | .nil, l => l.isEmpty
  | .cons s b, l => match l with
    | s' :: l' => mS M sc s s' && mB M sc b l'
    | [] => false
end
/-! ### readings -/
def PostS (T : Tb) (W0 : WX) (m : List Addr) (H : Hp) (D : Ends) : RS → Prop
  | .nx ρ S => ∀ m' H' σ', Grow m H m' H' → SimS T m' S H' → SimL m' H' ρ σ' → D.nx σ' H'
  | .rt w S => ∀ m' H' v, Grow m H m' H' → SimS T m' S H' → RepV m' H' w v → D.rt v H'
  | .bk ρ S => ∀ m' H' σ', Grow m H m' H' → SimS T m' S H' → SimL m' H' ρ σ' → D.bk σ' H'
  | .ct ρ S => ∀ m' H' σ', Grow m H m' H' → SimS T m' S H' → SimL m' H' ρ σ' → D.ct σ' H'
  | .exn c fs ρ S => ∀ m' H' cls d σ', Grow m H m' H' → SimS T m' S H' → SimL m' H' ρ σ' → RepX T m' H' c fs cls d → W0 cls d σ' H'
  | .bad => False
def tS (T : Tb) (W0 : WX) (ex : Rho → Store → RS) : TS := fun D σ H => ∃ (m : List Addr) (ρ : Rho) (S : Store), SimS T m S H ∧ SimL m H ρ σ ∧ PostS T W0 m H D (ex ρ S)
theorem PS.imp {X : Cx} {e : Stmt} {t t' : TS} (h : PS X e t) (i : ∀ D σ H, t' D σ H → t D σ H) : PS X e t' := ⟨fun pins s σ H D I q => h.run pins s σ H D I (i D σ H q)⟩
theorem PSs.imp {X : Cx} {e : List Stmt} {t t' : TS} (h : PSs X e t) (i : ∀ D σ H, t' D σ H → t D σ H) : PSs X e t' := ⟨fun pins s σ H D I q => h.run pins s σ H D I (i D σ H q)⟩
section
variable {T : Tb} {W0 : WX} {X : Cx} {B : Bs} {n : Nat} {M : MEnv} {sc : Scope} {fdom : Nat → Bool}
section
variable {m m' : List Addr} {H H' : Hp} {S : Store} {ρ : Rho} {σ : L2.St} {D : Ends}
theorem PostS.later {r : RS} (g : Grow m H m' H') (h : PostS T W0 m H D r) : PostS T W0 m' H' D r := by
  cases r with
  | nx ρ S => exact fun m5 H5 v5 g5 s5 r5 => h m5 H5 v5 (g.trans g5) s5 r5
  | rt ρ S => exact fun m5 H5 v5 g5 s5 r5 => h m5 H5 v5 (g.trans g5) s5 r5
  | bk ρ S => exact fun m5 H5 v5 g5 s5 r5 => h m5 H5 v5 (g.trans g5) s5 r5
  | ct ρ S => exact fun m5 H5 v5 g5 s5 r5 => h m5 H5 v5 (g.trans g5) s5 r5
  | exn c f ρ S => exact fun m5 H5 c5 v5 d5 g5 s5 r5 => h m5 H5 c5 v5 d5 (g.trans g5) s5 r5
  | bad => exact h
theorem stR {α β : Type} {rel : List Addr → Hp → α → β → Prop} {r : R α} {f : α → Store → RS} (ss : SimS T m S H) (sl : SimL m H ρ σ) (h : PostS T W0 m H D (r.st ρ f)) :
    PostR T rel m H (fun c d H' => W0 c d σ H') (fun v H1 => ∃ m1 w S1, Grow m H m1 H1 ∧ SimS T m1 S1 H1 ∧ SimL m1 H1 ρ σ ∧ rel m1 H1 w v ∧ PostS T W0 m1 H1 D (f w S1)) r := by
  cases r with
  | ok w S1 => exact fun m1 H1 v g s rv => ⟨m1, w, S1, g, s, sl.grow ss g, rv, PostS.later g h⟩
  | exn c fs S1 => exact fun m1 H1 cls d g s rv => h m1 H1 cls d σ g s (sl.grow ss g) rv
  | bad => exact h
theorem stB {ev : Rho → Store → R W} {f : W → Store → RS} (ss : SimS T m S H) (sl : SimL m H ρ σ) (h : PostS T W0 m H D ((ev ρ S).st ρ f)) :
    tE T W0 ev σ H fun v H1 => ∃ m1 w S1, Grow m H m1 H1 ∧ SimS T m1 S1 H1 ∧ SimL m1 H1 ρ σ ∧ RepV m1 H1 w v ∧ PostS T W0 m1 H1 D (f w S1) := ⟨m, ρ, S, ss, sl, stR ss sl h⟩
theorem stT {ev : Rho → Store → R Bool} {f : Bool → Store → RS} (ss : SimS T m S H) (sl : SimL m H ρ σ) (h : PostS T W0 m H D ((ev ρ S).st ρ f)) :
    tTs T W0 ev σ H fun b H1 => ∃ m1 S1, Grow m H m1 H1 ∧ SimS T m1 S1 H1 ∧ SimL m1 H1 ρ σ ∧ PostS T W0 m1 H1 D (f b S1) := ⟨m, ρ, S, ss, sl, PostR.mono (stR (rel := RelB) ss sl h) fun v H1 ⟨m1, w, S1, g, s, l, rv, q⟩ => by
      obtain rfl : w = v := rv
      exact ⟨m1, S1, g, s, l, q⟩⟩
theorem PostS.then {r : RS} {f : Rho → Store → RS} (h : PostS T W0 m H D (r.then f)) : PostS T W0 m H { D with nx := fun σ1 H1 => ∃ m1 ρ1 S1, SimS T m1 S1 H1 ∧ SimL m1 H1 ρ1 σ1 ∧ PostS T W0 m1 H1 D (f ρ1 S1) } r := by
  cases r with
  | nx ρ S => exact fun m1 H1 σ1 g s l => ⟨m1, ρ, S, s, l, PostS.later g h⟩
  | rt w S => exact h
  | bk ρ S => exact h
  | ct ρ S => exact h
  | exn c f ρ S => exact h
  | bad => exact h
end
theorem ru_any {s : Stmt} : PS X s (tS T W0 fun _ _ => .bad) := ⟨fun pins s σ H D I ⟨m, ρ, S, ss, sl, h⟩ => h.elim⟩
theorem ru_pass {s : Stmt} (h : PS X s tNext) : PS X s (tS T W0 fun ρ S => .nx ρ S) := PS.imp h fun D σ H ⟨m, ρ, S, ss, sl, h⟩ => h m H σ Grow.refl ss sl
theorem ru_brk {pos : Pos} : PS X (.Break pos) (tS T W0 fun ρ S => .bk ρ S) := PS.imp ps_break fun D σ H ⟨m, ρ, S, ss, sl, h⟩ => h m H σ Grow.refl ss sl
theorem ru_cont {pos : Pos} : PS X (.Continue pos) (tS T W0 fun ρ S => .ct ρ S) := PS.imp ps_continue fun D σ H ⟨m, ρ, S, ss, sl, h⟩ => h m H σ Grow.refl ss sl
theorem ru_retN {pos : Pos} : PS X (.Return none pos) (tS T W0 fun ρ S => .rt .non S) := PS.imp ps_retN fun D σ H ⟨m, ρ, S, ss, sl, h⟩ => h m H .non Grow.refl ss rfl
theorem ru_ret {e : Expr} {pos : Pos} {ev : Rho → Store → R W} (he : PE X e (tE T W0 ev)) : PS X (.Return (some e) pos) (tS T W0 fun ρ S => (ev ρ S).st ρ fun w S1 => .rt w S1) := by
  refine PS.imp (ps_ret he) fun D σ H ⟨m, ρ, S, ss, sl, h⟩ => ?_
  obtain ⟨m', ρ', S', s1, s2, h1⟩ := stB (ev := ev) ss sl h
  exact ⟨m', ρ', S', s1, s2, PostR.mono h1 fun v H1 ⟨m1, x, S1, g1, ss1, sl1, r1, q1⟩ => q1 m1 H1 v Grow.refl ss1 r1⟩
theorem swaps_none {v : Expr} {t : Option Expr} {l : Nat} {env : Env} (h : notComp v = true) : swapsWith v t l env = pure false := by
  unfold swapsWith
  cases v <;> first | rfl | cases h
theorem ru_expr {e : Expr} {pos : Pos} {ev : Rho → Store → R W} (hc : notComp e = true) (he : PE X e (tE T W0 ev)) : PS X (.Expr e pos) (tS T W0 fun ρ S => (ev ρ S).st ρ fun _ S1 => .nx ρ S1) := by
  refine PS.imp (ps_expr he (swaps_none hc)) fun D σ H ⟨m, ρ, S, ss, sl, h⟩ => ?_
  obtain ⟨m', ρ', S', s1, s2, h1⟩ := stB (ev := ev) ss sl h
  exact ⟨m', ρ', S', s1, s2, PostR.mono h1 fun v H1 ⟨m1, x, S1, g1, ss1, sl1, r1, q1⟩ => q1 m1 H1 σ Grow.refl ss1 sl1⟩
theorem ru_ifS {c : Expr} {a b : List Stmt} {pos : Pos} {ec : Rho → Store → R Bool} {ea eb : Rho → Store → RS} (hc : PT X c (tTs T W0 ec)) (ha : PSs X a (tS T W0 ea)) (hb : PSs X b (tS T W0 eb)) :
    PS X (.If c a b pos) (tS T W0 fun ρ S => (ec ρ S).st ρ fun k S1 => if k then ea ρ S1 else eb ρ S1) := by
  refine PS.imp (ps_if hc ha hb) fun D σ H ⟨m, ρ, S, ss, sl, h⟩ => ?_
  obtain ⟨m', ρ', S', s1, s2, h1⟩ := stT (ev := ec) ss sl h
  refine ⟨m', ρ', S', s1, s2, PostR.mono h1 fun k H1 ⟨m1, S1, g1, ss1, sl1, q1⟩ => ?_⟩
  cases k with
  | true => exact ⟨m1, ρ, S1, ss1, sl1, q1⟩
  | false => exact ⟨m1, ρ, S1, ss1, sl1, q1⟩
theorem ru_nil : PSs X [] (tS T W0 fun ρ S => .nx ρ S) := PSs.imp pss_nil fun D σ H ⟨m, ρ, S, ss, sl, h⟩ => h m H σ Grow.refl ss sl
theorem ru_cons {s : Stmt} {b : List Stmt} {es eb : Rho → Store → RS} (hs : PS X s (tS T W0 es)) (hb : PSs X b (tS T W0 eb)) : PSs X (s :: b) (tS T W0 fun ρ S => (es ρ S).then eb) := by
  refine PSs.imp (pss_cons hs hb) fun D σ H ⟨m, ρ, S, ss, sl, h⟩ => ?_
  exact ⟨m, ρ, S, ss, sl, PostS.then h⟩
/-! ### loops -/
theorem ru_while {c : Expr} {b : List Stmt} {pos : Pos} {ec : Rho → Store → R Bool} {eb : Rho → Store → RS} (hp : PassesOwn (model X.prog X.w) X.A X.env X.xe) (hc : PT X c (tTs T W0 ec)) (hb : PSs X b (tS T W0 eb)) :
    PS X (.While c b [] pos) (tS T W0 fun ρ S => whileL ec eb wfuel ρ S) := by
  refine PS.imp (ps_while hp hc hb) fun D σ H ⟨m, ρ, S, ss, sl, h⟩ => ?_
  refine ⟨fun k σ H => ∃ (m : List Addr) (ρ : Rho) (S : Store), SimS T m S H ∧ SimL m H ρ σ ∧ PostS T W0 m H D (whileL ec eb k ρ S), ⟨wfuel, m, ρ, S, ss, sl, h⟩, ?_⟩
  rintro k σ1 H1 ⟨m1, ρ1, S1, ss1, sl1, h1⟩
  cases k with
  | zero => exact h1.elim
  | succ k =>
    rw [whileL] at h1
    obtain ⟨m', ρ', S', s1, s2, h2⟩ := stT (ev := ec) ss1 sl1 h1
    refine ⟨m', ρ', S', s1, s2, PostR.mono h2 fun b H2 ⟨m2, S2, g2, ss2, sl2, q2⟩ => ?_⟩
    cases b with
    | false =>
      rw [if_neg (by decide)]
      exact q2 m2 H2 σ1 Grow.refl ss2 sl2
    | true =>
      rw [if_pos rfl]
      rw [if_pos rfl] at q2
      refine ⟨fun σ' H' => ∃ (m : List Addr) (ρ : Rho) (S : Store), SimS T m S H' ∧ SimL m H' ρ σ' ∧ PostS T W0 m H' D (whileL ec eb k ρ S), fun σ' H' q => ⟨k, Nat.lt_succ_self k, q⟩, m2, ρ1, S2, ss2, sl2, ?_⟩
      cases e : eb ρ1 S2 with
      | nx ρ3 S3 => rw [e] at q2; exact fun m3 H3 σ3 g s l => ⟨m3, ρ3, S3, s, l, PostS.later g q2⟩
      | ct ρ3 S3 => rw [e] at q2; exact fun m3 H3 σ3 g s l => ⟨m3, ρ3, S3, s, l, PostS.later g q2⟩
      | bk ρ3 S3 => rw [e] at q2; exact q2
      | rt w S3 => rw [e] at q2; exact q2
      | exn c f ρ3 S3 => rw [e] at q2; exact q2
      | bad => rw [e] at q2; exact q2
def forF (tg : Tg) (eb : Rho → Store → RS) (w : W) (ρ : Rho) (S : Store) : RS := match bindT tg w ρ with
    | some ρ' => eb ρ' S
    | none => .bad
theorem ru_for (c : Cok B n M X sc) {tg : Tg} {tgE it : Expr} {b : List Stmt} {pos : Pos} {ei : Rho → Store → R Src} {eb : Rho → Store → RS} (hp : PassesOwn (model X.prog X.w) X.A X.env X.xe) (hset : notSet it = true) (hi : PI X tgE it (tI T W0 ei)) (hg : PG X tgE (tG T tg)) (hb : PSs X b (tS T W0 eb)) :
    PS X (.For tgE it b [] pos) (tS T W0 fun ρ S => (ei ρ S).st ρ fun src S1 => forL src.1 (forF tg eb) src.2 ρ S1) := by
  refine PS.imp (ps_for hp c.calm hi hg hb (fold_set hset)) fun D σ H ⟨m, ρ, S, ss, sl, h⟩ => ?_
  refine ⟨m, ρ, S, ss, sl, PostR.mono (stR (rel := Walk T) ss sl h) fun J H1 ⟨m1, src, S1, g1, ss1, sl1, wk, q1⟩ => ?_⟩
  obtain ⟨gs, its⟩ := src
  simp only [] at q1
  refine ⟨fun i k σ H => k = its.length - i ∧ i ≤ its.length ∧ ∃ (m : List Addr) (ρ : Rho) (S : Store), Grow m1 H1 m H ∧ SimS T m S H ∧ SimL m H ρ σ ∧ PostS T W0 m H D (forL gs (forF tg eb) (its.drop i) ρ S),
    ⟨its.length, by simp, Nat.zero_le _, m1, ρ, S1, Grow.refl, ss1, sl1, q1⟩, ?_⟩
  rintro i k σ2 H2 ⟨rfl, hi, m2, ρ2, S2, g2, ss2, sl2, q2⟩
  by_cases hlt : i < its.length
  · have hdrop : its.drop i = its[i] :: its.drop (i + 1) := by rw [List.drop_eq_getElem_cons hlt]
    have hw : its[i]? = some its[i] := by simp [hlt]
    rw [hdrop, forL] at q2
    by_cases hst : stands gs S2
    · rw [if_pos hst] at q2
      obtain ⟨go, yld⟩ := (wk m2 H2 S2 g2 ss2 hst i).1 _ hw
      refine .inr ⟨go, fun σ' H' => i + 1 ≤ its.length ∧ ∃ (m : List Addr) (ρ : Rho) (S : Store), Grow m1 H1 m H' ∧ SimS T m S H' ∧ SimL m H' ρ σ' ∧ PostS T W0 m H' D (forL gs (forF tg eb) (its.drop (i + 1)) ρ S),
        fun σ' H' ⟨h1, h2⟩ => ⟨its.length - (i + 1), by omega, rfl, h1, h2⟩, fun x H3 hy => ?_⟩
      obtain ⟨g3, ss3, r3⟩ := yld x H3 hy
      have q3 := PostS.later g3 q2
      have sl3 := sl2.grow ss2 g3
      unfold forF at q3
      cases eb1 : bindT tg its[i] ρ2 with
      | none => simp only [eb1] at q3; exact q3.elim
      | some ρ' =>
        simp only [eb1] at q3
        refine ⟨m2, ρ2, S2, its[i], ρ', ss3, sl3, r3, eb1, fun σ4 l4 o4 => ⟨m2, ρ', S2, ss3, l4, ?_⟩⟩
        have g23 := g2.trans g3
        cases e : eb ρ' S2 with
        | nx ρ5 S5 => rw [e] at q3; exact fun m5 H5 σ5 g s l => ⟨hlt, m5, ρ5, S5, g23.trans g, s, l, PostS.later g q3⟩
        | ct ρ5 S5 => rw [e] at q3; exact fun m5 H5 σ5 g s l => ⟨hlt, m5, ρ5, S5, g23.trans g, s, l, PostS.later g q3⟩
        | bk ρ3 S3 => rw [e] at q3; exact q3
        | rt w S3 => rw [e] at q3; exact q3
        | exn c f ρ3 S3 => rw [e] at q3; exact q3
        | bad => rw [e] at q3; exact q3
    · rw [if_neg hst] at q2; exact q2.elim
  · have hn : its.drop i = [] := List.drop_eq_nil_of_le (by omega)
    rw [hn, forL] at q2
    by_cases hst : stands gs S2
    · rw [if_pos hst] at q2
      exact .inl ⟨(wk m2 H2 S2 g2 ss2 hst i).2 (by show its.length ≤ i; omega), q2 m2 H2 σ2 Grow.refl ss2 sl2⟩
    · rw [if_neg hst] at q2; exact q2.elim
end
end Mp
end
section
set_option Elab.async false
set_option linter.all false
set_option maxRecDepth 100000
set_option maxHeartbeats 4000000
/-! Stores. -/
namespace Mp
open PySem PySem.Spec PyProof.Rows L2 L2.DX RZ RT
section
variable {T : Tb} {W0 : WX} {X : Cx} {B : Bs} {n : Nat} {M : MEnv} {sc : Scope} {fdom : Nat → Bool}
theorem stores_none {tg v : Expr} {env : Env} (h : storesOk tg v = true) : swappedStores [tg] v env = pure none := by
  unfold swappedStores
  unfold storesOk at h
  rw [Bool.or_eq_true, Bool.or_eq_true] at h
  rcases h with (h | h) | h
  · cases tg <;> first | (cases v <;> rfl) | cases h
  · cases v <;> first | (cases tg <;> rfl) | cases h
  · cases v with
    | Tuple vs k p =>
      simp only at h
      cases tg with
      | Tuple ts k2 p2 => 
        simp only [h, if_true]
        split
        · rfl
        · split
          · rfl
          · split <;> rfl
      | List ts p2 => 
        simp only [h, if_true]
        split
        · rfl
        · split
          · rfl
          · split <;> rfl
      | _ => rfl
    | _ => cases h
theorem swaps_no (c : Cok B n M X sc) {tg v : Expr} {l : Nat} {t : Tg} (hk : X.env.scope.kind = .function) (ht : mT M sc t tg = true) (h : noSwap sc tg v = true) : swapsWithSole [tg] v l X.env = pure false := by
  show swapsWith v (some tg) l X.env = pure false
  unfold noSwap at h
  rw [Bool.or_eq_true] at h
  rcases h with h | h
  · exact swaps_none h
  · cases tg with
    | Name y py =>
      cases v with
      | ListComp elt gs scope vpos =>
        simp only [Bool.or_eq_true, decide_eq_true_eq] at h
        unfold swapsWith
        have hb : X.env.blockKind = .function := by unfold Env.blockKind; rw [hk]; rfl
        have hky : X.env.kindOf y = X.env.scope.names.lookup y := rfl
        simp only [hb, Expr.pos]
        rcases h with (h | h) | h
        · have := (c.kd y _ h).1 (by decide)
          rw [hky, this]; rfl
        · simp only [Bool.not_eq_true'] at h
          rw [h]; simp
        · rw [h]; simp
      | _ => cases h
    | Tuple ts k p => unfold swapsWith; cases v <;> rfl
    | _ => cases t <;> simp [mT] at ht
theorem ru_asg (c : Cok B n M X sc) {t : Tg} {tg v : Expr} {pos : Pos} {ev : Rho → Store → R W} (ht : mT M sc t tg = true) (h1 : storesOk tg v = true) (h2 : noSwap sc tg v = true) (hv : PE X v (tE T W0 ev)) :
    PS X (.Assign [tg] v pos) (tS T W0 fun ρ S => (ev ρ S).st ρ fun w S1 => match bindT t w ρ with
    | some ρ' => .nx ρ' S1
    | none => .bad) := by
  have hst : (assignEach [tg] X.env).map (·.2) = [assign tg X.env] := by
    cases tg with
    | Name y p => rfl
    | Tuple ts k p => rfl
    | _ => cases t <;> simp [mT] at ht
  refine ⟨fun pins s σ H D I ⟨m, ρ, S, ss, sl, h⟩ => ?_⟩
  refine (ps_asg hv (ru_tg (T := T) c ht) (swaps_no c I.ok.kind ht h2) (stores_none h1) hst).run pins s σ H D I ?_
  obtain ⟨m', ρ', S', s1, s2, h1⟩ := stB (ev := ev) ss sl h
  refine ⟨m', ρ', S', s1, s2, PostR.mono h1 fun v H1 ⟨m1, x, S1, g1, ss1, sl1, r1, q1⟩ => ?_⟩
  cases e : bindT t x ρ with
  | none => rw [e] at q1; exact q1.elim
  | some ρ1 =>
    rw [e] at q1
    exact ⟨m1, ρ, S1, x, ρ1, ss1, sl1, r1, e, fun σ' l' _ => q1 m1 H1 σ' Grow.refl ss1 l'⟩
theorem ru_asgC (c : Cok B n M X sc) {i : Nat} {y : Str} {py : Pos} {tg : Tg} {tgE itE elt : Expr} {ifs : List Expr} {scope : Scope} {own : List (Str × Nat)} {pos spos : Pos} {ei : Rho → Store → R Src} {ec : Rho → Store → R Bool} {ee : Rho → Store → R W}
    (hy : M.N[i]? = some y) (hsw : swapC sc (.Name y py) (.ListComp elt [⟨tgE, itE, ifs, 0⟩] scope pos) = true) (ok : BlkOk X.N X.env.scope scope own) (hv : ∀ i ∈ tgVars tg, i ∈ own.map (·.2))
    (hset : notSet itE = true) (hi : PI X tgE itE (tI T W0 ei)) (hg : ∀ (s : Shared) (H : Hp) (C : Addr) (cl : List (Str × Addr)) (fp : List Addr), PG (X.blk s H scope (compEnvC scope cl C X.env) fp) tgE (tG T tg))
    (ht : ∀ (s : Shared) (H : Hp) (C : Addr) (cl : List (Str × Addr)) (fp : List Addr), PTs (X.blk s H scope (compEnvC scope cl C X.env) fp) ifs (tTs T (fun _ _ _ _ => False) ec))
    (he : ∀ (s : Shared) (H : Hp) (C : Addr) (cl : List (Str × Addr)) (fp : List Addr), PE (X.blk s H scope (compEnvC scope cl C X.env) fp) elt (tE T (fun _ _ _ _ => False) ee)) :
    PS X (.Assign [.Name y py] (.ListComp elt [⟨tgE, itE, ifs, 0⟩] scope pos) spos) (tS T W0 fun ρ S => ((ei ρ S).bind fun src S1 => compL src.1 S1.length (compF tg (own.map (·.2)) ρ ec ee) src.2 (S1 ++ [.lst []])).st ρ fun w S1 => .nx (ρ.set i (some w)) S1) := by
  unfold swapC at hsw
  simp only [Bool.and_eq_true, decide_eq_true_eq, Bool.not_eq_true'] at hsw
  obtain ⟨⟨k1, k2⟩, k3⟩ := hsw
  have hyl := (c.kd y _ k1).1 (by decide)
  refine ⟨fun pins s σ H D I ⟨m, ρ, S, ss, sl, h⟩ => ?_⟩
  refine (ps_setLc c.calm c.nd (by rw [c.N]; exact hy) hyl (sw_true I.ok.kind hyl k2 k3) hi ok hg ht he (fold_set hset)).run pins s σ H D I ?_
  refine comp_read (W0 := W0) hv ss sl (PostR.mono (stR (rel := RepV) ss sl h) fun v H1 ⟨m1, x, S1, g1, ss1, sl1, r1, q1⟩ => ?_)
  exact q1 m1 H1 _ Grow.refl ss1 (sl1.set r1 i)
theorem all_two {f : Expr → Bool} {a b : Expr} (h : [a, b].all f = false) : [a, b].all f = false := h
theorem stores_two {x y : Str} {px py pt pt2 : Pos} {kt k2 : Nat} {a b : Expr} {env : Env} (hb : env.blockKind = .function) (hx : env.kindOf x = some .local) (hy : env.kindOf y = some .local) (hl : (px.line == py.line) = true) (hne : x ≠ y) (na : notStar a = true) (nb : notStar b = true)
    (h1 : [a, b].all (foldedForSure 8) = false) (h2 : [a, b].all (constantsAlone 8) = false) : swappedStores [.Tuple [.Name x px, .Name y py] kt pt] (.Tuple [a, b] k2 pt2) env = pure (some [x, y]) := by
  have e2 : (py.line == px.line) = true := by rw [beq_iff_eq] at hl ⊢; exact hl.symm
  have e3 : ([x, y] : List Str).eraseDups = [x, y] := by
    have : (x == y) = false := by rw [beq_eq_false_iff_ne]; exact hne
    have h' : (y == x) = false := by rw [beq_eq_false_iff_ne]; exact fun z => hne z.symm
    simp [List.eraseDups_cons, this, h']
  unfold swappedStores
  simp only [h1, h2, hb]
  have e4 : ([a, b].any fun | .Starred .. => true | _ => false) = false := by
    cases a <;> first | exact (Bool.false_ne_true na).elim | (cases b <;> first | rfl | exact (Bool.false_ne_true nb).elim)
  have e5 : py.line = px.line := beq_iff_eq.mp e2
  simp [hx, hy, Expr.pos]
  rw [if_neg]
  · simp [List.filterMap_cons, hx, hy, e5, e3]
  · rintro (h | h)
    · cases a <;> first | exact (Bool.false_ne_true na).elim | exact (Bool.false_ne_true h).elim
    · cases b <;> first | exact (Bool.false_ne_true nb).elim | exact (Bool.false_ne_true h).elim
theorem ru_par (c : Cok B n M X sc) {i j : Nat} {x y : Str} {px py pt pt2 pos : Pos} {kt k2 : Nat} {a b : Expr} {ea eb : Rho → Store → R W} (hi : M.N[i]? = some x) (hj : M.N[j]? = some y) (hij : i ≠ j) (hx : sc.names.lookup x = some .local) (hy : sc.names.lookup y = some .local)
    (hl : (px.line == py.line) = true) (na : notStar a = true) (nb : notStar b = true) (h1 : [a, b].all (foldedForSure 8) = false) (h2 : [a, b].all (constantsAlone 8) = false) (ha : PE X a (tE T W0 ea)) (hb : PE X b (tE T W0 eb)) :
    PS X (.Assign [.Tuple [.Name x px, .Name y py] kt pt] (.Tuple [a, b] k2 pt2) pos) (tS T W0 fun ρ S => (ea ρ S).st ρ fun u S1 => (eb ρ S1).st ρ fun v S2 => .nx ((ρ.set i (some u)).set j (some v)) S2) := by
  have lx := (c.kd x _ hx).1 (by decide)
  have ly := (c.kd y _ hy).1 (by decide)
  have hne : x ≠ y := fun z => by
    subst z
    have nd : M.N.Nodup := by rw [← c.N]; exact c.nd
    obtain ⟨h1, e1⟩ := List.getElem?_eq_some_iff.mp hi
    obtain ⟨h2, e3⟩ := List.getElem?_eq_some_iff.mp hj
    exact hij ((List.getElem_inj nd).mp (e1.trans e3.symm))
  have PA2 : PA X [a, b] (tA T W0 fun ρ S => (ea ρ S).bind fun u S1 => (eb ρ S1).bind fun v S2 => .ok [u, v] S2) := by
    refine PA.cg (ru_acons na ha (ru_acons nb hb ru_anil)) fun ρ S => ?_
    congr 1
    funext u S1
    rw [R.assoc]
    congr 1
  refine ⟨fun pins s σ H D I ⟨m, ρ, S, ss, sl, h⟩ => ?_⟩
  have hbk : X.env.blockKind = .function := by unfold Env.blockKind; rw [I.ok.kind]; rfl
  refine (ps_par c.calm c.nd (by rw [c.N]; exact hi) (by rw [c.N]; exact hj) hij lx ly PA2 (stores_two hbk lx ly hl hne na nb h1 h2)).run pins s σ H D I ?_
  refine ⟨m, ρ, S, ss, sl, ?_⟩
  have h' : PostS T W0 m H D (((ea ρ S).bind fun u S1 => (eb ρ S1).bind fun v S2 => .ok [u, v] S2).st ρ fun l S2 => match l with
    | [u, v] => .nx ((ρ.set i (some u)).set j (some v)) S2
    | _ => .bad) := by
    simp only [] at h
    cases e : ea ρ S with
    | ok u S1 =>
      rw [e] at h
      have h : PostS T W0 m H D ((eb ρ S1).st ρ fun v S2 => .nx ((ρ.set i (some u)).set j (some v)) S2) := h
      show PostS T W0 m H D (((eb ρ S1).bind fun v S2 => R.ok [u, v] S2).st ρ _)
      cases e2 : eb ρ S1 with
      | ok v S2 => rw [e2] at h; exact h
      | exn c f S1 => rw [e2] at h; exact h
      | bad => rw [e2] at h; exact h
    | exn c f S1 => rw [e] at h; exact h
    | bad => rw [e] at h; exact h
  refine PostR.mono (stR (rel := RepVs) ss sl h') fun vs H1 ⟨m1, l, S1, g1, ss1, sl1, r1, q1⟩ => ?_
  match l, r1, q1 with
  | [u, v], r1, q1 =>
    obtain ⟨x1, r, rfl, k1, r2⟩ := r1
    obtain ⟨x2, r', rfl, k2, k3⟩ := r2
    cases (show r' = [] from k3)
    exact ⟨x1, x2, rfl, q1 m1 H1 _ Grow.refl ss1 ((sl1.set k1 i).set k2 j)⟩
  | [], _, q1 => exact q1.elim
  | [_], _, q1 => exact q1.elim
  | _ :: _ :: _ :: _, _, q1 => exact q1.elim
theorem swaps_oth {tg v : Expr} {l : Nat} {env : Env} (h : ∀ y p, tg ≠ .Name y p) : swapsWith v (some tg) l env = pure false := by
  unfold swapsWith
  cases v <;> first | rfl | (cases tg <;> first | rfl | exact absurd rfl (h _ _))
theorem ru_setS (c : Cok B n M X sc) {o i v : Expr} {p pos : Pos} {eo ei ev : Rho → Store → R W} (hp : plainI i = true) (hv : PE X v (tE T W0 ev)) (ho : PE X o (tE T W0 eo)) (hi : PE X i (tE T W0 ei)) :
    PS X (.Assign [.Subscript o i p] v pos) (tS T W0 fun ρ S => (ev ρ S).st ρ fun w S1 => (eo ρ S1).st ρ fun x S2 => (ei ρ S2).st ρ fun y S3 => (setAt x y w S3).st ρ fun _ S4 => .nx ρ S4) := by
  have ha : ∀ v, assign (.Subscript o i p) X.env v = (do
      let ov ← holding [v] (eval o X.env)
      let iv ← holding [v, ov] (eval i X.env)
      standAt p
      holding [v, ov, iv] (setItem ov iv v)
      release [v, ov, iv] []) := fun v => by cases i <;> first | rfl | exact (Bool.false_ne_true hp).elim
  refine PS.imp (ps_asg hv (pg_sub ho hi (set_ok (T := T) (by have := c.room.units; omega)) ha) (show swapsWith v (some (.Subscript o i p)) pos.line X.env = pure false from swaps_oth fun _ _ z => Expr.noConfusion z) rfl) fun D σ H ⟨m, ρ, S, ss, sl, h⟩ => ?_
  obtain ⟨m', ρ', S', s1, s2, h1⟩ := stB (ev := ev) ss sl h
  refine ⟨m', ρ', S', s1, s2, PostR.mono h1 fun v H1 ⟨m1, w, S1, g1, ss1, sl1, r1, q1⟩ => ?_⟩
  obtain ⟨m', ρ', S', s1, s2, h2⟩ := stB (ev := eo) ss1 sl1 q1
  refine ⟨m', ρ', S', s1, s2, PostR.mono h2 fun v2 H2 ⟨m2, x, S2, g2, ss2, sl2, r2, q2⟩ => ?_⟩
  obtain ⟨m', ρ', S', s1, s2, h3⟩ := stB (ev := ei) ss2 sl2 q2
  refine ⟨m', ρ', S', s1, s2, PostR.mono h3 fun v3 H3 ⟨m3, y, S3, g3, ss3, sl3, r3, q3⟩ => ?_⟩
  exact ⟨fun c d H' => W0 c d σ H', m3, S3, x, y, w, ss3, r2.grow ss2 g3, r3, (r1.grow ss1 g2).grow ss2 g3, PostR.mono (stR (rel := RelU) ss3 sl3 q3) fun _ H4 ⟨m4, _, S4, g4, ss4, sl4, _, q4⟩ => q4 m4 H4 σ Grow.refl ss4 sl4⟩
theorem putF_rep {m : List Addr} {H : Hp} {f : Nat} {w : W} {v : V} (dom : Nat → Prop) (hf : dom f) (hi : ∀ g, dom g → T.nm g = T.nm f → g = f) (rv : RepV m H w v) : ∀ {fs : List (Nat × W)} {fs' : List (Str × V)}, RepF T m H fs fs' → (∀ p ∈ fs, dom p.1) →
    RepF T m H (Mp.putF f w fs) (L2.putF (T.nm f) v fs') ∧ ∀ p ∈ Mp.putF f w fs, dom p.1
  | [], _, .nil, _ => ⟨.cons ⟨rfl, rv⟩ .nil, fun p hp => by rw [Mp.putF] at hp; rw [List.mem_singleton.mp hp]; exact hf⟩
  | (g, u) :: r, _, .cons (b := b) hb ht, hd => by
    obtain ⟨x, y⟩ := b
    obtain ⟨h1, h2⟩ := hb
    simp only at h1 h2
    rw [Mp.putF, L2.putF]
    by_cases e : g = f
    · subst e
      rw [if_pos rfl, if_pos h1]
      exact ⟨.cons ⟨h1, rv⟩ ht, fun p hp => by
        rcases List.mem_cons.mp hp with rfl | hp
        · exact hf
        · exact hd p (List.mem_cons_of_mem _ hp)⟩
    · have hne : ¬ x = T.nm f := fun z => e (hi g (hd _ (List.mem_cons_self ..)) (h1.symm.trans z))
      rw [if_neg e, if_neg hne]
      obtain ⟨k1, k2⟩ := putF_rep dom hf hi rv ht fun p hp => hd p (List.mem_cons_of_mem _ hp)
      exact ⟨.cons ⟨h1, h2⟩ k1, fun p hp => by
        rcases List.mem_cons.mp hp with rfl | hp
        · exact hd _ (List.mem_cons_self ..)
        · exact k2 p hp⟩
/-- a field stored -/
theorem fld_put (F : Facts B T M fdom) {m : List Addr} {H : Hp} {S : Store} {k cc f : Nat} {fs : List (Nat × W)} {b : Addr} {w : W} {v : V} (ss : SimS T m S H) (e : S[k]? = some (.ins cc fs)) (hb : m[k]? = some b) (hf : M.P.fld cc f = true) (rv : RepV m H w v) :
    ∃ dx fs', T.cd cc = true ∧ T.fld cc f = true ∧ H b = some (.ins (T.ca cc) dx fs') ∧ fs.length = fs'.length ∧ Grow m H m (upd H b (.ins (T.ca cc) dx (L2.putF (T.nm f) v fs'))) ∧
      SimS T m (S.set k (.ins cc (Mp.putF f w fs))) (upd H b (.ins (T.ca cc) dx (L2.putF (T.nm f) v fs'))) := by
  obtain ⟨⟨hd, hfs⟩, dx, fs', h3, h4⟩ := ss.at_ k _ b e hb
  rw [F.fldP] at hf
  obtain ⟨k1, k2⟩ := putF_rep (fun g => T.fld cc g = true) hf (fun g hg z => F.inj cc g f hd hg hf z) rv h4 hfs
  have g := grow_set ss (o := .ins (T.ca cc) dx (L2.putF (T.nm f) v fs')) hb
  exact ⟨dx, fs', hd, hf, h3, Paired.length h4, g, ss.upd hb ⟨⟨hd, k2⟩, dx, _, upd_same, k1.grow ss g⟩⟩
theorem ru_fldS (F : Facts B T M fdom) (c : Cok B n M X sc) {f : Nat} {s : Str} {o v : Expr} {p pos : Pos} {eo ev : Rho → Store → R W} (hs : M.nms.lookup s = some f) (hv : PE X v (tE T W0 ev)) (ho : PE X o (tE T W0 eo)) :
    PS X (.Assign [.Attribute o s p] v pos) (tS T W0 fun ρ S => (ev ρ S).st ρ fun v S1 => (eo ρ S1).st ρ fun x S2 => match x with
    | .ref n => match S2[n]? with
      | some (.ins c fs) => if fs.length < 900 ∧ M.P.fld c f = true then .nx ρ (S2.set n (.ins c (Mp.putF f v fs))) else .bad
      | _ => .bad
    | _ => .bad) := by
  refine PS.imp (ps_fld ho hv (swaps_oth fun _ _ z => Expr.noConfusion z)) fun D σ H ⟨m, ρ, S, ss, sl, h⟩ => ?_
  obtain ⟨m', ρ', S', s1, s2, h1⟩ := stB (ev := ev) ss sl h
  refine ⟨m', ρ', S', s1, s2, PostR.mono h1 fun v H1 ⟨m1, w, S1, g1, ss1, sl1, r1, q1⟩ => ?_⟩
  obtain ⟨m', ρ', S', s1, s2, h2⟩ := stB (ev := eo) ss1 sl1 q1
  refine ⟨m', ρ', S', s1, s2, PostR.mono h2 fun v2 H2 ⟨m2, x, S2, g2, ss2, sl2, r2, q2⟩ => ?_⟩
  cases x with
  | ref k =>
    obtain ⟨b, hb, rfl⟩ := r2
    cases e : S2[k]? with
    | none => simp only [e] at q2; exact q2.elim
    | some ob =>
      cases ob with
      | ins cc fs =>
        simp only [e] at q2
        by_cases hl : fs.length < 900 ∧ M.P.fld cc f = true
        · rw [if_pos hl] at q2
          obtain ⟨dx, fs', k1, k2, k3, k4, k5, k6⟩ := fld_put F ss2 e hb hl.2 (r1.grow ss1 g2)
          rw [F.nm s f hs] at k5 k6
          refine ⟨b, T.ca cc, dx, fs', rfl, k3, ?_, ?_, by have := hl.1; omega, q2 m2 _ σ k5 k6 (sl2.grow ss2 k5)⟩
          · rw [c.K]; exact F.cls.cls cc k1
          · rw [c.K, ← F.nm s f hs]; exact F.na cc f k1 k2
        · rw [if_neg hl] at q2; exact q2.elim
      | _ => simp only [e] at q2; exact q2.elim
  | _ => exact q2.elim
theorem ru_aug (c : Cok B n M X sc) {i : Nat} {x : Str} {op : Bop} {v : Expr} {p pos : Pos} {ev : Rho → Store → R W} (hi : M.N[i]? = some x) (hl : locB sc x = true) (hv : PE X v (tE T W0 ev)) :
    PS X (.AugAssign (.Name x p) op.op v pos) (tS T W0 fun ρ S => match ρ[i]? with
    | some (some x) => (ev ρ S).st ρ fun y S1 => (augW op x y S1).st ρ fun z S2 => .nx (ρ.set i (some z)) S2
    | _ => .bad) := by
  obtain ⟨l1, l2⟩ := c.loc hl
  refine PS.imp (ps_aug c.nd (by rw [c.N]; exact hi) l1 hv (op_aug_ok (T := T) op) l2) fun D σ H ⟨m, ρ, S, ss, sl, h⟩ => ?_
  cases e : ρ[i]? with
  | none => simp only [e] at h; exact h.elim
  | some o => cases o with
    | none => simp only [e] at h; exact h.elim
    | some w =>
      simp only [e] at h
      obtain ⟨u, e1, r⟩ := sl.at_ i w e
      refine ⟨u, e1, ?_⟩
      obtain ⟨m', ρ', S', s1, s2, h1⟩ := stB (ev := ev) ss sl h
      refine ⟨m', ρ', S', s1, s2, PostR.mono h1 fun v H1 ⟨m1, y, S1, g1, ss1, sl1, r1, q1⟩ => ?_⟩
      exact ⟨_, m1, S1, w, y, ss1, r.grow ss g1, r1, PostR.mono (stR (rel := RepV) ss1 sl1 q1) fun z H2 ⟨m2, zw, S2, g2, ss2, sl2, r2, q2⟩ => q2 m2 H2 _ Grow.refl ss2 (sl2.set r2 i)⟩
theorem ru_augS (c : Cok B n M X sc) {o i v : Expr} {op : Bop} {p pos : Pos} {eo ei ev : Rho → Store → R W} (hp : plainI i = true) (ho : PE X o (tE T W0 eo)) (hi : PE X i (tE T W0 ei)) (hv : PE X v (tE T W0 ev)) :
    PS X (.AugAssign (.Subscript o i p) op.op v pos) (tS T W0 fun ρ S => (eo ρ S).st ρ fun x S1 => (ei ρ S1).st ρ fun y S2 => (getAt x y S2).st ρ fun u S3 => (ev ρ S3).st ρ fun v S4 =>
    (augW op u v S4).st ρ fun z S5 => (setAt x y z S5).st ρ fun _ S6 => .nx ρ S6) := by
  have hu : X.A.units + 1 < cLine := by have := c.room.units; omega
  have ha : ∀ ov iv new, augStore i ov iv new = (do holding [new, ov, iv] (setItem ov iv new); release [new, ov, iv] []; pure .next) := fun ov iv new => by
    cases i <;> first | rfl | exact (Bool.false_ne_true hp).elim
  refine PS.imp (ps_augS ho hi (get_ok (T := T) hu) hv (op_aug_ok (T := T) op) (set_ok (T := T) hu) ha) fun D σ H ⟨m, ρ, S, ss, sl, h⟩ => ?_
  obtain ⟨m', ρ', S', s1, s2, h1⟩ := stB (ev := eo) ss sl h
  refine ⟨m', ρ', S', s1, s2, PostR.mono h1 fun v H1 ⟨m1, x, S1, g1, ss1, sl1, r1, q1⟩ => ?_⟩
  obtain ⟨m', ρ', S', s1, s2, h2⟩ := stB (ev := ei) ss1 sl1 q1
  refine ⟨m', ρ', S', s1, s2, PostR.mono h2 fun v2 H2 ⟨m2, y, S2, g2, ss2, sl2, r2, q2⟩ => ?_⟩
  refine ⟨fun c d H' => W0 c d σ H', m2, S2, x, y, ss2, r1.grow ss1 g2, r2, PostR.mono (stR (rel := RepV) ss2 sl2 q2) fun v3 H3 ⟨m3, u, S3, g3, ss3, sl3, r3, q3⟩ => ?_⟩
  obtain ⟨m', ρ', S', s1, s2, h4⟩ := stB (ev := ev) ss3 sl3 q3
  refine ⟨m', ρ', S', s1, s2, PostR.mono h4 fun v4 H4 ⟨m4, w, S4, g4, ss4, sl4, r4, q4⟩ => ?_⟩
  refine ⟨fun c d H' => W0 c d σ H', m4, S4, u, w, ss4, r3.grow ss3 g4, r4, PostR.mono (stR (rel := RepV) ss4 sl4 q4) fun v5 H5 ⟨m5, z, S5, g5, ss5, sl5, r5, q5⟩ => ?_⟩
  have rx := (((r1.grow ss1 g2).grow ss2 g3).grow ss3 g4).grow ss4 g5
  have ry := ((r2.grow ss2 g3).grow ss3 g4).grow ss4 g5
  exact ⟨fun c d H' => W0 c d σ H', m5, S5, x, y, z, ss5, rx, ry, r5, PostR.mono (stR (rel := RelU) ss5 sl5 q5) fun _ H6 ⟨m6, _, S6, g6, ss6, sl6, _, q6⟩ => q6 m6 H6 σ Grow.refl ss6 sl6⟩
theorem ru_augF (F : Facts B T M fdom) (c : Cok B n M X sc) {f : Nat} {s : Str} {op : Bop} {o v : Expr} {p pos : Pos} {eo ev : Rho → Store → R W} (hs : M.nms.lookup s = some f) (ho : PE X o (tE T W0 eo)) (hv : PE X v (tE T W0 ev)) :
    PS X (.AugAssign (.Attribute o s p) op.op v pos) (tS T W0 fun ρ S => (eo ρ S).st ρ fun x S1 => match x with
    | .ref n => match S1[n]? with
      | some (.ins c0 fs) => match getF f fs with
        | some u => (ev ρ S1).st ρ fun v S2 => (augW op u v S2).st ρ fun z S3 => match S3[n]? with
          | some (.ins c fs') => if c = c0 ∧ fs'.length < 900 ∧ M.P.fld c f = true then .nx ρ (S3.set n (.ins c (Mp.putF f z fs'))) else .bad
          | _ => .bad
        | none => .bad
      | _ => .bad
    | _ => .bad) := by
  have hin : InOp X op.op (rTwo T (augW op)) := fun pins s σ H x y u v Q I rx ry q => op_aug_ok (T := T) op pins s σ H x y u v Q I rx ry q
  refine PS.imp (ps_fldaug ho hv hin) fun D σ H ⟨m, ρ, S, ss, sl, h⟩ => ?_
  obtain ⟨m', ρ', S', s1, s2, h1⟩ := stB (ev := eo) ss sl h
  refine ⟨m', ρ', S', s1, s2, PostR.mono h1 fun v H1 ⟨m1, x, S1, g1, ss1, sl1, r1, q1⟩ => ?_⟩
  cases x with
  | ref k =>
    obtain ⟨b, hb, rfl⟩ := r1
    cases e : S1[k]? with
    | none => simp only [e] at q1; exact q1.elim
    | some ob =>
      cases ob with
      | ins cc fs =>
        simp only [e] at q1
        cases e1 : getF f fs with
        | none => simp only [e1] at q1; exact q1.elim
        | some u =>
          simp only [e1] at q1
          obtain ⟨⟨hd, hf⟩, dx, fs', h3, h4⟩ := ss1.at_ k _ b e hb
          obtain ⟨q0, hq1, hq2⟩ := getF_mem e1
          have hff : T.fld cc f = true := hq2 ▸ hf q0 hq1
          obtain ⟨uv, e2, r2⟩ := getF_rep (fun g => T.fld cc g = true) hff (fun g hg z => F.inj cc g f hd hg hff z) h4 hf e1
          rw [F.nm s f hs] at e2
          have C1 : Cls X.K (T.ca cc) := by rw [c.K]; exact F.cls.cls cc hd
          have N1 : NoAttr X.K (T.ca cc) s := by rw [c.K, ← F.nm s f hs]; exact F.na cc f hd hff
          refine ⟨b, T.ca cc, dx, fs', uv, rfl, h3, C1, N1, e2, ?_⟩
          obtain ⟨m', ρ', S', s1, s2, h5⟩ := stB (ev := ev) ss1 sl1 q1
          refine ⟨m', ρ', S', s1, s2, PostR.mono h5 fun v2 H2 ⟨m2, w, S2, g2, ss2, sl2, r3, q2⟩ => ?_⟩
          refine ⟨fun c d H' => W0 c d σ H', m2, S2, u, w, ss2, r2.grow ss1 g2, r3, PostR.mono (stR (rel := RepV) ss2 sl2 q2) fun v3 H3 ⟨m3, z, S3, g3, ss3, sl3, r4, q3⟩ => ?_⟩
          cases e5 : S3[k]? with
          | none => simp only [e5] at q3; exact q3.elim
          | some ob2 =>
            cases ob2 with
            | ins cc2 fs2 =>
              simp only [e5] at q3
              by_cases hl : cc2 = cc ∧ fs2.length < 900 ∧ M.P.fld cc2 f = true
              · rw [if_pos hl] at q3
                have hb3 := pre_get g3.pre (pre_get g2.pre hb)
                obtain ⟨dx2, fs2', k1, k2, k3, k4, k5, k6⟩ := fld_put F ss3 e5 hb3 hl.2.2 r4
                rw [F.nm s f hs] at k5 k6
                obtain ⟨rfl, hl2, _⟩ := hl
                exact ⟨dx2, fs2', k3, by omega, q3 m3 _ σ k5 k6 (sl3.grow ss3 k5)⟩
              · rw [if_neg hl] at q3; exact q3.elim
            | _ => simp only [e5] at q3; exact q3.elim
      | _ => simp only [e] at q1; exact q1.elim
  | _ => exact q1.elim
end
end Mp
end
section
set_option Elab.async false
set_option linter.all false
set_option maxRecDepth 100000
set_option maxHeartbeats 4000000
/-! Every statement of our own language does in the model what it says. -/
namespace Mp
open PySem PySem.Spec PyProof.Rows L2 L2.DX RZ RT
section
variable {T : Tb} {B : Bs} {n : Nat} {M : MEnv} {fdom : Nat → Bool}
theorem PS.cg {X : Cx} {W0 : WX} {s : Stmt} {ev ev' : Rho → Store → RS} (p : PS X s (tS T W0 ev)) (h : ∀ ρ S, ev' ρ S = ev ρ S) : PS X s (tS T W0 ev') := by
  have : ev' = ev := by funext ρ S; exact h ρ S
  rw [this]; exact p
theorem PSs.cg {X : Cx} {W0 : WX} {s : List Stmt} {ev ev' : Rho → Store → RS} (p : PSs X s (tS T W0 ev)) (h : ∀ ρ S, ev' ρ S = ev ρ S) : PSs X s (tS T W0 ev') := by
  have : ev' = ev := by funext ρ S; exact h ρ S
  rw [this]; exact p
theorem asg_name {e : E} {i : Nat} {P : Prog} {cl : Nat → List W → Store → R W} {hx : List (Nat × W)} {ρ : Rho} {S : Store} : exS P cl hx (.asg (.nm i) e) ρ S = (evE P cl hx e ρ S).st ρ fun w S1 => .nx (ρ.set i (some w)) S1 := by
  rw [exS]
  rfl
mutual
theorem ok_S (F : Facts B T M fdom) (hF : ∀ f, fdom f = true → FnT B T M.P n f) : ∀ (st : St) {X : Cx} {W0 : WX} {sc : Scope} {s : Stmt}, Cok B n M X sc → Takes X W0 → PassesOwn (model X.prog X.w) X.A X.env X.xe → mS M sc st s = true → PS X s (tS T W0 (exS M.P (callN M.P n) [] st))
  | .any, X, W0, sc, s, c, tk, hp, h => PS.cg ru_any fun ρ S => by rw [exS]
  | .asg t e, X, W0, sc, s, c, tk, hp, h => by
    unfold mS at h
    split at h
    · rename_i tg v pos
      simp only [Bool.and_eq_true] at h
      obtain ⟨⟨⟨h1, h2⟩, h3⟩, h4⟩ := h
      rw [Bool.or_eq_true] at h4
      rcases h4 with h4 | h4
      · exact PS.cg (ru_asg c h1 h3 h4 (ok_E F hF e c tk h2).1) fun ρ S => by rw [exS]; try rfl
      · have h5 := h4
        unfold swapC at h5
        split at h5
        · rename_i y py elt gs scope vpos
          cases t with
          | tp ts => simp [mT] at h1
          | nm i =>
            simp only [mT, Bool.and_eq_true, decide_eq_true_eq] at h1
            have hy := h1.1.1
            cases e with
            | any =>
              refine PS.cg ru_any fun ρ S => ?_
              rw [asg_name, evE]; rfl
            | comp own tg it cond elt0 =>
              unfold mE at h2
              split at h2
              · rename_i elt' tg' it' ifs scope' pos' hEq
                cases hEq
                simp only [Bool.and_eq_true] at h2
                obtain ⟨⟨⟨⟨⟨k1, k2⟩, k3⟩, k4⟩, k5⟩, k6⟩ := h2
                have ok := c.blkOk k6
                have nd : M.N.Nodup := by rw [← c.N]; exact c.nd
                have ok' : BlkOk M.N X.env.scope scope (ownOf M own) := by rw [← c.N]; exact ok
                refine PS.cg (ru_asgC (T := T) c hy h4 ok (tg_own nd ok' k2) k5 (ok_It F hF it c tk k1) (fun s H C cl fp => ru_tg (c.blk s H scope cl C fp) k2)
                  (fun s H C cl fp => ok_Conds F hF cond (c.blk s H scope cl C fp) (takes_blk s H scope _ fp) k3) fun s H C cl fp => (ok_E F hF elt0 (c.blk s H scope cl C fp) (takes_blk s H scope _ fp) k4).1) fun ρ S => ?_
                rw [asg_name, evE, own_map]; rfl
              · cases h2
            | _ => simp [mE] at h2
        · cases h5
    · cases h
  | .par i j a b, X, W0, sc, s, c, tk, hp, h => by
    unfold mS at h
    split at h
    · simp only [Bool.and_eq_true, decide_eq_true_eq, Bool.not_eq_true'] at h
      obtain ⟨⟨⟨⟨⟨⟨⟨⟨⟨⟨⟨h1, h2⟩, h3⟩, h4⟩, h5⟩, h6⟩, h7⟩, h8⟩, h9⟩, h10⟩, h11⟩, h12⟩ := h
      exact PS.cg (ru_par c h1 h2 h3 h4 h5 h6 h7 h8 h9 h10 (ok_E F hF a c tk h11).1 (ok_E F hF b c tk h12).1) fun ρ S => by rw [exS]
    · cases h
  | .setS o i e, X, W0, sc, s, c, tk, hp, h => by
    unfold mS at h
    split at h
    · simp only [Bool.and_eq_true] at h
      exact PS.cg (ru_setS c h.1.1.1 (ok_E F hF e c tk h.1.1.2).1 (ok_E F hF o c tk h.1.2).1 (ok_E F hF i c tk h.2).1) fun ρ S => by rw [exS]
    · cases h
  | .fld o f e, X, W0, sc, s, c, tk, hp, h => by
    unfold mS at h
    split at h
    · simp only [Bool.and_eq_true, decide_eq_true_eq] at h
      exact PS.cg (ru_fldS F c h.1.1 (ok_E F hF e c tk h.1.2).1 (ok_E F hF o c tk h.2).1) fun ρ S => by rw [exS]; try rfl
    · cases h
  | .aug i op e, X, W0, sc, s, c, tk, hp, h => by
    unfold mS at h
    split at h
    · simp only [Bool.and_eq_true, decide_eq_true_eq] at h
      obtain ⟨⟨⟨rfl, h2⟩, h3⟩, h4⟩ := h
      exact PS.cg (ru_aug c h2 h3 (ok_E F hF e c tk h4).1) fun ρ S => by rw [exS]; try rfl
    · cases h
  | .augS o i op e, X, W0, sc, s, c, tk, hp, h => by
    unfold mS at h
    split at h
    · simp only [Bool.and_eq_true, decide_eq_true_eq] at h
      obtain ⟨⟨⟨⟨rfl, h2⟩, h3⟩, h4⟩, h5⟩ := h
      exact PS.cg (ru_augS c h2 (ok_E F hF o c tk h3).1 (ok_E F hF i c tk h4).1 (ok_E F hF e c tk h5).1) fun ρ S => by rw [exS]
    · cases h
  | .augF o f op e, X, W0, sc, s, c, tk, hp, h => by
    unfold mS at h
    split at h
    · simp only [Bool.and_eq_true, decide_eq_true_eq] at h
      obtain ⟨⟨⟨rfl, h2⟩, h3⟩, h4⟩ := h
      exact PS.cg (ru_augF F c h2 (ok_E F hF o c tk h3).1 (ok_E F hF e c tk h4).1) fun ρ S => by rw [exS]; try rfl
    · cases h
  | .expr e, X, W0, sc, s, c, tk, hp, h => by
    unfold mS at h
    split at h
    · simp only [Bool.and_eq_true] at h
      exact PS.cg (ru_expr h.1 (ok_E F hF e c tk h.2).1) fun ρ S => by rw [exS]
    · cases h
  | .ret e, X, W0, sc, s, c, tk, hp, h => by
    unfold mS at h
    split at h
    · exact PS.cg (ru_ret (ok_E F hF e c tk h).1) fun ρ S => by rw [exS]
    · cases h
  | .retN, X, W0, sc, s, c, tk, hp, h => by
    unfold mS at h
    split at h
    · exact PS.cg ru_retN fun ρ S => by rw [exS]
    · cases h
  | .ifS t a b, X, W0, sc, s, c, tk, hp, h => by
    unfold mS at h
    split at h
    · simp only [Bool.and_eq_true] at h
      exact PS.cg (ru_ifS (ok_E F hF t c tk h.1.1).2 (ok_B F hF a c tk hp h.1.2) (ok_B F hF b c tk hp h.2)) fun ρ S => by rw [exS, evT]
    · cases h
  | .forS t it body, X, W0, sc, s, c, tk, hp, h => by
    unfold mS at h
    split at h
    · simp only [Bool.and_eq_true] at h
      obtain ⟨⟨⟨h1, h2⟩, h3⟩, h4⟩ := h
      exact PS.cg (ru_for c hp h1 (ok_It F hF it c tk h3) (ru_tg c h2) (ok_B F hF body c tk hp h4)) fun ρ S => by rw [exS]; rfl
    · cases h
  | .whileS t body, X, W0, sc, s, c, tk, hp, h => by
    unfold mS at h
    split at h
    · simp only [Bool.and_eq_true] at h
      exact PS.cg (ru_while hp (ok_E F hF t c tk h.1).2 (ok_B F hF body c tk hp h.2)) fun ρ S => by rw [exS]; rfl
    · cases h
  | .pass, X, W0, sc, s, c, tk, hp, h => by
    unfold mS at h
    split at h
    · exact PS.cg (ru_pass ps_pass) fun ρ S => by rw [exS]
    · exact PS.cg (ru_pass ps_doc) fun ρ S => by rw [exS]
    · cases h
  | .brk, X, W0, sc, s, c, tk, hp, h => by
    unfold mS at h
    split at h
    · exact PS.cg ru_brk fun ρ S => by rw [exS]
    · cases h
  | .cont, X, W0, sc, s, c, tk, hp, h => by
    unfold mS at h
    split at h
    · exact PS.cg ru_cont fun ρ S => by rw [exS]
    · cases h
  | .raise cc es, X, W0, sc, s, c, tk, hp, h => by simp [mS] at h
theorem ok_B (F : Facts B T M fdom) (hF : ∀ f, fdom f = true → FnT B T M.P n f) : ∀ (b : Mp.B) {X : Cx} {W0 : WX} {sc : Scope} {l : List Stmt}, Cok B n M X sc → Takes X W0 → PassesOwn (model X.prog X.w) X.A X.env X.xe → mB M sc b l = true → PSs X l (tS T W0 (exB M.P (callN M.P n) [] b))
  | .nil, X, W0, sc, l, c, tk, hp, h => by
    cases l with
    | nil => exact PSs.cg ru_nil fun ρ S => by rw [exB]
    | cons a l => simp [mB] at h
  | .cons s b, X, W0, sc, l, c, tk, hp, h => by
    cases l with
    | nil => simp [mB] at h
    | cons a l =>
      simp only [mB, Bool.and_eq_true] at h
      exact PSs.cg (ru_cons (ok_S F hF s c tk hp h.1) (ok_B F hF b c tk hp h.2)) fun ρ S => by rw [exB]
end
end
end Mp
end
section
set_option Elab.async false
set_option linter.all false
set_option maxRecDepth 100000
/-! Every def. -/
namespace Mp
open PySem PySem.Spec PyProof.Rows L2 L2.DX RZ RT
/-- what is known of a def of the text -/
def FS (B : Bs) (T : Tb) (M : MEnv) (f : Nat) : Prop := ∃ (d : FDef) (N ps : List Str) (x qual : Str) (params : Arguments) (body : List Stmt) (scope : Scope) (dvs : List V) (kws : List (Str × V)) (fd : FuncData),
  M.P.fn f = some d ∧ FunD B.K x qual params body scope dvs kws (T.fa f) fd ∧ FnScope N ps scope ∧ ps.length = d.np ∧ N.length = d.nl ∧ d.np ≤ d.nl ∧ mB { M with N := N } scope d.body body = true ∧
  ∀ k, k ≤ d.np → d.np - k ≤ d.dfl.length → ∃ (dvs : List V) (ds : List Value), Vals dvs ds ∧ (∀ m H, RepVs m H (d.dfl.drop (d.dfl.length - (d.np - k))) dvs) ∧ Binds B.K fd ps ds
theorem Facts.atN {B : Bs} {T : Tb} {M : MEnv} {fdom : Nat → Bool} (F : Facts B T M fdom) (N : List Str) : Facts B T { M with N := N } fdom :=
  ⟨F.fn, F.cl, F.co, F.bu, F.nm, F.na, F.inj, F.cls, F.fldP, F.mth, F.mkf⟩
theorem rep_start {m : List Addr} {H : Hp} : ∀ {ws : List W} {vs : List V}, RepVs m H ws vs → ∀ (k i : Nat) (w : W), (ws.map some ++ List.replicate k none)[i]? = some (some w) → ∃ v, (vs.map some ++ List.replicate k none)[i]? = some (some v) ∧ RepV m H w v
  | [], vs, h, k, i, w, e => by
    rw [List.map_nil, List.nil_append, List.getElem?_replicate] at e
    split at e <;> cases e
  | x :: ws, vs, h, k, i, w, e => by
    obtain ⟨v, r, rfl, h1, h2⟩ := h
    cases i with
    | zero => cases e; exact ⟨v, rfl, h1⟩
    | succ i => exact rep_start h2 k i w e
theorem cok_cx {B : Bs} {M : MEnv} {n : Nat} {N ps : List Str} {qual : Str} {scope : Scope} {f : Addr} {cd : Value} {A : Around} {outer : List Env} {s : Shared} {H : Hp} {E : XK} (S : FnScope N ps scope) (hr : Room (2 * n + 3) (A.deeper (envOfC qual scope s.heap.objs.size f cd))) :
    Cok B n { M with N := N } (cxOf (L2.CX B.prog B.w) B.prog B.w B.K B.mg B.base N qual scope f cd A outer s H E) scope :=
  ⟨rfl, rfl, rfl, rfl, rfl, rfl, S.nd, rfl, hr, fun x k h => ⟨fun _ => h, fun _ => .inl (by rename_i e; subst e; exact h)⟩, fun _ _ => rfl⟩
theorem post_fin {T : Tb} {m : List Addr} {H : Hp} {Q : VK} {E : XK} {r : RS} (h : PostR T RepV m H (fun c d H' => E c d H') Q r.fin) : PostS T (fun c d _ H => E c d H) m H { nx := fun _ H' => Q .non H', rt := Q } r := by
  cases r with
  | nx ρ S => exact fun m' H' σ' g s l => h m' H' .non g s rfl
  | rt w S => exact fun m' H' v g s r => h m' H' v g s r
  | bk ρ S => exact h.elim
  | ct ρ S => exact h.elim
  | exn c f ρ S => exact fun m' H' cls d σ' g s l r => h m' H' cls d g s r
  | bad => exact h.elim
theorem fn_one {B : Bs} {T : Tb} {M : MEnv} {fdom : Nat → Bool} {n f : Nat} (F : Facts B T M fdom) (ih : ∀ f, fdom f = true → FnT B T M.P n f) {d : FDef} {N ps : List Str} {x qual : Str} {params : Arguments} {body : List Stmt} {scope : Scope} {dvs : List V} {kws : List (Str × V)} {fd : FuncData}
    (h1 : M.P.fn f = some d) (h2 : FunD B.K x qual params body scope dvs kws (T.fa f) fd) (h3 : FnScope N ps scope) (h4 : ps.length = d.np) (h5 : N.length = d.nl) (h7 : mB { M with N := N } scope d.body body = true) :
    FnOk B.prog B.w B.K B.mg B.base (L2.CX B.prog B.w) (2 * (n + 1) + 2) (T.fa f) fd ps (spI T d.np (callN M.P (n + 1) f)) := by
    refine FunD.ok (k := 2 * n + 3) h2 h3 (fun vs H Q E ⟨m, S, ws, _, r, hl, _⟩ => by rw [← r.length, hl, h4]) fun cdv A outer s H vs Q E hr ⟨m, S, ws, ss, r, hl, q⟩ => ?_
    have c : Cok B n { M with N := N } (cxOf (L2.CX B.prog B.w) B.prog B.w B.K B.mg B.base N qual scope (T.fa f) cdv A outer s H E) scope := cok_cx h3 hr
    have tk : Takes (cxOf (L2.CX B.prog B.w) B.prog B.w B.K B.mg B.base N qual scope (T.fa f) cdv A outer s H E) (fun cls d _ H => E cls d H) := takes_of rfl rfl rfl rfl
    have hp : PassesOwn (model B.prog B.w) _ _ (cxOf (L2.CX B.prog B.w) B.prog B.w B.K B.mg B.base N qual scope (T.fa f) cdv A outer s H E).xe := passes_of (X := cxOf (L2.CX B.prog B.w) B.prog B.w B.K B.mg B.base N qual scope (T.fa f) cdv A outer s H E) rfl
    refine ⟨_, ok_B (F.atN N) ih d.body c tk hp h7, m, ws.map some ++ List.replicate (d.nl - d.np) none, S, ss, ?_, ?_⟩
    · have hlv : vs.length = d.np := by rw [← r.length]; exact hl
      unfold L2.start
      rw [h5, hlv]
      exact ⟨by simp [hl, hlv], fun i w e => rep_start r _ i w e⟩
    · refine post_fin ?_
      unfold callN at q
      rw [h1] at q
      simp only [fill_len hl] at q
      rw [if_pos hl] at q
      exact q
theorem all_ok {B : Bs} {T : Tb} {M : MEnv} {fdom : Nat → Bool} (F : Facts B T M fdom) (hS : ∀ f, fdom f = true → FS B T M f) : ∀ (n f : Nat), fdom f = true → FnT B T M.P n f := by
  intro n
  induction n with
  | zero =>
    intro f hf
    obtain ⟨d, N, ps, x, qual, params, body, scope, dvs, kws, fd, h1, h2, h3, h4, h5, h6, h7, h8⟩ := hS f hf
    refine ⟨fd, ps, d, h1, h4, h2.kp, ?_, h8⟩
    exact FunD.ok h2 h3 (fun vs H Q E ⟨m, S, ws, _, r, hl, _⟩ => by rw [← r.length, hl, h4]) fun cdv A outer s H vs Q E hr ⟨m, S, ws, _, _, _, q⟩ => q.elim
  | succ n ih =>
    intro f hf
    obtain ⟨d, N, ps, x, qual, params, body, scope, dvs, kws, fd, h1, h2, h3, h4, h5, h6, h7, h8⟩ := hS f hf
    exact ⟨fd, ps, d, h1, h4, h2.kp, fn_one F ih h1 h2 h3 h4 h5 h7, h8⟩
end Mp
end
section
set_option Elab.async false
set_option linter.all false
set_option maxRecDepth 100000
/-! The head's facts, the end. -/
namespace Mp
open PySem PySem.Spec PyProof.Rows L2
/-! ### the Hook: facts of a part of the heap in which no list is -/
def noLst (o : Obj) : Bool := match o.cls with
  | .type c => !decide (c = "list")
  | _ => true
def KM (g : Addr → Option Obj) (n : Nat) : PySem.W.Frag := (He.frG g (He.asD g n)).filter fun p => noLst p.2
theorem look_mem {α β : Type} [BEq α] [LawfulBEq α] {a : α} {b : β} : ∀ {l : List (α × β)}, l.lookup a = some b → (a, b) ∈ l
  | [], h => by simp at h
  | (x, y) :: r, h => by
    rw [List.lookup_cons] at h
    cases hx : a == x with
    | true => rw [hx] at h; cases h; rw [eq_of_beq hx]; exact List.mem_cons_self ..
    | false => rw [hx] at h; exact List.mem_cons_of_mem _ (look_mem h)
theorem look_filter {f : Addr × Obj → Bool} : ∀ {l : PySem.W.Frag} {a : Addr} {o : Obj}, (l.filter f).lookup a = some o → (a, o) ∈ l ∧ f (a, o) = true := by
  intro l a o h
  exact List.mem_filter.mp (look_mem h)
theorem frG_mem {g : Addr → Option Obj} {a : Addr} {o : Obj} {as : List Addr} (h : (a, o) ∈ He.frG g as) : g a = some o := by
  unfold He.frG at h
  obtain ⟨b, hb, e⟩ := List.mem_filterMap.mp h
  obtain ⟨o', e1, e2⟩ := Option.map_eq_some_iff.mp e
  cases e2
  exact e1
abbrev AlM : Type := Bool × List He.FnW
def obsM (ck : PySem.W.Frag → Bool) (fn : List He.DefD) (K : PySem.W.Frag) : AlM := (ck K && fn.all fun d => d.ok K, fn.map fun d => He.fnW K d.at_)
def valM (fn : List He.DefD) : AlM := (true, fn.map He.DefD.val)
def obsMG (n : Nat) (ck : PySem.W.Frag → Bool) (fn : List He.DefD) (g : Addr → Option Obj) : AlM := obsM ck fn (KM g n)
def hookM (n : Nat) (ck : PySem.W.Frag → Bool) (fn : List He.DefD) : PySem.W.Hook where
  α := AlM
  obs := fun s => obsMG n ck fn s.heap.get?
  val := fun _ => valM fn
  says := fun _ h => ∃ K : PySem.W.Frag, K.In h ∧ (∀ a o, K.lookup a = some o → noLst o = true) ∧ obsM ck fn K = valM fn
  of := fun _ _ e => ⟨_, fun a o h => frG_mem (look_filter h).1, fun a o h => (look_filter h).2, e⟩
  keeps := fun _ _ _ ⟨K, hK, hn, c⟩ k => ⟨K, PySem.W.Frag.In.keeps hK k, hn, c⟩
theorem obsMG_eq {n : Nat} {ck : PySem.W.Frag → Bool} {fn : List He.DefD} {g : Addr → Option Obj} {s : Shared} (h : ∀ a, g a = s.heap.get? a) : obsMG n ck fn g = (hookM n ck fn).obs s := by
  have e : g = s.heap.get? := funext h
  rw [e] <;> rfl
theorem saysM {ck : PySem.W.Frag → Bool} {fn : List He.DefD} {K : PySem.W.Frag} (c : obsM ck fn K = valM fn) : ck K = true ∧ He.SaysD [] fn K := by
  have h1 : (ck K && fn.all fun d => d.ok K) = true := congrArg (fun z : AlM => z.1) c
  have h2 : fn.map (fun d => He.fnW K d.at_) = fn.map He.DefD.val := congrArg (fun z : AlM => z.2) c
  rw [Bool.and_eq_true] at h1
  refine ⟨h1.1, ?_⟩
  show (([] : List He.Fa).all (fun f => f.ok K) && fn.all (fun d => d.ok K), fn.map fun d => He.fnW K d.at_) = (true, fn.map He.DefD.val)
  rw [h2, h1.2]; rfl
theorem script_frz {K : PySem.W.Frag} {H : Hp} {a : Addr} {xs : List V} (hn : ∀ a o, K.lookup a = some o → noLst o = true) (hO : Only H) (hS : SqL K H a xs) : ∃ o, H a = some (.frz o (.lst xs)) := by
  rcases hS with (h | ⟨o, h⟩) | ⟨o, its, n, h1, h2, _⟩
  · rcases hO a with z | ⟨o, ys, z⟩
    · rw [h] at z; cases z
    · rw [h] at z; cases z
  · exact ⟨o, h⟩
  · have := hn a o h1
    unfold noLst at this
    rw [h2] at this
    simp at this
/-! ### the end -/
theorem walk_mp {l : PySem.W.OpenLaw} {n k : Nat} {q : Program} {loose : List Str} {XP : (Str → Option Value) → Heap → Prop} {YP : World → Heap → Prop} {d : DefRec} {x : Str}
    (hn : l.most = some n) (hn2 : n ≤ sizeLine) (hdf : d.params.defaults = []) (hr : Room k callerA)
    (F : ∀ (w : World) (mg : Str → Option Value) (fa : Addr) (h : Heap), YP w h → h.Ns mainGlobals mg → mg d.name = some (.ref fa) →
      ∃ (K : PySem.W.Frag) (fd : FuncData) (sp : Sp), K.In h ∧ (∀ (s : Shared) (u : Value), BindsTo s fd ⟨[u], []⟩ [(x, u)]) ∧
        (∀ (H : Hp) (a : Addr) (ns : List Int), ns.length ≤ n → (∀ z ∈ ns, Builtin.Int.intBits z ≤ 1048576) → Only H → SqL K H a (ns.map V.int) → sp [.ref a] H (fun v _ => v = .bl true) fun _ _ _ => False) ∧
        ∀ base : Heap, K.In base → base.Ns mainGlobals mg → FnOk l.prog w K mg base (L2.CX l.prog w) k fa fd [x] sp) :
    PySem.W.WalkO q loose XP YP l.row.toRowW d [] (fun f vs => PySem.call f vs) := by
  refine Att.attach_callB hn hdf fun w s₀ s₁ mg mb fa o pm cd doc a vs ns G Y ho hd hcd hmg hobj hints hlen hbits hg => ?_
  obtain ⟨K, fd, sp, KX, hb, hsp, hF⟩ := F w mg fa _ Y G.T.g hmg
  exact law_call KX G.T.g G.T.b G.T.builtins G.T.nolimit hg hobj hints (Nat.le_trans hlen hn2) hr hF hb (fun H hO hS => hsp H a ns hlen hbits hO hS) fun H e s' ⟨_, _, _, _, _, _, _, _, _, _, _, _, h⟩ => h
/-! ### facts without classes -/
def conFa (p : Str × W) : He.Fa := match p.2 with
  | .int i => .int p.1 i
  | .str z => .str p.1 z
  | _ => .glo Str.empty
def flatC : W → Bool
  | .int _ | .str _ => true
  | _ => false
def faL (M : MEnv) : List He.Fa := (M.fns.map fun p => .glo p.1) ++ ((bltNames.map He.Fa.free) ++ M.cons.map conFa)
def T0 (K : PySem.W.Frag) (place : Nat → Str × Option Str) : Tb := ⟨fun f => He.fAd K (place f), fun _ => 0, fun _ => Str.empty, fun _ => false, fun _ _ => false⟩
theorem mem_look {α : Type} {x : Str} {a : α} : ∀ {l : List (Str × α)}, l.lookup x = some a → (x, a) ∈ l := fun h => look_mem h
theorem facts0 {P : Program} {w : World} {K : PySem.W.Frag} {h base : Heap} {mg : Str → Option Value} {M : MEnv} {place : Nat → Str × Option Str} {fdom : Nat → Bool} (X : K.In h) (G : h.Ns mainGlobals mg) (c : (faL M).all (fun f => f.ok K) = true)
    (hpl : (M.fns.all fun p => decide (place p.2 = (p.1, none)) && fdom p.2) = true) (hco : (M.cons.all fun p => flatC p.2) = true) (h1 : M.clss = []) (h2 : M.nms = []) (h3 : M.P.fld = fun _ _ => false) : Facts ⟨P, w, K, mg, base⟩ (T0 K place) M fdom := by
  rw [List.all_eq_true] at c hpl hco
  have mem1 : ∀ f ∈ (M.fns.map fun p => He.Fa.glo p.1), f ∈ faL M := fun f hf => List.mem_append_left _ hf
  refine ⟨fun x f e => ?_, fun x c e => ?_, fun x w e => ?_, fun x hx => ?_, fun s f e => ?_, fun c f h => ?_, fun c f g h => ?_, ⟨fun c h => ?_, fun c h => ?_, fun c h => ?_, fun ⟨c, h⟩ => ?_, fun ⟨c, h⟩ => ?_, fun c d h => ?_, fun c n h => ?_, fun c n h => ?_⟩, h3, fun c m f h => ?_, fun c f h => ?_⟩
  · have hm := mem_look e
    have h4 := hpl _ hm
    rw [Bool.and_eq_true, decide_eq_true_eq] at h4
    refine ⟨?_, h4.2⟩
    have h5 := He.glo_ok X G (c _ (mem1 _ (List.mem_map.mpr ⟨_, hm, rfl⟩)))
    show mg x = some (.ref (He.fAd K (place f)))
    rw [h4.1]
    exact h5
  · rw [h1] at e; cases e
  · have hm := mem_look e
    have h4 := hco _ hm
    have h5 := c (conFa (x, w)) (List.mem_append_right _ (List.mem_append_right _ (List.mem_map.mpr ⟨_, hm, rfl⟩)))
    cases w with
    | int i =>
      obtain ⟨t, e1⟩ := He.int_ok X G h5
      exact ⟨.int i, .int i t, e1, ⟨t, rfl⟩, fun _ _ => rfl⟩
    | str i =>
      obtain ⟨t, e1⟩ := He.str_ok X G h5
      exact ⟨.str i, .str i t, e1, ⟨t, rfl⟩, fun _ _ => rfl⟩
    | _ => cases h4
  · exact He.free_ok X G (c _ (List.mem_append_right _ (List.mem_append_left _ (List.mem_map.mpr ⟨_, hx, rfl⟩))))
  · rw [h2] at e; cases e
  all_goals cases h
end Mp
end
section
set_option Elab.async false
set_option linter.all false
set_option maxRecDepth 100000
/-! Plain facts about the evaluator: how a body steps. -/
namespace Mp
open PySem
section
variable {P : Prog} {cl : Nat → List W → Store → R W} {hx : List (Nat × W)} {ρ ρ' : Rho} {S S1 : Store} {b : B}
theorem s_nil : exB P cl hx .nil ρ S = .nx ρ S := by rw [exB]
theorem s_cons {s : St} {r : RS} (h : exS P cl hx s ρ S = r) : exB P cl hx (.cons s b) ρ S = r.then (exB P cl hx b) := by rw [exB, h]
theorem s_asg {t : Tg} {e : E} {w : W} (h : evE P cl hx e ρ S = .ok w S1) (hb : bindT t w ρ = some ρ') : exB P cl hx (.cons (.asg t e) b) ρ S = exB P cl hx b ρ' S1 := by
  rw [exB, exS, h]
  simp only [R.st, hb, RS.then]
theorem s_expr {e : E} {w : W} (h : evE P cl hx e ρ S = .ok w S1) : exB P cl hx (.cons (.expr e) b) ρ S = exB P cl hx b ρ S1 := by
  rw [exB, exS, h]
  simp only [R.st, RS.then]
theorem s_ret {e : E} {w : W} (h : evE P cl hx e ρ S = .ok w S1) : exB P cl hx (.cons (.ret e) b) ρ S = .rt w S1 := by
  rw [exB, exS, h]
  simp only [R.st, RS.then]
theorem s_if {t : E} {x y : B} {c : Bool} (h : tst (evE P cl hx t ρ S) = .ok c S1) : exB P cl hx (.cons (.ifS t x y) b) ρ S = (if c then exB P cl hx x ρ S1 else exB P cl hx y ρ S1).then (exB P cl hx b) := by
  rw [exB, exS, evT, h]
  simp only [R.st]
theorem s_ifF {t : E} {x : B} (h : tst (evE P cl hx t ρ S) = .ok false S1) : exB P cl hx (.cons (.ifS t x .nil) b) ρ S = exB P cl hx b ρ S1 := by
  rw [s_if h, if_neg (by decide), s_nil]; rfl
theorem s_ifT {t : E} {x y : B} (h : tst (evE P cl hx t ρ S) = .ok true S1) : exB P cl hx (.cons (.ifS t x y) b) ρ S = (exB P cl hx x ρ S1).then (exB P cl hx b) := by
  rw [s_if h, if_pos rfl]
theorem s_setS {o i e : E} {v x y : W} {S2 S3 S4 : Store} (h1 : evE P cl hx e ρ S = .ok v S1) (h2 : evE P cl hx o ρ S1 = .ok x S2) (h3 : evE P cl hx i ρ S2 = .ok y S3) (h4 : setAt x y v S3 = .ok () S4) :
    exB P cl hx (.cons (.setS o i e) b) ρ S = exB P cl hx b ρ S4 := by
  rw [exB, exS, h1]
  simp only [R.st, h2, h3, h4, RS.then]
theorem s_augS {o i e : E} {op : Bop} {u v x y z : W} {S2 S3 S4 S5 S6 : Store} (h1 : evE P cl hx o ρ S = .ok x S1) (h2 : evE P cl hx i ρ S1 = .ok y S2) (h3 : getAt x y S2 = .ok u S3) (h4 : evE P cl hx e ρ S3 = .ok v S4)
    (h5 : augW op u v S4 = .ok z S5) (h6 : setAt x y z S5 = .ok () S6) : exB P cl hx (.cons (.augS o i op e) b) ρ S = exB P cl hx b ρ S6 := by
  rw [exB, exS, h1]
  simp only [R.st, h2, h3, h4, h5, h6, RS.then]
/-- the loop's body as a function -/
def forB (P : Prog) (cl : Nat → List W → Store → R W) (hx : List (Nat × W)) (t : Tg) (body : B) (w : W) (ρ : Rho) (S : Store) : RS := match bindT t w ρ with
  | some ρ' => exB P cl hx body ρ' S
  | none => .bad
theorem s_for {t : Tg} {it : It} {body : B} {src : Src} (h : evIt P cl hx it ρ S = .ok src S1) : exB P cl hx (.cons (.forS t it body) b) ρ S = (forL src.1 (forB P cl hx t body) src.2 ρ S1).then (exB P cl hx b) := by
  rw [exB, exS, h]
  rfl
theorem forL_inv {gs : List (Nat × Ob)} {f : W → Rho → Store → RS} (I : Nat → Rho → Store → Prop) (hst : ∀ i ρ S, I i ρ S → stands gs S) : ∀ (ws : List W) (i : Nat) {ρ : Rho} {S : Store}, I i ρ S →
    (∀ j w ρ S, ws[j]? = some w → I (i + j) ρ S → ∃ ρ' S', (f w ρ S = .nx ρ' S' ∨ f w ρ S = .ct ρ' S') ∧ I (i + j + 1) ρ' S') → ∃ ρ' S', forL gs f ws ρ S = .nx ρ' S' ∧ I (i + ws.length) ρ' S'
  | [], i, ρ, S, h, _ => ⟨ρ, S, by rw [forL, if_pos (hst _ _ _ h)], h⟩
  | w :: ws, i, ρ, S, h, st => by
    obtain ⟨ρ1, S1, e, h1⟩ := st 0 w ρ S rfl h
    obtain ⟨ρ2, S2, e2, h2⟩ := forL_inv I hst ws (i + 1) h1 fun j w ρ S hj hI => by
      have := st (j + 1) w ρ S (by simpa using hj) (by rw [show i + (j + 1) = i + 1 + j by omega]; exact hI)
      rw [show i + (j + 1) + 1 = i + 1 + j + 1 by omega] at this
      exact this
    refine ⟨ρ2, S2, ?_, by rw [List.length_cons, show i + (ws.length + 1) = i + 1 + ws.length by omega]; exact h2⟩
    rw [forL, if_pos (hst _ _ _ h)]
    rcases e with e | e <;> rw [e] <;> exact e2
/-- with an exact end -/
theorem forL_to {gs : List (Nat × Ob)} {f : W → Rho → Store → RS} {ws : List W} {ρ : Rho} {S : Store} (I : Nat → Rho → Store → Prop) (h0 : I 0 ρ S) (hst : ∀ i ρ S, I i ρ S → stands gs S)
    (step : ∀ j w ρ S, ws[j]? = some w → I j ρ S → ∃ ρ' S', (f w ρ S = .nx ρ' S' ∨ f w ρ S = .ct ρ' S') ∧ I (j + 1) ρ' S') : ∃ ρ' S', forL gs f ws ρ S = .nx ρ' S' ∧ I ws.length ρ' S' := by
  have := forL_inv (gs := gs) (f := f) I hst ws 0 h0 fun j w ρ S hj hI => by
    rw [Nat.zero_add] at hI ⊢
    exact step j w ρ S hj hI
  rwa [Nat.zero_add] at this
end
theorem stands_nil {S : Store} : stands [] S := fun g hg => by cases hg
/-- a def's run from its body -/
theorem call_of {P : Prog} {n f : Nat} {d : FDef} {ws : List W} {S : Store} {r : R W} (hd : P.fn f = some d) (hl : ws.length = d.np) (h : (exB P (callN P n) [] d.body (ws.map some ++ List.replicate (d.nl - d.np) none) S).fin = r) : callN P (n + 1) f ws S = r := by
  have e : fill d ws = ws := by
    unfold fill
    rw [hl, Nat.sub_self, Nat.sub_zero, List.drop_length, List.append_nil]
  unfold callN
  rw [hd]
  simp only [e, if_pos hl]
  exact h
theorem call_at {P : Prog} {N f : Nat} {d : FDef} {ws : List W} {S : Store} {r : R W} (hN : 0 < N) (hd : P.fn f = some d) (hl : ws.length = d.np) (h : ∀ n, N = n + 1 → (exB P (callN P n) [] d.body (ws.map some ++ List.replicate (d.nl - d.np) none) S).fin = r) : callN P N f ws S = r := by
  cases N with
  | zero => cases hN
  | succ n => exact call_of hd hl (h n rfl)
end Mp
end
section
set_option Elab.async false
set_option linter.all false
set_option maxRecDepth 100000
/-! Plain facts: places, lists at the store's end. -/
namespace Mp
open PySem
@[simp] theorem set_last {α : Type} (S : List α) (x y : α) : (S ++ [x]).set S.length y = S ++ [y] := by
  rw [List.set_append_right _ _ (Nat.le_refl _)]; simp
theorem ixN_nat (n i : Nat) : ixN n (i : Int) = if i < n then some i else none := by
  unfold ixN
  rw [if_pos (by omega)]
  by_cases h : i < n
  · rw [if_pos (by omega), if_pos h]; simp
  · rw [if_neg (by omega), if_neg h]
theorem atW_nat {α : Type} (l : List α) (i : Nat) : atW l (i : Int) = l[i]? := by
  unfold atW
  rw [ixN_nat]
  by_cases h : i < l.length
  · rw [if_pos h]; rfl
  · rw [if_neg h]; simp; omega
theorem ixN_neg1 (n : Nat) (h : 0 < n) : ixN n (-1) = some (n - 1) := by
  unfold ixN
  rw [if_neg (by omega), if_pos (by omega)]
  congr 1; omega
theorem atW_neg1 {α : Type} (l : List α) (x : α) : atW (l ++ [x]) (-1) = some x := by
  unfold atW
  rw [ixN_neg1 _ (by simp)]
  simp
theorem rangeW_get (a c : Int) (n j : Nat) (w : W) (h : (rangeW a c n)[j]? = some w) : j < n ∧ w = .int (a + (j : Nat) * c) := by
  unfold rangeW at h
  rw [List.getElem?_map] at h
  by_cases hj : j < n
  · rw [List.getElem?_range hj] at h
    cases h
    exact ⟨hj, rfl⟩
  · rw [List.getElem?_eq_none (by rw [List.length_range]; omega)] at h; cases h
theorem rangeW_length (a c : Int) (n : Nat) : (rangeW a c n).length = n := by unfold rangeW; simp
section
variable {i j : Int} {S : Store}
theorem b_add : bin .add (.int i) (.int j) S = .ok (.int (i + j)) S := rfl
theorem b_sub : bin .sub (.int i) (.int j) S = .ok (.int (i - j)) S := rfl
theorem b_mul (h1 : i.natAbs < big) (h2 : j.natAbs < big) : bin .mul (.int i) (.int j) S = .ok (.int (i * j)) S := guardR_pos ⟨h1, h2⟩ _
theorem b_fdiv (h1 : 0 < j) (h2 : j.natAbs < big) : bin .fdiv (.int i) (.int j) S = .ok (.int (i / j)) S := guardR_pos ⟨h1, h2⟩ _
theorem b_mod (h1 : 0 < j) : bin .mod (.int i) (.int j) S = .ok (.int (i % j)) S := guardR_pos h1 _
theorem b_shl (h1 : 0 ≤ j) (h2 : j ≤ 100000) (h3 : i.natAbs < big) : bin .shl (.int i) (.int j) S = .ok (.int (i * 2 ^ j.toNat)) S := guardR_pos ⟨h1, h2, h3⟩ _
theorem b_pow (h : smallPow i j) : bin .pow (.int i) (.int j) S = .ok (.int (i ^ j.toNat)) S := guardR_pos h _
theorem c_lt : cmp .lt (.int i) (.int j) S = .ok (.bl (decide (i < j))) S := rfl
theorem c_le : cmp .le (.int i) (.int j) S = .ok (.bl (decide (i ≤ j))) S := rfl
theorem c_gt : cmp .gt (.int i) (.int j) S = .ok (.bl (decide (j < i))) S := rfl
theorem c_ge : cmp .ge (.int i) (.int j) S = .ok (.bl (decide (j ≤ i))) S := rfl
theorem c_eq : cmp .eq (.int i) (.int j) S = .ok (.bl (decide (i = j))) S := rfl
theorem c_ne : cmp .ne (.int i) (.int j) S = .ok (.bl (!decide (i = j))) S := rfl
theorem t_bl {b : Bool} : truth S (.bl b) = some b := rfl
end
end Mp
end
section
set_option Elab.async false
set_option linter.all false
set_option maxRecDepth 100000
/-! Plain facts: an object amid the store; tallies. -/
namespace Mp
open PySem
section
variable {T G : Store} {x z : Ob}
theorem g_mid : (T ++ [x] ++ G)[T.length]? = some x := by
  rw [List.append_assoc, List.getElem?_append_right (Nat.le_refl _)]; simp
theorem t_mid : (T ++ [x] ++ G).set T.length z = T ++ [z] ++ G := by
  rw [List.append_assoc, List.set_append_right _ _ (Nat.le_refl _)]; simp
end
/-- keys and what they hold -/
def kvF (ks : List W) (f : W → W) : List (W × W) := ks.map fun k => (k, f k)
theorem look_kv {ks : List W} {f : W → W} {k : W} (h : k ∈ ks) : look k (kvF ks f) = some (f k) := by
  unfold look kvF
  induction ks with
  | nil => cases h
  | cons x r ih =>
    rw [List.map_cons, List.find?_cons]
    by_cases e : x = k
    · subst e; simp
    · simp only [e, decide_false]
      rcases List.mem_cons.mp h with z | z
      · exact absurd z.symm e
      · exact ih z
theorem any_kv {ks : List W} {f : W → W} {k : W} : ((kvF ks f).any fun p => decide (p.1 = k)) = decide (k ∈ ks) := by
  unfold kvF
  induction ks with
  | nil => rfl
  | cons x r ih =>
    rw [List.map_cons, List.any_cons, ih]
    by_cases e : x = k
    · subst e; simp
    · have : ¬ k = x := fun z => e z.symm
      simp [e, this]
theorem put_old {ks : List W} {f : W → W} {k v : W} (h : k ∈ ks) : putK k v (kvF ks f) = kvF ks fun x => if x = k then v else f x := by
  unfold putK
  rw [any_kv, if_pos (by simpa using h)]
  unfold kvF
  rw [List.map_map]
  refine List.map_congr_left fun x _ => ?_
  simp only [Function.comp]
  split <;> rfl
theorem put_new {ks : List W} {f : W → W} {k v : W} (h : k ∉ ks) (hv : f k = v) : putK k v (kvF ks f) = kvF (ks ++ [k]) f := by
  unfold putK
  rw [any_kv, if_neg (by simpa using h)]
  unfold kvF
  rw [List.map_append, ← hv]; rfl
theorem count_take {xs : List W} {j : Nat} {x : W} (h : xs[j]? = some x) (k : W) : (xs.take (j + 1)).count k = (xs.take j).count k + if k = x then 1 else 0 := by
  rw [List.take_succ, h, List.count_append]
  by_cases e : k = x
  · subst e; simp
  · have : ¬ x = k := fun z => e z.symm
    simp [e, List.count_cons, this]
end Mp
end
section
set_option Elab.async false
set_option linter.all false
set_option maxRecDepth 100000
set_option maxHeartbeats 0
namespace K86
open PySem Mp
/-- is_whole -/
def fd1 : FDef := ⟨1, 1, [],
    (.cons (.ret (.andE (.cons (.isin (.var 0) true [.int]) (.cons (.notE (.isin (.var 0) true [.bool])) .nil))))
    .nil)⟩
/-- is_within -/
def fd2 : FDef := ⟨3, 3, [],
    (.cons (.ret (.andE (.cons (.call 1 (.cons (.var 0) .nil)) (.cons (.chain .le .le (.var 1) (.var 0) (.var 2)) .nil))))
    .nil)⟩
/-- is_row -/
def fd3 : FDef := ⟨1, 1, [],
    (.cons (.ret (.isin (.var 0) false [.list, .tuple]))
    .nil)⟩
/-- exchange -/
def fd4 : FDef := ⟨3, 4, [],
    (.cons (.asg (.nm 3) (.idx (.var 0) (.var 1)))
    (.cons (.setS (.var 0) (.var 1) (.idx (.var 0) (.var 2)))
    (.cons (.setS (.var 0) (.var 2) (.var 3))
    .nil)))⟩
/-- products_to -/
def fd5 : FDef := ⟨1, 3, [],
    (.cons (.asg (.nm 1) (.lstE (.cons (.cst (.int 1)) .nil)))
    (.cons (.forS (.nm 2) (.range (.cons (.cst (.int 1)) (.cons (.bin .add (.var 0) (.cst (.int 1))) .nil)))
    (.cons (.expr (.bm .append (.var 1) (.cons (.bin .mul (.idx (.var 1) (.neg (.cst (.int 1)))) (.var 2)) .nil)))
    .nil))
    (.cons (.ret (.var 1))
    .nil)))⟩
/-- orders_many -/
def fd6 : FDef := ⟨1, 1, [],
    (.cons (.ifS (.notE (.call 2 (.cons (.var 0) (.cons (.cst (.int 0)) (.cons (.cst (.int 20)) .nil)))))
    (.cons .any
    .nil)
    .nil)
    (.cons (.ret (.idx (.call 5 (.cons (.var 0) .nil)) (.var 0)))
    .nil))⟩
/-- order_at -/
def fd7 : FDef := ⟨2, 7, [],
    (.cons (.ifS (.notE (.call 2 (.cons (.var 1) (.cons (.cst (.int 0)) (.cons (.bin .sub (.call 6 (.cons (.var 0) .nil)) (.cst (.int 1))) .nil)))))
    (.cons .any
    .nil)
    .nil)
    (.cons (.asg (.nm 2) (.call 5 (.cons (.var 0) .nil)))
    (.cons (.asg (.nm 3) (.lrange (.var 0) .nil))
    (.cons (.asg (.nm 4) (.lstE .nil))
    (.cons (.forS (.nm 5) (.revR (.cons (.var 0) .nil))
    (.cons (.asg (.tp [(.nm 6), (.nm 1)]) (.bi .divmod (.cons (.var 1) (.cons (.idx (.var 2) (.var 5)) .nil))))
    (.cons (.expr (.bm .append (.var 4) (.cons (.bm .popAt (.var 3) (.cons (.var 6) .nil)) .nil)))
    .nil)))
    (.cons (.ret (.bi .tuple (.cons (.var 4) .nil)))
    .nil))))))⟩
/-- by_numbers -/
def fd8 : FDef := ⟨1, 5, [],
    (.cons (.ifS (.orE (.cons (.notE (.call 3 (.cons (.var 0) .nil))) (.cons (.cmp .ge (.bi .len (.cons (.var 0) .nil)) (.cst (.int 60))) .nil)))
    (.cons .any
    .nil)
    .nil)
    (.cons (.asg (.nm 1) (.lrange (.bin .add (.bi .len (.cons (.var 0) .nil)) (.cst (.int 1))) .nil))
    (.cons (.forS (.tp [(.nm 2), (.nm 3)]) (.enum (.var 0))
    (.cons (.asg (.nm 4) (.bin .sub (.bi .len (.cons (.var 0) .nil)) (.var 2)))
    (.cons (.ifS (.notE (.call 2 (.cons (.var 3) (.cons (.cst (.int 0)) (.cons (.var 4) .nil)))))
    (.cons .any
    .nil)
    .nil)
    (.cons (.expr (.call 4 (.cons (.var 1) (.cons (.var 4) (.cons (.var 3) .nil)))))
    .nil))))
    (.cons (.ret (.bi .tuple (.cons (.var 1) .nil)))
    .nil))))⟩
/-- product -/
def fd9 : FDef := ⟨1, 3, [],
    (.cons (.asg (.nm 1) (.cst (.int 1)))
    (.cons (.forS (.nm 2) (.seq (.var 0))
    (.cons (.asg (.nm 1) (.bin .mul (.var 1) (.var 2)))
    .nil))
    (.cons (.ret (.var 1))
    .nil)))⟩
/-- unmixed -/
def fd10 : FDef := ⟨2, 5, [],
    (.cons (.ifS (.notE (.call 2 (.cons (.var 0) (.cons (.cst (.int 0)) (.cons (.bin .sub (.call 9 (.cons (.var 1) .nil)) (.cst (.int 1))) .nil)))))
    (.cons .any
    .nil)
    .nil)
    (.cons (.asg (.nm 2) (.lstE .nil))
    (.cons (.forS (.nm 3) (.rev (.var 1))
    (.cons (.asg (.tp [(.nm 0), (.nm 4)]) (.bi .divmod (.cons (.var 0) (.cons (.var 3) .nil))))
    (.cons (.expr (.bm .append (.var 2) (.cons (.var 4) .nil)))
    .nil)))
    (.cons (.ret (.rev (.var 2)))
    .nil))))⟩
/-- swaps_tally -/
def fd11 : FDef := ⟨1, 6, [],
    (.cons (.ifS (.notE (.call 2 (.cons (.var 0) (.cons (.cst (.int 0)) (.cons (.cst (.int 6)) .nil)))))
    (.cons .any
    .nil)
    .nil)
    (.cons (.asg (.nm 1) (.dnew true))
    (.cons (.forS (.nm 2) (.range (.cons (.call 6 (.cons (.var 0) .nil)) .nil))
    (.cons (.setS (.var 1) (.call 7 (.cons (.var 0) (.cons (.var 2) .nil))) (.cst (.int 0)))
    .nil))
    (.cons (.asg (.nm 3) (.lrange (.var 0) (.cons (.cst (.int 1)) (.cons (.neg (.cst (.int 1))) .nil))))
    (.cons (.forS (.nm 4) (.range (.cons (.call 6 (.cons (.var 0) .nil)) .nil))
    (.cons (.asg (.nm 5) (.tupE .nil))
    (.cons (.ifS (.cmp .gt (.var 0) (.cst (.int 0)))
    (.cons (.asg (.nm 5) (.call 8 (.cons (.call 10 (.cons (.var 4) (.cons (.var 3) .nil))) .nil)))
    .nil)
    .nil)
    (.cons (.augS (.var 1) (.var 5) .add (.cst (.int 1)))
    .nil))))
    (.cons (.ret (.items (.var 1)))
    .nil))))))⟩
/-- need_bound -/
def fd12 : FDef := ⟨2, 2, [],
    (.cons (.ifS (.notE (.call 2 (.cons (.var 0) (.cons (.cst (.int 1)) (.cons (.var 1) .nil)))))
    (.cons .any
    .nil)
    .nil)
    .nil)⟩
/-- need_width -/
def fd13 : FDef := ⟨2, 2, [],
    (.cons (.ifS (.notE (.call 2 (.cons (.var 0) (.cons (.cst (.int 4)) (.cons (.var 1) .nil)))))
    (.cons .any
    .nil)
    .nil)
    .nil)⟩
/-- leaning -/
def fd14 : FDef := ⟨2, 4, [],
    (.cons (.expr (.call 12 (.cons (.var 0) (.cons (.cst (.int 4096)) .nil))))
    (.cons (.expr (.call 13 (.cons (.var 1) (.cons (.cst (.int 12)) .nil))))
    (.cons (.asg (.nm 2) (.bin .mul (.lstE (.cons (.cst (.int 0)) .nil)) (.var 0)))
    (.cons (.forS (.nm 3) (.range (.cons (.bin .shl (.cst (.int 1)) (.var 1)) .nil))
    (.cons (.augS (.var 2) (.bin .mod (.var 3) (.var 0)) .add (.cst (.int 1)))
    .nil))
    (.cons (.ret (.var 2))
    .nil)))))⟩
/-- most_leaning -/
def fd15 : FDef := ⟨2, 3, [],
    (.cons (.asg (.nm 2) (.call 14 (.cons (.var 0) (.cons (.var 1) .nil))))
    (.cons (.ret (.bin .sub (.bi .max1 (.cons (.var 2) .nil)) (.bi .min1 (.cons (.var 2) .nil))))
    .nil))⟩
/-- fair -/
def fd16 : FDef := ⟨2, 5, [],
    (.cons (.expr (.call 12 (.cons (.var 0) (.cons (.bin .shl (.cst (.int 1)) (.cst (.int 64))) .nil))))
    (.cons (.expr (.call 13 (.cons (.var 1) (.cons (.cst (.int 64)) .nil))))
    (.cons (.asg (.nm 2) (.bin .shl (.cst (.int 1)) (.var 1)))
    (.cons (.ifS (.cmp .gt (.var 0) (.var 2))
    (.cons .any
    .nil)
    .nil)
    (.cons (.asg (.tp [(.nm 3), (.nm 4)]) (.bi .divmod (.cons (.var 2) (.cons (.var 0) .nil))))
    (.cons (.ret (.tupE (.cons (.var 3) (.cons (.var 4) .nil))))
    .nil))))))⟩
/-- _law_cell -/
def fd17 : FDef := ⟨2, 2, [],
    (.cons (.ifS (.cmp .lt (.var 1) (.bi .len (.cons (.var 0) .nil)))
    (.cons (.ret (.idx (.var 0) (.var 1)))
    .nil)
    .nil)
    (.cons (.ret (.bin .add (.bin .mul (.cst (.int 6151)) (.var 1)) (.cst (.int 29))))
    .nil))⟩
/-- _law_well -/
def fd18 : FDef := ⟨1, 1, [],
    (.cons (.ifS (.cmp .ge (.var 0) (.bin .pow (.cst (.int 10)) (.cst (.int 18))))
    (.cons (.ret (.lstE (.cons (.var 0) (.cons (.bin .mod (.var 0) (.cst (.int 2147483629))) (.cons (.cst (.int 0)) .nil)))))
    .nil)
    .nil)
    (.cons (.ret (.lstE (.cons (.cst (.int 0)) (.cons (.bin .mod (.var 0) (.cst (.int 2147483629))) (.cons (.cst (.int 0)) .nil)))))
    .nil))⟩
/-- _law_draw -/
def fd19 : FDef := ⟨2, 3, [],
    (.cons (.ifS (.cmp .gt (.idx (.var 0) (.cst (.int 0))) (.cst (.int 0)))
    (.cons (.asg (.nm 2) (.bin .mod (.idx (.var 0) (.cst (.int 0))) (.var 1)))
    (.cons (.setS (.var 0) (.cst (.int 0)) (.bin .fdiv (.idx (.var 0) (.cst (.int 0))) (.var 1)))
    (.cons (.ret (.var 2))
    .nil)))
    .nil)
    (.cons (.setS (.var 0) (.cst (.int 2)) (.bin .add (.idx (.var 0) (.cst (.int 2))) (.cst (.int 1))))
    (.cons (.asg (.nm 2) (.bin .mod (.bin .add (.bin .add (.bin .mul (.idx (.var 0) (.cst (.int 1))) (.cst (.int 69621))) (.bin .mul (.cst (.int 32452843)) (.idx (.var 0) (.cst (.int 2))))) (.cst (.int 11))) (.cst (.int 2147483647))))
    (.cons (.asg (.nm 2) (.bin .mod (.bin .add (.bin .add (.bin .mul (.var 2) (.var 2)) (.bin .mul (.cst (.int 49979687)) (.idx (.var 0) (.cst (.int 2))))) (.cst (.int 5))) (.cst (.int 2147483629))))
    (.cons (.ret (.bin .mod (.bin .mod (.bin .mul (.var 2) (.var 2)) (.cst (.int 2147483587))) (.var 1)))
    .nil)))))⟩
/-- _law_far -/
def fd20 : FDef := ⟨2, 3, [],
    (.cons (.asg (.nm 2) (.call 19 (.cons (.var 0) (.cons (.cst (.int 2147483648)) .nil))))
    (.cons (.asg (.nm 2) (.bin .add (.bin .mul (.var 2) (.cst (.int 2147483648))) (.call 19 (.cons (.var 0) (.cons (.cst (.int 2147483648)) .nil)))))
    (.cons (.asg (.nm 2) (.bin .add (.bin .mul (.var 2) (.cst (.int 2147483648))) (.call 19 (.cons (.var 0) (.cons (.cst (.int 2147483648)) .nil)))))
    (.cons (.ret (.bin .mod (.var 2) (.var 1)))
    .nil))))⟩
/-- _law_whole -/
def fd21 : FDef := ⟨1, 1, [],
    (.cons (.ret (.andE (.cons (.isin (.var 0) true [.int]) (.cons (.notE (.isin (.var 0) true [.bool])) .nil))))
    .nil)⟩
/-- _law_alike -/
def fd22 : FDef := ⟨2, 4, [],
    (.cons (.ifS (.isin (.var 1) false [.list, .tuple])
    (.cons (.ifS (.orE (.cons (.cmp .ne (.isin (.var 1) true [.list]) (.isin (.var 0) true [.list])) (.cons (.cmp .ne (.isin (.var 1) true [.tuple]) (.isin (.var 0) true [.tuple])) .nil)))
    (.cons (.ret (.cst (.bl false)))
    .nil)
    .nil)
    (.cons (.ret (.andE (.cons (.cmp .eq (.bi .len (.cons (.var 0) .nil)) (.bi .len (.cons (.var 1) .nil))) (.cons (.bi .all (.cons (.comp [2, 3] (.tp [(.nm 2), (.nm 3)]) (.zip (.var 0) (.var 1)) .nil (.call 22 (.cons (.var 2) (.cons (.var 3) .nil)))) .nil)) .nil))))
    .nil))
    .nil)
    (.cons (.ifS (.orE (.cons (.cmp .is (.var 1) (.cst .non)) (.cons (.cmp .is (.var 0) (.cst .non)) .nil)))
    (.cons (.ret (.andE (.cons (.cmp .is (.var 1) (.cst .non)) (.cons (.cmp .is (.var 0) (.cst .non)) .nil))))
    .nil)
    .nil)
    (.cons (.ret (.andE (.cons (.isin (.var 0) true [.int]) (.cons (.notE (.isin (.var 0) true [.bool])) (.cons (.cmp .eq (.var 0) (.var 1)) .nil)))))
    .nil)))⟩
/-- _law_leaning -/
def fd23 : FDef := ⟨2, 5, [],
    (.cons (.asg (.nm 2) (.bin .mul (.lstE (.cons (.cst (.int 0)) .nil)) (.var 0)))
    (.cons (.asg (.nm 3) (.cst (.int 0)))
    (.cons (.forS (.nm 4) (.range (.cons (.bin .shl (.cst (.int 1)) (.var 1)) .nil))
    (.cons (.setS (.var 2) (.var 3) (.bin .add (.idx (.var 2) (.var 3)) (.cst (.int 1))))
    (.cons (.asg (.nm 3) (.bin .mul (.bin .add (.var 3) (.cst (.int 1))) (.bi .int (.cons (.cmp .lt (.bin .add (.var 3) (.cst (.int 1))) (.var 0)) .nil))))
    .nil)))
    (.cons (.ret (.var 2))
    .nil))))⟩
/-- _law_orders -/
def fd24 : FDef := ⟨1, 6, [],
    (.cons (.asg (.nm 1) (.lstE (.cons (.tupE .nil) .nil)))
    (.cons (.forS (.nm 2) (.range (.cons (.var 0) .nil))
    (.cons (.asg (.nm 3) (.lstE .nil))
    (.cons (.forS (.nm 4) (.seq (.var 1))
    (.cons (.asg (.nm 3) (.bin .add (.var 3) (.comp [5] (.nm 5) (.range (.cons (.var 0) .nil)) (.cons (.cmp .notin (.var 5) (.var 4)) .nil) (.bin .add (.var 4) (.tupE (.cons (.var 5) .nil))))))
    .nil))
    (.cons (.asg (.nm 1) (.var 3))
    .nil))))
    (.cons (.ret (.var 1))
    .nil)))⟩
/-- _law_fair_right -/
def fd25 : FDef := ⟨2, 4, [],
    (.cons (.asg (.nm 2) (.call 16 (.cons (.var 0) (.cons (.var 1) .nil))))
    (.cons (.ifS (.orE (.cons (.notE (.isin (.var 2) true [.tuple])) (.cons (.cmp .ne (.bi .len (.cons (.var 2) .nil)) (.cst (.int 2))) (.cons (.notE (.call 21 (.cons (.idx (.var 2) (.cst (.int 0))) .nil))) (.cons (.notE (.call 21 (.cons (.idx (.var 2) (.cst (.int 1))) .nil))) .nil)))))
    (.cons (.ret (.cst (.bl false)))
    .nil)
    .nil)
    (.cons (.asg (.nm 3) (.bin .shl (.cst (.int 1)) (.var 1)))
    (.cons (.ret (.andE (.cons (.cmp .eq (.bin .add (.bin .mul (.idx (.var 2) (.cst (.int 0))) (.var 0)) (.idx (.var 2) (.cst (.int 1)))) (.var 3)) (.cons (.chain .le .lt (.cst (.int 0)) (.idx (.var 2) (.cst (.int 1))) (.var 0)) (.cons (.cmp .lt (.bin .mul (.cst (.int 2)) (.idx (.var 2) (.cst (.int 1)))) (.var 3)) .nil)))))
    .nil))))⟩
/-- law -/
def fd26 : FDef := ⟨1, 12, [],
    (.cons (.forS (.nm 1) (.range (.cons (.bi .max2 (.cons (.cst (.int 1)) (.cons (.bi .min2 (.cons (.bi .len (.cons (.var 0) .nil)) (.cons (.cst (.int 8)) .nil))) .nil))) .nil))
    (.cons (.asg (.nm 2) (.call 18 (.cons (.call 17 (.cons (.var 0) (.cons (.var 1) .nil))) .nil)))
    (.cons (.asg (.nm 3) (.idx (.lstE (.cons (.bin .add (.cst (.int 4)) (.call 19 (.cons (.var 2) (.cons (.cst (.int 5)) .nil)))) (.cons (.bin .add (.cst (.int 4)) (.call 19 (.cons (.var 2) (.cons (.cst (.int 9)) .nil)))) .nil))) (.bi .int (.cons (.cmp .eq (.call 19 (.cons (.var 2) (.cons (.cst (.int 6)) .nil))) (.cst (.int 0))) .nil))))
    (.cons (.asg (.nm 4) (.lstE (.cons (.bin .add (.cst (.int 1)) (.call 19 (.cons (.var 2) (.cons (.cst (.int 20)) .nil)))) (.cons (.bin .shl (.cst (.int 1)) (.call 19 (.cons (.var 2) (.cons (.cst (.int 13)) .nil)))) (.cons (.bin .add (.cst (.int 1)) (.call 19 (.cons (.var 2) (.cons (.bin .shl (.cst (.int 1)) (.var 3)) .nil)))) .nil)))))
    (.cons (.asg (.nm 5) (.idx (.bin .add (.var 4) (.lstE (.cons (.bin .add (.cst (.int 1)) (.call 19 (.cons (.var 2) (.cons (.cst (.int 4096)) .nil)))) .nil))) (.call 19 (.cons (.var 2) (.cons (.cst (.int 4)) .nil)))))
    (.cons (.asg (.nm 6) (.call 23 (.cons (.var 5) (.cons (.var 3) .nil))))
    (.cons (.asg (.nm 7) (.call 14 (.cons (.var 5) (.cons (.var 3) .nil))))
    (.cons (.asg (.nm 8) (.call 15 (.cons (.var 5) (.cons (.var 3) .nil))))
    (.cons (.ifS (.orE (.cons (.notE (.call 22 (.cons (.var 7) (.cons (.var 6) .nil)))) (.cons (.notE (.call 21 (.cons (.var 8) .nil))) (.cons (.cmp .ne (.var 8) (.bin .sub (.bi .max1 (.cons (.var 6) .nil)) (.bi .min1 (.cons (.var 6) .nil)))) .nil))))
    (.cons (.ret (.cst (.bl false)))
    .nil)
    .nil)
    (.cons (.setS (.var 7) (.cst (.int 0)) (.cst (.int 99)))
    (.cons (.ifS (.cmp .ne (.call 14 (.cons (.var 5) (.cons (.var 3) .nil))) (.var 6))
    (.cons (.ret (.cst (.bl false)))
    .nil)
    .nil)
    (.cons (.asg (.nm 3) (.bin .add (.cst (.int 4)) (.call 19 (.cons (.var 2) (.cons (.cst (.int 61)) .nil)))))
    (.cons (.asg (.nm 5) (.idx (.lstE (.cons (.bin .add (.cst (.int 1)) (.call 20 (.cons (.var 2) (.cons (.bin .shl (.cst (.int 1)) (.var 3)) .nil)))) (.cons (.bin .shl (.cst (.int 1)) (.var 3)) (.cons (.bin .add (.bin .fdiv (.bin .shl (.cst (.int 1)) (.var 3)) (.cst (.int 2))) (.cst (.int 1))) (.cons (.cst (.int 1)) .nil))))) (.call 19 (.cons (.var 2) (.cons (.cst (.int 4)) .nil)))))
    (.cons (.ifS (.notE (.call 25 (.cons (.var 5) (.cons (.var 3) .nil))))
    (.cons (.ret (.cst (.bl false)))
    .nil)
    .nil)
    (.cons (.asg (.nm 9) (.idx (.lstE (.cons (.call 19 (.cons (.var 2) (.cons (.cst (.int 5)) .nil))) (.cons (.call 19 (.cons (.var 2) (.cons (.cst (.int 7)) .nil))) .nil))) (.bi .int (.cons (.cmp .eq (.call 19 (.cons (.var 2) (.cons (.cst (.int 6)) .nil))) (.cst (.int 0))) .nil))))
    (.cons (.asg (.nm 10) (.call 11 (.cons (.var 9) .nil)))
    (.cons (.ifS (.notE (.call 22 (.cons (.var 10) (.cons (.comp [11] (.nm 11) (.seq (.call 24 (.cons (.var 9) .nil))) .nil (.tupE (.cons (.var 11) (.cons (.cst (.int 1)) .nil)))) .nil))))
    (.cons (.ret (.cst (.bl false)))
    .nil)
    .nil)
    .nil)))))))))))))))))
    (.cons (.ret (.cst (.bl true)))
    .nil))⟩
def fnT : List (Nat × FDef) := [(1, fd1), (2, fd2), (3, fd3), (4, fd4), (5, fd5), (6, fd6), (7, fd7), (8, fd8), (9, fd9), (10, fd10), (11, fd11), (12, fd12), (13, fd13), (14, fd14), (15, fd15), (16, fd16), (17, fd17), (18, fd18), (19, fd19), (20, fd20), (21, fd21), (22, fd22), (23, fd23), (24, fd24), (25, fd25), (26, fd26)]
def P : Prog := ⟨fun f => fnT.lookup f, fun _ _ => none, fun _ => none, fun _ _ => false, fun _ => none, fun _ _ => false⟩
end K86
end
section
set_option Elab.async false
set_option linter.all false
set_option maxRecDepth 100000
set_option maxHeartbeats 0
namespace K86
open PySem PySem.Spec PyProof.Rows L2 Mp
def M : MEnv := ⟨[], [("is_whole", 1), ("is_within", 2), ("is_row", 3), ("exchange", 4), ("products_to", 5), ("orders_many", 6), ("order_at", 7), ("by_numbers", 8), ("product", 9), ("unmixed", 10), ("swaps_tally", 11), ("need_bound", 12), ("need_width", 13), ("leaning", 14), ("most_leaning", 15), ("fair", 16), ("_law_cell", 17), ("_law_well", 18), ("_law_draw", 19), ("_law_far", 20), ("_law_whole", 21), ("_law_alike", 22), ("_law_leaning", 23), ("_law_orders", 24), ("_law_fair_right", 25), ("law", 26)], [], [("MOST_LAID", (.int 60)), ("MOST_RANKED", (.int 20)), ("MOST_THINGS", (.int 6)), ("MOST_BOUND", (.int 4096)), ("LEAST_WIDTH", (.int 4)), ("MOST_SMALL", (.int 12)), ("MOST_WIDTH", (.int 64))], [], P⟩
abbrev prog : Program := PySem.Challenge.pw_splitseed_k86_leaning_and_fair
def top (i : Nat) : Stmt := prog.main.body.getD i (.Pass ⟨0, 0, 0, 0⟩)
def dd1 : He.DefD := ⟨("is_whole", none), "is_whole", "is_whole", defArgs (top 6), defBody (top 6), defScope (top 6), [], []⟩
def N1 : List Str := ["thing"]
def ps1 : List Str := ["thing"]
def dd2 : He.DefD := ⟨("is_within", none), "is_within", "is_within", defArgs (top 7), defBody (top 7), defScope (top 7), [], []⟩
def N2 : List Str := ["thing", "low", "high"]
def ps2 : List Str := ["thing", "low", "high"]
def dd3 : He.DefD := ⟨("is_row", none), "is_row", "is_row", defArgs (top 11), defBody (top 11), defScope (top 11), [], []⟩
def N3 : List Str := ["thing"]
def ps3 : List Str := ["thing"]
def dd4 : He.DefD := ⟨("exchange", none), "exchange", "exchange", defArgs (top 12), defBody (top 12), defScope (top 12), [], []⟩
def N4 : List Str := ["row", "one", "other", "kept"]
def ps4 : List Str := ["row", "one", "other"]
def dd5 : He.DefD := ⟨("products_to", none), "products_to", "products_to", defArgs (top 13), defBody (top 13), defScope (top 13), [], []⟩
def N5 : List Str := ["many", "found", "k"]
def ps5 : List Str := ["many"]
def dd6 : He.DefD := ⟨("orders_many", none), "orders_many", "orders_many", defArgs (top 14), defBody (top 14), defScope (top 14), [], []⟩
def N6 : List Str := ["many"]
def ps6 : List Str := ["many"]
def dd7 : He.DefD := ⟨("order_at", none), "order_at", "order_at", defArgs (top 15), defBody (top 15), defScope (top 15), [], []⟩
def N7 : List Str := ["many", "rank", "sizes", "left", "found", "k", "at"]
def ps7 : List Str := ["many", "rank"]
def dd8 : He.DefD := ⟨("by_numbers", none), "by_numbers", "by_numbers", defArgs (top 16), defBody (top 16), defScope (top 16), [], []⟩
def N8 : List Str := ["numbers", "found", "k", "number", "last"]
def ps8 : List Str := ["numbers"]
def dd9 : He.DefD := ⟨("product", none), "product", "product", defArgs (top 18), defBody (top 18), defScope (top 18), [], []⟩
def N9 : List Str := ["bases", "found", "base"]
def ps9 : List Str := ["bases"]
def dd10 : He.DefD := ⟨("unmixed", none), "unmixed", "unmixed", defArgs (top 19), defBody (top 19), defScope (top 19), [], []⟩
def N10 : List Str := ["number", "bases", "found", "base", "rest"]
def ps10 : List Str := ["number", "bases"]
def dd11 : He.DefD := ⟨("swaps_tally", none), "swaps_tally", "swaps_tally", defArgs (top 26), defBody (top 26), defScope (top 26), [], []⟩
def N11 : List Str := ["many", "counts", "rank", "bases", "number", "order"]
def ps11 : List Str := ["many"]
def dd12 : He.DefD := ⟨("need_bound", none), "need_bound", "need_bound", defArgs (top 27), defBody (top 27), defScope (top 27), [], []⟩
def N12 : List Str := ["bound", "most"]
def ps12 : List Str := ["bound", "most"]
def dd13 : He.DefD := ⟨("need_width", none), "need_width", "need_width", defArgs (top 28), defBody (top 28), defScope (top 28), [], []⟩
def N13 : List Str := ["width", "most"]
def ps13 : List Str := ["width", "most"]
def dd14 : He.DefD := ⟨("leaning", none), "leaning", "leaning", defArgs (top 29), defBody (top 29), defScope (top 29), [], []⟩
def N14 : List Str := ["bound", "width", "found", "state"]
def ps14 : List Str := ["bound", "width"]
def dd15 : He.DefD := ⟨("most_leaning", none), "most_leaning", "most_leaning", defArgs (top 30), defBody (top 30), defScope (top 30), [], []⟩
def N15 : List Str := ["bound", "width", "found"]
def ps15 : List Str := ["bound", "width"]
def dd16 : He.DefD := ⟨("fair", none), "fair", "fair", defArgs (top 31), defBody (top 31), defScope (top 31), [], []⟩
def N16 : List Str := ["bound", "width", "states", "times", "thrown"]
def ps16 : List Str := ["bound", "width"]
def dd17 : He.DefD := ⟨("_law_cell", none), "_law_cell", "_law_cell", defArgs (top 33), defBody (top 33), defScope (top 33), [], []⟩
def N17 : List Str := ["_law_script", "_law_k"]
def ps17 : List Str := ["_law_script", "_law_k"]
def dd18 : He.DefD := ⟨("_law_well", none), "_law_well", "_law_well", defArgs (top 34), defBody (top 34), defScope (top 34), [], []⟩
def N18 : List Str := ["_law_cell_here"]
def ps18 : List Str := ["_law_cell_here"]
def dd19 : He.DefD := ⟨("_law_draw", none), "_law_draw", "_law_draw", defArgs (top 35), defBody (top 35), defScope (top 35), [], []⟩
def N19 : List Str := ["_law_well_here", "_law_many", "_law_number"]
def ps19 : List Str := ["_law_well_here", "_law_many"]
def dd20 : He.DefD := ⟨("_law_far", none), "_law_far", "_law_far", defArgs (top 36), defBody (top 36), defScope (top 36), [], []⟩
def N20 : List Str := ["_law_well_here", "_law_many", "_law_number"]
def ps20 : List Str := ["_law_well_here", "_law_many"]
def dd21 : He.DefD := ⟨("_law_whole", none), "_law_whole", "_law_whole", defArgs (top 37), defBody (top 37), defScope (top 37), [], []⟩
def N21 : List Str := ["_law_thing"]
def ps21 : List Str := ["_law_thing"]
def dd22 : He.DefD := ⟨("_law_alike", none), "_law_alike", "_law_alike", defArgs (top 38), defBody (top 38), defScope (top 38), [], []⟩
def N22 : List Str := ["_law_found", "_law_due", "_law_one", "_law_other"]
def ps22 : List Str := ["_law_found", "_law_due"]
def dd23 : He.DefD := ⟨("_law_leaning", none), "_law_leaning", "_law_leaning", defArgs (top 39), defBody (top 39), defScope (top 39), [], []⟩
def N23 : List Str := ["_law_bound", "_law_width", "_law_found", "_law_at", "_law_state"]
def ps23 : List Str := ["_law_bound", "_law_width"]
def dd24 : He.DefD := ⟨("_law_orders", none), "_law_orders", "_law_orders", defArgs (top 40), defBody (top 40), defScope (top 40), [], []⟩
def N24 : List Str := ["_law_many", "_law_rows", "_law_k", "_law_longer", "_law_row", "_law_place"]
def ps24 : List Str := ["_law_many"]
def dd25 : He.DefD := ⟨("_law_fair_right", none), "_law_fair_right", "_law_fair_right", defArgs (top 41), defBody (top 41), defScope (top 41), [], []⟩
def N25 : List Str := ["_law_bound", "_law_width", "_law_told", "_law_states"]
def ps25 : List Str := ["_law_bound", "_law_width"]
def dd26 : He.DefD := ⟨("law", none), "law", "law", defArgs (top 42), defBody (top 42), defScope (top 42), [], []⟩
def N26 : List Str := ["_law_script", "_law_k", "_law_well_here", "_law_width", "_law_some", "_law_bound", "_law_due", "_law_found", "_law_most", "_law_many", "_law_told", "_law_order"]
def ps26 : List Str := ["_law_script"]
def fn : List He.DefD := [dd1, dd2, dd3, dd4, dd5, dd6, dd7, dd8, dd9, dd10, dd11, dd12, dd13, dd14, dd15, dd16, dd17, dd18, dd19, dd20, dd21, dd22, dd23, dd24, dd25, dd26]
def place (f : Nat) : Str × Option Str := match f with
  | 1 => ("is_whole", none)
  | 2 => ("is_within", none)
  | 3 => ("is_row", none)
  | 4 => ("exchange", none)
  | 5 => ("products_to", none)
  | 6 => ("orders_many", none)
  | 7 => ("order_at", none)
  | 8 => ("by_numbers", none)
  | 9 => ("product", none)
  | 10 => ("unmixed", none)
  | 11 => ("swaps_tally", none)
  | 12 => ("need_bound", none)
  | 13 => ("need_width", none)
  | 14 => ("leaning", none)
  | 15 => ("most_leaning", none)
  | 16 => ("fair", none)
  | 17 => ("_law_cell", none)
  | 18 => ("_law_well", none)
  | 19 => ("_law_draw", none)
  | 20 => ("_law_far", none)
  | 21 => ("_law_whole", none)
  | 22 => ("_law_alike", none)
  | 23 => ("_law_leaning", none)
  | 24 => ("_law_orders", none)
  | 25 => ("_law_fair_right", none)
  | 26 => ("law", none)
  | _ => ("", none)
def ids : List Nat := [1, 2, 3, 4, 5, 6, 7, 8, 9, 10, 11, 12, 13, 14, 15, 16, 17, 18, 19, 20, 21, 22, 23, 24, 25, 26]
def fdom (f : Nat) : Bool := ids.contains f
def ck (K : PySem.W.Frag) : Bool := (faL M).all fun f => f.ok K
abbrev hk : PySem.W.Hook := hookM 4 ck fn
section
variable {w : World} {K : PySem.W.Frag} {mg : Str → Option Value} {base : Heap}
theorem m1 : mB { M with N := N1 } (defScope (top 6)) fd1.body (defBody (top 6)) = true := by decide +kernel
theorem sc1 : C8.scC N1 ps1 (defScope (top 6)) = true := by decide +kernel
theorem fs1 (c : He.SaysD [] fn K) : FS ⟨prog, w, K, mg, base⟩ (T0 K place) M 1 := by
  obtain ⟨fd, F⟩ := c.def_ 0 (d := dd1) rfl
  refine ⟨fd1, N1, ps1, _, _, _, _, _, _, _, fd, rfl, F, C8.fnScope_by sc1, rfl, rfl, by decide, m1, fun k h1 h2 => ?_⟩
  have hk : k = 1 := by simp only [fd1, List.length_nil] at h1 h2; omega
  subst hk
  exact ⟨[], [], .nil, fun _ _ => rfl, FunD.bindsN F fun _ _ _ _ _ _ us hl => match us, hl with | [_], _ => rfl⟩
theorem m2 : mB { M with N := N2 } (defScope (top 7)) fd2.body (defBody (top 7)) = true := by decide +kernel
theorem sc2 : C8.scC N2 ps2 (defScope (top 7)) = true := by decide +kernel
theorem fs2 (c : He.SaysD [] fn K) : FS ⟨prog, w, K, mg, base⟩ (T0 K place) M 2 := by
  obtain ⟨fd, F⟩ := c.def_ 1 (d := dd2) rfl
  refine ⟨fd2, N2, ps2, _, _, _, _, _, _, _, fd, rfl, F, C8.fnScope_by sc2, rfl, rfl, by decide, m2, fun k h1 h2 => ?_⟩
  have hk : k = 3 := by simp only [fd2, List.length_nil] at h1 h2; omega
  subst hk
  exact ⟨[], [], .nil, fun _ _ => rfl, FunD.bindsN F fun _ _ _ _ _ _ us hl => match us, hl with | [_, _, _], _ => rfl⟩
theorem m3 : mB { M with N := N3 } (defScope (top 11)) fd3.body (defBody (top 11)) = true := by decide +kernel
theorem sc3 : C8.scC N3 ps3 (defScope (top 11)) = true := by decide +kernel
theorem fs3 (c : He.SaysD [] fn K) : FS ⟨prog, w, K, mg, base⟩ (T0 K place) M 3 := by
  obtain ⟨fd, F⟩ := c.def_ 2 (d := dd3) rfl
  refine ⟨fd3, N3, ps3, _, _, _, _, _, _, _, fd, rfl, F, C8.fnScope_by sc3, rfl, rfl, by decide, m3, fun k h1 h2 => ?_⟩
  have hk : k = 1 := by simp only [fd3, List.length_nil] at h1 h2; omega
  subst hk
  exact ⟨[], [], .nil, fun _ _ => rfl, FunD.bindsN F fun _ _ _ _ _ _ us hl => match us, hl with | [_], _ => rfl⟩
theorem m4 : mB { M with N := N4 } (defScope (top 12)) fd4.body (defBody (top 12)) = true := by decide +kernel
theorem sc4 : C8.scC N4 ps4 (defScope (top 12)) = true := by decide +kernel
theorem fs4 (c : He.SaysD [] fn K) : FS ⟨prog, w, K, mg, base⟩ (T0 K place) M 4 := by
  obtain ⟨fd, F⟩ := c.def_ 3 (d := dd4) rfl
  refine ⟨fd4, N4, ps4, _, _, _, _, _, _, _, fd, rfl, F, C8.fnScope_by sc4, rfl, rfl, by decide, m4, fun k h1 h2 => ?_⟩
  have hk : k = 3 := by simp only [fd4, List.length_nil] at h1 h2; omega
  subst hk
  exact ⟨[], [], .nil, fun _ _ => rfl, FunD.bindsN F fun _ _ _ _ _ _ us hl => match us, hl with | [_, _, _], _ => rfl⟩
theorem m5 : mB { M with N := N5 } (defScope (top 13)) fd5.body (defBody (top 13)) = true := by decide +kernel
theorem sc5 : C8.scC N5 ps5 (defScope (top 13)) = true := by decide +kernel
theorem fs5 (c : He.SaysD [] fn K) : FS ⟨prog, w, K, mg, base⟩ (T0 K place) M 5 := by
  obtain ⟨fd, F⟩ := c.def_ 4 (d := dd5) rfl
  refine ⟨fd5, N5, ps5, _, _, _, _, _, _, _, fd, rfl, F, C8.fnScope_by sc5, rfl, rfl, by decide, m5, fun k h1 h2 => ?_⟩
  have hk : k = 1 := by simp only [fd5, List.length_nil] at h1 h2; omega
  subst hk
  exact ⟨[], [], .nil, fun _ _ => rfl, FunD.bindsN F fun _ _ _ _ _ _ us hl => match us, hl with | [_], _ => rfl⟩
theorem m6 : mB { M with N := N6 } (defScope (top 14)) fd6.body (defBody (top 14)) = true := by decide +kernel
theorem sc6 : C8.scC N6 ps6 (defScope (top 14)) = true := by decide +kernel
theorem fs6 (c : He.SaysD [] fn K) : FS ⟨prog, w, K, mg, base⟩ (T0 K place) M 6 := by
  obtain ⟨fd, F⟩ := c.def_ 5 (d := dd6) rfl
  refine ⟨fd6, N6, ps6, _, _, _, _, _, _, _, fd, rfl, F, C8.fnScope_by sc6, rfl, rfl, by decide, m6, fun k h1 h2 => ?_⟩
  have hk : k = 1 := by simp only [fd6, List.length_nil] at h1 h2; omega
  subst hk
  exact ⟨[], [], .nil, fun _ _ => rfl, FunD.bindsN F fun _ _ _ _ _ _ us hl => match us, hl with | [_], _ => rfl⟩
theorem m7 : mB { M with N := N7 } (defScope (top 15)) fd7.body (defBody (top 15)) = true := by decide +kernel
theorem sc7 : C8.scC N7 ps7 (defScope (top 15)) = true := by decide +kernel
theorem fs7 (c : He.SaysD [] fn K) : FS ⟨prog, w, K, mg, base⟩ (T0 K place) M 7 := by
  obtain ⟨fd, F⟩ := c.def_ 6 (d := dd7) rfl
  refine ⟨fd7, N7, ps7, _, _, _, _, _, _, _, fd, rfl, F, C8.fnScope_by sc7, rfl, rfl, by decide, m7, fun k h1 h2 => ?_⟩
  have hk : k = 2 := by simp only [fd7, List.length_nil] at h1 h2; omega
  subst hk
  exact ⟨[], [], .nil, fun _ _ => rfl, FunD.bindsN F fun _ _ _ _ _ _ us hl => match us, hl with | [_, _], _ => rfl⟩
theorem m8 : mB { M with N := N8 } (defScope (top 16)) fd8.body (defBody (top 16)) = true := by decide +kernel
theorem sc8 : C8.scC N8 ps8 (defScope (top 16)) = true := by decide +kernel
theorem fs8 (c : He.SaysD [] fn K) : FS ⟨prog, w, K, mg, base⟩ (T0 K place) M 8 := by
  obtain ⟨fd, F⟩ := c.def_ 7 (d := dd8) rfl
  refine ⟨fd8, N8, ps8, _, _, _, _, _, _, _, fd, rfl, F, C8.fnScope_by sc8, rfl, rfl, by decide, m8, fun k h1 h2 => ?_⟩
  have hk : k = 1 := by simp only [fd8, List.length_nil] at h1 h2; omega
  subst hk
  exact ⟨[], [], .nil, fun _ _ => rfl, FunD.bindsN F fun _ _ _ _ _ _ us hl => match us, hl with | [_], _ => rfl⟩
theorem m9 : mB { M with N := N9 } (defScope (top 18)) fd9.body (defBody (top 18)) = true := by decide +kernel
theorem sc9 : C8.scC N9 ps9 (defScope (top 18)) = true := by decide +kernel
theorem fs9 (c : He.SaysD [] fn K) : FS ⟨prog, w, K, mg, base⟩ (T0 K place) M 9 := by
  obtain ⟨fd, F⟩ := c.def_ 8 (d := dd9) rfl
  refine ⟨fd9, N9, ps9, _, _, _, _, _, _, _, fd, rfl, F, C8.fnScope_by sc9, rfl, rfl, by decide, m9, fun k h1 h2 => ?_⟩
  have hk : k = 1 := by simp only [fd9, List.length_nil] at h1 h2; omega
  subst hk
  exact ⟨[], [], .nil, fun _ _ => rfl, FunD.bindsN F fun _ _ _ _ _ _ us hl => match us, hl with | [_], _ => rfl⟩
theorem m10 : mB { M with N := N10 } (defScope (top 19)) fd10.body (defBody (top 19)) = true := by decide +kernel
theorem sc10 : C8.scC N10 ps10 (defScope (top 19)) = true := by decide +kernel
theorem fs10 (c : He.SaysD [] fn K) : FS ⟨prog, w, K, mg, base⟩ (T0 K place) M 10 := by
  obtain ⟨fd, F⟩ := c.def_ 9 (d := dd10) rfl
  refine ⟨fd10, N10, ps10, _, _, _, _, _, _, _, fd, rfl, F, C8.fnScope_by sc10, rfl, rfl, by decide, m10, fun k h1 h2 => ?_⟩
  have hk : k = 2 := by simp only [fd10, List.length_nil] at h1 h2; omega
  subst hk
  exact ⟨[], [], .nil, fun _ _ => rfl, FunD.bindsN F fun _ _ _ _ _ _ us hl => match us, hl with | [_, _], _ => rfl⟩
theorem m11 : mB { M with N := N11 } (defScope (top 26)) fd11.body (defBody (top 26)) = true := by decide +kernel
theorem sc11 : C8.scC N11 ps11 (defScope (top 26)) = true := by decide +kernel
theorem fs11 (c : He.SaysD [] fn K) : FS ⟨prog, w, K, mg, base⟩ (T0 K place) M 11 := by
  obtain ⟨fd, F⟩ := c.def_ 10 (d := dd11) rfl
  refine ⟨fd11, N11, ps11, _, _, _, _, _, _, _, fd, rfl, F, C8.fnScope_by sc11, rfl, rfl, by decide, m11, fun k h1 h2 => ?_⟩
  have hk : k = 1 := by simp only [fd11, List.length_nil] at h1 h2; omega
  subst hk
  exact ⟨[], [], .nil, fun _ _ => rfl, FunD.bindsN F fun _ _ _ _ _ _ us hl => match us, hl with | [_], _ => rfl⟩
theorem m12 : mB { M with N := N12 } (defScope (top 27)) fd12.body (defBody (top 27)) = true := by decide +kernel
theorem sc12 : C8.scC N12 ps12 (defScope (top 27)) = true := by decide +kernel
theorem fs12 (c : He.SaysD [] fn K) : FS ⟨prog, w, K, mg, base⟩ (T0 K place) M 12 := by
  obtain ⟨fd, F⟩ := c.def_ 11 (d := dd12) rfl
  refine ⟨fd12, N12, ps12, _, _, _, _, _, _, _, fd, rfl, F, C8.fnScope_by sc12, rfl, rfl, by decide, m12, fun k h1 h2 => ?_⟩
  have hk : k = 2 := by simp only [fd12, List.length_nil] at h1 h2; omega
  subst hk
  exact ⟨[], [], .nil, fun _ _ => rfl, FunD.bindsN F fun _ _ _ _ _ _ us hl => match us, hl with | [_, _], _ => rfl⟩
theorem m13 : mB { M with N := N13 } (defScope (top 28)) fd13.body (defBody (top 28)) = true := by decide +kernel
theorem sc13 : C8.scC N13 ps13 (defScope (top 28)) = true := by decide +kernel
theorem fs13 (c : He.SaysD [] fn K) : FS ⟨prog, w, K, mg, base⟩ (T0 K place) M 13 := by
  obtain ⟨fd, F⟩ := c.def_ 12 (d := dd13) rfl
  refine ⟨fd13, N13, ps13, _, _, _, _, _, _, _, fd, rfl, F, C8.fnScope_by sc13, rfl, rfl, by decide, m13, fun k h1 h2 => ?_⟩
  have hk : k = 2 := by simp only [fd13, List.length_nil] at h1 h2; omega
  subst hk
  exact ⟨[], [], .nil, fun _ _ => rfl, FunD.bindsN F fun _ _ _ _ _ _ us hl => match us, hl with | [_, _], _ => rfl⟩
theorem m14 : mB { M with N := N14 } (defScope (top 29)) fd14.body (defBody (top 29)) = true := by decide +kernel
theorem sc14 : C8.scC N14 ps14 (defScope (top 29)) = true := by decide +kernel
theorem fs14 (c : He.SaysD [] fn K) : FS ⟨prog, w, K, mg, base⟩ (T0 K place) M 14 := by
  obtain ⟨fd, F⟩ := c.def_ 13 (d := dd14) rfl
  refine ⟨fd14, N14, ps14, _, _, _, _, _, _, _, fd, rfl, F, C8.fnScope_by sc14, rfl, rfl, by decide, m14, fun k h1 h2 => ?_⟩
  have hk : k = 2 := by simp only [fd14, List.length_nil] at h1 h2; omega
  subst hk
  exact ⟨[], [], .nil, fun _ _ => rfl, FunD.bindsN F fun _ _ _ _ _ _ us hl => match us, hl with | [_, _], _ => rfl⟩
theorem m15 : mB { M with N := N15 } (defScope (top 30)) fd15.body (defBody (top 30)) = true := by decide +kernel
theorem sc15 : C8.scC N15 ps15 (defScope (top 30)) = true := by decide +kernel
theorem fs15 (c : He.SaysD [] fn K) : FS ⟨prog, w, K, mg, base⟩ (T0 K place) M 15 := by
  obtain ⟨fd, F⟩ := c.def_ 14 (d := dd15) rfl
  refine ⟨fd15, N15, ps15, _, _, _, _, _, _, _, fd, rfl, F, C8.fnScope_by sc15, rfl, rfl, by decide, m15, fun k h1 h2 => ?_⟩
  have hk : k = 2 := by simp only [fd15, List.length_nil] at h1 h2; omega
  subst hk
  exact ⟨[], [], .nil, fun _ _ => rfl, FunD.bindsN F fun _ _ _ _ _ _ us hl => match us, hl with | [_, _], _ => rfl⟩
theorem m16 : mB { M with N := N16 } (defScope (top 31)) fd16.body (defBody (top 31)) = true := by decide +kernel
theorem sc16 : C8.scC N16 ps16 (defScope (top 31)) = true := by decide +kernel
theorem fs16 (c : He.SaysD [] fn K) : FS ⟨prog, w, K, mg, base⟩ (T0 K place) M 16 := by
  obtain ⟨fd, F⟩ := c.def_ 15 (d := dd16) rfl
  refine ⟨fd16, N16, ps16, _, _, _, _, _, _, _, fd, rfl, F, C8.fnScope_by sc16, rfl, rfl, by decide, m16, fun k h1 h2 => ?_⟩
  have hk : k = 2 := by simp only [fd16, List.length_nil] at h1 h2; omega
  subst hk
  exact ⟨[], [], .nil, fun _ _ => rfl, FunD.bindsN F fun _ _ _ _ _ _ us hl => match us, hl with | [_, _], _ => rfl⟩
theorem m17 : mB { M with N := N17 } (defScope (top 33)) fd17.body (defBody (top 33)) = true := by decide +kernel
theorem sc17 : C8.scC N17 ps17 (defScope (top 33)) = true := by decide +kernel
theorem fs17 (c : He.SaysD [] fn K) : FS ⟨prog, w, K, mg, base⟩ (T0 K place) M 17 := by
  obtain ⟨fd, F⟩ := c.def_ 16 (d := dd17) rfl
  refine ⟨fd17, N17, ps17, _, _, _, _, _, _, _, fd, rfl, F, C8.fnScope_by sc17, rfl, rfl, by decide, m17, fun k h1 h2 => ?_⟩
  have hk : k = 2 := by simp only [fd17, List.length_nil] at h1 h2; omega
  subst hk
  exact ⟨[], [], .nil, fun _ _ => rfl, FunD.bindsN F fun _ _ _ _ _ _ us hl => match us, hl with | [_, _], _ => rfl⟩
theorem m18 : mB { M with N := N18 } (defScope (top 34)) fd18.body (defBody (top 34)) = true := by decide +kernel
theorem sc18 : C8.scC N18 ps18 (defScope (top 34)) = true := by decide +kernel
theorem fs18 (c : He.SaysD [] fn K) : FS ⟨prog, w, K, mg, base⟩ (T0 K place) M 18 := by
  obtain ⟨fd, F⟩ := c.def_ 17 (d := dd18) rfl
  refine ⟨fd18, N18, ps18, _, _, _, _, _, _, _, fd, rfl, F, C8.fnScope_by sc18, rfl, rfl, by decide, m18, fun k h1 h2 => ?_⟩
  have hk : k = 1 := by simp only [fd18, List.length_nil] at h1 h2; omega
  subst hk
  exact ⟨[], [], .nil, fun _ _ => rfl, FunD.bindsN F fun _ _ _ _ _ _ us hl => match us, hl with | [_], _ => rfl⟩
theorem m19 : mB { M with N := N19 } (defScope (top 35)) fd19.body (defBody (top 35)) = true := by decide +kernel
theorem sc19 : C8.scC N19 ps19 (defScope (top 35)) = true := by decide +kernel
theorem fs19 (c : He.SaysD [] fn K) : FS ⟨prog, w, K, mg, base⟩ (T0 K place) M 19 := by
  obtain ⟨fd, F⟩ := c.def_ 18 (d := dd19) rfl
  refine ⟨fd19, N19, ps19, _, _, _, _, _, _, _, fd, rfl, F, C8.fnScope_by sc19, rfl, rfl, by decide, m19, fun k h1 h2 => ?_⟩
  have hk : k = 2 := by simp only [fd19, List.length_nil] at h1 h2; omega
  subst hk
  exact ⟨[], [], .nil, fun _ _ => rfl, FunD.bindsN F fun _ _ _ _ _ _ us hl => match us, hl with | [_, _], _ => rfl⟩
theorem m20 : mB { M with N := N20 } (defScope (top 36)) fd20.body (defBody (top 36)) = true := by decide +kernel
theorem sc20 : C8.scC N20 ps20 (defScope (top 36)) = true := by decide +kernel
theorem fs20 (c : He.SaysD [] fn K) : FS ⟨prog, w, K, mg, base⟩ (T0 K place) M 20 := by
  obtain ⟨fd, F⟩ := c.def_ 19 (d := dd20) rfl
  refine ⟨fd20, N20, ps20, _, _, _, _, _, _, _, fd, rfl, F, C8.fnScope_by sc20, rfl, rfl, by decide, m20, fun k h1 h2 => ?_⟩
  have hk : k = 2 := by simp only [fd20, List.length_nil] at h1 h2; omega
  subst hk
  exact ⟨[], [], .nil, fun _ _ => rfl, FunD.bindsN F fun _ _ _ _ _ _ us hl => match us, hl with | [_, _], _ => rfl⟩
theorem m21 : mB { M with N := N21 } (defScope (top 37)) fd21.body (defBody (top 37)) = true := by decide +kernel
theorem sc21 : C8.scC N21 ps21 (defScope (top 37)) = true := by decide +kernel
theorem fs21 (c : He.SaysD [] fn K) : FS ⟨prog, w, K, mg, base⟩ (T0 K place) M 21 := by
  obtain ⟨fd, F⟩ := c.def_ 20 (d := dd21) rfl
  refine ⟨fd21, N21, ps21, _, _, _, _, _, _, _, fd, rfl, F, C8.fnScope_by sc21, rfl, rfl, by decide, m21, fun k h1 h2 => ?_⟩
  have hk : k = 1 := by simp only [fd21, List.length_nil] at h1 h2; omega
  subst hk
  exact ⟨[], [], .nil, fun _ _ => rfl, FunD.bindsN F fun _ _ _ _ _ _ us hl => match us, hl with | [_], _ => rfl⟩
theorem m22 : mB { M with N := N22 } (defScope (top 38)) fd22.body (defBody (top 38)) = true := by decide +kernel
theorem sc22 : C8.scC N22 ps22 (defScope (top 38)) = true := by decide +kernel
theorem fs22 (c : He.SaysD [] fn K) : FS ⟨prog, w, K, mg, base⟩ (T0 K place) M 22 := by
  obtain ⟨fd, F⟩ := c.def_ 21 (d := dd22) rfl
  refine ⟨fd22, N22, ps22, _, _, _, _, _, _, _, fd, rfl, F, C8.fnScope_by sc22, rfl, rfl, by decide, m22, fun k h1 h2 => ?_⟩
  have hk : k = 2 := by simp only [fd22, List.length_nil] at h1 h2; omega
  subst hk
  exact ⟨[], [], .nil, fun _ _ => rfl, FunD.bindsN F fun _ _ _ _ _ _ us hl => match us, hl with | [_, _], _ => rfl⟩
theorem m23 : mB { M with N := N23 } (defScope (top 39)) fd23.body (defBody (top 39)) = true := by decide +kernel
theorem sc23 : C8.scC N23 ps23 (defScope (top 39)) = true := by decide +kernel
theorem fs23 (c : He.SaysD [] fn K) : FS ⟨prog, w, K, mg, base⟩ (T0 K place) M 23 := by
  obtain ⟨fd, F⟩ := c.def_ 22 (d := dd23) rfl
  refine ⟨fd23, N23, ps23, _, _, _, _, _, _, _, fd, rfl, F, C8.fnScope_by sc23, rfl, rfl, by decide, m23, fun k h1 h2 => ?_⟩
  have hk : k = 2 := by simp only [fd23, List.length_nil] at h1 h2; omega
  subst hk
  exact ⟨[], [], .nil, fun _ _ => rfl, FunD.bindsN F fun _ _ _ _ _ _ us hl => match us, hl with | [_, _], _ => rfl⟩
theorem m24 : mB { M with N := N24 } (defScope (top 40)) fd24.body (defBody (top 40)) = true := by decide +kernel
theorem sc24 : C8.scC N24 ps24 (defScope (top 40)) = true := by decide +kernel
theorem fs24 (c : He.SaysD [] fn K) : FS ⟨prog, w, K, mg, base⟩ (T0 K place) M 24 := by
  obtain ⟨fd, F⟩ := c.def_ 23 (d := dd24) rfl
  refine ⟨fd24, N24, ps24, _, _, _, _, _, _, _, fd, rfl, F, C8.fnScope_by sc24, rfl, rfl, by decide, m24, fun k h1 h2 => ?_⟩
  have hk : k = 1 := by simp only [fd24, List.length_nil] at h1 h2; omega
  subst hk
  exact ⟨[], [], .nil, fun _ _ => rfl, FunD.bindsN F fun _ _ _ _ _ _ us hl => match us, hl with | [_], _ => rfl⟩
theorem m25 : mB { M with N := N25 } (defScope (top 41)) fd25.body (defBody (top 41)) = true := by decide +kernel
theorem sc25 : C8.scC N25 ps25 (defScope (top 41)) = true := by decide +kernel
theorem fs25 (c : He.SaysD [] fn K) : FS ⟨prog, w, K, mg, base⟩ (T0 K place) M 25 := by
  obtain ⟨fd, F⟩ := c.def_ 24 (d := dd25) rfl
  refine ⟨fd25, N25, ps25, _, _, _, _, _, _, _, fd, rfl, F, C8.fnScope_by sc25, rfl, rfl, by decide, m25, fun k h1 h2 => ?_⟩
  have hk : k = 2 := by simp only [fd25, List.length_nil] at h1 h2; omega
  subst hk
  exact ⟨[], [], .nil, fun _ _ => rfl, FunD.bindsN F fun _ _ _ _ _ _ us hl => match us, hl with | [_, _], _ => rfl⟩
theorem m26 : mB { M with N := N26 } (defScope (top 42)) fd26.body (defBody (top 42)) = true := by decide +kernel
theorem sc26 : C8.scC N26 ps26 (defScope (top 42)) = true := by decide +kernel
theorem fs26 (c : He.SaysD [] fn K) : FS ⟨prog, w, K, mg, base⟩ (T0 K place) M 26 := by
  obtain ⟨fd, F⟩ := c.def_ 25 (d := dd26) rfl
  refine ⟨fd26, N26, ps26, _, _, _, _, _, _, _, fd, rfl, F, C8.fnScope_by sc26, rfl, rfl, by decide, m26, fun k h1 h2 => ?_⟩
  have hk : k = 1 := by simp only [fd26, List.length_nil] at h1 h2; omega
  subst hk
  exact ⟨[], [], .nil, fun _ _ => rfl, FunD.bindsN F fun _ _ _ _ _ _ us hl => match us, hl with | [_], _ => rfl⟩
theorem fsAll (c : He.SaysD [] fn K) : ∀ f, fdom f = true → FS ⟨prog, w, K, mg, base⟩ (T0 K place) M f := by
  intro f hf
  have h : f ∈ ids := by simpa [fdom] using hf
  simp only [ids, List.mem_cons, List.not_mem_nil, or_false] at h
  rcases h with rfl | rfl | rfl | rfl | rfl | rfl | rfl | rfl | rfl | rfl | rfl | rfl | rfl | rfl | rfl | rfl | rfl | rfl | rfl | rfl | rfl | rfl | rfl | rfl | rfl | rfl
  · exact fs1 c
  · exact fs2 c
  · exact fs3 c
  · exact fs4 c
  · exact fs5 c
  · exact fs6 c
  · exact fs7 c
  · exact fs8 c
  · exact fs9 c
  · exact fs10 c
  · exact fs11 c
  · exact fs12 c
  · exact fs13 c
  · exact fs14 c
  · exact fs15 c
  · exact fs16 c
  · exact fs17 c
  · exact fs18 c
  · exact fs19 c
  · exact fs20 c
  · exact fs21 c
  · exact fs22 c
  · exact fs23 c
  · exact fs24 c
  · exact fs25 c
  · exact fs26 c
theorem facts {h : Heap} (X : K.In h) (G : h.Ns mainGlobals mg) (c : ck K = true) : Facts ⟨prog, w, K, mg, base⟩ (T0 K place) M fdom := facts0 X G c (by decide +kernel) (by decide +kernel) rfl rfl rfl
end
end K86
end
section
set_option Elab.async false
set_option linter.all false
set_option maxRecDepth 100000
set_option maxHeartbeats 4000000
set_option exponentiation.threshold 5000
namespace K86
open PySem Mp
theorem lt_big {n : Nat} (h : n ≤ 2432902008176640000) : n < big := Nat.lt_of_le_of_lt h (by unfold big; exact Nat.lt_of_lt_of_le (by decide : 2432902008176640000 < 2 ^ 62) (Nat.pow_le_pow_right (by decide) (by decide)))
theorem whole_ok {N : Nat} (hN : 1 ≤ N) (i : Int) (S : Store) : callN P N 1 [.int i] S = .ok (.bl true) S := by
  refine call_at (d := fd1) hN rfl rfl fun n e => ?_
  simp [fd1, exB, exS, evE, evAnd, tst, truth, okB, isTys, isTy, R.st, RS.then, RS.fin]
theorem within_ok {N : Nat} (hN : 2 ≤ N) (i a b : Int) (S : Store) : callN P N 2 [.int i, .int a, .int b] S = .ok (.bl (decide (a ≤ i) && decide (i ≤ b))) S := by
  refine call_at (d := fd2) (by omega) rfl rfl fun n e => ?_
  have h1 := whole_ok (N := n) (by omega) i S
  simp only [fd2, exB, exS, evE, evEs, evAnd, R.bind, List.map, List.append, R.st]
  simp [h1, truth, cmp, R.st, RS.then, RS.fin]
  cases h : decide (a ≤ i) <;> simp [h]
def fct : Nat → Nat
  | 0 => 1
  | n + 1 => fct n * (n + 1)
theorem fct_le : ∀ {m : Nat}, m ≤ 20 → fct m ≤ 2432902008176640000 := by decide
theorem fct_pos : ∀ m : Nat, 0 < fct m
  | 0 => Nat.one_pos
  | n + 1 => Nat.mul_pos (fct_pos n) (Nat.succ_pos n)
def fl (m : Nat) : List W := (List.range (m + 1)).map fun j => W.int (fct j : Nat)
theorem fl_succ (m : Nat) : fl (m + 1) = fl m ++ [.int (fct (m + 1) : Nat)] := by
  unfold fl
  rw [List.range_succ, List.map_append]; rfl
theorem fl_last (m : Nat) : ∃ l, fl m = l ++ [.int (fct m : Nat)] := by
  unfold fl
  exact ⟨_, by rw [List.range_succ, List.map_append]; rfl⟩
theorem fl_get {m j : Nat} (h : j ≤ m) : (fl m)[j]? = some (.int (fct j : Nat)) := by
  unfold fl
  rw [List.getElem?_map, List.getElem?_range (by omega)]; rfl
theorem products_step (cl : Nat → List W → Store → R W) (m j : Nat) (hj : j < m) (hm : m ≤ 20) (o : Option W) (S : Store) :
    forB P cl [] (.nm 2) (.cons (.expr (.bm .append (.var 1) (.cons (.bin .mul (.idx (.var 1) (.neg (.cst (.int 1)))) (.var 2)) .nil))) .nil) (.int (1 + (j : Nat) * 1)) [some (.int m), some (.ref S.length), o] (S ++ [.lst (fl j)]) =
      .nx [some (.int m), some (.ref S.length), some (.int (1 + (j : Nat) * 1))] (S ++ [.lst (fl (j + 1))]) := by
  obtain ⟨l, hl⟩ := fl_last j
  have h1 : ((fct j : Nat) : Int).natAbs < big := lt_big (by have := fct_le (m := j) (by omega); omega)
  have h2 : ((1 + (j : Nat) * 1 : Int)).natAbs < big := lt_big (by omega)
  have hlen : (l ++ [W.int (fct j : Nat)]).length < lim := by
    rw [← hl]; unfold fl lim; simp; omega
  have he : ((fct j : Nat) : Int) * (1 + (j : Nat) * 1) = (fct (j + 1) : Nat) := by
    rw [fct]; push_cast; rw [Int.mul_one, Int.add_comm 1]
  rw [fl_succ, hl]
  unfold forB
  simp only [bindT, List.set]
  rw [s_expr (w := .non) (S1 := S ++ [.lst (l ++ [.int (fct j : Nat)] ++ [.int (fct (j + 1) : Nat)])]) ?_, s_nil]
  simp only [evE, evEs, List.getElem?_cons_zero, List.getElem?_cons_succ, R.bind_ok, List.getElem?_concat_length, index, atW_neg1, okO, bin, bmF]
  rw [guardR_pos ⟨h1, h2⟩]
  simp only [R.bind_ok, List.getElem?_concat_length, bmF, guardR_pos hlen, set_last, he]
theorem evit_range2 {P : Prog} {cl : Nat → List W → Store → R W} {hx : List (Nat × W)} {a b : E} {ρ : Rho} {S S1 S2 : Store} {i j : Int} (h1 : evE P cl hx a ρ S = .ok (.int i) S1) (h2 : evE P cl hx b ρ S1 = .ok (.int j) S2) (hi : smallI i) (hj : smallI j) :
    evIt P cl hx (.range (.cons a (.cons b .nil))) ρ S = .ok ([], rangeW i 1 (j - i).toNat) S2 := by
  simp only [evIt, evEs, h1, h2, R.bind_ok, rangeSrc, if_pos (And.intro hi hj), okS]
theorem evit_range1 {P : Prog} {cl : Nat → List W → Store → R W} {hx : List (Nat × W)} {b : E} {ρ : Rho} {S S2 : Store} {j : Int} (h2 : evE P cl hx b ρ S = .ok (.int j) S2) (hj : smallI j) :
    evIt P cl hx (.range (.cons b .nil)) ρ S = .ok ([], rangeW 0 1 j.toNat) S2 := by
  simp only [evIt, evEs, h2, R.bind_ok, rangeSrc, if_pos hj, okS]
theorem p1 (cl : Nat → List W → Store → R W) (m : Nat) (S : Store) : evE P cl [] (.lstE (.cons (.cst (.int 1)) .nil)) [some (.int m), none, none] S = .ok (.ref S.length) (S ++ [.lst [.int 1]]) := by simp [evE, evEs, newLst, lim]
theorem p2 (cl : Nat → List W → Store → R W) (m : Nat) (hm : m ≤ 20) (S : Store) (ρ : Rho) (h : ρ[0]? = some (some (.int m))) : evIt P cl [] (.range (.cons (.cst (.int 1)) (.cons (.bin .add (.var 0) (.cst (.int 1))) .nil))) ρ S = .ok ([], rangeW 1 1 ((m : Int) + 1 - 1).toNat) S :=
  evit_range2 (S1 := S) (i := 1) (j := (m : Int) + 1) (by rw [evE]) (by simp [evE, bin, h]) ⟨by omega, by omega⟩ ⟨by omega, by omega⟩
theorem p3 (cl : Nat → List W → Store → R W) (m : Nat) (hm : m ≤ 20) (S : Store) : ∃ o, forL [] (forB P cl [] (.nm 2) (.cons (.expr (.bm .append (.var 1) (.cons (.bin .mul (.idx (.var 1) (.neg (.cst (.int 1)))) (.var 2)) .nil))) .nil)) (rangeW 1 1 ((m : Int) + 1 - 1).toNat) [some (.int m), some (.ref S.length), none] (S ++ [.lst [.int 1]]) = .nx [some (.int m), some (.ref S.length), o] (S ++ [.lst (fl m)]) := by
  obtain ⟨ρ', S', e, ⟨o, h1⟩, h2⟩ := forL_to (gs := []) (f := forB P cl [] (.nm 2) (.cons (.expr (.bm .append (.var 1) (.cons (.bin .mul (.idx (.var 1) (.neg (.cst (.int 1)))) (.var 2)) .nil))) .nil)) (ws := rangeW 1 1 ((m : Int) + 1 - 1).toNat)
    (ρ := [some (.int m), some (.ref S.length), none]) (S := S ++ [.lst [.int 1]]) (fun j ρ S' => (∃ o, ρ = [some (.int m), some (.ref S.length), o]) ∧ S' = S ++ [.lst (fl j)]) ⟨⟨_, rfl⟩, rfl⟩ (fun _ _ _ _ => stands_nil) (fun j w ρ S' hw ⟨⟨o, h1⟩, h2⟩ => by
      obtain ⟨hj, rfl⟩ := rangeW_get _ _ _ _ _ hw
      subst h1 h2
      exact ⟨_, _, .inl (products_step cl m j (by omega) hm o S), ⟨_, rfl⟩, rfl⟩)
  rw [rangeW_length] at h2
  rw [show ((m : Int) + 1 - 1).toNat = m by omega] at h2
  exact ⟨o, by rw [e, h1, h2]⟩
theorem products_ok {N m : Nat} (hN : 1 ≤ N) (hm : m ≤ 20) (S : Store) : callN P N 5 [.int m] S = .ok (.ref S.length) (S ++ [.lst (fl m)]) := by
  refine call_at (d := fd5) hN rfl rfl fun n e => ?_
  generalize callN P n = cl
  show (exB P cl [] fd5.body [some (.int m), none, none] S).fin = _
  unfold fd5
  obtain ⟨o, e⟩ := p3 cl m hm S
  rw [s_asg (p1 _ m S) (by rw [bindT]), s_for (p2 _ m hm _ _ rfl)]
  show ((forL [] _ _ [some (.int m), some (.ref S.length), none] _).then _).fin = _
  rw [e]
  show ((exB P cl [] _ _ _)).fin = _
  rw [s_ret (w := .ref S.length) (S1 := S ++ [.lst (fl m)]) (by simp [evE])]
  rfl
theorem orders_many_ok {N m : Nat} (hN : 3 ≤ N) (hm : m ≤ 20) (S : Store) : callN P N 6 [.int m] S = .ok (.int (fct m : Nat)) (S ++ [.lst (fl m)]) := by
  refine call_at (d := fd6) (by omega) rfl rfl fun n e => ?_
  have h1 := within_ok (N := n) (by omega) m 0 20 S
  have h2 := products_ok (N := n) (by omega) hm S
  have h : (decide ((0 : Int) ≤ (m : Int)) && decide ((m : Int) ≤ 20)) = true := by simp; omega
  rw [h] at h1
  generalize callN P n = cl at h1 h2
  show (exB P cl [] fd6.body [some (.int m)] S).fin = _
  unfold fd6
  rw [s_ifF (S1 := S) (by simp only [evE, evEs, tst, List.getElem?_cons_zero, R.bind_ok, h1, truth]; rfl)]
  rw [s_ret (w := .int (fct m : Nat)) (S1 := S ++ [.lst (fl m)]) (by simp only [evE, evEs, List.getElem?_cons_zero, R.bind_ok, h2, index, List.getElem?_concat_length, atW_nat, fl_get (Nat.le_refl m), okO])]
  rfl
end K86
end
section
set_option Elab.async false
set_option linter.all false
set_option maxRecDepth 100000
set_option maxHeartbeats 4000000
set_option exponentiation.threshold 5000
namespace K86
open PySem Mp
theorem nlt_big {i : Int} (h1 : -2432902008176640000 ≤ i) (h2 : i ≤ 2432902008176640000) : i.natAbs < big := lt_big (by omega)
/-- the well at a, after at most k draws -/
def Well (S : Store) (a k : Nat) : Prop := ∃ x y z : Int, S[a]? = some (.lst [.int x, .int y, .int z]) ∧ 0 ≤ y ∧ y < 2147483629 ∧ 0 ≤ z ∧ z ≤ (k : Nat)
def Off (a : Nat) (S S' : Store) : Prop := S'.length = S.length ∧ ∀ b, b ≠ a → S'[b]? = S[b]?
theorem lt_of_get {S : Store} {a : Nat} {o : Ob} (h : S[a]? = some o) : a < S.length := (List.getElem?_eq_some_iff.mp h).1
theorem set_get {S : Store} {a : Nat} {o o' : Ob} (h : S[a]? = some o) : (S.set a o')[a]? = some o' := by rw [List.getElem?_set_self (lt_of_get h)]
theorem off_set {S : Store} {a : Nat} {o : Ob} : Off a S (S.set a o) := ⟨by simp, fun b hb => List.getElem?_set_ne (fun z => hb z.symm)⟩
theorem draw1 (cl : Nat → List W → Store → R W) (S : Store) (a : Nat) (x y z many : Int) (h : S[a]? = some (.lst [.int x, .int y, .int z])) (hx : 0 < x) (hm : 0 < many) (hb : many ≤ 2432902008176640000) :
    (exB P cl [] fd19.body [some (.ref a), some (.int many), none] S).fin = .ok (.int (x % many)) (S.set a (.lst [.int (x / many), .int y, .int z])) := by
  have g : 0 < many ∧ many.natAbs < big := ⟨hm, nlt_big (by omega) hb⟩
  have i0 : index (.ref a) (.int 0) S = .ok (.int x) S := by simp [index, h, atW, ixN, okO]
  unfold fd19
  rw [s_ifT (S1 := S) (by simp [evE, tst, i0, cmp, truth, hx])]
  rw [s_asg (w := .int (x % many)) (S1 := S) (ρ' := [some (.ref a), some (.int many), some (.int (x % many))]) (by simp [evE, i0, bin, guardR, hm]) (by simp [bindT])]
  rw [s_setS (v := .int (x / many)) (x := .ref a) (y := .int 0) (S1 := S) (S2 := S) (S3 := S) (S4 := S.set a (.lst [.int (x / many), .int y, .int z])) (by simp [evE, i0, bin, guardR, g]) (by simp [evE]) (by simp [evE]) (by simp [setAt, h, ixN])]
  rw [s_ret (w := .int (x % many)) (S1 := S.set a (.lst [.int (x / many), .int y, .int z])) (by simp [evE])]
  rfl
theorem draw2 (cl : Nat → List W → Store → R W) (S : Store) (a k : Nat) (x y z many : Int) (h : S[a]? = some (.lst [.int x, .int y, .int z])) (hx : ¬ 0 < x) (hm : 0 < many) (y1 : 0 ≤ y) (y2 : y < 2147483629) (z1 : 0 ≤ z) (z2 : z ≤ 1000000) :
    ∃ r : Int, (exB P cl [] fd19.body [some (.ref a), some (.int many), none] S).fin = .ok (.int r) (S.set a (.lst [.int x, .int y, .int (z + 1)])) ∧ 0 ≤ r ∧ r < many := by
  have i0 : index (.ref a) (.int 0) S = .ok (.int x) S := by simp [index, h, atW, ixN, okO]
  have i2 : index (.ref a) (.int 2) S = .ok (.int z) S := by simp [index, h, atW, ixN, okO]
  have h' : (S.set a (.lst [.int x, .int y, .int (z + 1)]))[a]? = some (.lst [.int x, .int y, .int (z + 1)]) := set_get h
  have j1 : index (.ref a) (.int 1) (S.set a (.lst [.int x, .int y, .int (z + 1)])) = .ok (.int y) (S.set a (.lst [.int x, .int y, .int (z + 1)])) := by simp [index, h', atW, ixN, okO]
  have j2 : index (.ref a) (.int 2) (S.set a (.lst [.int x, .int y, .int (z + 1)])) = .ok (.int (z + 1)) (S.set a (.lst [.int x, .int y, .int (z + 1)])) := by simp [index, h', atW, ixN, okO]
  obtain ⟨n1, e1⟩ : ∃ n1 : Int, n1 = (y * 69621 + 32452843 * (z + 1) + 11) % 2147483647 := ⟨_, rfl⟩
  have b1 : 0 ≤ n1 ∧ n1 < 2147483647 := by omega
  obtain ⟨n2, e2⟩ : ∃ n2 : Int, n2 = (n1 * n1 + 49979687 * (z + 1) + 5) % 2147483629 := ⟨_, rfl⟩
  have b2 : 0 ≤ n2 ∧ n2 < 2147483629 := by
    rw [e2]
    exact ⟨Int.emod_nonneg _ (by decide), Int.emod_lt_of_pos _ (by decide)⟩
  have g1 : y.natAbs < big ∧ (69621 : Int).natAbs < big := ⟨nlt_big (by omega) (by omega), nlt_big (by decide) (by decide)⟩
  have g2 : (32452843 : Int).natAbs < big ∧ (z + 1).natAbs < big := ⟨nlt_big (by decide) (by decide), nlt_big (by omega) (by omega)⟩
  have g3 : n1.natAbs < big ∧ n1.natAbs < big := ⟨nlt_big (by omega) (by omega), nlt_big (by omega) (by omega)⟩
  have g4 : (49979687 : Int).natAbs < big ∧ (z + 1).natAbs < big := ⟨nlt_big (by decide) (by decide), nlt_big (by omega) (by omega)⟩
  have g5 : n2.natAbs < big ∧ n2.natAbs < big := ⟨nlt_big (by omega) (by omega), nlt_big (by omega) (by omega)⟩
  refine ⟨n2 * n2 % 2147483587 % many, ?_, Int.emod_nonneg _ (by omega), Int.emod_lt_of_pos _ hm⟩
  unfold fd19
  rw [s_ifF (S1 := S) (by simp [evE, tst, i0, cmp, truth, hx])]
  rw [s_setS (v := .int (z + 1)) (x := .ref a) (y := .int 2) (S1 := S) (S2 := S) (S3 := S) (S4 := S.set a (.lst [.int x, .int y, .int (z + 1)])) (by simp [evE, i2, bin]) (by simp [evE]) (by simp [evE]) (by simp [setAt, h, ixN])]
  rw [s_asg (w := .int n1) (S1 := S.set a (.lst [.int x, .int y, .int (z + 1)])) (ρ' := [some (.ref a), some (.int many), some (.int n1)]) (by
    simp only [evE, List.getElem?_cons_zero, R.bind_ok, j1, j2, b_add, b_mul g1.1 g1.2, b_mul g2.1 g2.2]
    rw [b_mod (by decide), e1]) (by simp [bindT])]
  rw [s_asg (w := .int n2) (S1 := S.set a (.lst [.int x, .int y, .int (z + 1)])) (ρ' := [some (.ref a), some (.int many), some (.int n2)]) (by
    simp only [evE, List.getElem?_cons_zero, List.getElem?_cons_succ, R.bind_ok, j2, b_add, b_mul g3.1 g3.2, b_mul g4.1 g4.2]
    rw [b_mod (by decide), e2]) (by simp [bindT])]
  rw [s_ret (w := .int (n2 * n2 % 2147483587 % many)) (S1 := S.set a (.lst [.int x, .int y, .int (z + 1)])) (by
    simp only [evE, List.getElem?_cons_zero, List.getElem?_cons_succ, R.bind_ok, b_mul g5.1 g5.2, b_mod (show (0 : Int) < 2147483587 by decide), b_mod hm])]
  rfl
theorem draw_ok {N : Nat} (hN : 1 ≤ N) {S : Store} {a k : Nat} {many : Int} (h : Well S a k) (hk : k ≤ 1000000) (hm : 0 < many) (hb : many ≤ 2432902008176640000) :
    ∃ (r : Int) (S' : Store), callN P N 19 [.ref a, .int many] S = .ok (.int r) S' ∧ 0 ≤ r ∧ r < many ∧ Well S' a (k + 1) ∧ Off a S S' := by
  obtain ⟨x, y, z, h, y1, y2, z1, z2⟩ := h
  by_cases hx : 0 < x
  · refine ⟨_, _, call_at (d := fd19) hN rfl rfl fun n e => draw1 (callN P n) S a x y z many h hx hm hb, Int.emod_nonneg _ (by omega), Int.emod_lt_of_pos _ hm, ⟨_, y, z, set_get h, y1, y2, z1, by omega⟩, off_set⟩
  · obtain ⟨r, _, r1, r2⟩ := draw2 (fun _ _ _ => .bad) S a k x y z many h hx hm y1 y2 z1 (by omega)
    cases N with
    | zero => omega
    | succ n =>
      obtain ⟨r, e, r1, r2⟩ := draw2 (callN P n) S a k x y z many h hx hm y1 y2 z1 (by omega)
      exact ⟨r, _, call_of (d := fd19) rfl rfl e, r1, r2, ⟨x, y, z + 1, set_get h, y1, y2, by omega, by omega⟩, off_set⟩
theorem well_ok {N : Nat} (hN : 1 ≤ N) (c : Int) (S : Store) : ∃ x : Int, callN P N 18 [.int c] S = .ok (.ref S.length) (S ++ [.lst [.int x, .int (c % 2147483629), .int 0]]) := by
  by_cases hc : 1000000000000000000 ≤ c
  · refine ⟨c, call_at (d := fd18) hN rfl rfl fun n e => ?_⟩
    generalize callN P n = cl
    show (exB P cl [] fd18.body [some (.int c)] S).fin = _
    unfold fd18
    rw [s_ifT (S1 := S) (by simp [evE, tst, cmp, truth, bin, guardR, smallPow, hc])]
    rw [s_ret (w := .ref S.length) (S1 := S ++ [.lst [.int c, .int (c % 2147483629), .int 0]]) (by simp [evE, evEs, bin, guardR, newLst, lim])]
    rfl
  · refine ⟨0, call_at (d := fd18) hN rfl rfl fun n e => ?_⟩
    generalize callN P n = cl
    show (exB P cl [] fd18.body [some (.int c)] S).fin = _
    unfold fd18
    rw [s_ifF (S1 := S) (by simp [evE, tst, cmp, truth, bin, guardR, smallPow, hc])]
    rw [s_ret (w := .ref S.length) (S1 := S ++ [.lst [.int 0, .int (c % 2147483629), .int 0]]) (by simp [evE, evEs, bin, guardR, newLst, lim])]
    rfl
theorem well_is {S : Store} {x c : Int} : Well (S ++ [.lst [.int x, .int (c % 2147483629), .int 0]]) S.length 0 :=
  ⟨x, c % 2147483629, 0, by simp, Int.emod_nonneg _ (by decide), Int.emod_lt_of_pos _ (by decide), by decide, by decide⟩
end K86
end
section
set_option Elab.async false
set_option linter.all false
set_option maxRecDepth 100000
set_option maxHeartbeats 4000000
set_option exponentiation.threshold 5000
namespace K86
open PySem Mp
/-- how many of the states ahead of n have each rest -/
def cw (b : Nat) : Nat → List Int
  | 0 => List.replicate b 0
  | n + 1 => (cw b n).set (n % b) ((cw b n).getD (n % b) 0 + 1)
theorem cw_len (b : Nat) : ∀ n, (cw b n).length = b
  | 0 => by simp [cw]
  | n + 1 => by rw [cw, List.length_set, cw_len b n]
def cwW (b n : Nat) : List W := (cw b n).map .int
theorem cwW_len (b n : Nat) : (cwW b n).length = b := by unfold cwW; rw [List.length_map, cw_len]
theorem cwW_get {b n k : Nat} (h : k < b) : (cwW b n)[k]? = some (.int ((cw b n).getD k 0)) := by
  unfold cwW
  rw [List.getElem?_map]
  have : k < (cw b n).length := by rw [cw_len]; exact h
  simp [List.getD, this]
theorem cwW_succ (b n : Nat) : cwW b (n + 1) = (cwW b n).set (n % b) (.int ((cw b n).getD (n % b) 0 + 1)) := by
  unfold cwW
  rw [cw, List.map_set]
theorem rep_flat {α : Type} (x : α) : ∀ n : Nat, (List.replicate n [x]).flatten = List.replicate n x
  | 0 => rfl
  | n + 1 => by rw [List.replicate_succ, List.flatten_cons, rep_flat x n, List.replicate_succ]; rfl
theorem mul_zeros {S : Store} {b : Nat} (hb : b ≤ 4096) : bin .mul (.ref S.length) (.int b) (S ++ [.lst [.int 0]]) = .ok (.ref (S ++ [Ob.lst [.int 0]]).length) (S ++ [.lst [.int 0]] ++ [.lst (cwW b 0)]) := by
  simp only [bin, List.getElem?_concat_length]
  rw [guardR_pos ⟨by omega, by omega, by simp [lim]; omega⟩]
  unfold cwW cw
  rw [show (b : Int).toNat = b by omega, rep_flat, List.map_replicate]
theorem list0 {cl : Nat → List W → Store → R W} {ρ : Rho} {S : Store} : evE P cl [] (.lstE (.cons (.cst (.int 0)) .nil)) ρ S = .ok (.ref S.length) (S ++ [.lst [.int 0]]) := by simp [evE, evEs, newLst, lim]
theorem shl1 {w : Nat} {S : Store} (hw : w ≤ 100000) : bin .shl (.int 1) (.int (w : Nat)) S = .ok (.int ((2 ^ w : Nat) : Int)) S := by
  rw [b_shl (by omega) (by omega) (nlt_big (by decide) (by decide))]
  simp
theorem get_at {S : Store} {L : List W} {k : Nat} {w : W} (h : L[k]? = some w) : getAt (.ref S.length) (.int (k : Nat)) (S ++ [.lst L]) = .ok w (S ++ [.lst L]) := by
  simp only [getAt, index, List.getElem?_concat_length, atW_nat, h, okO]
theorem set_at {S : Store} {L : List W} {k : Nat} {w : W} (h : k < L.length) : setAt (.ref S.length) (.int (k : Nat)) w (S ++ [.lst L]) = .ok () (S ++ [.lst (L.set k w)]) := by
  simp only [setAt, List.getElem?_concat_length, ixN_nat, if_pos h, set_last]
theorem pow_small {w : Nat} (hw : w ≤ 60) : (2 ^ w : Nat) ≤ 1152921504606846976 := by
  have := Nat.pow_le_pow_right (n := 2) (by decide) hw
  exact Nat.le_trans this (by decide)
theorem lean_step (cl : Nat → List W → Store → R W) (b w j : Nat) (hb : 0 < b) (o : Option W) (S : Store) :
    forB P cl [] (.nm 3) (.cons (.augS (.var 2) (.bin .mod (.var 3) (.var 0)) .add (.cst (.int 1))) .nil) (.int (0 + (j : Nat) * 1)) [some (.int b), some (.int w), some (.ref S.length), o] (S ++ [.lst (cwW b j)]) =
      .nx [some (.int b), some (.int w), some (.ref S.length), some (.int (0 + (j : Nat) * 1))] (S ++ [.lst (cwW b (j + 1))]) := by
  have hk : j % b < b := Nat.mod_lt _ hb
  have e : ((0 + (j : Nat) * 1 : Int)) % (b : Nat) = ((j % b : Nat) : Int) := by simp
  unfold forB
  simp only [bindT, List.set]
  rw [s_augS (x := .ref S.length) (y := .int ((j % b : Nat) : Int)) (u := .int ((cw b j).getD (j % b) 0)) (v := .int 1) (z := .int ((cw b j).getD (j % b) 0 + 1)) (S1 := S ++ [.lst (cwW b j)]) (S2 := S ++ [.lst (cwW b j)]) (S3 := S ++ [.lst (cwW b j)]) (S4 := S ++ [.lst (cwW b j)]) (S5 := S ++ [.lst (cwW b j)])
    (S6 := S ++ [.lst (cwW b (j + 1))]) (by simp [evE]) (by
      simp only [evE, List.getElem?_cons_zero, List.getElem?_cons_succ, R.bind_ok]
      rw [b_mod (by omega), e]) (get_at (cwW_get hk)) (by rw [evE]) rfl (by rw [cwW_succ]; exact set_at (by rw [cwW_len]; exact hk)), s_nil]
theorem needs_ok {N : Nat} {f : Nat} (hN : 3 ≤ N) {b most : Int} (S : Store) (h : (f = 12 ∧ 1 ≤ b) ∨ (f = 13 ∧ 4 ≤ b)) (hm : b ≤ most) : callN P N f [.int b, .int most] S = .ok .non S := by
  rcases h with ⟨rfl, h⟩ | ⟨rfl, h⟩
  · refine call_at (d := fd12) (by omega) rfl rfl fun n e => ?_
    have h1 := within_ok (N := n) (by omega) b 1 most S
    generalize callN P n = cl at h1
    show (exB P cl [] fd12.body [some (.int b), some (.int most)] S).fin = _
    unfold fd12
    rw [s_ifF (S1 := S) (by simp [evE, evEs, tst, h1, truth]; omega), s_nil]
    rfl
  · refine call_at (d := fd13) (by omega) rfl rfl fun n e => ?_
    have h1 := within_ok (N := n) (by omega) b 4 most S
    generalize callN P n = cl at h1
    show (exB P cl [] fd13.body [some (.int b), some (.int most)] S).fin = _
    unfold fd13
    rw [s_ifF (S1 := S) (by simp [evE, evEs, tst, h1, truth]; omega), s_nil]
    rfl
theorem lean_for (cl : Nat → List W → Store → R W) (b w k : Nat) (hb : 0 < b) (S : Store) : ∃ o, forL [] (forB P cl [] (.nm 3) (.cons (.augS (.var 2) (.bin .mod (.var 3) (.var 0)) .add (.cst (.int 1))) .nil)) (rangeW 0 1 k) [some (.int b), some (.int w), some (.ref S.length), none] (S ++ [.lst (cwW b 0)]) =
    .nx [some (.int b), some (.int w), some (.ref S.length), o] (S ++ [.lst (cwW b k)]) := by
  obtain ⟨ρ', S', e, ⟨o, h1⟩, h2⟩ := forL_to (gs := []) (f := forB P cl [] (.nm 3) (.cons (.augS (.var 2) (.bin .mod (.var 3) (.var 0)) .add (.cst (.int 1))) .nil)) (ws := rangeW 0 1 k)
    (ρ := [some (.int b), some (.int w), some (.ref S.length), none]) (S := S ++ [.lst (cwW b 0)]) (fun j ρ S' => (∃ o, ρ = [some (.int b), some (.int w), some (.ref S.length), o]) ∧ S' = S ++ [.lst (cwW b j)]) ⟨⟨_, rfl⟩, rfl⟩ (fun _ _ _ _ => stands_nil) (fun j x ρ S' hx ⟨⟨o, h1⟩, h2⟩ => by
      obtain ⟨hj, rfl⟩ := rangeW_get _ _ _ _ _ hx
      subst h1 h2
      exact ⟨_, _, .inl (lean_step cl b w j hb o S), ⟨_, rfl⟩, rfl⟩)
  rw [rangeW_length] at h2
  exact ⟨o, by rw [e, h1, h2]⟩
theorem leaning_ok {N b w : Nat} (hN : 4 ≤ N) (hb : 1 ≤ b) (hb2 : b ≤ 4096) (hw : 4 ≤ w) (hw2 : w ≤ 12) (S : Store) : callN P N 14 [.int b, .int w] S = .ok (.ref (S.length + 1)) (S ++ [.lst [.int 0]] ++ [.lst (cwW b (2 ^ w))]) := by
  refine call_at (d := fd14) (by omega) rfl rfl fun n e => ?_
  have h1 := needs_ok (N := n) (f := 12) (b := b) (most := 4096) (by omega) S (.inl ⟨rfl, by omega⟩) (by omega)
  have h2 := needs_ok (N := n) (f := 13) (b := w) (most := 12) (by omega) S (.inr ⟨rfl, by omega⟩) (by omega)
  generalize callN P n = cl at h1 h2
  show (exB P cl [] fd14.body [some (.int b), some (.int w), none, none] S).fin = _
  unfold fd14
  rw [s_expr (w := .non) (S1 := S) (by simp only [evE, evEs, List.getElem?_cons_zero, R.bind_ok, h1])]
  rw [s_expr (w := .non) (S1 := S) (by simp only [evE, evEs, List.getElem?_cons_zero, List.getElem?_cons_succ, R.bind_ok, h2])]
  rw [s_asg (w := .ref (S ++ [Ob.lst [.int 0]]).length) (S1 := S ++ [.lst [.int 0]] ++ [.lst (cwW b 0)]) (ρ' := [some (.int b), some (.int w), some (.ref (S ++ [Ob.lst [.int 0]]).length), none]) (by
    rw [evE, list0, R.bind_ok, evE]
    exact mul_zeros hb2) (by simp [bindT])]
  have hp := pow_small (w := w) (by omega)
  have hs : ∀ S, bin .shl (.int 1) (.int (w : Nat)) S = .ok (.int ((2 ^ w : Nat) : Int)) S := fun S => shl1 (by omega)
  generalize 2 ^ w = K at hp hs
  rw [s_for (evit_range1 (j := (K : Int)) (S2 := S ++ [.lst [.int 0]] ++ [.lst (cwW b 0)]) (by
    simp only [evE, List.getElem?_cons_zero, List.getElem?_cons_succ, R.bind_ok]
    exact hs _) ⟨by omega, by omega⟩)]
  obtain ⟨o, e⟩ := lean_for cl b w K (by omega) (S ++ [Ob.lst [.int 0]])
  rw [show ((K : Nat) : Int).toNat = K by omega, e]
  show ((exB P cl [] _ _ _)).fin = _
  rw [s_ret (w := .ref (S ++ [Ob.lst [.int 0]]).length) (S1 := S ++ [.lst [.int 0]] ++ [.lst (cwW b K)]) (by simp [evE])]
  simp [RS.fin]
end K86
end
section
set_option Elab.async false
set_option linter.all false
set_option maxRecDepth 100000
set_option maxHeartbeats 4000000
set_option exponentiation.threshold 5000
namespace K86
open PySem Mp
theorem mod_next {b j : Nat} (hb : 0 < b) : (((j % b : Nat) : Int) + 1) * (if decide (((j % b : Nat) : Int) + 1 < (b : Int)) = true then 1 else 0) = (((j + 1) % b : Nat) : Int) := by
  have h0 := Nat.mod_lt j hb
  have e : (j + 1) % b = (j % b + 1) % b := by simp
  by_cases h : j % b + 1 < b
  · rw [if_pos (by simp; omega), e, Nat.mod_eq_of_lt h]; omega
  · have h1 : j % b + 1 = b := by omega
    rw [if_neg (by simp; omega), e, h1, Nat.mod_self]; simp
theorem int_bl {b : Bool} {S : Store} : biF .int [.bl b] S = .ok (.int (if b = true then 1 else 0)) S := rfl
abbrev lbody : B := .cons (.setS (.var 2) (.var 3) (.bin .add (.idx (.var 2) (.var 3)) (.cst (.int 1)))) (.cons (.asg (.nm 3) (.bin .mul (.bin .add (.var 3) (.cst (.int 1))) (.bi .int (.cons (.cmp .lt (.bin .add (.var 3) (.cst (.int 1))) (.var 0)) .nil)))) .nil)
theorem llean_step (cl : Nat → List W → Store → R W) (b w j : Nat) (hb : 0 < b) (hb2 : b ≤ 4096) (o : Option W) (S : Store) :
    forB P cl [] (.nm 4) lbody (.int (0 + (j : Nat) * 1)) [some (.int b), some (.int w), some (.ref S.length), some (.int ((j % b : Nat) : Int)), o] (S ++ [.lst (cwW b j)]) =
      .nx [some (.int b), some (.int w), some (.ref S.length), some (.int (((j + 1) % b : Nat) : Int)), some (.int (0 + (j : Nat) * 1))] (S ++ [.lst (cwW b (j + 1))]) := by
  have hk : j % b < b := Nat.mod_lt _ hb
  have hg := get_at (S := S) (cwW_get (n := j) hk)
  have hi : index (.ref S.length) (.int ((j % b : Nat) : Int)) (S ++ [.lst (cwW b j)]) = .ok (.int ((cw b j).getD (j % b) 0)) (S ++ [.lst (cwW b j)]) := hg
  unfold forB lbody
  simp only [bindT, List.set]
  rw [s_setS (v := .int ((cw b j).getD (j % b) 0 + 1)) (x := .ref S.length) (y := .int ((j % b : Nat) : Int)) (S1 := S ++ [.lst (cwW b j)]) (S2 := S ++ [.lst (cwW b j)]) (S3 := S ++ [.lst (cwW b j)]) (S4 := S ++ [.lst (cwW b (j + 1))])
    (by simp only [evE, List.getElem?_cons_zero, List.getElem?_cons_succ, R.bind_ok, hi, b_add]) (by simp [evE]) (by simp [evE]) (by rw [cwW_succ]; exact set_at (by rw [cwW_len]; exact hk))]
  rw [s_asg (w := .int (((j + 1) % b : Nat) : Int)) (S1 := S ++ [.lst (cwW b (j + 1))]) (ρ' := [some (.int b), some (.int w), some (.ref S.length), some (.int (((j + 1) % b : Nat) : Int)), some (.int (0 + (j : Nat) * 1))]) (by
    simp only [evE, evEs, List.getElem?_cons_zero, List.getElem?_cons_succ, R.bind_ok, b_add, c_lt, int_bl]
    rw [b_mul (nlt_big (by omega) (by omega)) (nlt_big (by split <;> decide) (by split <;> decide)), mod_next hb]) (by simp [bindT]), s_nil]
theorem llean_for (cl : Nat → List W → Store → R W) (b w k : Nat) (hb : 0 < b) (hb2 : b ≤ 4096) (S : Store) : ∃ o p, forL [] (forB P cl [] (.nm 4) lbody) (rangeW 0 1 k) [some (.int b), some (.int w), some (.ref S.length), some (.int 0), none] (S ++ [.lst (cwW b 0)]) =
    .nx [some (.int b), some (.int w), some (.ref S.length), o, p] (S ++ [.lst (cwW b k)]) := by
  obtain ⟨ρ', S', e, ⟨o, h1⟩, h2⟩ := forL_to (gs := []) (f := forB P cl [] (.nm 4) lbody) (ws := rangeW 0 1 k)
    (ρ := [some (.int b), some (.int w), some (.ref S.length), some (.int 0), none]) (S := S ++ [.lst (cwW b 0)]) (fun j ρ S' => (∃ o, ρ = [some (.int b), some (.int w), some (.ref S.length), some (.int ((j % b : Nat) : Int)), o]) ∧ S' = S ++ [.lst (cwW b j)]) ⟨⟨none, by simp⟩, rfl⟩ (fun _ _ _ _ => stands_nil) (fun j x ρ S' hx ⟨⟨o, h1⟩, h2⟩ => by
      obtain ⟨hj, rfl⟩ := rangeW_get _ _ _ _ _ hx
      subst h1 h2
      exact ⟨_, _, .inl (llean_step cl b w j hb hb2 o S), ⟨_, rfl⟩, rfl⟩)
  rw [rangeW_length] at h2
  exact ⟨_, o, by rw [e, h1, h2]⟩
theorem lleaning_ok {N b w : Nat} (hN : 1 ≤ N) (hb : 1 ≤ b) (hb2 : b ≤ 4096) (hw2 : w ≤ 12) (S : Store) : callN P N 23 [.int b, .int w] S = .ok (.ref (S.length + 1)) (S ++ [.lst [.int 0]] ++ [.lst (cwW b (2 ^ w))]) := by
  refine call_at (d := fd23) (by omega) rfl rfl fun n e => ?_
  generalize callN P n = cl
  show (exB P cl [] fd23.body [some (.int b), some (.int w), none, none, none] S).fin = _
  unfold fd23
  rw [s_asg (w := .ref (S ++ [Ob.lst [.int 0]]).length) (S1 := S ++ [.lst [.int 0]] ++ [.lst (cwW b 0)]) (ρ' := [some (.int b), some (.int w), some (.ref (S ++ [Ob.lst [.int 0]]).length), none, none]) (by
    rw [evE, list0, R.bind_ok, evE]
    exact mul_zeros hb2) (by simp [bindT])]
  rw [s_asg (w := .int 0) (S1 := S ++ [.lst [.int 0]] ++ [.lst (cwW b 0)]) (ρ' := [some (.int b), some (.int w), some (.ref (S ++ [Ob.lst [.int 0]]).length), some (.int 0), none]) (by rw [evE]) (by simp [bindT])]
  have hp := pow_small (w := w) (by omega)
  have hs : ∀ S, bin .shl (.int 1) (.int (w : Nat)) S = .ok (.int ((2 ^ w : Nat) : Int)) S := fun S => shl1 (by omega)
  generalize 2 ^ w = K at hp hs
  rw [s_for (evit_range1 (j := (K : Int)) (S2 := S ++ [.lst [.int 0]] ++ [.lst (cwW b 0)]) (by
    simp only [evE, List.getElem?_cons_zero, List.getElem?_cons_succ, R.bind_ok]
    exact hs _) ⟨by omega, by omega⟩)]
  obtain ⟨o, p, e⟩ := llean_for cl b w K (by omega) hb2 (S ++ [Ob.lst [.int 0]])
  rw [show ((K : Nat) : Int).toNat = K by omega, e]
  show ((exB P cl [] _ _ _)).fin = _
  rw [s_ret (w := .ref (S ++ [Ob.lst [.int 0]]).length) (S1 := S ++ [.lst [.int 0]] ++ [.lst (cwW b K)]) (by simp [evE])]
  simp [RS.fin]
theorem intsOf_map : ∀ l : List Int, intsOf (l.map .int) = some l
  | [] => rfl
  | i :: r => by
    rw [List.map_cons]
    show (intsOf (r.map .int)).map (i :: ·) = _
    rw [intsOf_map r]; rfl
/-- the greatest, the least of a list -/
theorem max_at {S : Store} {a : Nat} {l : List Int} (h : S[a]? = some (.lst (l.map .int))) (hl : l ≠ []) : biF .max1 [.ref a] S = .ok (.int (maxI l)) S := by
  cases l with
  | nil => exact absurd rfl hl
  | cons i r => simp only [biF, listAt, h, Option.bind, intsOf_map]
theorem min_at {S : Store} {a : Nat} {l : List Int} (h : S[a]? = some (.lst (l.map .int))) (hl : l ≠ []) : biF .min1 [.ref a] S = .ok (.int (minI l)) S := by
  cases l with
  | nil => exact absurd rfl hl
  | cons i r => simp only [biF, listAt, h, Option.bind, intsOf_map]
theorem cw_ne {b n : Nat} (hb : 1 ≤ b) : cw b n ≠ [] := fun z => by
  have := cw_len b n
  rw [z] at this
  simp at this; omega
theorem most_ok {N b w : Nat} (hN : 5 ≤ N) (hb : 1 ≤ b) (hb2 : b ≤ 4096) (hw : 4 ≤ w) (hw2 : w ≤ 12) (S : Store) : callN P N 15 [.int b, .int w] S = .ok (.int (maxI (cw b (2 ^ w)) - minI (cw b (2 ^ w)))) (S ++ [.lst [.int 0]] ++ [.lst (cwW b (2 ^ w))]) := by
  refine call_at (d := fd15) (by omega) rfl rfl fun n e => ?_
  have h1 := leaning_ok (N := n) (by omega) hb hb2 hw hw2 S
  have hg : (S ++ [.lst [.int 0]] ++ [.lst (cwW b (2 ^ w))])[S.length + 1]? = some (.lst ((cw b (2 ^ w)).map .int)) := by
    rw [show S.length + 1 = (S ++ [Ob.lst [.int 0]]).length by simp, List.getElem?_concat_length]; rfl
  have h2 := max_at hg (cw_ne hb)
  have h3 := min_at hg (cw_ne hb)
  generalize callN P n = cl at h1
  generalize 2 ^ w = K at h1 h2 h3
  show (exB P cl [] fd15.body [some (.int b), some (.int w), none] S).fin = _
  unfold fd15
  rw [s_asg (w := .ref (S.length + 1)) (S1 := S ++ [.lst [.int 0]] ++ [.lst (cwW b K)]) (ρ' := [some (.int b), some (.int w), some (.ref (S.length + 1))]) (by
    simp only [evE, evEs, List.getElem?_cons_zero, List.getElem?_cons_succ, R.bind_ok, h1]) (by simp [bindT])]
  rw [s_ret (w := .int (maxI (cw b K) - minI (cw b K))) (S1 := S ++ [.lst [.int 0]] ++ [.lst (cwW b K)]) (by
    simp only [evE, evEs, List.getElem?_cons_zero, List.getElem?_cons_succ, R.bind_ok, h2, h3, b_sub])]
  rfl
end K86
end
section
set_option Elab.async false
set_option linter.all false
set_option maxRecDepth 100000
set_option maxHeartbeats 4000000
set_option exponentiation.threshold 5000
namespace K86
open PySem Mp
theorem lwhole_ok {N : Nat} (hN : 1 ≤ N) (i : Int) (S : Store) : callN P N 21 [.int i] S = .ok (.bl true) S := by
  refine call_at (d := fd21) hN rfl rfl fun n e => ?_
  simp [fd21, exB, exS, evE, evAnd, tst, truth, okB, isTys, isTy, R.st, RS.then, RS.fin]
theorem pow64 {w : Nat} (hw : w ≤ 64) : (2 ^ w : Nat) ≤ 18446744073709551616 := by
  have := Nat.pow_le_pow_right (n := 2) (by decide) hw
  exact Nat.le_trans this (by decide)
theorem lt_big2 {n : Nat} (h : n ≤ 340282366920938463463374607431768211456) : n < big := Nat.lt_of_le_of_lt h (by unfold big; exact Nat.lt_of_lt_of_le (by decide : 340282366920938463463374607431768211456 < 2 ^ 129) (Nat.pow_le_pow_right (by decide) (by decide)))
theorem fair_ok {N b w : Nat} (hN : 4 ≤ N) (hb : 1 ≤ b) (hb2 : b ≤ 2 ^ w) (hw : 4 ≤ w) (hw2 : w ≤ 64) (S : Store) : callN P N 16 [.int b, .int w] S = .ok (.tup [.int ((2 ^ w / b : Nat) : Int), .int ((2 ^ w % b : Nat) : Int)]) S := by
  refine call_at (d := fd16) (by omega) rfl rfl fun n e => ?_
  have hp := pow64 hw2
  have h1 := needs_ok (N := n) (f := 12) (b := b) (most := 18446744073709551616) (by omega) S (.inl ⟨rfl, by omega⟩) (by omega)
  have h2 := needs_ok (N := n) (f := 13) (b := w) (most := 64) (by omega) S (.inr ⟨rfl, by omega⟩) (by omega)
  have hs : ∀ S, bin .shl (.int 1) (.int (w : Nat)) S = .ok (.int ((2 ^ w : Nat) : Int)) S := fun S => shl1 (by omega)
  have h64 : ∀ S, bin .shl (.int 1) (.int 64) S = .ok (.int 18446744073709551616) S := fun S => by
    rw [b_shl (by decide) (by decide) (nlt_big (by decide) (by decide))]; rfl
  generalize callN P n = cl at h1 h2
  generalize 2 ^ w = K at hp hs hb2
  show (exB P cl [] fd16.body [some (.int b), some (.int w), none, none, none] S).fin = _
  unfold fd16
  rw [s_expr (w := .non) (S1 := S) (by simp only [evE, evEs, List.getElem?_cons_zero, R.bind_ok, h64, h1])]
  rw [s_expr (w := .non) (S1 := S) (by simp only [evE, evEs, List.getElem?_cons_zero, List.getElem?_cons_succ, R.bind_ok, h2])]
  rw [s_asg (w := .int (K : Nat)) (S1 := S) (ρ' := [some (.int b), some (.int w), some (.int (K : Nat)), none, none]) (by simp only [evE, List.getElem?_cons_zero, List.getElem?_cons_succ, R.bind_ok, hs]) (by simp [bindT])]
  rw [s_ifF (S1 := S) (by simp only [evE, tst, List.getElem?_cons_zero, List.getElem?_cons_succ, R.bind_ok, c_gt, t_bl]; simp; omega)]
  rw [s_asg (w := .tup [.int ((K : Int) / (b : Int)), .int ((K : Int) % (b : Int))]) (S1 := S) (ρ' := [some (.int b), some (.int w), some (.int (K : Nat)), some (.int ((K : Int) / (b : Int))), some (.int ((K : Int) % (b : Int)))]) (by
    simp only [evE, evEs, List.getElem?_cons_zero, List.getElem?_cons_succ, R.bind_ok, biF]
    rw [guardR_pos ⟨by omega, lt_big2 (by omega), lt_big2 (by omega)⟩]) (by simp [bindT, bindTs])]
  rw [s_ret (w := .tup [.int ((K : Int) / (b : Int)), .int ((K : Int) % (b : Int))]) (S1 := S) (by simp [evE, evEs, newTup, lim])]
  simp [RS.fin]
theorem rest_small {K b : Nat} (hb : 1 ≤ b) (hb2 : b ≤ K) : 2 * (K % b) < K := by
  have h1 := Nat.mod_lt K (show b > 0 by omega)
  have h2 := Nat.div_add_mod K b
  have h3 : 1 ≤ K / b := Nat.div_pos hb2 (by omega)
  have h4 : b * 1 ≤ b * (K / b) := Nat.mul_le_mul_left b h3
  omega
theorem fair_right_ok {N b w : Nat} (hN : 5 ≤ N) (hb : 1 ≤ b) (hb2 : b ≤ 2 ^ w) (hw : 4 ≤ w) (hw2 : w ≤ 64) (S : Store) : callN P N 25 [.int b, .int w] S = .ok (.bl true) S := by
  refine call_at (d := fd25) (by omega) rfl rfl fun n e => ?_
  have hp := pow64 hw2
  have h1 := fair_ok (N := n) (by omega) hb hb2 hw hw2 S
  have h2 := fun i => lwhole_ok (N := n) (by omega) i S
  have hs : ∀ S, bin .shl (.int 1) (.int (w : Nat)) S = .ok (.int ((2 ^ w : Nat) : Int)) S := fun S => shl1 (by omega)
  generalize callN P n = cl at h1 h2
  generalize 2 ^ w = K at h1 hp hs hb2
  have hr := rest_small hb hb2
  have hr2 := Nat.mod_lt K (show b > 0 by omega)
  have hd := Nat.div_add_mod K b
  have hq := Nat.div_le_self K b
  generalize K / b = q at *
  generalize K % b = r at *
  have he : ((q : Nat) : Int) * (b : Nat) + (r : Nat) = (K : Nat) := by rw [← hd, Nat.mul_comm]; push_cast; rfl
  have i0 : index (.tup [.int (q : Nat), .int (r : Nat)]) (.int 0) S = .ok (.int (q : Nat)) S := by simp [index, atW, ixN, okO]
  have i1 : index (.tup [.int (q : Nat), .int (r : Nat)]) (.int 1) S = .ok (.int (r : Nat)) S := by simp [index, atW, ixN, okO]
  show (exB P cl [] fd25.body [some (.int b), some (.int w), none, none] S).fin = _
  unfold fd25
  rw [s_asg (w := .tup [.int (q : Nat), .int (r : Nat)]) (S1 := S) (ρ' := [some (.int b), some (.int w), some (.tup [.int (q : Nat), .int (r : Nat)]), none]) (by simp only [evE, evEs, List.getElem?_cons_zero, List.getElem?_cons_succ, R.bind_ok, h1]) (by simp [bindT])]
  rw [s_ifF (S1 := S) (by simp [evE, evEs, evOr, tst, isTys, isTy, okB, truth, biF, lenW, c_ne, h2, i0, i1])]
  rw [s_asg (w := .int (K : Nat)) (S1 := S) (ρ' := [some (.int b), some (.int w), some (.tup [.int (q : Nat), .int (r : Nat)]), some (.int (K : Nat))]) (by simp only [evE, List.getElem?_cons_zero, List.getElem?_cons_succ, R.bind_ok, hs]) (by simp [bindT])]
  have g1 : ((q : Nat) : Int).natAbs < big := lt_big2 (by omega)
  have g2 : ((b : Nat) : Int).natAbs < big := lt_big2 (by omega)
  have g3 : (2 : Int).natAbs < big := lt_big2 (by decide)
  have g4 : ((r : Nat) : Int).natAbs < big := lt_big2 (by omega)
  rw [s_ret (w := .bl true) (S1 := S) (by
    simp only [evE, evAnd, List.getElem?_cons_zero, List.getElem?_cons_succ, R.bind_ok, i0, i1, b_mul g1 g2, b_add, c_eq, he, t_bl, c_le, c_lt]
    simp only [decide_true, R.bind_ok]
    rw [show decide ((0 : Int) ≤ (r : Nat)) = true by simp]
    simp only [R.bind_ok, c_lt, t_bl]
    rw [show decide (((r : Nat) : Int) < (b : Nat)) = true by simp; omega]
    simp only [i1, R.bind_ok]
    rw [b_mul g3 g4]
    simp only [R.bind_ok, c_lt]
    rw [show decide ((2 : Int) * (r : Nat) < (K : Nat)) = true by simp; omega])]
  rfl
theorem cell_ok {N : Nat} (hN : 1 ≤ N) {S : Store} {ns : List Int} (h : S[0]? = some (.fro (ns.map .int))) (k : Nat) (hk : k ≤ 1000) : ∃ c : Int, callN P N 17 [.ref 0, .int k] S = .ok (.int c) S := by
  have hlen : biF .len [.ref 0] S = .ok (.int (ns.length : Nat)) S := by simp [biF, lenW, h]
  by_cases hl : k < ns.length
  · refine ⟨ns[k], call_at (d := fd17) hN rfl rfl fun n e => ?_⟩
    generalize callN P n = cl
    show (exB P cl [] fd17.body [some (.ref 0), some (.int k)] S).fin = _
    unfold fd17
    rw [s_ifT (S1 := S) (by simp only [evE, evEs, tst, List.getElem?_cons_zero, List.getElem?_cons_succ, R.bind_ok, hlen, c_lt, t_bl]; simp; exact hl)]
    rw [s_ret (w := .int ns[k]) (S1 := S) (by
      simp only [evE, List.getElem?_cons_zero, List.getElem?_cons_succ, R.bind_ok, index, h, atW_nat]
      simp [hl, okO])]
    rfl
  · refine ⟨6151 * (k : Nat) + 29, call_at (d := fd17) hN rfl rfl fun n e => ?_⟩
    generalize callN P n = cl
    show (exB P cl [] fd17.body [some (.ref 0), some (.int k)] S).fin = _
    unfold fd17
    rw [s_ifF (S1 := S) (by simp only [evE, evEs, tst, List.getElem?_cons_zero, List.getElem?_cons_succ, R.bind_ok, hlen, c_lt, t_bl]; simp; omega)]
    rw [s_ret (w := .int (6151 * (k : Nat) + 29)) (S1 := S) (by
      simp only [evE, List.getElem?_cons_zero, List.getElem?_cons_succ, R.bind_ok]
      rw [b_mul (nlt_big (by decide) (by decide)) (nlt_big (by omega) (by omega))]
      simp only [R.bind_ok, b_add])]
    rfl
end K86
end
section
set_option Elab.async false
set_option linter.all false
set_option maxRecDepth 100000
set_option maxHeartbeats 4000000
set_option exponentiation.threshold 5000
namespace K86
open PySem Mp
/-! ### equality of int lists -/
theorem ints_D (n : Nat) (S : Store) : ∀ l : List Int, (l.map W.int).mapM (toD (n + 1) S) = some (l.map PyData.int)
  | [] => rfl
  | i :: r => by
    rw [List.map_cons, List.mapM_cons, ints_D n S r]
    rfl
theorem ints_self : ∀ l : List Int, PyData.eqvAll (l.map .int) (l.map .int) = true
  | [] => rfl
  | i :: r => by
    rw [List.map_cons, PyData.eqvAll, ints_self r]
    simp [PyData.eqv]
theorem ints_lay : ∀ l : List Int, PyData.canLayAll0 (l.map .int) = true
  | [] => rfl
  | i :: r => by
    rw [List.map_cons, PyData.canLayAll0, ints_lay r]
    simp [PyData.canLay0]
theorem ints_depth : ∀ l : List Int, PyData.depthAll (l.map .int) = 0
  | [] => rfl
  | i :: r => by
    rw [List.map_cons, PyData.depthAll, ints_depth r]
    simp [PyData.depth]
theorem ints_shaped (l : List Int) : SeqAt.shaped (.list (l.map .int)) = true := by
  unfold SeqAt.shaped
  rw [PyData.canLay0, ints_lay, PyData.depth, ints_depth]
  decide
theorem eq_ints {S : Store} {a b : Nat} {l : List Int} (ha : S[a]? = some (.lst (l.map .int))) (hb : S[b]? = some (.lst (l.map .int))) : eqW S (.ref a) (.ref b) = some true := by
  have h1 : ∀ c, S[c]? = some (.lst (l.map .int)) → toD 12 S (.ref c) = some (.list (l.map .int)) := fun c h => by
    simp only [toD, listAt, h, Option.bind]
    rw [ints_D 10]; rfl
  unfold eqW
  simp only [h1 a ha, h1 b hb, ints_shaped, PyData.eqv, ints_self]
  simp
/-! ### comprehensions -/
theorem compL_grow {gs : List (Nat × Ob)} {f : W → Store → R (Option W)} {g : W → W} {S : Store} (hst : ∀ acc G, stands gs (S ++ [.lst acc] ++ G)) : ∀ (ws : List W) (acc : List W) (G : Store), acc.length + ws.length < lim →
    (∀ w ∈ ws, ∀ acc G, ∃ G', f w (S ++ [.lst acc] ++ G) = .ok (some (g w)) (S ++ [.lst acc] ++ G')) → ∃ G', compL gs S.length f ws (S ++ [.lst acc] ++ G) = .ok (.ref S.length) (S ++ [.lst (acc ++ ws.map g)] ++ G')
  | [], acc, G, hl, hf => ⟨G, by rw [compL, if_pos (hst _ _)]; simp⟩
  | w :: ws, acc, G, hl, hf => by
    obtain ⟨G1, e1⟩ := hf w (List.mem_cons_self ..) acc G
    have hget : (S ++ [Ob.lst acc] ++ G1)[S.length]? = some (.lst acc) := by
      rw [List.append_assoc, List.getElem?_append_right (Nat.le_refl _)]; simp
    have hset : (S ++ [Ob.lst acc] ++ G1).set S.length (.lst (acc ++ [g w])) = S ++ [.lst (acc ++ [g w])] ++ G1 := by
      rw [List.append_assoc, List.set_append_right _ _ (Nat.le_refl _)]; simp
    obtain ⟨G2, e2⟩ := compL_grow hst ws (acc ++ [g w]) G1 (by simp at hl ⊢; omega) fun u hu => hf u (List.mem_cons_of_mem _ hu)
    refine ⟨G2, ?_⟩
    rw [compL, if_pos (hst _ _), e1]
    simp only [R.calm, R.bind_ok, hget]
    rw [if_pos (by simp at hl; omega), hset, e2]
    simp
/-! ### alike: what is equal to itself -/
def flatD : Nat → W → Prop
  | _, .int _ => True
  | d + 1, .tup ws => ws.length < 100000 ∧ ∀ w ∈ ws, flatD d w
  | _, _ => False
abbrev zc : E := .comp [2, 3] (.tp [(.nm 2), (.nm 3)]) (.zip (.var 0) (.var 1)) .nil (.call 22 (.cons (.var 2) (.cons (.var 3) .nil)))
theorem zip_self : ∀ ws : List W, ws.zipWith (fun u v => W.tup [u, v]) ws = ws.map fun u => .tup [u, u]
  | [] => rfl
  | w :: ws => by rw [List.zipWith_cons_cons, zip_self ws, List.map_cons]
theorem ref_all {S G : Store} {ws : List W} (h : ∀ w ∈ ws, w = W.bl true) : biF .all [.ref S.length] (S ++ [.lst ws] ++ G) = .ok (.bl true) (S ++ [.lst ws] ++ G) := by
  have hget : (S ++ [Ob.lst ws] ++ G)[S.length]? = some (.lst ws) := by
    rw [List.append_assoc, List.getElem?_append_right (Nat.le_refl _)]; simp
  have hb : ∀ l : List W, (∀ w ∈ l, w = W.bl true) → blsOf l = some (l.map fun _ => true) := fun l => by
    induction l with
    | nil => intro _; rfl
    | cons w r ih =>
      intro h
      rw [h w (List.mem_cons_self ..)]
      show (blsOf r).map (true :: ·) = _
      rw [ih fun u hu => h u (List.mem_cons_of_mem _ hu)]; rfl
  simp only [biF, listAt, hget, Option.bind, hb ws h]
  simp
/-- the comprehension over equal rows -/
theorem zc_ok {cl : Nat → List W → Store → R W} {x y : W} {gs : List (Nat × Ob)} {ws : List W} {S : Store} (hl : ws.length < 100000)
    (hi : evIt P cl [] (.zip (.var 0) (.var 1)) [some x, some y, none, none] S = .ok (gs, ws.map fun u => .tup [u, u]) S) (hgs : ∀ acc G, stands gs (S ++ [.lst acc] ++ G))
    (hc : ∀ w ∈ ws, ∀ S, ∃ G, cl 22 [w, w] S = .ok (.bl true) (S ++ G)) : ∃ G, evE P cl [] zc [some x, some y, none, none] S = .ok (.ref S.length) (S ++ [.lst (ws.map fun _ => .bl true)] ++ G) := by
  obtain ⟨G, e⟩ := compL_grow (gs := gs) (g := fun _ => .bl true) (f := fun w S2 => match bindT (.tp [(.nm 2), (.nm 3)]) w (wipeR [some x, some y, none, none] [2, 3]) with
      | none => .bad
      | some ρ' => (evConds P cl [] .nil ρ' S2).bind fun b S3 => if b then (evE P cl [] (.call 22 (.cons (.var 2) (.cons (.var 3) .nil))) ρ' S3).bind fun v S4 => .ok (some v) S4 else .ok none S3) (S := S) hgs (ws.map fun u => .tup [u, u]) [] [] (by simp [lim]; omega) fun w hw acc G => by
      obtain ⟨u, hu, rfl⟩ := List.mem_map.mp hw
      obtain ⟨G', e'⟩ := hc u hu (S ++ [.lst acc] ++ G)
      refine ⟨G ++ G', ?_⟩
      simp [bindT, bindTs, wipeR, evConds, evE, evEs]
      rw [show S ++ Ob.lst acc :: G = S ++ [.lst acc] ++ G by simp, e']
      simp
  refine ⟨G, ?_⟩
  rw [evE, hi, R.bind_ok]
  rw [show S ++ [Ob.lst []] = S ++ [Ob.lst []] ++ [] by simp]
  refine e.trans ?_
  simp
theorem ev_and2 {P : Prog} {cl : Nat → List W → Store → R W} {hx : List (Nat × W)} {a b : E} {ρ : Rho} {S S1 : Store} {x : W} (h1 : evE P cl hx a ρ S = .ok x S1) (ht : truth S1 x = some true) : evE P cl hx (.andE (.cons a (.cons b .nil))) ρ S = evE P cl hx b ρ S1 := by
  rw [evE, evAnd, h1, R.bind_ok, ht]
  · simp only []
    rw [evAnd]
  · simp
theorem ev_all {P : Prog} {cl : Nat → List W → Store → R W} {hx : List (Nat × W)} {a : E} {ρ : Rho} {S S1 : Store} {x : W} (h1 : evE P cl hx a ρ S = .ok x S1) : evE P cl hx (.bi .all (.cons a .nil)) ρ S = biF .all [x] S1 := by
  rw [evE, evEs, h1, R.bind_ok, evEs]; rfl
theorem alike_flat : ∀ (d : Nat) {N : Nat} {w : W}, d + 1 ≤ N → flatD d w → ∀ S : Store, ∃ G, callN P N 22 [w, w] S = .ok (.bl true) (S ++ G)
  | d, N, .int i, hN, h, S => by
    refine ⟨[], call_at (d := fd22) (by omega) rfl rfl fun n e => ?_⟩
    generalize callN P n = cl
    show (exB P cl [] fd22.body [some (.int i), some (.int i), none, none] S).fin = _
    unfold fd22
    rw [s_ifF (S1 := S) (by simp [evE, tst, isTys, isTy, okB, truth])]
    rw [s_ifF (S1 := S) (by simp [evE, evOr, tst, cmp, isNon, truth])]
    rw [s_ret (w := .bl true) (S1 := S) (by simp [evE, evAnd, tst, isTys, isTy, okB, truth, c_eq])]
    simp [RS.fin]
  | d + 1, N, .tup ws, hN, h, S => by
    obtain ⟨hl, hw⟩ := h
    cases N with
    | zero => omega
    | succ n =>
    have hc : ∀ w ∈ ws, ∀ S, ∃ G, callN P n 22 [w, w] S = .ok (.bl true) (S ++ G) := fun w hm S => alike_flat d (by omega) (hw w hm) S
    generalize hcl : callN P n = cl at hc
    obtain ⟨G, e⟩ := zc_ok (cl := cl) (x := .tup ws) (y := .tup ws) (gs := []) (ws := ws) (S := S) hl (by simp [evIt, evE, seqSrc, okS, zip_self]) (fun _ _ => stands_nil) hc
    refine ⟨[.lst (ws.map fun _ => .bl true)] ++ G, call_of (d := fd22) rfl rfl ?_⟩
    rw [hcl]
    show (exB P cl [] fd22.body [some (.tup ws), some (.tup ws), none, none] S).fin = _
    unfold fd22
    rw [s_ifT (S1 := S) (by simp [evE, tst, isTys, isTy, okB, truth])]
    rw [s_ifF (S1 := S) (by simp [evE, evOr, tst, cmp, isTys, isTy, okB, truth, eqW])]
    rw [s_ret (w := .bl true) (S1 := S ++ [.lst (ws.map fun _ => .bl true)] ++ G) (by
      have h1 : evE P cl [] (.cmp .eq (.bi .len (.cons (.var 0) .nil)) (.bi .len (.cons (.var 1) .nil))) [some (.tup ws), some (.tup ws), none, none] S = .ok (.bl true) S := by
        simp [evE, evEs, biF, lenW, c_eq]
      rw [ev_and2 h1 rfl, ev_all e, ref_all (fun w hw => by obtain ⟨_, _, rfl⟩ := List.mem_map.mp hw; rfl)])]
    simp [RS.then, RS.fin]
  | 0, N, .tup ws, hN, h, S => h.elim
  | d, N, .non, hN, h, S => by cases d <;> exact h.elim
  | d, N, .bl _, hN, h, S => by cases d <;> exact h.elim
  | d, N, .str _, hN, h, S => by cases d <;> exact h.elim
  | d, N, .ref _, hN, h, S => by cases d <;> exact h.elim
end K86
end
section
set_option Elab.async false
set_option linter.all false
set_option maxRecDepth 100000
set_option maxHeartbeats 4000000
set_option exponentiation.threshold 5000
namespace K86
open PySem Mp
theorem get_app {S T : Store} {a : Nat} {o : Ob} (h : S[a]? = some o) : (S ++ T)[a]? = some o := by
  rw [List.getElem?_append_left (lt_of_get h)]; exact h
theorem alike_list {d N : Nat} {a b : Nat} {ws : List W} {S : Store} (hN : d + 2 ≤ N) (hl : ws.length < 100000) (hw : ∀ w ∈ ws, flatD d w) (ha : S[a]? = some (.lst ws)) (hb : S[b]? = some (.lst ws)) : ∃ G, callN P N 22 [.ref a, .ref b] S = .ok (.bl true) (S ++ G) := by
  cases N with
  | zero => omega
  | succ n =>
    have hc : ∀ w ∈ ws, ∀ S, ∃ G, callN P n 22 [w, w] S = .ok (.bl true) (S ++ G) := fun w hm S => alike_flat d (by omega) (hw w hm) S
    generalize hcl : callN P n = cl at hc
    obtain ⟨G, e⟩ := zc_ok (cl := cl) (x := .ref a) (y := .ref b) (gs := [(a, .lst ws), (b, .lst ws)]) (ws := ws) (S := S) hl (by simp [evIt, evE, seqSrc, okS, zip_self, ha, hb]) (fun acc G g hg => by
      simp at hg
      rcases hg with rfl | rfl
      · simp only [List.append_assoc]; exact get_app ha
      · simp only [List.append_assoc]; exact get_app hb) hc
    refine ⟨[.lst (ws.map fun _ => .bl true)] ++ G, call_of (d := fd22) rfl rfl ?_⟩
    rw [hcl]
    show (exB P cl [] fd22.body [some (.ref a), some (.ref b), none, none] S).fin = _
    unfold fd22
    rw [s_ifT (S1 := S) (by simp [evE, tst, isTys, isTy, okB, truth, ha, hb])]
    rw [s_ifF (S1 := S) (by simp [evE, evOr, tst, cmp, isTys, isTy, okB, truth, eqW, ha, hb])]
    rw [s_ret (w := .bl true) (S1 := S ++ [.lst (ws.map fun _ => .bl true)] ++ G) (by
      have h1 : evE P cl [] (.cmp .eq (.bi .len (.cons (.var 0) .nil)) (.bi .len (.cons (.var 1) .nil))) [some (.ref a), some (.ref b), none, none] S = .ok (.bl true) S := by
        simp [evE, evEs, biF, lenW, c_eq, ha, hb]
      rw [ev_and2 h1 rfl, ev_all e, ref_all (fun w hw => by obtain ⟨_, _, rfl⟩ := List.mem_map.mp hw; rfl)])]
    simp [RS.then, RS.fin]
theorem off_trans {a : Nat} {S1 S2 S3 : Store} (h : Off a S1 S2) (g : Off a S2 S3) : Off a S1 S3 := ⟨g.1.trans h.1, fun b hb => (g.2 b hb).trans (h.2 b hb)⟩
theorem far_ok {N : Nat} (hN : 2 ≤ N) {S : Store} {a k : Nat} {many : Int} (h : Well S a k) (hk : k ≤ 100000) (hm : 0 < many) :
    ∃ (r : Int) (S' : Store), callN P N 20 [.ref a, .int many] S = .ok (.int r) S' ∧ 0 ≤ r ∧ r < many ∧ Well S' a (k + 3) ∧ Off a S S' := by
  cases N with
  | zero => omega
  | succ n =>
    obtain ⟨r1, S1, e1, a1, b1, w1, o1⟩ := draw_ok (N := n) (by omega) h (by omega) (show (0 : Int) < 2147483648 by decide) (by decide)
    obtain ⟨r2, S2, e2, a2, b2, w2, o2⟩ := draw_ok (N := n) (by omega) w1 (by omega) (show (0 : Int) < 2147483648 by decide) (by decide)
    obtain ⟨r3, S3, e3, a3, b3, w3, o3⟩ := draw_ok (N := n) (by omega) w2 (by omega) (show (0 : Int) < 2147483648 by decide) (by decide)
    refine ⟨(((r1 * 2147483648 + r2) * 2147483648 + r3) % many), S3, call_of (d := fd20) rfl rfl ?_, Int.emod_nonneg _ (by omega), Int.emod_lt_of_pos _ hm, w3, off_trans (off_trans o1 o2) o3⟩
    generalize callN P n = cl at e1 e2 e3
    show (exB P cl [] fd20.body [some (.ref a), some (.int many), none] S).fin = _
    unfold fd20
    have g : (2147483648 : Int).natAbs < big := lt_big2 (by decide)
    have g1 : r1.natAbs < big := lt_big2 (by omega)
    have g2 : (r1 * 2147483648 + r2).natAbs < big := lt_big2 (by omega)
    rw [s_asg (w := .int r1) (S1 := S1) (ρ' := [some (.ref a), some (.int many), some (.int r1)]) (by simp only [evE, evEs, List.getElem?_cons_zero, R.bind_ok, e1]) (by simp [bindT])]
    rw [s_asg (w := .int (r1 * 2147483648 + r2)) (S1 := S2) (ρ' := [some (.ref a), some (.int many), some (.int (r1 * 2147483648 + r2))]) (by
      simp only [evE, evEs, List.getElem?_cons_zero, List.getElem?_cons_succ, R.bind_ok, b_mul g1 g, e2, b_add]) (by simp [bindT])]
    rw [s_asg (w := .int ((r1 * 2147483648 + r2) * 2147483648 + r3)) (S1 := S3) (ρ' := [some (.ref a), some (.int many), some (.int ((r1 * 2147483648 + r2) * 2147483648 + r3))]) (by
      simp only [evE, evEs, List.getElem?_cons_zero, List.getElem?_cons_succ, R.bind_ok, b_mul g2 g, e3, b_add]) (by simp [bindT])]
    rw [s_ret (w := .int (((r1 * 2147483648 + r2) * 2147483648 + r3) % many)) (S1 := S3) (by
      simp only [evE, List.getElem?_cons_zero, List.getElem?_cons_succ, R.bind_ok, b_mod hm])]
    rfl
end K86
end
section
set_option Elab.async false
set_option linter.all false
set_option maxRecDepth 100000
set_option maxHeartbeats 4000000
set_option exponentiation.threshold 5000
namespace K86
open PySem Mp
section
variable {T : Store} {x y z : Ob}
theorem g2a : (T ++ [x, y])[T.length]? = some x := by simp
theorem g2b : (T ++ [x, y])[T.length + 1]? = some y := by
  rw [List.getElem?_append_right (by omega)]; simp
theorem t2a : (T ++ [x, y]).set T.length z = T ++ [z, y] := by
  rw [List.set_append_right _ _ (Nat.le_refl _)]; simp
theorem t2b : (T ++ [x, y]).set (T.length + 1) z = T ++ [x, z] := by
  rw [List.set_append_right _ _ (by omega)]; simp
end
abbrev nW (l : List Nat) : List W := l.map fun i => W.int (i : Nat)
theorem nW_erase : ∀ (l : List Nat) (k : Nat), (nW l).eraseIdx k = nW (l.eraseIdx k)
  | [], k => by simp [nW]
  | x :: r, 0 => by simp [nW]
  | x :: r, k + 1 => by
    have := nW_erase r k
    simp only [nW] at this ⊢
    rw [List.map_cons, List.eraseIdx_cons_succ, this, List.eraseIdx_cons_succ, List.map_cons]
theorem nW_get {l : List Nat} {k : Nat} (h : k < l.length) : (nW l)[k]? = some (.int (l.getD k 0 : Nat)) := by
  simp [nW, List.getD, h]
def oAt : Nat → Nat → List Nat → List Nat
  | 0, _, _ => []
  | k + 1, r, left => left.getD (r / fct k) 0 :: oAt k (r % fct k) (left.eraseIdx (r / fct k))
abbrev obody : B := .cons (.asg (.tp [(.nm 6), (.nm 1)]) (.bi .divmod (.cons (.var 1) (.cons (.idx (.var 2) (.var 5)) .nil)))) (.cons (.expr (.bm .append (.var 4) (.cons (.bm .popAt (.var 3) (.cons (.var 6) .nil)) .nil))) .nil)
theorem order_step (cl : Nat → List W → Store → R W) {m k r s : Nat} {T : Store} {left found : List Nat} {o5 o6 : Option W} (hm : m ≤ 20) (hk : k + 1 ≤ m) (hr : r < fct (k + 1)) (hs : T[s]? = some (.lst (fl m))) (hl : left.length = k + 1) (hf : found.length < 1000) :
    forB P cl [] (.nm 5) obody (.int (k : Nat)) [some (.int m), some (.int (r : Nat)), some (.ref s), some (.ref T.length), some (.ref (T.length + 1)), o5, o6] (T ++ [.lst (nW left), .lst (nW found)]) =
      .nx [some (.int m), some (.int (r % fct k : Nat)), some (.ref s), some (.ref T.length), some (.ref (T.length + 1)), some (.int (k : Nat)), some (.int (r / fct k : Nat))] (T ++ [.lst (nW (left.eraseIdx (r / fct k))), .lst (nW (found ++ [left.getD (r / fct k) 0]))]) := by
  have hp := fct_pos k
  have hq : r / fct k < left.length := by
    rw [hl]
    rw [Nat.div_lt_iff_lt_mul hp, Nat.mul_comm]
    exact hr
  have hc := fct_le (m := k) (by omega)
  have hc2 := fct_le (m := k + 1) (by omega)
  have hs' : ∀ T2 : Store, (T ++ T2)[s]? = some (.lst (fl m)) := fun T2 => get_app hs
  have hi : ∀ T2 : Store, index (.ref s) (.int (k : Nat)) (T ++ T2) = .ok (.int (fct k : Nat)) (T ++ T2) := fun T2 => by
    simp only [index, hs', atW_nat, fl_get (show k ≤ m by omega), okO]
  unfold forB obody
  simp only [bindT, List.set]
  rw [s_asg (w := .tup [.int (r / fct k : Nat), .int (r % fct k : Nat)]) (S1 := T ++ [.lst (nW left), .lst (nW found)]) (ρ' := [some (.int m), some (.int (r % fct k : Nat)), some (.ref s), some (.ref T.length), some (.ref (T.length + 1)), some (.int (k : Nat)), some (.int (r / fct k : Nat))]) (by
    simp only [evE, evEs, List.getElem?_cons_zero, List.getElem?_cons_succ, R.bind_ok, hi, biF]
    rw [guardR_pos ⟨by omega, lt_big (by omega), lt_big (by omega)⟩]
    simp) (by simp [bindT, bindTs])]
  have e1 : bmF .popAt (.ref T.length) [.int (r / fct k : Nat)] (T ++ [.lst (nW left), .lst (nW found)]) = .ok (.int (left.getD (r / fct k) 0 : Nat)) (T ++ [.lst (nW (left.eraseIdx (r / fct k))), .lst (nW found)]) := by
    simp only [bmF, g2a, ixN_nat]
    rw [show (nW left).length = left.length by simp [nW], if_pos hq]
    simp only [nW_get hq, t2a]
    rw [nW_erase]
  have e2 : bmF .append (.ref (T.length + 1)) [.int (left.getD (r / fct k) 0 : Nat)] (T ++ [.lst (nW (left.eraseIdx (r / fct k))), .lst (nW found)]) = .ok .non (T ++ [.lst (nW (left.eraseIdx (r / fct k))), .lst (nW (found ++ [left.getD (r / fct k) 0]))]) := by
    simp only [bmF, g2b]
    rw [guardR_pos (by simp [lim]; omega), t2b]
    simp [nW]
  rw [s_expr (w := .non) (S1 := T ++ [.lst (nW (left.eraseIdx (r / fct k))), .lst (nW (found ++ [left.getD (r / fct k) 0]))]) (by
    simp only [evE, evEs, List.getElem?_cons_zero, List.getElem?_cons_succ, R.bind_ok, g2a, g2b, e1, e2]), s_nil]
theorem order_for (cl : Nat → List W → Store → R W) {m s : Nat} {T : Store} (hm : m ≤ 20) (hs : T[s]? = some (.lst (fl m))) : ∀ (k r : Nat) (left found : List Nat) (o5 o6 : Option W), k ≤ m → r < fct k → left.length = k → found.length + k < 1000 →
    ∃ (r' : Nat) (o o' : Option W), forL [] (forB P cl [] (.nm 5) obody) (rangeW 0 1 k).reverse [some (.int m), some (.int (r : Nat)), some (.ref s), some (.ref T.length), some (.ref (T.length + 1)), o5, o6] (T ++ [.lst (nW left), .lst (nW found)]) =
      .nx [some (.int m), some (.int (r' : Nat)), some (.ref s), some (.ref T.length), some (.ref (T.length + 1)), o, o'] (T ++ [.lst [], .lst (nW (found ++ oAt k r left))])
  | 0, r, left, found, o5, o6, hk, hr, hl, hf => by
    have : left = [] := List.length_eq_zero_iff.mp hl
    subst this
    refine ⟨r, o5, o6, ?_⟩
    rw [show (rangeW 0 1 0).reverse = [] from rfl, forL, if_pos stands_nil, oAt, List.append_nil]; rfl
  | k + 1, r, left, found, o5, o6, hk, hr, hl, hf => by
    have hp := fct_pos k
    have hrev : (rangeW 0 1 (k + 1)).reverse = .int (k : Nat) :: (rangeW 0 1 k).reverse := by
      unfold rangeW
      rw [List.range_succ, List.map_append, List.reverse_append]; simp
    obtain ⟨r', o, o', e⟩ := order_for cl hm hs k (r % fct k) (left.eraseIdx (r / fct k)) (found ++ [left.getD (r / fct k) 0]) (some (.int (k : Nat))) (some (.int (r / fct k : Nat))) (by omega) (Nat.mod_lt _ hp) (by
      have hq : r / fct k < left.length := by
        rw [hl, Nat.div_lt_iff_lt_mul hp, Nat.mul_comm]; exact hr
      rw [List.length_eraseIdx_of_lt hq, hl]; rfl) (by simp; omega)
    refine ⟨r', o, o', ?_⟩
    rw [hrev, forL, if_pos stands_nil, order_step cl hm hk hr hs hl (by omega)]
    refine e.trans ?_
    rw [oAt, List.append_assoc]; rfl
theorem rangeW_nW (m : Nat) : rangeW 0 1 m = nW (List.range m) := by
  unfold rangeW nW
  exact List.map_congr_left fun i _ => by simp
theorem order_at_ok {N m r : Nat} (hN : 4 ≤ N) (hm : m ≤ 20) (hr : r < fct m) (S : Store) : ∃ G, callN P N 7 [.int m, .int r] S = .ok (.tup (nW (oAt m r (List.range m)))) (S ++ G) := by
  cases N with
  | zero => omega
  | succ n =>
    have hc := fct_le hm
    have h1 := orders_many_ok (N := n) (by omega) hm S
    have h2 := within_ok (N := n) (by omega) (r : Nat) 0 ((fct m : Nat) - 1) (S ++ [.lst (fl m)])
    have h3 := products_ok (N := n) (by omega) hm (S ++ [.lst (fl m)])
    rw [show (decide ((0 : Int) ≤ (r : Nat)) && decide (((r : Nat) : Int) ≤ (fct m : Nat) - 1)) = true by simp; omega] at h2
    generalize hcl : callN P n = cl at h1 h2 h3
    obtain ⟨T, hT⟩ : ∃ T, T = S ++ [Ob.lst (fl m)] ++ [Ob.lst (fl m)] := ⟨_, rfl⟩
    have hs : T[(S ++ [Ob.lst (fl m)]).length]? = some (.lst (fl m)) := by rw [hT, List.getElem?_concat_length]
    obtain ⟨r', o, o', e⟩ := order_for cl hm hs m r (List.range m) [] none none (Nat.le_refl m) hr (by simp) (by simp; omega)
    refine ⟨[.lst (fl m), .lst (fl m), .lst [], .lst (nW (oAt m r (List.range m)))], call_of (d := fd7) rfl rfl ?_⟩
    rw [hcl]
    show (exB P cl [] fd7.body [some (.int m), some (.int r), none, none, none, none, none] S).fin = _
    unfold fd7
    rw [s_ifF (S1 := S ++ [.lst (fl m)]) (by simp only [evE, evEs, tst, List.getElem?_cons_zero, List.getElem?_cons_succ, R.bind_ok, h1, b_sub, h2, t_bl]; rfl)]
    rw [s_asg (w := .ref (S ++ [Ob.lst (fl m)]).length) (S1 := T) (ρ' := [some (.int m), some (.int r), some (.ref (S ++ [Ob.lst (fl m)]).length), none, none, none, none]) (by simp only [evE, evEs, List.getElem?_cons_zero, R.bind_ok, h3, hT]) (by simp [bindT])]
    rw [s_asg (w := .ref T.length) (S1 := T ++ [.lst (nW (List.range m))]) (ρ' := [some (.int m), some (.int r), some (.ref (S ++ [Ob.lst (fl m)]).length), some (.ref T.length), none, none, none]) (by
      simp only [evE, evEs, List.getElem?_cons_zero, R.bind_ok, rangeSrc]
      rw [if_pos ⟨by omega, by omega⟩]
      simp only [newLst, rangeW_length]
      rw [if_pos (by simp [lim]; omega), show ((m : Nat) : Int).toNat = m by omega, rangeW_nW]) (by simp [bindT])]
    rw [s_asg (w := .ref (T.length + 1)) (S1 := T ++ [.lst (nW (List.range m)), .lst (nW [])]) (ρ' := [some (.int m), some (.int r), some (.ref (S ++ [Ob.lst (fl m)]).length), some (.ref T.length), some (.ref (T.length + 1)), none, none]) (by simp [evE, evEs, newLst, lim, nW]) (by simp [bindT])]
    rw [s_for (src := ([], (rangeW 0 1 m).reverse)) (S1 := T ++ [.lst (nW (List.range m)), .lst (nW [])]) (by
      simp only [evIt, evEs, evE, List.getElem?_cons_zero, R.bind_ok, revRSrc]
      rw [if_pos ⟨by omega, by omega⟩, show ((m : Nat) : Int).toNat = m by omega]; rfl)]
    show ((forL [] (forB P cl [] (.nm 5) obody) _ _ _).then _).fin = _
    rw [e]
    show ((exB P cl [] _ _ _)).fin = _
    rw [s_ret (w := .tup (nW (oAt m r (List.range m)))) (S1 := T ++ [.lst [], .lst (nW (oAt m r (List.range m)))]) (by
      simp only [evE, evEs, List.getElem?_cons_zero, List.getElem?_cons_succ, R.bind_ok, biF, itemsOf, listAt, g2b, List.nil_append])]
    rw [hT]
    simp [RS.fin]
end K86
end
section
set_option Elab.async false
set_option linter.all false
set_option maxRecDepth 100000
set_option maxHeartbeats 4000000
set_option exponentiation.threshold 5000
namespace K86
open PySem Mp
/-! ### product -/
def prd : List Nat → Nat
  | [] => 1
  | b :: r => b * prd r
abbrev pbody : B := .cons (.asg (.nm 1) (.bin .mul (.var 1) (.var 2))) .nil
theorem prod_for (cl : Nat → List W → Store → R W) {a : Nat} {ob : Ob} {S : Store} (hs : S[a]? = some ob) (x : W) : ∀ (l : List Nat) (acc : Nat) (o : Option W), (∀ j, acc * prd (l.take j) ≤ 2432902008176640000) → (∀ b ∈ l, b ≤ 1000000) →
    ∃ o', forL [(a, ob)] (forB P cl [] (.nm 2) pbody) (nW l) [some x, some (.int (acc : Nat)), o] S = .nx [some x, some (.int (acc * prd l : Nat)), o'] S
  | [], acc, o, h, hb => ⟨o, by
    rw [show nW [] = [] from rfl, forL, if_pos (by intro g hg; simp at hg; rw [hg]; exact hs)]; simp [prd]⟩
  | b :: r, acc, o, h, hb => by
    have h0 := h 0
    have h1 := h 1
    simp [prd] at h0 h1
    obtain ⟨o', e⟩ := prod_for cl hs x r (acc * b) (some (.int (b : Nat))) (fun j => by
      have := h (j + 1)
      simp only [List.take_succ_cons, prd] at this
      rw [Nat.mul_assoc]; exact this) (fun c hc => hb c (List.mem_cons_of_mem _ hc))
    have hbb := hb b (List.mem_cons_self ..)
    refine ⟨o', ?_⟩
    rw [show nW (b :: r) = .int (b : Nat) :: nW r from rfl, forL, if_pos (by intro g hg; simp at hg; rw [hg]; exact hs)]
    have e1 : forB P cl [] (.nm 2) pbody (.int (b : Nat)) [some x, some (.int (acc : Nat)), o] S = .nx [some x, some (.int (acc * b : Nat)), some (.int (b : Nat))] S := by
      unfold forB pbody
      simp only [bindT, List.set]
      rw [s_asg (w := .int (acc * b : Nat)) (S1 := S) (ρ' := [some x, some (.int (acc * b : Nat)), some (.int (b : Nat))]) (by
        simp only [evE, List.getElem?_cons_zero, List.getElem?_cons_succ, R.bind_ok]
        rw [b_mul (lt_big (by omega)) (lt_big (by omega))]
        simp) (by simp [bindT]), s_nil]
    rw [e1]
    refine e.trans ?_
    rw [prd, Nat.mul_assoc]
theorem product_ok {N a : Nat} (hN : 1 ≤ N) {S : Store} {l : List Nat} (hs : S[a]? = some (.lst (nW l))) (h : ∀ j, prd (l.take j) ≤ 2432902008176640000) (hb : ∀ b ∈ l, b ≤ 1000000) : callN P N 9 [.ref a] S = .ok (.int (prd l : Nat)) S := by
  refine call_at (d := fd9) hN rfl rfl fun n e => ?_
  generalize callN P n = cl
  show (exB P cl [] fd9.body [some (.ref a), none, none] S).fin = _
  unfold fd9
  rw [s_asg (w := .int 1) (S1 := S) (ρ' := [some (.ref a), some (.int 1), none]) (by rw [evE]) (by simp [bindT])]
  rw [s_for (src := ([(a, .lst (nW l))], nW l)) (S1 := S) (by simp [evIt, evE, seqSrc, hs, okS])]
  obtain ⟨o', e⟩ := prod_for cl hs (.ref a) l 1 none (by simpa using h) hb
  show ((forL _ (forB P cl [] (.nm 2) pbody) _ _ _).then _).fin = _
  rw [show (W.int 1) = .int ((1 : Nat) : Int) from rfl]
  rw [e]
  show ((exB P cl [] _ _ _)).fin = _
  rw [s_ret (w := .int (prd l : Nat)) (S1 := S) (by simp [evE])]
  rfl
/-! ### unmixed -/
def um : Nat → List Nat → List Nat
  | _, [] => []
  | n, b :: r => (n % b) :: um (n / b) r
abbrev ubody : B := .cons (.asg (.tp [(.nm 0), (.nm 4)]) (.bi .divmod (.cons (.var 0) (.cons (.var 3) .nil)))) (.cons (.expr (.bm .append (.var 2) (.cons (.var 4) .nil))) .nil)
theorem um_for (cl : Nat → List W → Store → R W) {a : Nat} {ob : Ob} {S : Store} (hs : S[a]? = some ob) (x : W) : ∀ (l : List Nat) (k : Nat) (found : List Nat) (o3 o4 : Option W), k ≤ 2432902008176640000 → (∀ b ∈ l, 0 < b ∧ b ≤ 1000000) → found.length + l.length < 1000 →
    ∃ (k' : Nat) (o o' : Option W), forL [(a, ob)] (forB P cl [] (.nm 3) ubody) (nW l) [some (.int (k : Nat)), some x, some (.ref S.length), o3, o4] (S ++ [.lst (nW found)]) = .nx [some (.int (k' : Nat)), some x, some (.ref S.length), o, o'] (S ++ [.lst (nW (found ++ um k l))])
  | [], k, found, o3, o4, hk, hb, hl => ⟨k, o3, o4, by
    rw [show nW [] = [] from rfl, forL, if_pos (by intro g hg; simp at hg; rw [hg]; exact get_app hs), um, List.append_nil]⟩
  | b :: r, k, found, o3, o4, hk, hb, hl => by
    obtain ⟨b1, b2⟩ := hb b (List.mem_cons_self ..)
    obtain ⟨k', o, o', e⟩ := um_for cl hs x r (k / b) (found ++ [k % b]) (some (.int (b : Nat))) (some (.int (k % b : Nat))) (Nat.le_trans (Nat.div_le_self _ _) hk) (fun c hc => hb c (List.mem_cons_of_mem _ hc)) (by simp at hl ⊢; omega)
    refine ⟨k', o, o', ?_⟩
    rw [show nW (b :: r) = .int (b : Nat) :: nW r from rfl, forL, if_pos (by intro g hg; simp at hg; rw [hg]; exact get_app hs)]
    have e1 : forB P cl [] (.nm 3) ubody (.int (b : Nat)) [some (.int (k : Nat)), some x, some (.ref S.length), o3, o4] (S ++ [.lst (nW found)]) = .nx [some (.int (k / b : Nat)), some x, some (.ref S.length), some (.int (b : Nat)), some (.int (k % b : Nat))] (S ++ [.lst (nW (found ++ [k % b]))]) := by
      unfold forB ubody
      simp only [bindT, List.set]
      rw [s_asg (w := .tup [.int (k / b : Nat), .int (k % b : Nat)]) (S1 := S ++ [.lst (nW found)]) (ρ' := [some (.int (k / b : Nat)), some x, some (.ref S.length), some (.int (b : Nat)), some (.int (k % b : Nat))]) (by
        simp only [evE, evEs, List.getElem?_cons_zero, List.getElem?_cons_succ, R.bind_ok, biF]
        rw [guardR_pos ⟨by omega, lt_big (by omega), lt_big (by omega)⟩]
        simp) (by simp [bindT, bindTs])]
      rw [s_expr (w := .non) (S1 := S ++ [.lst (nW (found ++ [k % b]))]) (by
        simp only [evE, evEs, List.getElem?_cons_zero, List.getElem?_cons_succ, R.bind_ok, List.getElem?_concat_length, bmF]
        rw [guardR_pos (by simp [lim, nW] at hl ⊢; omega), set_last]
        simp [nW]), s_nil]
    rw [e1]
    refine e.trans ?_
    rw [um, List.append_assoc]; rfl
theorem unmixed_ok {N a k : Nat} (hN : 3 ≤ N) {S : Store} {l : List Nat} (hs : S[a]? = some (.lst (nW l))) (h : ∀ j, prd (l.take j) ≤ 2432902008176640000) (hb : ∀ b ∈ l, 0 < b ∧ b ≤ 1000000) (hl : l.length < 100) (hk : k < prd l) :
    callN P N 10 [.int k, .ref a] S = .ok (.ref (S.length + 1)) (S ++ [.lst (nW (um k l.reverse)), .lst (nW (um k l.reverse).reverse)]) := by
  refine call_at (d := fd10) (by omega) rfl rfl fun n e => ?_
  have hp := h l.length
  rw [List.take_length] at hp
  have h1 := product_ok (N := n) (by omega) hs h (fun b hm => (hb b hm).2)
  have h2 := within_ok (N := n) (by omega) (k : Nat) 0 ((prd l : Nat) - 1) S
  rw [show (decide ((0 : Int) ≤ (k : Nat)) && decide (((k : Nat) : Int) ≤ (prd l : Nat) - 1)) = true by simp; omega] at h2
  generalize callN P n = cl at h1 h2
  obtain ⟨k', o, o', e⟩ := um_for cl hs (.ref a) l.reverse k [] none none (by omega) (fun b hm => hb b (by simpa using hm)) (by simp; omega)
  show (exB P cl [] fd10.body [some (.int k), some (.ref a), none, none, none] S).fin = _
  unfold fd10
  rw [s_ifF (S1 := S) (by simp only [evE, evEs, tst, List.getElem?_cons_zero, List.getElem?_cons_succ, R.bind_ok, h1, b_sub, h2, t_bl]; rfl)]
  rw [s_asg (w := .ref S.length) (S1 := S ++ [.lst (nW [])]) (ρ' := [some (.int k), some (.ref a), some (.ref S.length), none, none]) (by simp [evE, evEs, newLst, lim, nW]) (by simp [bindT])]
  rw [s_for (src := ([(a, .lst (nW l))], nW l.reverse)) (S1 := S ++ [.lst (nW [])]) (by
    simp only [evIt, evE, List.getElem?_cons_zero, List.getElem?_cons_succ, R.bind_ok, seqSrc, get_app hs, okS, Option.map]
    simp [nW])]
  show ((forL _ (forB P cl [] (.nm 3) ubody) _ _ _).then _).fin = _
  rw [e]
  show ((exB P cl [] _ _ _)).fin = _
  rw [s_ret (w := .ref (S.length + 1)) (S1 := S ++ [.lst (nW (um k l.reverse)), .lst (nW (um k l.reverse).reverse)]) (by
    simp only [evE, List.getElem?_cons_zero, List.getElem?_cons_succ, R.bind_ok, revW, listAt, List.getElem?_concat_length, List.nil_append]
    simp [nW])]
  rfl
end K86
end
section
set_option Elab.async false
set_option linter.all false
set_option maxRecDepth 100000
set_option maxHeartbeats 4000000
set_option exponentiation.threshold 5000
namespace K86
open PySem Mp
def swp (f : List Nat) (i j : Nat) : List Nat := (f.set i (f.getD j 0)).set j (f.getD i 0)
theorem swp_len (f : List Nat) (i j : Nat) : (swp f i j).length = f.length := by simp [swp]
theorem nW_set (l : List Nat) (i v : Nat) : (nW l).set i (.int (v : Nat)) = nW (l.set i v) := by
  simp only [nW, List.map_set]
theorem exchange_ok {N i j : Nat} (hN : 1 ≤ N) {T : Store} {f : List Nat} (hi : i < f.length) (hj : j < f.length) : callN P N 4 [.ref T.length, .int i, .int j] (T ++ [.lst (nW f)]) = .ok .non (T ++ [.lst (nW (swp f i j))]) := by
  refine call_at (d := fd4) hN rfl rfl fun n e => ?_
  generalize callN P n = cl
  have ix : ∀ {g : List Nat} {k : Nat}, k < g.length → index (.ref T.length) (.int (k : Nat)) (T ++ [.lst (nW g)]) = .ok (.int (g.getD k 0 : Nat)) (T ++ [.lst (nW g)]) := fun {g k} hk => by
    simp only [index, List.getElem?_concat_length, atW_nat, nW_get hk, okO]
  have st : ∀ {g : List Nat} {k v : Nat}, k < g.length → setAt (.ref T.length) (.int (k : Nat)) (.int (v : Nat)) (T ++ [.lst (nW g)]) = .ok () (T ++ [.lst (nW (g.set k v))]) := fun {g k v} hk => by
    rw [set_at (by simp [nW]; exact hk), nW_set]
  show (exB P cl [] fd4.body [some (.ref T.length), some (.int i), some (.int j), none] (T ++ [.lst (nW f)])).fin = _
  unfold fd4
  rw [s_asg (w := .int (f.getD i 0 : Nat)) (S1 := T ++ [.lst (nW f)]) (ρ' := [some (.ref T.length), some (.int i), some (.int j), some (.int (f.getD i 0 : Nat))]) (by simp only [evE, List.getElem?_cons_zero, List.getElem?_cons_succ, R.bind_ok, ix hi]) (by simp [bindT])]
  rw [s_setS (v := .int (f.getD j 0 : Nat)) (x := .ref T.length) (y := .int i) (S1 := T ++ [.lst (nW f)]) (S2 := T ++ [.lst (nW f)]) (S3 := T ++ [.lst (nW f)]) (S4 := T ++ [.lst (nW (f.set i (f.getD j 0)))])
    (by simp only [evE, List.getElem?_cons_zero, List.getElem?_cons_succ, R.bind_ok, ix hj]) (by simp [evE]) (by simp [evE]) (st hi)]
  rw [s_setS (v := .int (f.getD i 0 : Nat)) (x := .ref T.length) (y := .int j) (S1 := T ++ [.lst (nW (f.set i (f.getD j 0)))]) (S2 := T ++ [.lst (nW (f.set i (f.getD j 0)))]) (S3 := T ++ [.lst (nW (f.set i (f.getD j 0)))]) (S4 := T ++ [.lst (nW (swp f i j))])
    (by simp [evE]) (by simp [evE]) (by simp [evE]) (st (by simpa using hj)), s_nil]
  rfl
/-- the swaps: k, how many are done -/
def bn : Nat → List Nat → List Nat → List Nat
  | _, [], f => f
  | last, x :: r, f => bn (last - 1) r (swp f last x)
abbrev bbody : B := .cons (.asg (.nm 4) (.bin .sub (.bi .len (.cons (.var 0) .nil)) (.var 2))) (.cons (.ifS (.notE (.call 2 (.cons (.var 3) (.cons (.cst (.int 0)) (.cons (.var 4) .nil))))) (.cons .any .nil) .nil) (.cons (.expr (.call 4 (.cons (.var 1) (.cons (.var 4) (.cons (.var 3) .nil))))) .nil))
theorem enumW_cons (k : Nat) (l : List Nat) : ∀ (L : Nat), (List.range' k l.length).zipWith (fun i w => W.tup [.int (i : Nat), w]) (nW l) = (List.range' k l.length).zipWith (fun i w => W.tup [.int (i : Nat), w]) (nW l) := fun _ => rfl
theorem bn_for {n : Nat} (hn : 2 ≤ n) {a : Nat} {ob : List W} {T : Store} (hs : T[a]? = some (.lst ob)) : ∀ (l : List Nat) (k : Nat) (f : List Nat) (o2 o3 o4 : Option W), k + l.length = ob.length → ob.length < 60 → f.length = ob.length + 1 → (∀ i (x : Nat), l[i]? = some x → x + (k + i) ≤ ob.length) →
    ∃ p q r, forL [(a, .lst ob)] (forB P (callN P n) [] (.tp [(.nm 2), (.nm 3)]) bbody) ((List.range' k l.length).zipWith (fun i w => W.tup [.int (i : Nat), w]) (nW l)) [some (.ref a), some (.ref T.length), o2, o3, o4] (T ++ [.lst (nW f)]) =
      .nx [some (.ref a), some (.ref T.length), p, q, r] (T ++ [.lst (nW (bn (ob.length - k) l f))])
  | [], k, f, o2, o3, o4, hk, ho, hf, hx => ⟨o2, o3, o4, by
    simp only [List.length_nil, List.range'_zero, List.zipWith_nil_left]
    rw [forL, if_pos (by intro g hg; simp at hg; rw [hg]; exact get_app hs), bn]⟩
  | x :: r, k, f, o2, o3, o4, hk, ho, hf, hx => by
    have hx0 := hx 0 x rfl
    simp at hk hx0
    have hlen : biF .len [.ref a] (T ++ [.lst (nW f)]) = .ok (.int (ob.length : Nat)) (T ++ [.lst (nW f)]) := by simp [biF, lenW, get_app hs]
    have h2 := within_ok (N := n) hn (x : Nat) 0 ((ob.length : Nat) - (k : Nat)) (T ++ [.lst (nW f)])
    rw [show (decide ((0 : Int) ≤ (x : Nat)) && decide (((x : Nat) : Int) ≤ (ob.length : Nat) - (k : Nat))) = true by simp; omega] at h2
    have h3 := exchange_ok (N := n) (i := ob.length - k) (j := x) (by omega) (T := T) (f := f) (by omega) (by omega)
    rw [show (((ob.length - k : Nat) : Int)) = (ob.length : Nat) - (k : Nat) by omega] at h3
    obtain ⟨p, q, s, e⟩ := bn_for hn hs r (k + 1) (swp f (ob.length - k) x) (some (.int (k : Nat))) (some (.int (x : Nat))) (some (.int ((ob.length : Nat) - (k : Nat)))) (by omega) ho (by rw [swp_len]; exact hf) (fun i y hy => by
      have := hx (i + 1) y (by simpa using hy)
      omega)
    refine ⟨p, q, s, ?_⟩
    generalize callN P n = cl at h2 h3 e
    rw [List.length_cons, List.range'_succ, show nW (x :: r) = .int (x : Nat) :: nW r from rfl, List.zipWith_cons_cons, forL, if_pos (by intro g hg; simp at hg; rw [hg]; exact get_app hs)]
    have e1 : forB P cl [] (.tp [(.nm 2), (.nm 3)]) bbody (.tup [.int (k : Nat), .int (x : Nat)]) [some (.ref a), some (.ref T.length), o2, o3, o4] (T ++ [.lst (nW f)]) =
        .nx [some (.ref a), some (.ref T.length), some (.int (k : Nat)), some (.int (x : Nat)), some (.int ((ob.length : Nat) - (k : Nat)))] (T ++ [.lst (nW (swp f (ob.length - k) x))]) := by
      unfold forB bbody
      simp only [bindT, bindTs, List.set, Option.bind]
      rw [s_asg (w := .int ((ob.length : Nat) - (k : Nat))) (S1 := T ++ [.lst (nW f)]) (ρ' := [some (.ref a), some (.ref T.length), some (.int (k : Nat)), some (.int (x : Nat)), some (.int ((ob.length : Nat) - (k : Nat)))]) (by
        simp only [evE, evEs, List.getElem?_cons_zero, List.getElem?_cons_succ, R.bind_ok, hlen, b_sub]) (by simp [bindT])]
      rw [s_ifF (S1 := T ++ [.lst (nW f)]) (by simp only [evE, evEs, tst, List.getElem?_cons_zero, List.getElem?_cons_succ, R.bind_ok, h2, t_bl]; rfl)]
      rw [s_expr (w := .non) (S1 := T ++ [.lst (nW (swp f (ob.length - k) x))]) (by simp only [evE, evEs, List.getElem?_cons_zero, List.getElem?_cons_succ, R.bind_ok, h3]), s_nil]
    rw [e1]
    refine e.trans ?_
    rw [bn, show ob.length - (k + 1) = ob.length - k - 1 by omega]
theorem by1 {cl : Nat → List W → Store → R W} {a : Nat} {S : Store} {l : List Nat} (hl : l.length < 60) (h1 : cl 3 [.ref a] S = .ok (.bl true) S) (hlen : biF .len [.ref a] S = .ok (.int (l.length : Nat)) S) :
    tst (evE P cl [] (.orE (.cons (.notE (.call 3 (.cons (.var 0) .nil))) (.cons (.cmp .ge (.bi .len (.cons (.var 0) .nil)) (.cst (.int 60))) .nil))) [some (.ref a), none, none, none, none] S) = .ok false S := by
  have h60 : decide ((60 : Int) ≤ (l.length : Nat)) = false := by simp; omega
  simp only [evE, evEs, evOr, tst, List.getElem?_cons_zero, R.bind_ok, h1, t_bl, hlen, c_ge, Bool.not_true, h60]
theorem ev_lrange {P : Prog} {cl : Nat → List W → Store → R W} {hx : List (Nat × W)} {a : E} {ρ : Rho} {S S1 : Store} {k : Nat} (h : evE P cl hx a ρ S = .ok (.int (k : Nat)) S1) (hk : k ≤ 100000) : evE P cl hx (.lrange a .nil) ρ S = .ok (.ref S1.length) (S1 ++ [.lst (nW (List.range k))]) := by
  have hz : smallI ((k : Nat) : Int) := ⟨by omega, by omega⟩
  have e1 : ((k : Nat) : Int).toNat = k := by omega
  have e2 : k ≤ lim := Nat.le_trans hk (by decide)
  rw [evE, h, R.bind_ok, evEs, R.bind_ok, rangeSrc, if_pos hz]
  simp only [newLst, rangeW_length, e1]
  rw [if_pos e2, rangeW_nW]
theorem by2 {cl : Nat → List W → Store → R W} {a : Nat} {S : Store} {l : List Nat} (hl : l.length < 60) (hlen : biF .len [.ref a] S = .ok (.int (l.length : Nat)) S) :
    evE P cl [] (.lrange (.bin .add (.bi .len (.cons (.var 0) .nil)) (.cst (.int 1))) .nil) [some (.ref a), none, none, none, none] S = .ok (.ref S.length) (S ++ [.lst (nW (List.range (l.length + 1)))]) := by
  refine ev_lrange (k := l.length + 1) ?_ (by omega)
  simp only [evE, evEs, List.getElem?_cons_zero, R.bind_ok, hlen, b_add]
  rfl
theorem by3 {cl : Nat → List W → Store → R W} {a : Nat} {S : Store} {l : List Nat} (hs : S[a]? = some (.lst (nW l))) : evIt P cl [] (.enum (.var 0)) [some (.ref a), some (.ref S.length), none, none, none] (S ++ [.lst (nW (List.range (l.length + 1)))]) =
    .ok ([(a, .lst (nW l))], (List.range' 0 l.length).zipWith (fun i w => W.tup [.int (i : Nat), w]) (nW l)) (S ++ [.lst (nW (List.range (l.length + 1)))]) := by
  have hlW : (nW l).length = l.length := by simp [nW]
  simp only [evIt, evE, List.getElem?_cons_zero, R.bind_ok, seqSrc, get_app hs, okS, Option.map]
  unfold enumW
  rw [hlW, List.range_eq_range']
theorem by_body {cl : Nat → List W → Store → R W} {a : Nat} {S : Store} {l : List Nat} {p q r : Option W} {res : List Nat} (hs : S[a]? = some (.lst (nW l))) (hl : l.length < 60) (h1 : cl 3 [.ref a] S = .ok (.bl true) S) (hlen : biF .len [.ref a] S = .ok (.int (l.length : Nat)) S)
    (e : forL [(a, .lst (nW l))] (forB P cl [] (.tp [(.nm 2), (.nm 3)]) bbody) ((List.range' 0 l.length).zipWith (fun i w => W.tup [.int (i : Nat), w]) (nW l)) [some (.ref a), some (.ref S.length), none, none, none] (S ++ [.lst (nW (List.range (l.length + 1)))]) =
      .nx [some (.ref a), some (.ref S.length), p, q, r] (S ++ [.lst (nW res)])) : (exB P cl [] fd8.body [some (.ref a), none, none, none, none] S).fin = .ok (.tup (nW res)) (S ++ [.lst (nW res)]) := by
  unfold fd8
  rw [s_ifF (by1 hl h1 hlen), s_asg (ρ' := [some (.ref a), some (.ref S.length), none, none, none]) (by2 hl hlen) (by rw [bindT]; rfl), s_for (by3 hs)]
  show ((forL _ (forB P cl [] (.tp [(.nm 2), (.nm 3)]) bbody) _ _ _).then _).fin = _
  refine (congrArg (fun z : RS => (z.then _).fin) e).trans ?_
  show ((exB P cl [] _ _ _)).fin = _
  rw [s_ret (w := .tup (nW res)) (S1 := S ++ [.lst (nW res)]) (by
    simp only [evE, evEs, List.getElem?_cons_zero, List.getElem?_cons_succ, R.bind_ok, biF, itemsOf, listAt, List.getElem?_concat_length])]
  rfl
theorem by_numbers_ok {N a : Nat} (hN : 3 ≤ N) {S : Store} {l : List Nat} (hs : S[a]? = some (.lst (nW l))) (hl : l.length < 60) (hx : ∀ i (x : Nat), l[i]? = some x → x + i ≤ l.length) :
    callN P N 8 [.ref a] S = .ok (.tup (nW (bn l.length l (List.range (l.length + 1))))) (S ++ [.lst (nW (bn l.length l (List.range (l.length + 1))))]) := by
  refine call_at (d := fd8) (by omega) rfl rfl fun n en => ?_
  have hlW : (nW l).length = l.length := by simp [nW]
  obtain ⟨p, q, r, e⟩ := bn_for (n := n) (by omega) hs l 0 (List.range (l.length + 1)) none none none (by simp [hlW]) (by rw [hlW]; exact hl) (by simp [hlW]) (fun i x h => by rw [hlW]; have := hx i x h; omega)
  rw [hlW, Nat.sub_zero] at e
  have h1 : callN P n 3 [.ref a] S = .ok (.bl true) S := by
    refine call_at (d := fd3) (by omega) rfl rfl fun m e => ?_
    simp [fd3, exB, exS, evE, okB, isTys, isTy, R.st, RS.then, RS.fin, hs]
  have hlen : biF .len [.ref a] S = .ok (.int (l.length : Nat)) S := by simp [biF, lenW, hs, nW]
  exact by_body hs hl h1 hlen e
end K86
end
section
set_option Elab.async false
set_option linter.all false
set_option maxRecDepth 100000
set_option maxHeartbeats 4000000
set_option exponentiation.threshold 5000
namespace K86
open PySem Mp
abbrev kz : W → W := fun _ => .int 0
def ksW (m : Nat) : List W := (List.range (fct m)).map fun r => .tup (nW (oAt m r (List.range m)))
theorem ksW_len (m : Nat) : (ksW m).length = fct m := by unfold ksW; simp
theorem ksW_get {m j : Nat} (h : j < fct m) : (ksW m)[j]? = some (.tup (nW (oAt m j (List.range m)))) := by
  unfold ksW
  rw [List.getElem?_map, List.getElem?_range h]; rfl
theorem key_nW (l : List Nat) : keyT (.tup (nW l)) = true := by
  unfold keyT nW
  simp [keyK]
theorem set_dT {S G : Store} {kvs : List (W × W)} {k v : W} (hk : keyT k = true) (hl : kvs.length < lim) : setAt (.ref S.length) k v (S ++ [.dT kvs] ++ G) = .ok () (S ++ [.dT (putK k v kvs)] ++ G) := by
  simp only [setAt, g_mid]
  rw [guardR_pos ⟨hk, hl⟩, t_mid]
abbrev b1 : B := .cons (.setS (.var 1) (.call 7 (.cons (.var 0) (.cons (.var 2) .nil))) (.cst (.int 0))) .nil
theorem take_succ_at {α : Type} {l : List α} {j : Nat} {x : α} (h : l[j]? = some x) : l.take (j + 1) = l.take j ++ [x] := by
  rw [List.take_succ, h]; rfl
theorem notin_take {l : List W} (nd : l.Nodup) {j : Nat} {x : W} (h : l[j]? = some x) : x ∉ l.take j := by
  intro hm
  obtain ⟨i, hi⟩ := List.mem_iff_getElem?.mp hm
  rw [List.getElem?_take] at hi
  split at hi
  · rename_i hij
    obtain ⟨h1, e1⟩ := List.getElem?_eq_some_iff.mp h
    obtain ⟨h2, e2⟩ := List.getElem?_eq_some_iff.mp hi
    have := (List.getElem_inj nd).mp (e1.trans e2.symm)
    omega
  · cases hi
theorem fct6 : ∀ {m : Nat}, m ≤ 6 → fct m ≤ 720 := by decide
theorem le_lim {n : Nat} (h : n < 100000) : n < lim := Nat.lt_of_lt_of_le h (by decide)
theorem tl1 {n m : Nat} (hn : 4 ≤ n) (hm : m ≤ 6) (nd : (ksW m).Nodup) (S G0 : Store) : ∃ o G, forL [] (forB P (callN P n) [] (.nm 2) b1) (rangeW 0 1 (fct m)) [some (.int m), some (.ref S.length), none, none, none, none] (S ++ [.dT []] ++ G0) =
    .nx [some (.int m), some (.ref S.length), o, none, none, none] (S ++ [.dT (kvF (ksW m) kz)] ++ G) := by
  have h720 := fct6 hm
  obtain ⟨ρ', S', e, ⟨o, h1⟩, G, h2⟩ := forL_to (gs := []) (f := forB P (callN P n) [] (.nm 2) b1) (ws := rangeW 0 1 (fct m)) (ρ := [some (.int m), some (.ref S.length), none, none, none, none]) (S := S ++ [.dT []] ++ G0)
    (fun j ρ S' => (∃ o, ρ = [some (.int m), some (.ref S.length), o, none, none, none]) ∧ ∃ G, S' = S ++ [.dT (kvF ((ksW m).take j) kz)] ++ G) ⟨⟨_, rfl⟩, G0, by simp [kvF]⟩ (fun _ _ _ _ => stands_nil) (fun j w ρ S' hw ⟨⟨o, h1⟩, G, h2⟩ => by
      obtain ⟨hj, rfl⟩ := rangeW_get _ _ _ _ _ hw
      subst h1 h2
      have hg := ksW_get hj
      obtain ⟨G', e⟩ := order_at_ok (N := n) (m := m) hn (by omega) hj (S ++ [.dT (kvF ((ksW m).take j) kz)] ++ G)
      have hp := put_new (f := kz) (notin_take nd hg) rfl
      rw [← take_succ_at hg] at hp
      have hl : (kvF ((ksW m).take j) kz).length < lim := le_lim (by unfold kvF; simp [ksW_len]; omega)
      refine ⟨_, _, .inl ?_, ⟨some (.int (0 + (j : Nat) * 1)), rfl⟩, G ++ G', rfl⟩
      generalize callN P n = cl at e
      unfold forB b1
      simp only [bindT, List.set]
      rw [s_setS (v := .int 0) (x := .ref S.length) (y := .tup (nW (oAt m j (List.range m)))) (S1 := S ++ [.dT (kvF ((ksW m).take j) kz)] ++ G) (S2 := S ++ [.dT (kvF ((ksW m).take j) kz)] ++ G) (S3 := S ++ [.dT (kvF ((ksW m).take j) kz)] ++ (G ++ G')) (S4 := S ++ [.dT (kvF ((ksW m).take (j + 1)) kz)] ++ (G ++ G'))
        (by rw [evE]) (by simp [evE]) (by
          simp only [evE, evEs, List.getElem?_cons_zero, List.getElem?_cons_succ, R.bind_ok]
          rw [show (0 + (j : Nat) * 1 : Int) = (j : Nat) by omega, e, List.append_assoc (S ++ [_])]) (by rw [set_dT (key_nW _) hl, hp]), s_nil])
  rw [rangeW_length, show (ksW m).take (fct m) = ksW m by rw [← ksW_len m, List.take_length]] at h2
  exact ⟨o, G, by rw [e, h1, h2]⟩
/-- the bases, the order by swaps of a number -/
def bsN (m : Nat) : List Nat := (List.range (m - 1)).map fun j => m - j
def swN (m k : Nat) : List Nat := if m = 0 then [] else bn (bsN m).length (um k (bsN m).reverse).reverse (List.range ((bsN m).length + 1))
theorem bs_ok : ∀ {m : Nat}, m ≤ 6 → (∀ j, j ≤ 6 → prd ((bsN m).take j) ≤ 720) ∧ (∀ b ∈ bsN m, 0 < b ∧ b ≤ 6) ∧ (0 < m → prd (bsN m) = fct m ∧ (bsN m).length + 1 = m) := by decide
theorem bs_take {m : Nat} (hm : m ≤ 6) (j : Nat) : prd ((bsN m).take j) ≤ 2432902008176640000 := by
  obtain ⟨h1, h2, h3⟩ := bs_ok hm
  by_cases hj : j ≤ 6
  · exact Nat.le_trans (h1 j hj) (by decide)
  · have hl : (bsN m).length ≤ 6 := by unfold bsN; simp; omega
    rw [List.take_of_length_le (by omega), ← List.take_of_length_le (l := bsN m) (i := 6) (by omega)]
    exact Nat.le_trans (h1 6 (by omega)) (by decide)
end K86
end
section
set_option Elab.async false
set_option linter.all false
set_option maxRecDepth 100000
set_option maxHeartbeats 4000000
set_option exponentiation.threshold 5000
namespace K86
open PySem Mp
theorem um_len : ∀ (k : Nat) (l : List Nat), (um k l).length = l.length
  | _, [] => rfl
  | k, b :: r => by rw [um, List.length_cons, um_len, List.length_cons]
theorem um_lt : ∀ (l : List Nat) (k i x : Nat), (∀ b ∈ l, 0 < b) → (um k l)[i]? = some x → ∃ b, l[i]? = some b ∧ x < b
  | [], k, i, x, hb, h => by simp [um] at h
  | b :: r, k, 0, x, hb, h => by
    rw [um] at h
    simp at h
    exact ⟨b, rfl, by rw [← h]; exact Nat.mod_lt _ (hb b (List.mem_cons_self ..))⟩
  | b :: r, k, i + 1, x, hb, h => by
    rw [um] at h
    obtain ⟨c, h1, h2⟩ := um_lt r (k / b) i x (fun c hc => hb c (List.mem_cons_of_mem _ hc)) (by simpa using h)
    exact ⟨c, by simpa using h1, h2⟩
theorem bsN_get {m i b : Nat} (h : (bsN m)[i]? = some b) : i < m - 1 ∧ b = m - i := by
  unfold bsN at h
  rw [List.getElem?_map] at h
  by_cases hi : i < m - 1
  · rw [List.getElem?_range hi] at h
    cases h
    exact ⟨hi, rfl⟩
  · rw [List.getElem?_eq_none (by simp; omega)] at h; cases h
theorem dig_ok {m k : Nat} (hm : m ≤ 6) : ∀ i (x : Nat), ((um k (bsN m).reverse).reverse)[i]? = some x → x + i ≤ ((um k (bsN m).reverse).reverse).length := by
  intro i x h
  have hl : ((um k (bsN m).reverse).reverse).length = m - 1 := by rw [List.length_reverse, um_len]; simp [bsN]
  have hi : i < m - 1 := by rw [← hl]; exact (List.getElem?_eq_some_iff.mp h).1
  rw [List.getElem?_reverse (by rw [um_len]; simp [bsN]; exact hi)] at h
  obtain ⟨b, h1, h2⟩ := um_lt _ _ _ _ (fun b hb => ((bs_ok hm).2.1 b (by simpa using hb)).1) h
  rw [um_len, List.length_reverse, List.getElem?_reverse (by simp [bsN]; omega)] at h1
  obtain ⟨h3, h4⟩ := bsN_get h1
  simp only [bsN, List.length_map, List.length_range] at h3 h4
  rw [hl]
  omega
theorem g_after {S G : Store} {x : Ob} {i : Nat} : (S ++ [x] ++ G)[S.length + 1 + i]? = G[i]? := by
  rw [List.getElem?_append_right (by rw [List.length_append, List.length_singleton]; omega)]
  congr 1
  rw [List.length_append, List.length_singleton]
  omega
theorem range_neg {m : Nat} : rangeW (m : Nat) (-1) ((m : Int) - 1).toNat = nW (bsN m) := by
  unfold rangeW nW bsN
  rw [List.map_map, show ((m : Int) - 1).toNat = m - 1 by omega]
  refine List.map_congr_left fun i hi => ?_
  have := List.mem_range.mp hi
  simp only [Function.comp]
  congr 1
  first | done | omega
abbrev b2 : B := .cons (.asg (.nm 5) (.tupE .nil)) (.cons (.ifS (.cmp .gt (.var 0) (.cst (.int 0))) (.cons (.asg (.nm 5) (.call 8 (.cons (.call 10 (.cons (.var 4) (.cons (.var 3) .nil))) .nil))) .nil) .nil) (.cons (.augS (.var 1) (.var 5) .add (.cst (.int 1))) .nil))
/-- the order of a number, run -/
theorem sw_run {n m k q : Nat} (hn : 3 ≤ n) (hm : m ≤ 6) (hm0 : 0 < m) (hk : k < fct m) {S : Store} (hq : S[q]? = some (.lst (nW (bsN m)))) {o1 o2 o5 : Option W} : ∃ G, evE P (callN P n) [] (.call 8 (.cons (.call 10 (.cons (.var 4) (.cons (.var 3) .nil))) .nil)) [some (.int m), o1, o2, some (.ref q), some (.int k), o5] S = .ok (.tup (nW (swN m k))) (S ++ G) := by
  obtain ⟨h1, h2, h3⟩ := bs_ok hm
  obtain ⟨h4, h5⟩ := h3 hm0
  have e1 := unmixed_ok (N := n) (k := k) hn hq (bs_take hm) (fun b hb => ⟨(h2 b hb).1, by have := (h2 b hb).2; omega⟩) (by omega) (by rw [h4]; exact hk)
  have hg : (S ++ [.lst (nW (um k (bsN m).reverse)), .lst (nW (um k (bsN m).reverse).reverse)])[S.length + 1]? = some (.lst (nW (um k (bsN m).reverse).reverse)) := g2b
  have hl : ((um k (bsN m).reverse).reverse).length = (bsN m).length := by rw [List.length_reverse, um_len, List.length_reverse]
  have e2 := by_numbers_ok (N := n) hn hg (by rw [hl]; omega) (dig_ok hm)
  rw [hl] at e2
  refine ⟨[.lst (nW (um k (bsN m).reverse)), .lst (nW (um k (bsN m).reverse).reverse)] ++ [.lst (nW (bn (bsN m).length (um k (bsN m).reverse).reverse (List.range ((bsN m).length + 1))))], ?_⟩
  generalize callN P n = cl at e1 e2
  simp only [evE, evEs, List.getElem?_cons_zero, List.getElem?_cons_succ, R.bind_ok, e1, e2]
  rw [List.append_assoc, swN, if_neg (by omega)]
theorem sw_exec {n m k q : Nat} (hn : 3 ≤ n) (hm : m ≤ 6) (hk : k < fct m) {S : Store} (hq : S[q]? = some (.lst (nW (bsN m)))) {o1 o2 o5 : Option W} {b : B} : ∃ G, exB P (callN P n) [] (.cons (.asg (.nm 5) (.tupE .nil)) (.cons (.ifS (.cmp .gt (.var 0) (.cst (.int 0))) (.cons (.asg (.nm 5) (.call 8 (.cons (.call 10 (.cons (.var 4) (.cons (.var 3) .nil))) .nil))) .nil) .nil) b)) [some (.int m), o1, o2, some (.ref q), some (.int k), o5] S =
    exB P (callN P n) [] b [some (.int m), o1, o2, some (.ref q), some (.int k), some (.tup (nW (swN m k)))] (S ++ G) := by
  by_cases h0 : m = 0
  · subst h0
    refine ⟨[], ?_⟩
    rw [s_asg (w := .tup []) (S1 := S) (ρ' := [some (.int ((0 : Nat) : Int)), o1, o2, some (.ref q), some (.int k), some (.tup [])]) (by simp [evE, evEs, newTup, lim]) (by simp [bindT])]
    rw [s_ifF (S1 := S) (by simp [evE, tst, c_gt, truth])]
    rw [List.append_nil]; rfl
  · obtain ⟨G, e⟩ := sw_run hn hm (by omega) hk hq (o1 := o1) (o2 := o2) (o5 := some (.tup []))
    refine ⟨G, ?_⟩
    generalize callN P n = cl at e
    rw [s_asg (w := .tup []) (S1 := S) (ρ' := [some (.int (m : Nat)), o1, o2, some (.ref q), some (.int k), some (.tup [])]) (by simp [evE, evEs, newTup, lim]) (by simp [bindT])]
    rw [s_ifT (S1 := S) (by simp [evE, tst, c_gt, truth]; omega)]
    rw [s_asg (ρ' := [some (.int (m : Nat)), o1, o2, some (.ref q), some (.int k), some (.tup (nW (swN m k)))]) e (by simp [bindT]), s_nil]
    rfl
def xsW (m : Nat) : List W := (List.range (fct m)).map fun k => .tup (nW (swN m k))
theorem xsW_get {m j : Nat} (h : j < fct m) : (xsW m)[j]? = some (.tup (nW (swN m j))) := by
  unfold xsW
  rw [List.getElem?_map, List.getElem?_range h]; rfl
theorem xsW_len (m : Nat) : (xsW m).length = fct m := by unfold xsW; simp
abbrev kc (xs : List W) : W → W := fun k => .int ((xs.count k : Nat) : Int)
theorem get_dT {S G : Store} {ks : List W} {f : W → W} {k : W} (hk : keyT k = true) (h : k ∈ ks) : getAt (.ref S.length) k (S ++ [.dT (kvF ks f)] ++ G) = .ok (f k) (S ++ [.dT (kvF ks f)] ++ G) := by
  simp only [getAt, index, g_mid]
  rw [guardR_pos hk, look_kv h]; rfl
theorem tl2 {n m q : Nat} (hn : 3 ≤ n) (hm : m ≤ 6) (hx : ∀ x ∈ xsW m, x ∈ ksW m) (S G0 : Store) (hq : G0[q]? = some (.lst (nW (bsN m)))) (o2 : Option W) : ∃ o p G, forL [] (forB P (callN P n) [] (.nm 4) b2) (rangeW 0 1 (fct m)) [some (.int m), some (.ref S.length), o2, some (.ref (S.length + 1 + q)), none, none] (S ++ [.dT (kvF (ksW m) kz)] ++ G0) =
    .nx [some (.int m), some (.ref S.length), o2, some (.ref (S.length + 1 + q)), o, p] (S ++ [.dT (kvF (ksW m) (kc (xsW m)))] ++ G) := by
  have h720 := fct6 hm
  obtain ⟨ρ', S', e, ⟨o, p, h1⟩, G, h2, h3⟩ := forL_to (gs := []) (f := forB P (callN P n) [] (.nm 4) b2) (ws := rangeW 0 1 (fct m)) (ρ := [some (.int m), some (.ref S.length), o2, some (.ref (S.length + 1 + q)), none, none]) (S := S ++ [.dT (kvF (ksW m) kz)] ++ G0)
    (fun j ρ S' => (∃ o p, ρ = [some (.int m), some (.ref S.length), o2, some (.ref (S.length + 1 + q)), o, p]) ∧ ∃ G, S' = S ++ [.dT (kvF (ksW m) (kc ((xsW m).take j)))] ++ G ∧ G[q]? = some (.lst (nW (bsN m)))) ⟨⟨_, _, rfl⟩, G0, by simp [kvF], hq⟩ (fun _ _ _ _ => stands_nil) (fun j w ρ S' hw ⟨⟨o, p, h1⟩, G, h2, h3⟩ => by
      obtain ⟨hj, rfl⟩ := rangeW_get _ _ _ _ _ hw
      subst h1 h2
      have hg := xsW_get hj
      have hmem : W.tup (nW (swN m j)) ∈ ksW m := hx _ (List.mem_of_getElem? hg)
      obtain ⟨SS, hSS⟩ : ∃ SS, SS = S ++ [Ob.dT (kvF (ksW m) (kc ((xsW m).take j)))] ++ G := ⟨_, rfl⟩
      have hqS : SS[S.length + 1 + q]? = some (.lst (nW (bsN m))) := by rw [hSS, g_after]; exact h3
      have hl : ∀ f, (kvF (ksW m) f).length < lim := fun f => le_lim (by unfold kvF; simp [ksW_len]; omega)
      have hcount : kvF (ksW m) (fun x => if x = W.tup (nW (swN m j)) then .int ((((xsW m).take j).count (.tup (nW (swN m j))) : Nat) + 1) else kc ((xsW m).take j) x) = kvF (ksW m) (kc ((xsW m).take (j + 1))) := by
        unfold kvF
        refine List.map_congr_left fun x _ => ?_
        simp only [kc, count_take hg]
        by_cases e : x = W.tup (nW (swN m j))
        · rw [if_pos e, if_pos e, e]; simp
        · rw [if_neg e, if_neg e]; simp
      -- the order of the number
      obtain ⟨G', run⟩ := sw_exec (n := n) hn hm hj hqS (o1 := some (.ref S.length)) (o2 := o2) (o5 := p) (b := .cons (.augS (.var 1) (.var 5) .add (.cst (.int 1))) .nil)
      refine ⟨_, _, .inl ?_, ⟨some (.int (j : Nat)), some (.tup (nW (swN m j))), rfl⟩, G ++ G', rfl, by rw [List.getElem?_append_left (List.getElem?_eq_some_iff.mp h3).1]; exact h3⟩
      unfold forB b2
      simp only [bindT, List.set]
      rw [show (0 + (j : Nat) * 1 : Int) = (j : Nat) by omega, ← hSS]
      refine run.trans ?_
      rw [hSS, List.append_assoc (S ++ [_])]
      have hget := get_dT (S := S) (G := G ++ G') (f := kc ((xsW m).take j)) (key_nW (swN m j)) hmem
      rw [s_augS (x := .ref S.length) (y := .tup (nW (swN m j))) (u := kc ((xsW m).take j) (.tup (nW (swN m j)))) (v := .int 1) (z := .int ((((xsW m).take j).count (.tup (nW (swN m j))) : Nat) + 1))
        (S1 := S ++ [.dT (kvF (ksW m) (kc ((xsW m).take j)))] ++ (G ++ G')) (S2 := S ++ [.dT (kvF (ksW m) (kc ((xsW m).take j)))] ++ (G ++ G')) (S3 := S ++ [.dT (kvF (ksW m) (kc ((xsW m).take j)))] ++ (G ++ G')) (S4 := S ++ [.dT (kvF (ksW m) (kc ((xsW m).take j)))] ++ (G ++ G')) (S5 := S ++ [.dT (kvF (ksW m) (kc ((xsW m).take j)))] ++ (G ++ G')) (S6 := S ++ [.dT (kvF (ksW m) (kc ((xsW m).take (j + 1))))] ++ (G ++ G'))
        (by simp [evE]) (by simp [evE]) hget (by rw [evE]) rfl (by rw [set_dT (key_nW _) (hl _), put_old hmem, hcount]), s_nil])
  rw [rangeW_length, show (xsW m).take (fct m) = xsW m by rw [← xsW_len m, List.take_length]] at h2
  exact ⟨o, p, G, by rw [e, h1, h2]⟩
end K86
end
section
set_option Elab.async false
set_option linter.all false
set_option maxRecDepth 100000
set_option maxHeartbeats 4000000
set_option exponentiation.threshold 5000
namespace K86
open PySem Mp
theorem ev_bases {cl : Nat → List W → Store → R W} {m : Nat} (hm : m ≤ 6) {r : Rho} {S : Store} : evE P cl [] (.lrange (.var 0) (.cons (.cst (.int 1)) (.cons (.neg (.cst (.int 1))) .nil))) (some (.int (m : Nat)) :: r) S = .ok (.ref S.length) (S ++ [.lst (nW (bsN m))]) := by
  have hz : smallI ((m : Nat) : Int) ∧ smallI 1 ∧ True := ⟨⟨by omega, by omega⟩, ⟨by decide, by decide⟩, trivial⟩
  have hl : ((m : Int) - 1).toNat ≤ lim := Nat.le_trans (show ((m : Int) - 1).toNat ≤ 60 by omega) (by decide)
  simp only [evE, evEs, List.getElem?_cons_zero, R.bind_ok, rangeSrc]
  rw [if_pos hz]
  simp only [newLst, rangeW_length]
  rw [if_pos hl, range_neg]
theorem swaps_ok {N m : Nat} (hN : 5 ≤ N) (hm : m ≤ 6) (nd : (ksW m).Nodup) (hx : ∀ x ∈ xsW m, x ∈ ksW m) (S : Store) : ∃ G, callN P N 11 [.int m] S = .ok (.ref (S ++ G).length) (S ++ G ++ [.lst ((kvF (ksW m) (kc (xsW m))).map fun p => .tup [p.1, p.2])]) := by
  cases N with
  | zero => omega
  | succ n =>
    have h1 := within_ok (N := n) (by omega) (m : Nat) 0 6 S
    rw [show (decide ((0 : Int) ≤ (m : Nat)) && decide (((m : Nat) : Int) ≤ 6)) = true by simp; omega] at h1
    have h2 := orders_many_ok (N := n) (m := m) (by omega) (by omega) (S ++ [.dT []])
    obtain ⟨o1, G1, e1⟩ := tl1 (n := n) (m := m) (by omega) hm nd S [.lst (fl m)]
    have h3 := orders_many_ok (N := n) (m := m) (by omega) (by omega) (S ++ [.dT (kvF (ksW m) kz)] ++ (G1 ++ [.lst (nW (bsN m))]))
    obtain ⟨o2, p2, G2, e2⟩ := tl2 (n := n) (m := m) (q := G1.length) (by omega) hm hx S (G1 ++ [.lst (nW (bsN m))] ++ [.lst (fl m)]) (by simp) o1
    have h720 := fct6 hm
    have hz : smallI ((fct m : Nat) : Int) := ⟨by omega, by omega⟩
    refine ⟨[.dT (kvF (ksW m) (kc (xsW m)))] ++ G2, call_of (d := fd11) rfl rfl ?_⟩
    generalize callN P n = cl at h1 h2 e1 h3 e2
    show (exB P cl [] fd11.body [some (.int m), none, none, none, none, none] S).fin = _
    unfold fd11
    rw [s_ifF (S1 := S) (by simp only [evE, evEs, tst, List.getElem?_cons_zero, R.bind_ok, h1, t_bl]; rfl)]
    rw [s_asg (w := .ref S.length) (S1 := S ++ [.dT []]) (ρ' := [some (.int m), some (.ref S.length), none, none, none, none]) (by simp [evE]) (by simp [bindT])]
    rw [s_for (evit_range1 (j := (fct m : Nat)) (S2 := S ++ [.dT []] ++ [.lst (fl m)]) (by simp only [evE, evEs, List.getElem?_cons_zero, R.bind_ok, h2]) hz)]
    rw [show ((fct m : Nat) : Int).toNat = fct m by omega]
    show ((forL [] (forB P cl [] (.nm 2) b1) _ _ _).then _).fin = _
    rw [e1]
    show ((exB P cl [] _ _ _)).fin = _
    rw [s_asg (w := .ref (S ++ [Ob.dT (kvF (ksW m) kz)] ++ G1).length) (S1 := S ++ [.dT (kvF (ksW m) kz)] ++ G1 ++ [.lst (nW (bsN m))]) (ρ' := [some (.int m), some (.ref S.length), o1, some (.ref (S.length + 1 + G1.length)), none, none]) (ev_bases hm) (by simp [bindT]; omega)]
    rw [List.append_assoc (S ++ [_])]
    rw [s_for (evit_range1 (j := (fct m : Nat)) (S2 := S ++ [.dT (kvF (ksW m) kz)] ++ (G1 ++ [.lst (nW (bsN m))]) ++ [.lst (fl m)]) (by simp only [evE, evEs, List.getElem?_cons_zero, R.bind_ok, h3]) hz)]
    rw [show ((fct m : Nat) : Int).toNat = fct m by omega, List.append_assoc (S ++ [_]) (G1 ++ _)]
    show ((forL [] (forB P cl [] (.nm 4) b2) _ _ _).then _).fin = _
    rw [e2]
    show ((exB P cl [] _ _ _)).fin = _
    rw [s_ret (w := .ref (S ++ [Ob.dT (kvF (ksW m) (kc (xsW m)))] ++ G2).length) (S1 := S ++ [.dT (kvF (ksW m) (kc (xsW m)))] ++ G2 ++ [.lst ((kvF (ksW m) (kc (xsW m))).map fun p => .tup [p.1, p.2])]) (by
      simp only [evE, List.getElem?_cons_zero, List.getElem?_cons_succ, R.bind_ok, g_mid])]
    simp only [RS.fin, List.append_assoc]
end K86
end
section
set_option Elab.async false
set_option linter.all false
set_option maxRecDepth 100000
set_option maxHeartbeats 4000000
namespace K86
open PySem Mp
def ksN (m : Nat) : List (List Nat) := (List.range (fct m)).map fun r => oAt m r (List.range m)
def xsN (m : Nat) : List (List Nat) := (List.range (fct m)).map fun k => swN m k
def lo (m : Nat) : Nat → List (List Nat)
  | 0 => [[]]
  | k + 1 => (lo m k).flatMap fun row => ((List.range m).filter fun p => !(row.elem p)).map fun p => row ++ [p]
theorem ord_eq : ∀ {m : Nat}, m ≤ 6 → ksN m = lo m m := by decide +kernel
def code (a : List Nat) : Nat := a.foldl (fun s x => s * 8 + (x + 1)) 0
def rising : List Nat → Bool
  | [] => true
  | [_] => true
  | a :: b :: r => Nat.blt a b && rising (b :: r)
theorem ord_rise : ∀ {m : Nat}, m ≤ 6 → rising ((ksN m).map code) = true := by decide +kernel
end K86
end
section
set_option Elab.async false
set_option linter.all false
set_option maxRecDepth 100000
set_option maxHeartbeats 4000000
namespace K86
open PySem Mp
/-- the place of x in a row, the rank of an order -/
def posN (x : Nat) : List Nat → Nat
  | [] => 0
  | y :: r => if Nat.beq x y then 0 else posN x r + 1
def rk : List Nat → List Nat → Nat
  | [], _ => 0
  | x :: r, left => posN x left * fct r.length + rk r (left.eraseIdx (posN x left))
def mask : List Nat → Nat
  | [] => 0
  | r :: l => Nat.lor (Nat.shiftLeft 1 r) (mask l)
def rks (m : Nat) : List Nat := (xsN m).map fun x => rk x (List.range m)
theorem rk_mask : ∀ {m : Nat}, m ≤ 6 → mask (rks m) = 2 ^ fct m - 1 := by decide +kernel
theorem rk_back : ∀ {m : Nat}, m ≤ 6 → (xsN m).all (fun x => Nat.blt (rk x (List.range m)) (fct m) && decide (oAt m (rk x (List.range m)) (List.range m) = x)) = true := by decide +kernel
end K86
end
section
set_option Elab.async false
set_option linter.all false
set_option maxRecDepth 100000
set_option maxHeartbeats 4000000
namespace K86
open PySem Mp
theorem mask_bit (r : Nat) : ∀ l : List Nat, (mask l).testBit r = true → r ∈ l
  | [], h => by simp [mask] at h
  | x :: l, h => by
    have h : ((1 <<< x) ||| mask l).testBit r = true := h
    rw [Nat.testBit_or, Nat.one_shiftLeft, Nat.testBit_two_pow, Bool.or_eq_true] at h
    rcases h with h | h
    · rw [of_decide_eq_true h]; exact List.mem_cons_self ..
    · exact List.mem_cons_of_mem _ (mask_bit r l h)
theorem rise_nodup : ∀ l : List Nat, rising l = true → l.Pairwise (· < ·)
  | [], _ => .nil
  | [a], _ => List.pairwise_singleton _ _
  | a :: b :: r, h => by
    rw [rising, Bool.and_eq_true] at h
    have ih := rise_nodup (b :: r) h.2
    have hab : a < b := Nat.lt_of_lt_of_le (Nat.lt_succ_self a) (Nat.le_of_ble_eq_true h.1)
    refine .cons (fun x hx => ?_) ih
    rcases List.mem_cons.mp hx with rfl | hx
    · exact hab
    · exact Nat.lt_trans hab ((List.pairwise_cons.mp ih).1 x hx)
theorem ks_nodup {m : Nat} (hm : m ≤ 6) : (ksN m).Nodup := by
  have h := rise_nodup _ (ord_rise hm)
  rw [List.pairwise_map] at h
  exact h.imp fun hab e => by rw [e] at hab; exact absurd hab (Nat.lt_irrefl _)
theorem xs_sub {m : Nat} (hm : m ≤ 6) : ∀ x ∈ xsN m, x ∈ ksN m := by
  intro x hx
  have h := List.all_eq_true.mp (rk_back hm) x hx
  rw [Bool.and_eq_true] at h
  have h1 : rk x (List.range m) < fct m := Nat.lt_of_lt_of_le (Nat.lt_succ_self _) (Nat.le_of_ble_eq_true h.1)
  exact List.mem_map.mpr ⟨_, List.mem_range.mpr h1, of_decide_eq_true h.2⟩
theorem ks_sub {m : Nat} (hm : m ≤ 6) : ∀ x ∈ ksN m, x ∈ xsN m := by
  intro x hx
  obtain ⟨r, hr, rfl⟩ := List.mem_map.mp hx
  have hr := List.mem_range.mp hr
  have hb : (mask (rks m)).testBit r = true := by rw [rk_mask hm, Nat.testBit_two_pow_sub_one]; simpa using hr
  obtain ⟨y, hy, e⟩ := List.mem_map.mp (mask_bit r _ hb)
  have h := List.all_eq_true.mp (rk_back hm) y hy
  rw [Bool.and_eq_true] at h
  have h2 : oAt m (rk y (List.range m)) (List.range m) = y := of_decide_eq_true h.2
  rw [e] at h2
  rw [h2]; exact hy
end K86
end
section
set_option Elab.async false
set_option linter.all false
set_option maxRecDepth 100000
set_option maxHeartbeats 4000000
namespace K86
open PySem Mp
theorem perm_of {α : Type} [DecidableEq α] : ∀ {ks xs : List α}, ks.Nodup → (∀ k ∈ ks, k ∈ xs) → xs.length = ks.length → xs.Perm ks
  | [], xs, _, _, hl => by rw [List.length_eq_zero_iff.mp hl]
  | k :: r, xs, nd, sub, hl => by
    have hk := sub k (List.mem_cons_self ..)
    have nd' := List.nodup_cons.mp nd
    refine (List.perm_cons_erase hk).trans (.cons k (perm_of nd'.2 (fun j hj => ?_) ?_))
    · have hne : j ≠ k := fun z => nd'.1 (z ▸ hj)
      exact (List.mem_erase_of_ne hne).mpr (sub j (List.mem_cons_of_mem _ hj))
    · rw [List.length_erase_of_mem hk, hl]; rfl
abbrev toW (l : List Nat) : W := .tup (nW l)
theorem nW_inj : ∀ {a b : List Nat}, nW a = nW b → a = b
  | [], [], _ => rfl
  | [], _ :: _, h => by cases h
  | _ :: _, [], h => by cases h
  | x :: a, y :: b, h => by
    simp only [nW, List.map_cons, List.cons.injEq, W.int.injEq] at h
    rw [show x = y by omega, nW_inj h.2]
theorem toW_inj {a b : List Nat} (h : toW a = toW b) : a = b := nW_inj (W.tup.inj h)
theorem ksW_map (m : Nat) : ksW m = (ksN m).map toW := by unfold ksW ksN; rw [List.map_map]; rfl
theorem xsW_map (m : Nat) : xsW m = (xsN m).map toW := by unfold xsW xsN; rw [List.map_map]; rfl
theorem ksW_nodup {m : Nat} (hm : m ≤ 6) : (ksW m).Nodup := by
  rw [ksW_map]
  exact List.pairwise_map.mpr ((ks_nodup hm).imp fun hab e => hab (toW_inj e))
theorem xsW_sub {m : Nat} (hm : m ≤ 6) : ∀ x ∈ xsW m, x ∈ ksW m := by
  rw [ksW_map, xsW_map]
  intro x hx
  obtain ⟨y, hy, rfl⟩ := List.mem_map.mp hx
  exact List.mem_map.mpr ⟨y, xs_sub hm y hy, rfl⟩
theorem xsW_one {m : Nat} (hm : m ≤ 6) : ∀ k ∈ ksW m, (xsW m).count k = 1 := by
  have hp : (xsW m).Perm (ksW m) := perm_of (ksW_nodup hm) (by
    rw [ksW_map, xsW_map]
    intro x hx
    obtain ⟨y, hy, rfl⟩ := List.mem_map.mp hx
    exact List.mem_map.mpr ⟨y, ks_sub hm y hy, rfl⟩) (by rw [xsW_len, ksW_len])
  intro k hk
  rw [hp.count_eq]
  exact (ksW_nodup hm).count.trans (by rw [if_pos hk])
theorem tally_is {m : Nat} (hm : m ≤ 6) : (kvF (ksW m) (kc (xsW m))).map (fun p => W.tup [p.1, p.2]) = (ksW m).map fun k => .tup [k, .int 1] := by
  unfold kvF
  rw [List.map_map]
  refine List.map_congr_left fun k hk => ?_
  simp only [Function.comp, kc, xsW_one hm k hk]
  rfl
end K86
end
section
set_option Elab.async false
set_option linter.all false
set_option maxRecDepth 100000
set_option maxHeartbeats 4000000
namespace K86
open PySem Mp
def nx (m : Nat) (row : List Nat) : List (List Nat) := ((List.range m).filter fun p => !(row.elem p)).map fun p => row ++ [p]
theorem lo_succ (m k : Nat) : lo m (k + 1) = (lo m k).flatMap (nx m) := rfl
theorem lo_len : ∀ {m : Nat}, m ≤ 6 → ∀ {k : Nat}, k ≤ 6 → (lo m k).length ≤ 2000 := by decide +kernel
theorem lo_row : ∀ {k m : Nat} {row : List Nat}, row ∈ lo m k → row.length = k
  | 0, m, row, h => by rw [lo] at h; rw [List.mem_singleton.mp h]; rfl
  | k + 1, m, row, h => by
    rw [lo_succ] at h
    obtain ⟨r, hr, h2⟩ := List.mem_flatMap.mp h
    unfold nx at h2
    obtain ⟨p, _, rfl⟩ := List.mem_map.mp h2
    rw [List.length_append, lo_row hr]; rfl
theorem nx_len (m : Nat) (row : List Nat) : (nx m row).length ≤ m := by
  unfold nx
  rw [List.length_map]
  exact Nat.le_trans (List.length_filter_le ..) (by simp)
theorem fm_len (m : Nat) : ∀ l : List (List Nat), (l.flatMap (nx m)).length ≤ l.length * m
  | [] => by simp
  | x :: r => by
    rw [List.flatMap_cons, List.length_append, List.length_cons, Nat.add_mul, Nat.one_mul]
    have := fm_len m r
    have := nx_len m x
    omega
theorem in_row (S : Store) (p : Nat) (row : List Nat) : inW S (.int (p : Nat)) (toW row) = some (row.elem p) := by
  have h1 : ∀ l : List Nat, (nW l).all flatW = true := fun l => by
    unfold nW; rw [List.all_map]; exact List.all_eq_true.mpr fun _ _ => rfl
  have h2 : ∀ l : List Nat, ((nW l).any fun y => eqF y (.int (p : Nat))) = l.elem p := fun l => by
    induction l with
    | nil => rfl
    | cons x r ih =>
      rw [nW, List.map_cons, List.any_cons, ← nW, ih, List.elem_cons]
      have : eqF (.int (x : Nat)) (.int (p : Nat)) = (p == x) := by
        by_cases e : p = x
        · subst e; simp [eqF]
        · have : ¬ (x : Int) = (p : Int) := by omega
          show ((x : Int) == (p : Int)) = (p == x)
          rw [beq_false_of_ne this, beq_false_of_ne e]
      rw [this]
      cases (p == x) <;> rfl
  unfold inW toW
  simp only [itemsOf, flatW, h1, h2, Bool.and_self, if_true]
theorem compL_filt {f : W → Store → R (Option W)} {g : W → Option W} {S : Store} : ∀ (ws : List W) (acc : List W), acc.length + ws.length < lim →
    (∀ w ∈ ws, ∀ S, f w S = .ok (g w) S) → compL [] S.length f ws (S ++ [.lst acc]) = .ok (.ref S.length) (S ++ [.lst (acc ++ ws.filterMap g)])
  | [], acc, hl, hf => by rw [compL, if_pos stands_nil]; simp
  | w :: ws, acc, hl, hf => by
    rw [compL, if_pos stands_nil, hf w (List.mem_cons_self ..)]
    cases hg : g w with
    | none =>
      simp only [R.calm, R.bind_ok, hg]
      rw [compL_filt ws acc (by simp at hl; omega) fun u hu => hf u (List.mem_cons_of_mem _ hu), List.filterMap_cons, hg]
    | some v =>
      have hget : (S ++ [Ob.lst acc])[S.length]? = some (.lst acc) := by simp
      simp only [R.calm, R.bind_ok, hget]
      rw [if_pos (by simp at hl; omega), set_last, compL_filt ws (acc ++ [v]) (by simp at hl ⊢; omega) fun u hu => hf u (List.mem_cons_of_mem _ hu), List.filterMap_cons, hg]
      simp
abbrev oc : E := .comp [5] (.nm 5) (.range (.cons (.var 0) .nil)) (.cons (.cmp .notin (.var 5) (.var 4)) .nil) (.bin .add (.var 4) (.tupE (.cons (.var 5) .nil)))
theorem oc_fm (m : Nat) (row : List Nat) : (nW (List.range m)).filterMap (fun w => match w with | .int i => if row.elem i.toNat then none else some (.tup (nW row ++ [.int i])) | _ => none) = (nx m row).map toW := by
  unfold nx nW
  induction List.range m with
  | nil => rfl
  | cons x r ih =>
    rw [List.map_cons, List.filterMap_cons, ih, List.filter_cons]
    cases h : row.elem x <;> simp_all [nW]
theorem oc_ok {cl : Nat → List W → Store → R W} {m : Nat} {row : List Nat} {a b c d : Option W} (hm : m ≤ 6) (hr : row.length ≤ 100) (S : Store) :
    evE P cl [] oc [some (.int m), a, b, c, some (toW row), d] S = .ok (.ref S.length) (S ++ [.lst ((nx m row).map toW)]) := by
  have hz : smallI ((m : Nat) : Int) := ⟨by omega, by omega⟩
  have e := compL_filt (f := fun w S2 => match bindT (.nm 5) w (wipeR [some (.int m), a, b, c, some (toW row), d] [5]) with
      | none => .bad
      | some ρ' => (evConds P cl [] (.cons (.cmp .notin (.var 5) (.var 4)) .nil) ρ' S2).bind fun b S3 => if b then (evE P cl [] (.bin .add (.var 4) (.tupE (.cons (.var 5) .nil))) ρ' S3).bind fun v S4 => .ok (some v) S4 else .ok none S3)
    (g := fun w => match w with | .int i => if row.elem i.toNat then none else some (.tup (nW row ++ [.int i])) | _ => none) (S := S) (nW (List.range m)) [] (by simp [nW, lim]; omega) fun w hw T => by
      unfold nW at hw
      obtain ⟨p, _, rfl⟩ := List.mem_map.mp hw
      simp only [bindT, wipeR, List.set_cons_succ, List.set_cons_zero, evConds, evE, evEs, List.getElem?_cons_zero, List.getElem?_cons_succ, R.bind_ok, cmp, in_row, Option.map_some, okB, tst, t_bl]
      have : ((p : Nat) : Int).toNat = p := by omega
      rw [this]
      cases row.elem p with
      | true => simp
      | false =>
        have : row.length + 1 ≤ lim := Nat.le_trans (show row.length + 1 ≤ 101 by omega) (by decide)
        have : 1 ≤ lim := by decide
        simp [newTup, bin, toW, *]
  unfold oc
  rw [evE, evit_range1 (S2 := S) (j := (m : Nat)) (by simp [evE]) hz, R.bind_ok]
  simp only []
  rw [show (((m : Nat) : Int)).toNat = m by omega, rangeW_nW]
  refine e.trans ?_
  rw [List.nil_append, oc_fm]
end K86
end
section
set_option Elab.async false
set_option linter.all false
set_option maxRecDepth 100000
set_option maxHeartbeats 4000000
namespace K86
open PySem Mp
abbrev ib : B := .cons (.asg (.nm 3) (.bin .add (.var 3) oc)) .nil
theorem take_fm {α β : Type} (f : α → List β) {l : List α} {j : Nat} {x : α} (h : l[j]? = some x) : (l.take (j + 1)).flatMap f = (l.take j).flatMap f ++ f x := by
  rw [List.take_succ, h, List.flatMap_append]; simp
theorem inner_ok {cl : Nat → List W → Store → R W} {m k : Nat} (hm : m ≤ 6) (hk : k ≤ 6) {S : Store} {r1 r3 : Nat} {b : Option W} {o4 o5 : Option W} (h1 : S[r1]? = some (.lst ((lo m k).map toW))) (h3 : S[r3]? = some (.lst [])) :
    ∃ G a p4 p5, forL [(r1, .lst ((lo m k).map toW))] (forB P cl [] (.nm 4) ib) ((lo m k).map toW) [some (.int m), some (.ref r1), b, some (.ref r3), o4, o5] S = .nx [some (.int m), some (.ref r1), b, some (.ref a), p4, p5] (S ++ G) ∧ (S ++ G)[a]? = some (.lst ((lo m (k + 1)).map toW)) := by
  obtain ⟨ρ', S', e, G, a, p4, p5, rfl, rfl, hg⟩ := forL_to (gs := [(r1, .lst ((lo m k).map toW))]) (f := forB P cl [] (.nm 4) ib) (ws := (lo m k).map toW) (ρ := [some (.int m), some (.ref r1), b, some (.ref r3), o4, o5]) (S := S)
    (fun j ρ T => ∃ G a p4 p5, ρ = [some (.int m), some (.ref r1), b, some (.ref a), p4, p5] ∧ T = S ++ G ∧ T[a]? = some (.lst ((((lo m k).take j).flatMap (nx m)).map toW)))
    ⟨[], r3, o4, o5, rfl, by simp, by simpa using h3⟩
    (fun i ρ T ⟨G, a, p4, p5, _, e2, _⟩ g hg => by
      rw [List.mem_singleton.mp hg, e2]
      exact get_app h1)
    (fun j w ρ T hj ⟨G, a, p4, p5, e1, e2, e3⟩ => by
      rw [List.getElem?_map] at hj
      obtain ⟨row, hrow, rfl⟩ := Option.map_eq_some_iff.mp hj
      have hlen := lo_row (List.mem_of_getElem? hrow)
      have hoc := oc_ok (cl := cl) (m := m) (row := row) (a := some (.ref r1)) (b := b) (c := some (.ref a)) (d := p5) hm (by omega) T
      have hl1 := lo_len hm hk
      have hl2 := fm_len m ((lo m k).take j)
      have hl3 : ((lo m k).take j).length ≤ 2000 := by rw [List.length_take]; omega
      have hl4 := nx_len m row
      have hl5 : ((lo m k).take j).length * m ≤ 2000 * 6 := Nat.mul_le_mul hl3 hm
      refine ⟨[some (.int m), some (.ref r1), b, some (.ref (T ++ [Ob.lst ((nx m row).map toW)]).length), some (toW row), p5], T ++ [.lst ((nx m row).map toW)] ++ [.lst ((((lo m k).take (j + 1)).flatMap (nx m)).map toW)], .inl ?_, G ++ [.lst ((nx m row).map toW)] ++ [.lst ((((lo m k).take (j + 1)).flatMap (nx m)).map toW)], _, _, _, rfl, by rw [e2]; simp, by simp⟩
      subst e1
      unfold forB
      simp only [bindT, List.set_cons_succ, List.set_cons_zero]
      unfold ib
      rw [s_asg (w := .ref (T ++ [Ob.lst ((nx m row).map toW)]).length) (S1 := T ++ [.lst ((nx m row).map toW)] ++ [.lst ((((lo m k).take (j + 1)).flatMap (nx m)).map toW)]) (ρ' := [some (.int m), some (.ref r1), b, some (.ref (T ++ [Ob.lst ((nx m row).map toW)]).length), some (toW row), p5]) (by
        have hv : evE P cl [] (.var 3) [some (.int m), some (.ref r1), b, some (.ref a), some (toW row), p5] T = .ok (.ref a) T := by simp [evE]
        rw [evE, hv, R.bind_ok, hoc, R.bind_ok]
        simp only [bin, get_app e3]
        have hz : (T ++ [Ob.lst ((nx m row).map toW)])[T.length]? = some (.lst ((nx m row).map toW)) := by simp
        rw [hz]
        simp only []
        rw [guardR_pos (Nat.le_trans (show _ ≤ 20000 by simp only [List.length_map]; omega) (by decide)), take_fm _ hrow, List.map_append]) (by simp [bindT]), s_nil])
  rw [List.length_map, List.take_length, ← lo_succ] at hg
  exact ⟨G, a, p4, p5, e, hg⟩
abbrev outB : B := .cons (.asg (.nm 3) (.lstE .nil)) (.cons (.forS (.nm 4) (.seq (.var 1)) ib) (.cons (.asg (.nm 1) (.var 3)) .nil))
theorem orders_ok {N m : Nat} (hN : 1 ≤ N) (hm : m ≤ 6) (S : Store) : ∃ G a, callN P N 24 [.int m] S = .ok (.ref a) (S ++ G) ∧ (S ++ G)[a]? = some (.lst ((ksW m))) := by
  cases N with
  | zero => omega
  | succ n =>
    have hz : smallI ((m : Nat) : Int) := ⟨by omega, by omega⟩
    generalize hcl : callN P n = cl
    obtain ⟨ρ', S', e, G, a, o2, o3, o4, o5, rfl, rfl, hg⟩ := forL_to (gs := []) (f := forB P cl [] (.nm 2) outB) (ws := rangeW 0 1 m) (ρ := [some (.int m), some (.ref S.length), none, none, none, none]) (S := S ++ [.lst [.tup []]])
      (fun j ρ T => ∃ G a o2 o3 o4 o5, ρ = [some (.int m), some (.ref a), o2, o3, o4, o5] ∧ T = S ++ G ∧ T[a]? = some (.lst ((lo m j).map toW)))
      ⟨[.lst [.tup []]], S.length, none, none, none, none, rfl, rfl, by simp [lo, nW]⟩
      (fun i ρ T _ => stands_nil)
      (fun j w ρ T hj ⟨G, a, o2, o3, o4, o5, e1, e2, e3⟩ => by
        obtain ⟨hjm, rfl⟩ := rangeW_get _ _ _ _ _ hj
        obtain ⟨G1, b, p4, p5, f1, f2⟩ := inner_ok (cl := cl) (m := m) (k := j) hm (by omega) (S := T ++ [.lst []]) (r1 := a) (r3 := T.length) (b := some (.int (0 + (j : Nat) * 1))) (o4 := o4) (o5 := o5) (get_app e3) (by simp)
        refine ⟨[some (.int m), some (.ref b), some (.int (0 + (j : Nat) * 1)), some (.ref b), p4, p5], T ++ [.lst []] ++ G1, .inl ?_, G ++ [.lst []] ++ G1, _, _, _, _, _, rfl, by rw [e2]; simp, f2⟩
        subst e1
        unfold forB
        simp only [bindT, List.set_cons_succ, List.set_cons_zero]
        unfold outB
        rw [s_asg (w := .ref T.length) (S1 := T ++ [.lst []]) (ρ' := [some (.int m), some (.ref a), some (.int (0 + (j : Nat) * 1)), some (.ref T.length), o4, o5]) (by simp [evE, evEs, newLst]) (by simp [bindT])]
        rw [s_for (src := ([(a, .lst ((lo m j).map toW))], (lo m j).map toW)) (S1 := T ++ [.lst []]) (by simp [evIt, evE, seqSrc, okS, get_app e3])]
        simp only []
        rw [f1]
        simp only [RS.then]
        rw [s_asg (w := .ref b) (S1 := T ++ [.lst []] ++ G1) (ρ' := [some (.int m), some (.ref b), some (.int (0 + (j : Nat) * 1)), some (.ref b), p4, p5]) (by simp [evE]) (by simp [bindT]), s_nil])
    refine ⟨G, a, call_of (d := fd24) rfl rfl ?_, by rw [hg, rangeW_length, ← ord_eq hm, ksW_map]⟩
    rw [hcl]
    show (exB P cl [] fd24.body [some (.int m), none, none, none, none, none] S).fin = _
    unfold fd24
    have h1 : 1 ≤ lim := by decide
    rw [s_asg (w := .ref S.length) (S1 := S ++ [.lst [.tup []]]) (ρ' := [some (.int m), some (.ref S.length), none, none, none, none]) (by simp [evE, evEs, newLst, newTup, h1]) (by simp [bindT])]
    rw [s_for (evit_range1 (j := (m : Nat)) (S2 := S ++ [.lst [.tup []]]) (by simp [evE]) hz)]
    rw [show ((m : Nat) : Int).toNat = m by omega]
    show ((forL [] (forB P cl [] (.nm 2) outB) _ _ _).then _).fin = _
    rw [e]
    show ((exB P cl [] _ _ _)).fin = _
    rw [s_ret (w := .ref a) (S1 := S ++ G) (by simp [evE])]
    rfl
end K86
end
section
set_option Elab.async false
set_option linter.all false
set_option maxRecDepth 100000
set_option maxHeartbeats 4000000
set_option exponentiation.threshold 5000
namespace K86
open PySem Mp
def Keep (a : Nat) (S S' : Store) : Prop := S.length ≤ S'.length ∧ ∀ b, b < S.length → b ≠ a → S'[b]? = S[b]?
section
variable {a b k : Nat} {S S1 S2 S3 G : Store} {o : Ob}
theorem keep_refl : Keep a S S := ⟨Nat.le_refl _, fun _ _ _ => rfl⟩
theorem keep_trans (h : Keep a S1 S2) (g : Keep a S2 S3) : Keep a S1 S3 := ⟨Nat.le_trans h.1 g.1, fun b hb ne => (g.2 b (Nat.lt_of_lt_of_le hb h.1) ne).trans (h.2 b hb ne)⟩
theorem keep_app : Keep a S (S ++ G) := ⟨by simp, fun b hb _ => List.getElem?_append_left hb⟩
theorem keep_off (h : Off a S S1) : Keep a S S1 := ⟨Nat.le_of_eq h.1.symm, fun b _ ne => h.2 b ne⟩
theorem keep_get (h : Keep a S S1) (hb : S[b]? = some o) (ne : b ≠ a) : S1[b]? = some o := (h.2 b (lt_of_get hb) ne).trans hb
theorem well_app (h : Well S a k) : Well (S ++ G) a k := by
  obtain ⟨x, y, z, h, r⟩ := h
  exact ⟨x, y, z, get_app h, r⟩
theorem well_lt (h : Well S a k) : a < S.length := by
  obtain ⟨x, y, z, h, r⟩ := h
  exact lt_of_get h
end
def Drw (cl : Nat → List W → Store → R W) : Prop := ∀ (S : Store) (a k : Nat) (m : Int), Well S a k → k ≤ 1000000 → 0 < m → m ≤ 2432902008176640000 →
  ∃ (r : Nat) (S' : Store), cl 19 [.ref a, .int m] S = .ok (.int (r : Nat)) S' ∧ (r : Int) < m ∧ Well S' a (k + 1) ∧ Keep a S S'
def Far (cl : Nat → List W → Store → R W) : Prop := ∀ (S : Store) (a k : Nat) (m : Int), Well S a k → k ≤ 100000 → 0 < m →
  ∃ (r : Nat) (S' : Store), cl 20 [.ref a, .int m] S = .ok (.int (r : Nat)) S' ∧ (r : Int) < m ∧ Well S' a (k + 3) ∧ Keep a S S'
theorem drw_all {N : Nat} (hN : 1 ≤ N) : Drw (callN P N) := fun S a k m hw hk h1 h2 => by
  obtain ⟨r, S', e, r1, r2, w, o⟩ := draw_ok hN hw hk h1 h2
  refine ⟨r.toNat, S', ?_, by omega, w, keep_off o⟩
  rw [show ((r.toNat : Nat) : Int) = r by omega]; exact e
theorem far_all {N : Nat} (hN : 2 ≤ N) : Far (callN P N) := fun S a k m hw hk h1 => by
  obtain ⟨r, S', e, r1, r2, w, o⟩ := far_ok hN hw hk h1
  refine ⟨r.toNat, S', ?_, by omega, w, keep_off o⟩
  rw [show ((r.toNat : Nat) : Int) = r by omega]; exact e
section
variable {cl : Nat → List W → Store → R W} {ρ : Rho} {S : Store} {a k : Nat}
abbrev dr (e : E) : E := .call 19 (.cons (.var 2) (.cons e .nil))
theorem ev_cst {w : W} : evE P cl [] (.cst w) ρ S = .ok w S := by rw [evE]
theorem ev_var {i : Nat} {w : W} (h : ρ[i]? = some (some w)) : evE P cl [] (.var i) ρ S = .ok w S := by
  rw [evE, h]
theorem ev_draw (D : Drw cl) (h2 : ρ[2]? = some (some (.ref a))) {e : E} {m : Int} (he : evE P cl [] e ρ S = .ok (.int m) S) (hw : Well S a k) (hk : k ≤ 1000000) (h0 : 0 < m) (h1 : m ≤ 2432902008176640000) :
    ∃ (r : Nat) (S' : Store), evE P cl [] (dr e) ρ S = .ok (.int (r : Nat)) S' ∧ (r : Int) < m ∧ Well S' a (k + 1) ∧ Keep a S S' := by
  obtain ⟨r, S', e1, h⟩ := D S a k m hw hk h0 h1
  refine ⟨r, S', ?_, h⟩
  simp only [dr, evE, evEs, h2, he, R.bind_ok, e1]
theorem ev_add {e1 e2 : E} {i j : Int} {S1 S2 : Store} (h1 : evE P cl [] e1 ρ S = .ok (.int i) S1) (h2 : evE P cl [] e2 ρ S1 = .ok (.int j) S2) : evE P cl [] (.bin .add e1 e2) ρ S = .ok (.int (i + j)) S2 := by
  simp only [evE, h1, h2, R.bind_ok, b_add]
theorem ev_shl1 {e2 : E} {w : Nat} {S2 : Store} (h2 : evE P cl [] e2 ρ S = .ok (.int (w : Nat)) S2) (hw : w ≤ 100000) : evE P cl [] (.bin .shl (.cst (.int 1)) e2) ρ S = .ok (.int ((2 ^ w : Nat) : Int)) S2 := by
  rw [evE, ev_cst, R.bind_ok, h2, R.bind_ok]
  exact shl1 hw
/-- one of two, the second where a draw of six is nought -/
theorem pick2 (D : Drw cl) (h2 : ρ[2]? = some (some (.ref a))) {e1 e2 : E} {x y : Nat} {S1 S2 : Store} (g1 : evE P cl [] e1 ρ S = .ok (.int (x : Nat)) S1) (g2 : evE P cl [] e2 ρ S1 = .ok (.int (y : Nat)) S2) (hw : Well S2 a k) (hk : k ≤ 1000) :
    ∃ (z : Nat) (S' : Store), evE P cl [] (.idx (.lstE (.cons e1 (.cons e2 .nil))) (.bi .int (.cons (.cmp .eq (dr (.cst (.int 6))) (.cst (.int 0))) .nil))) ρ S = .ok (.int (z : Nat)) S' ∧ (z = x ∨ z = y) ∧ Well S' a (k + 1) ∧ Keep a S2 S' := by
  obtain ⟨r, S3, e3, r1, w3, k3⟩ := ev_draw (ρ := ρ) (S := S2 ++ [.lst [.int (x : Nat), .int (y : Nat)]]) D h2 (ev_cst (w := .int 6)) (well_app hw) (by omega) (by decide) (by decide)
  have hget : S3[S2.length]? = some (.lst [.int (x : Nat), .int (y : Nat)]) := keep_get k3 (by simp) (by have := well_lt hw; omega)
  have h2' : 2 ≤ lim := by decide
  refine ⟨if r = 0 then y else x, S3, ?_, by split <;> simp, w3, keep_trans keep_app k3⟩
  have g0 : evE P cl [] (.lstE (.cons e1 (.cons e2 .nil))) ρ S = .ok (.ref S2.length) (S2 ++ [.lst [.int (x : Nat), .int (y : Nat)]]) := by
    rw [evE, evEs, g1, R.bind_ok, evEs, g2, R.bind_ok, evEs, R.bind_ok, R.bind_ok, R.bind_ok, newLst]; exact if_pos h2'
  have g3 : evE P cl [] (.bi .int (.cons (.cmp .eq (dr (.cst (.int 6))) (.cst (.int 0))) .nil)) ρ (S2 ++ [.lst [.int (x : Nat), .int (y : Nat)]]) = .ok (.int (if decide (((r : Nat) : Int) = 0) = true then 1 else 0)) S3 := by
    rw [evE, evEs, evE, e3, R.bind_ok, ev_cst, R.bind_ok, c_eq, R.bind_ok, evEs, R.bind_ok, R.bind_ok, int_bl]
  rw [evE, g0, R.bind_ok, g3, R.bind_ok]
  simp only [index, hget]
  by_cases hr : r = 0
  · subst hr; simp [atW, ixN, okO]
  · rw [if_neg hr, if_neg (by simp; omega)]; simp [atW, ixN, okO]
end
end K86
end
section
set_option Elab.async false
set_option linter.all false
set_option maxRecDepth 100000
set_option maxHeartbeats 4000000
set_option exponentiation.threshold 5000
namespace K86
open PySem Mp
section
variable {cl : Nat → List W → Store → R W} {ρ : Rho} {S : Store} {a k : Nat}
abbrev e3 : E := .idx (.lstE (.cons (.bin .add (.cst (.int 4)) (dr (.cst (.int 5)))) (.cons (.bin .add (.cst (.int 4)) (dr (.cst (.int 9)))) .nil))) (.bi .int (.cons (.cmp .eq (dr (.cst (.int 6))) (.cst (.int 0))) .nil))
theorem ev3 (D : Drw cl) (h2 : ρ[2]? = some (some (.ref a))) (hw : Well S a k) (hk : k ≤ 900) : ∃ (w : Nat) (S' : Store), evE P cl [] e3 ρ S = .ok (.int (w : Nat)) S' ∧ 4 ≤ w ∧ w ≤ 12 ∧ Well S' a (k + 3) ∧ Keep a S S' := by
  obtain ⟨r1, S1, f1, l1, w1, k1⟩ := ev_draw D h2 (ev_cst (w := .int 5)) hw (by omega) (by decide) (by decide)
  obtain ⟨r2, S2, f2, l2, w2, k2⟩ := ev_draw D h2 (ev_cst (w := .int 9)) w1 (by omega) (by decide) (by decide)
  obtain ⟨z, S', e, hz, w, kk⟩ := pick2 D h2 (x := 4 + r1) (y := 4 + r2) (by have := ev_add (ev_cst (w := .int 4)) f1; rw [this]; congr 2) (by have := ev_add (ev_cst (w := .int 4)) f2; rw [this]; congr 2) w2 (by omega)
  exact ⟨z, S', e, by omega, by omega, w, keep_trans k1 (keep_trans k2 kk)⟩
abbrev e9 : E := .idx (.lstE (.cons (dr (.cst (.int 5))) (.cons (dr (.cst (.int 7))) .nil))) (.bi .int (.cons (.cmp .eq (dr (.cst (.int 6))) (.cst (.int 0))) .nil))
theorem ev9 (D : Drw cl) (h2 : ρ[2]? = some (some (.ref a))) (hw : Well S a k) (hk : k ≤ 900) : ∃ (w : Nat) (S' : Store), evE P cl [] e9 ρ S = .ok (.int (w : Nat)) S' ∧ w ≤ 6 ∧ Well S' a (k + 3) ∧ Keep a S S' := by
  obtain ⟨r1, S1, f1, l1, w1, k1⟩ := ev_draw D h2 (ev_cst (w := .int 5)) hw (by omega) (by decide) (by decide)
  obtain ⟨r2, S2, f2, l2, w2, k2⟩ := ev_draw D h2 (ev_cst (w := .int 7)) w1 (by omega) (by decide) (by decide)
  obtain ⟨z, S', e, hz, w, kk⟩ := pick2 D h2 f1 f2 w2 (by omega)
  exact ⟨z, S', e, by omega, w, keep_trans k1 (keep_trans k2 kk)⟩
theorem pow12 {w : Nat} (hw : w ≤ 12) : 0 < (2 ^ w : Nat) ∧ (2 ^ w : Nat) ≤ 4096 := ⟨Nat.pow_pos (by decide), Nat.le_trans (Nat.pow_le_pow_right (n := 2) (by decide) hw) (by decide)⟩
abbrev e4 : E := .lstE (.cons (.bin .add (.cst (.int 1)) (dr (.cst (.int 20)))) (.cons (.bin .shl (.cst (.int 1)) (dr (.cst (.int 13)))) (.cons (.bin .add (.cst (.int 1)) (dr (.bin .shl (.cst (.int 1)) (.var 3)))) .nil)))
theorem ev4 (D : Drw cl) (h2 : ρ[2]? = some (some (.ref a))) {w : Nat} (h3 : ρ[3]? = some (some (.int (w : Nat)))) (hw12 : w ≤ 12) (hw : Well S a k) (hk : k ≤ 900) :
    ∃ (b x y z : Nat) (S' : Store), evE P cl [] e4 ρ S = .ok (.ref b) S' ∧ S'[b]? = some (.lst [.int (x : Nat), .int (y : Nat), .int (z : Nat)]) ∧ b ≠ a ∧ (1 ≤ x ∧ x ≤ 4096) ∧ (1 ≤ y ∧ y ≤ 4096) ∧ (1 ≤ z ∧ z ≤ 4096) ∧ Well S' a (k + 3) ∧ Keep a S S' := by
  obtain ⟨p1, p2⟩ := pow12 hw12
  obtain ⟨r1, S1, f1, l1, w1, k1⟩ := ev_draw D h2 (ev_cst (w := .int 20)) hw (by omega) (by decide) (by decide)
  obtain ⟨r2, S2, f2, l2, w2, k2⟩ := ev_draw D h2 (ev_cst (w := .int 13)) w1 (by omega) (by decide) (by decide)
  obtain ⟨r3, S3, f3, l3, w3, k3⟩ := ev_draw D h2 (ev_shl1 (ev_var h3) (by omega)) w2 (by omega) (by omega) (by omega)
  obtain ⟨q1, q2⟩ := pow12 (w := r2) (by omega)
  have g1 := ev_add (ev_cst (w := .int 1)) f1
  have g2 := ev_shl1 f2 (by omega)
  have g3 := ev_add (ev_cst (w := .int 1)) f3
  have h3' : 3 ≤ lim := by decide
  refine ⟨S3.length, 1 + r1, 2 ^ r2, 1 + r3, S3 ++ [.lst [.int ((1 + r1 : Nat) : Int), .int ((2 ^ r2 : Nat) : Int), .int ((1 + r3 : Nat) : Int)]], ?_, by simp, by have := well_lt w3; omega, ⟨by omega, by omega⟩, ⟨by omega, by omega⟩, ⟨by omega, by omega⟩, well_app w3, keep_trans k1 (keep_trans k2 (keep_trans k3 keep_app))⟩
  rw [e4, evE]
  rw [evEs, g1, R.bind_ok, evEs, g2, R.bind_ok, evEs, g3, R.bind_ok, evEs, R.bind_ok, R.bind_ok, R.bind_ok, R.bind_ok, newLst]
  refine (if_pos h3').trans ?_
  push_cast
  rfl
theorem four (x y z u j : Nat) (hj : j < 4) : atW [W.int (x : Nat), .int (y : Nat), .int (z : Nat), .int (u : Nat)] (j : Nat) = some (.int ([x, y, z, u].getD j 0 : Nat)) := by
  rw [atW_nat]
  rcases j with _ | _ | _ | _ | j <;> first | rfl | omega
theorem four_all {Q : Nat → Prop} {x y z u j : Nat} (hj : j < 4) (h1 : Q x) (h2 : Q y) (h3 : Q z) (h4 : Q u) : Q ([x, y, z, u].getD j 0) := by
  rcases j with _ | _ | _ | _ | j <;> first | assumption | omega
abbrev e5 : E := .idx (.bin .add (.var 4) (.lstE (.cons (.bin .add (.cst (.int 1)) (dr (.cst (.int 4096)))) .nil))) (dr (.cst (.int 4)))
theorem ev5 (D : Drw cl) (h2 : ρ[2]? = some (some (.ref a))) {b x y z : Nat} (h4 : ρ[4]? = some (some (.ref b))) (hb : S[b]? = some (.lst [.int (x : Nat), .int (y : Nat), .int (z : Nat)])) (ne : b ≠ a) (hx : 1 ≤ x ∧ x ≤ 4096) (hy : 1 ≤ y ∧ y ≤ 4096) (hz : 1 ≤ z ∧ z ≤ 4096)
    (hw : Well S a k) (hk : k ≤ 900) : ∃ (w : Nat) (S' : Store), evE P cl [] e5 ρ S = .ok (.int (w : Nat)) S' ∧ 1 ≤ w ∧ w ≤ 4096 ∧ Well S' a (k + 2) ∧ Keep a S S' := by
  obtain ⟨r1, S1, f1, l1, w1, k1⟩ := ev_draw D h2 (ev_cst (w := .int 4096)) hw (by omega) (by decide) (by decide)
  have g1 := ev_add (ev_cst (w := .int 1)) f1
  have hb1 : S1[b]? = some (.lst [.int (x : Nat), .int (y : Nat), .int (z : Nat)]) := keep_get k1 hb ne
  obtain ⟨S2, hS2⟩ : ∃ S2, S2 = S1 ++ [Ob.lst [.int ((1 + r1 : Nat) : Int)]] ++ [.lst [.int (x : Nat), .int (y : Nat), .int (z : Nat), .int ((1 + r1 : Nat) : Int)]] := ⟨_, rfl⟩
  have wS2 : Well S2 a (k + 1) := by rw [hS2]; exact well_app (well_app w1)
  obtain ⟨r2, S3, f2, l2, w2, k2⟩ := ev_draw D h2 (ev_cst (w := .int 4)) wS2 (by omega) (by decide) (by decide)
  have hget : S3[S1.length + 1]? = some (.lst [.int (x : Nat), .int (y : Nat), .int (z : Nat), .int ((1 + r1 : Nat) : Int)]) := keep_get k2 (by rw [hS2]; simp) (by have := well_lt w1; omega)
  have q := four_all (Q := fun v => 1 ≤ v ∧ v ≤ 4096) (j := r2) (by omega) hx hy hz (show 1 ≤ 1 + r1 ∧ 1 + r1 ≤ 4096 by omega)
  refine ⟨[x, y, z, 1 + r1].getD r2 0, S3, ?_, q.1, q.2, w2, keep_trans k1 (keep_trans (by rw [hS2]; exact keep_trans keep_app keep_app) k2)⟩
  have h1' : 1 ≤ lim := by decide
  have h4' : 3 + 1 ≤ lim := by decide
  have gb : (S1 ++ [Ob.lst [.int ((1 + r1 : Nat) : Int)]])[b]? = some (.lst [.int (x : Nat), .int (y : Nat), .int (z : Nat)]) := get_app hb1
  have g0 : evE P cl [] (.bin .add (.var 4) (.lstE (.cons (.bin .add (.cst (.int 1)) (dr (.cst (.int 4096)))) .nil))) ρ S = .ok (.ref (S1.length + 1)) S2 := by
    have gl1 : evE P cl [] (.lstE (.cons (.bin .add (.cst (.int 1)) (dr (.cst (.int 4096)))) .nil)) ρ S = .ok (.ref S1.length) (S1 ++ [.lst [.int ((1 + r1 : Nat) : Int)]]) := by
      rw [evE, evEs, g1, R.bind_ok, evEs, R.bind_ok, R.bind_ok, newLst]
      refine (if_pos h1').trans ?_
      push_cast; rfl
    rw [evE, ev_var h4, R.bind_ok, gl1]
    have gl : (S1 ++ [Ob.lst [.int ((1 + r1 : Nat) : Int)]])[S1.length]? = some (.lst [.int ((1 + r1 : Nat) : Int)]) := by simp
    simp only [R.bind_ok, bin, gb, gl]
    rw [guardR_pos (show [W.int (x : Nat), .int (y : Nat), .int (z : Nat)].length + [W.int ((1 + r1 : Nat) : Int)].length ≤ lim from h4'), hS2]
    simp
  rw [e5, evE, g0, R.bind_ok, f2, R.bind_ok]
  simp only [index, hget]
  rw [four _ _ _ _ _ (by omega)]
  rfl
end
end K86
end
section
set_option Elab.async false
set_option linter.all false
set_option maxRecDepth 100000
set_option maxHeartbeats 4000000
set_option exponentiation.threshold 5000
namespace K86
open PySem Mp
section
variable {cl : Nat → List W → Store → R W} {ρ : Rho} {S : Store} {a k : Nat}
abbrev e12 : E := .bin .add (.cst (.int 4)) (dr (.cst (.int 61)))
theorem ev12 (D : Drw cl) (h2 : ρ[2]? = some (some (.ref a))) (hw : Well S a k) (hk : k ≤ 900) : ∃ (w : Nat) (S' : Store), evE P cl [] e12 ρ S = .ok (.int (w : Nat)) S' ∧ 4 ≤ w ∧ w ≤ 64 ∧ Well S' a (k + 1) ∧ Keep a S S' := by
  obtain ⟨r1, S1, f1, l1, w1, k1⟩ := ev_draw D h2 (ev_cst (w := .int 61)) hw (by omega) (by decide) (by decide)
  have g1 := ev_add (ev_cst (w := .int 4)) f1
  exact ⟨4 + r1, S1, by rw [e12, g1]; congr 2, by omega, by omega, w1, k1⟩
abbrev s1 : E := .bin .shl (.cst (.int 1)) (.var 3)
abbrev e13 : E := .idx (.lstE (.cons (.bin .add (.cst (.int 1)) (.call 20 (.cons (.var 2) (.cons s1 .nil)))) (.cons s1 (.cons (.bin .add (.bin .fdiv s1 (.cst (.int 2))) (.cst (.int 1))) (.cons (.cst (.int 1)) .nil))))) (dr (.cst (.int 4)))
theorem pow_ge16 {w : Nat} (hw : 4 ≤ w) : 16 ≤ (2 ^ w : Nat) := Nat.le_trans (by decide) (Nat.pow_le_pow_right (n := 2) (by decide) hw)
theorem ev13 (D : Drw cl) (F : Far cl) (h2 : ρ[2]? = some (some (.ref a))) {w : Nat} (h3 : ρ[3]? = some (some (.int (w : Nat)))) (hw4 : 4 ≤ w) (hw64 : w ≤ 64) (hw : Well S a k) (hk : k ≤ 900) :
    ∃ (b : Nat) (S' : Store), evE P cl [] e13 ρ S = .ok (.int (b : Nat)) S' ∧ 1 ≤ b ∧ b ≤ 2 ^ w ∧ Well S' a (k + 4) ∧ Keep a S S' := by
  have hs : ∀ S, evE P cl [] s1 ρ S = .ok (.int ((2 ^ w : Nat) : Int)) S := fun S => ev_shl1 (ev_var h3) (by omega)
  have p1 := pow_ge16 hw4
  have p2 := pow64 hw64
  generalize 2 ^ w = K at hs p1 p2
  obtain ⟨r1, S1, f1, l1, w1, k1⟩ := F S a k (K : Nat) hw (by omega) (by omega)
  have g1 : evE P cl [] (.call 20 (.cons (.var 2) (.cons s1 .nil))) ρ S = .ok (.int (r1 : Nat)) S1 := by
    rw [evE, evEs, ev_var h2, R.bind_ok, evEs, hs, R.bind_ok, evEs, R.bind_ok, R.bind_ok, R.bind_ok]
    exact f1
  have g2 := ev_add (ev_cst (w := .int 1)) g1
  have g3 : evE P cl [] (.bin .add (.bin .fdiv s1 (.cst (.int 2))) (.cst (.int 1))) ρ S1 = .ok (.int ((K / 2 + 1 : Nat) : Int)) S1 := by
    rw [evE, evE, hs, R.bind_ok, ev_cst, R.bind_ok, b_fdiv (i := (K : Nat)) (j := 2) (by decide) (lt_big (n := 2) (by decide)), R.bind_ok, ev_cst, R.bind_ok, b_add]
    push_cast; rfl
  obtain ⟨S2, hS2⟩ : ∃ S2, S2 = S1 ++ [Ob.lst [.int ((1 + r1 : Nat) : Int), .int (K : Nat), .int ((K / 2 + 1 : Nat) : Int), .int ((1 : Nat) : Int)]] := ⟨_, rfl⟩
  have wS2 : Well S2 a (k + 3) := by rw [hS2]; exact well_app w1
  obtain ⟨r2, S3, f2, l2, w2, k2⟩ := ev_draw D h2 (ev_cst (w := .int 4)) wS2 (by omega) (by decide) (by decide)
  have hget : S3[S1.length]? = some (.lst [.int ((1 + r1 : Nat) : Int), .int (K : Nat), .int ((K / 2 + 1 : Nat) : Int), .int ((1 : Nat) : Int)]) := keep_get k2 (by rw [hS2]; simp) (by have := well_lt w1; omega)
  have q := four_all (Q := fun v => 1 ≤ v ∧ v ≤ K) (j := r2) (by omega) (show 1 ≤ 1 + r1 ∧ 1 + r1 ≤ K by omega) (show 1 ≤ K ∧ K ≤ K by omega) (show 1 ≤ K / 2 + 1 ∧ K / 2 + 1 ≤ K by omega) (show 1 ≤ 1 ∧ 1 ≤ K by omega)
  refine ⟨[1 + r1, K, K / 2 + 1, 1].getD r2 0, S3, ?_, q.1, q.2, w2, keep_trans k1 (keep_trans (by rw [hS2]; exact keep_app) k2)⟩
  have h4' : 4 ≤ lim := by decide
  have g0 : evE P cl [] (.lstE (.cons (.bin .add (.cst (.int 1)) (.call 20 (.cons (.var 2) (.cons s1 .nil)))) (.cons s1 (.cons (.bin .add (.bin .fdiv s1 (.cst (.int 2))) (.cst (.int 1))) (.cons (.cst (.int 1)) .nil))))) ρ S = .ok (.ref S1.length) S2 := by
    rw [evE]
    rw [evEs, g2, R.bind_ok, evEs, hs, R.bind_ok, evEs, g3, R.bind_ok, evEs, ev_cst, R.bind_ok, evEs]
    rw [R.bind_ok, R.bind_ok, R.bind_ok, R.bind_ok, R.bind_ok, newLst]
    refine (if_pos h4').trans ?_
    rw [hS2]
    push_cast
    rfl
  rw [e13, evE, g0, R.bind_ok, f2, R.bind_ok]
  simp only [index, hget]
  rw [four _ _ _ _ _ (by omega)]
  rfl
end
end K86
end
section
set_option Elab.async false
set_option linter.all false
set_option maxRecDepth 100000
set_option maxHeartbeats 4000000
set_option exponentiation.threshold 5000
namespace K86
open PySem Mp
section
variable {cl : Nat → List W → Store → R W} {ρ : Rho} {S S1 : Store} {a k : Nat}
theorem tst_or {e : E} {es : Es} {b : Bool} (h : evE P cl [] e ρ S = .ok (.bl false) S1) (he : es ≠ .nil) : evOr P cl [] (.cons e es) ρ S = evOr P cl [] es ρ S1 := by
  cases es with
  | nil => exact absurd rfl he
  | cons x r =>
    rw [evOr, h, R.bind_ok]
    · simp [truth]
    · exact fun h => nomatch h
theorem ev_not {e : E} {b : Bool} (h : evE P cl [] e ρ S = .ok (.bl b) S1) : evE P cl [] (.notE e) ρ S = .ok (.bl (!b)) S1 := by
  rw [evE, h]
  simp [tst, truth]
/-- the test of the counts -/
abbrev t9 : E := .orE (.cons (.notE (.call 22 (.cons (.var 7) (.cons (.var 6) .nil)))) (.cons (.notE (.call 21 (.cons (.var 8) .nil))) (.cons (.cmp .ne (.var 8) (.bin .sub (.bi .max1 (.cons (.var 6) .nil)) (.bi .min1 (.cons (.var 6) .nil)))) .nil)))
theorem tv9 {N b w f d : Nat} (hN : 3 ≤ N) (hb : 1 ≤ b) (h6 : ρ[6]? = some (some (.ref d))) (h7 : ρ[7]? = some (some (.ref f))) (h8 : ρ[8]? = some (some (.int (maxI (cw b w) - minI (cw b w))))) (hl : b ≤ 4096)
    (gd : S[d]? = some (.lst (cwW b w))) (gf : S[f]? = some (.lst (cwW b w))) : ∃ G, tst (evE P (callN P N) [] t9 ρ S) = .ok false (S ++ G) := by
  obtain ⟨G, e⟩ := alike_list (d := 0) (N := N) (by omega) (by rw [cwW_len]; omega) (fun x hx => by
    unfold cwW at hx
    obtain ⟨i, _, rfl⟩ := List.mem_map.mp hx
    trivial) gf gd
  refine ⟨G, ?_⟩
  have e2 := lwhole_ok (N := N) (by omega) (maxI (cw b w) - minI (cw b w)) (S ++ G)
  have e3 := max_at (S := S ++ G) (get_app gd) (cw_ne hb)
  have e4 := min_at (S := S ++ G) (get_app gd) (cw_ne hb)
  generalize callN P N = cl at e e2
  have f1 : evE P cl [] (.notE (.call 22 (.cons (.var 7) (.cons (.var 6) .nil)))) ρ S = .ok (.bl false) (S ++ G) := ev_not (b := true) (by simp only [evE, evEs, h6, h7, R.bind_ok, e])
  have f2 : evE P cl [] (.notE (.call 21 (.cons (.var 8) .nil))) ρ (S ++ G) = .ok (.bl false) (S ++ G) := ev_not (b := true) (by simp only [evE, evEs, h8, R.bind_ok, e2])
  have f3 : evE P cl [] (.cmp .ne (.var 8) (.bin .sub (.bi .max1 (.cons (.var 6) .nil)) (.bi .min1 (.cons (.var 6) .nil)))) ρ (S ++ G) = .ok (.bl false) (S ++ G) := by
    simp only [evE, evEs, h6, h8, R.bind_ok, e3, e4, b_sub, c_ne]
    simp
  rw [t9, evE, tst_or f1 (by simp), tst_or f2 (by simp), evOr, f3]
  · rfl
  all_goals exact true
theorem tv11 {N b w d : Nat} (hN : 4 ≤ N) (hb : 1 ≤ b) (hb2 : b ≤ 4096) (hw : 4 ≤ w) (hw2 : w ≤ 12) (h3 : ρ[3]? = some (some (.int (w : Nat)))) (h5 : ρ[5]? = some (some (.int (b : Nat)))) (h6 : ρ[6]? = some (some (.ref d)))
    (gd : S[d]? = some (.lst (cwW b (2 ^ w)))) : ∃ G, tst (evE P (callN P N) [] (.cmp .ne (.call 14 (.cons (.var 5) (.cons (.var 3) .nil))) (.var 6)) ρ S) = .ok false (S ++ G) := by
  have e := leaning_ok (N := N) hN hb hb2 hw hw2 S
  refine ⟨[.lst [.int 0]] ++ [.lst (cwW b (2 ^ w))], ?_⟩
  generalize callN P N = cl at e
  have hq : eqW (S ++ [.lst [.int 0]] ++ [.lst (cwW b (2 ^ w))]) (.ref (S.length + 1)) (.ref d) = some true := eq_ints (l := cw b (2 ^ w)) (by
    rw [show S.length + 1 = (S ++ [Ob.lst [.int 0]]).length by simp, List.getElem?_concat_length]; rfl) (by rw [List.append_assoc]; exact get_app gd)
  simp only [evE, evEs, h3, h5, h6, R.bind_ok, e, cmp, hq]
  simp [okB, tst, truth]
/-- the orders, each once -/
abbrev c17 : E := .comp [11] (.nm 11) (.seq (.call 24 (.cons (.var 9) .nil))) .nil (.tupE (.cons (.var 11) (.cons (.cst (.int 1)) .nil)))
theorem cv17 {N m : Nat} (hN : 1 ≤ N) (hm : m ≤ 6) (hl : 11 < ρ.length) (h9 : ρ[9]? = some (some (.int (m : Nat)))) : ∃ G d, evE P (callN P N) [] c17 ρ S = .ok (.ref d) (S ++ G) ∧ (S ++ G)[d]? = some (.lst ((ksW m).map fun k => .tup [k, .int 1])) := by
  obtain ⟨G, b, e, hg⟩ := orders_ok (N := N) hN hm S
  generalize callN P N = cl at e
  have h720 := fct6 hm
  have hlim : 2 ≤ lim := by decide
  obtain ⟨G', e'⟩ := compL_grow (gs := [(b, .lst (ksW m))]) (g := fun k => .tup [k, .int 1]) (f := fun w S2 => match bindT (.nm 11) w (wipeR ρ [11]) with
      | none => .bad
      | some ρ' => (evConds P cl [] .nil ρ' S2).bind fun b S3 => if b then (evE P cl [] (.tupE (.cons (.var 11) (.cons (.cst (.int 1)) .nil))) ρ' S3).bind fun v S4 => .ok (some v) S4 else .ok none S3) (S := S ++ G) (fun acc G2 g hgm => by
        rw [List.mem_singleton.mp hgm, List.append_assoc]
        exact get_app hg) (ksW m) [] [] (by rw [ksW_len]; simp [lim]; omega) (fun w hw acc G2 => by
      refine ⟨G2, ?_⟩
      have hv : ((wipeR ρ [11]).set 11 (some w))[11]? = some (some w) := by
        rw [List.getElem?_set_self]; simp [wipeR]; exact hl
      simp only [bindT, evConds, R.bind_ok, evE, evEs, hv, newTup, List.length_cons, List.length_nil]
      simp [hlim])
  refine ⟨G ++ ([.lst ((ksW m).map fun k => .tup [k, .int 1])] ++ G'), (S ++ G).length, ?_, ?_⟩
  · rw [c17, evE, evIt]
    simp only [evE, evEs, h9, R.bind_ok, e, seqSrc, hg, okS]
    rw [show S ++ G ++ [Ob.lst []] = S ++ G ++ [Ob.lst []] ++ [] by simp]
    refine e'.trans ?_
    simp
  · rw [show S ++ (G ++ ([Ob.lst ((ksW m).map fun k => .tup [k, .int 1])] ++ G')) = (S ++ G) ++ [Ob.lst ((ksW m).map fun k => .tup [k, .int 1])] ++ G' by simp]
    exact g_mid
theorem flat_row (l : List Nat) (hl : l.length < 100000) : flatD 1 (toW l) := by
  refine ⟨by simp [nW]; exact hl, fun w hw => ?_⟩
  unfold nW at hw
  obtain ⟨i, _, rfl⟩ := List.mem_map.mp hw
  trivial
theorem oAt_len : ∀ (k r : Nat) (l : List Nat), (oAt k r l).length = k
  | 0, _, _ => rfl
  | k + 1, r, l => by rw [oAt, List.length_cons, oAt_len k]
theorem flat_ks {m : Nat} (hm : m ≤ 6) : ∀ w ∈ (ksW m).map (fun k => W.tup [k, .int 1]), flatD 2 w := by
  intro w hw
  obtain ⟨x, hx, rfl⟩ := List.mem_map.mp hw
  unfold ksW at hx
  obtain ⟨r, _, rfl⟩ := List.mem_map.mp hx
  refine ⟨by simp, fun u hu => ?_⟩
  simp at hu
  rcases hu with rfl | rfl
  · exact flat_row _ (by rw [oAt_len]; omega)
  · trivial
theorem tv17 {N m t : Nat} (hN : 4 ≤ N) (hm : m ≤ 6) (hl : 11 < ρ.length) (h9 : ρ[9]? = some (some (.int (m : Nat)))) (h10 : ρ[10]? = some (some (.ref t))) (gt : S[t]? = some (.lst ((ksW m).map fun k => .tup [k, .int 1]))) :
    ∃ G, tst (evE P (callN P N) [] (.notE (.call 22 (.cons (.var 10) (.cons c17 .nil)))) ρ S) = .ok false (S ++ G) := by
  obtain ⟨G, d, e, hd⟩ := cv17 (N := N) (S := S) (by omega) hm hl h9
  have h720 := fct6 hm
  obtain ⟨G', e'⟩ := alike_list (d := 2) (N := N) (a := t) (b := d) (ws := (ksW m).map fun k => .tup [k, .int 1]) (S := S ++ G) hN (by rw [List.length_map, ksW_len]; omega) (flat_ks hm) (get_app gt) hd
  refine ⟨G ++ G', ?_⟩
  generalize callN P N = cl at e e'
  have f : evE P cl [] (.call 22 (.cons (.var 10) (.cons c17 .nil))) ρ S = .ok (.bl true) (S ++ G ++ G') := by
    rw [evE, evEs, ev_var h10, R.bind_ok, evEs, e, R.bind_ok, evEs]
    simp only [R.bind_ok, e']
  rw [ev_not f]
  simp [tst, truth]
end
end K86
end
section
set_option Elab.async false
set_option linter.all false
set_option maxRecDepth 100000
set_option maxHeartbeats 4000000
set_option exponentiation.threshold 5000
namespace K86
open PySem Mp
def bodyOf : B → B
  | .cons (.forS _ _ b) _ => b
  | b => b
def lb : B := bodyOf fd26.body
theorem tally_w {m : Nat} (hm : m ≤ 6) : (kvF (ksW m) (kc (xsW m))).map (fun p => W.tup [p.1, p.2]) = (ksW m).map fun k => .tup [k, .int 1] := tally_is hm
theorem body_ok {n : Nat} (hn : 6 ≤ n) {ns : List Int} {S : Store} (h0 : S[0]? = some (.fro (ns.map .int))) (j : Nat) (hj : j ≤ 8) (o1 o2 o3 o4 o5 o6 o7 o8 o9 o10 o11 : Option W) :
    ∃ (p1 p2 p3 p4 p5 p6 p7 p8 p9 p10 p11 : Option W) (S' : Store), forB P (callN P n) [] (.nm 1) lb (.int (j : Nat)) [some (.ref 0), o1, o2, o3, o4, o5, o6, o7, o8, o9, o10, o11] S = .nx [some (.ref 0), p1, p2, p3, p4, p5, p6, p7, p8, p9, p10, p11] S' ∧ S'[0]? = some (.fro (ns.map .int)) := by
  have D := drw_all (N := n) (by omega)
  have F := far_all (N := n) (by omega)
  have hS : 0 < S.length := lt_of_get h0
  obtain ⟨c, ec⟩ := cell_ok (N := n) (by omega) h0 j (by omega)
  obtain ⟨x, ew⟩ := well_ok (N := n) (by omega) c S
  obtain ⟨a, ha⟩ : ∃ a, a = S.length := ⟨_, rfl⟩
  obtain ⟨S1, hS1⟩ : ∃ S1, S1 = S ++ [Ob.lst [.int x, .int (c % 2147483629), .int 0]] := ⟨_, rfl⟩
  have w1 : Well S1 a 0 := by rw [hS1, ha]; exact well_is
  have k1 : Keep a S S1 := by rw [hS1]; exact keep_app
  rw [← ha, ← hS1] at ew
  have st2 : evE P (callN P n) [] (.call 18 (.cons (.call 17 (.cons (.var 0) (.cons (.var 1) .nil))) .nil)) [some (.ref 0), some (.int (j : Nat)), o2, o3, o4, o5, o6, o7, o8, o9, o10, o11] S = .ok (.ref a) S1 := by
    simp only [evE, evEs, List.getElem?_cons_zero, List.getElem?_cons_succ, R.bind_ok, ec, ew]
  obtain ⟨w, S2, f3, l1, l2, w2, k2⟩ := ev3 (ρ := [some (.ref 0), some (.int (j : Nat)), some (.ref a), o3, o4, o5, o6, o7, o8, o9, o10, o11]) D rfl w1 (by omega)
  obtain ⟨r4, x4, y4, z4, S3, f4, g4, ne4, b1, b2, b3, w3, k3⟩ := ev4 (ρ := [some (.ref 0), some (.int (j : Nat)), some (.ref a), some (.int (w : Nat)), o4, o5, o6, o7, o8, o9, o10, o11]) D rfl rfl l2 w2 (by omega)
  obtain ⟨b, S4, f5, m1, m2, w4, k4⟩ := ev5 (ρ := [some (.ref 0), some (.int (j : Nat)), some (.ref a), some (.int (w : Nat)), some (.ref r4), o5, o6, o7, o8, o9, o10, o11]) D rfl rfl g4 ne4 b1 b2 b3 w3 (by omega)
  have e6 := lleaning_ok (N := n) (b := b) (w := w) (by omega) m1 m2 l2 S4
  obtain ⟨S5, hS5⟩ : ∃ S5, S5 = S4 ++ [Ob.lst [.int 0]] ++ [.lst (cwW b (2 ^ w))] := ⟨_, rfl⟩
  have gd5 : S5[S4.length + 1]? = some (.lst (cwW b (2 ^ w))) := by
    rw [hS5, show S4.length + 1 = (S4 ++ [Ob.lst [.int 0]]).length by simp, List.getElem?_concat_length]
  have e7 := leaning_ok (N := n) (b := b) (w := w) (by omega) m1 m2 l1 l2 S5
  obtain ⟨S6, hS6⟩ : ∃ S6, S6 = S5 ++ [Ob.lst [.int 0]] ++ [.lst (cwW b (2 ^ w))] := ⟨_, rfl⟩
  have gf6 : S6[S5.length + 1]? = some (.lst (cwW b (2 ^ w))) := by
    rw [hS6, show S5.length + 1 = (S5 ++ [Ob.lst [.int 0]]).length by simp, List.getElem?_concat_length]
  have gd6 : S6[S4.length + 1]? = some (.lst (cwW b (2 ^ w))) := by rw [hS6, List.append_assoc]; exact get_app gd5
  have e8 := most_ok (N := n) (b := b) (w := w) (by omega) m1 m2 l1 l2 S6
  obtain ⟨S7, hS7⟩ : ∃ S7, S7 = S6 ++ [Ob.lst [.int 0]] ++ [.lst (cwW b (2 ^ w))] := ⟨_, rfl⟩
  have gf7 : S7[S5.length + 1]? = some (.lst (cwW b (2 ^ w))) := by rw [hS7, List.append_assoc]; exact get_app gf6
  have gd7 : S7[S4.length + 1]? = some (.lst (cwW b (2 ^ w))) := by rw [hS7, List.append_assoc]; exact get_app gd6
  rw [← hS5] at e6
  rw [← hS6] at e7
  rw [← hS7] at e8
  obtain ⟨d, hd⟩ : ∃ d, d = S4.length + 1 := ⟨_, rfl⟩
  obtain ⟨f, hf⟩ : ∃ f, f = S5.length + 1 := ⟨_, rfl⟩
  have ha4 : a < S4.length := well_lt w4
  have hdf : d ≠ f ∧ a ≠ f ∧ f ≠ 0 := by
    have : S5.length = S4.length + 2 := by rw [hS5]; simp
    omega
  rw [← hd] at e6 gd5 gd6 gd7
  rw [← hf] at e7 gf6 gf7
  obtain ⟨m, hm⟩ : ∃ m, m = maxI (cw b (2 ^ w)) - minI (cw b (2 ^ w)) := ⟨_, rfl⟩
  obtain ⟨G8, t9⟩ := tv9 (ρ := [some (.ref 0), some (.int (j : Nat)), some (.ref a), some (.int (w : Nat)), some (.ref r4), some (.int (b : Nat)), some (.ref d), some (.ref f), some (.int m), o9, o10, o11]) (N := n) (by omega) m1 rfl rfl (by rw [hm]; rfl) m2 gd7 gf7
  rw [← hm] at e8
  -- the list told is changed
  obtain ⟨S9, hS9⟩ : ∃ S9, S9 = (S7 ++ G8).set f (.lst ((cwW b (2 ^ w)).set 0 (.int 99))) := ⟨_, rfl⟩
  have set9 : setAt (.ref f) (.int 0) (.int 99) (S7 ++ G8) = .ok () S9 := by
    have hlen : 0 < (cwW b (2 ^ w)).length := by rw [cwW_len]; omega
    simp only [setAt, get_app gf7]
    rw [show (0 : Int) = ((0 : Nat) : Int) from rfl, ixN_nat, if_pos hlen, hS9]
  have o9' : Off f (S7 ++ G8) S9 := by rw [hS9]; exact off_set
  have gd9 : S9[d]? = some (.lst (cwW b (2 ^ w))) := by rw [o9'.2 d hdf.1]; exact get_app gd7
  obtain ⟨G10, t11⟩ := tv11 (ρ := [some (.ref 0), some (.int (j : Nat)), some (.ref a), some (.int (w : Nat)), some (.ref r4), some (.int (b : Nat)), some (.ref d), some (.ref f), some (.int m), o9, o10, o11]) (N := n) (b := b) (w := w) (by omega) m1 m2 l1 l2 rfl rfl rfl gd9
  have w5 : Well S9 a (0 + 3 + 3 + 2) := by
    obtain ⟨x, y, z, h, r⟩ := w4
    refine ⟨x, y, z, ?_, r⟩
    rw [o9'.2 a hdf.2.1, hS7, hS6, hS5]
    simp only [List.append_assoc]
    exact get_app h
  have z9 : S9[0]? = some (.fro (ns.map .int)) := by
    have h1 := keep_get (keep_trans k1 (keep_trans k2 (keep_trans k3 k4))) h0 (by omega)
    rw [o9'.2 0 (by omega), hS7, hS6, hS5]
    simp only [List.append_assoc]
    exact get_app h1
  have w6 : Well (S9 ++ G10) a (0 + 3 + 3 + 2) := well_app w5
  have z10 : (S9 ++ G10)[0]? = some (.fro (ns.map .int)) := get_app z9
  obtain ⟨w', S11, f12, v1, v2, w7, k7⟩ := ev12 (ρ := [some (.ref 0), some (.int (j : Nat)), some (.ref a), some (.int (w : Nat)), some (.ref r4), some (.int (b : Nat)), some (.ref d), some (.ref f), some (.int m), o9, o10, o11]) D rfl w6 (by omega)
  obtain ⟨b', S12, f13, v3, v4, w8, k8⟩ := ev13 (ρ := [some (.ref 0), some (.int (j : Nat)), some (.ref a), some (.int (w' : Nat)), some (.ref r4), some (.int (b : Nat)), some (.ref d), some (.ref f), some (.int m), o9, o10, o11]) D F rfl rfl v1 v2 w7 (by omega)
  have e14 := fair_right_ok (N := n) (by omega) v3 v4 v1 v2 S12
  have t14 : tst (evE P (callN P n) [] (.notE (.call 25 (.cons (.var 5) (.cons (.var 3) .nil)))) [some (.ref 0), some (.int (j : Nat)), some (.ref a), some (.int (w' : Nat)), some (.ref r4), some (.int (b' : Nat)), some (.ref d), some (.ref f), some (.int m), o9, o10, o11] S12) = .ok false S12 := by
    rw [ev_not (b := true) (S1 := S12) (by simp only [evE, evEs, List.getElem?_cons_zero, List.getElem?_cons_succ, R.bind_ok, e14])]
    simp [tst, truth]
  obtain ⟨y, S13, f15, v5, w9, k9⟩ := ev9 (ρ := [some (.ref 0), some (.int (j : Nat)), some (.ref a), some (.int (w' : Nat)), some (.ref r4), some (.int (b' : Nat)), some (.ref d), some (.ref f), some (.int m), o9, o10, o11]) D rfl w8 (by omega)
  obtain ⟨G14, e16⟩ := swaps_ok (N := n) (m := y) (by omega) v5 (ksW_nodup v5) (xsW_sub v5) S13
  rw [tally_w v5] at e16
  obtain ⟨S15, hS15⟩ : ∃ S15, S15 = S13 ++ G14 ++ [Ob.lst ((ksW y).map fun k => .tup [k, .int 1])] := ⟨_, rfl⟩
  have gt : S15[(S13 ++ G14).length]? = some (.lst ((ksW y).map fun k => .tup [k, .int 1])) := by rw [hS15, List.getElem?_concat_length]
  rw [← hS15] at e16
  obtain ⟨t, ht⟩ : ∃ t, t = (S13 ++ G14).length := ⟨_, rfl⟩
  rw [← ht] at e16 gt
  obtain ⟨G16, t17⟩ := tv17 (ρ := [some (.ref 0), some (.int (j : Nat)), some (.ref a), some (.int (w' : Nat)), some (.ref r4), some (.int (b' : Nat)), some (.ref d), some (.ref f), some (.int m), some (.int (y : Nat)), some (.ref t), o11]) (N := n) (by omega) v5 (by simp) rfl rfl gt
  have z15 : S15[0]? = some (.fro (ns.map .int)) := by
    rw [hS15, List.append_assoc]
    exact get_app (keep_get (keep_trans k7 (keep_trans k8 k9)) z10 (by omega))
  refine ⟨some (.int (j : Nat)), some (.ref a), some (.int (w' : Nat)), some (.ref r4), some (.int (b' : Nat)), some (.ref d), some (.ref f), some (.int m), some (.int (y : Nat)), some (.ref t), o11, S15 ++ G16, ?_, get_app z15⟩
  · unfold forB
    simp only [bindT, List.set]
    unfold lb fd26 bodyOf
    generalize callN P n = cl at *
    rw [s_asg st2 (by rw [bindT])]
    simp only [List.set_cons_succ, List.set_cons_zero]
    rw [s_asg f3 (by rw [bindT])]
    simp only [List.set_cons_succ, List.set_cons_zero]
    rw [s_asg f4 (by rw [bindT])]
    simp only [List.set_cons_succ, List.set_cons_zero]
    rw [s_asg f5 (by rw [bindT])]
    simp only [List.set_cons_succ, List.set_cons_zero]
    rw [s_asg (w := .ref d) (S1 := S5) (by simp only [evE, evEs, List.getElem?_cons_zero, List.getElem?_cons_succ, R.bind_ok, e6]) (by rw [bindT])]
    simp only [List.set_cons_succ, List.set_cons_zero]
    rw [s_asg (w := .ref f) (S1 := S6) (by simp only [evE, evEs, List.getElem?_cons_zero, List.getElem?_cons_succ, R.bind_ok, e7]) (by rw [bindT])]
    simp only [List.set_cons_succ, List.set_cons_zero]
    rw [s_asg (w := .int m) (S1 := S7) (by simp only [evE, evEs, List.getElem?_cons_zero, List.getElem?_cons_succ, R.bind_ok, e8]) (by rw [bindT])]
    simp only [List.set_cons_succ, List.set_cons_zero]
    rw [s_ifF t9]
    rw [s_setS (v := .int 99) (x := .ref f) (y := .int 0) (S1 := S7 ++ G8) (S2 := S7 ++ G8) (S3 := S7 ++ G8) (by rw [evE]) (by simp [evE]) (by rw [evE]) set9]
    rw [s_ifF t11]
    rw [s_asg f12 (by rw [bindT])]
    simp only [List.set_cons_succ, List.set_cons_zero]
    rw [s_asg f13 (by rw [bindT])]
    simp only [List.set_cons_succ, List.set_cons_zero]
    rw [s_ifF t14]
    rw [s_asg f15 (by rw [bindT])]
    simp only [List.set_cons_succ, List.set_cons_zero]
    rw [s_asg (w := .ref t) (S1 := S15) (by simp only [evE, evEs, List.getElem?_cons_zero, List.getElem?_cons_succ, R.bind_ok, e16]) (by rw [bindT])]
    simp only [List.set_cons_succ, List.set_cons_zero]
    rw [s_ifF t17, s_nil]
theorem law_ok {N : Nat} (hN : 7 ≤ N) (ns : List Int) (hl : ns.length ≤ 63) : ∃ S', callN P N 26 [.ref 0] [.fro (ns.map .int)] = .ok (.bl true) S' := by
  cases N with
  | zero => omega
  | succ n =>
    obtain ⟨q, hq⟩ : ∃ q : Nat, (max 1 (min (ns.length : Int) 8)) = (q : Nat) ∧ q ≤ 8 := ⟨(max 1 (min (ns.length : Int) 8)).toNat, by omega, by omega⟩
    obtain ⟨ρ', S', e, ⟨p1, p2, p3, p4, p5, p6, p7, p8, p9, p10, p11, h1⟩, h2⟩ := forL_to (gs := []) (f := forB P (callN P n) [] (.nm 1) lb) (ws := rangeW 0 1 q) (ρ := [some (.ref 0), none, none, none, none, none, none, none, none, none, none, none]) (S := [.fro (ns.map .int)])
      (fun j ρ S' => (∃ p1 p2 p3 p4 p5 p6 p7 p8 p9 p10 p11, ρ = [some (.ref 0), p1, p2, p3, p4, p5, p6, p7, p8, p9, p10, p11]) ∧ S'[0]? = some (.fro (ns.map .int))) ⟨⟨_, _, _, _, _, _, _, _, _, _, _, rfl⟩, rfl⟩ (fun _ _ _ _ => stands_nil) (fun j w ρ S' hw ⟨⟨p1, p2, p3, p4, p5, p6, p7, p8, p9, p10, p11, h1⟩, h2⟩ => by
        obtain ⟨hj, rfl⟩ := rangeW_get _ _ _ _ _ hw
        subst h1
        obtain ⟨q1, q2, q3, q4, q5, q6, q7, q8, q9, q10, q11, S2, e, g⟩ := body_ok (n := n) (by omega) h2 j (by omega) p1 p2 p3 p4 p5 p6 p7 p8 p9 p10 p11
        refine ⟨_, S2, .inl ?_, ⟨q1, q2, q3, q4, q5, q6, q7, q8, q9, q10, q11, rfl⟩, g⟩
        rw [show (0 + (j : Nat) * 1 : Int) = (j : Nat) by omega]; exact e)
    refine ⟨S', call_of (d := fd26) rfl rfl ?_⟩
    have hi : evIt P (callN P n) [] (.range (.cons (.bi .max2 (.cons (.cst (.int 1)) (.cons (.bi .min2 (.cons (.bi .len (.cons (.var 0) .nil)) (.cons (.cst (.int 8)) .nil))) .nil))) .nil)) [some (.ref 0), none, none, none, none, none, none, none, none, none, none, none] [.fro (ns.map .int)] = .ok ([], rangeW 0 1 q) [.fro (ns.map .int)] := by
      rw [evit_range1 (j := (q : Nat)) (S2 := [.fro (ns.map .int)]) (by simp [evE, evEs, biF, lenW, hq.1]) ⟨by omega, by omega⟩]
      simp
    show (exB P (callN P n) [] fd26.body [some (.ref 0), none, none, none, none, none, none, none, none, none, none, none] [.fro (ns.map .int)]).fin = _
    unfold lb fd26 bodyOf at e
    generalize callN P n = cl at *
    unfold fd26
    rw [s_for hi]
    simp only []
    rw [e, h1]
    show ((exB P cl [] _ _ _)).fin = _
    rw [s_ret (w := .bl true) (S1 := S') (by rw [evE])]
    rfl
end K86
end
section
set_option Elab.async false
set_option linter.all false
set_option maxRecDepth 100000
set_option maxHeartbeats 0
namespace K86
open PySem PySem.Spec PyProof.Rows L2 Mp
abbrev R : PySem.W.OpenRow := PySem.W.OpenLaw.row PySem.Challenge.rw_splitseed_k86_leaning_and_fair
abbrev qv : Program := PySem.W.view R.prog [42]
def loose0 : List Str := ["SeedError", "NoNumber", "NoWidth", "TooWide", "is_whole", "is_within", "MOST_LAID", "MOST_RANKED", "is_row", "exchange", "products_to", "orders_many", "order_at", "by_numbers", "product", "unmixed", "MOST_THINGS", "MOST_BOUND", "LEAST_WIDTH", "MOST_SMALL", "MOST_WIDTH", "swaps_tally", "need_bound", "need_width", "leaning", "most_leaning", "fair", "_law_cell", "_law_well", "_law_draw"]
def loose1 : List Str := ["_law_far", "_law_whole", "_law_alike", "_law_leaning", "_law_orders", "_law_fair_right"]
def loose : List Str := loose0 ++ loose1
def ob (s : PySem.W.SharedT) : AlM := obsMG 4 ck fn (HandSHeadRun.getT s)
theorem ob_eq (s : PySem.W.SharedT) : ob s = hk.obs s.abs := obsMG_eq (HandSHeadRun.getT_eq s)
theorem run (w : World) : HandSHeadRun.RunEq R qv hk ob 6000 loose w := by
  intro os
  kernel_rfl
end K86
namespace K86
open PySem PySem.Spec PyProof.Rows L2 Mp
def lvl : Nat := 12
theorem law_sp {K : PySem.W.Frag} (plain : ∀ ns : List Int, ns.length ≤ 63 → ∃ S', callN P (lvl + 1) 26 [.ref 0] [.fro (ns.map .int)] = .ok (.bl true) S') (hn : ∀ a o, K.lookup a = some o → noLst o = true)
    (H : Hp) (a : Addr) (ns : List Int) (hl : ns.length ≤ 63) (hO : Only H) (hS : SqL K H a (ns.map V.int)) : spI (T0 K place) 1 (callN P (lvl + 1) 26) [.ref a] H (fun v _ => v = .bl true) fun _ _ _ => False := by
  obtain ⟨o, ho⟩ := script_frz hn hO hS
  obtain ⟨S', e⟩ := plain ns hl
  have rep : ∀ (m : List Addr) (ns : List Int), RepVs m H (ns.map W.int) (ns.map V.int) := fun m ns => by
    induction ns with
    | nil => exact rfl
    | cons i ns ih => exact ⟨_, _, rfl, rfl, ih⟩
  refine ⟨[a], [.fro (ns.map .int)], [.ref 0], ⟨rfl, by simp, fun n ob b h1 h2 => ?_⟩, ⟨_, [], rfl, ⟨a, rfl, rfl⟩, rfl⟩, rfl, ?_⟩
  · cases n with
    | zero =>
      simp at h1 h2
      subst h1 h2
      exact ⟨o, _, ho, rep _ ns⟩
    | succ n => simp at h1
  · rw [e]
    exact fun m' H' v g s r => r
theorem law_all (plain : ∀ ns : List Int, ns.length ≤ 63 → ∃ S', callN P (lvl + 1) 26 [.ref 0] [.fro (ns.map .int)] = .ok (.bl true) S')
    {w : World} {mg : Str → Option Value} {fa : Addr} {h : Heap} (Y : hk.says w h) (G : h.Ns mainGlobals mg) (hfa : mg "law" = some (.ref fa)) :
      ∃ (K : PySem.W.Frag) (fd : FuncData) (sp : Sp), K.In h ∧ (∀ (s : Shared) (u : Value), BindsTo s fd ⟨[u], []⟩ [("_law_script", u)]) ∧
        (∀ (H : Hp) (a : Addr) (ns : List Int), ns.length ≤ 63 → (∀ z ∈ ns, Builtin.Int.intBits z ≤ 1048576) → Only H → SqL K H a (ns.map V.int) → sp [.ref a] H (fun v _ => v = .bl true) fun _ _ _ => False) ∧
        ∀ base : Heap, K.In base → base.Ns mainGlobals mg → FnOk prog w K mg base (L2.CX prog w) (2 * (lvl + 1) + 2) fa fd ["_law_script"] sp := by
  obtain ⟨K, KX, hn, c⟩ := Y
  obtain ⟨c1, c2⟩ := saysM c
  obtain ⟨fd, F⟩ := c2.def_ 25 (d := dd26) rfl
  have b := FunD.bindsA (ps := ["_law_script"]) F fun _ _ _ _ _ _ us hl => match us, hl with | [_], _ => rfl
  have e : fa = He.fAd K (place 26) := by
    have h1 := (facts (w := w) (base := h) KX G c1).fn "law" 26 rfl
    have h2 := hfa.symm.trans h1.1
    cases h2; rfl
  subst e
  refine ⟨K, fd, spI (T0 K place) 1 (callN P (lvl + 1) 26), KX, fun s u => b s [u] rfl, fun H a ns hl _ hO hS => law_sp plain hn H a ns hl hO hS, fun base KB GB => ?_⟩
  exact fn_one (B := ⟨prog, w, K, mg, base⟩) (T := T0 K place) (f := 26) (d := fd26) (N := N26) (ps := ps26) (facts KB GB c1) (all_ok (facts KB GB c1) (fsAll c2) lvl) rfl F (C8.fnScope_by sc26) rfl rfl m26
end K86
open PySem PySem.W PySem.Calls PyProof.Rows
theorem k86_end (plain : ∀ ns : List Int, ns.length ≤ 63 → ∃ S', Mp.callN K86.P (K86.lvl + 1) 26 [.ref 0] [.fro (ns.map .int)] = .ok (.bl true) S') : PySem.Challenge.rw_splitseed_k86_leaning_and_fair.Holds := by
  w_on; o_law
  refine HandSHeadRun.head_any (r := OpenLaw.row PySem.Challenge.rw_splitseed_k86_leaning_and_fair) (q := K86.qv) (H := K86.hk) (ob := K86.ob) (M := 6000) (loose := K86.loose) (d := HandSHeadRun.topDef (OpenLaw.row PySem.Challenge.rw_splitseed_k86_leaning_and_fair).prog 42) (kwd := []) K86.ob_eq
    (by kernel_rfl) (fun s => by kernel_rfl) K86.run (by kernel_rfl) (by kernel_rfl) (by kernel_rfl) (by rfl) (by first | assumption | decide +kernel) (by decide +kernel) ⟨rfl, rfl, rfl, rfl, rfl, by decide +kernel⟩ ?hw ?hc
  case hw => w_witness2
  case hc =>
    refine Mp.walk_mp (l := PySem.Challenge.rw_splitseed_k86_leaning_and_fair) (n := 63) (k := 2 * (K86.lvl + 1) + 2) (x := "_law_script") rfl (by decide) (by kernel_rfl) ⟨rfl, by decide, by decide⟩ ?F
    intro w mg fa h Y G hmg0
    have hmg : mg ("law" : PySem.Str) = some (.ref fa) := by
      have e : (HandSHeadRun.topDef (OpenLaw.row PySem.Challenge.rw_splitseed_k86_leaning_and_fair).prog 42).name = ("law" : PySem.Str) := by kernel_rfl
      rw [← e]
      exact hmg0
    exact K86.law_all plain Y G hmg
end
set_option maxRecDepth 100000 in
set_option maxHeartbeats 0 in
theorem PySem.Challenge.cw_splitseed_k86_leaning_and_fair_holds : PySem.Challenge.rw_splitseed_k86_leaning_and_fair.Holds := by
  exact k86_end fun ns h => K86.law_ok (by decide) ns h
