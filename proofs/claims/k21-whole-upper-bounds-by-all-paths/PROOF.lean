import PyProof.Rows.All
import HandS.ForMost
import HandS.Exc
import HandS.TryOnly
import HandS.TryMany
import HandS.ExcOwn
import HandS.ExcInit
import HandS.WordsExc
import HandS.EndBits
import HandS.Deep
import HandS.Defaults
import HandS.CallSlots
import HandS.Wide
import HandS.WideBits
import HandS.IsInst
import HandS.FStr
import HandS.TupAny
import HandS.DictComp
import HandS.Style
import HandS.TupLen
import PyProof.ReprRoads
import PyProof.Rows.TupDisplay
import KE.KDictDisplayH
import KE.KRevSl
import KE.KDictZip
import KE.KDictKeyed
import PySem.Challenge.RW_clockbounds_k21_whole_upper_bounds_by_al
set_option Elab.async false
set_option linter.all false
set_option maxRecDepth 100000
/-! Ev: a small evaluator of the Python that the laws are written in. Values D, a heap of objects, combinators. -/
namespace Ev
open PySem

/-- a value: tuples stand as values (tupw: a tuple of the program's top); lists, dicts, instances by their place in the heap; xn: a caught exception of the class c with its attributes -/
inductive D where
  | non | bl (b : Bool) | int (i : Int) | str (s : Str) | ref (a : Nat) | tup (l : List D) | tupw (l : List D) | xn (c : Nat) (fs : List (Nat × D))
  deriving Inhabited

mutual
def D.beq : D → D → Bool
  | .non, .non => true
  | .bl a, .bl b => decide (a = b)
  | .int a, .int b => decide (a = b)
  | .str a, .str b => decide (a = b)
  | .ref a, .ref b => decide (a = b)
  | .tup a, .tup b => D.beqs a b
  | .tupw a, .tupw b => D.beqs a b
  | .xn a x, .xn b y => decide (a = b) && D.beqf x y
  | _, _ => false
def D.beqs : List D → List D → Bool
  | [], [] => true
  | a :: l, b :: r => D.beq a b && D.beqs l r
  | _, _ => false
def D.beqf : List (Nat × D) → List (Nat × D) → Bool
  | [], [] => true
  | (i, a) :: l, (j, b) :: r => decide (i = j) && D.beq a b && D.beqf l r
  | _, _ => false
end
mutual
theorem D.beq_iff : ∀ a b : D, D.beq a b = true ↔ a = b
  | .non, b => by cases b <;> simp [D.beq]
  | .bl _, b => by cases b <;> simp [D.beq]
  | .int _, b => by cases b <;> simp [D.beq]
  | .str _, b => by cases b <;> simp [D.beq]
  | .ref _, b => by cases b <;> simp [D.beq]
  | .tup a, b => by
    cases b with
    | tup b => simp only [D.beq, D.beqs_iff a b, D.tup.injEq]
    | _ => simp [D.beq]
  | .tupw a, b => by
    cases b with
    | tupw b => simp only [D.beq, D.beqs_iff a b, D.tupw.injEq]
    | _ => simp [D.beq]
  | .xn c x, b => by
    cases b with
    | xn d y => simp only [D.beq, Bool.and_eq_true, decide_eq_true_eq, D.beqf_iff x y, D.xn.injEq]
    | _ => simp [D.beq]
theorem D.beqs_iff : ∀ a b : List D, D.beqs a b = true ↔ a = b
  | [], b => by cases b <;> simp [D.beqs]
  | a :: l, b => by
    cases b with
    | nil => simp [D.beqs]
    | cons b r => simp only [D.beqs, Bool.and_eq_true, D.beq_iff a b, D.beqs_iff l r, List.cons.injEq]
theorem D.beqf_iff : ∀ a b : List (Nat × D), D.beqf a b = true ↔ a = b
  | [], b => by cases b <;> simp [D.beqf]
  | (i, a) :: l, b => by
    cases b with
    | nil => simp [D.beqf]
    | cons b r =>
      obtain ⟨j, b⟩ := b
      simp only [D.beqf, Bool.and_eq_true, decide_eq_true_eq, D.beq_iff a b, D.beqf_iff l r, List.cons.injEq, Prod.mk.injEq]
end
instance : DecidableEq D := fun a b => if h : D.beq a b = true then .isTrue ((D.beq_iff a b).mp h) else .isFalse fun e => h ((D.beq_iff a b).mpr e)

/-- an object: fz: a list that is only read; lk: a dict that a loop walks -/
inductive Ob where
  | lst (fz : Bool) (xs : List D) | dic (lk : Bool) (kvs : List (D × D)) | ins (c : Nat) (fs : List (Nat × D))
  deriving Inhabited, DecidableEq

abbrev Hh := List Ob
abbrev Env := List (Option D)
/-- an answer: a value, an exception, or nothing that we speak of -/
inductive Res (A : Type) where
  | ok (a : A) (h : Hh) | exc (x : D) (h : Hh) | bad
  deriving Inhabited
def Res.bind {A B : Type} (r : Res A) (f : A → Hh → Res B) : Res B := match r with
  | .ok a h => f a h
  | .exc x h => .exc x h
  | .bad => .bad
inductive SRes where
  | nx (σ : Env) (h : Hh) | rt (d : D) (h : Hh) | bk (σ : Env) (h : Hh) | ct (σ : Env) (h : Hh) | exc (x : D) (σ : Env) (h : Hh) | bad
  deriving Inhabited
/-- an expression's, a statement's, a target's meaning; a call's -/
abbrev Sh := Env → Hh → Res D
abbrev ShS := Env → Hh → SRes
abbrev Tg := D → Env → Hh → Res Env
abbrev CF := Nat → List D → Hh → Res D
def Res.stm {A : Type} (r : Res A) (σ : Env) (f : A → Hh → SRes) : SRes := match r with
  | .ok a h => f a h
  | .exc x h => .exc x σ h
  | .bad => .bad

@[simp] theorem Res.bind_ok {A B : Type} (a : A) (h : Hh) (f : A → Hh → Res B) : (Res.ok a h).bind f = f a h := rfl
@[simp] theorem Res.bind_exc {A B : Type} (x : D) (h : Hh) (f : A → Hh → Res B) : (Res.exc x h).bind f = Res.exc x h := rfl
@[simp] theorem Res.bind_bad {A B : Type} (f : A → Hh → Res B) : (Res.bad : Res A).bind f = Res.bad := rfl
@[simp] theorem Res.stm_ok {A : Type} (a : A) (h : Hh) (σ : Env) (f : A → Hh → SRes) : (Res.ok a h).stm σ f = f a h := rfl
@[simp] theorem Res.stm_exc {A : Type} (x : D) (h : Hh) (σ : Env) (f : A → Hh → SRes) : (Res.exc x h : Res A).stm σ f = SRes.exc x σ h := rfl
@[simp] theorem Res.stm_bad {A : Type} (σ : Env) (f : A → Hh → SRes) : (Res.bad : Res A).stm σ f = SRes.bad := rfl
theorem Res.bind_assoc {A B C : Type} (r : Res A) (f : A → Hh → Res B) (g : B → Hh → Res C) : (r.bind f).bind g = r.bind fun a h => (f a h).bind g := by cases r <;> rfl

/-- the most items of a list, signs of a text -/
abbrev lim : Nat := 1000000

/-! ### data -/
def mapO {A B : Type} (f : A → Option B) : List A → Option (List B)
  | [] => some []
  | a :: l => match f a with
    | none => none
    | some b => match mapO f l with
      | none => none
      | some r => some (b :: r)
/-- the data that a value stands for: n bounds the depth -/
def reify : Nat → Hh → D → Option PyData
  | _, _, .non => some .none
  | _, _, .bl b => some (.bool b)
  | _, _, .int i => some (.int i)
  | _, _, .str s => some (.str s)
  | 0, _, _ => none
  | n + 1, h, .tup l => (mapO (reify n h) l).map .tuple
  | n + 1, h, .tupw l => (mapO (reify n h) l).map .tuple
  | n + 1, h, .ref a => match h[a]? with
    | some (.lst _ xs) => (mapO (reify n h) xs).map .list
    | _ => none
  | _ + 1, _, .xn _ _ => none
/-- .. with dicts, for repr -/
def keyOnly : D → Option PyData
  | .int i => some (.int i)
  | .str s => some (.str s)
  | _ => none
def pairK : Option PyData → Option PyData → Option (PyData × PyData)
  | some k, some v => some (k, v)
  | _, _ => none
def rdat : Nat → Hh → D → Option PyData
  | _, _, .non => some .none
  | _, _, .bl b => some (.bool b)
  | _, _, .int i => some (.int i)
  | _, _, .str s => some (.str s)
  | 0, _, _ => none
  | n + 1, h, .tup l => (mapO (rdat n h) l).map .tuple
  | n + 1, h, .tupw l => (mapO (rdat n h) l).map .tuple
  | n + 1, h, .ref a => match h[a]? with
    | some (.lst _ xs) => (mapO (rdat n h) xs).map .list
    | some (.dic _ kvs) => (mapO (fun p => pairK (keyOnly p.1) (rdat n h p.2)) kvs).map .dict
    | _ => none
  | _ + 1, _, .xn _ _ => none
/-- data that == is asked of -/
def eqable (n : Nat) (h : Hh) (x : D) : Option PyData := match reify n h x with
  | some d => if SeqAt.shaped d then some d else none
  | none => none
def eqD (h : Hh) (x y : D) : Option Bool := match eqable 20 h x, eqable 20 h y with
  | some d, some e => some (PyData.eqv d e)
  | _, _ => none
def truth (h : Hh) : D → Option Bool
  | .non => some false
  | .bl b => some b
  | .int i => some (i != 0)
  | .str s => some (s.length != 0)
  | .tup l => some (!l.isEmpty)
  | .tupw l => some (!l.isEmpty)
  | .ref a => match h[a]? with
    | some (.lst _ xs) => some (!xs.isEmpty)
    | _ => none
  | .xn _ _ => none

/-! ### dicts -/
def isKey : D → Bool
  | .int _ => true
  | .str _ => true
  | _ => false
def isTKey : D → Bool
  | .tup l => l.all isKey
  | _ => false
def dget (kvs : List (D × D)) (k : D) : Option D := (kvs.find? fun p => decide (p.1 = k)).map (·.2)
def dput (kvs : List (D × D)) (k v : D) : List (D × D) := if kvs.any (fun p => decide (p.1 = k)) then kvs.map fun p => if p.1 = k then (p.1, v) else p else kvs ++ [(k, v)]
def ddrop (kvs : List (D × D)) (k : D) : List (D × D) := kvs.filter fun p => decide (p.1 ≠ k)
/-- k may be asked of the dict -/
def keyFits (kvs : List (D × D)) (k : D) : Bool := (isKey k && kvs.all fun p => isKey p.1) || (isTKey k && kvs.all fun p => isTKey p.1)

/-- .. and nothing walks it while it is empty -/
def dOk (lk : Bool) (kvs : List (D × D)) (k : D) : Bool := keyFits kvs k && (!lk || !kvs.isEmpty)

/-! ### operators -/
def small (i : Int) : Bool := decide (i.natAbs < 2 ^ 64)
def binop (op : Operator) (x y : D) (h : Hh) : Res D := match op, x, y with
  | .Add, .int i, .int j => .ok (.int (i + j)) h
  | .Add, .str a, .str b => if a.length + b.length ≤ lim then .ok (.str (a ++ b)) h else .bad
  | .Add, .tup a, .tup b => if a.length + b.length ≤ lim then .ok (.tup (a ++ b)) h else .bad
  | .Add, .ref a, .ref b => match h[a]?, h[b]? with
    | some (.lst false xs), some (.lst false ys) => if xs.length + ys.length ≤ lim then .ok (.ref h.length) (h ++ [.lst false (xs ++ ys)]) else .bad
    | _, _ => .bad
  | .Sub, .int i, .int j => .ok (.int (i - j)) h
  | .Mult, .int i, .int j => if i.natAbs < 2 ^ 64 ∨ j.natAbs < 2 ^ 64 then .ok (.int (i * j)) h else .bad
  | .Mult, .ref a, .int k => match h[a]? with
    | some (.lst false xs) => if 0 ≤ k ∧ k ≤ lim ∧ xs.length * k.toNat ≤ lim then .ok (.ref h.length) (h ++ [.lst false (List.replicate k.toNat xs).flatten]) else .bad
    | _ => .bad
  | .FloorDiv, .int i, .int j => if 0 < j ∧ j < 10 ^ 70 then .ok (.int (i / j)) h else .bad
  | .Mod, .int i, .int j => if 0 < j then .ok (.int (i % j)) h else .bad
  | .Pow, .int i, .int j => if 0 ≤ j ∧ j ≤ 1000 ∧ i.natAbs < 2 ^ 64 then .ok (.int (i ^ j.toNat)) h else .bad
  | _, _, _ => .bad
def unop (op : UnaryOp) (x : D) (h : Hh) : Res D := match op, x with
  | .USub, .int i => .ok (.int (-i)) h
  | .Not, x => match truth h x with
    | some b => .ok (.bl (!b)) h
    | none => .bad
  | _, _ => .bad
/-- the place of an index -/
def ixN (n : Nat) (i : Int) : Option Nat := if 0 ≤ i then (if i < n then some i.toNat else none) else if -(n : Int) ≤ i then some (i + n).toNat else none
def flatD : D → Bool
  | .non => true | .bl _ => true | .int _ => true | .str _ => true
  | _ => false
/-- == of flat values -/
def eqF : D → D → Bool
  | .non, .non => true
  | .bl a, .bl b => a == b
  | .bl a, .int b => (if a then 1 else 0) == b
  | .int a, .bl b => a == (if b then 1 else 0)
  | .int a, .int b => a == b
  | .str a, .str b => a == b
  | _, _ => false
/-- x in y -/
def inOp (x y : D) (h : Hh) : Option Bool := match y with
  | .str z => match x with
    | .str s => match s.cps.toList with
      | [c] => some (decide (c ∈ z.cps.toList))
      | _ => none
    | _ => none
  | .tup l => if flatD x && l.all flatD then some (l.any fun y => eqF y x) else none
  | .tupw l => if flatD x && l.all flatD then some (l.any fun y => eqF y x) else none
  | .ref a => match h[a]? with
    | some (.lst _ _) => match eqable 20 h x, eqable 20 h y with
      | some d, some (.list ds) => some (ds.any fun z => PyData.eqv z d)
      | _, _ => none
    | some (.dic lk kvs) => if dOk lk kvs x then some (dget kvs x).isSome else none
    | _ => none
  | _ => none
/-- scalars that == tells apart as they stand -/
def scalD : D → D → Bool
  | .non, .non => true | .non, .int _ => true | .int _, .non => true | .non, .bl _ => true | .bl _, .non => true | .non, .str _ => true | .str _, .non => true
  | .int _, .int _ => true | .bl _, .bl _ => true | .str _, .str _ => true
  | .int _, .str _ => true | .str _, .int _ => true | .bl _, .str _ => true | .str _, .bl _ => true
  | _, _ => false
def eqS (h : Hh) (x y : D) : Option Bool := if scalD x y then some (eqF x y) else eqD h x y
def cmpop (op : CmpOp) (x y : D) (h : Hh) : Option Bool := match op with
  | .Eq => eqS h x y
  | .NotEq => (eqS h x y).map (!·)
  | .Lt => match x, y with
    | .int i, .int j => some (decide (i < j))
    | _, _ => none
  | .LtE => match x, y with
    | .int i, .int j => some (decide (i ≤ j))
    | _, _ => none
  | .Gt => match x, y with
    | .int i, .int j => some (decide (j < i))
    | _, _ => none
  | .GtE => match x, y with
    | .int i, .int j => some (decide (j ≤ i))
    | _, _ => none
  | .In => inOp x y h
  | .NotIn => (inOp x y h).map (!·)
  | .Is => match y with
    | .non => some (decide (x = .non))
    | .bl b => some (decide (x = .bl b))
    | _ => none
  | .IsNot => match y with
    | .non => some (!decide (x = .non))
    | .bl b => some (!decide (x = .bl b))
    | _ => none

/-! ### items and slices -/
def atD (xs : List D) (i : Int) : Option D := (ixN xs.length i).bind fun j => xs[j]?
def getItem (x i : D) (h : Hh) : Option D := match x with
  | .tup l => match i with
    | .int k => atD l k
    | _ => none
  | .tupw l => match i with
    | .int k => atD l k
    | _ => none
  | .str s => match i with
    | .int k => ((ixN s.cps.toList.length k).bind fun j => s.cps.toList[j]?).map fun c => .str ⟨#[c]⟩
    | _ => none
  | .ref a => match h[a]? with
    | some (.lst _ xs) => match i with
      | .int k => atD xs k
      | _ => none
    | some (.dic lk kvs) => if dOk lk kvs i then dget kvs i else none
    | _ => none
  | _ => none
def cutD (xs : List D) (lo hi : Option Int) : List D := (xs.drop (HT.sIx xs.length 0 lo)).take (HT.sIx xs.length xs.length hi - HT.sIx xs.length 0 lo)
def getSlice (x : D) (lo hi : Option Int) (h : Hh) : Res D := match x with
  | .tup l => .ok (.tup (cutD l lo hi)) h
  | .str s => .ok (.str (L2.cutS s lo hi)) h
  | .ref a => match h[a]? with
    | some (.lst _ xs) => .ok (.ref h.length) (h ++ [.lst false (cutD xs lo hi)])
    | _ => .bad
  | _ => .bad
def setItem (x i v : D) (h : Hh) : Res Unit := match x with
  | .ref a => match h[a]? with
    | some (.lst false xs) => match i with
      | .int k => match ixN xs.length k with
        | some j => .ok () (h.set a (.lst false (xs.set j v)))
        | none => .bad
      | _ => .bad
    | some (.dic false kvs) => if keyFits kvs i && decide (kvs.length < lim) then .ok () (h.set a (.dic false (dput kvs i v))) else .bad
    | _ => .bad
  | _ => .bad

/-! ### builtins -/
inductive BF where
  | len | repr | abs | max2 | min2 | max1 | min1 | divmod | list | tuple | str | int | all | any | sum | sorted | dict
  deriving DecidableEq, Repr
inductive BM where
  | append | extend | pop | reverse | clear | get | items | values | keys | update | join | split | upper | index | count
  deriving DecidableEq, Repr
def allInts : List D → Option (List Int)
  | [] => some []
  | .int i :: r => (allInts r).map (i :: ·)
  | _ => none
def allBls : List D → Option (List Bool)
  | [] => some []
  | .bl i :: r => (allBls r).map (i :: ·)
  | _ => none
def allStrs : List D → Option (List Str)
  | [] => some []
  | .str i :: r => (allStrs r).map (i :: ·)
  | _ => none
def listOf (h : Hh) : D → Option (List D)
  | .ref a => match h[a]? with
    | some (.lst _ xs) => some xs
    | _ => none
  | _ => none
def seqOf (h : Hh) : D → Option (List D)
  | .tup l => some l
  | .tupw l => some l
  | x => listOf h x
def newL (xs : List D) (h : Hh) : Res D := .ok (.ref h.length) (h ++ [.lst false xs])
def lenD (h : Hh) : D → Option Nat
  | .str s => some s.length
  | .tup l => some l.length
  | .tupw l => some l.length
  | .ref a => match h[a]? with
    | some (.lst _ xs) => some xs.length
    | some (.dic _ kvs) => some kvs.length
    | _ => none
  | _ => none
/-- repr's text; a bound on its length is asked -/
def reprD (h : Hh) (x : D) : Option Str := match rdat 20 h x with
  | some d => if d.showable && decide (d.depth ≤ 20) && decide (d.shown.length ≤ lim) then some d.shown else none
  | none => none
def maxI : List Int → Int
  | [] => 0
  | [a] => a
  | a :: b :: l => max a (maxI (b :: l))
def minI : List Int → Int
  | [] => 0
  | [a] => a
  | a :: b :: l => min a (minI (b :: l))
def bfun (f : BF) (vs : List D) (h : Hh) : Res D := match f, vs with
  | .len, [x] => match lenD h x with
    | some n => .ok (.int n) h
    | none => .bad
  | .repr, [x] => match reprD h x with
    | some s => .ok (.str s) h
    | none => .bad
  | .abs, [.int i] => .ok (.int i.natAbs) h
  | .max2, [.int i, .int j] => .ok (.int (max i j)) h
  | .min2, [.int i, .int j] => .ok (.int (min i j)) h
  | .max1, [x] => match (listOf h x).bind allInts with
    | some ns => if ns = [] then .bad else .ok (.int (maxI ns)) h
    | none => .bad
  | .min1, [x] => match (listOf h x).bind allInts with
    | some ns => if ns = [] then .bad else .ok (.int (minI ns)) h
    | none => .bad
  | .divmod, [.int i, .int j] => if 0 < j ∧ j < 10 ^ 70 then .ok (.tup [.int (i / j), .int (i % j)]) h else .bad
  | .list, [x] => match seqOf h x with
    | some xs => newL xs h
    | none => .bad
  | .tuple, [x] => match x with
    | .tup l => .ok (.tup l) h
    | _ => match listOf h x with
      | some xs => .ok (.tup xs) h
      | none => .bad
  | .str, [x] => match x with
    | .int i => if i.natAbs < 10 ^ 200 then .ok (.str (toString i)) h else .bad
    | .str s => .ok (.str s) h
    | _ => .bad
  | .int, [x] => match x with
    | .int i => .ok (.int i) h
    | .bl b => .ok (.int (if b then 1 else 0)) h
    | .str s => match PySem.intText? s with
      | some n => if s.length ≤ 640 then .ok (.int n) h else .bad
      | none => .bad
    | _ => .bad
  | .all, [x] => match (listOf h x).bind allBls with
    | some bs => .ok (.bl (bs.all id)) h
    | none => .bad
  | .any, [x] => match (listOf h x).bind allBls with
    | some bs => .ok (.bl (bs.any id)) h
    | none => .bad
  | .sum, [x] => match (listOf h x).bind allInts with
    | some ns => .ok (.int ns.sum) h
    | none => .bad
  | _, _ => .bad
def bmeth (m : BM) (o : D) (vs : List D) (h : Hh) : Res D := match o with
  | .str s => match m, vs with
    | .join, [x] => match (listOf h x).bind allStrs with
      | some ss => if (Txt.join s ss).length ≤ lim ∧ ((ss.map (·.length)).sum + ss.length * s.length ≤ lim) then .ok (.str (Txt.join s ss)) h else .bad
      | none => .bad
    | .upper, [] => if s.length ≤ 1000 ∧ (Txt.upper s).length ≤ lim then .ok (.str (Txt.upper s)) h else .bad
    | .split, [.str t] => if t.length ≠ 0 ∧ s.length + 2 ≤ lim ∧ (Txt.split s t).all (fun z => decide (z.length ≤ lim)) = true then newL ((Txt.split s t).map .str) h else .bad
    | _, _ => .bad
  | .ref a => match h[a]? with
    | some (.lst fz xs) => match m, vs with
      | .append, [x] => if fz = false ∧ xs.length < lim then .ok .non (h.set a (.lst false (xs ++ [x]))) else .bad
      | .extend, [.ref b] => match h[b]? with
        | some (.lst false ys) => if fz = false ∧ xs.length + ys.length ≤ lim then .ok .non (h.set a (.lst false (xs ++ ys))) else .bad
        | _ => .bad
      | .pop, [] => if fz = false then match xs.getLast? with
          | some y => .ok y (h.set a (.lst false xs.dropLast))
          | none => .bad else .bad
      | .pop, [.int i] => if fz = false ∧ i.natAbs < 2 ^ 62 then match ixN xs.length i with
          | some k => match xs[k]? with
            | some y => .ok y (h.set a (.lst false (xs.eraseIdx k)))
            | none => .bad
          | none => .bad else .bad
      | .reverse, [] => if fz = false then .ok .non (h.set a (.lst false xs.reverse)) else .bad
      | .clear, [] => if fz = false then .ok .non (h.set a (.lst false [])) else .bad
      | _, _ => .bad
    | some (.dic lk kvs) => match m, vs with
      | .get, [k] => if dOk lk kvs k then .ok ((dget kvs k).getD .non) h else .bad
      | .get, [k, d] => if dOk lk kvs k then .ok ((dget kvs k).getD d) h else .bad
      | _, _ => .bad
    | _ => .bad
  | _ => .bad

/-! ### the combinators: expressions -/
/-- what stands for the program: a class's method, by class and name -/
structure Cfg where
  meth : Nat → Nat → Option Nat
def eBad : Sh := fun _ _ => .bad
def eConst (d : D) : Sh := fun _ h => .ok d h
def eVar (i : Nat) : Sh := fun σ h => match σ[i]? with
  | some (some d) => .ok d h
  | _ => .bad
def eBin (op : Operator) (a b : Sh) : Sh := fun σ h => (a σ h).bind fun x h1 => (b σ h1).bind fun y h2 => binop op x y h2
def eUn (op : UnaryOp) (a : Sh) : Sh := fun σ h => (a σ h).bind fun x h1 => unop op x h1
def eAnd (a b : Sh) : Sh := fun σ h => (a σ h).bind fun x h1 => match truth h1 x with
  | some true => b σ h1
  | some false => .ok x h1
  | none => .bad
def eOr (a b : Sh) : Sh := fun σ h => (a σ h).bind fun x h1 => match truth h1 x with
  | some true => .ok x h1
  | some false => b σ h1
  | none => .bad
def eIf (c a b : Sh) : Sh := fun σ h => (c σ h).bind fun x h1 => match truth h1 x with
  | some true => a σ h1
  | some false => b σ h1
  | none => .bad
def eCmp (op : CmpOp) (a b : Sh) : Sh := fun σ h => (a σ h).bind fun x h1 => (b σ h1).bind fun y h2 => match cmpop op x y h2 with
  | some b => .ok (.bl b) h2
  | none => .bad
/-- a op1 b op2 c -/
def eChain (op1 op2 : CmpOp) (a b c : Sh) : Sh := fun σ h => (a σ h).bind fun x h1 => (b σ h1).bind fun y h2 => match cmpop op1 x y h2 with
  | some true => (c σ h2).bind fun z h3 => match cmpop op2 y z h3 with
    | some b => .ok (.bl b) h3
    | none => .bad
  | some false => .ok (.bl false) h2
  | none => .bad
def eArgs : List Sh → Env → Hh → Res (List D)
  | [], _, h => .ok [] h
  | a :: r, σ, h => (a σ h).bind fun x h1 => (eArgs r σ h1).bind fun xs h2 => .ok (x :: xs) h2
def eTup (es : List Sh) : Sh := fun σ h => (eArgs es σ h).bind fun xs h1 => .ok (.tup xs) h1
def eLst (es : List Sh) : Sh := fun σ h => (eArgs es σ h).bind newL
def eItem (a b : Sh) : Sh := fun σ h => (a σ h).bind fun x h1 => (b σ h1).bind fun y h2 => match getItem x y h2 with
  | some d => .ok d h2
  | none => .bad
/-- a slice's end -/
def eEnd (e : Option Sh) (σ : Env) (h : Hh) : Res (Option Int) := match e with
  | none => .ok none h
  | some e => (e σ h).bind fun x h1 => match x with
    | .int i => .ok (some i) h1
    | _ => .bad
def eSlice (a : Sh) (lo hi : Option Sh) : Sh := fun σ h => (a σ h).bind fun x h1 => (eEnd lo σ h1).bind fun l h2 => (eEnd hi σ h2).bind fun u h3 => getSlice x l u h3
/-- xs[::st], st = -1: the list turned about -/
def revD (x : D) (o : Option Int) (h : Hh) : Res D := if o = some (-1) then (match listOf h x with
  | some xs => newL xs.reverse h
  | none => .bad) else .bad
def eRev (a st : Sh) : Sh := fun σ h => (a σ h).bind fun x h1 => (eEnd (some st) σ h1).bind fun o h2 => revD x o h2
def eBF (f : BF) (es : List Sh) : Sh := fun σ h => (eArgs es σ h).bind fun xs h1 => bfun f xs h1
/-- what a method is asked of: a text, a list, a dict -/
inductive Kd where
  | str | lst | dic
  deriving DecidableEq
def kdOf (h : Hh) : D → Option Kd
  | .str _ => some .str
  | .ref a => match h[a]? with
    | some (.lst _ _) => some .lst
    | some (.dic _ _) => some .dic
    | _ => none
  | _ => none
def bmK (k : Kd) : BM → Bool
  | .append | .extend | .pop | .reverse | .clear => decide (k = .lst)
  | .get => decide (k = .dic)
  | .join | .upper | .split => decide (k = .str)
  | _ => false
def eBM (m : BM) (o : Sh) (es : List Sh) : Sh := fun σ h => (o σ h).bind fun x h1 => match kdOf h1 x with
  | some k => if bmK k m then (eArgs es σ h1).bind fun xs h2 => if kdOf h2 x = some k then bmeth m x xs h2 else .bad else .bad
  | none => .bad
def eCall (cf : CF) (f : Nat) (es : List Sh) : Sh := fun σ h => (eArgs es σ h).bind fun xs h1 => cf f xs h1
/-- how a call's parameters come: by place, by keyword, by default -/
inductive Par where
  | pos (i : Nat) | kw (i : Nat) | dfl (d : D)
  deriving Inhabited
def pick (xs ks : List D) : List Par → List D
  | [] => []
  | .pos i :: r => (xs[i]?).getD .non :: pick xs ks r
  | .kw i :: r => (ks[i]?).getD .non :: pick xs ks r
  | .dfl d :: r => d :: pick xs ks r
def eCallK (cf : CF) (f : Nat) (ps : List Par) (es ks : List Sh) : Sh := fun σ h => (eArgs es σ h).bind fun xs h1 => (eArgs ks σ h1).bind fun zs h2 => cf f (pick xs zs ps) h2
/-- C(..): the class c, its __init__ f -/
def eMk (cf : CF) (c f : Nat) (ps : List Par) (es ks : List Sh) : Sh := fun σ h => (eArgs es σ h).bind fun xs h1 => (eArgs ks σ h1).bind fun zs h2 =>
  (cf f (pick (.ref h2.length :: xs) zs ps) (h2 ++ [.ins c []])).bind fun r h3 => match r with
    | .non => .ok (.ref h2.length) h3
    | _ => .bad
def fget (fs : List (Nat × D)) (f : Nat) : Option D := fs.lookup f
def fput (fs : List (Nat × D)) (f : Nat) (v : D) : List (Nat × D) := match fs with
  | [] => [(f, v)]
  | (g, x) :: r => if g = f then (g, v) :: r else (g, x) :: fput r f v
/-- the class of the instance that bears no own m -/
def mcls (h : Hh) (m : Nat) : D → Option Nat
  | .ref a => match h[a]? with
    | some (.ins c fs) => if (fget fs m).isNone then some c else none
    | _ => none
  | _ => none
def eMth (cf : CF) (mt : Nat → Nat → Option Nat) (m : Nat) (o : Sh) (es : List Sh) : Sh := fun σ h => (o σ h).bind fun x h1 => match (mcls h1 m x).bind fun c => mt c m with
  | some f => (eArgs es σ h1).bind fun xs h2 => cf f (x :: xs) h2
  | none => .bad
def getAttrD (h : Hh) (x : D) (f : Nat) : Option D := match x with
  | .ref a => match h[a]? with
    | some (.ins _ fs) => fget fs f
    | _ => none
  | _ => none
def eAttr (f : Nat) (o : Sh) : Sh := fun σ h => (o σ h).bind fun x h1 => match getAttrD h1 x f with
  | some d => .ok d h1
  | none => .bad
/-- the built-in types that isinstance is asked of -/
inductive Ty where
  | int | bool | str | list | tuple | dict | own (c : Nat)
  deriving DecidableEq
def isTy (h : Hh) (x : D) : Ty → Option Bool
  | .own c => match x with
    | .ref a => match h[a]? with
      | some (.ins c' _) => some (decide (c = c'))
      | some (.lst _ _) => some false
      | some (.dic false _) => some false
      | _ => none
    | .xn _ _ => none
    | _ => some false
  | t => match x with
    | .non => some false
    | .bl _ => some (t == .int || t == .bool)
    | .int _ => some (t == .int)
    | .str _ => some (t == .str)
    | .tup _ => some (t == .tuple)
    | .tupw _ => some (t == .tuple)
    | .ref a => match h[a]? with
      | some (.lst _ _) => some (t == .list)
      | some (.dic false _) => some (t == .dict)
      | some (.ins _ _) => some false
      | _ => none
    | .xn _ _ => none
def eIsI (a : Sh) (t : Ty) : Sh := fun σ h => (a σ h).bind fun x h1 => match isTy h1 x t with
  | some b => .ok (.bl b) h1
  | none => .bad
/-- a written dict -/
def eDict : List (Sh × Sh) → Env → Hh → Res (List (D × D))
  | [], _, h => .ok [] h
  | (k, v) :: r, σ, h => (k σ h).bind fun x h1 => (v σ h1).bind fun y h2 => (eDict r σ h2).bind fun zs h3 => .ok ((x, y) :: zs) h3
def eDic1 (kvs : List (D × D)) (h1 : Hh) : Res D := match kvs with
  | [(k, v)] => if isTKey k then .ok (.ref h1.length) (h1 ++ [.dic false [(k, v)]]) else .bad
  | _ => .bad
def eDic (ps : List (Sh × Sh)) : Sh := fun σ h => (eDict ps σ h).bind fun kvs h1 =>
  if kvs.all (fun p => isKey p.1) && decide (kvs.length ≤ 15) then .ok (.ref h1.length) (h1 ++ [.dic false (kvs.foldl (fun acc p => dput acc p.1 p.2) [])]) else eDic1 kvs h1

def newD (kvs : List (D × D)) (h : Hh) : Res D := .ok (.ref h.length) (h ++ [.dic false kvs])
/-- dict(enumerate(xs)) -/
def enD (x : D) (h : Hh) : Res D := match listOf h x with
  | some xs => newD ((xs.zipIdx.map fun p => (D.int p.2, p.1)).foldl (fun acc p => dput acc p.1 p.2) []) h
  | none => .bad
def eDicEn (a : Sh) : Sh := fun σ h => (a σ h).bind enD
/-- dict(ps), ps a list of pairs whose first is a tuple of ints and texts -/
def pairD : D → Option (D × D)
  | .tup [k, v] => some (k, v)
  | _ => none
def dicP (x : D) (h : Hh) : Res D := match (listOf h x).bind (mapO pairD) with
  | some kvs => if kvs.all (fun p => isTKey p.1) && !kvs.isEmpty && decide (kvs.length ≤ lim) then newD (kvs.foldl (fun acc p => dput acc p.1 p.2) []) h else .bad
  | none => .bad
def eDicP (a : Sh) : Sh := fun σ h => (a σ h).bind dicP

/-! ### what is walked -/
/-- items; an object that must stand still; what is put back at the end -/
structure Walked where
  items : List D
  guard : Option (Nat × Ob)
  fin : Option (Nat × Ob)
abbrev It := Env → Hh → Res Walked
def stands (g : Option (Nat × Ob)) (h : Hh) : Bool := match g with
  | none => true
  | some (a, o) => decide (h[a]? = some o)
def unlock (g : Option (Nat × Ob)) (h : Hh) : Hh := match g with
  | none => h
  | some (a, o) => h.set a o
/-- a value that is walked: a list, a tuple, a text -/
def walkV (x : D) (h : Hh) : Res Walked := match x with
  | .tup l => .ok ⟨l, none, none⟩ h
  | .tupw l => .ok ⟨l, none, none⟩ h
  | .str s => .ok ⟨s.cps.toList.map fun c => .str ⟨#[c]⟩, none, none⟩ h
  | .ref a => match h[a]? with
    | some (.lst fz xs) => .ok ⟨xs, some (a, .lst fz xs), none⟩ h
    | _ => .bad
  | _ => .bad
def iVal (e : Sh) : It := fun σ h => (e σ h).bind walkV
def rng1 (xs : List D) (h1 : Hh) : Res Walked := match xs with
  | [.int j] => if j ≤ lim ∧ j.natAbs < 2 ^ 61 then .ok ⟨(List.range j.toNat).map fun k => .int ((k : Nat) : Int), none, none⟩ h1 else .bad
  | _ => .bad
def rng2 (xs : List D) (h1 : Hh) : Res Walked := match xs with
  | [.int i, .int j] => if j - i ≤ lim ∧ i.natAbs < 2 ^ 61 ∧ j.natAbs < 2 ^ 61 then .ok ⟨(List.range (j - i).toNat).map fun k => .int (i + ((k : Nat) : Int)), none, none⟩ h1 else .bad
  | _ => .bad
/-- range(i, j, -1) -/
def rng3 (xs : List D) (h1 : Hh) : Res Walked := match xs with
  | [.int i, .int j, .int c] => if c = -1 ∧ i - j ≤ lim ∧ i.natAbs < 2 ^ 61 ∧ j.natAbs < 2 ^ 61 then .ok ⟨(List.range (i - j).toNat).map fun k => .int (i + ((k : Nat) : Int) * -1), none, none⟩ h1 else .bad
  | _ => .bad
def iRange : List Sh → It
  | [a] => fun σ h => (eArgs [a] σ h).bind rng1
  | [a, b] => fun σ h => (eArgs [a, b] σ h).bind rng2
  | [a, b, c] => fun σ h => (eArgs [a, b, c] σ h).bind rng3
  | _ => fun _ _ => .bad
def iEnum (e : Sh) : It := fun σ h => (e σ h).bind fun x h1 => match x with
  | .ref a => match h1[a]? with
    | some (.lst fz xs) => .ok ⟨xs.zipIdx.map fun p => .tup [.int p.2, p.1], some (a, .lst fz xs), none⟩ h1
    | _ => .bad
  | _ => .bad
def lockD (a : Nat) (lk : Bool) (kvs : List (D × D)) (items : List D) (h : Hh) : Res Walked :=
  if lk then .ok ⟨items, some (a, .dic true kvs), none⟩ h else .ok ⟨items, some (a, .dic true kvs), some (a, .dic false kvs)⟩ (h.set a (.dic true kvs))
/-- d, d.items(), d.values() -/
def iDict (w : Nat) (e : Sh) : It := fun σ h => (e σ h).bind fun x h1 => match x with
  | .ref a => match h1[a]? with
    | some (.dic lk kvs) => lockD a lk kvs (kvs.map fun p => if w = 0 then p.1 else if w = 1 then p.2 else .tup [p.1, p.2]) h1
    | _ => .bad
  | _ => .bad

/-! ### targets -/
def tName (i : Nat) : Tg := fun v σ h => .ok (σ.set i (some v)) h
def tEach : List Tg → List D → Env → Hh → Res Env
  | [], [], σ, h => .ok σ h
  | t :: ts, v :: vs, σ, h => (t v σ h).bind fun σ1 h1 => tEach ts vs σ1 h1
  | _, _, _, _ => .bad
def tTup (ts : List Tg) : Tg := fun v σ h => match v with
  | .tup vs => if vs.length = ts.length then tEach ts vs σ h else .bad
  | .tupw vs => if vs.length = ts.length then tEach ts vs σ h else .bad
  | _ => .bad
/-- no exception leaves what we speak of -/
def noExc {A : Type} (r : Res A) : Res A := match r with
  | .exc _ _ => .bad
  | r => r
def tItem (o i : Sh) : Tg := fun v σ h => (o σ h).bind fun x h1 => (i σ h1).bind fun y h2 => (setItem x y v h2).bind fun _ h3 => .ok σ h3
def tAttr (f : Nat) (o : Sh) : Tg := fun v σ h => (o σ h).bind fun x h1 => match x with
  | .ref a => match h1[a]? with
    | some (.ins c fs) => if fs.length < 900 then .ok σ (h1.set a (.ins c (fput fs f v))) else .bad
    | _ => .bad
  | _ => .bad

/-! ### comprehensions -/
def wipeD (σ : Env) : List Nat → Env
  | [] => σ
  | v :: vs => (wipeD σ vs).set v none
def lcLoop (tg : Tg) (test elt : Sh) (g : Option (Nat × Ob)) (σ : Env) : List D → List D → Hh → Res (List D)
  | [], acc, h => if stands g h then .ok acc h else .bad
  | x :: xs, acc, h => if stands g h then (tg x σ h).bind fun σ1 h1 => (test σ1 h1).bind fun b h2 => match truth h2 b with
      | some true => (elt σ1 h2).bind fun y h3 => lcLoop tg test elt g σ xs (acc ++ [y]) h3
      | some false => lcLoop tg test elt g σ xs acc h2
      | none => .bad
    else .bad
def eLc (it : It) (own : List Nat) (tg : Tg) (test elt : Sh) : Sh := fun σ h => (it σ h).bind fun w h1 =>
  if w.items.length ≤ lim then (noExc (lcLoop tg test elt w.guard (wipeD σ own) w.items [] h1)).bind fun ys h2 => newL ys (unlock w.fin h2) else .bad

/-- {k: v for ..}, keys ints or texts -/
def dcLoop (tg : Tg) (test key elt : Sh) (g : Option (Nat × Ob)) (σ : Env) : List D → List (D × D) → Hh → Res (List (D × D))
  | [], acc, h => if stands g h then .ok acc h else .bad
  | x :: xs, acc, h => if stands g h then (tg x σ h).bind fun σ1 h1 => (test σ1 h1).bind fun b h2 => match truth h2 b with
      | some true => (key σ1 h2).bind fun k h3 => (elt σ1 h3).bind fun y h4 => if isKey k then dcLoop tg test key elt g σ xs (dput acc k y) h4 else .bad
      | some false => dcLoop tg test key elt g σ xs acc h2
      | none => .bad
    else .bad
def eDc (it : It) (own : List Nat) (tg : Tg) (test key elt : Sh) : Sh := fun σ h => (it σ h).bind fun w h1 =>
  if w.items.length ≤ lim then (noExc (dcLoop tg test key elt w.guard (wipeD σ own) w.items [] h1)).bind fun ys h2 => newD ys (unlock w.fin h2) else .bad

/-! ### statements -/
def sBad : ShS := fun _ _ => .bad
def sPass : ShS := fun σ h => .nx σ h
def sExpr (e : Sh) : ShS := fun σ h => (e σ h).stm σ fun _ h1 => .nx σ h1
def sRet (e : Sh) : ShS := fun σ h => (e σ h).stm σ fun d h1 => .rt d h1
def sRetN : ShS := fun _ h => .rt .non h
def sAsg (t : Tg) (e : Sh) : ShS := fun σ h => (e σ h).stm σ fun d h1 => (noExc (t d σ h1)).stm σ fun σ2 h2 => .nx σ2 h2
def sIf (c : Sh) (a b : ShS) : ShS := fun σ h => (c σ h).stm σ fun x h1 => match truth h1 x with
  | some true => a σ h1
  | some false => b σ h1
  | none => .bad
def sSeq (a b : ShS) : ShS := fun σ h => match a σ h with
  | .nx σ1 h1 => b σ1 h1
  | r => r
def augop (op : Operator) (x y : D) (h : Hh) : Res D := match op, x, y with
  | .Add, .int a, .int b => .ok (.int (a + b)) h
  | .Sub, .int a, .int b => .ok (.int (a - b)) h
  | _, _, _ => .bad
def sAug (i : Nat) (op : Operator) (e : Sh) : ShS := fun σ h => match σ[i]? with
  | some (some x) => (e σ h).stm σ fun y h1 => (augop op x y h1).stm σ fun z h2 => .nx (σ.set i (some z)) h2
  | _ => .bad
def forL (tg : Tg) (body : ShS) (g fin : Option (Nat × Ob)) : List D → ShS
  | [], σ, h => if stands g h then .nx σ (unlock fin h) else .bad
  | x :: xs, σ, h => if stands g h then (noExc (tg x σ h)).stm σ fun σ1 h1 => match body σ1 h1 with
      | .nx σ2 h2 => forL tg body g fin xs σ2 h2
      | .ct σ2 h2 => forL tg body g fin xs σ2 h2
      | .bk σ2 h2 => if fin.isNone || stands g h2 then .nx σ2 (unlock fin h2) else .bad
      | .rt d h2 => if fin.isNone || stands g h2 then .rt d (unlock fin h2) else .bad
      | .exc x σ2 h2 => if fin.isNone then .exc x σ2 h2 else .bad
      | .bad => .bad
    else .bad
def sFor (it : It) (tg : Tg) (body : ShS) : ShS := fun σ h => (it σ h).stm σ fun w h1 => forL tg body w.guard w.fin w.items σ h1
def whileL (c : Sh) (body : ShS) : Nat → ShS
  | 0, _, _ => .bad
  | n + 1, σ, h => (c σ h).stm σ fun x h1 => match truth h1 x with
    | some true => match body σ h1 with
      | .nx σ2 h2 => whileL c body n σ2 h2
      | .ct σ2 h2 => whileL c body n σ2 h2
      | .bk σ2 h2 => .nx σ2 h2
      | r => r
    | some false => .nx σ h1
    | none => .bad
def wfuel : Nat := 1000000
def sWhile (c : Sh) (body : ShS) : ShS := whileL c body wfuel

/-! ### defs -/
/-- a def: its parameters' number, its slots' number, its body -/
structure Def where
  ar : Nat
  n : Nat
  body : CF → ShS
def startD (n : Nat) (vs : List D) : Env := vs.map some ++ List.replicate (n - vs.length) none
def SRes.res : SRes → Res D
  | .nx _ h => .ok .non h
  | .rt d h => .ok d h
  | .exc x _ h => .exc x h
  | _ => .bad
def callN (tab : Nat → Option Def) : Nat → CF
  | 0 => fun _ _ _ => .bad
  | k + 1 => fun f vs h => match tab f with
    | some d => if vs.length = d.ar then (d.body (callN tab k) (startD d.n vs) h).res else .bad
    | none => .bad
end Ev

set_option maxRecDepth 100000
namespace Ev
open PySem
/-- what the translator knows: the names' slots, the scope, the names whose cells are made here, the globals by name -/
structure TC where
  N : List Str
  sc : Scope
  fn : Str → Bool
  fns : List (Str × Nat)
  cls : List (Str × (Nat × Nat))
  con : List (Str × D)
  fld : List Str
  mns : List Str
  kws : List ((Nat × Nat × List Str) × List Par)
  mt : Nat → Nat → Option Nat
  deriving Inhabited

def isVis (sc : Scope) (x : Str) : Bool := match sc.names.lookup x with
  | some .local => true
  | some .cell => true
  | some .free => true
  | _ => false
def isLoc (tc : TC) (x : Str) : Bool := match tc.sc.names.lookup x with
  | some .local => true
  | some .cell => tc.fn x
  | _ => false
def isLc (sc : Scope) (x : Str) : Bool := match sc.names.lookup x with
  | some .local => true
  | _ => false
def isGl (sc : Scope) (x : Str) : Bool := match sc.names.lookup x with
  | some .globalImplicit => true
  | _ => false
def trC : Const → Sh
  | .none => eConst .non
  | .bool b => eConst (.bl b)
  | .int i => eConst (.int i)
  | .str s => if s.length ≤ lim then eConst (.str s) else eBad
  | _ => eBad
def bfOf (x : Str) (n : Nat) : Option BF :=
  if x = "len" then some .len else if x = "repr" then some .repr else if x = "abs" then some .abs
  else if x = "max" then (if n = 2 then some .max2 else some .max1) else if x = "min" then (if n = 2 then some .min2 else some .min1)
  else if x = "divmod" then some .divmod else if x = "list" then some .list else if x = "tuple" then some .tuple
  else if x = "str" then some .str else if x = "int" then some .int else if x = "all" then some .all else if x = "any" then some .any
  else if x = "sum" then some .sum else none
def bmOf (x : Str) : Option BM :=
  if x = "append" then some .append else if x = "extend" then some .extend else if x = "pop" then some .pop else if x = "reverse" then some .reverse
  else if x = "clear" then some .clear else if x = "get" then some .get else if x = "join" then some .join else if x = "split" then some .split
  else if x = "upper" then some .upper else none
def tyOf (cls : List (Str × (Nat × Nat))) (x : Str) : Option Ty :=
  if x = "int" then some .int else if x = "bool" then some .bool else if x = "str" then some .str else if x = "list" then some .list
  else if x = "tuple" then some .tuple else if x = "dict" then some .dict else (cls.lookup x).map fun p => .own p.1
def kwNames : List Keyword → List Str
  | [] => []
  | ⟨some x, _, _⟩ :: r => x :: kwNames r
  | ⟨none, _, _⟩ :: r => kwNames r
def kwAll : List Keyword → Bool
  | [] => true
  | ⟨some _, _, _⟩ :: r => kwAll r
  | ⟨none, _, _⟩ :: r => false
def parOf (n : Nat) : Nat → List Par
  | 0 => []
  | k + 1 => .pos (n - (k + 1)) :: parOf n k
def ownP (N : List Str) (scope : Scope) : List (Str × Nat) := scope.names.filterMap fun p => match p.2 with
  | .local => if N.contains p.1 then some (p.1, N.idxOf p.1) else none
  | .cell => if N.contains p.1 then some (p.1, N.idxOf p.1) else none
  | _ => none
def blkTC (tc : TC) (scope : Scope) : TC := { tc with sc := L2.relS scope tc.sc, fn := fun x => scope.names.lookup x == some .cell }

/-- an expression's meanings: as a value, as what is walked, as a target -/
structure Mn where
  v : Sh
  it : It
  tg : Tg
  en : Option Sh
def noTg : Tg := fun _ _ _ => .bad
def noIt : It := fun _ _ => .bad
/-- a value alone -/
def Mn.of (v : Sh) : Mn := ⟨v, iVal v, noTg, none⟩
def Mn.bad : Mn := ⟨eBad, noIt, noTg, none⟩
def foldAnd : List Mn → Sh
  | [] => eBad
  | [e] => e.v
  | e :: r => eAnd e.v (foldAnd r)
def foldOr : List Mn → Sh
  | [] => eBad
  | [e] => e.v
  | e :: r => eOr e.v (foldOr r)
def vals (l : List Mn) : List Sh := l.map (·.v)
def isStar : Expr → Bool
  | .Starred .. => true
  | _ => false
def noStar (es : List Expr) : Bool := es.all fun e => !isStar e
def isSetE : Expr → Bool
  | .Set .. => true
  | _ => false
def isTupE : Expr → Bool
  | .Tuple .. => true
  | _ => false
def baseOk : Expr → Bool
  | .Call (.Name _ _) [] [] _ => false
  | _ => true
def isEnum : Expr → Bool
  | .Call (.Name x _) _ _ _ => decide (x = "enumerate")
  | _ => false
def okTg (tg it : Expr) : Bool := !isEnum it || isTupE tg
def namedTy (tc : TC) : Expr → Option (Str × Ty)
  | .Name t _ => if isGl tc.sc t then (tyOf tc.cls t).map fun ty => (t, ty) else none
  | _ => none
/-- what enumerate(e) is made of -/
def enOf (x : Str) (as : List Mn) (ks : List Keyword) : Option Sh := if x = "enumerate" then (if ks.isEmpty then (match as with
  | [a] => some a.v
  | _ => none) else none) else none
def trD (as : List Mn) : Sh := match as with
  | [a] => (match a.en with
    | some f => eDicEn f
    | none => eDicP a.v)
  | _ => eBad
/-- a built-in by its name -/
def trB (tc : TC) (x : Str) (as : List Mn) (es : List Expr) : Sh :=
  if x = "isinstance" then (match as, es with
    | [a, _], [_, t] => (match namedTy tc t with
      | some (_, ty) => eIsI a.v ty
      | none => eBad)
    | _, _ => eBad) else if x = "dict" then trD as else (match bfOf x es.length with
    | some f => eBF f (vals as)
    | none => eBad)
def trCall (cf : CF) (tc : TC) (x : Str) (as : List Mn) (es : List Expr) (ks : List Keyword) (zs : List Mn) : Sh :=
  match tc.fns.lookup x with
    | some f => (match ks with
      | [] => (match tc.kws.lookup (f, es.length, []) with
        | some ps => eCallK cf f ps (vals as) (vals zs)
        | none => eCall cf f (vals as))
      | _ => if kwAll ks then (match tc.kws.lookup (f, es.length, kwNames ks) with
        | some ps => eCallK cf f ps (vals as) (vals zs)
        | none => eBad) else eBad)
    | none => (match tc.cls.lookup x with
      | some (c, f) => if kwAll ks then (match tc.kws.lookup (f, es.length + 1, kwNames ks) with
        | some ps => eMk cf c f ps (vals as) (vals zs)
        | none => eBad) else eBad
      | none => if ks.isEmpty then trB tc x as es else eBad)
def callIt (tc : TC) (x : Str) (v : Sh) (as : List Mn) (ks : List Keyword) : It :=
  if x = "range" then (if ks.isEmpty then iRange (vals as) else noIt) else if x = "enumerate" then (if ks.isEmpty then (match as with
    | [e] => iEnum e.v
    | _ => noIt) else noIt) else iVal v
def isSl : Expr → Bool
  | .Slice .. => true
  | _ => false
def zipD : List (Option Sh) → List Sh → Option (List (Sh × Sh))
  | [], [] => some []
  | some k :: ks, v :: vs => (zipD ks vs).map ((k, v) :: ·)
  | _, _ => none
def trCmp (ops : List CmpOp) (rs : List Expr) (l : Sh) (ms : List Mn) : Mn := match ops, rs, ms with
  | [op], [r], [r'] => if isSetE r then .bad else .of (eCmp op l r'.v)
  | [op1, op2], [m, r], [m', r'] => if isSetE m || isSetE r then .bad else .of (eChain op1 op2 l m'.v r'.v)
  | _, _, _ => .bad
def trDc (it : It) (own : List Nat) (tg : Tg) (ifs : List Mn) (key elt : Sh) : Mn := match ifs with
  | [] => .of (eDc it own tg (eConst (.bl true)) key elt)
  | [c] => .of (eDc it own tg c.v key elt)
  | _ => .bad
def trLc (it : It) (own : List Nat) (tg : Tg) (ifs : List Mn) (elt : Sh) : Mn := match ifs with
  | [] => .of (eLc it own tg (eConst (.bl true)) elt)
  | [c] => .of (eLc it own tg c.v elt)
  | _ => .bad
variable (cf : CF)
mutual
def trX (tc : TC) : Expr → Mn
  | .Constant c _ _ => .of (trC c)
  | .Name x _ => if tc.N.contains x && isVis tc.sc x then ⟨eVar (tc.N.idxOf x), iVal (eVar (tc.N.idxOf x)), if isLoc tc x then tName (tc.N.idxOf x) else noTg, none⟩
    else .of (if isGl tc.sc x then (match tc.con.lookup x with
      | some d => eConst d
      | none => eBad) else eBad)
  | .BoolOp .And vs _ => .of (foldAnd (trXs tc vs))
  | .BoolOp .Or vs _ => .of (foldOr (trXs tc vs))
  | .BinOp a op b _ => .of (eBin op (trX tc a).v (trX tc b).v)
  | .UnaryOp op a _ => .of (eUn op (trX tc a).v)
  | .IfExp c a b _ => .of (eIf (trX tc c).v (trX tc a).v (trX tc b).v)
  | .Compare l ops rs _ => trCmp ops rs (trX tc l).v (trXs tc rs)
  | .Call (.Name x _) es ks _ => if isGl tc.sc x && noStar es then ⟨trCall cf tc x (trXs tc es) es ks (trK tc ks), callIt tc x (trCall cf tc x (trXs tc es) es ks (trK tc ks)) (trXs tc es) ks, noTg, enOf x (trXs tc es) ks⟩ else .bad
  | .Call (.Attribute o m ap) es ks pos => if ks.isEmpty && (ap.endLine == pos.line) && noStar es && decide (es.length < 30) && baseOk o then (match bmOf m with
      | some b => .of (eBM b (trX tc o).v (vals (trXs tc es)))
      | none => if tc.mns.contains m then .of (eMth cf tc.mt (tc.fld.length + tc.mns.idxOf m) (trX tc o).v (vals (trXs tc es))) else .bad) else .bad
  | .Attribute o f _ => if tc.fld.contains f && baseOk o then ⟨eAttr (tc.fld.idxOf f) (trX tc o).v, iVal (eAttr (tc.fld.idxOf f) (trX tc o).v), tAttr (tc.fld.idxOf f) (trX tc o).v, none⟩ else .bad
  | .Subscript v (.Slice lo hi none _) _ => .of (eSlice (trX tc v).v (trO tc lo) (trO tc hi))
  | .Subscript v (.Slice none none (some st) _) _ => .of (eRev (trX tc v).v (trX tc st).v)
  | .Subscript v i _ => if isSl i then .bad else ⟨eItem (trX tc v).v (trX tc i).v, iVal (eItem (trX tc v).v (trX tc i).v), tItem (trX tc v).v (trX tc i).v, none⟩
  | .Tuple es _ _ => if noStar es && decide (es.length ≤ 1000) then ⟨eTup (vals (trXs tc es)), iVal (eTup (vals (trXs tc es))), tTup ((trXs tc es).map (·.tg)), none⟩ else .bad
  | .List es _ => if noStar es && decide (es.length ≤ 1000) then .of (eLst (vals (trXs tc es))) else .bad
  | .Dict ks vs _ => if decide (ks.length ≤ 15) then (match zipD (trOs tc ks) (vals (trXs tc vs)) with
    | some ps => .of (eDic ps)
    | none => .bad) else .bad
  | .ListComp elt [⟨tg, it, ifs, a⟩] scope _ => if decide (a = 0) && L2.blkC tc.N tc.sc scope (ownP tc.N scope) && !isSetE it && okTg tg it then
      trLc (trX tc it).it ((ownP tc.N scope).map (·.2)) (trX (blkTC tc scope) tg).tg (trXs (blkTC tc scope) ifs) (trX (blkTC tc scope) elt).v else .bad
  | .DictComp k elt [⟨tg, it, ifs, a⟩] scope _ => if decide (a = 0) && L2.blkC tc.N tc.sc scope (ownP tc.N scope) && !isSetE it && okTg tg it then
      trDc (trX tc it).it ((ownP tc.N scope).map (·.2)) (trX (blkTC tc scope) tg).tg (trXs (blkTC tc scope) ifs) (trX (blkTC tc scope) k).v (trX (blkTC tc scope) elt).v else .bad
  | _ => .bad
def trXs (tc : TC) : List Expr → List Mn
  | [] => []
  | e :: r => trX tc e :: trXs tc r
def trK (tc : TC) : List Keyword → List Mn
  | [] => []
  | ⟨_, e, _⟩ :: r => trX tc e :: trK tc r
def trO (tc : TC) : Option Expr → Option Sh
  | none => none
  | some e => some (trX tc e).v
def trOs (tc : TC) : List (Option Expr) → List (Option Sh)
  | [] => []
  | e :: r => trO tc e :: trOs tc r
end
/-! ### statements -/
def isComp : Expr → Bool
  | .ListComp .. => true
  | .SetComp .. => true
  | .DictComp .. => true
  | _ => false
/-- targets of a store of a pair or triple that the compiler turns about: all names, local, apart, on one line -/
def swaps (tc : TC) (ts vs : List Expr) : Option Bool := match ts, vs with
  | [.Name x px, .Name y py], [a, b] => if isLc tc.sc x && isLc tc.sc y && px.line == py.line && tc.N.contains x && tc.N.contains y && decide (x ≠ y) then
      (if [a, b].all (constantsAlone 8) then none else some true) else if isLc tc.sc x && isLc tc.sc y then none else some false
  | [.Name x px, .Name y py, .Name z pz], [a, b, c] => if isLc tc.sc x && isLc tc.sc y && isLc tc.sc z && px.line == py.line && px.line == pz.line && tc.N.contains x && tc.N.contains y && tc.N.contains z && decide (x ≠ y) && decide (x ≠ z) && decide (y ≠ z) then
      (if [a, b, c].all (constantsAlone 8) then none else some true) else if isLc tc.sc x && isLc tc.sc y && isLc tc.sc z then none else some false
  | _, _ => none
/-- a target that is no local name -/
def noLc (tc : TC) : Expr → Bool
  | .Name x _ => !isLc tc.sc x
  | _ => true
/-- does a tuple's store go item by item? -/
def plainStore : Expr → Expr → Bool
  | .Tuple _ _ _, .Tuple _ _ _ => false
  | .List _ _, _ => false
  | _, _ => true
def trAsg (tc : TC) (tg e : Expr) : ShS := match tg, e with
  | .Tuple ts _ _, .Tuple vs _ _ => (match swaps tc ts vs with
    | some true => sAsg (trX cf tc tg).tg (trX cf tc e).v
    | _ => if ts.any (noLc tc) then sAsg (trX cf tc tg).tg (trX cf tc e).v else sBad)
  | .Name x _, .ListComp _ _ _ _ => if isLc tc.sc x && tc.N.contains x then sAsg (trX cf tc tg).tg (trX cf tc e).v else sBad
  | _, _ => if plainStore tg e && !isComp e && !isStar tg then sAsg (trX cf tc tg).tg (trX cf tc e).v else sBad
mutual
def trS (tc : TC) : Stmt → ShS
  | .Pass _ => sPass
  | .Expr (.Constant (.str _) _ _) _ => sPass
  | .Expr e _ => if isComp e then sBad else sExpr (trX cf tc e).v
  | .Return none _ => sRetN
  | .Return (some e) _ => sRet (trX cf tc e).v
  | .Assign [tg] e _ => trAsg cf tc tg e
  | .AugAssign (.Name x _) op e _ => if isLc tc.sc x && tc.N.contains x then (match op with
    | .Add => sAug (tc.N.idxOf x) .Add (trX cf tc e).v
    | .Sub => sAug (tc.N.idxOf x) .Sub (trX cf tc e).v
    | _ => sBad) else sBad
  | .If c a b _ => sIf (trX cf tc c).v (trSs tc a) (trSs tc b)
  | .While c b [] _ => sWhile (trX cf tc c).v (trSs tc b)
  | .For tg it b [] _ => if !isSetE it && okTg tg it then sFor (trX cf tc it).it (trX cf tc tg).tg (trSs tc b) else sBad
  | .Break _ => fun σ h => .bk σ h
  | .Continue _ => fun σ h => .ct σ h
  | _ => sBad
def trSs (tc : TC) : List Stmt → ShS
  | [] => sPass
  | s :: r => sSeq (trS tc s) (trSs tc r)
end
end Ev

set_option maxRecDepth 100000
set_option maxHeartbeats 1000000
/-! the relation between the evaluator's state and the abstract heap of the hand layer -/
namespace Ev
open PySem PySem.Spec PyProof.Rows L2

/-- the program's data: the written part, the classes' addresses, the attributes' names -/
structure Gd where
  K : PySem.W.Frag
  CT : Nat → Addr
  FN : Nat → Str
  CP : Nat → Prop

/-- a tuple of the program's top -/
def WTup (K : PySem.W.Frag) (a : Addr) (xs : List V) : Prop := ∃ (o : Obj) (its : Array Value) (n : Nat), K.lookup a = some o ∧ o.cls = .type "tuple" ∧ o.data = .seq its n ∧ its.size ≤ sizeLine ∧ Vals xs its.toList
theorem tup_sq {K : PySem.W.Frag} {H : Hp} {a : Addr} {xs : List V} (h : H a = some (.tup xs)) : SqT K H a xs := .inl (.inl h)
theorem WTup.sq {K : PySem.W.Frag} {H : Hp} {a : Addr} {xs : List V} (h : WTup K a xs) : SqT K H a xs := .inr h

mutual
inductive VR (G : Gd) (pn : List (Addr × Obj)) (α : List Addr) (H : Hp) : D → V → Prop
  | non : VR G pn α H .non .non
  | bl (b : Bool) : VR G pn α H (.bl b) (.bl b)
  | int (i : Int) : VR G pn α H (.int i) (.int i)
  | str (s : Str) : s.length ≤ lim → VR G pn α H (.str s) (.str s)
  | ref {i : Nat} {a : Addr} : α[i]? = some a → VR G pn α H (.ref i) (.ref a)
  | tup {l : List D} {a : Addr} {vs : List V} : H a = some (.tup vs) → VRs G pn α H l vs → VR G pn α H (.tup l) (.ref a)
  | tupw {l : List D} {a : Addr} {vs : List V} : WTup G.K a vs → VRs G pn α H l vs → VR G pn α H (.tupw l) (.ref a)
  | xn {c : Nat} {fs : List (Nat × D)} {a : Addr} {oe : Obj} {d : Addr} {vs : List (Str × V)} : (a, oe) ∈ pn → oe.cls = .ref (G.CT c) → oe.dict = some d → H d = some (.xd vs) → FRs G pn α H fs vs → VR G pn α H (.xn c fs) (.ref a)
  | xn0 {c : Nat} {a : Addr} {oe : Obj} : (a, oe) ∈ pn → oe.cls = .ref (G.CT c) → VR G pn α H (.xn c []) (.ref a)
inductive VRs (G : Gd) (pn : List (Addr × Obj)) (α : List Addr) (H : Hp) : List D → List V → Prop
  | nil : VRs G pn α H [] []
  | cons {d : D} {v : V} {ds : List D} {vs : List V} : VR G pn α H d v → VRs G pn α H ds vs → VRs G pn α H (d :: ds) (v :: vs)
inductive FRs (G : Gd) (pn : List (Addr × Obj)) (α : List Addr) (H : Hp) : List (Nat × D) → List (Str × V) → Prop
  | nil : FRs G pn α H [] []
  | cons {i : Nat} {d : D} {v : V} {ds : List (Nat × D)} {vs : List (Str × V)} : VR G pn α H d v → FRs G pn α H ds vs → FRs G pn α H ((i, d) :: ds) ((G.FN i, v) :: vs)
end

/-- how the two states move on -/
structure Mv (α : List Addr) (H : Hp) (α' : List Addr) (H' : Hp) : Prop where
  pre : α <+: α'
  keep : ∀ a o, H a = some o → a ∉ α → H' a = some o
  new : ∀ a, a ∈ α' → a ∉ α → H a = none
theorem Mv.refl (α : List Addr) (H : Hp) : Mv α H α H := ⟨List.prefix_refl _, fun _ _ h _ => h, fun _ h n => absurd h n⟩
theorem Mv.trans {α α1 α2 : List Addr} {H H1 H2 : Hp} (a : Mv α H α1 H1) (b : Mv α1 H1 α2 H2) : Mv α H α2 H2 := by
  refine ⟨a.pre.trans b.pre, fun x o h n => ?_, fun x h n => ?_⟩
  · have h1 := a.keep x o h n
    refine b.keep x o h1 fun hm => ?_
    rw [a.new x hm n] at h; cases h
  · by_cases h1 : x ∈ α1
    · exact a.new x h1 n
    · cases e : H x with
      | none => rfl
      | some o =>
        have := b.new x h h1
        rw [a.keep x o e n] at this; cases this
/-- tuples and exceptions' dicts stay -/
structure Fix (H H' : Hp) : Prop where
  tup : ∀ a xs, H a = some (.tup xs) → H' a = some (.tup xs)
  xd : ∀ a xs, H a = some (.xd xs) → H' a = some (.xd xs)
theorem Fix.refl (H : Hp) : Fix H H := ⟨fun _ _ h => h, fun _ _ h => h⟩
theorem Fix.trans {H H1 H2 : Hp} (a : Fix H H1) (b : Fix H1 H2) : Fix H H2 := ⟨fun x y h => b.tup x y (a.tup x y h), fun x y h => b.xd x y (a.xd x y h)⟩
theorem pre_get {α α' : List Addr} (p : α <+: α') {i : Nat} {a : Addr} (h : α[i]? = some a) : α'[i]? = some a := by
  obtain ⟨r, rfl⟩ := p
  rw [List.getElem?_append_left (List.getElem?_eq_some_iff.mp h).1]
  exact h
mutual
theorem VR.mono {G : Gd} {pn : List (Addr × Obj)} {α α' : List Addr} {H H' : Hp} (p : α <+: α') (f : Fix H H') : ∀ {d : D} {v : V}, VR G pn α H d v → VR G pn α' H' d v
  | _, _, .non => .non
  | _, _, .bl b => .bl b
  | _, _, .int b => .int b
  | _, _, .str b h => .str b h
  | _, _, .ref h => .ref (pre_get p h)
  | _, _, .tup h r => .tup (f.tup _ _ h) (VRs.mono p f r)
  | _, _, .tupw h r => .tupw h (VRs.mono p f r)
  | _, _, .xn h1 h2 h3 h4 r => .xn h1 h2 h3 (f.xd _ _ h4) (FRs.mono p f r)
  | _, _, .xn0 h1 h2 => .xn0 h1 h2
theorem VRs.mono {G : Gd} {pn : List (Addr × Obj)} {α α' : List Addr} {H H' : Hp} (p : α <+: α') (f : Fix H H') : ∀ {d : List D} {v : List V}, VRs G pn α H d v → VRs G pn α' H' d v
  | _, _, .nil => .nil
  | _, _, .cons h r => .cons (VR.mono p f h) (VRs.mono p f r)
theorem FRs.mono {G : Gd} {pn : List (Addr × Obj)} {α α' : List Addr} {H H' : Hp} (p : α <+: α') (f : Fix H H') : ∀ {d : List (Nat × D)} {v : List (Str × V)}, FRs G pn α H d v → FRs G pn α' H' d v
  | _, _, .nil => .nil
  | _, _, .cons h r => .cons (VR.mono p f h) (FRs.mono p f r)
end
mutual
/-- other pins, of which the elder are part -/
theorem VR.pins {G : Gd} {pn pn' : List (Addr × Obj)} {α : List Addr} {H : Hp} (p : ∀ x ∈ pn, x ∈ pn') : ∀ {d : D} {v : V}, VR G pn α H d v → VR G pn' α H d v
  | _, _, .non => .non
  | _, _, .bl b => .bl b
  | _, _, .int b => .int b
  | _, _, .str b h => .str b h
  | _, _, .ref h => .ref h
  | _, _, .tup h r => .tup h (VRs.pins p r)
  | _, _, .tupw h r => .tupw h (VRs.pins p r)
  | _, _, .xn h1 h2 h3 h4 r => .xn (p _ h1) h2 h3 h4 (FRs.pins p r)
  | _, _, .xn0 h1 h2 => .xn0 (p _ h1) h2
theorem VRs.pins {G : Gd} {pn pn' : List (Addr × Obj)} {α : List Addr} {H : Hp} (p : ∀ x ∈ pn, x ∈ pn') : ∀ {d : List D} {v : List V}, VRs G pn α H d v → VRs G pn' α H d v
  | _, _, .nil => .nil
  | _, _, .cons h r => .cons (VR.pins p h) (VRs.pins p r)
theorem FRs.pins {G : Gd} {pn pn' : List (Addr × Obj)} {α : List Addr} {H : Hp} (p : ∀ x ∈ pn, x ∈ pn') : ∀ {d : List (Nat × D)} {v : List (Str × V)}, FRs G pn α H d v → FRs G pn' α H d v
  | _, _, .nil => .nil
  | _, _, .cons h r => .cons (VR.pins p h) (FRs.pins p r)
end
theorem VRs.length {G : Gd} {pn : List (Addr × Obj)} {α : List Addr} {H : Hp} : ∀ {d : List D} {v : List V}, VRs G pn α H d v → d.length = v.length
  | _, _, .nil => rfl
  | _, _, .cons _ r => congrArg (· + 1) (VRs.length r)
theorem VRs.get {G : Gd} {pn : List (Addr × Obj)} {α : List Addr} {H : Hp} : ∀ {d : List D} {v : List V} {i : Nat} {x : D}, VRs G pn α H d v → d[i]? = some x → ∃ y, v[i]? = some y ∧ VR G pn α H x y
  | _, _, i, x, .nil, h => by simp at h
  | _, _, 0, x, .cons r _, h => by simp at h; subst h; exact ⟨_, rfl, r⟩
  | _, _, i + 1, x, .cons _ r, h => by
    obtain ⟨y, h1, h2⟩ := VRs.get (i := i) (x := x) r (by simpa using h)
    exact ⟨y, by simpa using h1, h2⟩
theorem VRs.append {G : Gd} {pn : List (Addr × Obj)} {α : List Addr} {H : Hp} : ∀ {d d' : List D} {v v' : List V}, VRs G pn α H d v → VRs G pn α H d' v' → VRs G pn α H (d ++ d') (v ++ v')
  | _, _, _, _, .nil, s => s
  | _, _, _, _, .cons h r, s => .cons h (VRs.append r s)
theorem VRs.set {G : Gd} {pn : List (Addr × Obj)} {α : List Addr} {H : Hp} {x : D} {y : V} (q : VR G pn α H x y) : ∀ {d : List D} {v : List V} (i : Nat), VRs G pn α H d v → VRs G pn α H (d.set i x) (v.set i y)
  | _, _, _, .nil => .nil
  | _, _, 0, .cons h r => .cons q r
  | _, _, i + 1, .cons h r => .cons h (VRs.set q i r)
theorem VRs.take {G : Gd} {pn : List (Addr × Obj)} {α : List Addr} {H : Hp} : ∀ {d : List D} {v : List V} (n : Nat), VRs G pn α H d v → VRs G pn α H (d.take n) (v.take n)
  | _, _, 0, _ => .nil
  | _, _, n + 1, .nil => .nil
  | _, _, n + 1, .cons h r => .cons h (VRs.take n r)
theorem VRs.drop {G : Gd} {pn : List (Addr × Obj)} {α : List Addr} {H : Hp} : ∀ {d : List D} {v : List V} (n : Nat), VRs G pn α H d v → VRs G pn α H (d.drop n) (v.drop n)
  | _, _, 0, r => r
  | _, _, n + 1, .nil => .nil
  | _, _, n + 1, .cons h r => VRs.drop n r
theorem VRs.reverse {G : Gd} {pn : List (Addr × Obj)} {α : List Addr} {H : Hp} : ∀ {d : List D} {v : List V}, VRs G pn α H d v → VRs G pn α H d.reverse v.reverse
  | _, _, .nil => .nil
  | _, _, .cons h r => by
    rw [List.reverse_cons, List.reverse_cons]
    exact (VRs.reverse r).append (.cons h .nil)
theorem VRs.rep {G : Gd} {pn : List (Addr × Obj)} {α : List Addr} {H : Hp} {d : List D} {v : List V} (r : VRs G pn α H d v) : ∀ k : Nat, VRs G pn α H (List.replicate k d).flatten (List.replicate k v).flatten
  | 0 => .nil
  | k + 1 => by
    rw [List.replicate_succ, List.replicate_succ, List.flatten_cons, List.flatten_cons]
    exact r.append (VRs.rep r k)
theorem VRs.eraseIdx {G : Gd} {pn : List (Addr × Obj)} {α : List Addr} {H : Hp} : ∀ {d : List D} {v : List V} (i : Nat), VRs G pn α H d v → VRs G pn α H (d.eraseIdx i) (v.eraseIdx i)
  | _, _, _, .nil => .nil
  | _, _, 0, .cons h r => r
  | _, _, i + 1, .cons h r => .cons h (VRs.eraseIdx i r)
theorem VRs.dropLast {G : Gd} {pn : List (Addr × Obj)} {α : List Addr} {H : Hp} {d : List D} {v : List V} (r : VRs G pn α H d v) : VRs G pn α H d.dropLast v.dropLast := by
  rw [List.dropLast_eq_take, List.dropLast_eq_take, r.length]
  exact r.take _
theorem VRs.nil_iff {G : Gd} {pn : List (Addr × Obj)} {α : List Addr} {H : Hp} {d : List D} {v : List V} (r : VRs G pn α H d v) : d.isEmpty = v.isEmpty := by cases r <;> rfl

/-! ### dicts' keys -/
/-- a key as the hand layer has it -/
def keyK : D → Option Key
  | .int i => some (.inl i)
  | .str s => some (.inr s)
  | _ => none
def KR (G : Gd) (pn : List (Addr × Obj)) (α : List Addr) (H : Hp) : List (D × D) → List (Key × V) → Prop := Paired fun p q => keyK p.1 = some q.1 ∧ (∀ s, p.1 = .str s → s.length ≤ lim) ∧ VR G pn α H p.2 q.2
def keysK : List D → Option (List Key)
  | [] => some []
  | k :: r => match keyK k, keysK r with
    | some a, some l => some (a :: l)
    | _, _ => none
def TR (G : Gd) (pn : List (Addr × Obj)) (α : List Addr) (H : Hp) : List (D × D) → List (List Key × V) → Prop := Paired fun p q => ∃ l, p.1 = .tup l ∧ keysK l = some q.1 ∧ (∀ s, D.str s ∈ l → s.length ≤ lim) ∧ VR G pn α H p.2 q.2
/-- what a dict's object is -/
inductive DR (G : Gd) (pn : List (Addr × Obj)) (α : List Addr) (H : Hp) : List (D × D) → HO → Prop
  | k {kvs : List (D × D)} {l : List (Key × V)} : KR G pn α H kvs l → DR G pn α H kvs (.dK l)
  | t {kvs : List (D × D)} {l : List (List Key × V)} : TR G pn α H kvs l → DR G pn α H kvs (.dT l)
/-- an object -/
inductive OR (G : Gd) (pn : List (Addr × Obj)) (α : List Addr) (H : Hp) : Ob → Addr → Prop
  | lst {xs : List D} {vs : List V} {a : Addr} : H a = some (.lst vs) → VRs G pn α H xs vs → OR G pn α H (.lst false xs) a
  | lstF {xs : List D} {vs : List V} {a : Addr} {o : Obj} : H a = some (.frz o (.lst vs)) → VRs G pn α H xs vs → OR G pn α H (.lst true xs) a
  | dic {kvs : List (D × D)} {u : HO} {a : Addr} : H a = some u → DR G pn α H kvs u → OR G pn α H (.dic false kvs) a
  | dicF {kvs : List (D × D)} {u : HO} {a : Addr} {o : Obj} : H a = some (.frz o u) → DR G pn α H kvs u → OR G pn α H (.dic true kvs) a
  | ins {c : Nat} {fs : List (Nat × D)} {vs : List (Str × V)} {a dx : Addr} : G.CP c → H a = some (.ins (G.CT c) dx vs) → H dx = some (.own a) → FRs G pn α H fs vs → OR G pn α H (.ins c fs) a
structure HR (G : Gd) (pn : List (Addr × Obj)) (α : List Addr) (h : Hh) (H : Hp) : Prop where
  len : α.length = h.length
  nd : α.Nodup
  ob : ∀ (i : Nat) (a : Addr) (o : Ob), α[i]? = some a → h[i]? = some o → OR G pn α H o a
section
variable {G : Gd} {pn : List (Addr × Obj)} {α α' : List Addr} {h h' : Hh} {H H' : Hp}
theorem KR.mono (p : α <+: α') (f : Fix H H') {a b} (r : KR G pn α H a b) : KR G pn α' H' a b := Paired.mapP r fun _ _ z => ⟨z.1, z.2.1, z.2.2.mono p f⟩
theorem TR.mono (p : α <+: α') (f : Fix H H') {a b} (r : TR G pn α H a b) : TR G pn α' H' a b := Paired.mapP r fun _ _ ⟨l, z1, z2, z3, z4⟩ => ⟨l, z1, z2, z3, z4.mono p f⟩
theorem DR.mono (p : α <+: α') (f : Fix H H') {a b} (r : DR G pn α H a b) : DR G pn α' H' a b := by
  cases r with
  | k r => exact .k (r.mono p f)
  | t r => exact .t (r.mono p f)
theorem DR.notup {a : List (D × D)} {u : HO} (r : DR G pn α H a u) : (∀ xs, u ≠ .tup xs) ∧ (∀ xs, u ≠ .xd xs) ∧ (∀ x, u ≠ .own x) := by
  cases r <;> exact ⟨fun _ z => (by cases z), fun _ z => (by cases z), fun _ z => (by cases z)⟩
/-- an object of ours is no tuple, no exception's dict, no instance's own dict -/
theorem OR.no {o : Ob} {a : Addr} (r : OR G pn α H o a) : ∃ u, H a = some u ∧ (∀ xs, u ≠ .tup xs) ∧ (∀ xs, u ≠ .xd xs) ∧ (∀ x, u ≠ .own x) := by
  cases r with
  | lst e _ => exact ⟨_, e, fun _ z => (by cases z), fun _ z => (by cases z), fun _ z => (by cases z)⟩
  | lstF e _ => exact ⟨_, e, fun _ z => (by cases z), fun _ z => (by cases z), fun _ z => (by cases z)⟩
  | dic e d => exact ⟨_, e, d.notup⟩
  | dicF e _ => exact ⟨_, e, fun _ z => (by cases z), fun _ z => (by cases z), fun _ z => (by cases z)⟩
  | ins _ e _ _ => exact ⟨_, e, fun _ z => (by cases z), fun _ z => (by cases z), fun _ z => (by cases z)⟩
theorem HR.at_ (r : HR G pn α h H) {a : Addr} (ha : a ∈ α) : ∃ (i : Nat) (o : Ob), α[i]? = some a ∧ h[i]? = some o ∧ OR G pn α H o a := by
  obtain ⟨i, hi, e⟩ := List.mem_iff_getElem.mp ha
  have e1 : α[i]? = some a := by rw [List.getElem?_eq_getElem hi, e]
  have hi' : i < h.length := by rw [← r.len]; exact hi
  exact ⟨i, h[i], e1, List.getElem?_eq_getElem hi', r.ob i a _ e1 (List.getElem?_eq_getElem hi')⟩
theorem HR.fix (r : HR G pn α h H) (m : Mv α H α' H') : Fix H H' := by
  refine ⟨fun a xs e => m.keep a _ e fun ha => ?_, fun a xs e => m.keep a _ e fun ha => ?_⟩
  · obtain ⟨_, _, _, _, o⟩ := r.at_ ha
    obtain ⟨u, e', n, _⟩ := o.no
    rw [e] at e'; cases e'; exact n _ rfl
  · obtain ⟨_, _, _, _, o⟩ := r.at_ ha
    obtain ⟨u, e', _, n, _⟩ := o.no
    rw [e] at e'; cases e'; exact n _ rfl
theorem HR.get (r : HR G pn α h H) {i : Nat} {a : Addr} {o : Ob} (e : α[i]? = some a) (eo : h[i]? = some o) : OR G pn α H o a := r.ob i a o e eo
theorem VR.str_len {s : Str} {v : V} (r : VR G pn α H (.str s) v) : s.length ≤ lim := by cases r; assumption
end

/-- the slots -/
structure SR (G : Gd) (pn : List (Addr × Obj)) (α : List Addr) (H : Hp) (env : Env) (σ : L2.St) : Prop where
  len : env.length = σ.length
  at_ : ∀ (i : Nat) (d : D), env[i]? = some (some d) → ∃ v, σ[i]? = some (some v) ∧ VR G pn α H d v
theorem SR.mono {G : Gd} {pn : List (Addr × Obj)} {α α' : List Addr} {H H' : Hp} {env : Env} {σ : L2.St} (r : SR G pn α H env σ) (p : α <+: α') (f : Fix H H') : SR G pn α' H' env σ :=
  ⟨r.len, fun i d e => let ⟨v, e1, q⟩ := r.at_ i d e; ⟨v, e1, q.mono p f⟩⟩
theorem SR.set {G : Gd} {pn : List (Addr × Obj)} {α : List Addr} {H : Hp} {env : Env} {σ : L2.St} (r : SR G pn α H env σ) (i : Nat) {d : D} {v : V} (q : VR G pn α H d v) : SR G pn α H (env.set i (some d)) (σ.set i (some v)) := by
  refine ⟨by simp [r.len], fun j x e => ?_⟩
  by_cases hj : i = j
  · subst hj
    by_cases hl : i < env.length
    · rw [List.getElem?_set_self hl] at e
      cases e
      exact ⟨v, List.getElem?_set_self (by rw [← r.len]; exact hl), q⟩
    · rw [List.getElem?_eq_none (by simpa using hl)] at e; cases e
  · rw [List.getElem?_set_ne hj] at e
    obtain ⟨w, e1, q1⟩ := r.at_ j x e
    exact ⟨w, by rw [List.getElem?_set_ne hj]; exact e1, q1⟩
/-- an exception that leaves: its class and its own dict -/
inductive XR (G : Gd) (pn : List (Addr × Obj)) (α : List Addr) (H : Hp) : D → Value → Option Addr → Prop
  | mk {c : Nat} {fs : List (Nat × D)} {d : Addr} {vs : List (Str × V)} : H d = some (.xd vs) → FRs G pn α H fs vs → XR G pn α H (.xn c fs) (.ref (G.CT c)) (some d)
  | mk0 {c : Nat} : XR G pn α H (.xn c []) (.ref (G.CT c)) none
/-- what is wanted behind an answer -/
def Post (G : Gd) (pn : List (Addr × Obj)) {A : Type} (r : Res A) (α : List Addr) (H : Hp) (Q : A → List Addr → Hp → Prop) (E : Value → Option Addr → Hp → Prop) : Prop := match r with
  | .ok a h' => ∀ α' H', Mv α H α' H' → HR G pn α' h' H' → Q a α' H'
  | .exc x h' => ∀ α' H' cls od, Mv α H α' H' → HR G pn α' h' H' → XR G pn α' H' x cls od → E cls od H'
  | .bad => False
theorem Post.move {G : Gd} {pn : List (Addr × Obj)} {A : Type} {r : Res A} {α α1 : List Addr} {H H1 : Hp} {Q : A → List Addr → Hp → Prop} {E : Value → Option Addr → Hp → Prop} (p : Post G pn r α H Q E) (m : Mv α H α1 H1) : Post G pn r α1 H1 Q E := by
  cases r with
  | ok a h' => exact fun α' H' m' hr => p α' H' (m.trans m') hr
  | exc x h' => exact fun α' H' c d m' hr xr => p α' H' c d (m.trans m') hr xr
  | bad => exact p
end Ev

set_option maxRecDepth 100000
set_option maxHeartbeats 1000000
/-! soundness: the heap's moves, the rules' shape, operators -/
namespace Ev
open PySem PySem.Spec PyProof.Rows L2
section
variable {G : Gd} {pn : List (Addr × Obj)} {α α' : List Addr} {h h' : Hh} {H H' : Hp}

theorem OR.keep {o : Ob} {a : Addr} (r : OR G pn α H o a) (p : α <+: α') (f : Fix H H') (k : ∀ b u, (b = a ∨ H b = some (.own a)) → H b = some u → H' b = some u) : OR G pn α' H' o a := by
  cases r with
  | lst e r => exact .lst (k _ _ (.inl rfl) e) (r.mono p f)
  | lstF e r => exact .lstF (k _ _ (.inl rfl) e) (r.mono p f)
  | dic e r => exact .dic (k _ _ (.inl rfl) e) (r.mono p f)
  | dicF e r => exact .dicF (k _ _ (.inl rfl) e) (r.mono p f)
  | ins cp e e2 r => exact .ins cp (k _ _ (.inl rfl) e) (k _ _ (.inr e2) e2) (r.mono p f)
theorem HR.mem (r : HR G pn α h H) {a : Addr} (ha : a ∈ α) : ∃ u, H a = some u := by
  obtain ⟨_, _, _, _, o⟩ := r.at_ ha
  obtain ⟨u, e, _⟩ := o.no
  exact ⟨u, e⟩
theorem HR.free (r : HR G pn α h H) {a : Addr} (ha : H a = none) : a ∉ α := fun hm => by
  obtain ⟨u, e⟩ := r.mem hm
  rw [ha] at e; cases e
theorem fix_upd_new {p : Addr} {u : HO} (hp : H p = none) : Fix H (upd H p u) := ⟨fun a xs e => by rw [upd_ne (ne_of_none e hp)]; exact e, fun a xs e => by rw [upd_ne (ne_of_none e hp)]; exact e⟩
/-- a new object of ours -/
theorem HR.new_ (r : HR G pn α h H) {p : Addr} (hp : H p = none) {o : Ob} {u : HO} (ob : OR G pn (α ++ [p]) (upd H p u) o p) : Mv α H (α ++ [p]) (upd H p u) ∧ HR G pn (α ++ [p]) (h ++ [o]) (upd H p u) := by
  have np := r.free hp
  refine ⟨⟨List.prefix_append _ _, fun a o e _ => by rw [upd_ne (ne_of_none e hp)]; exact e, fun a ha n => ?_⟩, ⟨by simp [r.len], ?_, fun i a o' ea eo => ?_⟩⟩
  · rcases List.mem_append.mp ha with z | z
    · exact absurd z n
    · rw [List.mem_singleton.mp z]; exact hp
  · refine List.nodup_append.mpr ⟨r.nd, by simp, fun a ha b hb e => ?_⟩
    rw [List.mem_singleton.mp hb] at e
    exact np (e ▸ ha)
  · by_cases hi : i < α.length
    · rw [List.getElem?_append_left hi] at ea
      rw [List.getElem?_append_left (by rw [← r.len]; exact hi)] at eo
      exact (r.ob i a o' ea eo).keep (List.prefix_append _ _) (fix_upd_new hp) fun b w _ e => by rw [upd_ne (ne_of_none e hp)]; exact e
    · have hl : i < (α ++ [p]).length := (List.getElem?_eq_some_iff.mp ea).1
      have hi' : i = α.length := by simp at hl; omega
      subst hi'
      simp at ea
      rw [r.len] at eo
      simp at eo
      subst ea eo
      exact ob
/-- an object of ours is changed -/
theorem HR.wr (r : HR G pn α h H) {i : Nat} {a : Addr} {o o' : Ob} (ea : α[i]? = some a) (eo : h[i]? = some o) {u : HO} (ob : OR G pn α (upd H a u) o' a) : Mv α H α (upd H a u) ∧ Fix H (upd H a u) ∧ HR G pn α (h.set i o') (upd H a u) := by
  have ha : a ∈ α := List.mem_of_getElem? ea
  obtain ⟨u0, e0, n1, n2, n3⟩ := (r.ob i a o ea eo).no
  have fx : Fix H (upd H a u) := ⟨fun b xs e => by rw [upd_ne (fun z => by rw [z, e0] at e; cases e; exact n1 _ rfl)]; exact e, fun b xs e => by rw [upd_ne (fun z => by rw [z, e0] at e; cases e; exact n2 _ rfl)]; exact e⟩
  refine ⟨⟨List.prefix_refl _, fun b w e n => by rw [upd_ne (fun z => n (by rw [z]; exact ha))]; exact e, fun b hb n => absurd hb n⟩, fx, ⟨by simp [r.len], r.nd, fun j b w eb ew => ?_⟩⟩
  by_cases hj : i = j
  · subst hj
    rw [ea] at eb; cases eb
    rw [List.getElem?_set_self (List.getElem?_eq_some_iff.mp eo).1] at ew
    cases ew
    exact ob
  · rw [List.getElem?_set_ne hj] at ew
    have hb : b ≠ a := fun z => hj (nodup_ix' r.nd ea (by rw [← z]; exact eb))
    refine (r.ob j b w eb ew).keep (List.prefix_refl _) fx fun c x hc e => ?_
    rcases hc with rfl | hc
    · rw [upd_ne hb]; exact e
    · rw [upd_ne (fun z => by rw [z, e0] at hc; cases hc; exact n3 _ rfl)]; exact e
where
  nodup_ix' {N : List Addr} (hN : N.Nodup) {i j : Nat} {x : Addr} (a : N[i]? = some x) (b : N[j]? = some x) : i = j := by
    obtain ⟨h1, e1⟩ := List.getElem?_eq_some_iff.mp a
    obtain ⟨h2, e2⟩ := List.getElem?_eq_some_iff.mp b
    exact (List.getElem_inj hN).mp (e1.trans e2.symm)
/-- an untracked object more -/
theorem HR.more (r : HR G pn α h H) {p : Addr} (hp : H p = none) {u : HO} : Mv α H α (upd H p u) ∧ HR G pn α h (upd H p u) :=
  ⟨⟨List.prefix_refl _, fun a o e _ => by rw [upd_ne (ne_of_none e hp)]; exact e, fun a ha n => absurd ha n⟩,
    ⟨r.len, r.nd, fun i a o ea eo => (r.ob i a o ea eo).keep (List.prefix_refl _) (fix_upd_new hp) fun b w _ e => by rw [upd_ne (ne_of_none e hp)]; exact e⟩⟩
end

/-! ### the rules' shape -/
abbrev QV (G : Gd) (pn : List (Addr × Obj)) (Q : VK) : D → List Addr → Hp → Prop := fun d α' H' => ∀ v, VR G pn α' H' d v → Q v H'
abbrev QVs (G : Gd) (pn : List (Addr × Obj)) (Q : List V → Hp → Prop) : List D → List Addr → Hp → Prop := fun d α' H' => ∀ v, VRs G pn α' H' d v → Q v H'
abbrev EW (W : WX) (σ : L2.St) : Value → Option Addr → Hp → Prop := fun c d H' => W c d σ H'
def SE (G : Gd) (pn : List (Addr × Obj)) (X : Cx) (W : WX) (e : Expr) (f : Sh) : Prop :=
  ∀ (pins : List (Addr × Obj)) (s : Shared) (σ : L2.St) (H : Hp) (α : List Addr) (env : Env) (h : Hh) (Q : VK), Inv X pins σ H s → SR G pn α H env σ → HR G pn α h H →
    Post G pn (f env h) α H (QV G pn Q) (EW W σ) → wpAny (model X.prog X.w) X.A (eval e X.env) (EP X pins σ Q) X.xe s
/-- as a test -/
def ST (G : Gd) (pn : List (Addr × Obj)) (X : Cx) (W : WX) (e : Expr) (f : Sh) : Prop :=
  ∀ (whole : Sem Value) (pins : List (Addr × Obj)) (s : Shared) (σ : L2.St) (H : Hp) (α : List Addr) (env : Env) (h : Hh) (Q : Bool → Hp → Prop), whole = eval e X.env → Inv X pins σ H s → SR G pn α H env σ → HR G pn α h H →
    Post G pn ((f env h).bind fun x h1 => match truth h1 x with | some b => .ok b h1 | none => .bad) α H (fun b _ H' => Q b H') (EW W σ) → wpAny (model X.prog X.w) X.A (isTrue e X.env whole) (TP X pins σ Q) X.xe s
def SA (G : Gd) (pn : List (Addr × Obj)) (X : Cx) (W : WX) (es : List Expr) (fs : List Sh) : Prop :=
  ∀ (pos : Pos) (pins : List (Addr × Obj)) (s : Shared) (σ : L2.St) (H : Hp) (α : List Addr) (env : Env) (h : Hh) (Q : List V → Hp → Prop), Inv X pins σ H s → SR G pn α H env σ → HR G pn α h H →
    Post G pn (eArgs fs env h) α H (QVs G pn Q) (EW W σ) → wpAny (model X.prog X.w) X.A (spliced (backTo pos (starEach es X.env))) (AP X pins σ Q) X.xe s
section
variable {G : Gd} {pn : List (Addr × Obj)} {X : Cx} {W : WX} {e : Expr} {f : Sh} {pins : List (Addr × Obj)} {s : Shared} {σ : L2.St} {H : Hp} {α : List Addr} {env : Env} {h : Hh}
theorem Post.ok0 {A : Type} {a : A} {Q : A → List Addr → Hp → Prop} {E : Value → Option Addr → Hp → Prop} (p : Post G pn (.ok a h) α H Q E) (r : HR G pn α h H) : Q a α H := p α H (Mv.refl _ _) r
/-- one part is run, the rest is to follow -/
theorem SE.go {A : Type} {g : D → Hh → Res A} {QA : A → List Addr → Hp → Prop} {R : Value → Shared → Prop} (he : SE G pn X W e f) (I : Inv X pins σ H s) (sr : SR G pn α H env σ) (hr : HR G pn α h H)
    (p : Post G pn ((f env h).bind g) α H QA (EW W σ))
    (k : ∀ (d : D) (h1 : Hh) (α1 : List Addr) (H1 : Hp) (v : V) (u : Value) (s1 : Shared), Mv α H α1 H1 → HR G pn α1 h1 H1 → VR G pn α1 H1 d v → RelV v u → Inv X pins σ H1 s1 → SR G pn α1 H1 env σ → Fix H H1 → Post G pn (g d h1) α1 H1 QA (EW W σ) → R u s1) :
    wpAny (model X.prog X.w) X.A (eval e X.env) R X.xe s := by
  cases hf : f env h with
  | ok d h1 =>
    rw [hf] at p
    refine thn (he pins s σ H α env h (fun v H1 => ∃ α1, Mv α H α1 H1 ∧ HR G pn α1 h1 H1 ∧ VR G pn α1 H1 d v) I sr hr ?_) ?_
    · rw [hf]
      exact fun α1 H1 m r v q => ⟨α1, m, r, q⟩
    · rintro u s1 ⟨v, H1, I1, rv, α1, m, r, q⟩
      exact k d h1 α1 H1 v u s1 m r q rv I1 (sr.mono m.pre (hr.fix m)) (hr.fix m) (Post.move p m)
  | exc x h1 =>
    rw [hf] at p
    refine thn (he pins s σ H α env h (fun _ _ => False) I sr hr ?_) ?_
    · rw [hf]
      exact p
    · rintro u s1 ⟨v, H1, I1, rv, z⟩
      exact z.elim
  | bad =>
    rw [hf] at p
    exact p.elim
theorem SA.go {es : List Expr} {fs : List Sh} {pos : Pos} {A : Type} {g : List D → Hh → Res A} {QA : A → List Addr → Hp → Prop} {R : List Value → Shared → Prop} (he : SA G pn X W es fs) (I : Inv X pins σ H s) (sr : SR G pn α H env σ) (hr : HR G pn α h H)
    (p : Post G pn ((eArgs fs env h).bind g) α H QA (EW W σ))
    (k : ∀ (d : List D) (h1 : Hh) (α1 : List Addr) (H1 : Hp) (v : List V) (u : List Value) (s1 : Shared), Mv α H α1 H1 → HR G pn α1 h1 H1 → VRs G pn α1 H1 d v → Vals v u → Inv X pins σ H1 s1 → SR G pn α1 H1 env σ → Fix H H1 → Post G pn (g d h1) α1 H1 QA (EW W σ) → R u s1) :
    wpAny (model X.prog X.w) X.A (spliced (backTo pos (starEach es X.env))) R X.xe s := by
  cases hf : eArgs fs env h with
  | ok d h1 =>
    rw [hf] at p
    refine thn (he pos pins s σ H α env h (fun v H1 => ∃ α1, Mv α H α1 H1 ∧ HR G pn α1 h1 H1 ∧ VRs G pn α1 H1 d v) I sr hr ?_) ?_
    · rw [hf]
      exact fun α1 H1 m r v q => ⟨α1, m, r, q⟩
    · rintro u s1 ⟨v, H1, I1, rv, α1, m, r, q⟩
      exact k d h1 α1 H1 v u s1 m r q rv I1 (sr.mono m.pre (hr.fix m)) (hr.fix m) (Post.move p m)
  | exc x h1 =>
    rw [hf] at p
    refine thn (he pos pins s σ H α env h (fun _ _ => False) I sr hr ?_) ?_
    · rw [hf]
      exact p
    · rintro u s1 ⟨v, H1, I1, rv, z⟩
      exact z.elim
  | bad =>
    rw [hf] at p
    exact p.elim
theorem SE.bad : SE G pn X W e eBad := fun _ _ _ _ _ _ _ _ _ _ _ p => p.elim
theorem SA.nil : SA G pn X W [] [] := fun pos pins s σ H α env h Q I sr hr p => Calls.spliced_nil ⟨[], H, I, .nil, p.ok0 hr [] .nil⟩
theorem SA.cons {es : List Expr} {fs : List Sh} (he : SE G pn X W e f) (hr : SA G pn X W es fs) (hs : starEach (e :: es) X.env = (false, eval e X.env) :: starEach es X.env) : SA G pn X W (e :: es) (f :: fs) := by
  intro pos pins s σ H α env h Q I sr r p
  rw [hs]
  show wpAny _ _ (spliced ((false, eval e X.env) :: backTo pos (starEach es X.env))) _ _ s
  refine Calls.spliced_cons (he.go I sr r p fun d h1 α1 H1 v u s1 m1 r1 q1 rv1 I1 sr1 f1 p1 => ?_)
  refine hr.go I1 sr1 r1 p1 fun ds h2 α2 H2 vs us s2 m2 r2 q2 rv2 I2 sr2 f2 p2 => ?_
  exact ⟨v :: vs, H2, I2, .cons rv1 rv2, p2.ok0 r2 _ (.cons (q1.mono m2.pre f2) q2)⟩
theorem SA.consBad {es : List Expr} {fs : List Sh} : SA G pn X W (e :: es) (eBad :: fs) := fun _ _ _ _ _ _ _ _ _ _ _ _ p => p.elim

/-! ### simple ones -/
theorem se_const {c : Const} {j : Nat} {pos : Pos} : SE G pn X W (.Constant c j pos) (trC c) := by
  intro pins s σ H α env h Q I sr hr p
  cases c with
  | none => exact pe_non.run pins s σ H Q I (p.ok0 hr _ .non)
  | bool b => exact pe_bl.run pins s σ H Q I (p.ok0 hr _ (.bl b))
  | int i => exact pe_int.run pins s σ H Q I (p.ok0 hr _ (.int i))
  | str x =>
    have p : Post G pn ((if x.length ≤ lim then eConst (.str x) else eBad) env h) α H (QV G pn Q) (EW W σ) := p
    by_cases hx : x.length ≤ lim
    · rw [if_pos hx] at p
      exact pe_str.run pins s σ H Q I (p.ok0 hr _ (.str x hx))
    · rw [if_neg hx] at p
      exact p.elim
  | _ => exact p.elim
theorem se_var {i : Nat} {x : Str} {pos : Pos} (hN : X.N[i]? = some x) (hv : Vis X.env.scope x) (hd : (x == ("__debug__" : Str)) = false) (hcd : (x == ("__classdict__" : Str)) = false) : SE G pn X W (.Name x pos) (eVar i) := by
  intro pins s σ H α env h Q I sr hr p
  unfold eVar at p
  cases e : env[i]? with
  | none => rw [e] at p; exact p.elim
  | some o =>
    cases o with
    | none => rw [e] at p; exact p.elim
    | some d =>
      rw [e] at p
      obtain ⟨v, ev, q⟩ := sr.at_ i d e
      exact (pe_var hN hv hd hcd).run pins s σ H Q I ⟨v, ev, p.ok0 hr v q⟩
theorem se_glob {x : Str} {d : D} {v : V} {u : Value} {pos : Pos} (hg : Gl X x) (hm : X.mg x = some u) (r : RelV v u) (q : ∀ α H, VR G pn α H d v) (hd : (x == ("__debug__" : Str)) = false) : SE G pn X W (.Name x pos) (eConst d) := by
  intro pins s σ H α env h Q I sr hr p
  exact (pe_glob hg hm r hd).run pins s σ H Q I (p.ok0 hr v (q α H))

/-! ### operators by values -/
theorem VR.bl_eq {b : Bool} {v : V} (r : VR G pn α H (.bl b) v) : v = .bl b := by cases r; rfl
theorem VR.int_eq {b : Int} {v : V} (r : VR G pn α H (.int b) v) : v = .int b := by cases r; rfl
theorem VR.str_eq {b : Str} {v : V} (r : VR G pn α H (.str b) v) : v = .str b := by cases r; rfl
theorem VR.non_eq {v : V} (r : VR G pn α H .non v) : v = .non := by cases r; rfl
theorem VR.ref_eq {b : Nat} {v : V} (r : VR G pn α H (.ref b) v) : ∃ a, v = .ref a ∧ α[b]? = some a := by cases r; exact ⟨_, rfl, by assumption⟩
theorem VR.tup_eq {l : List D} {v : V} (r : VR G pn α H (.tup l) v) : ∃ a vs, v = .ref a ∧ H a = some (.tup vs) ∧ VRs G pn α H l vs := by cases r; exact ⟨_, _, rfl, by assumption, by assumption⟩
theorem VR.tupw_eq {l : List D} {v : V} (r : VR G pn α H (.tupw l) v) : ∃ a vs, v = .ref a ∧ WTup G.K a vs ∧ VRs G pn α H l vs := by cases r; exact ⟨_, _, rfl, by assumption, by assumption⟩
theorem HR.lst (hr : HR G pn α h H) {b : Nat} {a : Addr} {xs : List D} (e : α[b]? = some a) (eo : h[b]? = some (.lst false xs)) : ∃ vs, H a = some (.lst vs) ∧ VRs G pn α H xs vs := by
  cases hr.get e eo with
  | lst e r => exact ⟨_, e, r⟩
theorem HR.lstR (hr : HR G pn α h H) {b : Nat} {a : Addr} {fz : Bool} {xs : List D} (e : α[b]? = some a) (eo : h[b]? = some (.lst fz xs)) : ∃ vs, Rd H a (.lst vs) ∧ VRs G pn α H xs vs := by
  cases hr.get e eo with
  | lst e r => exact ⟨_, .inl e, r⟩
  | lstF e r => exact ⟨_, .inr ⟨_, e⟩, r⟩
theorem lim_line {n : Nat} (h : n ≤ lim) : n ≤ sizeLine := by rw [sizeLine_eq]; show n ≤ 16777216; have : lim = 1000000 := rfl; omega
/-- a new list -/
theorem push_lst (hr : HR G pn α h H) {xs : List D} {vs : List V} (q : VRs G pn α H xs vs) {p : Addr} (hp : H p = none) : Mv α H (α ++ [p]) (upd H p (.lst vs)) ∧ HR G pn (α ++ [p]) (h ++ [.lst false xs]) (upd H p (.lst vs)) ∧ VR G pn (α ++ [p]) (upd H p (.lst vs)) (.ref h.length) (.ref p) := by
  obtain ⟨m, r⟩ := hr.new_ (o := .lst false xs) (u := .lst vs) hp (.lst upd_same (q.mono (List.prefix_append _ _) (fix_upd_new hp)))
  refine ⟨m, r, .ref ?_⟩
  rw [← hr.len]
  simp
theorem Post.newL {xs : List D} {Q : VK} {E : Value → Option Addr → Hp → Prop} (p : Post G pn (newL xs h) α H (QV G pn Q) E) (hr : HR G pn α h H) {vs : List V} (q : VRs G pn α H xs vs) {a : Addr} (ha : H a = none) : Q (.ref a) (upd H a (.lst vs)) := by
  obtain ⟨m, r, v⟩ := push_lst hr q ha
  exact p _ _ m r _ v
end
end Ev

set_option maxRecDepth 100000
set_option maxHeartbeats 1000000
/-! soundness: operators, comparisons, truth by values -/
namespace Ev
open PySem PySem.Spec PyProof.Rows L2
section
variable {G : Gd} {pn : List (Addr × Obj)} {X : Cx} {pins : List (Addr × Obj)} {s : Shared} {σ : L2.St} {H : Hp} {α : List Addr} {h : Hh} {Q : VK} {E : Value → Option Addr → Hp → Prop}

theorem push_tup (hr : HR G pn α h H) {xs : List D} {vs : List V} (q : VRs G pn α H xs vs) {p : Addr} (hp : H p = none) : Mv α H α (upd H p (.tup vs)) ∧ HR G pn α h (upd H p (.tup vs)) ∧ VR G pn α (upd H p (.tup vs)) (.tup xs) (.ref p) := by
  obtain ⟨m, r⟩ := hr.more hp (u := .tup vs)
  exact ⟨m, r, .tup upd_same (q.mono (List.prefix_refl _) (fix_upd_new hp))⟩
theorem Post.newT {xs : List D} (p : Post G pn (.ok (.tup xs) h) α H (QV G pn Q) E) (hr : HR G pn α h H) {vs : List V} (q : VRs G pn α H xs vs) {a : Addr} (ha : H a = none) : Q (.ref a) (upd H a (.tup vs)) := by
  obtain ⟨m, r, v⟩ := push_tup hr q ha
  exact p _ _ m r _ v
theorem pow70 {j : Int} (h0 : 0 < j) (h : j < 10 ^ 70) : j.natAbs.log2 < 9000 := by
  have e : j.natAbs < 2 ^ 250 := by
    have : (10 : Int) ^ 70 < 2 ^ 250 := by decide
    omega
  exact Nat.lt_of_lt_of_le (PySem.Flt.log2_lt_of (by decide) e) (by decide)
theorem binop_ok (gk : G.K = X.K) {op : Operator} {x y : D} {vx vy : V} {ux uy : Value} (I : L2.Inv X pins σ H s) (hr : HR G pn α h H) (qx : VR G pn α H x vx) (qy : VR G pn α H y vy) (rx : RelV vx ux) (ry : RelV vy uy)
    (p : Post G pn (binop op x y h) α H (QV G pn Q) E) : wpAny (model X.prog X.w) X.A (binaryOp op ux uy) (EP X pins σ Q) X.xe s := by
  unfold binop at p
  split at p
  · rename_i i j
    rw [qx.int_eq] at rx; rw [qy.int_eq] at ry
    exact op_add pins s σ H _ _ _ _ Q I rx ry ⟨i, j, rfl, rfl, p.ok0 hr _ (.int _)⟩
  · rename_i a b
    split at p
    · rename_i hl
      rw [qx.str_eq] at rx; rw [qy.str_eq] at ry
      exact op_add_str pins s σ H _ _ _ _ Q I rx ry ⟨a, b, rfl, rfl, lim_line hl, p.ok0 hr _ (.str _ (by show (a.cps ++ b.cps).size ≤ lim; rw [Array.size_append]; exact hl))⟩
    · exact p.elim
  · rename_i a b
    split at p
    · rename_i hl
      obtain ⟨pa, va, rfl, ta, ra⟩ := qx.tup_eq
      obtain ⟨pb, vb, rfl, tb, rb⟩ := qy.tup_eq
      refine op_catA pins s σ H _ _ _ _ Q I rx ry ⟨pa, pb, va, vb, rfl, rfl, tup_sq ta, tup_sq tb, lim_line (by rw [← ra.length, ← rb.length]; exact hl), fun z => ?_, fun z1 z2 => ?_, fun z1 z2 a ha => ?_⟩
      · subst z
        have e : a = [] := by cases ra; rfl
        subst e
        exact p.ok0 hr _ (.tup tb rb)
      · subst z2
        have e : b = [] := by cases rb; rfl
        subst e
        rw [List.append_nil] at p
        exact p.ok0 hr _ (.tup ta ra)
      · exact Post.newT p hr (ra.append rb) ha
    · exact p.elim
  · rename_i a b
    split at p
    · rename_i xs ys e1 e2
      split at p
      · rename_i hl
        obtain ⟨pa, rfl, ea⟩ := qx.ref_eq
        obtain ⟨pb, rfl, eb⟩ := qy.ref_eq
        obtain ⟨va, ha, ra⟩ := hr.lst ea e1
        obtain ⟨vb, hb, rb⟩ := hr.lst eb e2
        exact op_cat pins s σ H _ _ _ _ Q I rx ry ⟨pa, pb, va, vb, rfl, rfl, ha, hb, lim_line (by rw [← ra.length, ← rb.length]; exact hl), fun p' hp => Post.newL p hr (ra.append rb) hp⟩
      · exact p.elim
    · exact p.elim
  · rename_i i j
    rw [qx.int_eq] at rx; rw [qy.int_eq] at ry
    exact op_sub pins s σ H _ _ _ _ Q I rx ry ⟨i, j, rfl, rfl, p.ok0 hr _ (.int _)⟩
  · rename_i i j
    split at p
    · rename_i hl
      rw [qx.int_eq] at rx; rw [qy.int_eq] at ry
      exact op_mul pins s σ H _ _ _ _ Q I rx ry ⟨i, j, rfl, rfl, hl.imp (fun z => by omega) (fun z => by omega), p.ok0 hr _ (.int _)⟩
    · exact p.elim
  · rename_i a k
    split at p
    · rename_i xs e1
      split at p
      · rename_i hl
        obtain ⟨pa, rfl, ea⟩ := qx.ref_eq
        rw [qy.int_eq] at ry
        obtain ⟨va, ha, ra⟩ := hr.lst ea e1
        exact op_rep pins s σ H _ _ _ _ Q I rx ry ⟨pa, k, va, rfl, rfl, ha, by omega, by have : lim = 1000000 := rfl; omega, lim_line (by rw [← ra.length]; exact hl.2.2), fun p' hp => Post.newL p hr (ra.rep _) hp⟩
      · exact p.elim
    · exact p.elim
  · rename_i i j
    split at p
    · rename_i hl
      rw [qx.int_eq] at rx; rw [qy.int_eq] at ry
      exact op_fdivW pins s σ H _ _ _ _ Q I rx ry ⟨i, j, rfl, rfl, ⟨hl.1, pow70 hl.1 hl.2⟩, p.ok0 hr _ (.int _)⟩
    · exact p.elim
  · rename_i i j
    split at p
    · rename_i hl
      rw [qx.int_eq] at rx; rw [qy.int_eq] at ry
      exact op_mod pins s σ H _ _ _ _ Q I rx ry ⟨i, j, rfl, rfl, hl, p.ok0 hr _ (.int _)⟩
    · exact p.elim
  · rename_i i j
    split at p
    · rename_i hl
      rw [qx.int_eq] at rx; rw [qy.int_eq] at ry
      exact op_pow pins s σ H _ _ _ _ Q I rx ry ⟨i, j, rfl, rfl, ⟨hl.1, by omega, hl.2.2⟩, p.ok0 hr _ (.int _)⟩
    · exact p.elim
  · exact p.elim

/-- truth -/
theorem truth_ok (gk : G.K = X.K) {x : D} {vx : V} {ux : Value} {b : Bool} {Q : Bool → Hp → Prop} (I : L2.Inv X pins σ H s) (hr : HR G pn α h H) (qx : VR G pn α H x vx) (rx : RelV vx ux) (e : truth h x = some b) (q : Q b H) :
    wpAny (model X.prog X.w) X.A (truthy ux) (TP X pins σ Q) X.xe s := by
  refine tru_ok pins s σ H vx ux Q I rx ⟨b, ?_, q⟩
  cases qx with
  | non => exact (Option.some.inj e).symm
  | bl c => exact (Option.some.inj e).symm
  | int i => exact (Option.some.inj e).symm
  | str z hz =>
    refine ⟨lim_line hz, ?_⟩
    rw [← Option.some.inj e]
    have : ((z.length : Int) != 0) = (z.length != 0) := by
      cases hh : z.length with
      | zero => rfl
      | succ n => simp; omega
    rw [this]
  | tup t r =>
    refine .inr (.inl ⟨_, tup_sq t, ?_⟩)
    rw [← r.nil_iff]
    exact (Option.some.inj e).symm
  | tupw t r =>
    rw [gk] at t
    refine .inr (.inl ⟨_, t.sq, ?_⟩)
    rw [← r.nil_iff]
    exact (Option.some.inj e).symm
  | ref ea =>
    unfold truth at e
    dsimp only at e
    split at e
    · rename_i fz xs eo
      obtain ⟨vs, hv, r⟩ := hr.lstR ea eo
      refine .inl ⟨vs, .inl hv, ?_⟩
      rw [← r.nil_iff]
      exact (Option.some.inj e).symm
    · cases e
  | _ => cases e

/-- one comparison's data -/
theorem reify_dp (gk : G.K = X.K) (hr : HR G pn α h H) : ∀ (n : Nat) (x : D) (v : V) (d : PyData), VR G pn α H x v → reify n h x = some d → Dp X.K H v d := by
  intro n
  induction n with
  | zero =>
    intro x v d q e
    cases q <;> simp [reify] at e <;> subst e <;> first | exact .non | exact .bl _ | exact .int _ | exact .str _
  | succ n ih =>
    intro x v d q e
    have all : ∀ (xs : List D) (vs : List V) (ds : List PyData), VRs G pn α H xs vs → mapO (reify n h) xs = some ds → DpAll X.K H vs ds := by
      intro xs
      induction xs with
      | nil =>
        intro vs ds q e
        cases q
        simp [mapO] at e
        subst e
        exact .nil
      | cons a l il =>
        intro vs ds q e
        cases q with
        | cons q1 q2 =>
          unfold mapO at e
          split at e
          · cases e
          · rename_i b eb
            split at e
            · cases e
            · rename_i r er
              cases e
              exact .cons (ih a _ b q1 eb) (il _ r q2 er)
    cases q with
    | non => simp [reify] at e; subst e; exact .non
    | bl b => simp [reify] at e; subst e; exact .bl _
    | int b => simp [reify] at e; subst e; exact .int _
    | str b hb => simp [reify] at e; subst e; exact .str _
    | tup t r =>
      simp only [reify] at e
      cases em : mapO (reify n h) _ with
      | none => rw [em] at e; cases e
      | some ds =>
        rw [em] at e; cases e
        exact .tup (tup_sq t) (all _ _ _ r em)
    | tupw t r =>
      simp only [reify] at e
      cases em : mapO (reify n h) _ with
      | none => rw [em] at e; cases e
      | some ds =>
        rw [em] at e; cases e
        rw [gk] at t
        exact .tup t.sq (all _ _ _ r em)
    | ref ea =>
      simp only [reify] at e
      split at e
      · rename_i fz xs eo
        cases em : mapO (reify n h) xs with
        | none => rw [em] at e; cases e
        | some ds =>
          rw [em] at e; cases e
          obtain ⟨vs, hv, r⟩ := hr.lstR ea eo
          exact .lst (.inl hv) (all _ _ _ r em)
      · cases e
    | _ => simp [reify] at e
theorem eqable_dp (gk : G.K = X.K) (hr : HR G pn α h H) {n : Nat} {x : D} {v : V} {d : PyData} (q : VR G pn α H x v) (e : eqable n h x = some d) : Dp X.K H v d ∧ SeqAt.shaped d = true := by
  unfold eqable at e
  split at e
  · rename_i d' ed
    split at e
    · rename_i hs
      cases e
      exact ⟨reify_dp gk hr n x v _ q ed, hs⟩
    · cases e
  · cases e
/-- a comparison by values -/
theorem fin_cmp {op : CmpOp} {ux uy : Value} {b b' : Bool} {Q : VK} (I : L2.Inv X pins σ H s) (q : Q (.bl b) H) (e : b = b') : EP X pins σ Q (.bool b') s := by
  subst e
  exact ⟨.bl b, H, I, rfl, q⟩
end
end Ev

set_option maxRecDepth 100000
set_option maxHeartbeats 1000000
/-! soundness: comparisons, items, slices by values -/
namespace Ev
open PySem PySem.Spec PyProof.Rows L2
section
variable {G : Gd} {pn : List (Addr × Obj)} {X : Cx} {pins : List (Addr × Obj)} {s : Shared} {σ : L2.St} {H : Hp} {α : List Addr} {h : Hh} {Q : VK} {E : Value → Option Addr → Hp → Prop}

theorem flat_ok {x : D} {v : V} (q : VR G pn α H x v) (f : flatD x = true) : flatV v = true := by
  cases q <;> first | rfl | cases f
theorem eqF_ok {x y : D} {v u : V} (q : VR G pn α H x v) (r : VR G pn α H y u) : eqF x y = eqV v u := by
  cases q <;> cases r <;> rfl
theorem flats_ok : ∀ {l : List D} {vs : List V}, VRs G pn α H l vs → l.all flatD = true → vs.all flatV = true
  | _, _, .nil, _ => rfl
  | _, _, .cons q r, f => by
    rw [List.all_cons, Bool.and_eq_true] at f ⊢
    exact ⟨flat_ok q f.1, flats_ok r f.2⟩
theorem anyF_ok {x : D} {v : V} (q : VR G pn α H x v) : ∀ {l : List D} {vs : List V}, VRs G pn α H l vs → (l.any fun y => eqF y x) = inV v vs
  | _, _, .nil => rfl
  | _, _, .cons q' r => by
    show _ = ((eqV _ v) || inV v _)
    rw [List.any_cons, eqF_ok q' q, anyF_ok q r]
theorem dec_str1 {s : Str} {c : Nat} (e : s.cps.toList = [c]) : s = ⟨#[c]⟩ := by
  obtain ⟨a⟩ := s
  congr
  exact Array.toList_inj.mp (by simpa using e)
/-! ### keys -/
theorem keyK_inj {a b : D} {k : Key} (h1 : keyK a = some k) (h2 : keyK b = some k) : a = b := by
  cases a <;> simp [keyK] at h1 <;> subst h1 <;> cases b <;> simp [keyK] at h2 <;> subst h2 <;> rfl
theorem keyK_kV {x : D} {k : Key} {v : V} (q : VR G pn α H x v) (e : keyK x = some k) : v = kV k := by
  cases q <;> simp [keyK] at e <;> subst e <;> rfl
theorem keysK_kV : ∀ {l : List D} {ks : List Key} {vs : List V}, VRs G pn α H l vs → keysK l = some ks → vs = ks.map kV
  | _, ks, _, .nil, e => by simp [keysK] at e; subst e; rfl
  | _, ks, _, .cons q r, e => by
    unfold keysK at e
    split at e
    · rename_i a l ea el
      cases e
      rw [keyK_kV q ea, keysK_kV r el]
      rfl
    · cases e
theorem keysK_inj : ∀ {l m : List D} {ks : List Key}, keysK l = some ks → keysK m = some ks → l = m
  | [], m, ks, e1, e2 => by
    simp [keysK] at e1; subst e1
    cases m with
    | nil => rfl
    | cons a r => unfold keysK at e2; split at e2 <;> cases e2
  | a :: l, m, ks, e1, e2 => by
    unfold keysK at e1
    split at e1
    · rename_i k ks' ea el
      cases e1
      cases m with
      | nil => simp [keysK] at e2
      | cons b r =>
        unfold keysK at e2
        split at e2
        · rename_i k2 ks2 eb er
          cases e2
          rw [keyK_inj ea eb, keysK_inj el er]
        · cases e2
    · cases e1
theorem isKey_some {x : D} (e : isKey x = true) : ∃ k, keyK x = some k := by
  cases x <;> first | exact ⟨_, rfl⟩ | cases e
theorem isKeys_some : ∀ {l : List D}, l.all isKey = true → ∃ ks, keysK l = some ks
  | [], _ => ⟨[], rfl⟩
  | a :: l, e => by
    rw [List.all_cons, Bool.and_eq_true] at e
    obtain ⟨k, ek⟩ := isKey_some e.1
    obtain ⟨ks, el⟩ := isKeys_some e.2
    exact ⟨k :: ks, by unfold keysK; rw [ek, el]⟩
/-- the value at a key -/
theorem KR.val {x : D} {k : Key} (ek : keyK x = some k) : ∀ {kvs : List (D × D)} {l : List (Key × V)}, KR G pn α H kvs l → match dget kvs x, valV l k with
    | some d, some v => VR G pn α H d v
    | none, none => True
    | _, _ => False
  | _, _, .nil => by simp [dget, valV]
  | _, _, .cons (a := p) (b := q) z r => by
    have ih := KR.val ek r
    obtain ⟨z1, z2, z3⟩ := z
    by_cases e : p.1 = x
    · have e2 : q.1 = k := by rw [e, ek] at z1; exact (Option.some.inj z1).symm
      have g1 : ∀ kvs, dget (p :: kvs) x = some p.2 := fun kvs => by simp [dget, List.find?_cons, e]
      rw [g1, valV_pos e2]
      exact z3
    · have e2 : ¬ q.1 = k := fun z => e (keyK_inj (by rw [z1, z]) ek)
      have g1 : ∀ kvs, dget (p :: kvs) x = dget kvs x := fun kvs => by simp [dget, List.find?_cons, e]
      rw [g1, valV_neg e2]
      exact ih
theorem TR.val {l0 : List D} {k : List Key} (ek : keysK l0 = some k) : ∀ {kvs : List (D × D)} {l : List (List Key × V)}, TR G pn α H kvs l → match dget kvs (.tup l0), valV l k with
    | some d, some v => VR G pn α H d v
    | none, none => True
    | _, _ => False
  | _, _, .nil => by simp [dget, valV]
  | _, _, .cons (a := p) (b := q) z r => by
    have ih := TR.val ek r
    obtain ⟨m, z1, z2, z3, z4⟩ := z
    by_cases e : p.1 = .tup l0
    · have e2 : q.1 = k := by
        have em : m = l0 := D.tup.inj (z1.symm.trans e)
        rw [em, ek] at z2
        exact (Option.some.inj z2).symm
      have g1 : ∀ kvs, dget (p :: kvs) (.tup l0) = some p.2 := fun kvs => by simp [dget, List.find?_cons, e]
      rw [g1, valV_pos e2]
      exact z4
    · have e2 : ¬ q.1 = k := fun z => e (by rw [z1]; exact congrArg D.tup (keysK_inj (by rw [z2, z]) ek))
      have g1 : ∀ kvs, dget (p :: kvs) (.tup l0) = dget kvs (.tup l0) := fun kvs => by simp [dget, List.find?_cons, e]
      rw [g1, valV_neg e2]
      exact ih
theorem isKey_notT {x : D} (a : isKey x = true) (b : isTKey x = true) : False := by
  cases x with
  | int _ => exact absurd (show false = true from b) Bool.false_ne_true
  | str _ => exact absurd (show false = true from b) Bool.false_ne_true
  | _ => cases a
theorem dK_head {kvs : List (D × D)} {l : List (List Key × V)} (r : TR G pn α H kvs l) (a : kvs.all (fun p => isKey p.1) = true) : kvs = [] ∧ l = [] := by
  cases r with
  | nil => exact ⟨rfl, rfl⟩
  | cons z r =>
    obtain ⟨m, z1, _⟩ := z
    rw [List.all_cons, Bool.and_eq_true, z1] at a
    cases a.1
theorem dT_head {kvs : List (D × D)} {l : List (Key × V)} (r : KR G pn α H kvs l) (a : kvs.all (fun p => isTKey p.1) = true) : kvs = [] ∧ l = [] := by
  cases r with
  | nil => exact ⟨rfl, rfl⟩
  | @cons p q ps qs z r =>
    rw [List.all_cons, Bool.and_eq_true] at a
    obtain ⟨z1, _⟩ := z
    obtain ⟨p1, p2⟩ := p
    have a1 : isTKey p1 = true := a.1
    have z1 : keyK p1 = some q.1 := z1
    cases p1 with
    | int _ => exact absurd (show false = true from a1) Bool.false_ne_true
    | str _ => exact absurd (show false = true from a1) Bool.false_ne_true
    | _ => cases z1
end
/-- the empty dict is of both kinds -/
theorem empty_kt {P : Program} {w : World} {H : Hp} {h : Heap} {a : Addr} : ObjOk P w H h a (.dK []) ↔ ObjOk P w H h a (.dT []) := by
  constructor
  · rintro ⟨z, y, vs, r, o, es, ep, h1, h2, h3, h4, h5, h6⟩
    cases r
    refine ⟨z, y, [], .nil, o, es, ep, h1, h2, h3, ?_, List.nodup_nil⟩
    cases q : es.toList with
    | nil => rfl
    | cons a l => rw [q] at h5; cases h5
  · rintro ⟨z, y, xs, r, o, es, ep, h1, h2, h3, h4, h5⟩
    cases r
    have e : es = #[] := by simpa using h4
    subst e
    exact ⟨z, y, [], .nil, o, #[], ep, h1, h2, h3, fun e he => by simp at he, .nil, List.nodup_nil⟩
section
variable {G : Gd} {pn : List (Addr × Obj)} {X : Cx} {pins : List (Addr × Obj)} {s : Shared} {σ : L2.St} {H : Hp} {α : List Addr} {h : Hh} {Q : VK} {E : Value → Option Addr → Hp → Prop}
/-- an object of ours told otherwise, the heap as it is -/
theorem Inv.told (I : L2.Inv X pins σ H s) {a : Addr} {u : HO} (mu : Mut (H a)) (hs : ∃ o, s.heap.get? a = some o) (new : ObjOk X.prog X.w (upd H a u) s.heap a u) : L2.Inv X pins σ (upd H a u) s :=
  I.write (x := a) (e := a) (h' := s.heap) (t' := s.toks) mu (.inl rfl) (fun _ _ _ q => q) hs new
def VRo (G : Gd) (pn : List (Addr × Obj)) (α : List Addr) (H : Hp) : Option D → Option V → Prop
  | some d, some v => VR G pn α H d v
  | none, none => True
  | _, _ => False
theorem objOk_heap {P : Program} {w : World} {H H' : Hp} {h : Heap} {a : Addr} {u : HO} (x : ObjOk P w H h a u) (e : H a = some u) (k : ∀ b v, b ≠ a → H b = some v → H' b = some v) (hu : (∀ z, u ≠ .own z)) (ht : ∀ z, u ≠ .tup z) : ObjOk P w H' h a u := by
  refine x.stay (fun _ _ _ q => q) (fun b q => k _ _ (fun z => ?_) q) fun b xs q => k _ _ (fun z => ?_) q
  · rw [z, e] at q; cases q; exact hu _ rfl
  · rw [z, e] at q; cases q; exact ht _ rfl
theorem dict_key (I : L2.Inv X pins σ H s) (hr : HR G pn α h H) {b : Nat} {a : Addr} {lk : Bool} {kvs : List (D × D)} (ea : α[b]? = some a) (eo : h[b]? = some (.dic lk kvs)) {x : D} (fits : keyFits kvs x = true) (ne : lk = true → kvs ≠ []) {v : V} (qx : VR G pn α H x v) :
    ∃ H' o, L2.Inv X pins σ H' s ∧ HR G pn α h H' ∧ Mv α H α H' ∧ Fix H H' ∧ DGet H' a v o ∧ VRo G pn α H' (dget kvs x) o := by
  have conv : ∀ {u : HO}, kvs = [] → (u = .dK [] ∨ u = .dT []) → ∀ u0 : HO, (u0 = .dK [] ∨ u0 = .dT []) → H a = some u0 → L2.Inv X pins σ (upd H a u) s ∧ HR G pn α h (upd H a u) ∧ Mv α H α (upd H a u) ∧ Fix H (upd H a u) := by
    intro u ek hu u0 h0 e0
    subst ek
    have lkf : lk = false := by
      cases lk with
      | false => rfl
      | true => exact absurd rfl (ne rfl)
    subst lkf
    have hob : ObjOk X.prog X.w H s.heap a u0 := I.hok a _ e0
    have hob2 : ObjOk X.prog X.w H s.heap a u := by
      rcases hu with rfl | rfl <;> rcases h0 with rfl | rfl <;> first | exact hob | exact empty_kt.mp hob | exact empty_kt.mpr hob
    have hs : ∃ o, s.heap.get? a = some o := by
      rcases h0 with rfl | rfl
      · obtain ⟨_, _, _, _, o, _, _, q, _⟩ := hob; exact ⟨o, q⟩
      · obtain ⟨_, _, _, _, o, _, _, q, _⟩ := hob; exact ⟨o, q⟩
    obtain ⟨m, fx, r⟩ := hr.wr (o' := .dic false []) ea eo (u := u) (.dic upd_same (by
      rcases hu with rfl | rfl
      · exact .k .nil
      · exact .t .nil))
    have eh : h.set b (.dic false []) = h := by
      obtain ⟨hb, e⟩ := List.getElem?_eq_some_iff.mp eo
      rw [← e]; exact List.set_getElem_self hb
    rw [eh] at r
    refine ⟨Inv.told I (by rcases h0 with rfl | rfl <;> (rw [e0]; exact True.intro)) hs ?_, r, m, fx⟩
    have n1 : ∀ z, u ≠ .own z := fun z q => by rcases hu with rfl | rfl <;> cases q
    have n2 : ∀ z, u ≠ .tup z := fun z q => by rcases hu with rfl | rfl <;> cases q
    have g : ObjOk X.prog X.w (upd H a u) s.heap a u := by
      rcases hu with rfl | rfl
      · exact hob2
      · obtain ⟨z, y, xs, r, rest⟩ := hob2
        cases r
        exact ⟨z, y, [], .nil, rest⟩
    exact g
  unfold keyFits at fits
  rw [Bool.or_eq_true, Bool.and_eq_true, Bool.and_eq_true] at fits
  have main : ∀ u : HO, DR G pn α H kvs u → Rd H a u → (H a = some u ∨ kvs ≠ []) → ∃ H' o, L2.Inv X pins σ H' s ∧ HR G pn α h H' ∧ Mv α H α H' ∧ Fix H H' ∧ DGet H' a v o ∧ VRo G pn α H' (dget kvs x) o := by
    intro u dr rd hne
    rcases fits with ⟨f1, f2⟩ | ⟨f1, f2⟩
    · obtain ⟨k, ek⟩ := isKey_some f1
      have ev := keyK_kV qx ek
      cases dr with
      | k r =>
        rename_i l
        refine ⟨H, valV l k, I, hr, Mv.refl _ _, Fix.refl _, .inl ⟨l, k, rd, ev, rfl⟩, ?_⟩
        exact KR.val ek r
      | t r =>
        obtain ⟨e1, e2⟩ := dK_head r f2
        subst e2
        obtain ⟨I', r', m', f'⟩ := conv (u := .dK []) e1 (.inl rfl) _ (.inr rfl) (hne.elim id fun z => absurd e1 z)
        subst e1
        exact ⟨_, none, I', r', m', f', .inl ⟨[], k, .inl upd_same, ev, rfl⟩, True.intro⟩
    · cases qx with
      | tup t rt =>
        rename_i l0 pa vs
        obtain ⟨ks, ek⟩ := isKeys_some (l := l0) f1
        have ev := keysK_kV rt ek
        cases dr with
        | t r =>
          rename_i l
          exact ⟨H, valV l ks, I, hr, Mv.refl _ _, Fix.refl _, .inr ⟨l, ks, pa, rd, rfl, by rw [← ev]; exact t, rfl⟩, TR.val ek r⟩
        | k r =>
          obtain ⟨e1, e2⟩ := dT_head r f2
          subst e2
          obtain ⟨I', r', m', f'⟩ := conv (u := .dT []) e1 (.inr rfl) _ (.inl rfl) (hne.elim id fun z => absurd e1 z)
          subst e1
          exact ⟨_, none, I', r', m', f', .inr ⟨[], ks, pa, .inl upd_same, rfl, by rw [← ev]; exact f'.tup _ _ t, rfl⟩, True.intro⟩
      | _ => exact absurd (show false = true from f1) Bool.false_ne_true
  cases hr.get ea eo with
  | dic e dr => exact main _ dr (.inl e) (.inl e)
  | dicF e dr => exact main _ dr (.inr ⟨_, e⟩) (.inr (ne rfl))
theorem dOk_iff {lk : Bool} {kvs : List (D × D)} {k : D} (e : dOk lk kvs k = true) : keyFits kvs k = true ∧ (lk = true → kvs ≠ []) := by
  unfold dOk at e
  rw [Bool.and_eq_true] at e
  refine ⟨e.1, fun z n => ?_⟩
  subst z n
  exact absurd e.2 (by simp)
theorem VRo.some_iff {α : List Addr} {H : Hp} {d : Option D} {o : Option V} (r : VRo G pn α H d o) : d.isSome = o.isSome := by
  cases d <;> cases o <;> first | rfl | exact r.elim
theorem eqD_dp (gk : G.K = X.K) (hr : HR G pn α h H) {x y : D} {vx vy : V} {b : Bool} (qx : VR G pn α H x vx) (qy : VR G pn α H y vy) (e : eqD h x y = some b) : ∃ d d', Dp X.K H vx d ∧ Dp X.K H vy d' ∧ SeqAt.shaped d = true ∧ SeqAt.shaped d' = true ∧ PyData.eqv d d' = b := by
  unfold eqD at e
  split at e
  · rename_i d d' e1 e2
    obtain ⟨a1, a2⟩ := eqable_dp gk hr qx e1
    obtain ⟨b1, b2⟩ := eqable_dp gk hr qy e2
    exact ⟨d, d', a1, b1, a2, b2, Option.some.inj e⟩
  · cases e
def pcmp (o : Option Bool) (h : Hh) : Res D := match o with
  | some b => .ok (.bl b) h
  | none => .bad
def sgn : Bool → Bool → Bool
  | false, b => b
  | true, b => !b
theorem in_ok (gk : G.K = X.K) (hu : X.A.units + 66 < cLine) {x y : D} {vx vy : V} {ux uy : Value} (neg : Bool) (I : L2.Inv X pins σ H s) (hr : HR G pn α h H) (qx : VR G pn α H x vx) (qy : VR G pn α H y vy) (rx : RelV vx ux) (ry : RelV vy uy)
    (p : Post G pn (pcmp ((inOp x y h).map (sgn neg)) h) α H (QV G pn Q) E) : wpAny (model X.prog X.w) X.A (compareOp (if neg then .NotIn else .In) ux uy) (EP X pins σ Q) X.xe s := by
  unfold inOp at p
  split at p
  · rename_i z
    split at p
    · rename_i t
      split at p
      · rename_i c ec
        rw [dec_str1 ec] at qx
        rw [qx.str_eq] at rx
        rw [qy.str_eq] at ry
        cases neg with
        | false => exact op_in_sign pins s σ H _ _ _ _ Q I rx ry ⟨c, z, rfl, rfl, p.ok0 hr _ (.bl _)⟩
        | true => exact op_notIn_sign pins s σ H _ _ _ _ Q I rx ry ⟨c, z, rfl, rfl, p.ok0 hr _ (.bl _)⟩
      · exact p.elim
    · exact p.elim
  · rename_i l
    split at p
    · rename_i hf
      rw [Bool.and_eq_true] at hf
      obtain ⟨a, vs, rfl, t, r⟩ := qy.tup_eq
      have p : Post G pn (.ok (.bl (sgn neg (l.any fun y => eqF y x))) h) α H (QV G pn Q) E := p
      rw [anyF_ok qx r] at p
      cases neg with
      | false => exact op_in_seq pins s σ H _ _ _ _ Q I rx ry ⟨a, vs, rfl, .inr (tup_sq t), flat_ok qx hf.1, flats_ok r hf.2, p.ok0 hr _ (.bl _)⟩
      | true => exact op_notIn_seq pins s σ H _ _ _ _ Q I rx ry ⟨a, vs, rfl, .inr (tup_sq t), flat_ok qx hf.1, flats_ok r hf.2, p.ok0 hr _ (.bl _)⟩
    · exact p.elim
  · rename_i l
    split at p
    · rename_i hf
      rw [Bool.and_eq_true] at hf
      obtain ⟨a, vs, rfl, t, r⟩ := qy.tupw_eq
      rw [gk] at t
      have p : Post G pn (.ok (.bl (sgn neg (l.any fun y => eqF y x))) h) α H (QV G pn Q) E := p
      rw [anyF_ok qx r] at p
      cases neg with
      | false => exact op_in_seq pins s σ H _ _ _ _ Q I rx ry ⟨a, vs, rfl, .inr t.sq, flat_ok qx hf.1, flats_ok r hf.2, p.ok0 hr _ (.bl _)⟩
      | true => exact op_notIn_seq pins s σ H _ _ _ _ Q I rx ry ⟨a, vs, rfl, .inr t.sq, flat_ok qx hf.1, flats_ok r hf.2, p.ok0 hr _ (.bl _)⟩
    · exact p.elim
  · rename_i b
    split at p
    · rename_i fz xs eo
      split at p
      · rename_i d ds e1 e2
        obtain ⟨a1, a2⟩ := eqable_dp gk hr qx e1
        obtain ⟨b1, b2⟩ := eqable_dp gk hr qy e2
        cases neg with
        | false => exact op_inD (by omega) pins s σ H _ _ _ _ Q I rx ry ⟨d, ds, a1, b1, a2, b2, p.ok0 hr _ (.bl _)⟩
        | true => exact op_notInD (by omega) pins s σ H _ _ _ _ Q I rx ry ⟨d, ds, a1, b1, a2, b2, p.ok0 hr _ (.bl _)⟩
      · exact p.elim
    · rename_i lk kvs eo
      split at p
      · rename_i hf
        obtain ⟨f1, f2⟩ := dOk_iff hf
        obtain ⟨a, rfl, ea⟩ := qy.ref_eq
        obtain ⟨H', o, I', r', m', fx', g, vo⟩ := dict_key I hr ea eo f1 f2 qx
        cases ry
        have p : Post G pn (.ok (.bl (sgn neg (dget kvs x).isSome)) h) α H (QV G pn Q) E := p
        rw [vo.some_iff] at p
        cases neg with
        | false => exact d_in (by omega) I' g rx fun s' I'' => ⟨.bl _, H', I'', rfl, p α H' m' r' _ (.bl _)⟩
        | true => exact d_notIn (by omega) I' g rx fun s' I'' => ⟨.bl _, H', I'', rfl, p α H' m' r' _ (.bl _)⟩
      · exact p.elim
    · exact p.elim
  · exact p.elim
theorem none_dec {x : D} {v : V} (q : VR G pn α H x v) : decide (x = .non) = decide (v = .non) := by
  cases q <;> simp
theorem bl_dec {x : D} {v : V} {b : Bool} (q : VR G pn α H x v) : decide (x = .bl b) = decide (v = .bl b) := by
  cases q <;> simp
theorem RelV.bl_iff {x : V} {v : Value} {b : Bool} (r : RelV x v) : (v == Value.bool b) = decide (x = .bl b) := by
  cases x with
  | non => cases r; rfl
  | bl c => cases r; cases c <;> cases b <;> rfl
  | int _ => obtain ⟨t, rfl⟩ := r; rfl
  | str _ => obtain ⟨t, rfl⟩ := r; rfl
  | byt _ => obtain ⟨t, rfl⟩ := r; rfl
  | flt _ => obtain ⟨t, rfl⟩ := r; rfl
  | ref _ => cases r; rfl
  | ty _ => cases r; rfl
theorem bl_plain {x : V} {v : Value} {b : Bool} (r : RelV x v) : plainIs v (.bool b) = true := by
  cases x with
  | non => cases r; rfl
  | bl c => cases r; cases c <;> cases b <;> rfl
  | int _ => obtain ⟨t, rfl⟩ := r; rfl
  | str _ => obtain ⟨t, rfl⟩ := r; rfl
  | byt _ => obtain ⟨t, rfl⟩ := r; rfl
  | flt _ => obtain ⟨t, rfl⟩ := r; rfl
  | ref _ => cases r; rfl
  | ty _ => cases r; rfl
theorem scal_ok {x y : D} {v w : V} (q : VR G pn α H x v) (r : VR G pn α H y w) (e : scalD x y = true) : scal v w = true ∧ eqF x y = decide (v = w) := by
  cases q <;> cases r <;> first | (cases e; done) | exact ⟨rfl, rfl⟩ | (refine ⟨rfl, ?_⟩; simp [eqF]; done) | (refine ⟨rfl, ?_⟩; rw [Bool.eq_iff_iff]; simp [eqF])
theorem cmp_ok (gk : G.K = X.K) (hu : X.A.units + 66 < cLine) {op : CmpOp} {x y : D} {vx vy : V} {ux uy : Value} (I : L2.Inv X pins σ H s) (hr : HR G pn α h H) (qx : VR G pn α H x vx) (qy : VR G pn α H y vy) (rx : RelV vx ux) (ry : RelV vy uy)
    (p : Post G pn (pcmp (cmpop op x y h) h) α H (QV G pn Q) E) : wpAny (model X.prog X.w) X.A (compareOp op ux uy) (EP X pins σ Q) X.xe s := by
  unfold cmpop at p
  split at p
  · by_cases hs : scalD x y = true
    · have e : eqS h x y = some (eqF x y) := if_pos hs
      rw [e] at p
      obtain ⟨h1, h2⟩ := scal_ok qx qy hs
      exact op_eq pins s σ H _ _ _ _ Q I rx ry ⟨h1, by rw [← h2]; exact p.ok0 hr _ (.bl _)⟩
    have e0 : eqS h x y = eqD h x y := if_neg hs
    rw [e0] at p
    cases e : eqD h x y with
    | none => rw [e] at p; exact p.elim
    | some b =>
      rw [e] at p
      obtain ⟨d, d', a1, a2, a3, a4, rfl⟩ := eqD_dp gk hr qx qy e
      exact op_eqD (by omega) pins s σ H _ _ _ _ Q I rx ry ⟨d, d', a1, a2, a3, a4, p.ok0 hr _ (.bl _)⟩
  · by_cases hs : scalD x y = true
    · have e : eqS h x y = some (eqF x y) := if_pos hs
      rw [e] at p
      obtain ⟨h1, h2⟩ := scal_ok qx qy hs
      exact op_ne pins s σ H _ _ _ _ Q I rx ry ⟨h1, by rw [← h2]; exact p.ok0 hr _ (.bl _)⟩
    have e0 : eqS h x y = eqD h x y := if_neg hs
    rw [e0] at p
    cases e : eqD h x y with
    | none => rw [e] at p; exact p.elim
    | some b =>
      rw [e] at p
      obtain ⟨d, d', a1, a2, a3, a4, rfl⟩ := eqD_dp gk hr qx qy e
      exact op_neD (by omega) pins s σ H _ _ _ _ Q I rx ry ⟨d, d', a1, a2, a3, a4, p.ok0 hr _ (.bl _)⟩
  · split at p
    · rename_i i j
      rw [qx.int_eq] at rx; rw [qy.int_eq] at ry
      exact op_lt pins s σ H _ _ _ _ Q I rx ry ⟨i, j, rfl, rfl, p.ok0 hr _ (.bl _)⟩
    · exact p.elim
  · split at p
    · rename_i i j
      rw [qx.int_eq] at rx; rw [qy.int_eq] at ry
      exact op_le pins s σ H _ _ _ _ Q I rx ry ⟨i, j, rfl, rfl, p.ok0 hr _ (.bl _)⟩
    · exact p.elim
  · split at p
    · rename_i i j
      rw [qx.int_eq] at rx; rw [qy.int_eq] at ry
      exact op_gt pins s σ H _ _ _ _ Q I rx ry ⟨i, j, rfl, rfl, p.ok0 hr _ (.bl _)⟩
    · exact p.elim
  · split at p
    · rename_i i j
      rw [qx.int_eq] at rx; rw [qy.int_eq] at ry
      exact op_ge pins s σ H _ _ _ _ Q I rx ry ⟨i, j, rfl, rfl, p.ok0 hr _ (.bl _)⟩
    · exact p.elim
  · exact in_ok gk hu false I hr qx qy rx ry (by
      cases e : inOp x y h with
      | none => rw [e] at p; exact p.elim
      | some b => rw [e] at p; exact p)
  · exact in_ok gk hu true I hr qx qy rx ry (by
      cases e : inOp x y h with
      | none => rw [e] at p; exact p.elim
      | some b => rw [e] at p; exact p)
  · split at p
    · rw [qy.non_eq] at ry
      have p : Post G pn (.ok (.bl (decide (x = .non))) h) α H (QV G pn Q) E := p
      rw [none_dec qx] at p
      exact op_isN pins s σ H _ _ _ _ Q I rx ry ⟨rfl, p.ok0 hr _ (.bl _)⟩
    · rename_i b
      cases qy
      cases ry
      have p : Post G pn (.ok (.bl (decide (x = .bl b))) h) α H (QV G pn Q) E := p
      rw [bl_dec qx, ← RelV.bl_iff rx] at p
      exact wpAny_is_plain (bl_plain rx) ⟨.bl _, H, I, rfl, p.ok0 hr _ (.bl _)⟩
    · exact p.elim
  · split at p
    · rw [qy.non_eq] at ry
      have p : Post G pn (.ok (.bl (!decide (x = .non))) h) α H (QV G pn Q) E := p
      rw [none_dec qx] at p
      exact op_notN pins s σ H _ _ _ _ Q I rx ry ⟨rfl, p.ok0 hr _ (.bl _)⟩
    · rename_i b
      cases qy
      cases ry
      have p : Post G pn (.ok (.bl (!decide (x = .bl b))) h) α H (QV G pn Q) E := p
      rw [bl_dec qx, ← RelV.bl_iff rx] at p
      exact wpAny_isNot_plain (bl_plain rx) ⟨.bl _, H, I, rfl, p.ok0 hr _ (.bl _)⟩
    · exact p.elim
theorem unop_ok (gk : G.K = X.K) {op : UnaryOp} {x : D} {vx : V} {ux : Value} (I : L2.Inv X pins σ H s) (hr : HR G pn α h H) (qx : VR G pn α H x vx) (rx : RelV vx ux)
    (p : Post G pn (unop op x h) α H (QV G pn Q) E) : wpAny (model X.prog X.w) X.A (unaryOp op ux) (EP X pins σ Q) X.xe s := by
  unfold unop at p
  split at p
  · rename_i i
    rw [qx.int_eq] at rx
    exact un_neg pins s σ H _ _ Q I rx ⟨i, rfl, p.ok0 hr _ (.int _)⟩
  · split at p
    · rename_i b e
      exact not_of (thn (truth_ok gk I hr qx rx e (Q := fun c H' => c = b ∧ H' = H) ⟨rfl, rfl⟩) fun c s' ⟨H', I', e1, e2⟩ => by
        subst e1 e2
        exact ⟨.bl _, _, I', rfl, p.ok0 hr _ (.bl _)⟩)
    · exact p.elim
  · exact p.elim
end
end Ev

set_option maxRecDepth 100000
set_option maxHeartbeats 1000000
/-! soundness: items, slices, built-ins, methods by values -/
namespace Ev
open PySem PySem.Spec PyProof.Rows L2
section
variable {G : Gd} {pn : List (Addr × Obj)} {X : Cx} {pins : List (Addr × Obj)} {s : Shared} {σ : L2.St} {H : Hp} {α : List Addr} {h : Hh} {Q : VK} {E : Value → Option Addr → Hp → Prop}
theorem ixN_eq {n : Nat} {i : Int} : Ev.ixN n i = L2.ixN n i := rfl
theorem atD_rel {l : List D} {vs : List V} (r : VRs G pn α H l vs) {i : Int} {d : D} (e : atD l i = some d) : ∃ v, atI vs i = some v ∧ VR G pn α H d v := by
  unfold atD at e
  unfold atI
  rw [r.length, ixN_eq] at e
  cases q : L2.ixN vs.length i with
  | none => rw [q] at e; cases e
  | some j =>
    rw [q] at e
    obtain ⟨v, e1, q1⟩ := r.get e
    exact ⟨v, e1, q1⟩
def pItem (o : Option D) (h : Hh) : Res D := match o with
  | some d => .ok d h
  | none => .bad
theorem pItem_elim {x : Option D} {P : Prop} (p : Post G pn (pItem x h) α H (QV G pn Q) E) (k : ∀ d, x = some d → P) : P := by
  cases x with
  | none => exact p.elim
  | some d => exact k d rfl
theorem item_ok (gk : G.K = X.K) (hu : X.A.units + 66 < cLine) {value slice : Expr} {x y : D} {vx vy : V} {ux uy : Value} (I : L2.Inv X pins σ H s) (hr : HR G pn α h H) (qx : VR G pn α H x vx) (qy : VR G pn α H y vy) (rx : RelV vx ux) (ry : RelV vy uy)
    (hs : subscripted slice false ux uy = operate [ux, uy] (PySem.getItem ux uy))
    (p : Post G pn (pItem (getItem x y h) h) α H (QV G pn Q) E) : wpAny (model X.prog X.w) X.A (subscriptTail value slice ux uy) (EP X pins σ Q) X.xe s := by
  unfold getItem at p
  split at p
  · rename_i l
    split at p
    · rename_i k
      refine pItem_elim p fun d e => ?_
      rw [e] at p
      obtain ⟨a, vs, rfl, t, r⟩ := qx.tup_eq
      obtain ⟨v, ev, qv⟩ := atD_rel r e
      rw [qy.int_eq] at ry
      exact ix_tup value slice pins s σ H _ _ _ _ Q I rx ry ⟨a, vs, k, v, rfl, rfl, tup_sq t, ev, p.ok0 hr v qv⟩ hs
    · exact p.elim
  · rename_i l
    split at p
    · rename_i k
      refine pItem_elim p fun d e => ?_
      rw [e] at p
      obtain ⟨a, vs, rfl, t, r⟩ := qx.tupw_eq
      rw [gk] at t
      obtain ⟨v, ev, qv⟩ := atD_rel r e
      rw [qy.int_eq] at ry
      exact ix_tup value slice pins s σ H _ _ _ _ Q I rx ry ⟨a, vs, k, v, rfl, rfl, t.sq, ev, p.ok0 hr v qv⟩ hs
    · exact p.elim
  · rename_i z
    split at p
    · rename_i k
      refine pItem_elim p fun d e => ?_
      rw [e] at p
      have hz := qx.str_len
      rw [qx.str_eq] at rx
      rw [qy.int_eq] at ry
      cases q : ((Ev.ixN z.cps.toList.length k).bind fun j => z.cps.toList[j]?) with
      | none => rw [q] at e; cases e
      | some c =>
        rw [q] at e
        cases e
        exact ix_str value slice pins s σ H _ _ _ _ Q I rx ry ⟨z, k, c, rfl, rfl, lim_line hz, q, p.ok0 hr _ (.str _ (by show 1 ≤ 1000000; decide))⟩ hs
    · exact p.elim
  · rename_i b
    split at p
    · rename_i fz xs eo
      split at p
      · rename_i k
        refine pItem_elim p fun d e => ?_
        rw [e] at p
        obtain ⟨a, rfl, ea⟩ := qx.ref_eq
        obtain ⟨vs, hv, r⟩ := hr.lstR ea eo
        obtain ⟨v, ev, qv⟩ := atD_rel r e
        rw [qy.int_eq] at ry
        exact ix_list value slice pins s σ H _ _ _ _ Q I rx ry ⟨a, vs, k, v, rfl, rfl, .inl hv, ev, p.ok0 hr v qv⟩ hs
      · exact p.elim
    · rename_i lk kvs eo
      split at p
      · rename_i hf
        refine pItem_elim p fun d e => ?_
        rw [e] at p
        obtain ⟨f1, f2⟩ := dOk_iff hf
        obtain ⟨a, rfl, ea⟩ := qx.ref_eq
        obtain ⟨H', o, I', r', m', fx', g, vo⟩ := dict_key I hr ea eo f1 f2 qy
        rw [e] at vo
        cases o with
        | none => exact vo.elim
        | some v =>
          cases rx
          exact tail_any (dict_typeIs I' g) PySem.F.slot_dict_getitem.lookup (d_getItem (by omega) I' g ry fun w' s' I'' rw' => ⟨v, H', I'', rw', p α H' m' r' v vo⟩) hs
      · exact p.elim
    · exact p.elim
  · exact p.elim
/-! ### slices -/
theorem cut_rel {l : List D} {vs : List V} (r : VRs G pn α H l vs) (lo hi : Option Int) : VRs G pn α H (cutD l lo hi) (cutV vs lo hi) := by
  unfold cutD cutV
  rw [r.length]
  exact (r.drop _).take _
theorem slice_ok (gk : G.K = X.K) {x : D} {vx : V} {ux vl vu : Value} {lo hi : Option Int} {sl : Addr} (I : L2.Inv X pins σ H s) (hr : HR G pn α h H) (qx : VR G pn α H x vx) (rx : RelV vx ux) (hs : s.heap.IsSliceOf sl vl vu .none) (pl : IsPart vl lo) (pu : IsPart vu hi)
    (p : Post G pn (getSlice x lo hi h) α H (QV G pn Q) E) : ∃ T id, typeLookup (.type T) "__getitem__" = pure (some (.builtin id)) ∧ s.TypeIs ux T ∧ wpAny (model X.prog X.w) X.A (PySem.getItem ux (.ref sl)) (EP X pins σ Q) X.xe s := by
  unfold getSlice at p
  split at p
  · rename_i l
    obtain ⟨a, vs, rfl, t, r⟩ := qx.tup_eq
    refine sl_tupA pins s σ H _ _ _ _ lo hi sl Q I rx hs pl pu ⟨a, vs, rfl, tup_sq t, fun z => ?_, fun _ q hq => Post.newT p hr (cut_rel r lo hi) hq⟩
    have e : cutD l lo hi = l := by
      unfold cutD
      rw [r.length, z.1, z.2, ← r.length]
      simp
    rw [e] at p
    exact p.ok0 hr _ (.tup t r)
  · rename_i z
    have hz := qx.str_len
    rw [qx.str_eq] at rx
    exact sl_str pins s σ H _ _ _ _ lo hi sl Q I rx hs pl pu ⟨z, rfl, lim_line hz, p.ok0 hr _ (.str _ (Nat.le_trans (cutS_length z lo hi) hz))⟩
  · rename_i b
    split at p
    · rename_i fz xs eo
      obtain ⟨a, rfl, ea⟩ := qx.ref_eq
      obtain ⟨vs, hv, r⟩ := hr.lstR ea eo
      exact sl_list pins s σ H _ _ _ _ lo hi sl Q I rx hs pl pu ⟨a, vs, rfl, .inl hv, fun q hq => Post.newL p hr (cut_rel r lo hi) hq⟩
    · exact p.elim
  · exact p.elim
/-! ### stores -/
theorem dput_k {x : D} {k : Key} (ek : keyK x = some k) {d : D} {v : V} (q : VR G pn α H d v) (hx : ∀ s, x = .str s → s.length ≤ lim) {kvs : List (D × D)} {l : List (Key × V)} (r : KR G pn α H kvs l) : KR G pn α H (dput kvs x d) (putK l k v) := by
  have ha : ∀ {kvs : List (D × D)} {l : List (Key × V)}, KR G pn α H kvs l → (kvs.any fun p => decide (p.1 = x)) = l.any fun p => decide (p.1 = k) := by
    intro kvs l r
    induction r with
    | nil => rfl
    | @cons a b as bs z r ih =>
      rw [List.any_cons, List.any_cons, ih]
      congr 1
      by_cases e : a.1 = x
      · have : b.1 = k := by rw [e, ek] at z; exact (Option.some.inj z.1).symm
        rw [decide_eq_true e, decide_eq_true this]
      · have : ¬ b.1 = k := fun w => e (keyK_inj (by rw [z.1, w]) ek)
        rw [decide_eq_false e, decide_eq_false this]
  have hm : ∀ {kvs : List (D × D)} {l : List (Key × V)}, KR G pn α H kvs l → KR G pn α H (kvs.map fun p => if p.1 = x then (p.1, d) else p) (l.map fun p => if p.1 = k then (p.1, v) else p) := by
    intro kvs l r
    induction r with
    | nil => exact .nil
    | @cons a b as bs z r ih =>
      refine .cons ?_ ih
      by_cases e : a.1 = x
      · have e2 : b.1 = k := by rw [e, ek] at z; exact (Option.some.inj z.1).symm
        simp only [e, e2, if_true]
        exact ⟨ek, hx, q⟩
      · have e2 : ¬ b.1 = k := fun w => e (keyK_inj (by rw [z.1, w]) ek)
        simp only [if_neg e, if_neg e2]
        exact z
  unfold dput putK
  rw [ha r]
  split
  · exact hm r
  · exact Paired.snoc r ⟨ek, hx, q⟩
theorem dput_t {x : List D} {k : List Key} (ek : keysK x = some k) {d : D} {v : V} (q : VR G pn α H d v) (hx : ∀ s, D.str s ∈ x → s.length ≤ lim) {kvs : List (D × D)} {l : List (List Key × V)} (r : TR G pn α H kvs l) : TR G pn α H (dput kvs (.tup x) d) (putK l k v) := by
  have ha : ∀ {kvs : List (D × D)} {l : List (List Key × V)}, TR G pn α H kvs l → (kvs.any fun p => decide (p.1 = .tup x)) = l.any fun p => decide (p.1 = k) := by
    intro kvs l r
    induction r with
    | nil => rfl
    | @cons a b as bs z r ih =>
      rw [List.any_cons, List.any_cons, ih]
      congr 1
      obtain ⟨m, z1, z2, z3, z4⟩ := z
      by_cases e : a.1 = .tup x
      · have em : m = x := D.tup.inj (z1.symm.trans e)
        have : b.1 = k := by rw [em, ek] at z2; exact (Option.some.inj z2).symm
        rw [decide_eq_true e, decide_eq_true this]
      · have : ¬ b.1 = k := fun w => e (by rw [z1]; exact congrArg D.tup (keysK_inj (by rw [z2, w]) ek))
        rw [decide_eq_false e, decide_eq_false this]
  have hm : ∀ {kvs : List (D × D)} {l : List (List Key × V)}, TR G pn α H kvs l → TR G pn α H (kvs.map fun p => if p.1 = .tup x then (p.1, d) else p) (l.map fun p => if p.1 = k then (p.1, v) else p) := by
    intro kvs l r
    induction r with
    | nil => exact .nil
    | @cons a b as bs z r ih =>
      refine .cons ?_ ih
      obtain ⟨m, z1, z2, z3, z4⟩ := z
      by_cases e : a.1 = .tup x
      · have em : m = x := D.tup.inj (z1.symm.trans e)
        have e2 : b.1 = k := by rw [em, ek] at z2; exact (Option.some.inj z2).symm
        simp only [if_pos e, if_pos e2]
        exact ⟨x, e, by rw [e2]; exact ek, hx, q⟩
      · have e2 : ¬ b.1 = k := fun w => e (by rw [z1]; exact congrArg D.tup (keysK_inj (by rw [z2, w]) ek))
        simp only [if_neg e, if_neg e2]
        exact ⟨m, z1, z2, z3, z4⟩
  unfold dput putK
  rw [ha r]
  split
  · exact hm r
  · exact Paired.snoc r ⟨x, rfl, ek, hx, q⟩
theorem VRs.strs_len : ∀ {l : List D} {vs : List V}, VRs G pn α H l vs → ∀ s, D.str s ∈ l → s.length ≤ lim
  | _, _, .nil, _, h => by cases h
  | _, _, .cons q r, s, h => by
    rcases List.mem_cons.mp h with e | h
    · subst e; exact q.str_len
    · exact VRs.strs_len r s h
theorem dput_ne {kvs : List (D × D)} {k v : D} : (dput kvs k v).length ≤ kvs.length + 1 := by
  unfold dput
  split
  · simp
  · simp
theorem KR.len {kvs : List (D × D)} {l : List (Key × V)} (r : KR G pn α H kvs l) : kvs.length = l.length := Paired.length r
theorem TR.len {kvs : List (D × D)} {l : List (List Key × V)} (r : TR G pn α H kvs l) : kvs.length = l.length := Paired.length r
abbrev QU (Q : Hp → Prop) : Unit → List Addr → Hp → Prop := fun _ _ H' => Q H'
end
end Ev

set_option maxRecDepth 100000
set_option maxHeartbeats 1000000
/-! soundness: repr, built-ins by values -/
namespace Ev
open PySem PySem.Spec PyProof.Rows L2
section
variable {G : Gd} {pn : List (Addr × Obj)} {X : Cx} {pins : List (Addr × Obj)} {s : Shared} {σ : L2.St} {H : Hp} {α : List Addr} {h : Hh} {Q : VK} {E : Value → Option Addr → Hp → Prop}
theorem nosys (hsys : ∃ o, X.base.get? sysModules = some o) (I : L2.Inv X pins σ H s) {a : Addr} {u : HO} (e : H a = some u) : a ≠ sysModules := fun z => by
  subst z
  obtain ⟨o, eo⟩ := hsys
  rw [(I.bs _ o eo).2] at e; cases e
theorem rd_any {a : Addr} {u : HO} (r : Rd H a u) : ∃ w, H a = some w := r.elim (fun e => ⟨_, e⟩) fun ⟨o, e⟩ => ⟨_, e⟩
theorem HR.dicR (hr : HR G pn α h H) {b : Nat} {a : Addr} {lk : Bool} {kvs : List (D × D)} (e : α[b]? = some a) (eo : h[b]? = some (.dic lk kvs)) : ∃ u, Rd H a u ∧ DR G pn α H kvs u := by
  cases hr.get e eo with
  | dic e r => exact ⟨_, .inl e, r⟩
  | dicF e r => exact ⟨_, .inr ⟨_, e⟩, r⟩
theorem keyOnly_key {x : D} {d : PyData} {k : Key} {u : Value} (e : keyOnly x = some d) (ek : keyK x = some k) (r : keyIs k u = true) (hp : Heap) : Reads hp u d [] := by
  cases x <;> simp [keyOnly] at e <;> subst e <;> simp [keyK] at ek <;> subst ek <;> rcases keyIs_shape r with ⟨i, t, e, rfl⟩ | ⟨y, t, e, rfl⟩ <;> cases e
  · exact .int _ _
  · exact .str _ _
theorem rdat_reads (gk : G.K = X.K) (hsys : ∃ o, X.base.get? sysModules = some o) (I : L2.Inv X pins σ H s) (hr : HR G pn α h H) : ∀ (n : Nat) (x : D) (v : V) (u : Value) (d : PyData), VR G pn α H x v → RelV v u → rdat n h x = some d →
    ∃ as, Reads s.heap u d as ∧ ∀ b ∈ as, b ≠ sysModules := by
  have flat : ∀ (n : Nat) (x : D) (v : V) (u : Value) (d : PyData), VR G pn α H x v → RelV v u → flatD x = true → rdat n h x = some d → ∃ as, Reads s.heap u d as ∧ ∀ b ∈ as, b ≠ sysModules := by
    intro n x v u d q r hf e
    cases q <;> first | (cases hf; done) | skip
    · rw [show u = _ from r]
      cases n <;> (simp [rdat] at e; subst e; exact ⟨[], .none, by simp⟩)
    · rw [show u = _ from r]
      cases n <;> (simp [rdat] at e; subst e; exact ⟨[], .bool _, by simp⟩)
    · obtain ⟨t, rfl⟩ := r
      cases n <;> (simp [rdat] at e; subst e; exact ⟨[], .int _ _, by simp⟩)
    · obtain ⟨t, rfl⟩ := r
      cases n <;> (simp [rdat] at e; subst e; exact ⟨[], .str _ _, by simp⟩)
  intro n
  induction n with
  | zero =>
    intro x v u d q r e
    by_cases hf : flatD x = true
    · exact flat 0 x v u d q r hf e
    · cases x <;> first | exact absurd rfl hf | simp [rdat] at e
  | succ n ih =>
    intro x v u d q r e
    have all : ∀ (xs : List D) (vs : List V) (us : List Value) (ds : List PyData), VRs G pn α H xs vs → Vals vs us → mapO (rdat n h) xs = some ds → ∃ as, ReadsAll s.heap us ds as ∧ ∀ b ∈ as, b ≠ sysModules := by
      intro xs
      induction xs with
      | nil =>
        intro vs us ds q r e
        cases q
        cases r
        simp [mapO] at e
        subst e
        exact ⟨[], .nil, by simp⟩
      | cons a l il =>
        intro vs us ds q r e
        cases q with
        | cons q1 q2 =>
          cases r with
          | cons r1 r2 =>
            unfold mapO at e
            split at e
            · cases e
            · rename_i b eb
              split at e
              · cases e
              · rename_i rr er
                cases e
                obtain ⟨a1, b1, c1⟩ := ih a _ _ b q1 r1 eb
                obtain ⟨a2, b2, c2⟩ := il _ _ rr q2 r2 er
                exact ⟨a1 ++ a2, .cons b1 b2, fun b hb => (List.mem_append.mp hb).elim (c1 b) (c2 b)⟩
    by_cases hf : flatD x = true
    · exact flat _ x v u d q r hf e
    cases q with
    | tup t rr =>
      simp only [rdat] at e
      cases em : mapO (rdat n h) _ with
      | none => rw [em] at e; cases e
      | some ds =>
        rw [em] at e; cases e
        cases r
        obtain ⟨its, rv, ⟨o, h1, h2, m, h3⟩, _⟩ := I.tuple (tup_sq t)
        obtain ⟨as, ra, na⟩ := all _ _ _ _ rr rv em
        exact ⟨as, .tuple h1 h2 h3 (by simpa using ra), na⟩
    | tupw t rr =>
      simp only [rdat] at e
      cases em : mapO (rdat n h) _ with
      | none => rw [em] at e; cases e
      | some ds =>
        rw [em] at e; cases e
        rw [gk] at t
        cases r
        obtain ⟨its, rv, ⟨o, h1, h2, m, h3⟩, _⟩ := I.tuple t.sq
        obtain ⟨as, ra, na⟩ := all _ _ _ _ rr rv em
        exact ⟨as, .tuple h1 h2 h3 (by simpa using ra), na⟩
    | @ref i0 a0 ea =>
      simp only [rdat] at e
      cases r
      split at e
      · rename_i fz xs eo
        cases em : mapO (rdat n h) xs with
        | none => rw [em] at e; cases e
        | some ds =>
          rw [em] at e; cases e
          obtain ⟨vs, hv, rr⟩ := hr.lstR ea eo
          obtain ⟨its, rv, ⟨o, m, h1, h2, _, h3⟩, _⟩ := I.list (.inl hv)
          obtain ⟨as, ra, na⟩ := all _ _ _ _ rr rv em
          obtain ⟨w, ew⟩ := rd_any hv
          refine ⟨_, .list h1 h2 h3 (by simpa using ra), fun b hb => ?_⟩
          rcases List.mem_cons.mp hb with rfl | hb
          · exact nosys hsys I ew
          · exact na b hb
      · rename_i lk kvs eo
        cases em : mapO (fun p => pairK (keyOnly p.1) (rdat n h p.2)) kvs with
        | none => rw [em] at e; cases e
        | some ds =>
          rw [em] at e; cases e
          obtain ⟨w, hv, dr⟩ := hr.dicR ea eo
          obtain ⟨w', ew⟩ := rd_any hv
          have main : ∀ l, KR G pn α H kvs l → ObjOk X.prog X.w H s.heap a0 (.dK l) → ∃ as, Reads s.heap (.ref a0) (.dict ds) as ∧ ∀ b ∈ as, b ≠ sysModules := by
            intro l kr ok
            obtain ⟨_, _, vs, kv, o, es, ep, h1, ⟨h2, h2'⟩, h3, _, pr, _⟩ := ok
            have go : ∀ (kvs : List (D × D)) (l : List (Key × V)) (vs : List (Key × Value)) (es : List DictEntry) (ds : List (PyData × PyData)), KR G pn α H kvs l → KV l vs → Pairs (mixKind X.prog X.w) es vs →
                mapO (fun p => pairK (keyOnly p.1) (rdat n h p.2)) kvs = some ds → ∃ bs, ReadsAll s.heap (es.map (·.key)) (ds.map (·.1)) [] ∧ ReadsAll s.heap (es.map (·.val)) (ds.map (·.2)) bs ∧ ∀ b ∈ bs, b ≠ sysModules := by
              intro kvs
              induction kvs with
              | nil =>
                intro l vs es ds a b c e
                cases a; cases b; cases c
                simp [mapO] at e
                subst e
                exact ⟨[], .nil, .nil, by simp⟩
              | cons p r il =>
                intro l vs es ds a b c e
                cases a with
                | cons a1 a2 =>
                cases b with
                | cons b1 b2 =>
                cases c with
                | cons c1 c3 c2 =>
                unfold mapO at e
                split at e
                · cases e
                · rename_i q eq
                  split at e
                  · cases e
                  · rename_i rr er
                    cases e
                    cases ek : keyOnly p.1 with
                    | none => rw [ek] at eq; cases eq
                    | some k =>
                    cases ev : rdat n h p.2 with
                    | none => rw [ek, ev] at eq; cases eq
                    | some v =>
                      rw [ek, ev] at eq
                      cases eq
                      obtain ⟨bs, x1, x2, x3⟩ := il _ _ _ _ a2 b2 c2 er
                      have rv := b1.2
                      rw [← c3] at rv
                      obtain ⟨as, y1, y2⟩ := ih _ _ _ _ a1.2.2 rv ev
                      refine ⟨as ++ bs, ?_, .cons y1 x2, fun b hb => (List.mem_append.mp hb).elim (y2 b) (x3 b)⟩
                      exact .cons (as := []) (bs := []) (keyOnly_key ek a1.1 (by rw [b1.1]; exact c1) _) x1
            obtain ⟨bs, x1, x2, x3⟩ := go kvs l vs es.toList ds kr kv pr em
            refine ⟨_, .dict h1 h2 h3 x1 x2, fun b hb => ?_⟩
            rcases List.mem_append.mp hb with hb | hb
            · rw [List.mem_singleton.mp hb]; exact nosys hsys I ew
            · exact x3 b hb
          cases dr with
          | k kr => exact main _ kr (rd_of I.hok hv)
          | t tr =>
            have hk : kvs = [] := by
              cases tr with
              | nil => rfl
              | cons z rr =>
                obtain ⟨l, z1, _⟩ := z
                unfold mapO at em
                split at em
                · cases em
                · rename_i q eq
                  rw [z1] at eq
                  cases eq
            subst hk
            cases tr
            exact main [] .nil (empty_kt.mpr (rd_of I.hok hv))
      · cases e
    | xn => simp [rdat] at e
    | xn0 => simp [rdat] at e
    | _ => exact absurd rfl hf
/-- a built-in function, as the model has it -/
def bfV : BF → Value
  | .len => .builtin "len" | .repr => .builtin "repr" | .abs => .builtin "abs" | .max2 => .builtin "max" | .max1 => .builtin "max" | .min2 => .builtin "min" | .min1 => .builtin "min"
  | .divmod => .builtin "divmod" | .list => .type "list" | .tuple => .type "tuple" | .str => .type "str" | .int => .type "int" | .all => .builtin "all" | .any => .builtin "any" | .sum => .builtin "sum"
  | .sorted => .builtin "sorted" | .dict => .type "dict"
theorem allInts_rel : ∀ {l : List D} {vs : List V} {ns : List Int}, VRs G pn α H l vs → allInts l = some ns → vs = ns.map V.int
  | [], vs, ns, q, e => by cases q; simp [allInts] at e; subst e; rfl
  | a :: r, vs, ns, q, e => by
    cases q with
    | cons q1 q2 =>
      cases q1 <;> simp [allInts] at e
      obtain ⟨x, e1, rfl⟩ := e
      rw [allInts_rel q2 e1]; rfl
theorem allBls_rel : ∀ {l : List D} {vs : List V} {ns : List Bool}, VRs G pn α H l vs → allBls l = some ns → vs = ns.map V.bl
  | [], vs, ns, q, e => by cases q; simp [allBls] at e; subst e; rfl
  | a :: r, vs, ns, q, e => by
    cases q with
    | cons q1 q2 =>
      cases q1 <;> simp [allBls] at e
      obtain ⟨x, e1, rfl⟩ := e
      rw [allBls_rel q2 e1]; rfl
theorem allStrs_rel : ∀ {l : List D} {vs : List V} {ns : List Str}, VRs G pn α H l vs → allStrs l = some ns → vs = ns.map V.str
  | [], vs, ns, q, e => by cases q; simp [allStrs] at e; subst e; rfl
  | a :: r, vs, ns, q, e => by
    cases q with
    | cons q1 q2 =>
      cases q1 <;> simp [allStrs] at e
      obtain ⟨x, e1, rfl⟩ := e
      rw [allStrs_rel q2 e1]; rfl
theorem listOf_rel (hr : HR G pn α h H) {x : D} {v : V} {xs : List D} (q : VR G pn α H x v) (e : listOf h x = some xs) : ∃ a vs, v = .ref a ∧ Rd H a (.lst vs) ∧ VRs G pn α H xs vs := by
  unfold listOf at e
  split at e
  · split at e
    · rename_i fz ys eo
      cases e
      obtain ⟨a, rfl, ea⟩ := q.ref_eq
      obtain ⟨vs, hv, r⟩ := hr.lstR ea eo
      exact ⟨a, vs, rfl, hv, r⟩
    · cases e
  · cases e
theorem vrs1 {x : D} {vs : List V} (q : VRs G pn α H [x] vs) : ∃ v, vs = [v] ∧ VR G pn α H x v := by
  cases q with
  | cons a b => cases b; exact ⟨_, rfl, a⟩
theorem vrs2 {x y : D} {vs : List V} (q : VRs G pn α H [x, y] vs) : ∃ v w, vs = [v, w] ∧ VR G pn α H x v ∧ VR G pn α H y w := by
  cases q with
  | cons a b =>
    cases b with
    | cons b c => cases c; exact ⟨_, _, rfl, a, b⟩
theorem maxI_spec : ∀ {ns : List Int}, ns ≠ [] → maxI ns ∈ ns ∧ ∀ y ∈ ns, y ≤ maxI ns
  | [], h => absurd rfl h
  | [a], _ => by simp [maxI]
  | a :: b :: l, _ => by
    obtain ⟨h1, h2⟩ := maxI_spec (ns := b :: l) (by simp)
    unfold maxI
    refine ⟨?_, fun y hy => ?_⟩
    · by_cases hh : maxI (b :: l) ≤ a
      · rw [show max a (maxI (b :: l)) = a by omega]; exact List.mem_cons_self
      · rw [show max a (maxI (b :: l)) = maxI (b :: l) by omega]; exact List.mem_cons_of_mem _ h1
    · rcases List.mem_cons.mp hy with rfl | hy
      · omega
      · have := h2 y hy; omega
theorem minI_spec : ∀ {ns : List Int}, ns ≠ [] → minI ns ∈ ns ∧ ∀ y ∈ ns, minI ns ≤ y
  | [], h => absurd rfl h
  | [a], _ => by simp [minI]
  | a :: b :: l, _ => by
    obtain ⟨h1, h2⟩ := minI_spec (ns := b :: l) (by simp)
    unfold minI
    refine ⟨?_, fun y hy => ?_⟩
    · by_cases hh : a ≤ minI (b :: l)
      · rw [show min a (minI (b :: l)) = a by omega]; exact List.mem_cons_self
      · rw [show min a (minI (b :: l)) = minI (b :: l) by omega]; exact List.mem_cons_of_mem _ h1
    · rcases List.mem_cons.mp hy with rfl | hy
      · omega
      · have := h2 y hy; omega
theorem pylong70 {i j : Int} (h0 : 0 < j) (h : j < 10 ^ 70) : CDivP i j := by
  refine ⟨h0, ?_⟩
  have := pow70 h0 h
  unfold Builtin.divisionGoesByPylong
  simp only [Bool.and_eq_false_iff, decide_eq_false_iff_not]
  left
  split <;> omega
def pB {A : Type} (o : Option A) (f : A → Res D) : Res D := match o with
  | some a => f a
  | none => .bad
theorem bfun_ok (gk : G.K = X.K) (hc : X.calm = true) (hsys : ∃ o, X.base.get? sysModules = some o) (hg : X.A.guards = some []) (hu : X.A.units + 66 < cLine) {f : BF} {xs : List D} {vs : List V} {us : List Value} (I : L2.Inv X pins σ H s) (hr : HR G pn α h H) (q : VRs G pn α H xs vs) (r : Vals vs us)
    (p : Post G pn (bfun f xs h) α H (QV G pn Q) E) : wpAny (model X.prog X.w) X.A (call (bfV f) us) (EP X pins σ Q) X.xe s := by
  unfold bfun at p
  split at p
  · -- len
    rename_i x
    obtain ⟨v, rfl, qx⟩ := vrs1 q
    cases e : lenD h x with
    | none => rw [e] at p; exact p.elim
    | some n =>
      rw [e] at p
      unfold lenD at e
      split at e
      · rename_i z
        cases e
        have hz := qx.str_len
        rw [qx.str_eq] at r
        exact call_len pins s σ H _ us Q I r ⟨_, _, rfl, ⟨lim_line hz, rfl⟩, p.ok0 hr _ (.int _)⟩
      · rename_i l
        cases e
        obtain ⟨a, ws, rfl, t, rr⟩ := qx.tup_eq
        exact call_len pins s σ H _ us Q I r ⟨_, _, rfl, .inr ⟨ws, tup_sq t, rfl⟩, by rw [← rr.length]; exact p.ok0 hr _ (.int _)⟩
      · rename_i l
        cases e
        obtain ⟨a, ws, rfl, t, rr⟩ := qx.tupw_eq
        rw [gk] at t
        exact call_len pins s σ H _ us Q I r ⟨_, _, rfl, .inr ⟨ws, t.sq, rfl⟩, by rw [← rr.length]; exact p.ok0 hr _ (.int _)⟩
      · rename_i b
        split at e
        · rename_i fz ys eo
          cases e
          obtain ⟨a, rfl, ea⟩ := qx.ref_eq
          obtain ⟨ws, hv, rr⟩ := hr.lstR ea eo
          exact call_len pins s σ H _ us Q I r ⟨_, _, rfl, .inl ⟨ws, .inl hv, rfl⟩, by rw [← rr.length]; exact p.ok0 hr _ (.int _)⟩
        · rename_i lk kvs eo
          cases e
          obtain ⟨a, rfl, ea⟩ := qx.ref_eq
          obtain ⟨w, hv, dr⟩ := hr.dicR ea eo
          obtain ⟨u, rfl, ru⟩ := r.one
          cases ru
          cases dr with
          | k kr =>
            exact d_len I hv fun t s' I' => ⟨.int _, H, I', ⟨t, rfl⟩, by rw [← kr.len]; exact p.ok0 hr _ (.int _)⟩
          | t tr =>
            obtain ⟨z, hd, xs', rel, dd⟩ := dt_rd I.hok hv
            refine call_len_dictH hd dd (by rw [← rel.length]; rw [sizeLine_eq] at z; omega) ?_
            rw [← rel.length]
            exact ⟨.int _, H, I.tok _, ⟨_, rfl⟩, by rw [← tr.len]; exact p.ok0 hr _ (.int _)⟩
        · cases e
      · cases e
  · -- repr
    rename_i x
    obtain ⟨v, rfl, qx⟩ := vrs1 q
    obtain ⟨u, rfl, ru⟩ := r.one
    unfold reprD at p
    cases e : rdat 20 h x with
    | none => rw [e] at p; exact p.elim
    | some d =>
      rw [e] at p
      dsimp only at p
      split at p
      · rename_i z
        cases hz : (d.showable && decide (d.depth ≤ 20) && decide (d.shown.length ≤ lim)) with
        | false => rw [hz] at z; cases z
        | true =>
          rw [hz] at z
          cases z
          rw [Bool.and_eq_true, Bool.and_eq_true, decide_eq_true_eq, decide_eq_true_eq] at hz
          obtain ⟨⟨h1, h2⟩, h3⟩ := hz
          obtain ⟨as, rd, na⟩ := rdat_reads gk hsys I hr 20 x v u d qx ru e
          have fin : ∀ (h' : Heap) (t tk : Nat), (∀ b o, s.heap.get? b = some o → h'.get? b = some o) → EP X pins σ Q (.str d.shown t) { s with heap := h', toks := tk } := fun h' t tk hk =>
            ⟨.str d.shown, H, I.kept hk, ⟨t, rfl⟩, p.ok0 hr _ (.str _ h3)⟩
          cases rd with
          | none => exact PySem.P.repr_of_none (fin s.heap _ _ fun _ _ z => z)
          | bool b => exact PySem.P.repr_of_bool (fin s.heap _ _ fun _ _ z => z)
          | int i t => exact PySem.P.repr_of_int (by simpa [PyData.showable] using h1) (fin s.heap _ _ fun _ _ z => z)
          | str y t => exact PySem.P.repr_of_str (fin s.heap _ _ fun _ _ z => z) (lim_line h3)
          | list a1 a2 a3 a4 =>
            exact PySem.repr_of_reads' (.list a1 a2 a3 a4) h1 (fun _ z => na _ z rfl) hg (by omega) (fun _ _ z => z) (fun h' t tk hk => fin h' t tk hk) (lim_line h3)
          | tuple a1 a2 a3 a4 =>
            exact PySem.repr_of_reads' (.tuple a1 a2 a3 a4) h1 (fun _ z => na _ z rfl) hg (by omega) (fun _ _ z => z) (fun h' t tk hk => fin h' t tk hk) (lim_line h3)
          | dict a1 a2 a3 a4 a5 =>
            exact PySem.repr_of_reads' (.dict a1 a2 a3 a4 a5) h1 (fun _ z => na _ z rfl) hg (by omega) (fun _ _ z => z) (fun h' t tk hk => fin h' t tk hk) (lim_line h3)
      · exact p.elim
  · -- abs
    rename_i i
    obtain ⟨v, rfl, qx⟩ := vrs1 q
    rw [qx.int_eq] at r
    refine call_abs pins s σ H _ us Q I r ⟨i, rfl, ?_⟩
    have e : (if i < 0 then -i else i) = (i.natAbs : Int) := by split <;> omega
    rw [e]
    exact p.ok0 hr _ (.int _)
  · rename_i i j
    obtain ⟨v, w, rfl, qx, qy⟩ := vrs2 q
    rw [qx.int_eq, qy.int_eq] at r
    refine call_max2 hc pins s σ H _ us Q I r ⟨i, j, rfl, ?_⟩
    have e : (if j > i then j else i) = max i j := by split <;> omega
    rw [e]
    exact p.ok0 hr _ (.int _)
  · rename_i i j
    obtain ⟨v, w, rfl, qx, qy⟩ := vrs2 q
    rw [qx.int_eq, qy.int_eq] at r
    refine call_min2 hc pins s σ H _ us Q I r ⟨i, j, rfl, ?_⟩
    have e : (if j < i then j else i) = min i j := by split <;> omega
    rw [e]
    exact p.ok0 hr _ (.int _)
  · rename_i x
    obtain ⟨v, rfl, qx⟩ := vrs1 q
    split at p
    · rename_i ns en
      cases el : listOf h x with
      | none => rw [el] at en; cases en
      | some ys =>
        rw [el] at en
        obtain ⟨a, ws, rfl, hv, rr⟩ := listOf_rel hr qx el
        have e := allInts_rel rr en
        subst e
        split at p
        · exact p.elim
        · rename_i hn
          obtain ⟨m1, m2⟩ := maxI_spec hn
          refine cr_max hc pins s σ H _ us Q I r ⟨a, ns, rfl, .inl hv, List.length_pos_iff.mpr hn, fun m hm hle => ?_⟩
          have : m = maxI ns := Int.le_antisymm (m2 m hm) (hle _ m1)
          rw [this]
          exact p.ok0 hr _ (.int _)
    · exact p.elim
  · rename_i x
    obtain ⟨v, rfl, qx⟩ := vrs1 q
    split at p
    · rename_i ns en
      cases el : listOf h x with
      | none => rw [el] at en; cases en
      | some ys =>
        rw [el] at en
        obtain ⟨a, ws, rfl, hv, rr⟩ := listOf_rel hr qx el
        have e := allInts_rel rr en
        subst e
        split at p
        · exact p.elim
        · rename_i hn
          obtain ⟨m1, m2⟩ := minI_spec hn
          refine cr_min hc pins s σ H _ us Q I r ⟨a, ns, rfl, .inl hv, List.length_pos_iff.mpr hn, fun m hm hle => ?_⟩
          have : m = minI ns := Int.le_antisymm (hle _ m1) (m2 m hm)
          rw [this]
          exact p.ok0 hr _ (.int _)
    · exact p.elim
  · rename_i i j
    split at p
    · rename_i hl
      obtain ⟨v, w, rfl, qx, qy⟩ := vrs2 q
      rw [qx.int_eq, qy.int_eq] at r
      exact call_divmodW pins s σ H _ us Q I r ⟨i, j, rfl, pylong70 hl.1 hl.2, fun a ha => Post.newT p hr (.cons (.int _) (.cons (.int _) .nil)) ha⟩
    · exact p.elim
  · rename_i x
    obtain ⟨v, rfl, qx⟩ := vrs1 q
    split at p
    · rename_i ys e
      unfold seqOf at e
      split at e
      · cases e
        obtain ⟨a, ws, rfl, t, rr⟩ := qx.tup_eq
        exact call_list_of pins s σ H _ us Q I r ⟨a, ws, rfl, .inr (tup_sq t), fun l hl => Post.newL p hr rr hl⟩
      · cases e
        obtain ⟨a, ws, rfl, t, rr⟩ := qx.tupw_eq
        rw [gk] at t
        exact call_list_of pins s σ H _ us Q I r ⟨a, ws, rfl, .inr t.sq, fun l hl => Post.newL p hr rr hl⟩
      · obtain ⟨a, ws, rfl, hv, rr⟩ := listOf_rel hr qx e
        exact call_list_of pins s σ H _ us Q I r ⟨a, ws, rfl, .inl (.inl hv), fun l hl => Post.newL p hr rr hl⟩
    · exact p.elim
  · rename_i x
    obtain ⟨v, rfl, qx⟩ := vrs1 q
    split at p
    · rename_i l
      obtain ⟨a, ws, rfl, t, rr⟩ := qx.tup_eq
      exact call_tuple_of pins s σ H _ us Q I r ⟨a, ws, rfl, .inr ⟨tup_sq t, p.ok0 hr _ (.tup t rr)⟩⟩
    · split at p
      · rename_i ys e
        obtain ⟨a, ws, rfl, hv, rr⟩ := listOf_rel hr qx e
        exact call_tuple_of pins s σ H _ us Q I r ⟨a, ws, rfl, .inl ⟨.inl hv, fun l hl => Post.newT p hr rr hl⟩⟩
      · exact p.elim
  · rename_i x
    obtain ⟨v, rfl, qx⟩ := vrs1 q
    split at p
    · rename_i i
      split at p
      · rename_i hl
        rw [qx.int_eq] at r
        have h1 : i.natAbs.log2 < 1920 := PySem.Flt.log2_lt_of (by decide) (Nat.lt_of_lt_of_le hl (by decide))
        refine call_str_int pins s σ H _ us Q I r ⟨i, rfl, h1, p.ok0 hr _ (.str _ ?_)⟩
        have e := int_text_length_le (k := 1920) (by decide) h1
        show (Str.ofString (toString i)).length ≤ lim
        rw [PySem.ofString_length]
        show _ ≤ 1000000
        omega
      · exact p.elim
    · rename_i z
      have hz := qx.str_len
      rw [qx.str_eq] at r
      obtain ⟨u, rfl, t, rfl⟩ := r.one
      exact PySem.P.str_of_str ⟨.str z, H, I, ⟨t, rfl⟩, p.ok0 hr _ (.str _ hz)⟩
    · exact p.elim
  · rename_i x
    obtain ⟨v, rfl, qx⟩ := vrs1 q
    split at p
    · rename_i i
      rw [qx.int_eq] at r
      exact call_int1 pins s σ H _ us Q I r (.inl ⟨i, rfl, p.ok0 hr _ (.int _)⟩)
    · rename_i b
      rw [qx.bl_eq] at r
      exact call_int1 pins s σ H _ us Q I r (.inr ⟨b, rfl, p.ok0 hr _ (.int _)⟩)
    · rename_i z
      split at p
      · rename_i n en
        split at p
        · rename_i hl
          rw [qx.str_eq] at r
          exact call_int_str pins s σ H _ us Q I r ⟨z, n, rfl, en, hl, p.ok0 hr _ (.int _)⟩
        · exact p.elim
      · exact p.elim
    · exact p.elim
  · rename_i x
    obtain ⟨v, rfl, qx⟩ := vrs1 q
    split at p
    · rename_i ns en
      cases el : listOf h x with
      | none => rw [el] at en; cases en
      | some ys =>
        rw [el] at en
        obtain ⟨a, ws, rfl, hv, rr⟩ := listOf_rel hr qx el
        have e := allBls_rel rr en
        subst e
        exact cr_all hc pins s σ H _ us Q I r ⟨a, ns, rfl, .inl hv, p.ok0 hr _ (.bl _)⟩
    · exact p.elim
  · rename_i x
    obtain ⟨v, rfl, qx⟩ := vrs1 q
    split at p
    · rename_i ns en
      cases el : listOf h x with
      | none => rw [el] at en; cases en
      | some ys =>
        rw [el] at en
        obtain ⟨a, ws, rfl, hv, rr⟩ := listOf_rel hr qx el
        have e := allBls_rel rr en
        subst e
        exact cr_any hc pins s σ H _ us Q I r ⟨a, ns, rfl, .inl hv, p.ok0 hr _ (.bl _)⟩
    · exact p.elim
  · rename_i x
    obtain ⟨v, rfl, qx⟩ := vrs1 q
    split at p
    · rename_i ns en
      cases el : listOf h x with
      | none => rw [el] at en; cases en
      | some ys =>
        rw [el] at en
        obtain ⟨a, ws, rfl, hv, rr⟩ := listOf_rel hr qx el
        have e := allInts_rel rr en
        subst e
        exact cr_sum hc pins s σ H _ us Q I r ⟨a, ns, rfl, .inl hv, p.ok0 hr _ (.int _)⟩
    · exact p.elim
  · exact p.elim
end
end Ev

set_option maxRecDepth 100000
set_option maxHeartbeats 1000000
/-! soundness: the evaluator's meaning as a promise of the hand layer; expressions -/
namespace Ev
open PySem PySem.Spec PyProof.Rows L2
/-! ### the promises -/
def tE (G : Gd) (pn : List (Addr × Obj)) (W : WX) (f : Sh) : TE := fun σ H Q => ∃ α env h, SR G pn α H env σ ∧ HR G pn α h H ∧ Post G pn (f env h) α H (QV G pn Q) (EW W σ)
def tA (G : Gd) (pn : List (Addr × Obj)) (W : WX) (f : List Sh) : TA := fun σ H Q => ∃ α env h, SR G pn α H env σ ∧ HR G pn α h H ∧ Post G pn (eArgs f env h) α H (QVs G pn Q) (EW W σ)
def truthR (x : D) (h : Hh) : Res Bool := match truth h x with
  | some b => .ok b h
  | none => .bad
abbrev QB (Q : Bool → Hp → Prop) : Bool → List Addr → Hp → Prop := fun b _ H' => Q b H'
def tT (G : Gd) (pn : List (Addr × Obj)) (W : WX) (f : Sh) : TT := fun σ H Q => ∃ α env h, SR G pn α H env σ ∧ HR G pn α h H ∧ Post G pn ((f env h).bind truthR) α H (QB Q) (EW W σ)
section
variable {G : Gd} {pn : List (Addr × Obj)} {X : Cx} {W : WX} {pins : List (Addr × Obj)} {s : Shared} {σ : L2.St} {H : Hp} {α : List Addr} {env : Env} {h : Hh}
theorem tE.mk {f : Sh} {Q : VK} (sr : SR G pn α H env σ) (hr : HR G pn α h H) (p : Post G pn (f env h) α H (QV G pn Q) (EW W σ)) : tE G pn W f σ H Q := ⟨α, env, h, sr, hr, p⟩
/-- what follows a part -/
theorem tE.bind {f : Sh} {A : Type} {g : D → Hh → Res A} {QA : A → List Addr → Hp → Prop} {R : VK} (sr : SR G pn α H env σ) (hr : HR G pn α h H) (p : Post G pn ((f env h).bind g) α H QA (EW W σ))
    (k : ∀ (d : D) (h1 : Hh) (α1 : List Addr) (H1 : Hp) (v : V), HR G pn α1 h1 H1 → VR G pn α1 H1 d v → SR G pn α1 H1 env σ → α <+: α1 → Fix H H1 → Post G pn (g d h1) α1 H1 QA (EW W σ) → R v H1) : tE G pn W f σ H R := by
  refine ⟨α, env, h, sr, hr, ?_⟩
  cases hf : f env h with
  | ok d h1 =>
    rw [hf] at p
    exact fun α1 H1 m r v q => k d h1 α1 H1 v r q (sr.mono m.pre (hr.fix m)) m.pre (hr.fix m) (Post.move p m)
  | exc x h1 =>
    rw [hf] at p
    exact p
  | bad =>
    rw [hf] at p
    exact p.elim
theorem tA.bind {f : List Sh} {A : Type} {g : List D → Hh → Res A} {QA : A → List Addr → Hp → Prop} {R : List V → Hp → Prop} (sr : SR G pn α H env σ) (hr : HR G pn α h H) (p : Post G pn ((eArgs f env h).bind g) α H QA (EW W σ))
    (k : ∀ (d : List D) (h1 : Hh) (α1 : List Addr) (H1 : Hp) (v : List V), HR G pn α1 h1 H1 → VRs G pn α1 H1 d v → SR G pn α1 H1 env σ → α <+: α1 → Fix H H1 → Post G pn (g d h1) α1 H1 QA (EW W σ) → R v H1) : tA G pn W f σ H R := by
  refine ⟨α, env, h, sr, hr, ?_⟩
  cases hf : eArgs f env h with
  | ok d h1 =>
    rw [hf] at p
    exact fun α1 H1 m r v q => k d h1 α1 H1 v r q (sr.mono m.pre (hr.fix m)) m.pre (hr.fix m) (Post.move p m)
  | exc x h1 =>
    rw [hf] at p
    exact p
  | bad =>
    rw [hf] at p
    exact p.elim
theorem truthR_elim {x : D} {QA : Bool → List Addr → Hp → Prop} {E : Value → Option Addr → Hp → Prop} (p : Post G pn (truthR x h) α H QA E) : ∃ b, truth h x = some b ∧ Post G pn (.ok b h) α H QA E := by
  unfold truthR at p
  cases e : truth h x with
  | none => rw [e] at p; exact p.elim
  | some b => rw [e] at p; exact ⟨b, rfl, p⟩
theorem PEs {e : Expr} {t u : TE} (p : PE X e t) (k : ∀ σ H Q, u σ H Q → t σ H Q) : PE X e u := ⟨fun pins s σ H Q I h => p.run pins s σ H Q I (k σ H Q h)⟩
theorem PTs_ {e : Expr} {t u : TT} (p : PT X e t) (k : ∀ σ H Q, u σ H Q → t σ H Q) : PT X e u := ⟨fun pins s σ H Q I h => p.run pins s σ H Q I (k σ H Q h)⟩
theorem pe_bad {e : Expr} : PE X e (tE G pn W eBad) := ⟨fun _ _ _ _ _ _ ⟨_, _, _, _, _, p⟩ => p.elim⟩
theorem pt_bad {e : Expr} : PT X e (tT G pn W eBad) := ⟨fun _ _ _ _ _ _ ⟨_, _, _, _, _, p⟩ => p.elim⟩
theorem SE.pe {e : Expr} {f : Sh} (p : SE G pn X W e f) : PE X e (tE G pn W f) := ⟨fun pins s σ H Q I ⟨α, env, h, sr, hr, q⟩ => p pins s σ H α env h Q I sr hr q⟩
/-- the test of a value -/
theorem pt_v (gk : G.K = X.K) {e : Expr} {f : Sh} (p : PE X e (tE G pn W f)) (he : ∀ whole, isTrue e X.env whole = (do let v ← whole; standAt e.pos; holding [v] (truthy v))) : PT X e (tT G pn W f) := by
  refine ⟨fun pins s σ H Q I ⟨α, env, h, sr, hr, q⟩ => ?_⟩
  refine isTrue_plain (thn (p.run pins s σ H (fun v H1 => ∃ α1 h1 d, HR G pn α1 h1 H1 ∧ VR G pn α1 H1 d v ∧ Post G pn (truthR d h1) α1 H1 (QB Q) (EW W σ)) I (tE.bind sr hr q fun d h1 α1 H1 v r1 q1 _ _ _ p1 => ⟨α1, h1, d, r1, q1, p1⟩)) fun v s1 ⟨x, H1, I1, r1, α1, h1, d, hr1, q1, p1⟩ => ?_) (he _)
  obtain ⟨b, e1, p2⟩ := truthR_elim p1
  exact truth_ok gk I1 hr1 q1 r1 e1 (p2.ok0 hr1)

/-! ### operators -/
def rBin (G : Gd) (pn : List (Addr × Obj)) (op : Operator) : R2 := fun x y H Q => ∃ α h dx dy E, HR G pn α h H ∧ VR G pn α H dx x ∧ VR G pn α H dy y ∧ Post G pn (binop op dx dy h) α H (QV G pn Q) E
theorem snd_bin (gk : G.K = X.K) {op : Operator} {a b : Expr} {fa fb : Sh} {pos : Pos} (ha : PE X a (tE G pn W fa)) (hb : PE X b (tE G pn W fb)) : PE X (.BinOp a op b pos) (tE G pn W (eBin op fa fb)) := by
  have ho : OpR X (binaryOp op) (rBin G pn op) := fun pins s σ H x y u v Q I rx ry ⟨α, h, dx, dy, E, hr, qx, qy, p⟩ => binop_ok gk I hr qx qy rx ry p
  refine PEs (pe_op ho ha hb) fun σ H Q ⟨α, env, h, sr, hr, p⟩ => ?_
  exact tE.bind sr hr p fun d h1 α1 H1 v r1 q1 sr1 _ _ p1 => tE.bind sr1 r1 p1 fun d2 h2 α2 H2 v2 r2 q2 sr2 m2 f2 p2 => ⟨α2, h2, d, d2, _, r2, q1.mono m2 f2, q2, p2⟩
def rUn (G : Gd) (pn : List (Addr × Obj)) (op : UnaryOp) : V → Hp → VK → Prop := fun x H Q => ∃ α h dx E, HR G pn α h H ∧ VR G pn α H dx x ∧ Post G pn (unop op dx h) α H (QV G pn Q) E
theorem snd_un (gk : G.K = X.K) {op : UnaryOp} {a : Expr} {fa : Sh} {pos : Pos} (ha : PE X a (tE G pn W fa)) : PE X (.UnaryOp op a pos) (tE G pn W (eUn op fa)) := by
  have ho : UnR X (unaryOp op) (rUn G pn op) := fun pins s σ H x u Q I rx ⟨α, h, dx, E, hr, qx, p⟩ => unop_ok gk I hr qx rx p
  refine PEs (pe_un ho ha) fun σ H Q ⟨α, env, h, sr, hr, p⟩ => ?_
  exact tE.bind sr hr p fun d h1 α1 H1 v r1 q1 sr1 _ _ p1 => ⟨α1, h1, d, _, r1, q1, p1⟩
theorem tT.bind {f : Sh} {A : Type} {g : Bool → Hh → Res A} {QA : A → List Addr → Hp → Prop} {R : Bool → Hp → Prop} (sr : SR G pn α H env σ) (hr : HR G pn α h H) (p : Post G pn (((f env h).bind truthR).bind g) α H QA (EW W σ))
    (k : ∀ (d : Bool) (h1 : Hh) (α1 : List Addr) (H1 : Hp), HR G pn α1 h1 H1 → SR G pn α1 H1 env σ → α <+: α1 → Fix H H1 → Post G pn (g d h1) α1 H1 QA (EW W σ) → R d H1) : tT G pn W f σ H R := by
  refine ⟨α, env, h, sr, hr, ?_⟩
  cases hf : (f env h).bind truthR with
  | ok d h1 =>
    rw [hf] at p
    exact fun α1 H1 m r => k d h1 α1 H1 r (sr.mono m.pre (hr.fix m)) m.pre (hr.fix m) (Post.move p m)
  | exc x h1 =>
    rw [hf] at p
    exact p
  | bad =>
    rw [hf] at p
    exact p.elim
theorem if_test {f : Sh} {A : Type} (a b : Hh → Res A) : ((f env h).bind fun x h1 => match truth h1 x with | some true => a h1 | some false => b h1 | none => .bad) = ((f env h).bind truthR).bind fun c h1 => if c = true then a h1 else b h1 := by
  rw [Res.bind_assoc]
  congr 1
  funext x h1
  unfold truthR
  cases truth h1 x with
  | none => rfl
  | some c => cases c <;> rfl
theorem eIf_eq {fc fa fb : Sh} : eIf fc fa fb env h = ((fc env h).bind truthR).bind fun c h1 => if c = true then fa env h1 else fb env h1 := if_test (f := fc) (fun h1 => fa env h1) fun h1 => fb env h1
theorem snd_not (ha : PT X a (tT G pn W fa)) {pos : Pos} : PT X (.UnaryOp .Not a pos) (tT G pn W (eUn .Not fa)) := by
  refine PTs_ (pt_not ha) fun σ H Q ⟨α, env, h, sr, hr, p⟩ => ?_
  have e : ((eUn .Not fa) env h).bind truthR = ((fa env h).bind truthR).bind fun b h1 => .ok (!b) h1 := by
    unfold eUn
    rw [Res.bind_assoc, Res.bind_assoc]
    congr 1
    funext x h1
    show (unop .Not x h1).bind truthR = (truthR x h1).bind _
    have eu : unop .Not x h1 = match truth h1 x with
      | some b => .ok (.bl (!b)) h1
      | none => .bad := by cases x <;> rfl
    rw [eu]
    unfold truthR
    cases truth h1 x <;> rfl
  rw [e] at p
  exact tT.bind sr hr p fun d h1 α1 H1 r1 sr1 m1 f1 p1 => p1.ok0 r1
theorem snd_neg (gk : G.K = X.K) {op : UnaryOp} {a : Expr} {fa : Sh} {pos : Pos} (ha : PE X a (tE G pn W fa)) (hn : op ≠ .Not) : PT X (.UnaryOp op a pos) (tT G pn W (eUn op fa)) := by
  refine pt_v gk (snd_un gk ha) fun whole => ?_
  cases op <;> first | rfl | exact absurd rfl hn
/-! ### if -/
theorem snd_if {c a b : Expr} {fc fa fb : Sh} {pos : Pos} (hc : PT X c (tT G pn W fc)) (ha : PE X a (tE G pn W fa)) (hb : PE X b (tE G pn W fb)) : PE X (.IfExp c a b pos) (tE G pn W (eIf fc fa fb)) := by
  refine PEs (pe_ifExp hc ha hb) fun σ H Q ⟨α, env, h, sr, hr, p⟩ => ?_
  rw [eIf_eq] at p
  refine tT.bind sr hr p fun d h1 α1 H1 r1 sr1 m1 f1 p1 => ?_
  cases d with
  | true => exact ⟨α1, env, h1, sr1, r1, p1⟩
  | false => exact ⟨α1, env, h1, sr1, r1, p1⟩
theorem snd_ifT {c a b : Expr} {fc fa fb : Sh} {pos : Pos} (hc : PT X c (tT G pn W fc)) (ha : PT X a (tT G pn W fa)) (hb : PT X b (tT G pn W fb)) : PT X (.IfExp c a b pos) (tT G pn W (eIf fc fa fb)) := by
  refine ⟨fun pins s σ H Q I ⟨α, env, h, sr, hr, p⟩ => ?_⟩
  have e : ((eIf fc fa fb) env h).bind truthR = ((fc env h).bind truthR).bind fun b h1 => if b = true then (fa env h1).bind truthR else (fb env h1).bind truthR := by
    rw [eIf_eq, Res.bind_assoc]
    congr 1
    funext x h1
    cases x <;> rfl
  rw [e] at p
  show wpAny _ _ (isTrue c X.env (eval c X.env) >>= _) _ _ s
  refine wpAny_bind (thn (hc.run pins s σ H (fun d H1 => ∃ α1 h1, HR G pn α1 h1 H1 ∧ SR G pn α1 H1 env σ ∧ Post G pn (if d = true then (fa env h1).bind truthR else (fb env h1).bind truthR) α1 H1 (QB Q) (EW W σ)) I (tT.bind sr hr p fun d h1 α1 H1 r1 sr1 m1 f1 p1 => ⟨α1, h1, r1, sr1, p1⟩)) fun d s1 ⟨H1, I1, α1, h1, r1, sr1, p1⟩ => ?_)
  cases d with
  | true => exact ha.run pins s1 σ H1 Q I1 ⟨α1, env, h1, sr1, r1, p1⟩
  | false => exact hb.run pins s1 σ H1 Q I1 ⟨α1, env, h1, sr1, r1, p1⟩
/-! ### and, or -/
theorem snd_and (gk : G.K = X.K) {a b : Expr} {rest : List Expr} {fa fb : Sh} {pos : Pos} (ha : PE X a (tE G pn W fa)) (hb : PE X (.BoolOp .And (b :: rest) pos) (tE G pn W fb)) : PE X (.BoolOp .And (a :: b :: rest) pos) (tE G pn W (eAnd fa fb)) := by
  refine ⟨fun pins s σ H Q I ⟨α, env, h, sr, hr, p⟩ => ?_⟩
  refine BoolOp_and (thn (ha.run pins s σ H (fun v H1 => ∃ α1 h1 d, HR G pn α1 h1 H1 ∧ VR G pn α1 H1 d v ∧ SR G pn α1 H1 env σ ∧ Post G pn (match truth h1 d with | some true => fb env h1 | some false => .ok d h1 | none => .bad) α1 H1 (QV G pn Q) (EW W σ)) I
    (tE.bind sr hr p fun d h1 α1 H1 v r1 q1 sr1 _ _ p1 => ⟨α1, h1, d, r1, q1, sr1, p1⟩)) fun v s1 ⟨x, H1, I1, rx, α1, h1, d, r1, q1, sr1, p1⟩ => ?_)
  cases e : truth h1 d with
  | none => rw [e] at p1; exact p1.elim
  | some c =>
    rw [e] at p1
    refine thn (truth_ok gk I1 r1 q1 rx e (Q := fun c' H' => c' = c ∧ H' = H1) ⟨rfl, rfl⟩) fun c' s2 ⟨H2, I2, e1, e2⟩ => ?_
    subst e1 e2
    cases c' with
    | true => exact hb.run pins s2 σ H2 Q I2 ⟨α1, env, h1, sr1, r1, p1⟩
    | false => exact ⟨x, H2, I2, rx, p1.ok0 r1 x q1⟩
theorem snd_or (gk : G.K = X.K) {a b : Expr} {rest : List Expr} {fa fb : Sh} {pos : Pos} (ha : PE X a (tE G pn W fa)) (hb : PE X (.BoolOp .Or (b :: rest) pos) (tE G pn W fb)) : PE X (.BoolOp .Or (a :: b :: rest) pos) (tE G pn W (eOr fa fb)) := by
  refine ⟨fun pins s σ H Q I ⟨α, env, h, sr, hr, p⟩ => ?_⟩
  refine BoolOp_or (thn (ha.run pins s σ H (fun v H1 => ∃ α1 h1 d, HR G pn α1 h1 H1 ∧ VR G pn α1 H1 d v ∧ SR G pn α1 H1 env σ ∧ Post G pn (match truth h1 d with | some true => .ok d h1 | some false => fb env h1 | none => .bad) α1 H1 (QV G pn Q) (EW W σ)) I
    (tE.bind sr hr p fun d h1 α1 H1 v r1 q1 sr1 _ _ p1 => ⟨α1, h1, d, r1, q1, sr1, p1⟩)) fun v s1 ⟨x, H1, I1, rx, α1, h1, d, r1, q1, sr1, p1⟩ => ?_)
  cases e : truth h1 d with
  | none => rw [e] at p1; exact p1.elim
  | some c =>
    rw [e] at p1
    refine thn (truth_ok gk I1 r1 q1 rx e (Q := fun c' H' => c' = c ∧ H' = H1) ⟨rfl, rfl⟩) fun c' s2 ⟨H2, I2, e1, e2⟩ => ?_
    subst e1 e2
    cases c' with
    | false => exact hb.run pins s2 σ H2 Q I2 ⟨α1, env, h1, sr1, r1, p1⟩
    | true => exact ⟨x, H2, I2, rx, p1.ok0 r1 x q1⟩
theorem eAnd_t {fa fb : Sh} : ((eAnd fa fb) env h).bind truthR = ((fa env h).bind truthR).bind fun b h1 => if b = true then (fb env h1).bind truthR else .ok false h1 := by
  unfold eAnd
  rw [Res.bind_assoc, Res.bind_assoc]
  congr 1
  funext x h1
  unfold truthR
  cases e : truth h1 x with
  | none => rfl
  | some c =>
    cases c with
    | true => rfl
    | false => simp [e]
theorem eOr_t {fa fb : Sh} : ((eOr fa fb) env h).bind truthR = ((fa env h).bind truthR).bind fun b h1 => if b = true then .ok true h1 else (fb env h1).bind truthR := by
  unfold eOr
  rw [Res.bind_assoc, Res.bind_assoc]
  congr 1
  funext x h1
  unfold truthR
  cases e : truth h1 x with
  | none => rfl
  | some c =>
    cases c with
    | true => simp [e]
    | false => rfl
theorem snd_andT {a b : Expr} {rest : List Expr} {fa fb : Sh} {pos : Pos} (ha : PT X a (tT G pn W fa)) (hb : PW X (.BoolOp .And (b :: rest) pos) (tT G pn W fb)) : PW X (.BoolOp .And (a :: b :: rest) pos) (tT G pn W (eAnd fa fb)) := by
  refine ⟨fun wh pins s σ H Q I ⟨α, env, h, sr, hr, p⟩ => (pw_and ha hb).run wh pins s σ H Q I ?_⟩
  rw [eAnd_t] at p
  refine tT.bind sr hr p fun d h1 α1 H1 r1 sr1 m1 f1 p1 => ?_
  cases d with
  | true => exact ⟨α1, env, h1, sr1, r1, p1⟩
  | false => exact p1.ok0 r1
theorem snd_orT {a b : Expr} {rest : List Expr} {fa fb : Sh} {pos : Pos} (ha : PT X a (tT G pn W fa)) (hb : PW X (.BoolOp .Or (b :: rest) pos) (tT G pn W fb)) : PW X (.BoolOp .Or (a :: b :: rest) pos) (tT G pn W (eOr fa fb)) := by
  refine ⟨fun wh pins s σ H Q I ⟨α, env, h, sr, hr, p⟩ => (pw_or ha hb).run wh pins s σ H Q I ?_⟩
  rw [eOr_t] at p
  refine tT.bind sr hr p fun d h1 α1 H1 r1 sr1 m1 f1 p1 => ?_
  cases d with
  | true => exact p1.ok0 r1
  | false => exact ⟨α1, env, h1, sr1, r1, p1⟩
end
end Ev

set_option maxRecDepth 100000
set_option maxHeartbeats 1000000
/-! soundness: comparisons, displays, subscripts, calls of built-ins -/
namespace Ev
open PySem PySem.Spec PyProof.Rows L2
section
variable {G : Gd} {pn : List (Addr × Obj)} {X : Cx} {W : WX} {pins : List (Addr × Obj)} {s : Shared} {σ : L2.St} {H : Hp} {α : List Addr} {env : Env} {h : Hh}
/-! ### comparisons -/
def rCmp (G : Gd) (pn : List (Addr × Obj)) (op : CmpOp) : R2 := fun x y H Q => ∃ α h dx dy E, HR G pn α h H ∧ VR G pn α H dx x ∧ VR G pn α H dy y ∧ Post G pn (pcmp (cmpop op dx dy h) h) α H (QV G pn Q) E
theorem or_cmp (gk : G.K = X.K) (hu : X.A.units + 66 < cLine) (op : CmpOp) : OpR X (compareOp op) (rCmp G pn op) := fun pins s σ H x y u v Q I rx ry ⟨α, h, dx, dy, E, hr, qx, qy, p⟩ => cmp_ok gk hu I hr qx qy rx ry p
theorem pcmp_elim {o : Option Bool} {Q : D → List Addr → Hp → Prop} {E : Value → Option Addr → Hp → Prop} (p : Post G pn (pcmp o h) α H Q E) : ∃ b, o = some b ∧ Post G pn (.ok (.bl b) h) α H Q E := by
  cases o with
  | none => exact p.elim
  | some b => exact ⟨b, rfl, p⟩
theorem eCmp_eq {op : CmpOp} {fa fb : Sh} : eCmp op fa fb env h = (fa env h).bind fun x h1 => (fb env h1).bind fun y h2 => pcmp (cmpop op x y h2) h2 := rfl
theorem snd_cmp (gk : G.K = X.K) (hu : X.A.units + 66 < cLine) {op : CmpOp} {a b : Expr} {fa fb : Sh} {pos : Pos} (ha : PE X a (tE G pn W fa)) (hb : PE X b (tE G pn W fb)) (hm : behindInMarks op b = false) : PE X (.Compare a [op] [b] pos) (tE G pn W (eCmp op fa fb)) := by
  refine PEs (pe_cmpR (or_cmp (pn := pn) gk hu op) ha hb hm) fun σ H Q ⟨α, env, h, sr, hr, p⟩ => ?_
  rw [eCmp_eq] at p
  exact tE.bind sr hr p fun d h1 α1 H1 v r1 q1 sr1 _ _ p1 => tE.bind sr1 r1 p1 fun d2 h2 α2 H2 v2 r2 q2 sr2 m2 f2 p2 => ⟨α2, h2, d, d2, _, r2, q1.mono m2 f2, q2, p2⟩
theorem bl_truth {b : Bool} : truth h (.bl b) = some b := rfl
theorem snd_cmpT (gk : G.K = X.K) (hu : X.A.units + 66 < cLine) {op : CmpOp} {a b : Expr} {fa fb : Sh} {pos : Pos} (ha : PE X a (tE G pn W fa)) (hb : PE X b (tE G pn W fb)) (hm : behindInMarks op b = false) : PT X (.Compare a [op] [b] pos) (tT G pn W (eCmp op fa fb)) := by
  refine PTs_ (pt_cmpR (or_cmp (pn := pn) gk hu op) ha hb hm) fun σ H Q ⟨α, env, h, sr, hr, p⟩ => ?_
  have e : (eCmp op fa fb env h).bind truthR = (fa env h).bind fun x h1 => (fb env h1).bind fun y h2 => (pcmp (cmpop op x y h2) h2).bind truthR := by
    rw [eCmp_eq, Res.bind_assoc]
    congr 1
    funext x h1
    exact Res.bind_assoc _ _ _
  rw [e] at p
  refine tE.bind sr hr p fun d h1 α1 H1 v r1 q1 sr1 _ _ p1 => tE.bind sr1 r1 p1 fun d2 h2 α2 H2 v2 r2 q2 sr2 m2 f2 p2 => ⟨α2, h2, d, d2, EW W σ, r2, q1.mono m2 f2, q2, ?_⟩
  cases o : cmpop op d d2 h2 with
  | none => rw [o] at p2; exact p2.elim
  | some b =>
    rw [o] at p2
    have p2 : Post G pn (.ok b h2) α2 H2 (QB Q) (EW W σ) := p2
    intro α' H' m r v q
    exact ⟨b, q.bl_eq, p2 α' H' m r⟩
theorem eChain_eq {op op2 : CmpOp} {fa fb fc : Sh} : eChain op op2 fa fb fc env h = (fa env h).bind fun x h1 => (fb env h1).bind fun y h2 => match cmpop op x y h2 with
  | some true => (fc env h2).bind fun z h3 => pcmp (cmpop op2 y z h3) h3
  | some false => .ok (.bl false) h2
  | none => .bad := rfl
theorem snd_chain (gk : G.K = X.K) (hu : X.A.units + 66 < cLine) {op op2 : CmpOp} {a b c : Expr} {fa fb fc : Sh} {pos : Pos} (ha : PE X a (tE G pn W fa)) (hb : PE X b (tE G pn W fb)) (hc : PE X c (tE G pn W fc)) (hm : lastMarks [op, op2] [b, c] = false) : PE X (.Compare a [op, op2] [b, c] pos) (tE G pn W (eChain op op2 fa fb fc)) := by
  refine PEs (pe_chain (or_cmp (pn := pn) gk hu op) (or_cmp (pn := pn) gk hu op2) ha hb hc hm) fun σ H Q ⟨α, env, h, sr, hr, p⟩ => ?_
  rw [eChain_eq] at p
  refine tE.bind sr hr p fun d h1 α1 H1 v r1 q1 sr1 _ _ p1 => tE.bind sr1 r1 p1 fun d2 h2 α2 H2 v2 r2 q2 sr2 m2 f2 p2 => ⟨α2, h2, d, d2, EW W σ, r2, q1.mono m2 f2, q2, ?_⟩
  cases o : cmpop op d d2 h2 with
  | none => rw [o] at p2; exact p2.elim
  | some k =>
    rw [o] at p2
    intro α3 H3 m3 r3 v3 q3
    refine ⟨k, q3.bl_eq, ?_⟩
    have sr3 := sr2.mono m3.pre (r2.fix m3)
    have p3 := Post.move p2 m3
    have q2' := q2.mono m3.pre (r2.fix m3)
    cases k with
    | false => exact p3.ok0 r3 _ (.bl _)
    | true => exact tE.bind sr3 r3 p3 fun d4 h4 α4 H4 v4 r4 q4 sr4 m4 f4 p4 => ⟨α4, h4, d2, d4, _, r4, q2'.mono m4 f4, q4, p4⟩
theorem snd_chainT (gk : G.K = X.K) (hu : X.A.units + 66 < cLine) {op op2 : CmpOp} {a b c : Expr} {fa fb fc : Sh} {pos : Pos} (ha : PE X a (tE G pn W fa)) (hb : PE X b (tE G pn W fb)) (hc : PE X c (tE G pn W fc)) (hm : lastMarks [op, op2] [b, c] = false) : PT X (.Compare a [op, op2] [b, c] pos) (tT G pn W (eChain op op2 fa fb fc)) := by
  refine PTs_ (pt_chain (or_cmp (pn := pn) gk hu op) (or_cmp (pn := pn) gk hu op2) ha hb hc hm) fun σ H Q ⟨α, env, h, sr, hr, p⟩ => ?_
  have e : (eChain op op2 fa fb fc env h).bind truthR = (fa env h).bind fun x h1 => (fb env h1).bind fun y h2 => match cmpop op x y h2 with
      | some true => (fc env h2).bind fun z h3 => (pcmp (cmpop op2 y z h3) h3).bind truthR
      | some false => .ok false h2
      | none => .bad := by
    rw [eChain_eq, Res.bind_assoc]
    congr 1
    funext x h1
    rw [Res.bind_assoc]
    congr 1
    funext y h2
    cases cmpop op x y h2 with
    | none => rfl
    | some k =>
      cases k with
      | true => exact Res.bind_assoc _ _ _
      | false => rfl
  rw [e] at p
  refine tE.bind sr hr p fun d h1 α1 H1 v r1 q1 sr1 _ _ p1 => tE.bind sr1 r1 p1 fun d2 h2 α2 H2 v2 r2 q2 sr2 m2 f2 p2 => ⟨α2, h2, d, d2, EW W σ, r2, q1.mono m2 f2, q2, ?_⟩
  cases o : cmpop op d d2 h2 with
  | none => rw [o] at p2; exact p2.elim
  | some k =>
    rw [o] at p2
    intro α3 H3 m3 r3 v3 q3
    refine ⟨k, q3.bl_eq, ?_⟩
    have sr3 := sr2.mono m3.pre (r2.fix m3)
    have p3 := Post.move p2 m3
    have q2' := q2.mono m3.pre (r2.fix m3)
    cases k with
    | false => exact ⟨false, rfl, Post.ok0 p3 r3⟩
    | true =>
      refine tE.bind sr3 r3 p3 fun d4 h4 α4 H4 v4 r4 q4 sr4 m4 f4 p4 => ⟨α4, h4, d2, d4, EW W σ, r4, q2'.mono m4 f4, q4, ?_⟩
      cases o2 : cmpop op2 d2 d4 h4 with
      | none => rw [o2] at p4; exact p4.elim
      | some b =>
        rw [o2] at p4
        have p4 : Post G pn (.ok b h4) α4 H4 (QB Q) (EW W σ) := p4
        intro α' H' m r v q
        exact ⟨b, q.bl_eq, p4 α' H' m r⟩
/-! ### arguments, displays -/
theorem snd_anil : PA X [] (tA G pn W []) := ⟨fun pos pins s σ H Q I ⟨α, env, h, sr, hr, p⟩ => pa_nil.run pos pins s σ H Q I (p.ok0 hr [] .nil)⟩
theorem snd_acons {e : Expr} {es : List Expr} {f : Sh} {fs : List Sh} (he : PE X e (tE G pn W f)) (hs : PA X es (tA G pn W fs)) (hst : starEach (e :: es) X.env = (false, eval e X.env) :: starEach es X.env) : PA X (e :: es) (tA G pn W (f :: fs)) := by
  refine ⟨fun pos pins s σ H Q I ⟨α, env, h, sr, hr, p⟩ => (pa_cons he hs hst).run pos pins s σ H Q I ?_⟩
  exact tE.bind sr hr p fun d h1 α1 H1 v r1 q1 sr1 _ _ p1 => tA.bind sr1 r1 p1 fun ds h2 α2 H2 vs r2 q2 sr2 m2 f2 p2 => p2.ok0 r2 _ (.cons (q1.mono m2 f2) q2)
theorem snd_tup {es : List Expr} {k : Nat} {fs : List Sh} {pos : Pos} (hl : fs.length ≤ lim) (hs : PA X es (tA G pn W fs)) : PE X (.Tuple es k pos) (tE G pn W (eTup fs)) := by
  refine PEs (pe_tup hs) fun σ H Q ⟨α, env, h, sr, hr, p⟩ => ?_
  refine ⟨α, env, h, sr, hr, ?_⟩
  unfold eTup at p
  cases hf : eArgs fs env h with
  | ok ds h1 =>
    rw [hf] at p
    have hlen : ds.length = fs.length := eArgs_len hf
    intro α1 H1 m r1 vs q1
    refine ⟨lim_line (by rw [← q1.length, hlen]; exact hl), fun a ha => ?_⟩
    exact Post.newT (Post.move p m) r1 q1 ha
  | exc x h1 => rw [hf] at p; exact p
  | bad => rw [hf] at p; exact p.elim
where
  eArgs_len : ∀ {fs : List Sh} {env : Env} {h h1 : Hh} {ds : List D}, eArgs fs env h = .ok ds h1 → ds.length = fs.length
    | [], env, h, h1, ds, e => by cases e; rfl
    | f :: r, env, h, h1, ds, e => by
      unfold eArgs at e
      cases e1 : f env h with
      | ok d h2 =>
        rw [e1] at e
        cases e2 : eArgs r env h2 with
        | ok d2 h3 =>
          have e' : Res.ok (d :: d2) h3 = Res.ok ds h1 := by rw [← e]; simp [e2]
          cases e'
          rw [List.length_cons, List.length_cons, eArgs_len e2]
        | exc x h3 => simp [e2] at e
        | bad => simp [e2] at e
      | exc x h2 => rw [e1] at e; cases e
      | bad => rw [e1] at e; cases e
theorem snd_lst {es : List Expr} {fs : List Sh} {pos : Pos} (hl : fs.length ≤ lim) (hs : PA X es (tA G pn W fs)) : PE X (.List es pos) (tE G pn W (eLst fs)) := by
  refine PEs (pe_lst hs) fun σ H Q ⟨α, env, h, sr, hr, p⟩ => ?_
  refine ⟨α, env, h, sr, hr, ?_⟩
  unfold eLst at p
  cases hf : eArgs fs env h with
  | ok ds h1 =>
    rw [hf] at p
    have hlen : ds.length = fs.length := snd_tup.eArgs_len hf
    intro α1 H1 m r1 vs q1
    refine ⟨lim_line (by rw [← q1.length, hlen]; exact hl), fun a ha => ?_⟩
    exact Post.newL (Post.move p m) r1 q1 ha
  | exc x h1 => rw [hf] at p; exact p
  | bad => rw [hf] at p; exact p.elim
/-! ### subscripts -/
def rIx (G : Gd) (pn : List (Addr × Obj)) : R2 := fun x y H Q => ∃ α h dx dy E, HR G pn α h H ∧ VR G pn α H dx x ∧ VR G pn α H dy y ∧ Post G pn (pItem (getItem dx dy h) h) α H (QV G pn Q) E
theorem eItem_eq {fa fb : Sh} : eItem fa fb env h = (fa env h).bind fun x h1 => (fb env h1).bind fun y h2 => pItem (getItem x y h2) h2 := rfl
theorem snd_item (gk : G.K = X.K) (hu : X.A.units + 66 < cLine) {a b : Expr} {fa fb : Sh} {pos : Pos} (ha : PE X a (tE G pn W fa)) (hb : PE X b (tE G pn W fb)) (hs : PlainIx b) : PE X (.Subscript a b pos) (tE G pn W (eItem fa fb)) := by
  have ho : IxR X (rIx G pn) := fun value slice pins s σ H x y u v Q I rx ry ⟨α, h, dx, dy, E, hr, qx, qy, p⟩ hh => item_ok gk hu I hr qx qy rx ry hh p
  refine PEs (pe_ix ho ha hb hs) fun σ H Q ⟨α, env, h, sr, hr, p⟩ => ?_
  rw [eItem_eq] at p
  exact tE.bind sr hr p fun d h1 α1 H1 v r1 q1 sr1 _ _ p1 => tE.bind sr1 r1 p1 fun d2 h2 α2 H2 v2 r2 q2 sr2 m2 f2 p2 => ⟨α2, h2, d, d2, _, r2, q1.mono m2 f2, q2, p2⟩
end
end Ev

set_option maxRecDepth 100000
set_option maxHeartbeats 1000000
/-! soundness: slices, calls of built-ins, their methods, stores by values -/
namespace Ev
open PySem PySem.Spec PyProof.Rows L2
section
variable {G : Gd} {pn : List (Addr × Obj)} {X : Cx} {W : WX} {pins : List (Addr × Obj)} {s : Shared} {σ : L2.St} {H : Hp} {α : List Addr} {env : Env} {h : Hh}
/-! ### slices -/
def tO (G : Gd) (pn : List (Addr × Obj)) (W : WX) (f : Option Sh) : TO := fun σ H Q => ∃ α env h, SR G pn α H env σ ∧ HR G pn α h H ∧ Post G pn (eEnd f env h) α H (fun o _ H' => Q o H') (EW W σ)
theorem tO.bind {f : Option Sh} {A : Type} {g : Option Int → Hh → Res A} {QA : A → List Addr → Hp → Prop} {R : Option Int → Hp → Prop} (sr : SR G pn α H env σ) (hr : HR G pn α h H) (p : Post G pn ((eEnd f env h).bind g) α H QA (EW W σ))
    (k : ∀ (d : Option Int) (h1 : Hh) (α1 : List Addr) (H1 : Hp), HR G pn α1 h1 H1 → SR G pn α1 H1 env σ → α <+: α1 → Fix H H1 → Post G pn (g d h1) α1 H1 QA (EW W σ) → R d H1) : tO G pn W f σ H R := by
  refine ⟨α, env, h, sr, hr, ?_⟩
  cases hf : eEnd f env h with
  | ok d h1 =>
    rw [hf] at p
    exact fun α1 H1 m r => k d h1 α1 H1 r (sr.mono m.pre (hr.fix m)) m.pre (hr.fix m) (Post.move p m)
  | exc x h1 =>
    rw [hf] at p
    exact p
  | bad =>
    rw [hf] at p
    exact p.elim
theorem snd_onone : PO X none (tO G pn W none) := ⟨fun pins s σ H Q I ⟨α, env, h, sr, hr, p⟩ => po_none.run pins s σ H Q I (p.ok0 hr)⟩
theorem snd_osome {e : Expr} {f : Sh} (he : PE X e (tE G pn W f)) : PO X (some e) (tO G pn W (some f)) := by
  refine ⟨fun pins s σ H Q I ⟨α, env, h, sr, hr, p⟩ => (po_some he).run pins s σ H Q I ?_⟩
  refine tE.bind (g := fun x h1 => match x with
    | .int i => .ok (some i) h1
    | _ => .bad) sr hr p fun d h1 α1 H1 v r1 q1 sr1 _ _ p1 => ?_
  cases d with
  | int i => exact ⟨i, q1.int_eq, Post.ok0 p1 r1⟩
  | _ => exact p1.elim
def rSl (G : Gd) (pn : List (Addr × Obj)) : V → Option Int → Option Int → Hp → VK → Prop := fun x lo hi H Q => ∃ α h dx E, HR G pn α h H ∧ VR G pn α H dx x ∧ Post G pn (getSlice dx lo hi h) α H (QV G pn Q) E
theorem snd_slice (gk : G.K = X.K) {e : Expr} {lo hi : Option Expr} {fe : Sh} {fl fh : Option Sh} {p2 pos : Pos} (he : PE X e (tE G pn W fe)) (hl : PO X lo (tO G pn W fl)) (hh : PO X hi (tO G pn W fh)) :
    PE X (.Subscript e (.Slice lo hi none p2) pos) (tE G pn W (eSlice fe fl fh)) := by
  have ho : SlR X (rSl G pn) := fun pins s σ H x v vl vu lo hi sl Q I rx hs pl pu ⟨α, h, dx, E, hr, qx, p⟩ => slice_ok gk I hr qx rx hs pl pu p
  refine PEs (pe_slice ho he hl hh) fun σ H Q ⟨α, env, h, sr, hr, p⟩ => ?_
  unfold eSlice at p
  exact tE.bind sr hr p fun d h1 α1 H1 v r1 q1 sr1 _ _ p1 => tO.bind sr1 r1 p1 fun l h2 α2 H2 r2 sr2 m2 f2 p2 => tO.bind sr2 r2 p2 fun u h3 α3 H3 r3 sr3 m3 f3 p3 => ⟨α3, h3, d, _, r3, (q1.mono m2 f2).mono m3 f3, p3⟩
/-! ### calls of built-in functions -/
def rBF (G : Gd) (pn : List (Addr × Obj)) (f : BF) : List V → Hp → VK → Prop := fun xs H Q => ∃ α h ds E, HR G pn α h H ∧ VRs G pn α H ds xs ∧ Post G pn (bfun f ds h) α H (QV G pn Q) E
theorem bf_nil (f : BF) : bfun f [] h = .bad := by cases f <;> rfl
inductive IsBF : BF → Prop
  | b {f : BF} {id : String} : bfV f = .builtin id → IsBF f
  | t {f : BF} {T : String} : bfV f = .type T → IsBF f
theorem snd_bf (gk : G.K = X.K) (hc : X.calm = true) (hsys : ∃ o, X.base.get? sysModules = some o) (hgd : X.A.guards = some []) (hu : X.A.units + 66 < cLine) {f : BF} {x : Str} {p pos : Pos} {es : List Expr} {fs : List Sh} (hg : Gl X x) (hm : X.mg x = none) (hv : bootBuiltins x = some (bfV f))
    (hn : x ≠ "__name__") (hdb : (x == ("__debug__" : Str)) = false) (ha : PA X es (tA G pn W fs)) (hl : es.length = fs.length)
    (he : ∀ e r, es = e :: r → starEach (e :: r) X.env = (false, eval e X.env) :: starEach r X.env) (hpl : ∀ e r, es = e :: r → (backTo pos (starEach r X.env)).any (·.1) = false) : PE X (.Call (.Name x p) es [] pos) (tE G pn W (eBF f fs)) := by
  cases es with
  | nil =>
    have : fs = [] := List.length_eq_zero_iff.mp hl.symm
    subst this
    refine ⟨fun pins s σ H Q I ⟨α, env, h, sr, hr, p⟩ => ?_⟩
    have p : Post G pn (bfun f [] h) α H (QV G pn Q) (EW W σ) := p
    rw [bf_nil] at p
    exact p.elim
  | cons e r =>
    have hcall : ∀ v, bfV f = v → CallR X v (rBF G pn f) := fun v ev pins s σ H xs us Q I rv ⟨α, h, ds, E, hr, q, p⟩ => by
      rw [← ev]
      exact bfun_ok gk hc hsys hgd hu I hr q rv p
    have fin : ∀ σ H Q, tE G pn W (eBF f fs) σ H Q → tCB (rBF G pn f) (tA G pn W fs) σ H Q := fun σ H Q ⟨α, env, h, sr, hr, p⟩ => tA.bind sr hr p fun ds h1 α1 H1 vs r1 q1 sr1 _ _ p1 => ⟨α1, h1, ds, _, r1, q1, p1⟩
    cases hb : bfV f with
    | builtin id => exact PEs (pe_callB (hcall _ hb) hg hm (hb ▸ hv) ha hn hdb (he e r rfl) (hpl e r rfl)) fin
    | type T => exact PEs (pe_callTy (hcall _ hb) hg hm (hb ▸ hv) ha hn hdb (he e r rfl) (hpl e r rfl)) fin
    | _ => cases f <;> cases hb
/-! ### methods of built-ins -/
def kdT : Kd → String
  | .str => "str" | .lst => "list" | .dic => "dict"
def bmN : BM → Str
  | .append => "append" | .extend => "extend" | .pop => "pop" | .reverse => "reverse" | .clear => "clear" | .get => "get" | .join => "join" | .split => "split" | .upper => "upper"
  | .items => "items" | .values => "values" | .keys => "keys" | .update => "update" | .index => "index" | .count => "count"
def bmId : BM → String
  | .append => "list.append" | .extend => "list.extend" | .pop => "list.pop" | .reverse => "list.reverse" | .clear => "list.clear" | .get => "dict.get" | .join => "str.join" | .split => "str.split" | .upper => "str.upper"
  | .items => "dict.items" | .values => "dict.values" | .keys => "dict.keys" | .update => "dict.update" | .index => "list.index" | .count => "list.count"
theorem bm_facts {k : Kd} {m : BM} (e : bmK k m = true) : PlainAttrs (kdT k) ∧ Slot (kdT k) (bmN m) (bmId m) ∧ typeOf (.builtin (bmId m)) = pure (.type "method_descriptor") := by
  cases m <;> cases k <;> first
    | exact absurd e (by decide)
    | exact ⟨PySem.F.plainAttrs_list, PySem.F.slot_list_append, PySem.F.type_list_append⟩
    | exact ⟨PySem.F.plainAttrs_list, PySem.F.slot_list_extend, PySem.F.type_list_extend⟩
    | exact ⟨PySem.F.plainAttrs_list, PySem.F.slot_list_pop, PySem.F.type_list_pop⟩
    | exact ⟨PySem.F.plainAttrs_list, PySem.F.slot_list_reverse, PySem.F.type_list_reverse⟩
    | exact ⟨PySem.F.plainAttrs_list, PySem.F.slot_list_clear, PySem.F.type_list_clear⟩
    | exact ⟨PySem.F.plainAttrs_dict, PySem.F.slot_dict_get, PySem.F.type_dict_get⟩
    | exact ⟨PySem.F.plainAttrs_str, PySem.F.slot_str_join, PySem.F.type_str_join⟩
    | exact ⟨PySem.F.plainAttrs_str, PySem.F.slot_str_split, PySem.F.type_str_split⟩
    | exact ⟨PySem.F.plainAttrs_str, PySem.F.slot_str_upper, PySem.F.type_str_upper⟩
theorem kd_is (I : L2.Inv X pins σ H s) (hr : HR G pn α h H) {x : D} {v : V} {u : Value} {k : Kd} (q : VR G pn α H x v) (r : RelV v u) (e : kdOf h x = some k) :
    s.TypeIs u (kdT k) ∧ ∀ a, u = .ref a → ∃ ob, s.heap.get? a = some ob ∧ ob.dict = none := by
  unfold kdOf at e
  split at e
  · cases e
    rw [q.str_eq] at r
    exact tyV_is (T := "str") I r (show tyV X.K "str" _ H from rfl)
  · split at e
    · rename_i fz xs eo
      cases e
      obtain ⟨a, rfl, ea⟩ := q.ref_eq
      obtain ⟨vs, hv, rr⟩ := hr.lstR ea eo
      exact tyV_is (T := "list") I r (.inl ⟨rfl, vs, .inl hv⟩)
    · rename_i lk kvs eo
      cases e
      obtain ⟨a, rfl, ea⟩ := q.ref_eq
      obtain ⟨w, hv, dr⟩ := hr.dicR ea eo
      cases r
      have hd : IsD H a := by
        cases dr with
        | k => exact .inl ⟨_, hv⟩
        | t => exact .inr ⟨_, hv⟩
      obtain ⟨t1, t2, _⟩ := isD_at I hd
      exact ⟨t1, t2⟩
    · cases e
  · cases e
theorem HR.fixA (hr : HR G pn α h H) {b : Nat} {a : Addr} (ea : α[b]? = some a) {u : HO} : Fix H (upd H a u) := by
  obtain ⟨_, _, _, _, o⟩ := hr.at_ (List.mem_of_getElem? ea)
  obtain ⟨u0, e0, n1, n2, n3⟩ := o.no
  exact ⟨fun b xs e => by rw [upd_ne (fun z => by rw [z, e0] at e; cases e; exact n1 _ rfl)]; exact e, fun b xs e => by rw [upd_ne (fun z => by rw [z, e0] at e; cases e; exact n2 _ rfl)]; exact e⟩
theorem VRs.upd_ {xs : List D} {vs : List V} (q : VRs G pn α H xs vs) (hr : HR G pn α h H) {b : Nat} {a : Addr} (ea : α[b]? = some a) {u : HO} : VRs G pn α (upd H a u) xs vs := q.mono (List.prefix_refl _) (hr.fixA ea)
theorem strs_rel : ∀ l : List Str, (∀ z ∈ l, z.length ≤ lim) → VRs G pn α H (l.map .str) (l.map V.str)
  | [], _ => .nil
  | a :: r, k => .cons (.str a (k a List.mem_cons_self)) (strs_rel r fun z hz => k z (List.mem_cons_of_mem _ hz))
theorem seq_ix {n k : Nat} {i : Int} (e : Ev.ixN n i = some k) : seqIndex? i n = some k := by
  unfold Ev.ixN at e
  unfold seqIndex?
  split at e
  · rename_i h0
    split at e
    · rename_i h1
      cases e
      have : ¬ i < 0 := by omega
      simp only [if_neg this]
      rw [if_pos (by simp; omega)]
    · cases e
  · rename_i h0
    split at e
    · rename_i h1
      cases e
      have : i < 0 := by omega
      simp only [if_pos this]
      rw [if_pos (by simp; omega)]
    · cases e
theorem bmeth_ok (hu : X.A.units + 66 < cLine) {Q : VK} {E : Value → Option Addr → Hp → Prop} {m : BM} {x : D} {xs : List D} {v : V} {vs : List V} {u : Value} {us : List Value} (I : L2.Inv X pins σ H s) (hr : HR G pn α h H) (qx : VR G pn α H x v) (q : VRs G pn α H xs vs) (rx : RelV v u) (r : Vals vs us)
    (p : Post G pn (bmeth m x xs h) α H (QV G pn Q) E) : wpAny (model X.prog X.w) X.A (call (.builtin (bmId m)) (u :: us)) (EP X pins σ Q) X.xe s := by
  unfold bmeth at p
  split at p
  · rename_i a
    have ha := qx.str_len
    rw [qx.str_eq] at rx
    split at p
    · rename_i y
      obtain ⟨w, rfl, qy⟩ := vrs1 q
      split at p
      · rename_i ss es
        split at p
        · rename_i hl
          cases el : listOf h y with
          | none => rw [el] at es; cases es
          | some ys =>
            rw [el] at es
            obtain ⟨b, ws, rfl, hv, rr⟩ := listOf_rel hr qy el
            have e := allStrs_rel rr es
            subst e
            exact mt_join pins s σ H _ _ u us Q I rx r ⟨a, b, ss, rfl, rfl, .inl (.inl hv), Nat.le_trans hl.2 (by decide), p.ok0 hr _ (.str _ hl.1)⟩
        · exact p.elim
      · exact p.elim
    · cases q
      split at p
      · rename_i hl
        exact mt_upper pins s σ H _ _ u us Q I rx r ⟨a, rfl, rfl, by omega, p.ok0 hr _ (.str _ hl.2)⟩
      · exact p.elim
    · rename_i t
      obtain ⟨w, rfl, qt⟩ := vrs1 q
      have hqt := qt.str_eq
      subst hqt
      split at p
      · rename_i hl
        refine mt_split pins s σ H _ _ u us Q I rx r ⟨a, t, rfl, rfl, by simpa using hl.1, lim_line hl.2.1, fun l hn => Post.newL p hr ?_ hn⟩
        exact strs_rel _ fun z hz => by simpa using List.all_eq_true.mp hl.2.2 z hz
      · exact p.elim
    · exact p.elim
  · rename_i b
    split at p
    · rename_i fz xs' eo
      split at p
      · rename_i y
        obtain ⟨w, rfl, qy⟩ := vrs1 q
        split at p
        · rename_i hl
          rw [hl.1] at eo
          obtain ⟨a, rfl, ea⟩ := qx.ref_eq
          obtain ⟨ws, hv, rr⟩ := hr.lst ea eo
          have hlen := rr.length
          refine mt_append pins s σ H _ _ u us Q I rx r ⟨a, ws, w, rfl, rfl, hv, by have := lim_line (Nat.le_of_lt hl.2); have h2 := hl.2; rw [hlen] at h2; rw [sizeLine_eq]; have : lim = 1000000 := rfl; omega, ?_⟩
          obtain ⟨m1, f1, r1⟩ := hr.wr (o' := .lst false (xs' ++ [y])) ea eo (u := .lst (ws ++ [w])) (.lst upd_same ((rr.append (.cons qy .nil)).upd_ hr ea))
          exact p _ _ m1 r1 _ .non
        · exact p.elim
      · rename_i c
        obtain ⟨w, rfl, qy⟩ := vrs1 q
        obtain ⟨c', rfl, ec⟩ := qy.ref_eq
        split at p
        · rename_i ys ey
          split at p
          · rename_i hl
            rw [hl.1] at eo
            obtain ⟨a, rfl, ea⟩ := qx.ref_eq
            obtain ⟨ws, hv, rr⟩ := hr.lst ea eo
            obtain ⟨zs, hz, rz⟩ := hr.lst ec ey
            refine mt_extend pins s σ H _ _ u us Q I rx r ⟨a, c', ws, zs, rfl, rfl, hv, hz, lim_line (by rw [← rr.length, ← rz.length]; exact hl.2), ?_⟩
            obtain ⟨m1, f1, r1⟩ := hr.wr (o' := .lst false (xs' ++ ys)) ea eo (u := .lst (ws ++ zs)) (.lst upd_same ((rr.append rz).upd_ hr ea))
            exact p _ _ m1 r1 _ .non
          · exact p.elim
        · exact p.elim
      · cases q
        split at p
        · rename_i hl
          rw [hl] at eo
          split at p
          · rename_i y ey
            obtain ⟨a, rfl, ea⟩ := qx.ref_eq
            obtain ⟨ws, hv, rr⟩ := hr.lst ea eo
            rw [List.getLast?_eq_getElem?] at ey
            obtain ⟨w, ew, qw⟩ := rr.get ey
            obtain ⟨m1, f1, r1⟩ := hr.wr (o' := .lst false xs'.dropLast) ea eo (u := .lst ws.dropLast) (.lst upd_same (rr.dropLast.upd_ hr ea))
            exact mt_pop pins s σ H _ _ u us Q I rx r ⟨a, ws, w, rfl, rfl, hv, by rw [← rr.length]; exact ew, p _ _ m1 r1 _ (qw.mono (List.prefix_refl _) f1)⟩
          · exact p.elim
        · exact p.elim
      · rename_i i
        obtain ⟨w0, rfl, qi⟩ := vrs1 q
        have := qi.int_eq
        subst this
        split at p
        · rename_i hl
          rw [hl.1] at eo
          split at p
          · rename_i k ek
            split at p
            · rename_i y ey
              obtain ⟨a, rfl, ea⟩ := qx.ref_eq
              obtain ⟨ws, hv, rr⟩ := hr.lst ea eo
              obtain ⟨w, ew, qw⟩ := rr.get ey
              obtain ⟨m1, f1, r1⟩ := hr.wr (o' := .lst false (xs'.eraseIdx k)) ea eo (u := .lst (ws.eraseIdx k)) (.lst upd_same ((rr.eraseIdx k).upd_ hr ea))
              refine mt_popAt pins s σ H _ _ u us Q I rx r ⟨a, ws, i, k, w, rfl, rfl, hv, by omega, by omega, ?_, ew, p _ _ m1 r1 _ (qw.mono (List.prefix_refl _) f1)⟩
              rw [← rr.length]
              exact seq_ix ek
            · exact p.elim
          · exact p.elim
        · exact p.elim
      · cases q
        split at p
        · rename_i hl
          rw [hl] at eo
          obtain ⟨a, rfl, ea⟩ := qx.ref_eq
          obtain ⟨ws, hv, rr⟩ := hr.lst ea eo
          obtain ⟨m1, f1, r1⟩ := hr.wr (o' := .lst false xs'.reverse) ea eo (u := .lst ws.reverse) (.lst upd_same (rr.reverse.upd_ hr ea))
          exact mt_reverse pins s σ H _ _ u us Q I rx r ⟨a, ws, rfl, rfl, hv, p _ _ m1 r1 _ .non⟩
        · exact p.elim
      · cases q
        split at p
        · rename_i hl
          rw [hl] at eo
          obtain ⟨a, rfl, ea⟩ := qx.ref_eq
          obtain ⟨ws, hv, rr⟩ := hr.lst ea eo
          obtain ⟨m1, f1, r1⟩ := hr.wr (o' := .lst false []) ea eo (u := .lst []) (.lst upd_same .nil)
          exact mt_clear pins s σ H _ _ u us Q I rx r ⟨a, ws, rfl, rfl, hv, p _ _ m1 r1 _ .non⟩
        · exact p.elim
      · exact p.elim
    · rename_i lk kvs eo
      obtain ⟨a, rfl, ea⟩ := qx.ref_eq
      cases rx
      split at p
      · rename_i k
        split at p
        · rename_i hf
          obtain ⟨f1, f2⟩ := dOk_iff hf
          obtain ⟨w, rfl, qk⟩ := vrs1 q
          obtain ⟨u1, rfl, ru⟩ := r.one
          obtain ⟨H', o, I', r', m', fx', g, vo⟩ := dict_key I hr ea eo f1 f2 qk
          refine d_get1 (by omega) I' g ru fun w' s' I'' rw' => ⟨_, H', I'', rw', p α H' m' r' _ ?_⟩
          cases e1 : dget kvs k <;> rw [e1] at vo <;> cases o <;> first | exact vo.elim | exact .non | exact vo
        · exact p.elim
      · rename_i k d
        split at p
        · rename_i hf
          obtain ⟨f1, f2⟩ := dOk_iff hf
          obtain ⟨w, w2, rfl, qk, qd⟩ := vrs2 q
          obtain ⟨u1, u2, rfl, ru, ru2⟩ := vals2 r
          obtain ⟨H', o, I', r', m', fx', g, vo⟩ := dict_key I hr ea eo f1 f2 qk
          refine d_get2 (by omega) I' g ru ru2 fun w' s' I'' rw' => ⟨_, H', I'', rw', p α H' m' r' _ ?_⟩
          cases e1 : dget kvs k <;> rw [e1] at vo <;> cases o <;> first | exact vo.elim | exact qd.mono (List.prefix_refl _) fx' | exact vo
        · exact p.elim
      · exact p.elim
    · exact p.elim
  · exact p.elim
end
end Ev

set_option maxRecDepth 100000
set_option maxHeartbeats 1000000
/-! soundness: method calls, isinstance, dict displays, attributes, targets -/
namespace Ev
open PySem PySem.Spec PyProof.Rows L2
section
variable {G : Gd} {pn : List (Addr × Obj)} {X : Cx} {W : WX} {pins : List (Addr × Obj)} {s : Shared} {σ : L2.St} {H : Hp} {α : List Addr} {env : Env} {h : Hh}
theorem eBM_eq {m : BM} {fo : Sh} {fs : List Sh} : eBM m fo fs env h = (fo env h).bind fun x h1 => match kdOf h1 x with
  | some k => if bmK k m then (eArgs fs env h1).bind fun xs h2 => if kdOf h2 x = some k then bmeth m x xs h2 else .bad else .bad
  | none => .bad := rfl
theorem snd_bm (hu : X.A.units + 66 < cLine) {m : BM} {o : Expr} {es : List Expr} {fo : Sh} {fs : List Sh} {apos cpos : Pos} (ho : PE X o (tE G pn W fo)) (ha : PA X es (tA G pn W fs))
    (hbase : attributeBase o (bmN m) X.env (eval o X.env) = eval o X.env)
    (hfew : ((backTo cpos (starEach es X.env)).all (fun x => !x.1) && (backToKw cpos (keywordEach [] X.env)).all (fun x => x.1.isSome)
      && decide (es.length + ([] : List Keyword).length + (if ([] : List Keyword).isEmpty then 0 else 1) < 30)) = true)
    (hline : (apos.endLine == cpos.line) = true) (hplain : (backTo cpos (starEach es X.env)).any (·.1) = false) (hst : ∀ e r, es = e :: r → starEach (e :: r) X.env = (false, eval e X.env) :: starEach r X.env) (hl : es.length = fs.length) : PE X (.Call (.Attribute o (bmN m) apos) es [] cpos) (tE G pn W (eBM m fo fs)) := by
  refine ⟨fun pins s σ H Q I ⟨α, env, h, sr, hr, p⟩ => ?_⟩
  rw [eBM_eq] at p
  refine wpAny_Call_method_late hbase hfew hline rfl (thn (ho.run pins s σ H (fun v H1 => ∃ α1 h1 d k, HR G pn α1 h1 H1 ∧ VR G pn α1 H1 d v ∧ SR G pn α1 H1 env σ ∧ kdOf h1 d = some k ∧ bmK k m = true ∧
      Post G pn ((eArgs fs env h1).bind fun xs h2 => if kdOf h2 d = some k then bmeth m d xs h2 else .bad) α1 H1 (QV G pn Q) (EW W σ)) I
    (tE.bind sr hr p fun d h1 α1 H1 v r1 q1 sr1 _ _ p1 => ?_)) fun v s1 ⟨x, H1, I1, rx, α1, h1, d, k, r1, q1, sr1, ek, em, p1⟩ => ?_)
  · cases ek : kdOf h1 d with
    | none => rw [ek] at p1; exact p1.elim
    | some k =>
      rw [ek] at p1
      cases em : bmK k m with
      | false => simp only [em, Bool.false_eq_true, if_false] at p1; exact p1.elim
      | true =>
        simp only [em, if_true] at p1
        exact ⟨α1, h1, d, k, r1, q1, sr1, ek, em, p1⟩
  obtain ⟨pa, sl, ty⟩ := bm_facts em
  obtain ⟨t1, t2⟩ := kd_is I1 r1 q1 rx ek
  refine ⟨kdT k, bmId m, pa, sl, ty, t1, t2, ?_⟩
  have hA := ha.run cpos pins s1 σ H1 (fun vs H2 => ∃ α2 h2 ds, HR G pn α2 h2 H2 ∧ VRs G pn α2 H2 ds vs ∧ VR G pn α2 H2 d x ∧ Post G pn (if kdOf h2 d = some k then bmeth m d ds h2 else .bad) α2 H2 (QV G pn Q) (EW W σ)) I1
    (tA.bind sr1 r1 p1 fun ds h2 α2 H2 vs r2 q2 sr2 m2 f2 p2 => ⟨α2, h2, ds, r2, q2, q1.mono m2 f2, p2⟩)
  have fin := thn hA fun us s2 ⟨vs, H2, I2, rv, α2, h2, ds, r2, q2, qd, p2⟩ => show wpAny (model X.prog X.w) X.A (call (.builtin (bmId m)) (v :: us)) (EP X pins σ Q) X.xe s2 from by
    split at p2
    · exact bmeth_ok hu I2 r2 qd q2 rx rv p2
    · exact p2.elim
  cases es with
  | nil =>
    have : fs = [] := List.length_eq_zero_iff.mp hl.symm
    subst this
    refine Calls.callWith_builtin rfl (PySem.evalArgs_none ?_)
    have p2 : Post G pn (if kdOf h1 d = some k then bmeth m d [] h1 else .bad) α1 H1 (QV G pn Q) (EW W σ) := p1
    rw [if_pos ek] at p2
    exact bmeth_ok hu I1 r1 q1 .nil rx .nil p2
  | cons e r =>
    rw [hst e r rfl] at fin hplain ⊢
    exact Calls.callWith_builtin hplain (Calls.evalArgs_plain fin)
/-! ### isinstance -/
def tyV : (Nat → Addr) → Ty → Value
  | _, .int => .type "int" | _, .bool => .type "bool" | _, .str => .type "str" | _, .list => .type "list" | _, .tuple => .type "tuple" | _, .dict => .type "dict"
  | CT, .own c => .ref (CT c)
/-- the classes' facts for isinstance -/
structure IsiOk (G : Gd) (K : PySem.W.Frag) : Prop where
  cls : ∀ c, G.CP c → Cls K (G.CT c) ∧ PySem.W.findIn K (.ref (G.CT c)) "__class__" = some (some (.builtin "object.__class__")) ∧ PySem.W.specialIn K (.builtin "object.__class__") "__get__" = some (some (.builtin "getset_descriptor.__get__")) ∧
    PySem.W.takesIn K (.builtin "object.__class__") = some true ∧ PySem.W.mroIn K (G.CT c) (.type "object") = some true
  own : ∀ c c', G.CP c → G.CP c' → PySem.W.kitOne K (.ref (G.CT c')) (.ref (G.CT c)) = some (decide (c = c'))
  blt : ∀ c, G.CP c → ∀ T ∈ ["NoneType", "bool", "int", "str", "list", "tuple", "dict"], PySem.W.kitOne K (.type T) (.ref (G.CT c)) = some false
  tlb : ∀ c, G.CP c → ∀ T ∈ ["NoneType", "bool", "int", "str", "list", "tuple", "dict"], PySem.W.kitOne K (.ref (G.CT c)) (.type T) = some false
def isB : String → Ty → Bool
  | "bool", .bool => true | "bool", .int => true | "int", .int => true | "str", .str => true | "list", .list => true | "tuple", .tuple => true | "dict", .dict => true
  | _, _ => false
theorem kit_b {K : PySem.W.Frag} {CT : Nat → Addr} {T : String} (hT : T ∈ ["NoneType", "bool", "int", "str", "list", "tuple", "dict"]) {t : Ty} (ht : ∀ c, t ≠ .own c) : PySem.W.kitOne K (.type T) (tyV CT t) = some (isB T t) := by
  have e : ∀ {a b : String} {r : Bool}, kitB a b = some r → PySem.W.kitOne K (.type a) (.type b) = some r := fun h => kit_ty h
  cases t with
  | own c => exact absurd rfl (ht c)
  | _ =>
    simp only [List.mem_cons, List.not_mem_nil, or_false] at hT
    rcases hT with rfl | rfl | rfl | rfl | rfl | rfl | rfl <;> exact e (by decide +kernel)
theorem isTy_ok (gk : G.K = X.K) (io : IsiOk G X.K) (hr : HR G pn α h H) {x : D} {v : V} {t : Ty} {b : Bool} (q : VR G pn α H x v) (e : isTy h x t = some b) (ht : ∀ c, t = .own c → G.CP c) : ∃ tv, TyX X.K H v tv ∧ PySem.W.kitOne X.K tv (tyV G.CT t) = some b := by
  have go : ∀ T tv, TyX X.K H v tv → tv = .type T → T ∈ ["NoneType", "bool", "int", "str", "list", "tuple", "dict"] → (∀ c, t ≠ .own c → True) → ((∀ c, t ≠ .own c) → isB T t = b) → (∀ c, t = .own c → b = false) → ∃ tv, TyX X.K H v tv ∧ PySem.W.kitOne X.K tv (tyV G.CT t) = some b := by
    intro T tv k1 k2 k3 _ k4 k5
    refine ⟨tv, k1, ?_⟩
    subst k2
    by_cases hh : ∃ c, t = .own c
    · obtain ⟨c, rfl⟩ := hh
      rw [k5 c rfl]
      exact io.blt c (ht c rfl) T k3
    · rw [kit_b k3 fun c z => hh ⟨c, z⟩, k4 fun c z => hh ⟨c, z⟩]
  cases q with
  | non => exact go "NoneType" _ (.base .non) rfl (by simp) (fun _ _ => trivial) (fun k => by cases t <;> simp [isTy] at e <;> first | exact e.symm ▸ rfl | (subst e; rfl) | exact absurd rfl (k _)) (fun c z => by subst z; simp [isTy] at e; exact e)
  | bl y => exact go "bool" _ (.base (.bl y)) rfl (by simp) (fun _ _ => trivial) (fun k => by cases t <;> simp [isTy] at e <;> first | (subst e; rfl) | exact absurd rfl (k _)) (fun c z => by subst z; simp [isTy] at e; exact e)
  | int y => exact go "int" _ (.base (.int y)) rfl (by simp) (fun _ _ => trivial) (fun k => by cases t <;> simp [isTy] at e <;> first | (subst e; rfl) | exact absurd rfl (k _)) (fun c z => by subst z; simp [isTy] at e; exact e)
  | str y hy => exact go "str" _ (.base (.str y)) rfl (by simp) (fun _ _ => trivial) (fun k => by cases t <;> simp [isTy] at e <;> first | (subst e; rfl) | exact absurd rfl (k _)) (fun c z => by subst z; simp [isTy] at e; exact e)
  | tup tt r => exact go "tuple" _ (.base (.tup tt)) rfl (by simp) (fun _ _ => trivial) (fun k => by cases t <;> simp [isTy] at e <;> first | (subst e; rfl) | exact absurd rfl (k _)) (fun c z => by subst z; simp [isTy] at e; exact e)
  | tupw tt r =>
    rw [gk] at tt
    obtain ⟨o, its, n, t1, t2, _⟩ := tt
    exact go "tuple" _ (.kTuple t1 t2) rfl (by simp) (fun _ _ => trivial) (fun k => by cases t <;> simp [isTy] at e <;> first | (subst e; rfl) | exact absurd rfl (k _)) (fun c z => by subst z; simp [isTy] at e; exact e)
  | @ref i a ea =>
    cases eo : h[i]? with
    | none => cases t <;> simp [isTy, eo] at e
    | some ob =>
      have o := hr.get ea eo
      cases o with
      | lst ha _ => exact go "list" _ (.base (.lst ha)) rfl (by simp) (fun _ _ => trivial) (fun k => by cases t <;> simp [isTy, eo] at e <;> first | (subst e; rfl) | exact absurd rfl (k _)) (fun c z => by subst z; simp [isTy, eo] at e; exact e)
      | lstF ha _ => exact go "list" _ (.base (.frz ha)) rfl (by simp) (fun _ _ => trivial) (fun k => by cases t <;> simp [isTy, eo] at e <;> first | (subst e; rfl) | exact absurd rfl (k _)) (fun c z => by subst z; simp [isTy, eo] at e; exact e)
      | dic ha dr =>
        have ty : TyX X.K H (.ref a) (.type "dict") := by
          cases dr with
          | k r => exact .base (.dK ha)
          | t r => exact .base (.dT ha)
        exact go "dict" _ ty rfl (by simp) (fun _ _ => trivial) (fun k => by cases t <;> simp [isTy, eo] at e <;> first | (subst e; rfl) | exact absurd rfl (k _)) (fun c z => by subst z; simp [isTy, eo] at e; exact e)
      | dicF ha dr => cases t <;> simp [isTy, eo] at e
      | @ins c fs vs dx _ cp ha _ _ =>
        obtain ⟨c1, c2, c3, c4, c5⟩ := io.cls c cp
        refine ⟨.ref (G.CT c), .base (.ins ha c1 c2 c3 c4 c5), ?_⟩
        have tb := io.tlb c cp
        cases t with
        | own c' =>
          simp [isTy, eo] at e
          rw [← e]
          exact io.own c' c (ht c' rfl) cp
        | _ => simp [isTy, eo] at e; subst e; exact tb _ (by simp)
  | xn => cases t <;> simp [isTy] at e
  | xn0 => cases t <;> simp [isTy] at e
/-! ### isinstance, calls -/
def rIsiD (G : Gd) (pn : List (Addr × Obj)) (t : Ty) : V → Hp → VK → Prop := fun x H Q => ∃ α h dx E b, HR G pn α h H ∧ VR G pn α H dx x ∧ isTy h dx t = some b ∧ Post G pn (.ok (.bl b) h) α H (QV G pn Q) E
theorem eIsI_eq {t : Ty} {fa : Sh} : eIsI fa t env h = (fa env h).bind fun x h1 => pcmp (isTy h1 x t) h1 := rfl
theorem snd_isi (gk : G.K = X.K) (io : IsiOk G X.K) {t : Ty} {y : Str} {a : Expr} {fa : Sh} {p p2 pos : Pos} (ht : ∀ c, t = .own c → G.CP c) (hg : Gl X "isinstance") (hm : X.mg "isinstance" = none)
    (hy : Gl X y) (hyv : (X.mg y = none ∧ bootBuiltins y = some (tyV G.CT t) ∧ y ≠ "__name__" ∧ (∃ T, tyV G.CT t = .type T)) ∨ X.mg y = some (tyV G.CT t) ∧ ∃ C, tyV G.CT t = .ref C) (hyd : (y == ("__debug__" : Str)) = false)
    (ha : PE X a (tE G pn W fa)) (hs : starEach [a, .Name y p2] X.env = [(false, eval a X.env), (false, eval (.Name y p2) X.env)]) : PE X (.Call (.Name "isinstance" p) [a, .Name y p2] [] pos) (tE G pn W (eIsI fa t)) := by
  obtain ⟨vt, hvt⟩ : ∃ vt : V, RelV vt (tyV G.CT t) ∧ ClsV vt (tyV G.CT t) := by
    cases t with
    | own c => exact ⟨.ref (G.CT c), rfl, .own _⟩
    | int => exact ⟨.ty "int", rfl, .ty _⟩
    | bool => exact ⟨.ty "bool", rfl, .ty _⟩
    | str => exact ⟨.ty "str", rfl, .ty _⟩
    | list => exact ⟨.ty "list", rfl, .ty _⟩
    | tuple => exact ⟨.ty "tuple", rfl, .ty _⟩
    | dict => exact ⟨.ty "dict", rfl, .ty _⟩
  have he : PE X (.Name y p2) (fun _ H Q => Q vt H) := ⟨fun pins s σ H Q I h => by
    rcases hyv with ⟨h1, h2, h3, _⟩ | ⟨h1, _⟩
    · exact ld_blt I hy h1 h2 ⟨vt, H, I, hvt.1, h⟩ h3 hyd
    · exact ld_glob I hy h1 ⟨vt, H, I, hvt.1, h⟩ hyd⟩
  have hpa : PA X [a, .Name y p2] (tCons (tE G pn W fa) (tCons (fun _ H Q => Q vt H) tNil)) := pa_cons ha (pa_cons he pa_nil) hs
  have hs1 : starEach [.Name y p2] X.env = [(false, eval (.Name y p2) X.env)] := rfl
  refine PEs (pe_callB call_isi hg hm (by decide +kernel) hpa (by decide) (by decide) (by rw [hs, hs1]) (by rw [hs1]; rfl)) fun σ H Q ⟨α, env, h, sr, hr, p⟩ => ?_
  rw [eIsI_eq] at p
  refine tE.bind sr hr p fun d h1 α1 H1 v r1 q1 sr1 _ _ p1 => ?_
  obtain ⟨b, eb, p2⟩ := pcmp_elim p1
  obtain ⟨tv, k1, k2⟩ := isTy_ok gk io r1 q1 eb ht
  exact ⟨v, vt, tv, _, b, rfl, hvt.2, k1, k2, p2.ok0 r1 _ (.bl b)⟩
/-! ### dict displays -/
theorem eDict_pairs {Q : List (V × V) → Hp → Prop} : ∀ (ps : List (Sh × Sh)) (α : List Addr) (H : Hp) (h : Hh) (sr : SR G pn α H env σ) (hr : HR G pn α h H), Post G pn (eDict ps env h) α H (fun kvs α' H' => ∀ vs, Paired (fun p q => VR G pn α' H' p.1 q.1 ∧ VR G pn α' H' p.2 q.2) kvs vs → Q vs H') (EW W σ) →
    tPairs (ps.map fun p => (tE G pn W p.1, tE G pn W p.2)) σ H Q
  | [], α, H, h, sr, hr, p => p.ok0 hr [] .nil
  | (fk, fv) :: r, α, H, h, sr, hr, p => by
    refine tE.bind sr hr p fun d h1 α1 H1 v r1 q1 sr1 _ _ p1 => tE.bind sr1 r1 p1 fun d2 h2 α2 H2 v2 r2 q2 sr2 m2 f2 p2 => ?_
    refine eDict_pairs r α2 H2 h2 sr2 r2 ?_
    cases e : eDict r env h2 with
    | ok zs h3 =>
      rw [e] at p2
      intro α3 H3 m3 r3 vs rel
      have fx := r2.fix m3
      exact (p2 α3 H3 m3 r3) _ (.cons ⟨(q1.mono m2 f2).mono m3.pre fx, q2.mono m3.pre fx⟩ rel)
    | exc x h3 => rw [e] at p2; exact p2
    | bad => rw [e] at p2; exact p2.elim
theorem keys_all : ∀ {kvs : List (D × D)} {vs : List (V × V)}, Paired (fun p q => VR G pn α H p.1 q.1 ∧ VR G pn α H p.2 q.2) kvs vs → kvs.all (fun p => isKey p.1) = true → ∃ ls : List (Key × V), vs = ls.map (fun kv => (kV kv.1, kv.2)) ∧ KR G pn α H kvs ls
  | _, _, .nil, _ => ⟨[], rfl, .nil⟩
  | _, _, .cons (a := a) (b := b) z r, e => by
    rw [List.all_cons, Bool.and_eq_true] at e
    obtain ⟨ls, e1, kr⟩ := keys_all r e.2
    obtain ⟨k, ek⟩ := isKey_some e.1
    refine ⟨(k, b.2) :: ls, ?_, .cons ⟨ek, fun s es => ?_, z.2⟩ kr⟩
    · rw [e1, List.map_cons]
      congr 1
      exact Prod.ext (keyK_kV z.1 ek) rfl
    · have := z.1
      rw [es] at this
      exact this.str_len
theorem merge_k {kvs : List (D × D)} {ls : List (Key × V)} (r : KR G pn α H kvs ls) : ∀ {acc : List (D × D)} {la : List (Key × V)}, KR G pn α H acc la → KR G pn α H (kvs.foldl (fun acc p => dput acc p.1 p.2) acc) (mergeK la ls) := by
  induction r with
  | nil => intro acc la k; exact k
  | cons z r ih =>
    intro acc la k
    exact ih (dput_k z.1 z.2.2 z.2.1 k)
theorem HR.adopt (r : HR G pn α h H) {p : Addr} {u0 u : HO} (hp : H p = some u0) (np : p ∉ α) (n1 : ∀ xs, u0 ≠ .tup xs) (n2 : ∀ xs, u0 ≠ .xd xs) (n3 : ∀ x, u0 ≠ .own x) {o : Ob} (ob : OR G pn (α ++ [p]) (upd H p u) o p) : HR G pn (α ++ [p]) (h ++ [o]) (upd H p u) := by
  have fx : Fix H (upd H p u) := ⟨fun b xs e => by rw [upd_ne (fun z => by rw [z, hp] at e; cases e; exact n1 _ rfl)]; exact e, fun b xs e => by rw [upd_ne (fun z => by rw [z, hp] at e; cases e; exact n2 _ rfl)]; exact e⟩
  refine ⟨by simp [r.len], ?_, fun i a o' ea eo => ?_⟩
  · refine List.nodup_append.mpr ⟨r.nd, by simp, fun a ha b hb e => ?_⟩
    rw [List.mem_singleton.mp hb] at e
    exact np (e ▸ ha)
  · by_cases hi : i < α.length
    · rw [List.getElem?_append_left hi] at ea
      rw [List.getElem?_append_left (by rw [← r.len]; exact hi)] at eo
      refine (r.ob i a o' ea eo).keep (List.prefix_append _ _) fx fun b w hb e => ?_
      rw [upd_ne fun z => ?_]
      · exact e
      · subst z
        rcases hb with rfl | hb
        · exact np (List.mem_of_getElem? ea)
        · rw [hp] at hb; cases hb; exact n3 _ rfl
    · have hl : i < (α ++ [p]).length := (List.getElem?_eq_some_iff.mp ea).1
      have hi' : i = α.length := by simp at hl; omega
      subst hi'
      simp at ea
      rw [r.len] at eo
      simp at eo
      subst ea eo
      exact ob
theorem tk_room {P : Program} {w : World} {A : Around} (h : A.units + 66 < cLine) : (tupleKind (mixKind P w)).room A := by
  show A.units < cLine
  omega
/-- a display: keys ints and texts, or one tuple of them -/
def tDisp2 (trs : List (TE × TE)) : TE := fun σ H Q => ∀ p, H p = none → tPairs trs σ (upd H p (.dK [])) fun ps H2 => H2 p = some (.dK []) ∧
  ((∃ kvs : List (Key × V), ps = kvs.map (fun kv => (kV kv.1, kv.2)) ∧ kvs.length ≤ 15 ∧ Q (.ref p) (upd H2 p (.dK (mergeK [] kvs)))) ∨
   ∃ (b : Addr) (k : List Key) (v : V), ps = [(.ref b, v)] ∧ H2 b = some (.tup (k.map kV)) ∧ Q (.ref p) (upd H2 p (.dT (putK [] k v))))
theorem pe_disp2 {X : Cx} (hu : X.A.units + 66 < cLine) {pos : Pos} {keys : List (Option Expr)} {values : List Expr} {trs : List (TE × TE)} (h : PPs X pos keys values trs) (hall : keys.all (·.isSome) = true) (hl : keys.length = values.length) (h0 : keys ≠ [])
    (h15 : keys.length ≤ 15) : PE X (.Dict keys values pos) (tDisp2 trs) := by
  refine ⟨fun pins s σ H Q I q => ?_⟩
  have hn := I.hok.fresh (Nat.le_refl s.heap.objs.size)
  have I1 := I.laid (a := s.heap.objs.size) (o := .dK []) (h' := s.heap.push { cls := .type "dict", data := .dict #[] }) (t' := s.toks) (fun _ _ q => Heap.get?_push_of_some _ q) (Nat.le_refl _) (dk_empty s.heap I.big)
  refine wpAny_Dict_any hall hl h0 h15 (thn (h.run pins _ σ _ _ I1 (q _ hn)) fun ws s2 ⟨ps, H2, I2, rel, e, c⟩ => ?_)
  rcases c with ⟨kvs, ep, lk, q2⟩ | ⟨b, k, v, ep, eb, q2⟩
  · subst ep
    obtain ⟨rs, c, rk⟩ := carries_of (P := X.prog) (w := X.w) rel
    obtain ⟨z, hd, vs0, r0, dd⟩ := dk_of I2.hok e
    cases r0
    have hz : (mergeK [] kvs).length ≤ sizeLine := by
      have h1 := length_mergeK kvs []
      rw [List.length_nil] at h1
      rw [sizeLine_eq]; omega
    have lr : kvs.length = rs.length := Paired.length rk
    unfold storeAll
    refine wpAny_storeAll (knd := mixKind X.prog X.w) ws rs [] s2 _ c dd (by rw [List.length_nil, sizeLine_eq]; omega) fun h' dd' hs => ⟨.ref s.heap.objs.size, _, ?_, rfl, q2⟩
    have he : ∃ q, h'.get? s.heap.objs.size = some q := let ⟨q, _, _, hq, _⟩ := dd'; ⟨q, hq⟩
    exact d_write I2 (by rw [e]; exact True.intro) hs he (dk_new hz hd (rk.merge .nil) dd')
  · subst ep
    cases rel with
    | @cons _ w0 _ _ r0 rr =>
      cases rr
      obtain ⟨u, r⟩ := w0
      obtain ⟨ra, rb⟩ := r0
      obtain rfl : u = Value.ref b := ra
      have ob := empty_kt.mp (I2.hok _ _ e)
      obtain ⟨z, hd, xs, rel, dd0⟩ := ob
      cases rel
      have dd : s2.heap.DictOfH (tupleKind (mixKind X.prog X.w)) s.heap.objs.size [] := let ⟨o, es, ep, a1, a2, a3, a4, _⟩ := dd0; ⟨o, es, ep, a1, a2, a3, a4, (by intro x hx; exact absurd hx List.not_mem_nil), List.nodup_nil⟩
      unfold storeAll
      refine wpAny_storeAllH (knd := tupleKind (mixKind X.prog X.w)) (A := X.A) (tk_room (by omega)) [(.ref b, r)] [(k, b, r)] [] s2 _ ⟨rfl, rfl, key_of I2.hok eb, True.intro⟩ dd (by rw [List.length_nil, sizeLine_eq]; show 0 + 1 ≤ _; decide) fun h' tk dd' hs => ⟨.ref s.heap.objs.size, _, ?_, rfl, q2⟩
      obtain ⟨q, es, ep, hq, h2, h3, h4, _, h5⟩ := dd'
      refine d_write I2 (by rw [e]; exact True.intro) hs ⟨q, hq⟩ ⟨by rw [sizeLine_eq]; show 1 ≤ _; decide, hd, _, ((show L2.KT H2 [] [] from .nil).put k eb rb).keeps fun c ys ec => ?_, q, es, ep, hq, h2, h3, h4, h5⟩
      rw [upd_ne (ne_of ec e (fun z => nomatch z))]
      exact ec
theorem snd_dict (hu : X.A.units + 66 < cLine) {keys : List (Option Expr)} {values : List Expr} {ps : List (Sh × Sh)} {pos : Pos} (hp : PPs X pos keys values (ps.map fun p => (tE G pn W p.1, tE G pn W p.2))) (hall : keys.all (·.isSome) = true) (hl : keys.length = values.length) (h0 : keys ≠ [])
    (h15 : keys.length ≤ 15) : PE X (.Dict keys values pos) (tE G pn W (eDic ps)) := by
  refine PEs (pe_disp2 hu hp hall hl h0 h15) fun σ H Q ⟨α, env, h, sr, hr, p⟩ a ha => ?_
  obtain ⟨m0, r0⟩ := hr.more ha (u := .dK [])
  have np := hr.free ha
  refine eDict_pairs ps α (upd H a (.dK [])) h (sr.mono m0.pre (hr.fix m0)) r0 ?_
  unfold eDic at p
  cases e : eDict ps env h with
  | ok kvs h1 =>
    rw [e] at p
    intro α2 H2 m2 r2 vs rel
    have p : Post G pn (if (kvs.all (fun p => isKey p.1) && decide (kvs.length ≤ 15)) = true then .ok (.ref h1.length) (h1 ++ [.dic false (kvs.foldl (fun acc p => dput acc p.1 p.2) [])]) else eDic1 kvs h1) α H (QV G pn Q) (EW W σ) := p
    have ea : H2 a = some (.dK []) := m2.keep a _ upd_same np
    have na : a ∉ α2 := fun hm => by
      have := m2.new a hm np
      rw [upd_same] at this; cases this
    refine ⟨ea, ?_⟩
    cases hk : (kvs.all (fun p => isKey p.1) && decide (kvs.length ≤ 15)) with
    | false =>
      rw [hk] at p
      have p : Post G pn (eDic1 kvs h1) α H (QV G pn Q) (EW W σ) := p
      cases kvs with
      | nil => exact p.elim
      | cons kv kr =>
        cases kr with
        | cons => exact p.elim
        | nil =>
          obtain ⟨kd, vd⟩ := kv
          have p : Post G pn (if isTKey kd = true then .ok (.ref h1.length) (h1 ++ [.dic false [(kd, vd)]]) else .bad) α H (QV G pn Q) (EW W σ) := p
          by_cases ht : isTKey kd = true
          · rw [if_pos ht] at p
            cases rel with
            | @cons _ w0 _ _ r0 rr =>
              cases rr
              obtain ⟨kx, vx⟩ := w0
              obtain ⟨qk, qv⟩ := r0
              cases qk with
              | @tup l0 pa vs t rt =>
                obtain ⟨ks, ek⟩ := isKeys_some (l := l0) ht
                have ev := keysK_kV rt ek
                refine .inr ⟨pa, ks, vx, rfl, by rw [← ev]; exact t, ?_⟩
                have fx : Fix H2 (upd H2 a (.dT [(ks, vx)])) := ⟨fun b xs e => by rw [upd_ne (fun z => by rw [z, ea] at e; cases e)]; exact e, fun b xs e => by rw [upd_ne (fun z => by rw [z, ea] at e; cases e)]; exact e⟩
                have r3 := r2.adopt (o := .dic false [(.tup l0, vd)]) (u := .dT [(ks, vx)]) ea na (fun _ z => by cases z) (fun _ z => by cases z) (fun _ z => by cases z)
                  (.dic upd_same (.t ((show TR G pn α2 H2 [(.tup l0, vd)] [(ks, vx)] from .cons ⟨l0, rfl, ek, rt.strs_len, qv⟩ .nil).mono (List.prefix_append _ _) fx)))
                refine p (α2 ++ [a]) _ ⟨m2.pre.trans (List.prefix_append _ _), fun b o e n => ?_, fun b hb n => ?_⟩ r3 _ (.ref (by rw [← r2.len]; simp))
                · have hb : b ≠ a := fun z => by rw [z, ha] at e; cases e
                  rw [upd_ne hb]
                  exact m2.keep b o (by rw [upd_ne hb]; exact e) n
                · rcases List.mem_append.mp hb with z | z
                  · have := m2.new b z n
                    by_cases hba : b = a
                    · rw [hba]; exact ha
                    · rw [upd_ne hba] at this; exact this
                  · rw [List.mem_singleton.mp z]; exact ha
              | _ => exact absurd (show false = true from ht) Bool.false_ne_true
          · rw [if_neg ht] at p; exact p.elim
    | true =>
      rw [hk] at p
      rw [Bool.and_eq_true, decide_eq_true_eq] at hk
      obtain ⟨ls, e1, kr⟩ := keys_all rel hk.1
      refine .inl ⟨ls, e1, by rw [← kr.len]; exact hk.2, ?_⟩
      have fx : Fix H2 (upd H2 a (.dK (mergeK [] ls))) := ⟨fun b xs e => by rw [upd_ne (fun z => by rw [z, ea] at e; cases e)]; exact e, fun b xs e => by rw [upd_ne (fun z => by rw [z, ea] at e; cases e)]; exact e⟩
      have r3 := r2.adopt (o := .dic false (kvs.foldl (fun acc p => dput acc p.1 p.2) [])) (u := .dK (mergeK [] ls)) ea na (fun _ z => by cases z) (fun _ z => by cases z) (fun _ z => by cases z)
        (.dic upd_same (.k ((merge_k kr .nil).mono (List.prefix_append _ _) fx)))
      have p : Post G pn (.ok (.ref h1.length) (h1 ++ [.dic false (kvs.foldl (fun acc p => dput acc p.1 p.2) [])])) α H (QV G pn Q) (EW W σ) := p
      refine p (α2 ++ [a]) _ ⟨m2.pre.trans (List.prefix_append _ _), fun b o e n => ?_, fun b hb n => ?_⟩ r3 _ (.ref (by rw [← r2.len]; simp))
      · have hb : b ≠ a := fun z => by rw [z, ha] at e; cases e
        rw [upd_ne hb]
        exact m2.keep b o (by rw [upd_ne hb]; exact e) n
      · rcases List.mem_append.mp hb with z | z
        · have := m2.new b z n
          by_cases hba : b = a
          · rw [hba]; exact ha
          · rw [upd_ne hba] at this; exact this
        · rw [List.mem_singleton.mp z]; exact ha
  | exc x h1 =>
    rw [e] at p
    exact Post.move (r := Res.exc x h1) (show Post G pn (Res.exc x h1) α H _ (EW W σ) from p) m0
  | bad => rw [e] at p; exact p.elim
theorem snd_dict0 {pos : Pos} : PE X (.Dict [] [] pos) (tE G pn W (eDic [])) := by
  refine PEs pe_dnewK fun σ H Q ⟨α, env, h, sr, hr, p⟩ a ha => ?_
  have p : Post G pn (.ok (.ref h.length) (h ++ [.dic false []])) α H (QV G pn Q) (EW W σ) := p
  obtain ⟨m, r⟩ := hr.new_ (o := .dic false []) (u := .dK []) ha (.dic upd_same (.k .nil))
  exact p _ _ m r _ (.ref (by rw [← hr.len]; simp))
end
end Ev

set_option maxRecDepth 100000
set_option maxHeartbeats 1000000
/-! soundness: attributes, stores, targets -/
namespace Ev
open PySem PySem.Spec PyProof.Rows L2
section
variable {G : Gd} {pn : List (Addr × Obj)} {X : Cx} {W : WX} {pins : List (Addr × Obj)} {s : Shared} {σ : L2.St} {H : Hp} {α : List Addr} {env : Env} {h : Hh}
abbrev EF : Value → Option Addr → Hp → Prop := fun _ _ _ => False
theorem Post.weak {A : Type} {r : Res A} {Q : A → List Addr → Hp → Prop} {E : Value → Option Addr → Hp → Prop} (p : Post G pn r α H Q EF) : Post G pn r α H Q E := by
  cases r with
  | ok a h1 => exact p
  | exc x h1 => exact fun α' H' c od m r' xr => (p α' H' c od m r' xr).elim
  | bad => exact p
theorem Post.noExc {A : Type} {r : Res A} {Q : A → List Addr → Hp → Prop} {E : Value → Option Addr → Hp → Prop} (p : Post G pn (noExc r) α H Q E) : Post G pn r α H Q EF := by
  cases r with
  | ok a h1 => exact p
  | exc x h1 => exact p.elim
  | bad => exact p
/-- a part, with all that is known behind it -/
theorem tE.bind0 {f : Sh} {R : VK} (sr : SR G pn α H env σ) (hr : HR G pn α h H) {QA : D → List Addr → Hp → Prop} (p : Post G pn (f env h) α H QA (EW W σ))
    (k : ∀ (d : D) (h1 : Hh) (α1 : List Addr) (H1 : Hp) (v : V), f env h = .ok d h1 → Mv α H α1 H1 → HR G pn α1 h1 H1 → VR G pn α1 H1 d v → SR G pn α1 H1 env σ → QA d α1 H1 → R v H1) : tE G pn W f σ H R := by
  refine ⟨α, env, h, sr, hr, ?_⟩
  cases hf : f env h with
  | ok d h1 =>
    rw [hf] at p
    exact fun α1 H1 m r v q => k d h1 α1 H1 v hf m r q (sr.mono m.pre (hr.fix m)) (p α1 H1 m r)
  | exc x h1 =>
    rw [hf] at p
    exact p
  | bad =>
    rw [hf] at p
    exact p.elim
/-- the first part of two -/
theorem Post.fst {A B : Type} {r : Res A} {g : A → Hh → Res B} {Q : B → List Addr → Hp → Prop} {E : Value → Option Addr → Hp → Prop} (p : Post G pn (r.bind g) α H Q E) : Post G pn r α H (fun a α1 H1 => ∀ h1, r = .ok a h1 → Post G pn (g a h1) α H Q E) E := by
  cases r with
  | ok a h1 => exact fun α1 H1 m r h2 e => by cases e; exact p
  | exc x h1 => exact p
  | bad => exact p
/-! ### attributes -/
/-- the fields' facts -/
structure FldOk (G : Gd) (K : PySem.W.Frag) (f : Nat) : Prop where
  inj : ∀ i j, G.FN i = G.FN j → i = j
  cls : ∀ c, G.CP c → Cls K (G.CT c) ∧ NoAttr K (G.CT c) (G.FN f)
theorem frs_get (inj : ∀ i j, G.FN i = G.FN j → i = j) {f : Nat} {d : D} : ∀ {fs : List (Nat × D)} {vs : List (Str × V)}, FRs G pn α H fs vs → fget fs f = some d → ∃ v, vs.lookup (G.FN f) = some v ∧ VR G pn α H d v
  | _, _, .nil, e => by simp [fget] at e
  | _, _, .cons (i := i) (d := d') (v := v) q r, e => by
    unfold fget at e
    rw [List.lookup_cons] at e
    by_cases hh : f = i
    · subst hh
      simp at e
      subst e
      exact ⟨v, by simp [List.lookup_cons], q⟩
    · have hb : (f == i) = false := by simpa using hh
      rw [hb] at e
      obtain ⟨w, e1, q1⟩ := frs_get inj r e
      refine ⟨w, ?_, q1⟩
      rw [List.lookup_cons]
      have hb2 : (G.FN f == G.FN i) = false := by
        cases z : (G.FN f == G.FN i) with
        | false => rfl
        | true => exact absurd (inj _ _ (eq_of_beq z)) hh
      rw [hb2]
      exact e1
theorem frs_put (inj : ∀ i j, G.FN i = G.FN j → i = j) {f : Nat} {d : D} {v : V} (q : VR G pn α H d v) : ∀ {fs : List (Nat × D)} {vs : List (Str × V)}, FRs G pn α H fs vs → FRs G pn α H (fput fs f d) (putF (G.FN f) v vs)
  | _, _, .nil => .cons q .nil
  | _, _, .cons (i := i) (d := d') (v := v') q' r => by
    unfold fput putF
    by_cases hh : i = f
    · subst hh
      rw [if_pos rfl, if_pos rfl]
      exact .cons q r
    · rw [if_neg hh, if_neg (fun z => hh (inj _ _ z))]
      exact .cons q' (frs_put inj q r)
theorem FRs.length : ∀ {fs : List (Nat × D)} {vs : List (Str × V)}, FRs G pn α H fs vs → fs.length = vs.length
  | _, _, .nil => rfl
  | _, _, .cons _ r => congrArg (· + 1) (FRs.length r)
def pAttr (o : Option D) (h : Hh) : Res D := pItem o h
theorem eAttr_eq {f : Nat} {fo : Sh} : eAttr f fo env h = (fo env h).bind fun x h1 => pItem (getAttrD h1 x f) h1 := rfl
theorem snd_attr {f : Nat} (fo : FldOk G X.K f) {e : Expr} {fe : Sh} {pos : Pos} (he : PE X e (tE G pn W fe)) (hb : attributeBase e (G.FN f) X.env (eval e X.env) = eval e X.env) : PE X (.Attribute e (G.FN f) pos) (tE G pn W (eAttr f fe)) := by
  refine PEs (pe_fld he hb) fun σ H Q ⟨α, env, h, sr, hr, p⟩ => ?_
  rw [eAttr_eq] at p
  refine tE.bind sr hr p fun d h1 α1 H1 v r1 q1 sr1 _ _ p1 => ?_
  refine pItem_elim p1 fun y ey => ?_
  rw [ey] at p1
  unfold getAttrD at ey
  split at ey
  · rename_i b
    split at ey
    · rename_i c fs eo
      obtain ⟨a, rfl, ea⟩ := q1.ref_eq
      cases r1.get ea eo with
      | ins cp ha hd rf =>
        obtain ⟨w, ew, qw⟩ := frs_get fo.inj rf ey
        obtain ⟨c1, c2⟩ := fo.cls c cp
        exact ⟨a, _, _, _, w, rfl, ha, c1, c2, ew, p1.ok0 r1 w qw⟩
    · cases ey
  · cases ey
/-! ### stores by values -/
theorem setItem_ok (hu : X.A.units + 66 < cLine) {x y z : D} {vx vy vz : V} {ux uy uz : Value} {Q : Hp → Prop} {E : Value → Option Addr → Hp → Prop} (I : L2.Inv X pins σ H s) (hr : HR G pn α h H) (qx : VR G pn α H x vx) (qy : VR G pn α H y vy) (qz : VR G pn α H z vz) (rx : RelV vx ux) (ry : RelV vy uy) (rz : RelV vz uz)
    (p : Post G pn (setItem x y z h) α H (QU Q) E) : wpAny (model X.prog X.w) X.A (PySem.setItem ux uy uz) (fun _ s' => ∃ H', L2.Inv X pins σ H' s' ∧ Q H') X.xe s := by
  unfold setItem at p
  split at p
  · rename_i b
    obtain ⟨a, rfl, ea⟩ := qx.ref_eq
    split at p
    · rename_i xs eo
      split at p
      · rename_i k
        split at p
        · rename_i j ej
          rw [qy.int_eq] at ry
          obtain ⟨ws, hv, rr⟩ := hr.lst ea eo
          obtain ⟨m1, f1, r1⟩ := hr.wr (o' := .lst false (xs.set j z)) ea eo (u := .lst (ws.set j vz)) (.lst upd_same ((rr.set qz j).upd_ hr ea))
          exact set_list pins s σ H _ _ _ _ _ _ Q I rx ry rz ⟨a, ws, k, j, rfl, rfl, hv, by rw [← rr.length]; exact ej, p _ _ m1 r1⟩
        · exact p.elim
      · exact p.elim
    · rename_i kvs eo
      cases hf : (keyFits kvs y && decide (kvs.length < lim)) with
      | false => rw [hf] at p; exact p.elim
      | true =>
        rw [hf] at p
        rw [Bool.and_eq_true, decide_eq_true_eq] at hf
        obtain ⟨H', o, I', r', m', fx', g, vo⟩ := dict_key I hr ea eo hf.1 (fun z => by cases z) qy
        cases rx
        have p : Post G pn (.ok () (h.set b (.dic false (dput kvs y z)))) α H (QU Q) E := p
        have qz' := qz.mono (List.prefix_refl _) fx'
        cases r'.get ea eo with
        | dic eD dr =>
          have done : ∀ u u', DR G pn α H' (dput kvs y z) u → H' a = some u' → DPut H' a vy vz (upd H' a u) → wpAny (model X.prog X.w) X.A (PySem.setItem (.ref a) uy uz) (fun _ s' => ∃ H', L2.Inv X pins σ H' s' ∧ Q H') X.xe s := fun u u' dr' _ dp => by
            have fx2 := r'.fixA ea (u := u)
            obtain ⟨m1, f1, r1⟩ := r'.wr (o' := .dic false (dput kvs y z)) ea eo (u := u) (.dic upd_same (dr'.mono (List.prefix_refl _) fx2))
            exact d_setItem (by omega) I' dp ry rz fun s' I'' => ⟨_, I'', p _ _ (m'.trans m1) r1⟩
          have hlim : kvs.length < sizeLine := by have := hf.2; rw [sizeLine_eq]; have : lim = 1000000 := rfl; omega
          rcases g with ⟨l, k, rd, ev, _⟩ | ⟨l, k, c, rd, ev, et, _⟩
          · have eD' : H' a = some (.dK l) := by
              rcases rd with z | ⟨o2, z⟩
              · exact z
              · rw [eD] at z; cases z; cases dr
            rw [eD] at eD'
            cases eD'
            cases dr with
            | k kr =>
              obtain ⟨ky, eky⟩ := isKey_of_kV qy ev
              have e2 : ky = k := kV_inj (by rw [← keyK_kV qy eky]; exact ev)
              subst e2
              exact done _ _ (.k (dput_k eky qz' (fun s es => by subst es; exact qy.str_len) kr)) eD (.inl ⟨l, ky, eD, ev, by rw [← kr.len]; exact hlim, rfl⟩)
          · have eD' : H' a = some (.dT l) := by
              rcases rd with z | ⟨o2, z⟩
              · exact z
              · rw [eD] at z; cases z; cases dr
            rw [eD] at eD'
            cases eD'
            cases dr with
            | t tr =>
              obtain ⟨l0, hl0, ek, hlen⟩ := tkey_of hf.1 (qy.mono (List.prefix_refl _) fx') ev et
              subst hl0
              exact done _ _ (.t (dput_t ek qz' hlen tr)) eD (.inr ⟨l, k, c, eD, ev, et, by rw [← tr.len]; exact hlim, rfl⟩)
    · exact p.elim
  · exact p.elim
where
  kV_inj {a b : Key} (e : kV a = kV b) : a = b := by
    cases a <;> cases b <;> simp [kV] at e <;> subst e <;> rfl
  isKey_of_kV {y : D} {v : V} {k : Key} (q : VR G pn α H y v) (e : v = kV k) : ∃ k', keyK y = some k' := by
    cases q <;> first | exact ⟨_, rfl⟩ | (cases k <;> cases e)
  tkey_of {kvs : List (D × D)} {y : D} {v : V} {k : List Key} {c : Addr} {H' : Hp} (hf : keyFits kvs y = true) (q : VR G pn α H' y v) (e : v = .ref c) (et : H' c = some (.tup (k.map kV))) : ∃ l, y = .tup l ∧ keysK l = some k ∧ ∀ s, D.str s ∈ l → s.length ≤ lim := by
    subst e
    unfold keyFits at hf
    rw [Bool.or_eq_true, Bool.and_eq_true, Bool.and_eq_true] at hf
    rcases hf with ⟨h1, _⟩ | ⟨h1, _⟩
    · cases q <;> exact absurd (show false = true from h1) Bool.false_ne_true
    · cases q with
      | tup t rr =>
        rename_i l vs
        obtain ⟨ks, ek⟩ := isKeys_some (l := l) h1
        have e2 := keysK_kV rr ek
        rw [t] at et
        cases et
        have : ks = k := map_kV_inj e2.symm
        subst this
        exact ⟨l, rfl, ek, rr.strs_len⟩
      | _ => exact absurd (show false = true from h1) Bool.false_ne_true
  map_kV_inj : ∀ {a b : List Key}, a.map kV = b.map kV → a = b
    | [], b, e => by cases b <;> simp at e; rfl
    | x :: a, [], e => by simp at e
    | x :: a, y :: b, e => by
      simp only [List.map_cons, List.cons.injEq] at e
      rw [kV_inj e.1, map_kV_inj e.2]
end
end Ev

set_option maxRecDepth 100000
set_option maxHeartbeats 1000000
/-! soundness: targets -/
namespace Ev
open PySem PySem.Spec PyProof.Rows L2
abbrev QT (G : Gd) (pn : List (Addr × Obj)) (vs : List Nat) (σ : L2.St) (Q : L2.St → Hp → Prop) : Env → List Addr → Hp → Prop := fun env' α' H' => ∀ σ', SR G pn α' H' env' σ' → ((∀ j, j ∉ vs → σ'[j]? = σ[j]?) ∧ σ'.length = σ.length) → Q σ' H'
def tG (G : Gd) (pn : List (Addr × Obj)) (vs : List Nat) (t : Tg) : TG := fun v σ H Q => ∃ α env h d, SR G pn α H env σ ∧ HR G pn α h H ∧ VR G pn α H d v ∧ Post G pn (t d env h) α H (QT G pn vs σ Q) EF
def tGs (G : Gd) (pn : List (Addr × Obj)) (vs : List Nat) (ts : List Tg) : TGs := fun ws σ H Q => ∃ α env h ds, SR G pn α H env σ ∧ HR G pn α h H ∧ VRs G pn α H ds ws ∧ Post G pn (tEach ts ds env h) α H (QT G pn vs σ Q) EF
section
variable {G : Gd} {pn : List (Addr × Obj)} {X : Cx} {W : WX} {pins : List (Addr × Obj)} {s : Shared} {σ : L2.St} {H : Hp} {α : List Addr} {env : Env} {h : Hh} {vs : List Nat}
theorem PGi {e : Expr} {t u : TG} (p : PG X e t) (k : ∀ v σ H Q, u v σ H Q → t v σ H Q) : PG X e u := ⟨fun pins s σ H v w Q I r h => p.run pins s σ H v w Q I r (k v σ H Q h)⟩
theorem PGsi {e : List Expr} {t u : TGs} (p : PGs X e t) (k : ∀ v σ H Q, u v σ H Q → t v σ H Q) : PGs X e u := ⟨fun pins s σ H v w Q I r h => p.run pins s σ H v w Q I r (k v σ H Q h)⟩
theorem pg_bad {e : Expr} : PG X e (tG G pn vs (fun _ _ _ => .bad)) := ⟨fun _ _ _ _ _ _ _ _ _ ⟨_, _, _, _, _, _, _, p⟩ => p.elim⟩
theorem snd_gname {i : Nat} {x : Str} {pos : Pos} (hN : X.N.Nodup) (hi : X.N[i]? = some x) (hx : X.env.scope.names.lookup x = some .local) (hv : i ∈ vs) : PG X (.Name x pos) (tG G pn vs (tName i)) := by
  refine PGi (pg_name hN hi (.inl hx) (.inr hx)) fun v σ H Q ⟨α, env, h, d, sr, hr, q, p⟩ => ?_
  exact p α H (Mv.refl _ _) hr _ (sr.set i q) ⟨fun j hj => List.getElem?_set_ne fun (z : i = j) => hj (by rw [← z]; exact hv), List.length_set ..⟩
theorem snd_gnil : PGs X [] (tGs G pn vs []) := by
  refine PGsi pgs_nil fun ws σ H Q ⟨α, env, h, ds, sr, hr, q, p⟩ => ?_
  cases q with
  | nil => exact ⟨rfl, p α H (Mv.refl _ _) hr σ sr ⟨fun _ _ => rfl, rfl⟩⟩
  | cons => exact p.elim
theorem snd_gcons {e : Expr} {es : List Expr} {t : Tg} {ts : List Tg} (h1 : PG X e (tG G pn vs t)) (h2 : PGs X es (tGs G pn vs ts)) (hs : (assignEach (e :: es) X.env).map (·.2) = assign e X.env :: (assignEach es X.env).map (·.2)) : PGs X (e :: es) (tGs G pn vs (t :: ts)) := by
  refine PGsi (pgs_cons h1 h2 hs) fun ws σ H Q ⟨α, env, h, ds, sr, hr, q, p⟩ => ?_
  cases q with
  | nil => exact p.elim
  | cons q qr =>
    refine ⟨_, _, rfl, α, env, h, _, sr, hr, q, ?_⟩
    have p : Post G pn ((t _ env h).bind fun σ1 h1 => tEach ts _ σ1 h1) α H (QT G pn vs σ Q) EF := p
    cases e1 : t _ env h with
    | ok env1 h1 =>
      rw [e1] at p
      intro α1 H1 m r1 σ1 sr1 ag
      refine ⟨α1, env1, h1, _, sr1, r1, qr.mono m.pre (hr.fix m), ?_⟩
      have p1 : Post G pn (tEach ts _ env1 h1) α1 H1 (QT G pn vs σ Q) EF := Post.move p m
      cases e2 : tEach ts _ env1 h1 with
      | ok env2 h2 =>
        rw [e2] at p1
        exact fun α2 H2 m2 r2 σ2 sr2 ag2 => p1 α2 H2 m2 r2 σ2 sr2 ⟨fun j hj => (ag2.1 j hj).trans (ag.1 j hj), ag2.2.trans ag.2⟩
      | exc x h2 => rw [e2] at p1; exact p1
      | bad => rw [e2] at p1; exact p1
    | exc x h1 => rw [e1] at p; exact p
    | bad => rw [e1] at p; exact p
theorem snd_gtup (gk : G.K = X.K) (hc : X.calm = true) {es : List Expr} {ts : List Tg} {k : Nat} {pos : Pos} (h : PGs X es (tGs G pn vs ts)) (hl : ts.length = es.length) (hn : (assignEach es X.env).length = es.length) (hst : (assignEach es X.env).findIdx? (·.1) = none) : PG X (.Tuple es k pos) (tG G pn vs (tTup ts)) := by
  refine PGi (pg_tup hc h hn hst) fun v σ H Q ⟨α, env, h, d, sr, hr, q, p⟩ => ?_
  unfold tTup at p
  split at p
  · rename_i ds
    by_cases e : ds.length = ts.length
    · rw [if_pos e] at p
      obtain ⟨a, ws, rfl, t, rr⟩ := q.tup_eq
      exact ⟨a, ws, rfl, tup_sq t, by rw [← rr.length, e, hl], α, env, h, ds, sr, hr, rr, p⟩
    · rw [if_neg e] at p; exact p.elim
  · rename_i ds
    by_cases e : ds.length = ts.length
    · rw [if_pos e] at p
      obtain ⟨a, ws, rfl, t, rr⟩ := q.tupw_eq
      rw [gk] at t
      exact ⟨a, ws, rfl, t.sq, by rw [← rr.length, e, hl], α, env, h, ds, sr, hr, rr, p⟩
    · rw [if_neg e] at p; exact p.elim
  · exact p.elim
/-- the value to be stored, through the evaluation of the target's parts -/
theorem snd_gitem (gk : G.K = X.K) (hu : X.A.units + 66 < cLine) {o i : Expr} {fo fi : Sh} {pos : Pos} (ho : PE X o (tE G pn W fo)) (hi : PE X i (tE G pn W fi)) (ha : ∀ v, assign (.Subscript o i pos) X.env v = (do
      let ov ← holding [v] (eval o X.env)
      let iv ← holding [v, ov] (eval i X.env)
      standAt pos
      holding [v, ov, iv] (PySem.setItem ov iv v)
      release [v, ov, iv] [])) : PG X (.Subscript o i pos) (tG G pn vs (tItem fo fi)) := by
  have hs : PSet X (fun x y z H Q => ∃ α h dx dy dz E, HR G pn α h H ∧ VR G pn α H dx x ∧ VR G pn α H dy y ∧ VR G pn α H dz z ∧ Post G pn (setItem dx dy dz h) α H (QU Q) E) := fun pins s σ H x y z ux uy uz Q I rx ry rz ⟨α, h, dx, dy, dz, E, hr, qx, qy, qz, p⟩ => setItem_ok hu I hr qx qy qz rx ry rz p
  refine PGi (pg_sub ho hi hs ha) fun v σ H Q ⟨α, env, h, d, sr, hr, q, p⟩ => ?_
  have p : Post G pn ((fo env h).bind fun x h1 => (fi env h1).bind fun y h2 => (setItem x y d h2).bind fun _ h3 => .ok env h3) α H (QT G pn vs σ Q) (EW W σ) := Post.weak p
  refine tE.bind sr hr p fun dx h1 α1 H1 vx r1 q1 sr1 m1 f1 p1 => tE.bind sr1 r1 p1 fun dy h2 α2 H2 vy r2 q2 sr2 m2 f2 p2 => ⟨α2, h2, dx, dy, d, EW W σ, r2, q1.mono m2 f2, q2, (q.mono m1 f1).mono m2 f2, ?_⟩
  cases e : setItem dx dy d h2 with
  | ok u h3 =>
    rw [e] at p2
    exact fun α3 H3 m3 r3 => p2 α3 H3 m3 r3 σ (sr2.mono m3.pre (r2.fix m3)) ⟨fun _ _ => rfl, rfl⟩
  | exc x h3 => rw [e] at p2; exact p2
  | bad => rw [e] at p2; exact p2.elim
theorem snd_gattr {f : Nat} (fk : FldOk G X.K f) {o : Expr} {fo : Sh} {pos : Pos} (ho : PE X o (tE G pn W fo)) : PG X (.Attribute o (G.FN f) pos) (tG G pn vs (tAttr f fo)) := by
  refine ⟨fun pins s σ H v u Q I rv ⟨α, env, h, d, sr, hr, q, p⟩ => ?_⟩
  have p : Post G pn ((fo env h).bind fun x h1 => match x with
    | .ref a => match h1[a]? with
      | some (.ins c fs) => if fs.length < 900 then .ok env (h1.set a (.ins c (fput fs f d))) else .bad
      | _ => .bad
    | _ => .bad) α H (QT G pn vs σ Q) (EW W σ) := Post.weak p
  rw [assign_Attribute]
  refine wpAny_bind (wpAny_holding (thn (ho.run pins s σ H (fun v1 H1 => ∃ α1 h1 d1, HR G pn α1 h1 H1 ∧ VR G pn α1 H1 d1 v1 ∧ SR G pn α1 H1 env σ ∧ VR G pn α1 H1 d v ∧ Post G pn (match d1 with
    | .ref a => match h1[a]? with
      | some (.ins c fs) => if fs.length < 900 then .ok env (h1.set a (.ins c (fput fs f d))) else .bad
      | _ => .bad
    | _ => .bad) α1 H1 (QT G pn vs σ Q) (EW W σ)) I (tE.bind sr hr p fun d1 h1 α1 H1 v1 r1 q1 sr1 m1 f1 p1 => ⟨α1, h1, d1, r1, q1, sr1, q.mono m1 f1, p1⟩)) fun ov s1 ⟨v1, H1, I1, rx, α1, h1, d1, r1, q1, sr1, qv, p1⟩ => ?_))
  cases d1 with
  | ref b =>
    obtain ⟨a, rfl, ea⟩ := q1.ref_eq
    cases rx
    dsimp only at p1
    cases eo : h1[b]? with
    | none => rw [eo] at p1; exact p1.elim
    | some ob =>
      rw [eo] at p1
      cases ob with
      | ins c fs =>
        dsimp only at p1
        by_cases hl : fs.length < 900
        · rw [if_pos hl] at p1
          cases r1.get ea eo with
          | @ins _ _ ws _ dx cp ha hd rf =>
            obtain ⟨c1, c2⟩ := fk.cls c cp
            refine wpAny_bind (wpAny_standAt (wpAny_bind (wpAny_holding (setattr_ok I1 ha c1 c2 (by rw [← FRs.length rf]; omega) rv fun s3 I3 => wpAny_release ?_))))
            have fx := r1.fixA ea (u := .ins (G.CT c) dx (putF (G.FN f) v ws))
            have hne : dx ≠ a := fun z => by rw [z, ha] at hd; cases hd
            obtain ⟨m1, f1, r3⟩ := r1.wr (o' := .ins c (fput fs f d)) ea eo (u := .ins (G.CT c) dx (putF (G.FN f) v ws)) (.ins cp upd_same (by rw [upd_ne hne]; exact hd) (frs_mono fx (frs_put fk.inj qv rf)))
            exact ⟨σ, _, I3, p1 _ _ m1 r3 σ (sr1.mono m1.pre f1) ⟨fun _ _ => rfl, rfl⟩⟩
        · rw [if_neg hl] at p1; exact p1.elim
      | _ => exact p1.elim
  | _ => exact p1.elim
where
  frs_mono {H' : Hp} {fs : List (Nat × D)} {ws : List (Str × V)} {α1 : List Addr} {H1 : Hp} (fx : Fix H1 H') (r : FRs G pn α1 H1 fs ws) : FRs G pn α1 H' fs ws := r.mono (List.prefix_refl _) fx
end
end Ev

set_option maxRecDepth 100000
set_option maxHeartbeats 1000000
/-! soundness: what is walked; comprehensions -/
namespace Ev
open PySem PySem.Spec PyProof.Rows L2
/-- an iterator of the model and what the evaluator walks -/
def IR (G : Gd) (pn : List (Addr × Obj)) (w : Walked) (J : L2.It) (α0 : List Addr) (H0 : Hp) : Prop := w.fin = none ∧ ∀ (α : List Addr) (h : Hh) (H : Hp), α0 <+: α → Fix H0 H → HR G pn α h H → stands w.guard h = true → ∀ i,
  (w.items.length ≤ i → J.stop i H) ∧ ∀ d, w.items[i]? = some d → J.go i H ∧ ∀ x H', J.yld i H x H' → Mv α H α H' ∧ HR G pn α h H' ∧ VR G pn α H' d x
def tI (G : Gd) (pn : List (Addr × Obj)) (W : WX) (it : Ev.It) : TI := fun σ H R => ∃ α env h, SR G pn α H env σ ∧ HR G pn α h H ∧ Post G pn (it env h) α H (fun w α1 H1 => ∀ J, IR G pn w J α1 H1 → R J H1) (EW W σ)
section
variable {G : Gd} {pn : List (Addr × Obj)} {X : Cx} {W : WX} {pins : List (Addr × Obj)} {s : Shared} {σ : L2.St} {H : Hp} {α : List Addr} {env : Env} {h : Hh}
theorem pi_bad {tg e : Expr} : PI X tg e (tI G pn W (fun _ _ => .bad)) := ⟨fun _ _ _ _ _ _ ⟨_, _, _, _, _, p⟩ => p.elim⟩
theorem ir_list {b : Nat} {fz : Bool} {xs : List D} {a : Addr} (ea : α[b]? = some a) : IR G pn ⟨xs, some (b, .lst fz xs), none⟩ (Itl G.K a) α H := by
  refine ⟨rfl, ?_⟩
  intro α1 h1 H1 pre fx hr st i
  have eo : h1[b]? = some (.lst fz xs) := by simpa [stands] using st
  obtain ⟨vs, hv, r⟩ := hr.lstR (pre_get pre ea) eo
  have sq : SqL G.K H1 a vs := .inl hv
  refine ⟨fun hi => ⟨vs, sq, by rw [← r.length]; exact hi⟩, fun d ed => ?_⟩
  obtain ⟨v, ev, qv⟩ := r.get ed
  refine ⟨⟨vs, v, sq, ev⟩, fun x H' ⟨e1, e2⟩ => ?_⟩
  subst e1
  have e3 := e2 vs sq
  rw [ev] at e3; cases e3
  exact ⟨Mv.refl _ _, hr, qv⟩
theorem ir_seq {xs : List D} {a : Addr} {vs : List V} (r : VRs G pn α H xs vs) (ht : ∀ H', Fix H H' → SqT G.K H' a vs) (inj : ∀ H' ys, Fix H H' → SqT G.K H' a ys → ys = vs) : IR G pn ⟨xs, none, none⟩ (Itt G.K a) α H := by
  refine ⟨rfl, ?_⟩
  intro α1 h1 H1 pre fx hr st i
  have r1 := r.mono pre fx
  refine ⟨fun hi => ⟨vs, ht H1 fx, by rw [← r.length]; exact hi⟩, fun d ed => ?_⟩
  obtain ⟨v, ev, qv⟩ := r1.get ed
  refine ⟨⟨vs, v, ht H1 fx, ev⟩, fun x H' ⟨e1, e2⟩ => ?_⟩
  subst e1
  have e3 := e2 vs (ht _ fx)
  rw [ev] at e3; cases e3
  exact ⟨Mv.refl _ _, hr, qv⟩
theorem ir_tup {xs : List D} {a : Addr} {vs : List V} (r : VRs G pn α H xs vs) (ht : H a = some (.tup vs)) : IR G pn ⟨xs, none, none⟩ (Itt G.K a) α H := by
  refine ⟨rfl, ?_⟩
  intro α1 h1 H1 pre fx hr st i
  have r1 := r.mono pre fx
  have ht1 := fx.tup _ _ ht
  refine ⟨fun hi => ⟨vs, tup_sq ht1, by rw [← r.length]; exact hi⟩, fun d ed => ?_⟩
  obtain ⟨v, ev, qv⟩ := r1.get ed
  refine ⟨⟨vs, v, tup_sq ht1, ev⟩, fun x H' ⟨e1, e2⟩ => ?_⟩
  subst e1
  have e3 := e2 vs (tup_sq ht1)
  rw [ev] at e3; cases e3
  exact ⟨Mv.refl _ _, hr, qv⟩
theorem ir_tupw {xs : List D} {a : Addr} {vs : List V} (r : VRs G pn α H xs vs) (ht : WTup G.K a vs) : IR G pn ⟨xs, none, none⟩ (Itt G.K a) α H := by
  refine ⟨rfl, ?_⟩
  intro α1 h1 H1 pre fx hr st i
  have r1 := r.mono pre fx
  refine ⟨fun hi => ⟨vs, ht.sq, by rw [← r.length]; exact hi⟩, fun d ed => ?_⟩
  obtain ⟨v, ev, qv⟩ := r1.get ed
  refine ⟨⟨vs, v, ht.sq, ev⟩, fun x H' ⟨e1, e2⟩ => ?_⟩
  subst e1
  have e3 := e2 vs ht.sq
  rw [ev] at e3; cases e3
  exact ⟨Mv.refl _ _, hr, qv⟩
theorem ir_str {z : Str} : IR G pn ⟨z.cps.toList.map fun c => .str ⟨#[c]⟩, none, none⟩ (Its z) α H := by
  refine ⟨rfl, ?_⟩
  intro α1 h1 H1 pre fx hr st i
  refine ⟨fun hi => ?_, fun d ed => ?_⟩
  · show z.cps.size ≤ i
    simpa using hi
  · rw [List.getElem?_map] at ed
    obtain ⟨c, ec, ed⟩ := Option.map_eq_some_iff.mp ed
    have ec' : z.cps[i]? = some c := by rw [← Array.getElem?_toList]; exact ec
    refine ⟨?_, fun x H' ⟨e1, c', e2, e3⟩ => ?_⟩
    · show i < z.cps.size
      exact (Array.getElem?_eq_some_iff.mp ec').1
    · subst e1 e3
      rw [ec'] at e2; cases e2
      subst ed
      exact ⟨Mv.refl _ _, hr, .str _ (by show 1 ≤ 1000000; decide)⟩
theorem ir_rng {lo : Int} {n : Nat} {f : Nat → D} (hf : ∀ k, f k = .int (lo + (k : Int))) : IR G pn ⟨(List.range n).map f, none, none⟩ (Itr lo n) α H := by
  refine ⟨rfl, ?_⟩
  intro α1 h1 H1 pre fx hr st i
  refine ⟨fun hi => ?_, fun d ed => ?_⟩
  · show n ≤ i
    simpa using hi
  · rw [List.getElem?_map] at ed
    obtain ⟨c, ec, ed⟩ := Option.map_eq_some_iff.mp ed
    have hi : i < n := by
      have := (List.getElem?_eq_some_iff.mp ec).1
      simpa using this
    rw [List.getElem?_range hi] at ec
    cases ec
    refine ⟨hi, fun x H' ⟨e1, e2⟩ => ?_⟩
    subst e1 e2 ed
    rw [hf]
    exact ⟨Mv.refl _ _, hr, .int _⟩
theorem ir_rngC {lo c0 : Int} {n : Nat} {f : Nat → D} (hf : ∀ k, f k = .int (lo + (k : Int) * c0)) : IR G pn ⟨(List.range n).map f, none, none⟩ (Itc lo c0 n) α H := by
  refine ⟨rfl, ?_⟩
  intro α1 h1 H1 pre fx hr st i
  refine ⟨fun hi => ?_, fun d ed => ?_⟩
  · show n ≤ i
    simpa using hi
  · rw [List.getElem?_map] at ed
    obtain ⟨c, ec, ed⟩ := Option.map_eq_some_iff.mp ed
    have hi : i < n := by
      have := (List.getElem?_eq_some_iff.mp ec).1
      simpa using this
    rw [List.getElem?_range hi] at ec
    cases ec
    refine ⟨hi, fun x H' ⟨e1, e2⟩ => ?_⟩
    subst e1 e2 ed
    rw [hf]
    exact ⟨Mv.refl _ _, hr, .int _⟩
theorem ir_enum {b : Nat} {fz : Bool} {xs : List D} {a : Addr} (ea : α[b]? = some a) : IR G pn ⟨xs.zipIdx.map fun p => .tup [.int p.2, p.1], some (b, .lst fz xs), none⟩ (Ite G.K a) α H := by
  refine ⟨rfl, ?_⟩
  intro α1 h1 H1 pre fx hr st i
  have eo : h1[b]? = some (.lst fz xs) := by simpa [stands] using st
  obtain ⟨vs, hv, r⟩ := hr.lstR (pre_get pre ea) eo
  have sq : SqL G.K H1 a vs := .inl hv
  refine ⟨fun hi => ⟨vs, sq, by rw [← r.length]; simpa using hi⟩, fun d ed => ?_⟩
  rw [List.getElem?_map] at ed
  obtain ⟨⟨c, j⟩, ec, ed⟩ := Option.map_eq_some_iff.mp ed
  rw [List.getElem?_zipIdx] at ec
  obtain ⟨c', ec', ee⟩ := Option.map_eq_some_iff.mp ec
  cases ee
  obtain ⟨v, ev, qv⟩ := r.get ec'
  refine ⟨⟨vs, v, sq, ev⟩, fun x H' ⟨T, y, e1, e2, e3, e4⟩ => ?_⟩
  subst e1 e3 ed
  have e5 := e4 vs sq
  rw [ev] at e5; cases e5
  have hi : ((0 + i : Nat) : Int) = (i : Int) := by omega
  rw [hi]
  exact push_tup hr (.cons (.int _) (.cons qv .nil)) e2
theorem tI.intro {it : Ev.It} {R : L2.It → Hp → Prop} {f : Sh} {g : D → Hh → Res Walked} (he : it env h = (f env h).bind g) (sr : SR G pn α H env σ) (hr : HR G pn α h H) (p : Post G pn (it env h) α H (fun w α1 H1 => ∀ J, IR G pn w J α1 H1 → R J H1) (EW W σ)) {S : VK}
    (k : ∀ (d : D) (h1 : Hh) (α1 : List Addr) (H1 : Hp) (v : V), HR G pn α1 h1 H1 → VR G pn α1 H1 d v → f env h = .ok d h1 → Post G pn (g d h1) α1 H1 (fun w α1 H1 => ∀ J, IR G pn w J α1 H1 → R J H1) (EW W σ) → S v H1) : tE G pn W f σ H S := by
  rw [he] at p
  have p0 := p
  refine tE.bind0 sr hr (Post.fst p) fun d h1 α1 H1 v ef m r1 q1 _ pq => k d h1 α1 H1 v r1 q1 ef ?_
  exact Post.move (pq h1 ef) m
theorem snd_ival (gk : G.K = X.K) {tg e : Expr} {f : Sh} (he : PE X e (tE G pn W f)) : PI X tg e (tI G pn W (iVal f)) := by
  refine ⟨fun pins s σ H R I ⟨α, env, h, sr, hr, p⟩ => ?_⟩
  have hb : iVal f env h = (f env h).bind walkV := rfl
  cases ef : f env h with
  | ok d h1 =>
    have same : ∀ {d' h1'}, f env h = .ok d' h1' → d' = d ∧ h1' = h1 := fun e => by rw [ef] at e; cases e; exact ⟨rfl, rfl⟩
    cases d with
    | tup l =>
      refine (pi_tup he).run pins s σ H R I (tI.intro hb sr hr p fun d' h1' α1 H1 v r1 q1 ef' p1 => ?_)
      obtain ⟨rfl, rfl⟩ := same ef'
      obtain ⟨a, vs, rfl, t, rr⟩ := q1.tup_eq
      refine ⟨a, rfl, ⟨vs, tup_sq t⟩, ?_⟩
      rw [← gk]
      exact Post.ok0 p1 r1 _ (ir_tup rr t)
    | tupw l =>
      refine (pi_tup he).run pins s σ H R I (tI.intro hb sr hr p fun d' h1' α1 H1 v r1 q1 ef' p1 => ?_)
      obtain ⟨rfl, rfl⟩ := same ef'
      obtain ⟨a, vs, rfl, t, rr⟩ := q1.tupw_eq
      refine ⟨a, rfl, ⟨vs, by rw [← gk]; exact t.sq⟩, ?_⟩
      rw [← gk]
      exact Post.ok0 p1 r1 _ (ir_tupw rr t)
    | str z =>
      refine (pi_str he).run pins s σ H R I (tI.intro hb sr hr p fun d' h1' α1 H1 v r1 q1 ef' p1 => ?_)
      obtain ⟨rfl, rfl⟩ := same ef'
      exact ⟨z, q1.str_eq, Post.ok0 p1 r1 _ ir_str⟩
    | ref b =>
      refine (pi_list he).run pins s σ H R I (tI.intro hb sr hr p fun d' h1' α1 H1 v r1 q1 ef' p1 => ?_)
      obtain ⟨rfl, rfl⟩ := same ef'
      have p1 : Post G pn (match h1'[b]? with
        | some (.lst fz xs) => .ok ⟨xs, some (b, .lst fz xs), none⟩ h1'
        | _ => .bad) α1 H1 (fun w α1 H1 => ∀ J, IR G pn w J α1 H1 → R J H1) (EW W σ) := p1
      cases eo : h1'[b]? with
      | none => rw [eo] at p1; exact p1.elim
      | some ob =>
        rw [eo] at p1
        cases ob with
        | lst fz xs =>
          obtain ⟨a, rfl, ea⟩ := q1.ref_eq
          obtain ⟨vs, hv, rr⟩ := r1.lstR ea eo
          refine ⟨a, rfl, ⟨vs, .inl hv⟩, ?_⟩
          rw [← gk]
          exact Post.ok0 p1 r1 _ (ir_list ea)
        | _ => exact p1.elim
    | _ => rw [hb, ef] at p; exact p.elim
  | exc x h1 =>
    refine (pi_tup he).run pins s σ H R I ⟨α, env, h, sr, hr, ?_⟩
    rw [hb, ef] at p
    rw [ef]
    exact p
  | bad => rw [hb, ef] at p; exact p.elim
theorem snd_irange1 {tg e1 : Expr} {f1 : Sh} {p pos : Pos} (hg : Gl X "range") (hm : X.mg "range" = none) (ha : PA X [e1] (tA G pn W [f1])) (hs : starEach [e1] X.env = [(false, eval e1 X.env)]) : PI X tg (.Call (.Name "range" p) [e1] [] pos) (tI G pn W (iRange [f1])) := by
  refine ⟨fun pins s σ H R I ⟨α, env, h, sr, hr, q⟩ => ?_⟩
  have q : Post G pn ((eArgs [f1] env h).bind rng1) α H (fun w α1 H1 => ∀ J, IR G pn w J α1 H1 → R J H1) (EW W σ) := q
  have big : (2 : Int) ^ 61 < 2 ^ 62 := by decide
  refine (pi_range1 hg hm ha hs).run pins s σ H R I ?_
  refine tA.bind sr hr q fun ds h1 α1 H1 vs r1 q1 sr1 _ _ p1 => ?_
  unfold rng1 at p1
  split at p1
  · rename_i j
    obtain ⟨v, rfl, qv⟩ := vrs1 q1
    by_cases hj : j ≤ lim ∧ j.natAbs < 2 ^ 61
    · rw [if_pos hj] at p1
      exact ⟨j, by rw [qv.int_eq], by omega, by omega, Post.ok0 p1 r1 _ (ir_rng fun k => by simp)⟩
    · rw [if_neg hj] at p1; exact p1.elim
  · exact p1.elim
theorem snd_irange2 {tg e1 e2 : Expr} {f1 f2 : Sh} {p pos : Pos} (hg : Gl X "range") (hm : X.mg "range" = none) (ha : PA X [e1, e2] (tA G pn W [f1, f2])) (hs : starEach [e1, e2] X.env = [(false, eval e1 X.env), (false, eval e2 X.env)]) (hs2 : starEach [e2] X.env = [(false, eval e2 X.env)]) :
    PI X tg (.Call (.Name "range" p) [e1, e2] [] pos) (tI G pn W (iRange [f1, f2])) := by
  refine ⟨fun pins s σ H R I ⟨α, env, h, sr, hr, q⟩ => ?_⟩
  have q : Post G pn ((eArgs [f1, f2] env h).bind rng2) α H (fun w α1 H1 => ∀ J, IR G pn w J α1 H1 → R J H1) (EW W σ) := q
  have big : (2 : Int) ^ 61 < 2 ^ 62 := by decide
  refine (pi_range2 hg hm ha hs hs2).run pins s σ H R I ?_
  refine tA.bind sr hr q fun ds h1 α1 H1 vs r1 q1 sr1 _ _ p1 => ?_
  unfold rng2 at p1
  split at p1
  · rename_i i j
    obtain ⟨v, w, rfl, qv, qw⟩ := vrs2 q1
    by_cases hj : j - i ≤ lim ∧ i.natAbs < 2 ^ 61 ∧ j.natAbs < 2 ^ 61
    · rw [if_pos hj] at p1
      exact ⟨i, j, by rw [qv.int_eq, qw.int_eq], by omega, Post.ok0 p1 r1 _ (ir_rng fun k => rfl)⟩
    · rw [if_neg hj] at p1; exact p1.elim
  · exact p1.elim
theorem snd_irange3 {tg e1 e2 e3 : Expr} {f1 f2 f3 : Sh} {p pos : Pos} (hg : Gl X "range") (hm : X.mg "range" = none) (ha : PA X [e1, e2, e3] (tA G pn W [f1, f2, f3])) (hs : starEach [e1, e2, e3] X.env = (false, eval e1 X.env) :: starEach [e2, e3] X.env) (hs2 : (backTo pos (starEach [e2, e3] X.env)).any (·.1) = false) :
    PI X tg (.Call (.Name "range" p) [e1, e2, e3] [] pos) (tI G pn W (iRange [f1, f2, f3])) := by
  refine ⟨fun pins s σ H R I ⟨α, env, h, sr, hr, q⟩ => ?_⟩
  have q : Post G pn ((eArgs [f1, f2, f3] env h).bind rng3) α H (fun w α1 H1 => ∀ J, IR G pn w J α1 H1 → R J H1) (EW W σ) := q
  refine (pi_range3 hg hm ha hs hs2).run pins s σ H R I ?_
  refine tA.bind sr hr q fun ds h1 α1 H1 vs r1 q1 sr1 _ _ p1 => ?_
  unfold rng3 at p1
  split at p1
  · rename_i i j c
    cases q1 with
    | cons qv q1 =>
      cases q1 with
      | cons qw q1 =>
        cases q1 with
        | cons qz q1 =>
          cases q1
          by_cases hj : c = -1 ∧ i - j ≤ lim ∧ i.natAbs < 2 ^ 61 ∧ j.natAbs < 2 ^ 61
          · rw [if_pos hj] at p1
            obtain ⟨rfl, h1, h2, h3⟩ := hj
            exact ⟨i, j, -1, (i - j).toNat, by rw [qv.int_eq, qw.int_eq, qz.int_eq], RgC.neg (by omega) (by omega) (by omega) (by omega), Post.ok0 p1 r1 _ (ir_rngC fun k => rfl)⟩
          · rw [if_neg hj] at p1; exact p1.elim
  · exact p1.elim
theorem snd_ienum (gk : G.K = X.K) {elts : List Expr} {kk : Nat} {e : Expr} {f : Sh} {p pos tpos : Pos} (hg : Gl X "enumerate") (hm : X.mg "enumerate" = none) (he : PE X e (tE G pn W f)) (hs : starEach [e] X.env = [(false, eval e X.env)]) : PI X (.Tuple elts kk tpos) (.Call (.Name "enumerate" p) [e] [] pos) (tI G pn W (Ev.iEnum f)) := by
  refine ⟨fun pins s σ H R I ⟨α, env, h, sr, hr, q⟩ => ?_⟩
  have ha : PA X [e] (tCons (tE G pn W f) tNil) := pa_cons he pa_nil hs
  refine (pi_enum hg hm ha hs).run pins s σ H R I ?_
  have q : Post G pn ((f env h).bind fun x h1 => match x with
    | .ref a => match h1[a]? with
      | some (.lst fz xs) => .ok ⟨xs.zipIdx.map fun p => .tup [.int p.2, p.1], some (a, .lst fz xs), none⟩ h1
      | _ => .bad
    | _ => .bad) α H (fun w α1 H1 => ∀ J, IR G pn w J α1 H1 → R J H1) (EW W σ) := q
  refine tE.bind sr hr q fun d h1 α1 H1 v r1 q1 sr1 _ _ p1 => ?_
  cases d with
  | ref b =>
    dsimp only at p1
    cases eo : h1[b]? with
    | none => rw [eo] at p1; exact p1.elim
    | some ob =>
      rw [eo] at p1
      cases ob with
      | lst fz xs =>
        obtain ⟨a, rfl, ea⟩ := q1.ref_eq
        obtain ⟨vs, hv, rr⟩ := r1.lstR ea eo
        refine ⟨a, vs, rfl, .inl hv, ?_⟩
        rw [← gk]
        exact Post.ok0 p1 r1 _ (ir_enum ea)
      | _ => exact p1.elim
  | _ => exact p1.elim
end
end Ev

set_option maxRecDepth 100000
set_option maxHeartbeats 1000000
/-! soundness: comprehensions -/
namespace Ev
open PySem PySem.Spec PyProof.Rows L2
def WF : WX := fun _ _ _ _ => False
theorem upd_self {H : Hp} {p : Addr} {u : HO} (e : H p = some u) : upd H p u = H := by
  funext b
  by_cases hb : b = p
  · subst hb; rw [upd_same, e]
  · rw [upd_ne hb]
theorem Mv.side {α α' : List Addr} {H H' : Hp} (m : Mv α H α' H') {p : Addr} {u : HO} (e : H p = some u) (n : p ∉ α) : H' p = some u ∧ p ∉ α' :=
  ⟨m.keep p u e n, fun hm => by have := m.new p hm n; rw [e] at this; cases this⟩
theorem Mv.updS {α α' : List Addr} {H H' : Hp} (m : Mv α H α' H') {p : Addr} {u : HO} (e : H p = none) : Mv α H α' (upd H' p u) :=
  ⟨m.pre, fun a o ea n => by rw [upd_ne (fun z => by rw [z, e] at ea; cases ea)]; exact m.keep a o ea n, m.new⟩
section
variable {G : Gd} {pn : List (Addr × Obj)} {X : Cx} {W : WX} {pins : List (Addr × Obj)} {s : Shared} {σ : L2.St} {H : Hp} {α : List Addr} {env : Env} {h : Hh}
theorem fix_side {p : Addr} {xs ys : List V} (e : H p = some (.lst xs)) : Fix H (upd H p (.lst ys)) :=
  ⟨fun b xs e2 => by rw [upd_ne (fun z => by rw [z, e] at e2; cases e2)]; exact e2, fun b xs e2 => by rw [upd_ne (fun z => by rw [z, e] at e2; cases e2)]; exact e2⟩
theorem HR.side (r : HR G pn α h H) {p : Addr} {xs ys : List V} (e : H p = some (.lst xs)) (n : p ∉ α) : HR G pn α h (upd H p (.lst ys)) := by
  refine ⟨r.len, r.nd, fun i a o ea eo => (r.ob i a o ea eo).keep (List.prefix_refl _) (fix_side e) fun b w hb eb => ?_⟩
  rw [upd_ne fun z => ?_]
  · exact eb
  · subst z
    rcases hb with rfl | hb
    · exact n (List.mem_of_getElem? ea)
    · rw [e] at hb; cases hb
theorem wipeD_get : ∀ {vs : List Nat} {env : Env} {i : Nat} {d : D}, (wipeD env vs)[i]? = some (some d) → i ∉ vs ∧ env[i]? = some (some d)
  | [], env, i, d, e => ⟨by simp, e⟩
  | v :: vs, env, i, d, e => by
    unfold wipeD at e
    by_cases hv : v = i
    · subst hv
      by_cases hl : v < (wipeD env vs).length
      · rw [List.getElem?_set_self hl] at e; cases e
      · rw [List.getElem?_eq_none (by simpa using hl)] at e; cases e
    · rw [List.getElem?_set_ne hv] at e
      obtain ⟨n, e'⟩ := wipeD_get e
      exact ⟨fun hm => (List.mem_cons.mp hm).elim (fun z => hv z.symm) n, e'⟩
theorem wipe_get : ∀ {vs : List Nat} {σ : L2.St} {i : Nat}, i ∉ vs → (wipe σ vs)[i]? = σ[i]?
  | [], σ, i, _ => rfl
  | v :: vs, σ, i, n => by
    unfold wipe
    rw [List.getElem?_set_ne fun z => n (by rw [z]; exact List.mem_cons_self)]
    exact wipe_get fun z => n (List.mem_cons_of_mem _ z)
theorem wipe_in : ∀ {vs : List Nat} {σ : L2.St} {i : Nat}, i ∈ vs → i < σ.length → (wipe σ vs)[i]? = some none
  | v :: vs, σ, i, hm, hl => by
    unfold wipe
    by_cases hv : v = i
    · subst hv
      exact List.getElem?_set_self (by rw [wipe_length]; exact hl)
    · rw [List.getElem?_set_ne hv]
      exact wipe_in ((List.mem_cons.mp hm).elim (fun z => absurd z.symm hv) id) hl
theorem wipe_eq {vs : List Nat} {a b : L2.St} (ag : ∀ j, j ∉ vs → a[j]? = b[j]?) (hl : a.length = b.length) : wipe a vs = wipe b vs := by
  apply List.ext_getElem?
  intro i
  by_cases hi : i ∈ vs
  · by_cases h1 : i < a.length
    · rw [wipe_in hi h1, wipe_in hi (by rw [← hl]; exact h1)]
    · rw [List.getElem?_eq_none (by rw [wipe_length]; omega), List.getElem?_eq_none (by rw [wipe_length]; omega)]
  · rw [wipe_get hi, wipe_get hi]
    exact ag i hi
theorem wipeD_length : ∀ (vs : List Nat) (env : Env), (wipeD env vs).length = env.length
  | [], _ => rfl
  | v :: vs, env => by unfold wipeD; rw [List.length_set, wipeD_length vs env]
theorem SR.wipe (r : SR G pn α H env σ) (vs : List Nat) : SR G pn α H (wipeD env vs) (wipe σ vs) := by
  refine ⟨by rw [wipeD_length, wipe_length]; exact r.len, fun i d e => ?_⟩
  obtain ⟨n, e'⟩ := wipeD_get e
  rw [wipe_get n]
  exact r.at_ i d e'
theorem lcLoop_nil {t : Tg} {ft fe : Sh} {g : Option (Nat × Ob)} {acc : List D} : lcLoop t ft fe g env [] acc h = if stands g h then .ok acc h else .bad := rfl
theorem lcLoop_cons {t : Tg} {ft fe : Sh} {g : Option (Nat × Ob)} {acc : List D} {x : D} {xs : List D} : lcLoop t ft fe g env (x :: xs) acc h = if stands g h then (t x env h).bind fun σ1 h1 => (ft σ1 h1).bind fun b h2 => match truth h2 b with
      | some true => (fe σ1 h2).bind fun y h3 => lcLoop t ft fe g env xs (acc ++ [y]) h3
      | some false => lcLoop t ft fe g env xs acc h2
      | none => .bad
    else .bad := rfl
theorem snd_lc {elt tg iter : Expr} {ifs : List Expr} {scope : Scope} {own : List (Str × Nat)} {pos : Pos} {it : Ev.It} {t : Tg} {ft fe : Sh} (hc : X.calm = true) (hN : X.N.Nodup) (hi : PI X tg iter (tI G pn W it)) (ok : BlkOk X.N X.env.scope scope own)
    (hg : ∀ (s : Shared) (H : Hp) (C : Addr) (cl : List (Str × Addr)) (fp : List Addr), PG (X.blk s H scope (compEnvC scope cl C X.env) fp) tg (tG G pn (own.map (·.2)) t)) (ht : ∀ (s : Shared) (H : Hp) (C : Addr) (cl : List (Str × Addr)) (fp : List Addr), PTs (X.blk s H scope (compEnvC scope cl C X.env) fp) ifs (tT G pn WF ft))
    (he : ∀ (s : Shared) (H : Hp) (C : Addr) (cl : List (Str × Addr)) (fp : List Addr), PE (X.blk s H scope (compEnvC scope cl C X.env) fp) elt (tE G pn WF fe)) (hs : ∀ x, foldedSetIterable iter X.env x = pure x) :
    PE X (.ListComp elt [⟨tg, iter, ifs, 0⟩] scope pos) (tE G pn W (eLc it (own.map (·.2)) t ft fe)) ∧ ∀ σ H Q, tE G pn W (eLc it (own.map (·.2)) t ft fe) σ H Q → tLc (tI G pn W it) (tG G pn (own.map (·.2)) t) (tT G pn WF ft) (tE G pn WF fe) (own.map (·.2)) σ H Q := by
  have main : ∀ σ H Q, tE G pn W (eLc it (own.map (·.2)) t ft fe) σ H Q → tLc (tI G pn W it) (tG G pn (own.map (·.2)) t) (tT G pn WF ft) (tE G pn WF fe) (own.map (·.2)) σ H Q := by
    intro σ H Q ⟨α, env, h, sr, hr, p⟩
    generalize own.map (·.2) = vs at p ⊢
    refine ⟨α, env, h, sr, hr, ?_⟩
    have p : Post G pn ((it env h).bind fun w h1 => if w.items.length ≤ lim then (noExc (lcLoop t ft fe w.guard (wipeD env vs) w.items [] h1)).bind fun ys h2 => newL ys (unlock w.fin h2) else .bad) α H (QV G pn Q) (EW W σ) := p
    cases hit : it env h with
    | exc x h1 => rw [hit] at p; exact p
    | bad => rw [hit] at p; exact p.elim
    | ok w h1 =>
      rw [hit] at p
      intro α1 H1 m1 r1 J ⟨hfin, ir⟩ D hD
      have p := Post.move p m1
      have p : Post G pn (if w.items.length ≤ lim then (noExc (lcLoop t ft fe w.guard (wipeD env vs) w.items [] h1)).bind fun ys h2 => newL ys (unlock w.fin h2) else .bad) α1 H1 (QV G pn Q) (EW W σ) := p
      by_cases hlim : w.items.length ≤ lim
      · rw [if_pos hlim, hfin] at p
        have p : Post G pn ((noExc (lcLoop t ft fe w.guard (wipeD env vs) w.items [] h1)).bind fun ys h2 => newL ys h2) α1 H1 (QV G pn Q) (EW W σ) := p
        have sr1 := (sr.mono m1.pre (hr.fix m1)).wipe vs
        generalize henv : wipeD env vs = env0 at p sr1
        generalize hitems : w.items = items at p hlim ir
        -- a turn's state
        have inv : ∃ S : Nat → Hp → Prop, S = fun i H' => ∃ α' h' acc ws, HR G pn α' h' H' ∧ D ∉ α' ∧ H' D = some (.lst ws) ∧ VRs G pn α' H' acc ws ∧ acc.length ≤ i ∧ Mv α1 H1 α' H' ∧
          Post G pn ((noExc (lcLoop t ft fe w.guard env0 (items.drop i) acc h')).bind fun ys h2 => newL ys h2) α1 H1 (QV G pn Q) (EW W σ) := ⟨_, rfl⟩
        obtain ⟨S, hS⟩ := inv
        refine ⟨fun i m H' => m = items.length - i ∧ i ≤ items.length ∧ S i H', ⟨items.length, by simp, Nat.zero_le _, ?_⟩, ?_⟩
        · rw [hS]
          obtain ⟨ma, ra⟩ := r1.more hD (u := .lst [])
          exact ⟨α1, h1, [], [], ra, r1.free hD, upd_same, .nil, Nat.le_refl _, ma, p⟩
        · rintro i m H' ⟨rfl, hi', hSi⟩
          rw [hS] at hSi
          obtain ⟨α', h', acc, ws, r', nD, eD, rv, hal, mv, p'⟩ := hSi
          have sr' := sr1.mono mv.pre (r1.fix mv)
          have fx := r1.fix mv
          by_cases hlt : i < items.length
          · -- a turn
            have ed : items[i]? = some items[i] := List.getElem?_eq_getElem hlt
            have edr : items.drop i = items[i] :: items.drop (i + 1) := List.drop_eq_getElem_cons hlt
            rw [edr, lcLoop_cons] at p'
            cases hst : stands w.guard h' with
            | false => rw [hst] at p'; exact p'.elim
            | true =>
              rw [hst] at p'
              have p' : Post G pn ((noExc ((t items[i] env0 h').bind fun σ1 h1 => (ft σ1 h1).bind fun b h2 => match truth h2 b with
                | some true => (fe σ1 h2).bind fun y h3 => lcLoop t ft fe w.guard env0 (items.drop (i + 1)) (acc ++ [y]) h3
                | some false => lcLoop t ft fe w.guard env0 (items.drop (i + 1)) acc h2
                | none => .bad)).bind fun ys h2 => newL ys h2) α1 H1 (QV G pn Q) (EW W σ) := p'
              obtain ⟨go, yl⟩ := (ir α' h' H' mv.pre fx r' hst i).2 _ ed
              refine .inr ⟨go, S (i + 1), fun H'' n => ⟨items.length - (i + 1), by omega, rfl, hlt, n⟩, fun x H2 hy => ?_⟩
              obtain ⟨m2, r2, qx⟩ := yl x H2 hy
              obtain ⟨eD2, _⟩ := m2.side eD nD
              have mv2 := mv.trans m2
              refine ⟨α', env0, h', _, sr'.mono m2.pre (r'.fix m2), r2, qx, ?_⟩
              cases et : t items[i] env0 h' with
              | exc x h3 => rw [et] at p'; exact p'.elim
              | bad => rw [et] at p'; exact p'.elim
              | ok env1 h3 =>
                rw [et] at p'
                intro α3 H3 m3 r3 σ3 sr3 ag
                refine ⟨(wipe_eq ag.1 ag.2).trans (wipe_eq (fun j hj => wipe_get hj) (wipe_length _ _)), ?_⟩
                obtain ⟨eD3, nD3⟩ := m3.side eD2 nD
                have mv3 := mv2.trans m3
                refine ⟨α3, env1, h3, sr3, r3, ?_⟩
                have p' : Post G pn ((noExc ((ft env1 h3).bind fun b h2 => match truth h2 b with
                  | some true => (fe env1 h2).bind fun y h3 => lcLoop t ft fe w.guard env0 (items.drop (i + 1)) (acc ++ [y]) h3
                  | some false => lcLoop t ft fe w.guard env0 (items.drop (i + 1)) acc h2
                  | none => .bad)).bind fun ys h2 => newL ys h2) α1 H1 (QV G pn Q) (EW W σ) := p'
                cases eb : ft env1 h3 with
                | exc x h4 => rw [eb] at p'; exact p'.elim
                | bad => rw [eb] at p'; exact p'.elim
                | ok b h4 =>
                  rw [eb] at p'
                  have p' : Post G pn ((noExc (match truth h4 b with
                    | some true => (fe env1 h4).bind fun y h3 => lcLoop t ft fe w.guard env0 (items.drop (i + 1)) (acc ++ [y]) h3
                    | some false => lcLoop t ft fe w.guard env0 (items.drop (i + 1)) acc h4
                    | none => .bad)).bind fun ys h2 => newL ys h2) α1 H1 (QV G pn Q) (EW W σ) := p'
                  show Post G pn (truthR b h4) α3 H3 _ _
                  unfold truthR
                  cases etr : truth h4 b with
                  | none => rw [etr] at p'; exact p'.elim
                  | some k =>
                    rw [etr] at p'
                    intro α4 H4 m4 r4
                    obtain ⟨eD4, nD4⟩ := m4.side eD3 nD3
                    have mv4 := mv3.trans m4
                    have rv4 := ((rv.mono m2.pre (r'.fix m2)).mono m3.pre (r2.fix m3)).mono m4.pre (r3.fix m4)
                    cases k with
                    | false =>
                      show S (i + 1) H4
                      rw [hS]
                      exact ⟨α4, h4, acc, ws, r4, nD4, eD4, rv4, by omega, mv4, p'⟩
                    | true =>
                      refine ⟨α4, env1, h4, sr3.mono m4.pre (r3.fix m4), r4, ?_⟩
                      have p' : Post G pn ((noExc ((fe env1 h4).bind fun y h3 => lcLoop t ft fe w.guard env0 (items.drop (i + 1)) (acc ++ [y]) h3)).bind fun ys h2 => newL ys h2) α1 H1 (QV G pn Q) (EW W σ) := p'
                      cases ee : fe env1 h4 with
                      | exc x h5 => rw [ee] at p'; exact p'.elim
                      | bad => rw [ee] at p'; exact p'.elim
                      | ok y h5 =>
                        rw [ee] at p'
                        intro α5 H5 m5 r5 vy qy
                        obtain ⟨eD5, nD5⟩ := m5.side eD4 nD4
                        have mv5 := mv4.trans m5
                        have rv5 := rv4.mono m5.pre (r4.fix m5)
                        refine ⟨ws, eD5, by rw [← rv.length, sizeLine_eq]; have : lim = 1000000 := rfl; omega, ?_⟩
                        rw [hS]
                        exact ⟨α5, h5, acc ++ [y], ws ++ [vy], r5.side eD5 nD5, nD5, upd_same, (rv5.append (.cons qy .nil)).mono (List.prefix_refl _) (fix_side eD5), by simp; omega, mv5.updS hD, p'⟩
          · -- the end
            have hie : i = items.length := by omega
            rw [List.drop_eq_nil_of_le (by omega), lcLoop_nil] at p'
            cases hst : stands w.guard h' with
            | false => rw [hst] at p'; exact p'.elim
            | true =>
              rw [hst] at p'
              have p' : Post G pn (newL acc h') α1 H1 (QV G pn Q) (EW W σ) := p'
              refine .inl ⟨(ir α' h' H' mv.pre fx r' hst i).1 (by omega), ?_⟩
              have ra := r'.adopt (o := .lst false acc) (u := .lst ws) eD nD (fun _ z => by cases z) (fun _ z => by cases z) (fun _ z => by cases z) (.lst upd_same (rv.mono (List.prefix_append _ _) (fix_side eD)))
              rw [upd_self eD] at ra
              refine p' (α' ++ [D]) H' ⟨mv.pre.trans (List.prefix_append _ _), mv.keep, fun b hb n => ?_⟩ ra _ (.ref (by rw [← r'.len]; simp))
              rcases List.mem_append.mp hb with z | z
              · exact mv.new b z n
              · rw [List.mem_singleton.mp z]; exact hD
      · rw [if_neg hlim] at p; exact p.elim
  exact ⟨PEs (pe_lc hc hN hi ok hg ht he hs) main, main⟩
end
end Ev

set_option maxRecDepth 100000
set_option maxHeartbeats 1000000
/-! soundness: statements -/
namespace Ev
open PySem PySem.Spec PyProof.Rows L2
/-- what is wanted behind a statement -/
def PostS (G : Gd) (pn : List (Addr × Obj)) (r : SRes) (α : List Addr) (H : Hp) (D : Ends) (W : WX) : Prop := match r with
  | .nx env' h' => ∀ α' H' σ', Mv α H α' H' → HR G pn α' h' H' → SR G pn α' H' env' σ' → D.nx σ' H'
  | .bk env' h' => ∀ α' H' σ', Mv α H α' H' → HR G pn α' h' H' → SR G pn α' H' env' σ' → D.bk σ' H'
  | .ct env' h' => ∀ α' H' σ', Mv α H α' H' → HR G pn α' h' H' → SR G pn α' H' env' σ' → D.ct σ' H'
  | .rt d h' => ∀ α' H' v, Mv α H α' H' → HR G pn α' h' H' → VR G pn α' H' d v → D.rt v H'
  | .exc x env' h' => ∀ α' H' σ' cls od, Mv α H α' H' → HR G pn α' h' H' → SR G pn α' H' env' σ' → XR G pn α' H' x cls od → W cls od σ' H'
  | .bad => False
def tS (G : Gd) (pn : List (Addr × Obj)) (W : WX) (f : ShS) : TS := fun D σ H => ∃ α env h, SR G pn α H env σ ∧ HR G pn α h H ∧ PostS G pn (f env h) α H D W
section
variable {G : Gd} {pn : List (Addr × Obj)} {X : Cx} {W : WX} {pins : List (Addr × Obj)} {s : Shared} {σ : L2.St} {H : Hp} {α : List Addr} {env : Env} {h : Hh}
theorem PostS.move {r : SRes} {α1 : List Addr} {H1 : Hp} {D : Ends} (p : PostS G pn r α H D W) (m : Mv α H α1 H1) : PostS G pn r α1 H1 D W := by
  cases r with
  | nx e h' => exact fun a b c m' => p a b c (m.trans m')
  | bk e h' => exact fun a b c m' => p a b c (m.trans m')
  | ct e h' => exact fun a b c m' => p a b c (m.trans m')
  | rt d h' => exact fun a b c m' => p a b c (m.trans m')
  | exc x e h' => exact fun a b c d f m' => p a b c d f (m.trans m')
  | bad => exact p
theorem PSi {e : Stmt} {t u : TS} (p : PS X e t) (k : ∀ D σ H, u D σ H → t D σ H) : PS X e u := ⟨fun pins s σ H D I h => p.run pins s σ H D I (k D σ H h)⟩
theorem PSsi {e : List Stmt} {t u : TS} (p : PSs X e t) (k : ∀ D σ H, u D σ H → t D σ H) : PSs X e u := ⟨fun pins s σ H D I h => p.run pins s σ H D I (k D σ H h)⟩
theorem tE.stm {f : Sh} {g : D → Hh → SRes} {D0 : Ends} {R : VK} (sr : SR G pn α H env σ) (hr : HR G pn α h H) (p : PostS G pn ((f env h).stm env g) α H D0 W)
    (k : ∀ (d : D) (h1 : Hh) (α1 : List Addr) (H1 : Hp) (v : V), Mv α H α1 H1 → HR G pn α1 h1 H1 → VR G pn α1 H1 d v → SR G pn α1 H1 env σ → PostS G pn (g d h1) α1 H1 D0 W → R v H1) : tE G pn W f σ H R := by
  refine ⟨α, env, h, sr, hr, ?_⟩
  cases hf : f env h with
  | ok d h1 =>
    rw [hf] at p
    exact fun α1 H1 m r v q => k d h1 α1 H1 v m r q (sr.mono m.pre (hr.fix m)) (PostS.move p m)
  | exc x h1 =>
    rw [hf] at p
    exact fun α1 H1 cls od m r xr => p α1 H1 σ cls od m r (sr.mono m.pre (hr.fix m)) xr
  | bad =>
    rw [hf] at p
    exact p.elim
theorem ps_bad {st : Stmt} : PS X st (tS G pn W sBad) := ⟨fun _ _ _ _ _ _ ⟨_, _, _, _, _, p⟩ => p.elim⟩
theorem snd_pass {pos : Pos} : PS X (.Pass pos) (tS G pn W sPass) := PSi ps_pass fun D σ H ⟨α, env, h, sr, hr, p⟩ => p α H σ (Mv.refl _ _) hr sr
theorem snd_doc {x : Str} {j : Nat} {pos pos' : Pos} : PS X (.Expr (.Constant (.str x) j pos) pos') (tS G pn W sPass) := PSi ps_doc fun D σ H ⟨α, env, h, sr, hr, p⟩ => p α H σ (Mv.refl _ _) hr sr
def sBrk : ShS := fun σ h => .bk σ h
def sCnt : ShS := fun σ h => .ct σ h
theorem snd_break {pos : Pos} : PS X (.Break pos) (tS G pn W sBrk) := PSi ps_break fun D σ H ⟨α, env, h, sr, hr, p⟩ => p α H σ (Mv.refl _ _) hr sr
theorem snd_continue {pos : Pos} : PS X (.Continue pos) (tS G pn W sCnt) := PSi ps_continue fun D σ H ⟨α, env, h, sr, hr, p⟩ => p α H σ (Mv.refl _ _) hr sr
theorem snd_expr {e : Expr} {f : Sh} {pos : Pos} (he : PE X e (tE G pn W f)) (hs : swapsWith e none pos.line X.env = pure false) : PS X (.Expr e pos) (tS G pn W (sExpr f)) := by
  refine PSi (ps_expr he hs) fun D σ H ⟨α, env, h, sr, hr, p⟩ => ?_
  exact tE.stm sr hr p fun d h1 α1 H1 v m r q sr1 p1 => p1 α1 H1 σ (Mv.refl _ _) r sr1
theorem snd_ret {e : Expr} {f : Sh} {pos : Pos} (he : PE X e (tE G pn W f)) : PS X (.Return (some e) pos) (tS G pn W (sRet f)) := by
  refine PSi (ps_ret he) fun D σ H ⟨α, env, h, sr, hr, p⟩ => ?_
  exact tE.stm sr hr p fun d h1 α1 H1 v m r q sr1 p1 => p1 α1 H1 v (Mv.refl _ _) r q
theorem snd_retN {pos : Pos} : PS X (.Return none pos) (tS G pn W sRetN) := PSi ps_retN fun D σ H ⟨α, env, h, sr, hr, p⟩ => p α H .non (Mv.refl _ _) hr .non
/-- a store's end -/
theorem tG.stm {vs : List Nat} {t : Tg} {d : D} {v : V} {D0 : Ends} {g : Env → Hh → SRes} {R : L2.St → Hp → Prop} (sr : SR G pn α H env σ) (hr : HR G pn α h H) (q : VR G pn α H d v) (p : PostS G pn ((noExc (t d env h)).stm env g) α H D0 W)
    (k : ∀ (env1 : Env) (h1 : Hh) (α1 : List Addr) (H1 : Hp) (σ1 : L2.St), Mv α H α1 H1 → HR G pn α1 h1 H1 → SR G pn α1 H1 env1 σ1 → PostS G pn (g env1 h1) α1 H1 D0 W → R σ1 H1) : tG G pn vs t v σ H R := by
  refine ⟨α, env, h, d, sr, hr, q, ?_⟩
  cases e : t d env h with
  | ok env1 h1 =>
    rw [e] at p
    exact fun α1 H1 m r σ1 sr1 _ => k env1 h1 α1 H1 σ1 m r sr1 (PostS.move p m)
  | exc x h1 => rw [e] at p; exact p.elim
  | bad => rw [e] at p; exact p.elim
theorem snd_asgT {vs : List Nat} {te : TE} {f : Sh} {t : Tg} (hte : ∀ σ H Q, tE G pn W f σ H Q → te σ H Q) : ∀ D σ H, tS G pn W (sAsg t f) D σ H → tAsg te (tG G pn vs t) D σ H := fun D σ H ⟨α, env, h, sr, hr, p⟩ =>
  hte σ H _ (tE.stm sr hr p fun d h1 α1 H1 v m r q sr1 p1 => tG.stm sr1 r q p1 fun env2 h2 α2 H2 σ2 m2 r2 sr2 p2 => p2 α2 H2 σ2 (Mv.refl _ _) r2 sr2)
theorem snd_asg {vs : List Nat} {tg e : Expr} {f : Sh} {t : Tg} {pos : Pos} (he : PE X e (tE G pn W f)) (hg : PG X tg (tG G pn vs t)) (hs : swapsWithSole [tg] e pos.line X.env = pure false) (hw : swappedStores [tg] e X.env = pure none)
    (h1 : (assignEach [tg] X.env).map (·.2) = [assign tg X.env]) : PS X (.Assign [tg] e pos) (tS G pn W (sAsg t f)) := PSi (ps_asg he hg hs hw h1) (snd_asgT fun _ _ _ h => h)
theorem snd_asgLc {i : Nat} {y : Str} {py : Pos} {elt tg iter : Expr} {ifs : List Expr} {scope : Scope} {own : List (Str × Nat)} {pos spos : Pos} {it : Ev.It} {t : Tg} {ft fe : Sh} (hc : X.calm = true) (hN : X.N.Nodup) (hy : X.N[i]? = some y) (hyl : X.env.scope.names.lookup y = some .local)
    (hsw : swapsWith (.ListComp elt [⟨tg, iter, ifs, 0⟩] scope pos) (some (.Name y py)) spos.line X.env = pure true) (hi : PI X tg iter (tI G pn W it)) (ok : BlkOk X.N X.env.scope scope own)
    (hg : ∀ (s : Shared) (H : Hp) (C : Addr) (cl : List (Str × Addr)) (fp : List Addr), PG (X.blk s H scope (compEnvC scope cl C X.env) fp) tg (tG G pn (own.map (·.2)) t)) (ht : ∀ (s : Shared) (H : Hp) (C : Addr) (cl : List (Str × Addr)) (fp : List Addr), PTs (X.blk s H scope (compEnvC scope cl C X.env) fp) ifs (tT G pn WF ft))
    (he : ∀ (s : Shared) (H : Hp) (C : Addr) (cl : List (Str × Addr)) (fp : List Addr), PE (X.blk s H scope (compEnvC scope cl C X.env) fp) elt (tE G pn WF fe)) (hs : ∀ x, foldedSetIterable iter X.env x = pure x) :
    PS X (.Assign [.Name y py] (.ListComp elt [⟨tg, iter, ifs, 0⟩] scope pos) spos) (tS G pn W (sAsg (tName i) (eLc it (own.map (·.2)) t ft fe))) := by
  obtain ⟨_, main⟩ := snd_lc (pos := pos) hc hN hi ok hg ht he hs
  refine PSi (ps_setLc hc hN hy hyl hsw hi ok hg ht he hs) fun D σ H ⟨α, env, h, sr, hr, p⟩ => ?_
  refine main σ H _ (tE.stm sr hr p fun d h1 α1 H1 v m r q sr1 p1 => ?_)
  exact p1 α1 H1 _ (Mv.refl _ _) r (sr1.set i q)
theorem snd_par2 {i j : Nat} {x y : Str} {a b : Expr} {fa fb : Sh} {px py pt pos : Pos} {kt k2 pt2} (hc : X.calm = true) (hN : X.N.Nodup) (hi : X.N[i]? = some x) (hj : X.N[j]? = some y) (hij : i ≠ j)
    (hx : X.env.scope.names.lookup x = some .local) (hy : X.env.scope.names.lookup y = some .local) (ha : PA X [a, b] (tA G pn W [fa, fb]))
    (hw : swappedStores [.Tuple [.Name x px, .Name y py] kt pt] (.Tuple [a, b] k2 pt2) X.env = pure (some [x, y]))
    (hs : swapsWithSole [.Tuple [.Name x px, .Name y py] kt pt] (.Tuple [a, b] k2 pt2) pos.line X.env = pure false) :
    PS X (.Assign [.Tuple [.Name x px, .Name y py] kt pt] (.Tuple [a, b] k2 pt2) pos) (tS G pn W (sAsg (tTup [tName i, tName j]) (eTup [fa, fb]))) := by
  refine PSi (ps_par hc hN hi hj hij hx hy ha hw hs) fun D σ H ⟨α, env, h, sr, hr, p⟩ => ?_
  refine ⟨α, env, h, sr, hr, ?_⟩
  have p : PostS G pn (((eArgs [fa, fb] env h).bind fun xs h1 => .ok (.tup xs) h1).stm env fun d h1 => (noExc (tTup [tName i, tName j] d env h1)).stm env fun σ2 h2 => .nx σ2 h2) α H D W := p
  cases e : eArgs [fa, fb] env h with
  | ok ds h1 =>
    rw [e] at p
    intro α1 H1 m r vs q
    have hl := snd_tup.eArgs_len e
    match ds, hl, q, p with
    | [d1, d2], _, q, p =>
      obtain ⟨v, w, rfl, q1, q2⟩ := vrs2 q
      exact ⟨v, w, rfl, p α1 H1 _ m r (((sr.mono m.pre (hr.fix m)).set i q1).set j q2)⟩
  | exc x h1 =>
    rw [e] at p
    exact fun α1 H1 cls od m r xr => p α1 H1 σ cls od m r (sr.mono m.pre (hr.fix m)) xr
  | bad => rw [e] at p; exact p.elim
theorem vrs3 {x y z : D} {vs : List V} (q : VRs G pn α H [x, y, z] vs) : ∃ u v w, vs = [u, v, w] ∧ VR G pn α H x u ∧ VR G pn α H y v ∧ VR G pn α H z w := by
  cases q with
  | cons a b =>
    obtain ⟨v, w, rfl, q2, q3⟩ := vrs2 b
    exact ⟨_, v, w, rfl, a, q2, q3⟩
theorem snd_par3 {i j l : Nat} {x y z : Str} {a b c : Expr} {fa fb fc : Sh} {px py pz pt pos : Pos} {kt k2 pt2} (hc : X.calm = true) (hN : X.N.Nodup) (hi : X.N[i]? = some x) (hj : X.N[j]? = some y) (hl : X.N[l]? = some z) (hij : i ≠ j) (hil : i ≠ l) (hjl : j ≠ l)
    (hx : X.env.scope.names.lookup x = some .local) (hy : X.env.scope.names.lookup y = some .local) (hz : X.env.scope.names.lookup z = some .local) (ha : PA X [a, b, c] (tA G pn W [fa, fb, fc]))
    (hw : swappedStores [.Tuple [.Name x px, .Name y py, .Name z pz] kt pt] (.Tuple [a, b, c] k2 pt2) X.env = pure (some [x, y, z]))
    (hs : swapsWithSole [.Tuple [.Name x px, .Name y py, .Name z pz] kt pt] (.Tuple [a, b, c] k2 pt2) pos.line X.env = pure false) :
    PS X (.Assign [.Tuple [.Name x px, .Name y py, .Name z pz] kt pt] (.Tuple [a, b, c] k2 pt2) pos) (tS G pn W (sAsg (tTup [tName i, tName j, tName l]) (eTup [fa, fb, fc]))) := by
  refine PSi (ps_par3 hc hN hi hj hl hij hil hjl hx hy hz ha hw hs) fun D σ H ⟨α, env, h, sr, hr, p⟩ => ?_
  refine ⟨α, env, h, sr, hr, ?_⟩
  have p : PostS G pn (((eArgs [fa, fb, fc] env h).bind fun xs h1 => .ok (.tup xs) h1).stm env fun d h1 => (noExc (tTup [tName i, tName j, tName l] d env h1)).stm env fun σ2 h2 => .nx σ2 h2) α H D W := p
  cases e : eArgs [fa, fb, fc] env h with
  | ok ds h1 =>
    rw [e] at p
    intro α1 H1 m r vs q
    have hl := snd_tup.eArgs_len e
    match ds, hl, q, p with
    | [d1, d2, d3], _, q, p =>
      obtain ⟨u, v, w, rfl, q1, q2, q3⟩ := vrs3 q
      exact ⟨u, v, w, rfl, p α1 H1 _ m r ((((sr.mono m.pre (hr.fix m)).set i q1).set j q2).set l q3)⟩
  | exc x h1 =>
    rw [e] at p
    exact fun α1 H1 cls od m r xr => p α1 H1 σ cls od m r (sr.mono m.pre (hr.fix m)) xr
  | bad => rw [e] at p; exact p.elim
theorem snd_aug {i : Nat} {x : Str} {e : Expr} {f : Sh} {op : Operator} {pos pos' : Pos} (hN : X.N.Nodup) (hi : X.N[i]? = some x) (hx : X.env.scope.names.lookup x = some .local) (he : PE X e (tE G pn W f)) (hop : op = .Add ∨ op = .Sub) : PS X (.AugAssign (.Name x pos') op e pos) (tS G pn W (sAug i op f)) := by
  have go : ∀ g : Int → Int → Int, PIp X op (ipI g) → (∀ a b h1, augop op (.int a) (.int b) h1 = .ok (.int (g a b)) h1) → PS X (.AugAssign (.Name x pos') op e pos) (tS G pn W (sAug i op f)) := by
    intro g hp hg
    refine PSi (ps_aug hN hi (.inl hx) he hp (.inr hx)) fun D σ H ⟨α, env, h, sr, hr, p⟩ => ?_
    unfold sAug at p
    cases ex : env[i]? with
    | none => rw [ex] at p; exact p.elim
    | some o =>
      cases o with
      | none => rw [ex] at p; exact p.elim
      | some d =>
        rw [ex] at p
        obtain ⟨v, ev, qv⟩ := sr.at_ i d ex
        refine ⟨v, ev, tE.stm sr hr p fun d2 h1 α1 H1 w m r q sr1 p1 => ?_⟩
        cases d with
        | int a =>
          cases d2 with
          | int b =>
            rw [hg] at p1
            refine ⟨a, b, qv.int_eq, q.int_eq, ?_⟩
            exact p1 α1 H1 _ (Mv.refl _ _) r (sr1.set i (.int _))
          | _ => rcases hop with rfl | rfl <;> exact p1.elim
        | _ => rcases hop with rfl | rfl <;> cases d2 <;> exact p1.elim
  rcases hop with rfl | rfl
  · exact go _ ip_add fun a b h1 => rfl
  · exact go _ ip_sub fun a b h1 => rfl
/-! ### flow -/
theorem snd_sif {c : Expr} {a b : List Stmt} {fc : Sh} {fa fb : ShS} {pos : Pos} (hc : PT X c (tT G pn W fc)) (ha : PSs X a (tS G pn W fa)) (hb : PSs X b (tS G pn W fb)) : PS X (.If c a b pos) (tS G pn W (sIf fc fa fb)) := by
  refine PSi (ps_if hc ha hb) fun D σ H ⟨α, env, h, sr, hr, p⟩ => ?_
  refine ⟨α, env, h, sr, hr, ?_⟩
  have p : PostS G pn ((fc env h).stm env fun x h1 => match truth h1 x with
    | some true => fa env h1
    | some false => fb env h1
    | none => .bad) α H D W := p
  cases e : fc env h with
  | ok d h1 =>
    rw [e] at p
    show Post G pn (truthR d h1) α H _ _
    unfold truthR
    have p : PostS G pn (match truth h1 d with
      | some true => fa env h1
      | some false => fb env h1
      | none => .bad) α H D W := p
    cases et : truth h1 d with
    | none => rw [et] at p; exact p.elim
    | some k =>
      rw [et] at p
      intro α1 H1 m r
      have sr1 := sr.mono m.pre (hr.fix m)
      cases k with
      | true => exact ⟨α1, env, h1, sr1, r, PostS.move p m⟩
      | false => exact ⟨α1, env, h1, sr1, r, PostS.move p m⟩
  | exc x h1 =>
    rw [e] at p
    exact fun α1 H1 cls od m r xr => p α1 H1 σ cls od m r (sr.mono m.pre (hr.fix m)) xr
  | bad => rw [e] at p; exact p.elim
theorem snd_nil : PSs X [] (tS G pn W sPass) := PSsi pss_nil fun D σ H ⟨α, env, h, sr, hr, p⟩ => p α H σ (Mv.refl _ _) hr sr
theorem snd_cons {st : Stmt} {rest : List Stmt} {f g : ShS} (h1 : PS X st (tS G pn W f)) (h2 : PSs X rest (tS G pn W g)) : PSs X (st :: rest) (tS G pn W (sSeq f g)) := by
  refine PSsi (pss_cons h1 h2) fun D σ H ⟨α, env, h, sr, hr, p⟩ => ?_
  refine ⟨α, env, h, sr, hr, ?_⟩
  unfold sSeq at p
  cases e : f env h with
  | nx env1 h1 =>
    rw [e] at p
    exact fun α1 H1 σ1 m r sr1 => ⟨α1, env1, h1, sr1, r, PostS.move p m⟩
  | _ => rw [e] at p; exact p
theorem snd_while {c : Expr} {body : List Stmt} {fc : Sh} {fb : ShS} {pos : Pos} (hp : PassesOwn (model X.prog X.w) X.A X.env X.xe) (hc : PT X c (tT G pn W fc)) (hb : PSs X body (tS G pn W fb)) : PS X (.While c body [] pos) (tS G pn W (sWhile fc fb)) := by
  refine PSi (ps_while hp hc hb) fun D σ H ⟨α, env, h, sr, hr, p⟩ => ?_
  have inv : ∃ S : Nat → L2.St → Hp → Prop, S = fun m σ H => ∃ α env h, SR G pn α H env σ ∧ HR G pn α h H ∧ PostS G pn (whileL fc fb m env h) α H D W := ⟨_, rfl⟩
  obtain ⟨S, hS⟩ := inv
  refine ⟨S, ⟨wfuel, by rw [hS]; exact ⟨α, env, h, sr, hr, p⟩⟩, fun m σ H hm => ?_⟩
  rw [hS] at hm
  obtain ⟨α, env, h, sr, hr, p⟩ := hm
  cases m with
  | zero => exact p.elim
  | succ n =>
    refine ⟨α, env, h, sr, hr, ?_⟩
    have p : PostS G pn ((fc env h).stm env fun x h1 => match truth h1 x with
      | some true => match fb env h1 with
        | .nx σ2 h2 => whileL fc fb n σ2 h2
        | .ct σ2 h2 => whileL fc fb n σ2 h2
        | .bk σ2 h2 => .nx σ2 h2
        | r => r
      | some false => .nx env h1
      | none => .bad) α H D W := p
    cases e : fc env h with
    | ok d h1 =>
      rw [e] at p
      show Post G pn (truthR d h1) α H _ _
      unfold truthR
      have p : PostS G pn (match truth h1 d with
        | some true => match fb env h1 with
          | .nx σ2 h2 => whileL fc fb n σ2 h2
          | .ct σ2 h2 => whileL fc fb n σ2 h2
          | .bk σ2 h2 => .nx σ2 h2
          | r => r
        | some false => .nx env h1
        | none => .bad) α H D W := p
      cases et : truth h1 d with
      | none => rw [et] at p; exact p.elim
      | some k =>
        rw [et] at p
        intro α1 H1 m r
        have sr1 := sr.mono m.pre (hr.fix m)
        cases k with
        | false => exact p α1 H1 σ m r sr1
        | true =>
          refine ⟨S n, fun σ' H' hn => ⟨n, Nat.lt_succ_self n, hn⟩, α1, env, h1, sr1, r, ?_⟩
          have p : PostS G pn (match fb env h1 with
            | .nx σ2 h2 => whileL fc fb n σ2 h2
            | .ct σ2 h2 => whileL fc fb n σ2 h2
            | .bk σ2 h2 => .nx σ2 h2
            | r => r) α1 H1 D W := PostS.move p m
          cases eb : fb env h1 with
          | nx env2 h2 =>
            rw [eb] at p
            intro α2 H2 σ2 m2 r2 sr2
            rw [hS]
            exact ⟨α2, env2, h2, sr2, r2, PostS.move p m2⟩
          | ct env2 h2 =>
            rw [eb] at p
            intro α2 H2 σ2 m2 r2 sr2
            rw [hS]
            exact ⟨α2, env2, h2, sr2, r2, PostS.move p m2⟩
          | bk env2 h2 => rw [eb] at p; exact p
          | rt d2 h2 => rw [eb] at p; exact p
          | exc x env2 h2 => rw [eb] at p; exact p
          | bad => rw [eb] at p; exact p
    | exc x h1 =>
      rw [e] at p
      exact fun α1 H1 cls od m r xr => p α1 H1 σ cls od m r (sr.mono m.pre (hr.fix m)) xr
    | bad => rw [e] at p; exact p.elim
theorem forL_nil {t : Tg} {fb : ShS} {g : Option (Nat × Ob)} : forL t fb g none [] env h = if stands g h then .nx env h else .bad := rfl
theorem forL_cons {t : Tg} {fb : ShS} {g : Option (Nat × Ob)} {x : D} {xs : List D} : forL t fb g none (x :: xs) env h = if stands g h then (noExc (t x env h)).stm env fun σ1 h1 => match fb σ1 h1 with
      | .nx σ2 h2 => forL t fb g none xs σ2 h2
      | .ct σ2 h2 => forL t fb g none xs σ2 h2
      | .bk σ2 h2 => .nx σ2 h2
      | .rt d h2 => .rt d h2
      | .exc x σ2 h2 => .exc x σ2 h2
      | .bad => .bad
    else .bad := rfl
theorem snd_for {vs : List Nat} {tg iter : Expr} {body : List Stmt} {it : Ev.It} {t : Tg} {fb : ShS} {pos : Pos} (hp : PassesOwn (model X.prog X.w) X.A X.env X.xe) (hc : X.calm = true) (hi : PI X tg iter (tI G pn W it)) (hg : PG X tg (tG G pn vs t)) (hb : PSs X body (tS G pn W fb))
    (hs : ∀ x, foldedSetIterable iter X.env x = pure x) : PS X (.For tg iter body [] pos) (tS G pn W (sFor it t fb)) := by
  refine PSi (ps_for hp hc hi hg hb hs) fun D σ H ⟨α, env, h, sr, hr, p⟩ => ?_
  refine ⟨α, env, h, sr, hr, ?_⟩
  have p : PostS G pn ((it env h).stm env fun w h1 => forL t fb w.guard w.fin w.items env h1) α H D W := p
  cases hit : it env h with
  | exc x h1 =>
    rw [hit] at p
    exact fun α1 H1 cls od m r xr => p α1 H1 σ cls od m r (sr.mono m.pre (hr.fix m)) xr
  | bad => rw [hit] at p; exact p.elim
  | ok w h1 =>
    rw [hit] at p
    intro α1 H1 m1 r1 J ⟨hfin, ir⟩
    have p : PostS G pn (forL t fb w.guard w.fin w.items env h1) α1 H1 D W := PostS.move p m1
    rw [hfin] at p
    have sr1 := sr.mono m1.pre (hr.fix m1)
    generalize w.items = items at p ir
    have inv : ∃ S : Nat → L2.St → Hp → Prop, S = fun i σ H => ∃ α env h, SR G pn α H env σ ∧ HR G pn α h H ∧ α1 <+: α ∧ Fix H1 H ∧ PostS G pn (forL t fb w.guard none (items.drop i) env h) α H D W := ⟨_, rfl⟩
    obtain ⟨S, hS⟩ := inv
    refine ⟨fun i m σ H => m = items.length - i ∧ i ≤ items.length ∧ S i σ H, ⟨items.length, by simp, Nat.zero_le _, by rw [hS]; exact ⟨α1, env, h1, sr1, r1, List.prefix_refl _, Fix.refl _, p⟩⟩, ?_⟩
    rintro i m σ' H' ⟨rfl, hi', hSi⟩
    rw [hS] at hSi
    obtain ⟨α', env', h', sr', r', pre, fx, p'⟩ := hSi
    by_cases hlt : i < items.length
    · have ed : items[i]? = some items[i] := List.getElem?_eq_getElem hlt
      rw [List.drop_eq_getElem_cons hlt, forL_cons] at p'
      cases hst : stands w.guard h' with
      | false => rw [hst] at p'; exact p'.elim
      | true =>
        rw [hst] at p'
        obtain ⟨go, yl⟩ := (ir α' h' H' pre fx r' hst i).2 _ ed
        refine .inr ⟨go, S (i + 1), fun σ'' H'' n => ⟨items.length - (i + 1), by omega, rfl, hlt, n⟩, fun x H2 hy => ?_⟩
        obtain ⟨m2, r2, qx⟩ := yl x H2 hy
        have fx2 := fx.trans (r'.fix m2)
        have p' : PostS G pn ((noExc (t items[i] env' h')).stm env' fun σ1 h1 => match fb σ1 h1 with
          | .nx σ2 h2 => forL t fb w.guard none (items.drop (i + 1)) σ2 h2
          | .ct σ2 h2 => forL t fb w.guard none (items.drop (i + 1)) σ2 h2
          | .bk σ2 h2 => .nx σ2 h2
          | .rt d h2 => .rt d h2
          | .exc x σ2 h2 => .exc x σ2 h2
          | .bad => .bad) α' H2 D W := PostS.move p' m2
        refine tG.stm (sr'.mono m2.pre (r'.fix m2)) r2 qx p' fun env3 h3 α3 H3 σ3 m3 r3 sr3 p3 => ⟨α3, env3, h3, sr3, r3, ?_⟩
        have fx3 := fx2.trans (r2.fix m3)
        have pre3 := pre.trans m3.pre
        cases eb : fb env3 h3 with
        | nx env4 h4 =>
          rw [eb] at p3
          intro α4 H4 σ4 m4 r4 sr4
          rw [hS]
          exact ⟨α4, env4, h4, sr4, r4, pre3.trans m4.pre, fx3.trans (r3.fix m4), PostS.move p3 m4⟩
        | ct env4 h4 =>
          rw [eb] at p3
          intro α4 H4 σ4 m4 r4 sr4
          rw [hS]
          exact ⟨α4, env4, h4, sr4, r4, pre3.trans m4.pre, fx3.trans (r3.fix m4), PostS.move p3 m4⟩
        | bk env4 h4 => rw [eb] at p3; exact p3
        | rt d2 h4 => rw [eb] at p3; exact p3
        | exc x env4 h4 => rw [eb] at p3; exact p3
        | bad => rw [eb] at p3; exact p3
    · rw [List.drop_eq_nil_of_le (by omega), forL_nil] at p'
      cases hst : stands w.guard h' with
      | false => rw [hst] at p'; exact p'.elim
      | true =>
        rw [hst] at p'
        exact .inl ⟨(ir α' h' H' pre fx r' hst i).1 (by omega), p' α' H' σ' (Mv.refl _ _) r' sr'⟩
end
end Ev

set_option maxRecDepth 100000
set_option maxHeartbeats 1000000
/-! soundness: calls of own functions -/
namespace Ev
open PySem PySem.Spec PyProof.Rows L2
/-- a def's promise (as the hand layer's FnOk, where nothing is being shown) -/
def FnG (P : Program) (w : World) (K : PySem.W.Frag) (mg : Str → Option Value) (base : Heap) (k : Nat) (f : Addr) (fd : FuncData) (ps : List Str) (sp : Sp) : Prop :=
  ∀ (A : Around) (outer : List PySem.Env) (s : Shared) (H : Hp) (args : Args) (us : List Value) (vs : List V) (Q : VK) (E : XK), A.guards = some [] → Room k A → Env0 P w K mg base A outer s H → BindsTo s fd args (ps.zip us) → Vals vs us → vs.length = ps.length → sp vs H Q E →
    codeAny (model P w) A (.call (.ref f) args) (CR (L2.CX P w) outer P w H s Q E) s
theorem FnG.mono {P : Program} {w : World} {K : PySem.W.Frag} {mg : Str → Option Value} {base : Heap} {j k : Nat} {f : Addr} {fd : FuncData} {ps : List Str} {sp : Sp} (F : FnG P w K mg base j f fd ps sp) (h : j ≤ k) : FnG P w K mg base k f fd ps sp :=
  fun A outer s H args us vs Q E hg hr => F A outer s H args us vs Q E hg (hr.mono h)
/-- what the evaluator says of a call -/
def spD (G : Gd) (c : List D → Hh → Res D) : Sp := fun vs H Q E => ∃ pn α h ds, HR G pn α h H ∧ VRs G pn α H ds vs ∧ Post G pn (c ds h) α H (QV G pn Q) E
/-- the rule of a def -/
theorem fng_of {P : Program} {w : World} {K : PySem.W.Frag} {mg : Str → Option Value} {base : Heap} {k : Nat} {f : Addr} {name qual : Str} {params : Arguments} {body : List Stmt} {scope : Scope} {dV kV doc pm cdv ct oc : Value} {an od : Option Addr}
    {osl : Array (Option Value)} {N ps : List Str} {sp : Sp} (lk : K.lookup f = some ⟨oc, od, .func (PySem.W.fnOf name qual params body scope dV kV doc pm an cdv ct), osl⟩) (hcd : PySem.W.codeIn K cdv qual = true) (S : FnScope N ps scope)
    (hbody : ∀ (A : Around) (outer : List PySem.Env) (s : Shared) (H : Hp) (vs : List V) (Q : VK) (E : XK), A.guards = some [] → Room k (A.deeper (envOfC qual scope s.heap.objs.size f cdv)) → vs.length = ps.length → sp vs H Q E →
      ∃ t, PSs (cxOf (L2.CX P w) P w K mg base N qual scope f cdv A outer s H E) body t ∧ t { nx := fun _ H' => Q .non H', rt := Q } (L2.start N vs) H) :
    FnG P w K mg base (k + 1) f (PySem.W.fnOf name qual params body scope dV kV doc pm an cdv ct) ps sp := by
  intro A outer s H args us vs Q E hgd hr e0 hb r hl hsp
  have KX : K.In s.heap := e0.mod.kin.keeps fun b o e => (e0.bs b o e).1
  have lim : s.heap.NoLimit := e0.mod.nolimit.keeps fun b o e => (e0.bs b o e).1
  have hkind : ∀ y ∈ ps.zip us, scope.names.lookup y.1 = some .local ∨ (scope.names.lookup y.1 = some .cell ∧ ((cellsFrom (s.heap.objs.size + 1) scope.names []).lookup y.1).isSome = true) := fun ⟨n, v⟩ hy => by
    rcases S.par n (List.of_mem_zip hy).1 with q | q
    · exact .inl q
    · exact .inr ⟨q, PySem.W.cellsFrom_some _ _ _ (.inl q)⟩
  refine codeAny_call_function hr.depth (KX _ _ lk) rfl S.co S.gen rfl (PySem.W.codeRec_of KX hcd) (hb _ _ _ _ ?_)
  refine wpAny_newFunctionEnv_cells S.kind hkind fun env he s1 x => ?_
  subst he
  refine ⟨lim.keeps x.toInCall.keep, codeAny_func ?_⟩
  obtain ⟨t, ht, hq⟩ := hbody A outer s H vs Q E hgd (hr.deeper _) hl hsp
  have I : L2.Inv (cxOf (L2.CX P w) P w K mg base N qual scope f cdv A outer s H E) [] (L2.start N vs) H s1 := inv_start S hr.hd e0 hl r x
  refine wpAny_mono (ht.run [] s1 (L2.start N vs) H _ I hq) (fun fl s' hs => ?_) fun e s' hs => hs
  have fin : ∀ {σ' : L2.St} {H' : Hp} {v : V} {u : Value}, L2.Inv (cxOf (L2.CX P w) P w K mg base N qual scope f cdv A outer s H E) [] σ' H' s' → RelV v u → Q v H' → CE outer P w H s Q u s' :=
    fun {σ' H' v u} J rv q => ⟨v, H', J.os, J.bare, J.base, J.hok, rv, q⟩
  cases fl with
  | ret u =>
    obtain ⟨v, σ', H', J, rv, q⟩ := hs
    exact fin J rv q
  | next =>
    obtain ⟨σ', H', J, q⟩ := hs
    exact fin (v := V.non) (u := Value.none) J rfl q
  | brk =>
    obtain ⟨_, _, _, q⟩ := hs
    exact False.elim q
  | cont =>
    obtain ⟨_, _, _, q⟩ := hs
    exact False.elim q
theorem SR.start {G : Gd} {pn : List (Addr × Obj)} {α : List Addr} {H : Hp} {N : List Str} {n : Nat} {ds : List D} {vs : List V} (q : VRs G pn α H ds vs) (hn : n = N.length) : SR G pn α H (startD n ds) (L2.start N vs) := by
  subst hn
  have hl := q.length
  refine ⟨by simp [startD, L2.start, hl], fun i d e => ?_⟩
  unfold startD at e
  by_cases hi : i < ds.length
  · rw [List.getElem?_append_left (by simpa using hi), List.getElem?_map] at e
    obtain ⟨d', ed, e'⟩ := Option.map_eq_some_iff.mp e
    cases e'
    obtain ⟨v, ev, qv⟩ := q.get ed
    refine ⟨v, ?_, qv⟩
    unfold L2.start
    rw [List.getElem?_append_left (by rw [List.length_map, ← hl]; exact hi), List.getElem?_map, ev]
    rfl
  · rw [List.getElem?_append_right (by simpa using hi)] at e
    have := List.mem_of_getElem? e
    rw [List.mem_replicate] at this
    cases this.2
/-- a def whose body is sound -/
theorem fng_body {G : Gd} {P : Program} {w : World} {mg : Str → Option Value} {base : Heap} {k : Nat} {f : Addr} {name qual : Str} {params : Arguments} {body : List Stmt} {scope : Scope} {dV kV doc pm cdv ct oc : Value} {an od : Option Addr}
    {osl : Array (Option Value)} {N ps : List Str} {fb : ShS} (lk : G.K.lookup f = some ⟨oc, od, .func (PySem.W.fnOf name qual params body scope dV kV doc pm an cdv ct), osl⟩) (hcd : PySem.W.codeIn G.K cdv qual = true) (S : FnScope N ps scope)
    (hb : ∀ (X : Cx) (W : WX) (pn : List (Addr × Obj)), X.prog = P → X.w = w → X.K = G.K → X.mg = mg → X.base = base → X.N = N → X.env.scope = scope → X.calm = true → X.A.guards = some [] → Room k X.A → Takes X W → PassesOwn (model X.prog X.w) X.A X.env X.xe → X.env.blockKind = .function → X.fn = (fun _ => true) → PSs X body (tS G pn W fb)) :
    FnG P w G.K mg base (k + 1) f (PySem.W.fnOf name qual params body scope dV kV doc pm an cdv ct) ps (spD G fun ds h => (fb (startD N.length ds) h).res) := by
  refine fng_of lk hcd S fun A outer s H vs Q E hgd hr hl ⟨pn, α, h, ds, hR, q, p⟩ => ?_
  refine ⟨_, hb (cxOf (L2.CX P w) P w G.K mg base N qual scope f cdv A outer s H E) (fun cls d _ H => E cls d H) pn rfl rfl rfl rfl rfl rfl rfl rfl (deeper_guards hgd) hr (takes_of rfl rfl rfl (E := E) rfl) (passes_of rfl) (blk S) rfl, α, startD N.length ds, h, SR.start q rfl, hR, ?_⟩
  have p : Post G pn (fb (startD N.length ds) h).res α H (QV G pn Q) E := p
  cases e : fb (startD N.length ds) h with
  | nx env' h' =>
    rw [e] at p
    exact fun α' H' σ' m r sr => p α' H' m r _ .non
  | rt d h' =>
    rw [e] at p
    exact fun α' H' v m r q => p α' H' m r v q
  | exc x env' h' =>
    rw [e] at p
    exact fun α' H' σ' cls od m r sr xr => p α' H' cls od m r xr
  | bk env' h' => rw [e] at p; exact p.elim
  | ct env' h' => rw [e] at p; exact p.elim
  | bad => rw [e] at p; exact p.elim
where
  deeper_guards {A : Around} {env : PySem.Env} (h : A.guards = some []) : (A.deeper env).guards = some [] := h
  blk {qual : Str} {scope : Scope} {N ps : List Str} {L f : Addr} {cd : Value} (S : FnScope N ps scope) : (envOfC qual scope L f cd).blockKind = .function := by
    have hk := S.kind
    show (if scope.kind.isAnnotationScope then ScopeKind.function else scope.kind) = _
    rw [hk]; rfl
section
variable {G : Gd} {pn : List (Addr × Obj)} {X : Cx} {W : WX} {pins : List (Addr × Obj)} {s : Shared} {σ : L2.St} {H : Hp} {α : List Addr} {env : Env} {h : Hh}
/-- how a call's values come to the parameters -/
structure CallAt (G : Gd) (K : PySem.W.Frag) (fd : FuncData) (ps : List Str) (n : Nat) (ks : List Str) (pars : List Par) : Prop where
  to : ∀ (s : Shared) (us ws : List Value), K.In s.heap → us.length = n → ws.length = ks.length → ∃ bs, BindsTo s fd ⟨us, ks.zip ws⟩ (ps.zip bs) ∧ bs.length = ps.length ∧
    ∀ pn α H ds vs es zs, VRs G pn α H ds vs → Vals vs us → VRs G pn α H es zs → Vals zs ws → ∃ vv, Vals vv bs ∧ VRs G pn α H (pick ds es pars) vv
/-- an own function, for its callers -/
structure FnC (G : Gd) (X : Cx) (c : List D → Hh → Res D) (k : Nat) (a : Addr) (fd : FuncData) (ps : List Str) : Prop where
  kp : PySem.W.keepIn X.K (.ref a) = true
  ok : FnG X.prog X.w X.K X.mg X.base k a fd ps (spD G c)
  bd : Binds X.K fd ps []
  ar : ∀ ds h, ds.length ≠ ps.length → c ds h = .bad
theorem run_g {c : List D → Hh → Res D} {k : Nat} {a : Addr} {fd : FuncData} {ps : List Str} {Q : VK} {args : Args} {bs : List Value} {vv : List V} {ds : List D} (ok : FnG X.prog X.w X.K X.mg X.base k a fd ps (spD G c)) (hgd : X.A.guards = some []) (hr : Room k X.A) (tk : Takes X W) (I : L2.Inv X pins σ H s) (hR : HR G pn α h H)
    (q : VRs G pn α H ds vv) (r : Vals vv bs) (hl : bs.length = ps.length) (b : BindsTo s fd args (ps.zip bs)) (p : Post G pn (c ds h) α H (QV G pn Q) (EW W σ)) : wpAny (model X.prog X.w) X.A (call (.ref a) args.pos args.kw) (EP X pins σ Q) X.xe s := by
  refine wpAny_call (codeAny_mono (ok X.A X.stack s H ⟨args.pos, args.kw⟩ bs vv Q (EW W σ) hgd hr I.env0 b r (by rw [r.length, hl]) ⟨pn, α, h, ds, hR, q, p⟩) fun r s' hq => ?_)
  cases r with
  | error e => exact passAt tk σ pins H s e s' I hq
  | ok fl =>
    cases fl with
    | ret u => exact I.after hq
    | next => exact False.elim hq
    | brk => exact False.elim hq
    | cont => exact False.elim hq
/-- f(e, ..) -/
theorem snd_call {cf : CF} {f k : Nat} {a : Addr} {fd : FuncData} {ps : List Str} {x : Str} {p pos : Pos} {es : List Expr} {fs : List Sh} (F : FnC G X (cf f) k a fd ps) (hgd : X.A.guards = some []) (hr : Room k X.A) (tk : Takes X W) (hg : Gl X x) (hm : X.mg x = some (.ref a)) (hdb : (x == ("__debug__" : Str)) = false)
    (ha : PA X es (tA G pn W fs)) (hl : es.length = fs.length) (he : ∀ e r, es = e :: r → starEach (e :: r) X.env = (false, eval e X.env) :: starEach r X.env) (hpl : ∀ e r, es = e :: r → (backTo pos (starEach r X.env)).any (·.1) = false) :
    PE X (.Call (.Name x p) es [] pos) (tE G pn W (eCall cf f fs)) := by
  refine ⟨fun pins s σ H Q I ⟨α, env, h, sr, hR, p⟩ => ?_⟩
  refine wpAny_Call_Name_kw (ld_glob I hg hm ?_ hdb)
  have run : ∀ {s1 : Shared} {us : List Value} {vs : List V} {α1 : List Addr} {h1 : Hh} {H1 : Hp} {ds : List D}, L2.Inv X pins σ H1 s1 → Vals vs us → HR G pn α1 h1 H1 → VRs G pn α1 H1 ds vs → Post G pn (cf f ds h1) α1 H1 (QV G pn Q) (EW W σ) → wpAny (model X.prog X.w) X.A (call (.ref a) us) (EP X pins σ Q) X.xe s1 := by
    intro s1 us vs α1 h1 H1 ds I1 rv r1 q1 p1
    have hlen : ds.length = ps.length := by
      by_cases hh : ds.length = ps.length
      · exact hh
      · rw [F.ar ds h1 hh] at p1; exact p1.elim
    have hlu : us.length = ps.length := by rw [← rv.length, ← q1.length]; exact hlen
    have b := F.bd s1 us I1.kIn (by rw [List.append_nil]; exact hlu)
    rw [List.append_nil] at b
    exact run_g (args := ⟨us, []⟩) F.ok hgd hr tk I1 r1 q1 rv hlu b p1
  cases es with
  | nil =>
    have : fs = [] := List.length_eq_zero_iff.mp hl.symm
    subst this
    exact PySem.W.callWith_K0 I.kIn F.kp (run (us := []) I .nil hR .nil p)
  | cons e r =>
    refine PySem.W.callWith_K (h₀ := X.base) I.ok.mod.kin F.kp (thn (ha.run pos pins s σ H (fun vs H1 => ∃ α1 h1 ds, HR G pn α1 h1 H1 ∧ VRs G pn α1 H1 ds vs ∧ Post G pn (cf f ds h1) α1 H1 (QV G pn Q) (EW W σ)) I (tA.bind sr hR p fun ds h1 α1 H1 vs r1 q1 sr1 _ _ p1 => ⟨α1, h1, ds, r1, q1, p1⟩))
      fun us s1 ⟨vs, H1, I1, rv, α1, h1, ds, r1, q1, p1⟩ => ⟨I1.kIn, run I1 rv r1 q1 p1⟩) (he e r rfl) (hpl e r rfl)
/-- keywords' values -/
theorem snd_kw : ∀ {kws : List Keyword} {fs : List Sh}, Paired (fun k f => PE X k.2 (tE G pn W f)) (kws.map fun k => (k.1, k.2)) fs → PK X kws (tA G pn W fs)
  | [], _, .nil => ⟨fun pos pins s σ H Q I ⟨α, env, h, sr, hr, p⟩ => pk_nil.run pos pins s σ H Q I (p.ok0 hr [] .nil)⟩
  | ⟨nm, e, kp⟩ :: r, _, .cons he hs => by
    refine ⟨fun pos pins s σ H Q I ⟨α, env, h, sr, hr, p⟩ => (pk_cons he (snd_kw hs)).run pos pins s σ H Q I ?_⟩
    exact tE.bind sr hr p fun d h1 α1 H1 v r1 q1 sr1 _ _ p1 => tA.bind sr1 r1 p1 fun ds h2 α2 H2 vs r2 q2 sr2 m2 f2 p2 => p2.ok0 r2 _ (.cons (q1.mono m2 f2) q2)
theorem eArgs_len {fs : List Sh} {env : Env} {h h1 : Hh} {ds : List D} (e : eArgs fs env h = .ok ds h1) : ds.length = fs.length := snd_tup.eArgs_len e
theorem tA.bindL {f : List Sh} {A : Type} {g : List D → Hh → Res A} {QA : A → List Addr → Hp → Prop} {R : List V → Hp → Prop} (sr : SR G pn α H env σ) (hr : HR G pn α h H) (p : Post G pn ((eArgs f env h).bind g) α H QA (EW W σ))
    (k : ∀ (d : List D) (h1 : Hh) (α1 : List Addr) (H1 : Hp) (v : List V), d.length = f.length → HR G pn α1 h1 H1 → VRs G pn α1 H1 d v → SR G pn α1 H1 env σ → α <+: α1 → Fix H H1 → Post G pn (g d h1) α1 H1 QA (EW W σ) → R v H1) : tA G pn W f σ H R := by
  refine ⟨α, env, h, sr, hr, ?_⟩
  cases hf : eArgs f env h with
  | ok d h1 =>
    rw [hf] at p
    exact fun α1 H1 m r v q => k d h1 α1 H1 v (eArgs_len hf) r q (sr.mono m.pre (hr.fix m)) m.pre (hr.fix m) (Post.move p m)
  | exc x h1 =>
    rw [hf] at p
    exact p
  | bad =>
    rw [hf] at p
    exact p.elim
/-- f(e, .., k = v, ..) -/
theorem snd_callK {cf : CF} {f k : Nat} {a : Addr} {fd : FuncData} {ps : List Str} {x : Str} {p pos : Pos} {es : List Expr} {fs zs : List Sh} {kws : List Keyword} {ks : List Str} {pars : List Par} (F : FnC G X (cf f) k a fd ps) (C : CallAt G X.K fd ps es.length ks pars) (hgd : X.A.guards = some []) (hr : Room k X.A) (tk : Takes X W) (hg : Gl X x) (hm : X.mg x = some (.ref a)) (hdb : (x == ("__debug__" : Str)) = false)
    (ha : PA X es (tA G pn W fs)) (hl : es.length = fs.length) (he : ∀ e r, es = e :: r → starEach (e :: r) X.env = (false, eval e X.env) :: starEach r X.env)
    (hkw : PK X kws (tA G pn W zs)) (hkl : ks.length = zs.length) (hall : (backToKw pos (keywordEach kws X.env)).all (·.1.isSome) = true) (hks : (backToKw pos (keywordEach kws X.env)).filterMap (·.1) = ks)
    (hpl : ((backTo pos (starEach es X.env)).any (·.1) || (backToKw pos (keywordEach kws X.env)).any (·.1.isNone)) = false) :
    PE X (.Call (.Name x p) es kws pos) (tE G pn W (eCallK cf f pars fs zs)) := by
  refine ⟨fun pins s σ H Q I ⟨α, env, h, sr, hR, p⟩ => ?_⟩
  refine wpAny_Call_Name_kw (ld_glob I hg hm ?_ hdb)
  have p : Post G pn ((eArgs fs env h).bind fun xs h1 => (eArgs zs env h1).bind fun ws h2 => cf f (pick xs ws pars) h2) α H (QV G pn Q) (EW W σ) := p
  -- behind the positional values
  have rest : ∀ {s1 : Shared} {us : List Value} {vs : List V} {α1 : List Addr} {h1 : Hh} {H1 : Hp} {ds : List D}, us.length = es.length → L2.Inv X pins σ H1 s1 → Vals vs us → HR G pn α1 h1 H1 → VRs G pn α1 H1 ds vs → SR G pn α1 H1 env σ → Post G pn ((eArgs zs env h1).bind fun ws h2 => cf f (pick ds ws pars) h2) α1 H1 (QV G pn Q) (EW W σ) →
      wpAny (model X.prog X.w) X.A (evalAll ((backToKw pos (keywordEach kws X.env)).map (·.2))) (fun wsv s₂ => X.K.In s₂.heap ∧ wpAny (model X.prog X.w) X.A (call (.ref a) us (((backToKw pos (keywordEach kws X.env)).filterMap (·.1)).zip wsv)) (EP X pins σ Q) X.xe s₂) X.xe s1 := by
    intro s1 us vs α1 h1 H1 ds hul I1 rv r1 q1 sr1 p1
    refine thn (hkw.run pos pins s1 σ H1 (fun zv H2 => ∃ α2 h2 ws, HR G pn α2 h2 H2 ∧ VRs G pn α2 H2 ds vs ∧ VRs G pn α2 H2 ws zv ∧ ws.length = zs.length ∧ Post G pn (cf f (pick ds ws pars) h2) α2 H2 (QV G pn Q) (EW W σ)) I1
      (tA.bindL sr1 r1 p1 fun ws h2 α2 H2 zv hlw r2 q2 sr2 m2 f2 p2 => ⟨α2, h2, ws, r2, q1.mono m2 f2, q2, hlw, p2⟩)) fun wv s2 ⟨zv, H2, I2, rz, α2, h2, ws, r2, qd, qz, hlw, p2⟩ => ⟨I2.kIn, ?_⟩
    rw [hks]
    obtain ⟨bs, b, hbl, hrel⟩ := C.to s2 us wv I2.kIn hul (by rw [← rz.length, ← qz.length, hlw]; exact hkl.symm)
    obtain ⟨vv, rvv, qvv⟩ := hrel pn α2 H2 ds vs ws zv qd rv qz rz
    exact run_g (args := ⟨us, ks.zip wv⟩) F.ok hgd hr tk I2 r2 qvv rvv hbl b p2
  cases es with
  | nil =>
    have : fs = [] := List.length_eq_zero_iff.mp hl.symm
    subst this
    exact PySem.W.callWith_KW0 (h₀ := X.base) I.ok.mod.kin F.kp hall (rest (us := []) rfl I .nil hR .nil sr p) hpl
  | cons e r =>
    refine PySem.W.callWith_KW (h₀ := X.base) I.ok.mod.kin F.kp hall (thn (ha.run pos pins s σ H (fun vs H1 => ∃ α1 h1 ds, HR G pn α1 h1 H1 ∧ VRs G pn α1 H1 ds vs ∧ SR G pn α1 H1 env σ ∧ ds.length = fs.length ∧ Post G pn ((eArgs zs env h1).bind fun ws h2 => cf f (pick ds ws pars) h2) α1 H1 (QV G pn Q) (EW W σ)) I
      (tA.bindL sr hR p fun ds h1 α1 H1 vs hld r1 q1 sr1 _ _ p1 => ⟨α1, h1, ds, r1, q1, sr1, hld, p1⟩)) fun us s1 ⟨vs, H1, I1, rv, α1, h1, ds, r1, q1, sr1, hld, p1⟩ => rest (us := us) (show us.length = (e :: r).length from by rw [← rv.length, ← q1.length, hld, hl]) I1 rv r1 q1 sr1 p1) hpl (he e r rfl)
end
end Ev

set_option maxRecDepth 100000
set_option maxHeartbeats 1000000
/-! soundness: own classes: new instances, methods -/
namespace Ev
open PySem PySem.Spec PyProof.Rows L2
section
variable {G : Gd} {pn : List (Addr × Obj)} {X : Cx} {W : WX} {pins : List (Addr × Obj)} {s : Shared} {σ : L2.St} {H : Hp} {α : List Addr} {env : Env} {h : Hh}
theorem frs_none (inj : ∀ i j, G.FN i = G.FN j → i = j) {f : Nat} : ∀ {fs : List (Nat × D)} {vs : List (Str × V)}, FRs G pn α H fs vs → fget fs f = none → vs.lookup (G.FN f) = none
  | _, _, .nil, e => rfl
  | _, _, .cons (i := i) (d := d') (v := v) q r, e => by
    unfold fget at e
    rw [List.lookup_cons] at e
    by_cases hh : f = i
    · subst hh
      rw [beq_self_eq_true] at e; cases e
    · have e1 : (f == i) = false := by simpa using hh
      rw [e1] at e
      have e2 : (G.FN f == G.FN i) = false := by
        simp only [beq_eq_false_iff_ne, ne_eq]
        exact fun z => hh (inj _ _ z)
      rw [List.lookup_cons, e2]
      exact frs_none inj r e
/-- behind the arguments of a new instance -/
theorem run_mk {c : Nat} {cfn : List D → Hh → Res D} {k n : Nat} {a : Addr} {fd : FuncData} {ps ks : List Str} {pars : List Par} {Q : VK} {us ws : List Value} {vs zv : List V} {ds zs : List D} (cp : G.CP c) (M : Mk X.K (G.CT c) a)
    (F : FnG X.prog X.w X.K X.mg X.base k a fd ps (spD G cfn)) (C : CallAt G X.K fd ps (n + 1) ks pars) (hgd : X.A.guards = some []) (hr : Room (k + 1) X.A) (tk : Takes X W) (I : L2.Inv X pins σ H s) (hR : HR G pn α h H)
    (r : Vals vs us) (rz : Vals zv ws) (qd : VRs G pn α H ds vs) (qz : VRs G pn α H zs zv) (l1 : us.length = n) (l2 : ws.length = ks.length)
    (p : Post G pn ((cfn (pick (.ref h.length :: ds) zs pars) (h ++ [.ins c []])).bind fun r h3 => match r with
      | .non => .ok (.ref h.length) h3
      | _ => .bad) α H (QV G pn Q) (EW W σ)) : wpAny (model X.prog X.w) X.A (call (.ref (G.CT c)) us (ks.zip ws)) (EP X pins σ Q) X.xe s := by
  obtain ⟨x, hx⟩ : ∃ x, s.heap.objs.size + 1 = x := ⟨_, rfl⟩
  obtain ⟨dx, hdx⟩ : ∃ x, s.heap.objs.size = x := ⟨_, rfl⟩
  have fx : H x = none := by rw [← hx]; exact I.hok.fresh (Nat.le_succ _)
  have fd' : H dx = none := by rw [← hdx]; exact I.hok.fresh (Nat.le_refl _)
  have ne : dx ≠ x := by rw [← hx, ← hdx]; exact Nat.ne_of_lt (Nat.lt_succ_self _)
  have I2 := Inv.made (C := G.CT c) I
  rw [hx, hdx] at I2
  obtain ⟨m1, r1⟩ := hR.more (u := .own x) fd'
  have fx1 : upd H dx (.own x) x = none := by rw [upd_ne ne.symm]; exact fx
  have eo : upd (upd H dx (.own x)) x (.ins (G.CT c) dx []) dx = some (.own x) := by rw [upd_ne ne, upd_same]
  obtain ⟨m2, r2⟩ := r1.new_ (u := .ins (G.CT c) dx []) (o := .ins c []) fx1 (.ins cp (upd_same ..) eo .nil)
  have m3 := m1.trans m2
  have ea : (α ++ [x])[h.length]? = some x := by
    rw [← hR.len, List.getElem?_append_right (Nat.le_refl _), Nat.sub_self]; rfl
  have ff := hR.fix m3
  obtain ⟨bs, b, hbl, hrel⟩ := C.to _ (Value.ref x :: us) ws I2.kIn (by rw [List.length_cons, l1]) l2
  obtain ⟨vv, rvv, qvv⟩ := hrel pn _ _ (.ref h.length :: ds) (.ref x :: vs) zs zv (.cons (.ref ea) (qd.mono m3.pre ff)) (.cons rfl r) (qz.mono m3.pre ff) rz
  have hq : spD G cfn vv (upd (upd H dx (.own x)) x (.ins (G.CT c) dx [])) (fun v H2 => v = .non ∧ Q (.ref x) H2) (EW W σ) := by
    refine ⟨pn, α ++ [x], h ++ [.ins c []], _, r2, qvv, ?_⟩
    cases e : cfn (pick (.ref h.length :: ds) zs pars) (h ++ [.ins c []]) with
    | ok d h3 =>
      rw [e] at p
      cases d with
      | non =>
        intro α' H' m r3 v qv
        have hv : v = .non := by cases qv; rfl
        exact ⟨hv, p α' H' (m3.trans m) r3 (.ref x) (.ref (pre_get m.pre ea))⟩
      | _ => exact p.elim
    | exc xx h3 =>
      rw [e] at p
      exact fun α' H' cls od m r3 xr => p α' H' cls od (m3.trans m) r3 xr
    | bad => rw [e] at p; exact p.elim
  refine wpAny_call (make_map (f := a) I.kIn M.makes M.init (beq_iff_eq.mp M.fn) ?_)
  rw [hx, hdx]
  refine codeAny_mono (F _ X.stack _ _ ⟨Value.ref x :: us, ks.zip ws⟩ bs vv _ _ hgd (hr.make (G.CT c) us (ks.zip ws)) (I2.env0.make (G.CT c) us (ks.zip ws)) b rvv (by rw [rvv.length, hbl]) hq) fun r s' hq' => ?_
  cases r with
  | error e => exact passAt tk σ pins _ _ e s' I2 hq'
  | ok fl =>
    cases fl with
    | ret u =>
      obtain ⟨v, H', I3, rv, ev, q3⟩ := I2.after hq'
      subst ev
      exact ⟨rv, ⟨V.ref x, H', I3, rfl, q3⟩⟩
    | next => exact False.elim hq'
    | brk => exact False.elim hq'
    | cont => exact False.elim hq'
/-- C(e, .., k = v, ..) -/
theorem snd_make {cf : CF} {c f k : Nat} {a : Addr} {fd : FuncData} {ps : List Str} {x : Str} {p pos : Pos} {es : List Expr} {fs zs : List Sh} {kws : List Keyword} {ks : List Str} {pars : List Par} (cp : G.CP c) (M : Mk X.K (G.CT c) a)
    (F : FnG X.prog X.w X.K X.mg X.base k a fd ps (spD G (cf f))) (C : CallAt G X.K fd ps (es.length + 1) ks pars) (hgd : X.A.guards = some []) (hr : Room (k + 1) X.A) (tk : Takes X W) (hg : Gl X x) (hm : X.mg x = some (.ref (G.CT c))) (hdb : (x == ("__debug__" : Str)) = false)
    (ha : PA X es (tA G pn W fs)) (hl : es.length = fs.length) (he : ∀ e r, es = e :: r → starEach (e :: r) X.env = (false, eval e X.env) :: starEach r X.env)
    (hkw : PK X kws (tA G pn W zs)) (hkl : ks.length = zs.length) (hall : (backToKw pos (keywordEach kws X.env)).all (·.1.isSome) = true) (hks : (backToKw pos (keywordEach kws X.env)).filterMap (·.1) = ks)
    (hpl : ((backTo pos (starEach es X.env)).any (·.1) || (backToKw pos (keywordEach kws X.env)).any (·.1.isNone)) = false) :
    PE X (.Call (.Name x p) es kws pos) (tE G pn W (eMk cf c f pars fs zs)) := by
  refine ⟨fun pins s σ H Q I ⟨α, env, h, sr, hR, p⟩ => ?_⟩
  refine wpAny_Call_Name_kw (ld_glob I hg hm ?_ hdb)
  have rest : ∀ {s1 : Shared} {us : List Value} {vs : List V} {α1 : List Addr} {h1 : Hh} {H1 : Hp} {ds : List D}, us.length = es.length → L2.Inv X pins σ H1 s1 → Vals vs us → HR G pn α1 h1 H1 → VRs G pn α1 H1 ds vs → SR G pn α1 H1 env σ →
      Post G pn ((eArgs zs env h1).bind fun ws h2 => (cf f (pick (.ref h2.length :: ds) ws pars) (h2 ++ [.ins c []])).bind fun r h3 => match r with
        | .non => .ok (.ref h2.length) h3
        | _ => .bad) α1 H1 (QV G pn Q) (EW W σ) →
      wpAny (model X.prog X.w) X.A (evalAll ((backToKw pos (keywordEach kws X.env)).map (·.2))) (fun wsv s₂ => X.K.In s₂.heap ∧ wpAny (model X.prog X.w) X.A (call (.ref (G.CT c)) us (((backToKw pos (keywordEach kws X.env)).filterMap (·.1)).zip wsv)) (EP X pins σ Q) X.xe s₂) X.xe s1 := by
    intro s1 us vs α1 h1 H1 ds hul I1 rv r1 q1 sr1 p1
    refine thn (hkw.run pos pins s1 σ H1 (fun zv H2 => ∃ α2 h2 ws, HR G pn α2 h2 H2 ∧ VRs G pn α2 H2 ds vs ∧ VRs G pn α2 H2 ws zv ∧ ws.length = zs.length ∧ Post G pn ((cf f (pick (.ref h2.length :: ds) ws pars) (h2 ++ [.ins c []])).bind fun r h3 => match r with
        | .non => .ok (.ref h2.length) h3
        | _ => .bad) α2 H2 (QV G pn Q) (EW W σ)) I1
      (tA.bindL sr1 r1 p1 fun ws h2 α2 H2 zv hlw r2 q2 sr2 m2 f2 p2 => ⟨α2, h2, ws, r2, q1.mono m2 f2, q2, hlw, p2⟩)) fun wv s2 ⟨zv, H2, I2, rz, α2, h2, ws, r2, qd, qz, hlw, p2⟩ => ⟨I2.kIn, ?_⟩
    rw [hks]
    exact run_mk cp M F C hgd hr tk I2 r2 rv rz qd qz hul (by rw [← rz.length, ← qz.length, hlw]; exact hkl.symm) p2
  cases es with
  | nil =>
    have : fs = [] := List.length_eq_zero_iff.mp hl.symm
    subst this
    exact PySem.W.callWith_KW0 (h₀ := X.base) I.ok.mod.kin M.kp hall (rest (us := []) rfl I .nil hR .nil sr p) hpl
  | cons e r =>
    refine PySem.W.callWith_KW (h₀ := X.base) I.ok.mod.kin M.kp hall (thn (ha.run pos pins s σ H (fun vs H1 => ∃ α1 h1 ds, HR G pn α1 h1 H1 ∧ VRs G pn α1 H1 ds vs ∧ SR G pn α1 H1 env σ ∧ ds.length = fs.length ∧ Post G pn ((eArgs zs env h1).bind fun ws h2 => (cf f (pick (.ref h2.length :: ds) ws pars) (h2 ++ [.ins c []])).bind fun r h3 => match r with
        | .non => .ok (.ref h2.length) h3
        | _ => .bad) α1 H1 (QV G pn Q) (EW W σ)) I
      (tA.bindL sr hR p fun ds h1 α1 H1 vs hld r1 q1 sr1 _ _ p1 => ⟨α1, h1, ds, r1, q1, sr1, hld, p1⟩)) fun us s1 ⟨vs, H1, I1, rv, α1, h1, ds, r1, q1, sr1, hld, p1⟩ => rest (us := us) (show us.length = (e :: r).length from by rw [← rv.length, ← q1.length, hld, hl]) I1 rv r1 q1 sr1 p1) hpl (he e r rfl)
theorem method_open {M : Model} {A : Around} {E : Value → Shared → Prop} {env : PySem.Env} {o : Expr} {m : Str} {apos pos : Pos} {args : List Expr} {Q : Value → Shared → Prop} {s : Shared} (hbase : attributeBase o m env (eval o env) = eval o env)
    (hfew : ((backTo pos (starEach args env)).all (fun x => !x.1) && (backToKw pos (keywordEach [] env)).all (fun x => x.1.isSome) && decide (args.length + ([] : List Keyword).length + (if ([] : List Keyword).isEmpty then 0 else 1) < 30)) = true)
    (hline : (apos.endLine == pos.line) = true)
    (h : wpAny M A (eval o env) (fun ov s1 => ∀ pl, wpAny M A (getMethod ov m pl) (fun fx s2 => wpAny M A (callWith pos fx.1 fx.2 (backTo pos (starEach args env)) []) Q E s2) E s1) E s) : wpAny M A (eval (.Call (.Attribute o m apos) args [] pos) env) Q E s := by
  have hke : backToKw pos (keywordEach [] env) = [] := rfl
  have hform : methodCallForm (args.length + ([] : List Keyword).length) (backTo pos (starEach args env)) [] = true := by
    rw [hke] at hfew
    exact hfew
  have hpos : methodCallPos true o env apos pos = pure pos := by
    unfold methodCallPos
    rw [hline]
    rfl
  rw [arm_eval_Call, hbase, hke]
  refine wpAny_bind (wpAny_mono h (fun ov s₁ h₁ => ?_) fun _ _ x => x)
  refine wpAny_bind (wpAny_standAt ?_)
  unfold methodCall
  rw [hform, hpos]
  exact wpAny_bind (wpAny_holding (wpAny_mono (h₁ _) (fun f s₂ h₂ => wpAny_bind (wpAny_pure h₂)) fun _ _ x => x))
/-- an own class's method, for its callers -/
structure MtC (G : Gd) (X : Cx) (cf : CF) (c m f : Nat) (k : Nat) (a : Addr) (fd : FuncData) (ps : List Str) : Prop where
  cls : Cls X.K (G.CT c)
  mth : Meth X.K (G.CT c) (G.FN m) a
  fn : FnC G X (cf f) k a fd ps
  room : Room k X.A
/-- o.m(e, ..) -/
theorem snd_meth {cf : CF} {mt : Nat → Nat → Option Nat} {m : Nat} {o : Expr} {es : List Expr} {fo : Sh} {fs : List Sh} {apos pos : Pos} (inj : ∀ i j, G.FN i = G.FN j → i = j)
    (MT : ∀ c f, G.CP c → mt c m = some f → ∃ k a fd ps, MtC G X cf c m f k a fd ps) (hgd : X.A.guards = some []) (tk : Takes X W) (ho : PE X o (tE G pn W fo)) (ha : PA X es (tA G pn W fs)) (hl : es.length = fs.length)
    (hbase : attributeBase o (G.FN m) X.env (eval o X.env) = eval o X.env)
    (hfew : ((backTo pos (starEach es X.env)).all (fun x => !x.1) && (backToKw pos (keywordEach [] X.env)).all (fun x => x.1.isSome) && decide (es.length + ([] : List Keyword).length + (if ([] : List Keyword).isEmpty then 0 else 1) < 30)) = true)
    (hline : (apos.endLine == pos.line) = true) (he : ∀ e r, es = e :: r → starEach (e :: r) X.env = (false, eval e X.env) :: starEach r X.env) (hpl : ∀ e r, es = e :: r → (backTo pos (starEach r X.env)).any (·.1) = false) :
    PE X (.Call (.Attribute o (G.FN m) apos) es [] pos) (tE G pn W (eMth cf mt m fo fs)) := by
  refine ⟨fun pins s σ H Q I ⟨α, env, h, sr, hR, p⟩ => ?_⟩
  have p : Post G pn ((fo env h).bind fun x h1 => match (mcls h1 m x).bind fun c => mt c m with
    | some f => (eArgs fs env h1).bind fun xs h2 => cf f (x :: xs) h2
    | none => .bad) α H (QV G pn Q) (EW W σ) := p
  refine method_open hbase hfew hline (thn (ho.run pins s σ H (fun v H1 => ∃ α1 h1 d, HR G pn α1 h1 H1 ∧ VR G pn α1 H1 d v ∧ SR G pn α1 H1 env σ ∧ Post G pn (match (mcls h1 m d).bind fun c => mt c m with
    | some f => (eArgs fs env h1).bind fun xs h2 => cf f (d :: xs) h2
    | none => .bad) α1 H1 (QV G pn Q) (EW W σ)) I (tE.bind sr hR p fun d h1 α1 H1 v r1 q1 sr1 _ _ p1 => ⟨α1, h1, d, r1, q1, sr1, p1⟩)) fun u s1 ⟨v, H1, I1, rx, α1, h1, d, r1, q1, sr1, p1⟩ => ?_)
  intro pl
  cases ec : (mcls h1 m d).bind fun c => mt c m with
  | none => rw [ec] at p1; exact p1.elim
  | some f =>
    rw [ec] at p1
    obtain ⟨c, ec1, ec2⟩ := Option.bind_eq_some_iff.mp ec
    unfold mcls at ec1
    split at ec1
    · rename_i b
      split at ec1
      · rename_i c' fs' eo
        split at ec1
        · rename_i hf
          cases ec1
          obtain ⟨a, rfl, ea⟩ := q1.ref_eq
          obtain rfl : u = Value.ref a := rx
          cases r1.get ea eo with
          | ins cp hi hd rf =>
            obtain ⟨k, g, fd, ps, T⟩ := MT _ f cp ec2
            have ln := frs_none inj rf (Option.isNone_iff_eq_none.mp hf)
            refine getmeth_ok I1 hi T.cls T.mth ln ?_
            have run : ∀ {s2 : Shared} {us : List Value} {vs : List V} {α2 : List Addr} {h2 : Hh} {H2 : Hp} {ds : List D}, L2.Inv X pins σ H2 s2 → Vals vs us → HR G pn α2 h2 H2 → VRs G pn α2 H2 ds vs → VR G pn α2 H2 (.ref b) (.ref a) →
                Post G pn (cf f (.ref b :: ds) h2) α2 H2 (QV G pn Q) (EW W σ) → wpAny (model X.prog X.w) X.A (call (.ref g) (Value.ref a :: us)) (EP X pins σ Q) X.xe s2 := by
              intro s2 us vs α2 h2 H2 ds I2 rv r2 q2 qb p2
              have hlen : (D.ref b :: ds).length = ps.length := by
                by_cases hh : (D.ref b :: ds).length = ps.length
                · exact hh
                · rw [T.fn.ar _ h2 hh] at p2; exact p2.elim
              have rv2 : Vals (V.ref a :: vs) (Value.ref a :: us) := .cons rfl rv
              have qv2 : VRs G pn α2 H2 (.ref b :: ds) (V.ref a :: vs) := .cons qb q2
              have hlu : (Value.ref a :: us).length = ps.length := by rw [← rv2.length, ← qv2.length]; exact hlen
              have bd := T.fn.bd s2 (Value.ref a :: us) I2.kIn (by rw [List.append_nil]; exact hlu)
              rw [List.append_nil] at bd
              exact run_g (args := ⟨Value.ref a :: us, []⟩) T.fn.ok hgd T.room tk I2 r2 qv2 rv2 hlu bd p2
            cases es with
            | nil =>
              have : fs = [] := List.length_eq_zero_iff.mp hl.symm
              subst this
              exact PySem.W.callWith_K0 I1.kIn T.fn.kp (run (us := []) I1 .nil r1 .nil q1 p1)
            | cons e r =>
              exact PySem.W.callWith_K (first := [.ref a]) (h₀ := X.base) I1.ok.mod.kin T.fn.kp (thn (ha.run pos pins s1 σ H1 (fun vs H2 => ∃ α2 h2 ds, HR G pn α2 h2 H2 ∧ VRs G pn α2 H2 ds vs ∧ VR G pn α2 H2 (.ref b) (.ref a) ∧ Post G pn (cf f (.ref b :: ds) h2) α2 H2 (QV G pn Q) (EW W σ)) I1
                (tA.bind sr1 r1 p1 fun ds h2 α2 H2 vs r2 q2 sr2 m2 f2 p2 => ⟨α2, h2, ds, r2, q2, q1.mono m2 f2, p2⟩)) fun us s2 ⟨vs, H2, I2, rv, α2, h2, ds, r2, q2, qb, p2⟩ => ⟨I2.kIn, run I2 rv r2 q2 qb p2⟩) (he e r rfl) (hpl e r rfl)
        · cases ec1
      · cases ec1
    · cases ec1
end
end Ev

set_option maxRecDepth 100000
set_option maxHeartbeats 1000000
/-! soundness: lists turned about, dict comprehensions, dict(enumerate(..)) -/
namespace Ev
open PySem PySem.Spec PyProof.Rows L2
section
variable {G : Gd} {pn : List (Addr × Obj)} {X : Cx} {W : WX} {pins : List (Addr × Obj)} {s : Shared} {σ : L2.St} {H : Hp} {α : List Addr} {env : Env} {h : Hh}
theorem listOf_some {x : D} {xs : List D} (e : listOf h x = some xs) : ∃ b fz, x = .ref b ∧ h[b]? = some (.lst fz xs) := by
  cases x with
  | ref b =>
    unfold listOf at e
    dsimp only at e
    split at e
    · rename_i eo
      cases e
      exact ⟨b, _, rfl, eo⟩
    · cases e
  | _ => cases e
/-- xs[::st] -/
theorem snd_rev (gk : G.K = X.K) {e st : Expr} {fe fs : Sh} {sp pos : Pos} (he : PE X e (tE G pn W fe)) (hs : PE X st (tE G pn W fs)) :
    PE X (.Subscript e (.Slice none none (some st) sp) pos) (tE G pn W (eRev fe fs)) := by
  refine ⟨fun pins s σ H Q I ⟨α, env, h, sr, hR, p⟩ => ?_⟩
  have p : Post G pn ((fe env h).bind fun x h1 => (eEnd (some fs) env h1).bind fun o h2 => revD x o h2) α H (QV G pn Q) (EW W σ) := p
  have hh : PO X (some st) (tO G pn W (some fs)) := snd_osome hs
  refine Subscript_ (thn (he.run pins s σ H (fun v H1 => ∃ α1 h1 d, HR G pn α1 h1 H1 ∧ VR G pn α1 H1 d v ∧ SR G pn α1 H1 env σ ∧ Post G pn ((eEnd (some fs) env h1).bind fun o h2 => revD d o h2) α1 H1 (QV G pn Q) (EW W σ)) I
    (tE.bind sr hR p fun d h1 α1 H1 v r1 q1 sr1 _ _ p1 => ⟨α1, h1, d, r1, q1, sr1, p1⟩)) fun v s1 ⟨x, H1, I1, rx, α1, h1, d, r1, q1, sr1, p1⟩ => ?_)
  refine wpAny_Slice ?_
  rw [evalPart_none]
  refine wpAny_pure ?_
  refine wpAny_pure ?_
  refine thn (hh.run pins s1 σ H1 (fun o H2 => ∃ α2 h2, HR G pn α2 h2 H2 ∧ VR G pn α2 H2 d x ∧ Post G pn (revD d o h2) α2 H2 (QV G pn Q) (EW W σ)) I1
    (tO.bind sr1 r1 p1 fun o h2 α2 H2 r2 sr2 m2 f2 p2 => ⟨α2, h2, r2, q1.mono m2 f2, p2⟩)) fun vk s2 ⟨o, H2, I2, pk, α2, h2, r2, q2, p2⟩ => ?_
  unfold revD at p2
  by_cases ho : o = some (-1)
  · rw [if_pos ho] at p2
    subst ho
    cases el : listOf h2 d with
    | none => rw [el] at p2; exact p2.elim
    | some xs =>
      rw [el] at p2
      obtain ⟨b, fz, rfl, eo⟩ := listOf_some el
      obtain ⟨a, rfl, ea⟩ := q2.ref_eq
      obtain rfl : v = Value.ref a := rx
      obtain ⟨vs, rd, qv⟩ := r2.lstR ea eo
      obtain ⟨its, rv, pl, hz⟩ := I2.list (.inl rd)
      have I4 : L2.Inv X pins σ H2 { s2 with heap := s2.heap.push { cls := .type "slice", data := .fields #[.none, .none, vk] } } := I2.kept (t' := s2.toks) fun b ob q => Heap.get?_push_of_some _ q
      have hl4 : (s2.heap.push { cls := .type "slice", data := .fields #[.none, .none, vk] }).IsList a its.toArray := pl.isList.at fun o e => Heap.get?_push_of_some _ e
      show wpAny (model X.prog X.w) X.A (subscriptTail e (.Slice none none (some st) sp) (.ref a) (.ref s2.heap.objs.size)) (EP X pins σ Q) X.xe { s2 with heap := s2.heap.push { cls := .type "slice", data := .fields #[.none, .none, vk] } }
      refine tail_any (ops := [.ref a, .ref s2.heap.objs.size]) (show Shared.TypeIs { s2 with heap := s2.heap.push { cls := .type "slice", data := .fields #[.none, .none, vk] } } (.ref a) "list" from Heap.IsList.typeIs (s := { s2 with heap := s2.heap.push { cls := .type "slice", data := .fields #[.none, .none, vk] } }) hl4) slot_list_getitem.lookup ?_ (by with_unfolding_all rfl)
      refine wpAny_getItem_list_slice hl4 (Heap.IsSliceOf.new ..) .none .none pk (by simp) ?_ (by rw [List.size_toArray, ← rv.length]; exact hz)
      rw [PySem.W.krv_pick]
      refine ⟨.ref _, _, I4.laid (t' := s2.toks) (o := .lst vs.reverse) (fun b ob q => Heap.get?_push_of_some _ q) (Nat.le_refl _) ?_, rfl, Post.newL p2 r2 qv.reverse (I4.hok.fresh (Nat.le_refl _))⟩
      exact ⟨by rw [List.length_reverse]; exact hz, _, 0, rv.reverse, Heap.get?_push_size _ rfl⟩
  · rw [if_neg ho] at p2; exact p2.elim
/-! ### dict(enumerate(xs)) -/
def enA : List D → Nat → List (D × D) := fun xs k => (xs.zipIdx k).map fun p => (.int p.2, p.1)
theorem en_kr : ∀ {xs : List D} {vs : List V} (k : Nat), VRs G pn α H xs vs → KR G pn α H ((xs.zipIdx k).map fun p => (D.int p.2, p.1)) ((vs.zipIdx k).map fun p => ((.inl ((p.2 : Nat) : Int) : Key), p.1))
  | _, _, k, .nil => .nil
  | _, _, k, .cons q r => by
    rw [List.zipIdx_cons, List.zipIdx_cons, List.map_cons, List.map_cons]
    exact .cons ⟨rfl, fun s z => (by cases z), q⟩ (en_kr (k + 1) r)
theorem en_kv : ∀ {vs : List V} {us : List Value} (k : Nat), Vals vs us → KV ((vs.zipIdx k).map fun p => ((.inl ((p.2 : Nat) : Int) : Key), p.1)) ((us.zipIdx k).map fun p => ((.inl ((p.2 : Nat) : Int) : Key), p.1))
  | _, _, k, .nil => .nil
  | _, _, k, .cons q r => by
    rw [List.zipIdx_cons, List.zipIdx_cons, List.map_cons, List.map_cons]
    exact .cons ⟨rfl, q⟩ (en_kv (k + 1) r)
theorem snd_dicEn (hc : X.calm = true) {e : Expr} {fe : Sh} {p p2 p3 pos : Pos} (hg : Gl X "dict") (hm : X.mg "dict" = none) (hg2 : Gl X "enumerate") (hm2 : X.mg "enumerate" = none) (he : PE X e (tE G pn W fe)) (hs : starEach [e] X.env = [(false, eval e X.env)]) :
    PE X (.Call (.Name "dict" p) [.Call (.Name "enumerate" p2) [e] [] p3] [] pos) (tE G pn W (eDicEn fe)) := by
  refine ⟨fun pins s σ H Q I ⟨α, env, h, sr, hR, p⟩ => ?_⟩
  have p : Post G pn ((fe env h).bind enD) α H (QV G pn Q) (EW W σ) := p
  refine Call_ (ld_blt I hg hm (u := .type "dict") (by decide +kernel) (PyProof.Rows.callWith_type1 (PyProof.Rows.spliced_more ?_) rfl rfl))
  refine Call_ (ld_blt I hg2 hm2 boot_enumerate (PyProof.Rows.callWith_type1 (PyProof.Rows.spliced_more (thn (he.run pins s σ H (fun v H1 => ∃ α1 h1 d, HR G pn α1 h1 H1 ∧ VR G pn α1 H1 d v ∧ Post G pn (enD d h1) α1 H1 (QV G pn Q) (EW W σ)) I
    (tE.bind sr hR p fun d h1 α1 H1 v r1 q1 sr1 _ _ p1 => ⟨α1, h1, d, r1, q1, p1⟩)) fun u s1 ⟨x, H1, I1, rx, α1, h1, d, r1, q1, p1⟩ => PyProof.Rows.spliced_none ?_) (by rw [hs]; rfl)) hs rfl))
  unfold enD at p1
  cases el : listOf h1 d with
  | none => rw [el] at p1; exact p1.elim
  | some xs =>
    rw [el] at p1
    obtain ⟨b, fz, rfl, eo⟩ := listOf_some el
    obtain ⟨a, rfl, ea⟩ := q1.ref_eq
    obtain rfl : u = Value.ref a := rx
    obtain ⟨vs, rd, qv⟩ := r1.lstR ea eo
    obtain ⟨its, rv, pl, hz⟩ := I1.list (.inl rd)
    refine call_enumerate_list pl.isList fun h' he' hit hsz hk => ?_
    refine PyProof.Rows.spliced_none ?_
    have la : a < s1.heap.objs.size := by
      obtain ⟨_, q, _⟩ := pl.isList
      exact Heap.lt_size q
    have kr := en_kr (k := 0) qv
    have kv := en_kv (k := 0) rv
    generalize hls : ((vs.zipIdx 0).map fun p => ((.inl ((p.2 : Nat) : Int) : Key), p.1)) = ls at kr kv
    generalize hps : ((its.zipIdx 0).map fun p => ((.inl ((p.2 : Nat) : Int) : Key), p.1)) = prs at kv
    have hpl : prs.length = its.length := by rw [← hps]; simp
    refine PySem.call_dict_pairs (knd := mixKind X.prog X.w) (kvs := prs) (PairArg.enumerate (s1.heap.objs.size + 1) s1.heap.objs.size a (Nat.succ_ne_self _) (Nat.ne_of_lt (Nat.lt_succ_of_lt la)) (Nat.ne_of_lt la) its.toArray) (I1.ok.hd hc) ⟨⟨.none, he'⟩, hit, pl.isList.at fun o e => hk a o e⟩
      ⟨by rw [hpl, List.size_toArray], fun i key v ⟨⟨t, ek⟩, ev⟩ => ⟨.inl (i : Nat), ?_, ?_⟩⟩ (by rw [List.size_toArray, ← rv.length]; exact hz) fun h'' tk hd' hk' => ?_
    · rw [← hps, List.getElem?_map, List.getElem?_zipIdx]
      have ev : its[i]? = some v := by simpa using ev
      rw [ev]
      simp
    · subst ek
      exact kV_is (k := .inl (i : Nat)) ⟨t, rfl⟩
    · have hm : (h'.objs.size == sysModules) = false := beq_eq_false_iff_ne.mpr (by rw [hsz]; exact Nat.ne_of_gt (Nat.lt_of_lt_of_le I1.big (Nat.le_add_right _ _)))
      have hlen : (mergeK [] ls).length ≤ sizeLine := by
        refine Nat.le_trans (length_mergeK ls []) ?_
        rw [List.length_nil, Nat.zero_add, kv.length, hpl, ← rv.length]
        exact hz
      have le1 : s1.heap.objs.size ≤ h'.objs.size := by omega
      have fr := I1.hok.fresh le1
      obtain ⟨m, r⟩ := r1.new_ (o := .dic false ((xs.zipIdx.map fun p => (D.int p.2, p.1)).foldl (fun acc p => dput acc p.1 p.2) [])) (u := .dK (mergeK [] ls)) fr (.dic upd_same (.k ((merge_k kr .nil).mono (List.prefix_append _ _) (fix_upd_new fr))))
      have k3 : ∀ b o, s1.heap.get? b = some o → h''.get? b = some o := fun b o e => hk' b o (fun hm => by
        have q := Heap.lt_size e
        simp only [List.mem_cons, List.not_mem_nil, or_false] at hm
        rcases hm with rfl | rfl
        · exact Nat.lt_irrefl _ (Nat.lt_of_succ_lt q)
        · exact Nat.lt_irrefl _ q) (hk b o e)
      exact ⟨.ref h'.objs.size, upd H1 h'.objs.size (.dK (mergeK [] ls)), I1.laid (t' := tk) k3 le1 (show ObjOk X.prog X.w _ _ _ (.dK (mergeK [] ls)) from ⟨hlen, hm, merged [] prs, KV.merge kv .nil, hd'⟩), rfl, p1 _ _ m r _ (.ref (by rw [← r1.len]; simp))⟩
/-! ### dict comprehensions -/
theorem fix_sideD {p : Addr} {xs ys : List (Key × V)} (e : H p = some (.dK xs)) : Fix H (upd H p (.dK ys)) :=
  ⟨fun b xs e2 => by rw [upd_ne (fun z => by rw [z, e] at e2; cases e2)]; exact e2, fun b xs e2 => by rw [upd_ne (fun z => by rw [z, e] at e2; cases e2)]; exact e2⟩
theorem HR.sideD (r : HR G pn α h H) {p : Addr} {xs ys : List (Key × V)} (e : H p = some (.dK xs)) (n : p ∉ α) : HR G pn α h (upd H p (.dK ys)) := by
  refine ⟨r.len, r.nd, fun i a o ea eo => (r.ob i a o ea eo).keep (List.prefix_refl _) (fix_sideD e) fun b w hb eb => ?_⟩
  rw [upd_ne fun z => ?_]
  · exact eb
  · subst z
    rcases hb with rfl | hb
    · exact n (List.mem_of_getElem? ea)
    · rw [e] at hb; cases hb
theorem key_kv {k : D} {v : V} (hk : isKey k = true) (q : VR G pn α H k v) : ∃ y, keyK k = some y ∧ v = kV y ∧ ∀ s, k = .str s → s.length ≤ lim := by
  cases k with
  | int i => exact ⟨.inl i, rfl, q.int_eq, fun s z => by cases z⟩
  | str z => exact ⟨.inr z, rfl, q.str_eq, fun s e => by cases e; exact q.str_len⟩
  | _ => cases hk
theorem dcLoop_nil {t : Tg} {ft fk fe : Sh} {g : Option (Nat × Ob)} {acc : List (D × D)} : dcLoop t ft fk fe g env [] acc h = if stands g h then .ok acc h else .bad := rfl
theorem dcLoop_cons {t : Tg} {ft fk fe : Sh} {g : Option (Nat × Ob)} {acc : List (D × D)} {x : D} {xs : List D} : dcLoop t ft fk fe g env (x :: xs) acc h = if stands g h then (t x env h).bind fun σ1 h1 => (ft σ1 h1).bind fun b h2 => match truth h2 b with
      | some true => (fk σ1 h2).bind fun k h3 => (fe σ1 h3).bind fun y h4 => if isKey k then dcLoop t ft fk fe g env xs (dput acc k y) h4 else .bad
      | some false => dcLoop t ft fk fe g env xs acc h2
      | none => .bad
    else .bad := rfl
theorem snd_dc {kx vx tg iter : Expr} {ifs : List Expr} {scope : Scope} {own : List (Str × Nat)} {pos : Pos} {it : Ev.It} {t : Tg} {ft fk fe : Sh} (hc : X.calm = true) (hN : X.N.Nodup) (hi : PI X tg iter (tI G pn W it)) (ok : BlkOk X.N X.env.scope scope own)
    (hg : ∀ (s : Shared) (H : Hp) (C : Addr) (cl : List (Str × Addr)) (fp : List Addr), PG (X.blk s H scope (compEnvC scope cl C X.env) fp) tg (tG G pn (own.map (·.2)) t)) (ht : ∀ (s : Shared) (H : Hp) (C : Addr) (cl : List (Str × Addr)) (fp : List Addr), PTs (X.blk s H scope (compEnvC scope cl C X.env) fp) ifs (tT G pn WF ft))
    (hk : ∀ (s : Shared) (H : Hp) (C : Addr) (cl : List (Str × Addr)) (fp : List Addr), PE (X.blk s H scope (compEnvC scope cl C X.env) fp) kx (tE G pn WF fk))
    (he : ∀ (s : Shared) (H : Hp) (C : Addr) (cl : List (Str × Addr)) (fp : List Addr), PE (X.blk s H scope (compEnvC scope cl C X.env) fp) vx (tE G pn WF fe)) (hs : ∀ x, foldedSetIterable iter X.env x = pure x) :
    PE X (.DictComp kx vx [⟨tg, iter, ifs, 0⟩] scope pos) (tE G pn W (eDc it (own.map (·.2)) t ft fk fe)) := by
  refine PEs (pe_dc hc hN hi ok hg ht hk he hs) ?_
  intro σ H Q ⟨α, env, h, sr, hr, p⟩
  generalize own.map (·.2) = vs at p ⊢
  refine ⟨α, env, h, sr, hr, ?_⟩
  have p : Post G pn ((it env h).bind fun w h1 => if w.items.length ≤ lim then (noExc (dcLoop t ft fk fe w.guard (wipeD env vs) w.items [] h1)).bind fun ys h2 => newD ys (unlock w.fin h2) else .bad) α H (QV G pn Q) (EW W σ) := p
  cases hit : it env h with
  | exc x h1 => rw [hit] at p; exact p
  | bad => rw [hit] at p; exact p.elim
  | ok w h1 =>
    rw [hit] at p
    intro α1 H1 m1 r1 J ⟨hfin, ir⟩ D hD
    have p := Post.move p m1
    have p : Post G pn (if w.items.length ≤ lim then (noExc (dcLoop t ft fk fe w.guard (wipeD env vs) w.items [] h1)).bind fun ys h2 => newD ys (unlock w.fin h2) else .bad) α1 H1 (QV G pn Q) (EW W σ) := p
    by_cases hlim : w.items.length ≤ lim
    · rw [if_pos hlim, hfin] at p
      have p : Post G pn ((noExc (dcLoop t ft fk fe w.guard (wipeD env vs) w.items [] h1)).bind fun ys h2 => newD ys h2) α1 H1 (QV G pn Q) (EW W σ) := p
      have sr1 := (sr.mono m1.pre (hr.fix m1)).wipe vs
      generalize henv : wipeD env vs = env0 at p sr1
      generalize hitems : w.items = items at p hlim ir
      have inv : ∃ S : Nat → Hp → Prop, S = fun i H' => ∃ α' h' acc ws, HR G pn α' h' H' ∧ D ∉ α' ∧ H' D = some (.dK ws) ∧ KR G pn α' H' acc ws ∧ acc.length ≤ i ∧ Mv α1 H1 α' H' ∧
        Post G pn ((noExc (dcLoop t ft fk fe w.guard env0 (items.drop i) acc h')).bind fun ys h2 => newD ys h2) α1 H1 (QV G pn Q) (EW W σ) := ⟨_, rfl⟩
      obtain ⟨S, hS⟩ := inv
      refine ⟨fun i m H' => m = items.length - i ∧ i ≤ items.length ∧ S i H', ⟨items.length, by simp, Nat.zero_le _, ?_⟩, ?_⟩
      · rw [hS]
        obtain ⟨ma, ra⟩ := r1.more hD (u := .dK [])
        exact ⟨α1, h1, [], [], ra, r1.free hD, upd_same, .nil, Nat.le_refl _, ma, p⟩
      · rintro i m H' ⟨rfl, hi', hSi⟩
        rw [hS] at hSi
        obtain ⟨α', h', acc, ws, r', nD, eD, rv, hal, mv, p'⟩ := hSi
        have sr' := sr1.mono mv.pre (r1.fix mv)
        have fx := r1.fix mv
        by_cases hlt : i < items.length
        · -- a turn
          have ed : items[i]? = some items[i] := List.getElem?_eq_getElem hlt
          have edr : items.drop i = items[i] :: items.drop (i + 1) := List.drop_eq_getElem_cons hlt
          rw [edr, dcLoop_cons] at p'
          cases hst : stands w.guard h' with
          | false => rw [hst] at p'; exact p'.elim
          | true =>
            rw [hst] at p'
            have p' : Post G pn ((noExc ((t items[i] env0 h').bind fun σ1 h1 => (ft σ1 h1).bind fun b h2 => match truth h2 b with
              | some true => (fk σ1 h2).bind fun k h3 => (fe σ1 h3).bind fun y h4 => if isKey k then dcLoop t ft fk fe w.guard env0 (items.drop (i + 1)) (dput acc k y) h4 else .bad
              | some false => dcLoop t ft fk fe w.guard env0 (items.drop (i + 1)) acc h2
              | none => .bad)).bind fun ys h2 => newD ys h2) α1 H1 (QV G pn Q) (EW W σ) := p'
            obtain ⟨go, yl⟩ := (ir α' h' H' mv.pre fx r' hst i).2 _ ed
            refine .inr ⟨go, S (i + 1), fun H'' n => ⟨items.length - (i + 1), by omega, rfl, hlt, n⟩, fun x H2 hy => ?_⟩
            obtain ⟨m2, r2, qx⟩ := yl x H2 hy
            obtain ⟨eD2, _⟩ := m2.side eD nD
            have mv2 := mv.trans m2
            refine ⟨α', env0, h', _, sr'.mono m2.pre (r'.fix m2), r2, qx, ?_⟩
            cases et : t items[i] env0 h' with
            | exc x h3 => rw [et] at p'; exact p'.elim
            | bad => rw [et] at p'; exact p'.elim
            | ok env1 h3 =>
              rw [et] at p'
              intro α3 H3 m3 r3 σ3 sr3 ag
              refine ⟨(wipe_eq ag.1 ag.2).trans (wipe_eq (fun j hj => wipe_get hj) (wipe_length _ _)), ?_⟩
              obtain ⟨eD3, nD3⟩ := m3.side eD2 nD
              have mv3 := mv2.trans m3
              refine ⟨α3, env1, h3, sr3, r3, ?_⟩
              have p' : Post G pn ((noExc ((ft env1 h3).bind fun b h2 => match truth h2 b with
                | some true => (fk env1 h2).bind fun k h3 => (fe env1 h3).bind fun y h4 => if isKey k then dcLoop t ft fk fe w.guard env0 (items.drop (i + 1)) (dput acc k y) h4 else .bad
                | some false => dcLoop t ft fk fe w.guard env0 (items.drop (i + 1)) acc h2
                | none => .bad)).bind fun ys h2 => newD ys h2) α1 H1 (QV G pn Q) (EW W σ) := p'
              cases eb : ft env1 h3 with
              | exc x h4 => rw [eb] at p'; exact p'.elim
              | bad => rw [eb] at p'; exact p'.elim
              | ok b h4 =>
                rw [eb] at p'
                have p' : Post G pn ((noExc (match truth h4 b with
                  | some true => (fk env1 h4).bind fun k h3 => (fe env1 h3).bind fun y h4 => if isKey k then dcLoop t ft fk fe w.guard env0 (items.drop (i + 1)) (dput acc k y) h4 else .bad
                  | some false => dcLoop t ft fk fe w.guard env0 (items.drop (i + 1)) acc h4
                  | none => .bad)).bind fun ys h2 => newD ys h2) α1 H1 (QV G pn Q) (EW W σ) := p'
                show Post G pn (truthR b h4) α3 H3 _ _
                unfold truthR
                cases etr : truth h4 b with
                | none => rw [etr] at p'; exact p'.elim
                | some k =>
                  rw [etr] at p'
                  intro α4 H4 m4 r4
                  obtain ⟨eD4, nD4⟩ := m4.side eD3 nD3
                  have mv4 := mv3.trans m4
                  have rv4 := ((rv.mono m2.pre (r'.fix m2)).mono m3.pre (r2.fix m3)).mono m4.pre (r3.fix m4)
                  cases k with
                  | false =>
                    show S (i + 1) H4
                    rw [hS]
                    exact ⟨α4, h4, acc, ws, r4, nD4, eD4, rv4, by omega, mv4, p'⟩
                  | true =>
                    have sr4 := sr3.mono m4.pre (r3.fix m4)
                    refine ⟨α4, env1, h4, sr4, r4, ?_⟩
                    have p' : Post G pn ((noExc ((fk env1 h4).bind fun k h3 => (fe env1 h3).bind fun y h4 => if isKey k then dcLoop t ft fk fe w.guard env0 (items.drop (i + 1)) (dput acc k y) h4 else .bad)).bind fun ys h2 => newD ys h2) α1 H1 (QV G pn Q) (EW W σ) := p'
                    cases ek : fk env1 h4 with
                    | exc x h5 => rw [ek] at p'; exact p'.elim
                    | bad => rw [ek] at p'; exact p'.elim
                    | ok k h5 =>
                      rw [ek] at p'
                      intro α5 H5 m5 r5 vk qk
                      obtain ⟨eD5, nD5⟩ := m5.side eD4 nD4
                      have mv5 := mv4.trans m5
                      have rv5 := rv4.mono m5.pre (r4.fix m5)
                      refine ⟨α5, env1, h5, sr4.mono m5.pre (r4.fix m5), r5, ?_⟩
                      have p' : Post G pn ((noExc ((fe env1 h5).bind fun y h4 => if isKey k then dcLoop t ft fk fe w.guard env0 (items.drop (i + 1)) (dput acc k y) h4 else .bad)).bind fun ys h2 => newD ys h2) α1 H1 (QV G pn Q) (EW W σ) := p'
                      cases ee : fe env1 h5 with
                      | exc x h6 => rw [ee] at p'; exact p'.elim
                      | bad => rw [ee] at p'; exact p'.elim
                      | ok y h6 =>
                        rw [ee] at p'
                        intro α6 H6 m6 r6 vy qy
                        obtain ⟨eD6, nD6⟩ := m6.side eD5 nD5
                        have mv6 := mv5.trans m6
                        have rv6 := rv5.mono m6.pre (r5.fix m6)
                        have p' : Post G pn ((noExc (if isKey k then dcLoop t ft fk fe w.guard env0 (items.drop (i + 1)) (dput acc k y) h6 else .bad)).bind fun ys h2 => newD ys h2) α1 H1 (QV G pn Q) (EW W σ) := p'
                        cases hik : isKey k with
                        | false => rw [hik] at p'; exact p'.elim
                        | true =>
                          rw [hik] at p'
                          obtain ⟨ky, e1, e2, e3⟩ := key_kv hik (qk.mono m6.pre (r5.fix m6))
                          refine ⟨ws, ky, e2, eD6, by rw [← rv.len, sizeLine_eq]; have : lim = 1000000 := rfl; omega, ?_⟩
                          rw [hS]
                          exact ⟨α6, h6, dput acc k y, putK ws ky vy, r6.sideD eD6 nD6, nD6, upd_same, (dput_k e1 qy e3 rv6).mono (List.prefix_refl _) (fix_sideD eD6), by have := dput_ne (kvs := acc) (k := k) (v := y); omega, mv6.updS hD, p'⟩
        · -- the end
          have hie : i = items.length := by omega
          rw [List.drop_eq_nil_of_le (by omega), dcLoop_nil] at p'
          cases hst : stands w.guard h' with
          | false => rw [hst] at p'; exact p'.elim
          | true =>
            rw [hst] at p'
            have p' : Post G pn (newD acc h') α1 H1 (QV G pn Q) (EW W σ) := p'
            refine .inl ⟨(ir α' h' H' mv.pre fx r' hst i).1 (by omega), ?_⟩
            have ra := r'.adopt (o := .dic false acc) (u := .dK ws) eD nD (fun _ z => by cases z) (fun _ z => by cases z) (fun _ z => by cases z) (.dic upd_same (.k (rv.mono (List.prefix_append _ _) (fix_sideD eD))))
            rw [upd_self eD] at ra
            refine p' (α' ++ [D]) H' ⟨mv.pre.trans (List.prefix_append _ _), mv.keep, fun b hb n => ?_⟩ ra _ (.ref (by rw [← r'.len]; simp))
            rcases List.mem_append.mp hb with z | z
            · exact mv.new b z n
            · rw [List.mem_singleton.mp z]; exact hD
    · rw [if_neg hlim] at p; exact p.elim
/-! ### dict(ps) -/
theorem str_in : ∀ {l : List D} {vs : List V} {z : Str}, VRs G pn α H l vs → D.str z ∈ l → z.length ≤ lim
  | _, _, z, .cons q r, h => by
    rcases List.mem_cons.mp h with e | h
    · rw [← e] at q; exact q.str_len
    · exact str_in r h
theorem pair_is {x k v : D} (e : pairD x = some (k, v)) : x = .tup [k, v] := by
  cases x with
  | tup l =>
    match l, e with
    | [a, b], e => cases e; rfl
    | [], e => cases e
    | [a], e => cases e
    | _ :: _ :: _ :: _, e => cases e
  | _ => cases e
theorem pairs_tk (I : L2.Inv X pins σ H s) : ∀ {xs : List D} {vs : List V} {us : List Value} {kvs : List (D × D)}, VRs G pn α H xs vs → Vals vs us → mapO pairD xs = some kvs → kvs.all (fun p => isTKey p.1) = true →
    ∃ (L : List (List Key × V)) (ps : List (List Key × Addr × Value)) (Ts : Nat → Addr), TR G pn α H kvs L ∧ L2.KT H L ps ∧ ps.length = us.length ∧ kvs.length = us.length ∧
      ∀ (j : Nat) (k : List Key) (c : Addr) (u : Value), ps[j]? = some (k, c, u) → us[j]? = some (.ref (Ts j)) ∧ IsTup s.heap (Ts j) #[.ref c, u]
  | _, _, _, kvs, .nil, .nil, e, _ => by
    cases e
    exact ⟨[], [], fun _ => 0, .nil, .nil, rfl, rfl, fun j k c u z => by simp at z⟩
  | _, _, _, kvs, .cons (d := d) q r, .cons rv rr, e, hk => by
    unfold mapO at e
    cases ed : pairD d with
    | none => rw [ed] at e; cases e
    | some kv =>
      rw [ed] at e
      dsimp only at e
      rename_i v0 xs0 vs0 u0 us0
      cases er : mapO pairD xs0 with
      | none => rw [er] at e; cases e
      | some rest =>
        rw [er] at e
        cases e
        rw [List.all_cons, Bool.and_eq_true] at hk
        obtain ⟨k, v⟩ := kv
        obtain ⟨L, ps, Ts, h1, h2, h3, h4, h5⟩ := pairs_tk I r rr er hk.2
        have hd := pair_is ed
        subst hd
        obtain ⟨b, ws, rfl, eb, qs⟩ := q.tup_eq
        obtain ⟨vk, vv, rfl, qk, qv⟩ : ∃ vk vv, ws = [vk, vv] ∧ VR G pn α H k vk ∧ VR G pn α H v vv := by
          cases qs with
          | cons a1 r1 => cases r1 with
            | cons a2 r2 => cases r2; exact ⟨_, _, rfl, a1, a2⟩
        have hk1 : isTKey k = true := hk.1
        cases k with
        | tup ks =>
          obtain ⟨kk, ek⟩ := isKeys_some (show ks.all isKey = true from hk1)
          obtain ⟨c, cs, rfl, ec, qc⟩ := qk.tup_eq
          have e3 := keysK_kV qc ek
          subst e3
          obtain rfl : u0 = Value.ref b := rv
          obtain ⟨its, ri, ti, _⟩ := I.tuple (tup_sq eb)
          obtain ⟨uk, uv, ei, ru, ry⟩ := vals2 ri
          subst ei
          obtain rfl : uk = Value.ref c := ru
          refine ⟨(kk, vv) :: L, (kk, c, uv) :: ps, fun j => match j with | 0 => b | j + 1 => Ts j, .cons ⟨ks, rfl, ek, fun z hz => str_in qc hz, qv⟩ h1, .cons ⟨rfl, ec, ry⟩ h2, by rw [List.length_cons, List.length_cons, h3], by rw [List.length_cons, List.length_cons, h4], fun j k' c' u' z => ?_⟩
          cases j with
          | zero =>
            have z : (kk, c, uv) = (k', c', u') := by simpa using z
            cases z
            exact ⟨rfl, ti⟩
          | succ j =>
            obtain ⟨g1, g2⟩ := h5 j k' c' u' (by simpa using z)
            exact ⟨by simpa using g1, g2⟩
        | _ => cases hk1
def mergeT (la L : List (List Key × V)) : List (List Key × V) := L.foldl (fun acc p => putK acc p.1 p.2) la
theorem tr_fold : ∀ {kvs : List (D × D)} {L : List (List Key × V)}, TR G pn α H kvs L → ∀ {acc : List (D × D)} {la : List (List Key × V)}, TR G pn α H acc la → TR G pn α H (kvs.foldl (fun acc p => dput acc p.1 p.2) acc) (mergeT la L)
  | _, _, .nil, _, _, ra => ra
  | _, _, .cons (a := p) (b := q) z r, acc, la, ra => by
    obtain ⟨l, z1, z2, z3, z4⟩ := z
    rw [List.foldl_cons]
    show TR G pn α H _ (mergeT (putK la q.1 q.2) _)
    refine tr_fold r ?_
    rw [z1]
    exact dput_t z2 z4 z3 ra
theorem kt_fold : ∀ {L : List (List Key × V)} {ps : List (List Key × Addr × Value)}, L2.KT H L ps → ∀ {la : List (List Key × V)} {pa : List (List Key × Addr × Value)}, L2.KT H la pa → L2.KT H (mergeT la L) (storedAllH pa ps)
  | _, _, .nil, _, _, ra => ra
  | _, _, .cons (a := p) (b := q) z r, la, pa, ra => by
    show L2.KT H (mergeT (putK la p.1 p.2) _) (storedAllH (storedH pa q.1 q.2.1 q.2.2) _)
    refine kt_fold r ?_
    rw [← z.1]
    exact KT.put ra p.1 z.2.1 z.2.2
theorem snd_dicP (hc : X.calm = true) (hu : X.A.units + 66 < cLine) {e : Expr} {fe : Sh} {p pos : Pos} (hg : Gl X "dict") (hm : X.mg "dict" = none) (he : PE X e (tE G pn W fe)) (hs : starEach [e] X.env = [(false, eval e X.env)]) :
    PE X (.Call (.Name "dict" p) [e] [] pos) (tE G pn W (eDicP fe)) := by
  refine ⟨fun pins s σ H Q I ⟨α, env, h, sr, hR, p⟩ => ?_⟩
  have p : Post G pn ((fe env h).bind dicP) α H (QV G pn Q) (EW W σ) := p
  refine Call_ (ld_blt I hg hm (u := .type "dict") (by decide +kernel) (PyProof.Rows.callWith_type1 (PyProof.Rows.spliced_more (thn (he.run pins s σ H (fun v H1 => ∃ α1 h1 d, HR G pn α1 h1 H1 ∧ VR G pn α1 H1 d v ∧ Post G pn (dicP d h1) α1 H1 (QV G pn Q) (EW W σ)) I
    (tE.bind sr hR p fun d h1 α1 H1 v r1 q1 sr1 _ _ p1 => ⟨α1, h1, d, r1, q1, p1⟩)) fun u s1 ⟨x, H1, I1, rx, α1, h1, d, r1, q1, p1⟩ => PyProof.Rows.spliced_none ?_) (by rw [hs]; rfl)) hs rfl))
  unfold dicP at p1
  cases el : listOf h1 d with
  | none => rw [el] at p1; exact p1.elim
  | some xs =>
    rw [el] at p1
    cases em : mapO pairD xs with
    | none => rw [show (some xs).bind (mapO pairD) = none from em] at p1; exact p1.elim
    | some kvs =>
      rw [show (some xs).bind (mapO pairD) = some kvs from em] at p1
      have p1 : Post G pn (if (kvs.all (fun p => isTKey p.1) && !kvs.isEmpty && decide (kvs.length ≤ lim)) = true then newD (kvs.foldl (fun acc p => dput acc p.1 p.2) []) h1 else .bad) α1 H1 (QV G pn Q) (EW W σ) := p1
      by_cases hcond : (kvs.all (fun p => isTKey p.1) && !kvs.isEmpty && decide (kvs.length ≤ lim)) = true
      · rw [if_pos hcond] at p1
        simp only [Bool.and_eq_true, decide_eq_true_eq] at hcond
        obtain ⟨⟨hk, _⟩, hlim⟩ := hcond
        obtain ⟨b, fz, rfl, eo⟩ := listOf_some el
        obtain ⟨a, rfl, ea⟩ := q1.ref_eq
        obtain rfl : u = Value.ref a := rx
        obtain ⟨vs, rd, qv⟩ := r1.lstR ea eo
        obtain ⟨its, rv, pl, hz⟩ := I1.list (.inl rd)
        obtain ⟨L, ps, Ts, t1, t2, t3, t4, t5⟩ := pairs_tk I1 qv rv em hk
        have pairs : ∀ j k v, (ps.map fun q => (Value.ref q.2.1, q.2.2))[j]? = some (k, v) → ∃ kk c, ps[j]? = some (kk, c, v) ∧ k = Value.ref c := fun j k v e => by
          rw [List.getElem?_map] at e
          obtain ⟨⟨kk, c, w⟩, e1, e2⟩ := Option.map_eq_some_iff.mp e
          cases e2
          exact ⟨kk, c, e1, rfl⟩
        have plen : (ps.map fun q => (Value.ref q.2.1, q.2.2)).length = its.length := by rw [List.length_map, t3]
        have keyAll : ∀ {h' : Heap}, (∀ b o, s1.heap.get? b = some o → h'.get? b = some o) → ∀ q ∈ ps, (tupleKind (mixKind X.prog X.w)).is h' q.1 q.2.1 := by
          intro h' hk'
          have go : ∀ {l : List (List Key × V)} {m : List (List Key × Addr × Value)}, L2.KT H1 l m → ∀ q ∈ m, (tupleKind (mixKind X.prog X.w)).is h' q.1 q.2.1 := by
            intro l m z
            induction z with
            | nil => intro q hq; exact nomatch hq
            | @cons a b as bs z1 z2 ih =>
              intro q hq
              rcases List.mem_cons.mp hq with e | hq
              · subst e
                have kz := key_of I1.hok (ks := a.1) (by exact z1.2.1)
                rw [z1.1] at kz
                obtain ⟨o, its', n', g1, g2, g3, g4⟩ := kz
                exact ⟨o, its', n', hk' _ _ g1, g2, g3, g4⟩
              · exact ih q hq
          exact go t2
        obtain ⟨ol, nl, ho, hcl, hdl, hdt⟩ := pl
        refine PySem.call_dict_pairsH (knd := tupleKind (mixKind X.prog X.w)) (ps := ps) (PairArg.list a its.toArray Ts (ps.map fun q => (Value.ref q.2.1, q.2.2))) (I1.ok.hd hc) (by show X.A.units + 1 + 1 < cLine; omega)
          ⟨⟨ol, nl, ho, hcl, hdl, hdt⟩, by rw [List.size_toArray, plen], fun j k v e => ?_⟩ ⟨by rw [List.length_map], fun j k v e => ?_⟩ (fun h' hk' q hq => ?_) (by rw [plen, ← rv.length]; exact hz) fun h' tk hd' hk' => ?_
        · obtain ⟨kk, c, e1, rfl⟩ := pairs j k v e
          obtain ⟨g1, g2⟩ := t5 j kk c v e1
          exact ⟨by simpa using g1, .inl g2⟩
        · obtain ⟨kk, c, e1, rfl⟩ := pairs j k v e
          exact ⟨kk, c, e1, rfl⟩
        · exact keyAll (fun b o e => hk' b o (Nat.ne_of_lt (Heap.lt_size e)) (by simp) e) q hq
        · have kf := kt_fold t2 (la := []) (pa := []) .nil
          have hlen : (mergeT [] L).length ≤ sizeLine := by
            rw [show (mergeT [] L).length = (storedAllH [] ps).length from Paired.length kf]
            refine Nat.le_trans (storedAllH_length ps []) ?_
            rw [List.length_nil, Nat.zero_add, t3, ← rv.length]
            exact hz
          have hm' : (s1.heap.objs.size == sysModules) = false := beq_eq_false_iff_ne.mpr (Nat.ne_of_gt I1.big)
          have fr := I1.hok.fresh (Nat.le_refl s1.heap.objs.size)
          obtain ⟨m, r⟩ := r1.new_ (o := .dic false (kvs.foldl (fun acc p => dput acc p.1 p.2) [])) (u := .dT (mergeT [] L)) fr (.dic upd_same (.t ((tr_fold t1 .nil).mono (List.prefix_append _ _) (fix_upd_new fr))))
          have kf' : L2.KT (upd H1 s1.heap.objs.size (.dT (mergeT [] L))) (mergeT [] L) (storedAllH [] ps) := KT.keeps kf fun b ys e => by rw [upd_ne (ne_of_none e fr)]; exact e
          obtain ⟨o, es, ep, d1, d2, d3, d4, _, d6⟩ := hd'
          exact ⟨.ref s1.heap.objs.size, upd H1 s1.heap.objs.size (.dT (mergeT [] L)), I1.laid (t' := tk) (fun b o e => hk' b o (by simp) e) (Nat.le_refl _) (show ObjOk X.prog X.w _ _ _ (.dT (mergeT [] L)) from ⟨hlen, hm', _, kf', o, es, ep, d1, d2, d3, d4, d6⟩), rfl, p1 _ _ m r _ (.ref (by rw [← r1.len]; simp))⟩
      · rw [if_neg hcond] at p1; exact p1.elim
end
end Ev

set_option maxRecDepth 100000
set_option maxHeartbeats 2000000
/-! soundness of the translator: expressions -/
namespace Ev
open PySem PySem.Spec PyProof.Rows L2
/-- the built-ins' names that the translator knows -/
def bltN : List Str := ["len", "repr", "abs", "max", "min", "divmod", "list", "tuple", "str", "int", "all", "any", "sum", "isinstance", "range", "enumerate", "bool", "dict"]
structure Ok (G : Gd) (cf : CF) (X : Cx) (W : WX) (tc : TC) : Prop where
  gk : G.K = X.K
  calm : X.calm = true
  sys : ∃ o, X.base.get? sysModules = some o
  gd : X.A.guards = some []
  un : X.A.units + 66 < cLine
  nd : X.N.Nodup
  nN : tc.N = X.N
  sc : tc.sc = X.env.scope
  fn : tc.fn = X.fn
  blkK : X.env.blockKind = .function
  nm : ∀ x ∈ X.N, (x == ("__debug__" : Str)) = false ∧ (x == ("__classdict__" : Str)) = false
  con : ∀ x d, tc.con.lookup x = some d → ∃ v u, X.mg x = some u ∧ RelV v u ∧ (∀ pn α H, VR G pn α H d v) ∧ (x == ("__debug__" : Str)) = false
  blt : ∀ x ∈ bltN, X.mg x = none
  tk : Takes X W
  fns : ∀ x f, tc.fns.lookup x = some f → ∃ a fd ps k, FnC G X (cf f) k a fd ps ∧ Room k X.A ∧ X.mg x = some (.ref a) ∧ (x == ("__debug__" : Str)) = false ∧ ∀ n ks pars, tc.kws.lookup (f, n, ks) = some pars → CallAt G X.K fd ps n ks pars
  cls : ∀ x c f, tc.cls.lookup x = some (c, f) → G.CP c ∧ X.mg x = some (.ref (G.CT c)) ∧ (x == ("__debug__" : Str)) = false ∧
    ∀ n ks pars, tc.kws.lookup (f, n, ks) = some pars → ∃ k a fd ps, Mk X.K (G.CT c) a ∧ FnG X.prog X.w X.K X.mg X.base k a fd ps (spD G (cf f)) ∧ Room (k + 1) X.A ∧ CallAt G X.K fd ps n ks pars
  inj : ∀ i j, G.FN i = G.FN j → i = j
  fld : ∀ f, tc.fld.contains f = true → FldOk G X.K (tc.fld.idxOf f) ∧ G.FN (tc.fld.idxOf f) = f
  mns : ∀ m, tc.mns.contains m = true → G.FN (tc.fld.length + tc.mns.idxOf m) = m
  mt : ∀ c m f, G.CP c → tc.mt c m = some f → ∃ k a fd ps, MtC G X cf c m f k a fd ps
  isi : IsiOk G X.K
structure GX (G : Gd) (pn : List (Addr × Obj)) (X : Cx) (W : WX) (tc : TC) (e : Expr) (m : Mn) : Prop where
  v : PE X e (tE G pn W m.v)
  t : PT X e (tT G pn W m.v)
  it : ∀ tg, okTg tg e = true → PI X tg e (tI G pn W m.it)
  tg : ∀ vs, (∀ x, isLoc tc x = true → tc.N.contains x = true → tc.N.idxOf x ∈ vs) → PG X e (tG G pn vs m.tg)
  en : ∀ f, m.en = some f → ∃ p e' q, e = .Call (.Name "enumerate" p) [e'] [] q ∧ isGl tc.sc "enumerate" = true ∧ noStar [e'] = true ∧ PE X e' (tE G pn W f)
section
variable {G : Gd} {pn : List (Addr × Obj)} {cf : CF} {X : Cx} {W : WX} {tc : TC}
theorem GX.bad {e : Expr} : GX G pn X W tc e .bad := ⟨pe_bad, pt_bad, fun _ _ => pi_bad, fun _ _ => pg_bad, fun f z => by cases z⟩
theorem GX.of {e : Expr} {f : Sh} (o : Ok G cf X W tc) (v : PE X e (tE G pn W f)) (t : PT X e (tT G pn W f)) : GX G pn X W tc e (.of f) := ⟨v, t, fun tg _ => snd_ival o.gk v, fun _ _ => pg_bad, fun f z => by cases z⟩
theorem GX.ofV {e : Expr} {f : Sh} (o : Ok G cf X W tc) (v : PE X e (tE G pn W f)) (he : ∀ whole, isTrue e X.env whole = (do let v ← whole; standAt e.pos; holding [v] (truthy v))) : GX G pn X W tc e (.of f) := .of o v (pt_v o.gk v he)
abbrev GXs (G : Gd) (pn : List (Addr × Obj)) (X : Cx) (W : WX) (tc : TC) (es : List Expr) (ms : List Mn) : Prop := Paired (fun e m => GX G pn X W tc e m) es ms
theorem star_cons {e : Expr} {es : List Expr} {env : PySem.Env} (h : isStar e = false) : starEach (e :: es) env = (false, eval e env) :: starEach es env := by
  cases e <;> first | rfl | exact absurd h (by simp [isStar])
theorem noStar_cons {e : Expr} {es : List Expr} (h : noStar (e :: es) = true) : isStar e = false ∧ noStar es = true := by
  unfold noStar at h
  rw [List.all_cons, Bool.and_eq_true] at h
  exact ⟨by simpa using h.1, h.2⟩
theorem star_map : ∀ {es : List Expr} {env : PySem.Env}, noStar es = true → starEach es env = es.map fun e => (false, eval e env)
  | [], _, _ => rfl
  | e :: es, env, h => by
    obtain ⟨h1, h2⟩ := noStar_cons h
    rw [star_cons h1, star_map h2]; rfl
theorem back_plain {es : List Expr} {env : PySem.Env} {pos : Pos} (h : noStar es = true) : (backTo pos (starEach es env)).any (·.1) = false := by
  rw [star_map h]
  unfold backTo
  rw [List.map_map, List.any_map]
  simp
theorem back_all {es : List Expr} {env : PySem.Env} {pos : Pos} (h : noStar es = true) : (backTo pos (starEach es env)).all (fun x => !x.1) = true := by
  rw [star_map h]
  unfold backTo
  rw [List.map_map, List.all_map]
  simp
theorem GXs.len {es : List Expr} {ms : List Mn} (h : GXs G pn X W tc es ms) : es.length = (vals ms).length := by
  unfold vals
  rw [List.length_map]
  exact Paired.length h
theorem GXs.pa : ∀ {es : List Expr} {ms : List Mn}, GXs G pn X W tc es ms → noStar es = true → PA X es (tA G pn W (vals ms))
  | _, _, .nil, _ => snd_anil
  | _, _, .cons h r, hn => by
    obtain ⟨h1, h2⟩ := noStar_cons hn
    exact snd_acons h.v (GXs.pa r h2) (star_cons h1)
theorem asg_cons {e : Expr} {es : List Expr} {env : PySem.Env} (h : isStar e = false) : assignEach (e :: es) env = (false, assign e env) :: assignEach es env := by
  cases e <;> first | rfl | exact absurd h (by simp [isStar])
theorem asg_len : ∀ {es : List Expr} {env : PySem.Env}, noStar es = true → assignEach es env = es.map fun e => (false, assign e env)
  | [], _, _ => rfl
  | e :: es, env, h => by
    obtain ⟨h1, h2⟩ := noStar_cons h
    rw [asg_cons h1, asg_len h2]; rfl
theorem GXs.pg {vs : List Nat} (hv : ∀ x, isLoc tc x = true → tc.N.contains x = true → tc.N.idxOf x ∈ vs) : ∀ {es : List Expr} {ms : List Mn}, GXs G pn X W tc es ms → noStar es = true → PGs X es (tGs G pn vs (ms.map (·.tg)))
  | _, _, .nil, _ => snd_gnil
  | _, _, .cons h r, hn => by
    obtain ⟨h1, h2⟩ := noStar_cons hn
    exact snd_gcons (h.tg vs hv) (GXs.pg hv r h2) (by rw [asg_cons h1]; rfl)
theorem vis_of {sc : Scope} {x : Str} (h : isVis sc x = true) : Vis sc x := by
  unfold isVis at h
  unfold Vis
  split at h
  · exact .inl (by assumption)
  · exact .inr (.inl (by assumption))
  · exact .inr (.inr (by assumption))
  · cases h
theorem gl_of (o : Ok G cf X W tc) {x : Str} (h : isGl tc.sc x = true) : Gl X x := by
  unfold isGl at h
  rw [o.sc] at h
  show X.env.scope.names.lookup x = _
  split at h
  · assumption
  · cases h
theorem ix_of (o : Ok G cf X W tc) {x : Str} (h : tc.N.contains x = true) : X.N[tc.N.idxOf x]? = some x ∧ x ∈ X.N := by
  have hm : x ∈ tc.N := by simpa using h
  refine ⟨?_, by rw [← o.nN]; exact hm⟩
  rw [← o.nN]
  exact List.getElem?_eq_some_iff.mpr ⟨List.idxOf_lt_length_of_mem hm, List.getElem_idxOf _⟩
theorem Ok.room {x : Str} (o : Ok G cf X W tc) (hx : x ∈ bltN) : X.mg x = none := o.blt x hx
theorem ite_some {A : Type} {c : Prop} [Decidable c] {a b : Option A} {f : A} (h : (if c then a else b) = some f) : (c ∧ a = some f) ∨ b = some f := by
  by_cases hc : c
  · rw [if_pos hc] at h; exact .inl ⟨hc, h⟩
  · rw [if_neg hc] at h; exact .inr h
/-- the built-ins by name -/
theorem bf_boot {x : Str} {n : Nat} {f : BF} (h : bfOf x n = some f) : bootBuiltins x = some (bfV f) ∧ x ∈ bltN := by
  unfold bfOf at h
  rcases ite_some h with ⟨rfl, h⟩ | h
  · cases h; exact ⟨by decide +kernel, by decide⟩
  rcases ite_some h with ⟨rfl, h⟩ | h
  · cases h; exact ⟨by decide +kernel, by decide⟩
  rcases ite_some h with ⟨rfl, h⟩ | h
  · cases h; exact ⟨by decide +kernel, by decide⟩
  rcases ite_some h with ⟨rfl, h⟩ | h
  · by_cases hn : n = 2
    · rw [if_pos hn] at h; cases h; exact ⟨by decide +kernel, by decide⟩
    · rw [if_neg hn] at h; cases h; exact ⟨by decide +kernel, by decide⟩
  rcases ite_some h with ⟨rfl, h⟩ | h
  · by_cases hn : n = 2
    · rw [if_pos hn] at h; cases h; exact ⟨by decide +kernel, by decide⟩
    · rw [if_neg hn] at h; cases h; exact ⟨by decide +kernel, by decide⟩
  rcases ite_some h with ⟨rfl, h⟩ | h
  · cases h; exact ⟨by decide +kernel, by decide⟩
  rcases ite_some h with ⟨rfl, h⟩ | h
  · cases h; exact ⟨by decide +kernel, by decide⟩
  rcases ite_some h with ⟨rfl, h⟩ | h
  · cases h; exact ⟨by decide +kernel, by decide⟩
  rcases ite_some h with ⟨rfl, h⟩ | h
  · cases h; exact ⟨by decide +kernel, by decide⟩
  rcases ite_some h with ⟨rfl, h⟩ | h
  · cases h; exact ⟨by decide +kernel, by decide⟩
  rcases ite_some h with ⟨rfl, h⟩ | h
  · cases h; exact ⟨by decide +kernel, by decide⟩
  rcases ite_some h with ⟨rfl, h⟩ | h
  · cases h; exact ⟨by decide +kernel, by decide⟩
  rcases ite_some h with ⟨rfl, h⟩ | h
  · cases h; exact ⟨by decide +kernel, by decide⟩
  cases h
theorem blt_nm {x : Str} (h : x ∈ bltN) : x ≠ "__name__" ∧ (x == ("__debug__" : Str)) = false := by
  have : ∀ y ∈ bltN, y ≠ "__name__" ∧ (y == ("__debug__" : Str)) = false := by decide
  exact this x h
theorem bm_name {x : Str} {m : BM} (h : bmOf x = some m) : x = bmN m := by
  unfold bmOf at h
  repeat' split at h
  all_goals first
    | (cases h; done)
    | (rename_i e; subst e; cases h; rfl)
theorem ty_boot {cls : List (Str × (Nat × Nat))} {x : Str} {t : Ty} (h : tyOf cls x = some t) : (bootBuiltins x = some (tyV G.CT t) ∧ x ∈ bltN ∧ (∃ T, tyV G.CT t = .type T) ∧ ∀ c, t ≠ .own c) ∨ ∃ c f, cls.lookup x = some (c, f) ∧ t = .own c := by
  unfold tyOf at h
  repeat' split at h
  all_goals first
    | (rename_i e; subst e; cases h; exact .inl ⟨by show bootBuiltins _ = some (.type _); decide +kernel, by decide, ⟨_, rfl⟩, fun _ z => by cases z⟩)
    | (obtain ⟨⟨c, f⟩, e1, e2⟩ := Option.map_eq_some_iff.mp h; exact .inr ⟨c, f, e1, e2.symm⟩)
theorem snd_name (o : Ok G cf X W tc) {x : Str} {pos : Pos} : GX G pn X W tc (.Name x pos) (trX cf tc (.Name x pos)) := by
  show GX G pn X W tc _ (if tc.N.contains x && isVis tc.sc x then ⟨eVar (tc.N.idxOf x), iVal (eVar (tc.N.idxOf x)), if isLoc tc x then tName (tc.N.idxOf x) else noTg, none⟩
    else .of (if isGl tc.sc x then (match tc.con.lookup x with
      | some d => eConst d
      | none => eBad) else eBad))
  by_cases h : (tc.N.contains x && isVis tc.sc x) = true
  · rw [if_pos h]
    rw [Bool.and_eq_true] at h
    obtain ⟨hi, hm⟩ := ix_of o h.1
    have hv := vis_of h.2
    rw [o.sc] at hv
    obtain ⟨n1, n2⟩ := o.nm x hm
    have pe : PE X (.Name x pos) (tE G pn W (eVar (tc.N.idxOf x))) := (se_var hi hv n1 n2).pe
    refine ⟨pe, pt_v o.gk pe fun _ => rfl, fun tg _ => snd_ival o.gk pe, fun vs hvs => ?_, fun f z => by cases z⟩
    by_cases hl : isLoc tc x = true
    · rw [if_pos hl]
      refine snd_gname' o.nd hi ?_ (hvs x hl h.1)
      unfold isLoc at hl
      rw [o.sc, o.fn] at hl
      split at hl
      · exact .inl (by assumption)
      · exact .inr ⟨by assumption, hl⟩
      · cases hl
    · rw [if_neg hl]
      exact pg_bad
  · rw [if_neg h]
    by_cases hg : isGl tc.sc x = true
    · rw [if_pos hg]
      cases e : tc.con.lookup x with
      | none => exact .ofV o pe_bad fun _ => rfl
      | some d =>
        obtain ⟨v, u, h1, h2, h3, h4⟩ := o.con x d e
        exact .ofV o (se_glob (gl_of o hg) h1 h2 (fun α H => h3 pn α H) h4).pe fun _ => rfl
    · rw [if_neg hg]
      exact .ofV o pe_bad fun _ => rfl
where
  snd_gname' {i : Nat} {x : Str} {pos : Pos} {vs : List Nat} (hN : X.N.Nodup) (hi : X.N[i]? = some x) (hx : X.env.scope.names.lookup x = some .local ∨ X.env.scope.names.lookup x = some .cell ∧ X.fn x = true) (hv : i ∈ vs) : PG X (.Name x pos) (tG G pn vs (tName i)) := by
    refine PGi (pg_name hN hi (hx.elim .inl fun z => .inr z.1) (hx.elim .inr fun z => .inl z.2)) fun v σ H Q ⟨α, env, h, d, sr, hr, q, p⟩ => ?_
    exact p α H (Mv.refl _ _) hr _ (sr.set i q) ⟨fun j hj => List.getElem?_set_ne fun (z : i = j) => hj (by rw [← z]; exact hv), List.length_set ..⟩
theorem snd_andA (o : Ok G cf X W tc) {pos : Pos} : ∀ {es : List Expr} {ms : List Mn}, GXs G pn X W tc es ms → PE X (.BoolOp .And es pos) (tE G pn W (foldAnd ms)) ∧ PW X (.BoolOp .And es pos) (tT G pn W (foldAnd ms))
  | _, _, .nil => ⟨pe_bad, ⟨fun _ _ _ _ _ _ _ ⟨_, _, _, _, _, p⟩ => p.elim⟩⟩
  | _, _, .cons h .nil => ⟨pe_one h.v, pw_and1 h.t⟩
  | _, _, .cons h (.cons h2 r) => by
    obtain ⟨i1, i2⟩ := snd_andA o (pos := pos) (.cons h2 r)
    exact ⟨snd_and o.gk h.v i1, snd_andT h.t i2⟩
theorem snd_orA (o : Ok G cf X W tc) {pos : Pos} : ∀ {es : List Expr} {ms : List Mn}, GXs G pn X W tc es ms → PE X (.BoolOp .Or es pos) (tE G pn W (foldOr ms)) ∧ PW X (.BoolOp .Or es pos) (tT G pn W (foldOr ms))
  | _, _, .nil => ⟨pe_bad, ⟨fun _ _ _ _ _ _ _ ⟨_, _, _, _, _, p⟩ => p.elim⟩⟩
  | _, _, .cons h .nil => ⟨pe_one h.v, pw_or1 h.t⟩
  | _, _, .cons h (.cons h2 r) => by
    obtain ⟨i1, i2⟩ := snd_orA o (pos := pos) (.cons h2 r)
    exact ⟨snd_or o.gk h.v i1, snd_orT h.t i2⟩
theorem pw_pt {e : Expr} {t : TT} (h : PW X e t) : PT X e t := ⟨fun pins s σ H Q I hq => h.run _ pins s σ H Q I hq⟩
theorem behind_of {op : CmpOp} {e : Expr} (h : isSetE e = false) : behindInMarks op e = false := by
  cases e <;> first | rfl | exact absurd h (by simp [isSetE])
theorem last_of {op op2 : CmpOp} {m r : Expr} (h : isSetE r = false) : lastMarks [op, op2] [m, r] = false := by
  show lastMarks [op2] [r] = false
  exact behind_of h
theorem base_of {o : Expr} {m : Str} {env : PySem.Env} (h : baseOk o = true) : attributeBase o m env (eval o env) = eval o env := by
  cases o with
  | Call f es ks pos =>
    cases f <;> first | rfl | (cases es <;> first | rfl | (cases ks <;> first | rfl | exact absurd h (by simp [baseOk])))
  | _ => rfl
/-- calls by name -/
theorem snd_cbn (o : Ok G cf X W tc) {x : Str} {es : List Expr} {ks : List Keyword} {p pos : Pos} {ms zs : List Mn} (hg : isGl tc.sc x = true) (hn : noStar es = true) (he : GXs G pn X W tc es ms) (hk : Paired (fun k m => PE X k.2 (tE G pn W m)) (ks.map fun k => (k.1, k.2)) (vals zs)) :
    PE X (.Call (.Name x p) es ks pos) (tE G pn W (trCall cf tc x ms es ks zs)) := by
  have pa := he.pa hn
  have stc : ∀ e r, es = e :: r → starEach (e :: r) X.env = (false, eval e X.env) :: starEach r X.env := fun e r z => by subst z; exact star_cons (noStar_cons hn).1
  have pl : ∀ e r, es = e :: r → (backTo pos (starEach r X.env)).any (·.1) = false := fun e r z => by subst z; exact back_plain (noStar_cons hn).2
  have hlen := he.len
  unfold trCall
  cases ef : tc.fns.lookup x with
  | some f =>
    obtain ⟨a, fd, ps, k, F, hr, hm, hd, hC⟩ := o.fns x f ef
    dsimp only
    cases ks with
    | nil =>
      have ez : vals zs = [] := by
        generalize vals zs = l at hk
        cases hk; rfl
      dsimp only
      cases ek : tc.kws.lookup (f, es.length, []) with
      | none => exact snd_call F o.gd hr o.tk (gl_of o hg) hm hd pa hlen stc pl
      | some pars =>
        dsimp only
        rw [ez]
        exact snd_callK F (hC _ _ _ ek) o.gd hr o.tk (gl_of o hg) hm hd pa hlen stc (snd_kw (kws := []) .nil) rfl rfl rfl (by rw [back_plain hn]; rfl)
    | cons k1 kr =>
      by_cases hka : kwAll (k1 :: kr) = true
      · dsimp only
        rw [if_pos hka]
        cases ek : tc.kws.lookup (f, es.length, kwNames (k1 :: kr)) with
        | none => exact pe_bad
        | some pars =>
          have hkl : (kwNames (k1 :: kr)).length = (vals zs).length := by
            rw [← Paired.length hk, List.length_map]
            exact kw_len hka
          exact snd_callK F (hC _ _ _ ek) o.gd hr o.tk (gl_of o hg) hm hd pa hlen stc (snd_kw hk) hkl (kw_all hka) (kw_fm hka) (by rw [back_plain hn, kw_any hka]; rfl)
      · dsimp only
        rw [if_neg hka]
        exact pe_bad
  | none =>
    dsimp only
    cases ec : tc.cls.lookup x with
    | some cf' =>
      obtain ⟨c, f⟩ := cf'
      obtain ⟨c1, c2, c3, c4⟩ := o.cls x c f ec
      by_cases hka : kwAll ks = true
      · dsimp only
        rw [if_pos hka]
        cases ek : tc.kws.lookup (f, es.length + 1, kwNames ks) with
        | none => exact pe_bad
        | some pars =>
          obtain ⟨k, a, fd, ps, d1, d2, d3, d4⟩ := c4 _ _ _ ek
          have hkl : (kwNames ks).length = (vals zs).length := by
            rw [← Paired.length hk, List.length_map]
            exact kw_len hka
          exact snd_make c1 d1 d2 d4 o.gd d3 o.tk (gl_of o hg) c2 c3 pa hlen stc (snd_kw hk) hkl (kw_all hka) (kw_fm hka) (by rw [back_plain hn, kw_any hka]; rfl)
      · dsimp only
        rw [if_neg hka]
        exact pe_bad
    | none =>
      dsimp only
      cases ks with
      | cons => exact pe_bad
      | nil =>
        show PE X _ (tE G pn W (trB tc x ms es))
        unfold trB
        by_cases hi : x = "isinstance"
        · subst hi
          rw [if_pos rfl]
          split
          · rename_i a b e1 t
            split
            · rename_i y ty en
              cases t with
              | Name y' yp =>
                unfold namedTy at en
                dsimp only at en
                by_cases hy : isGl tc.sc y' = true
                · rw [if_pos hy] at en
                  obtain ⟨ty', et, ee⟩ := Option.map_eq_some_iff.mp en
                  cases ee
                  cases he with
                  | cons h1 h2 =>
                    obtain ⟨s1, s2⟩ := noStar_cons hn
                    have hst : starEach [e1, .Name y yp] X.env = [(false, eval e1 X.env), (false, eval (.Name y yp) X.env)] := by rw [star_cons s1]; rfl
                    rcases ty_boot (G := G) et with ⟨b1, b2, b3, b4⟩ | ⟨c, f, b1, rfl⟩
                    · exact snd_isi o.gk o.isi (fun c z => absurd z (b4 c)) (gl_of o hg) (o.blt _ (by decide)) (gl_of o hy) (.inl ⟨o.blt _ b2, b1, (blt_nm b2).1, b3⟩) (blt_nm b2).2 h1.v hst
                    · obtain ⟨c1, c2, c3, _⟩ := o.cls y c f b1
                      exact snd_isi o.gk o.isi (fun c' z => by cases z; exact c1) (gl_of o hg) (o.blt _ (by decide)) (gl_of o hy) (.inr ⟨c2, _, rfl⟩) c3 h1.v hst
                · rw [if_neg hy] at en; cases en
              | _ => cases en
            · exact pe_bad
          · exact pe_bad
        · rw [if_neg hi]
          by_cases hd : x = "dict"
          · subst hd
            rw [if_pos rfl]
            unfold trD
            cases he with
            | nil => exact pe_bad
            | cons h1 r1 =>
              cases r1 with
              | cons => exact pe_bad
              | nil =>
                rename_i e1 m1
                dsimp only
                cases en : m1.en with
                | none => exact snd_dicP o.calm o.un (gl_of o hg) (o.blt "dict" (by decide)) h1.v (star_map hn)
                | some f =>
                  obtain ⟨p', e', q, e1, e2, e3, e4⟩ := h1.en f en
                  subst e1
                  exact snd_dicEn o.calm (gl_of o hg) (o.blt "dict" (by decide)) (gl_of o e2) (o.blt "enumerate" (by decide)) e4 (star_map e3)
          rw [if_neg hd]
          cases eb : bfOf x es.length with
          | none => exact pe_bad
          | some f =>
            obtain ⟨b1, b2⟩ := bf_boot eb
            exact snd_bf o.gk o.calm o.sys o.gd o.un (gl_of o hg) (o.blt x b2) b1 (blt_nm b2).1 (blt_nm b2).2 pa hlen stc pl
where
  kw_len : ∀ {ks : List Keyword}, kwAll ks = true → (kwNames ks).length = ks.length
    | [], _ => rfl
    | ⟨some x, _, _⟩ :: r, h => by
      show (kwNames r).length + 1 = r.length + 1
      rw [kw_len (show kwAll r = true from h)]
    | ⟨none, _, _⟩ :: r, h => by cases h
  kw_all : ∀ {ks : List Keyword} {env : PySem.Env} {pos : Pos}, kwAll ks = true → (backToKw pos (keywordEach ks env)).all (·.1.isSome) = true
    | [], _, _, _ => rfl
    | ⟨some x, e, _⟩ :: r, env, pos, h => by
      show (true && (backToKw pos (keywordEach r env)).all (·.1.isSome)) = true
      rw [kw_all (show kwAll r = true from h)]; rfl
    | ⟨none, _, _⟩ :: r, _, _, h => by cases h
  kw_any : ∀ {ks : List Keyword} {env : PySem.Env} {pos : Pos}, kwAll ks = true → (backToKw pos (keywordEach ks env)).any (·.1.isNone) = false
    | [], _, _, _ => rfl
    | ⟨some x, e, _⟩ :: r, env, pos, h => by
      show (false || (backToKw pos (keywordEach r env)).any (·.1.isNone)) = false
      rw [kw_any (show kwAll r = true from h)]; rfl
    | ⟨none, _, _⟩ :: r, _, _, h => by cases h
  kw_fm : ∀ {ks : List Keyword} {env : PySem.Env} {pos : Pos}, kwAll ks = true → (backToKw pos (keywordEach ks env)).filterMap (·.1) = kwNames ks
    | [], _, _, _ => rfl
    | ⟨some x, e, _⟩ :: r, env, pos, h => by
      show x :: (backToKw pos (keywordEach r env)).filterMap (·.1) = x :: kwNames r
      rw [kw_fm (show kwAll r = true from h)]
    | ⟨none, _, _⟩ :: r, _, _, h => by cases h
end
end Ev

set_option maxRecDepth 100000
set_option maxHeartbeats 2000000
/-! soundness of the translator: expressions, statements -/
namespace Ev
open PySem PySem.Spec PyProof.Rows L2
section
variable {G : Gd} {pn : List (Addr × Obj)} {cf : CF}
theorem FnC.same {X Y : Cx} {c : List D → Hh → Res D} {k : Nat} {a : Addr} {fd : FuncData} {ps : List Str} (F : FnC G X c k a fd ps) (h1 : Y.prog = X.prog) (h2 : Y.w = X.w) (h3 : Y.K = X.K) (h4 : Y.mg = X.mg) (h5 : Y.base = X.base) : FnC G Y c k a fd ps := by
  obtain ⟨f1, f2, f3, f4⟩ := F
  exact ⟨by rw [h3]; exact f1, by rw [h1, h2, h3, h4, h5]; exact f2, by rw [h3]; exact f3, f4⟩
theorem takes_no {X : Cx} (h : X.xe = fun _ _ => False) : Takes X WF := fun u s' ⟨_, _, _, _, _, _, _, _, _, _, _, _, _, _, _, _, w⟩ => w.elim
/-- the block of a comprehension -/
theorem Ok.blk {X : Cx} {W : WX} {tc : TC} (o : Ok G cf X W tc) {scope : Scope} (hb : L2.blkC tc.N tc.sc scope (ownP tc.N scope) = true) (s : Shared) (H : Hp) (C : Addr) (cl : List (Str × Addr)) (fp : List Addr) : Ok G cf (X.blk s H scope (compEnvC scope cl C X.env) fp) WF (blkTC tc scope) where
  gk := o.gk
  calm := o.calm
  sys := o.sys
  gd := o.gd
  un := o.un
  nd := o.nd
  nN := o.nN
  sc := by
    show L2.relS scope tc.sc = relabel scope X.env
    rw [o.sc]
    rfl
  fn := rfl
  blkK := by
    have hk := (blkOk_by hb).kind
    show (if scope.kind.isAnnotationScope then ScopeKind.function else scope.kind) = _
    rw [hk]; rfl
  nm := o.nm
  con := o.con
  blt := o.blt
  tk := takes_no rfl
  fns := fun x f e => by
    obtain ⟨a, fd, ps, k, F, rest⟩ := o.fns x f e
    exact ⟨a, fd, ps, k, F.same rfl rfl rfl rfl rfl, rest⟩
  cls := o.cls
  inj := o.inj
  fld := o.fld
  mns := o.mns
  mt := fun c m f hc e => by
    obtain ⟨k, a, fd, ps, T⟩ := o.mt c m f hc e
    exact ⟨k, a, fd, ps, T.cls, T.mth, T.fn.same rfl rfl rfl rfl rfl, T.room⟩
  isi := o.isi
theorem own_mem {tc : TC} {scope : Scope} {x : Str} (h : isLoc (blkTC tc scope) x = true) (hN : tc.N.contains x = true) : tc.N.idxOf x ∈ (ownP tc.N scope).map (·.2) := by
  generalize hsc : tc.sc = sc
  have h : (match (L2.relS scope sc).names.lookup x with
    | some .local => true
    | some .cell => scope.names.lookup x == some .cell
    | _ => false) = true := by rw [← hsc]; exact h
  generalize tc.N = N at hN ⊢
  have key : ∃ k, (x, k) ∈ scope.names ∧ (k = .local ∨ k = .cell) := by
    split at h
    · rename_i e
      obtain ⟨k', e1, e2⟩ := rel_lookup e
      by_cases hc : (k' == .free && sc.kind == .function && sc.names.lookup x == some .cell) = true
      · rw [if_pos hc] at e2; cases e2
      · rw [if_neg hc] at e2
        exact ⟨_, mem_of_lookup e1, .inl e2⟩
    · have e1 : scope.names.lookup x = some .cell := by simpa using h
      exact ⟨_, mem_of_lookup e1, .inr rfl⟩
    · cases h
  obtain ⟨k, hm, hk⟩ := key
  refine List.mem_map.mpr ⟨(x, N.idxOf x), List.mem_filterMap.mpr ⟨(x, k), hm, ?_⟩, rfl⟩
  rcases hk with rfl | rfl <;> simp only [hN, if_true]
where
  mem_of_lookup {A : Type} : ∀ {l : List (Str × A)} {x : Str} {k : A}, l.lookup x = some k → (x, k) ∈ l
    | (y, z) :: r, x, k, h => by
      rw [List.lookup_cons] at h
      cases hb : (x == y) with
      | true =>
        rw [hb] at h
        cases h
        rw [eq_of_beq hb]
        exact List.mem_cons_self
      | false =>
        rw [hb] at h
        exact List.mem_cons_of_mem _ (mem_of_lookup h)
  rel_lookup {scope sc : Scope} {x : Str} {k : NameKind} (e : (L2.relS scope sc).names.lookup x = some k) : ∃ k', scope.names.lookup x = some k' ∧ (if (k' == .free && sc.kind == .function && sc.names.lookup x == some .cell) = true then NameKind.cell else k') = k := by
    unfold L2.relS at e
    dsimp only at e
    generalize scope.names = l at e ⊢
    induction l with
    | nil => cases e
    | cons y r ih =>
      obtain ⟨n, k'⟩ := y
      rw [List.map_cons, List.lookup_cons] at e
      rw [List.lookup_cons]
      have hn : ∀ b : Bool, (if b = true then (n, NameKind.cell) else (n, k')).1 = n := fun b => by cases b <;> rfl
      by_cases hb : (x == n) = true
      · have hxn := eq_of_beq hb
        subst hxn
        dsimp only at e
        rw [hn] at e
        rw [hb] at e ⊢
        refine ⟨k', rfl, ?_⟩
        have e' := Option.some.inj e
        rw [← e']
        split <;> rfl
      · have hb' : (x == n) = false := by simpa using hb
        dsimp only at e
        rw [hn] at e
        rw [hb'] at e ⊢
        exact ih e
theorem set_iter {e : Expr} {env : PySem.Env} (h : isSetE e = false) : ∀ x, foldedSetIterable e env x = pure x := by
  intro x
  cases e <;> first | rfl | exact absurd h (by simp [isSetE])
theorem PTsi {X : Cx} {es : List Expr} {t u : TT} (p : PTs X es t) (k : ∀ σ H Q, u σ H Q → t σ H Q) : PTs X es u := ⟨fun pins s σ H Q I h => p.run pins s σ H Q I (k σ H Q h)⟩
theorem pts_yes {X : Cx} {W : WX} : PTs X [] (tT G pn W (eConst (.bl true))) := PTsi pts_nil fun σ H Q ⟨α, env, h, sr, hr, p⟩ => p α H (Mv.refl _ _) hr
theorem isl_ix {i : Expr} (h : isSl i = false) : PlainIx i := by
  intro o v
  cases i <;> first | rfl | exact absurd h (by simp [isSl])
theorem isl_asg {o i : Expr} {pos : Pos} {env : PySem.Env} (h : isSl i = false) (v : Value) : assign (.Subscript o i pos) env v = (do
      let ov ← holding [v] (eval o env)
      let iv ← holding [v, ov] (eval i env)
      standAt pos
      holding [v, ov, iv] (PySem.setItem ov iv v)
      release [v, ov, iv] []) := by
  cases i <;> first | rfl | exact absurd h (by simp [isSl])
def GOs (G : Gd) (pn : List (Addr × Obj)) (X : Cx) (W : WX) (o : Option Expr) (f : Option Sh) : Prop := match o, f with
  | none, none => True
  | some e, some f => PE X e (tE G pn W f)
  | _, _ => False
theorem go_po {X : Cx} {W : WX} {o : Option Expr} {f : Option Sh} (h : GOs G pn X W o f) : PO X o (tO G pn W f) := by
  cases o <;> cases f <;> first | exact h.elim | exact snd_onone | exact snd_osome h
theorem zip_pps {X : Cx} {W : WX} {tc : TC} {pos : Pos} : ∀ {ks : List (Option Expr)} {vs : List Expr} {ko : List (Option Sh)} {ms : List Mn} {ps : List (Sh × Sh)}, Paired (GOs G pn X W) ks ko → GXs G pn X W tc vs ms → zipD ko (vals ms) = some ps →
    PPs X pos ks vs (ps.map fun p => (tE G pn W p.1, tE G pn W p.2)) ∧ ks.all (·.isSome) = true ∧ ks.length = vs.length ∧ ks.length = ps.length
  | _, _, _, _, ps, .nil, .nil, e => by
    cases e
    exact ⟨pps_nil, rfl, rfl, rfl⟩
  | _, _, _, _, ps, .nil, .cons _ _, e => by cases e
  | _, _, _, _, ps, .cons (b := b) _ _, .nil, e => by cases b <;> cases e
  | _, _, _, _, ps, .cons (a := a) (b := b) h1 r1, .cons h2 r2, e => by
    cases b with
    | none => cases e
    | some k =>
      cases a with
      | none => exact h1.elim
      | some ke =>
        obtain ⟨q, e1, e2⟩ := Option.map_eq_some_iff.mp e
        subst e2
        obtain ⟨i1, i2, i3, i4⟩ := zip_pps (pos := pos) r1 r2 e1
        exact ⟨pps_cons h1 h2.v i1, by rw [List.all_cons, i2]; rfl, by rw [List.length_cons, List.length_cons, i3], by rw [List.length_cons, List.length_cons, i4]⟩
theorem trXs_len : ∀ (es : List Expr) (tc : TC), (trXs cf tc es).length = es.length
  | [], _ => rfl
  | e :: r, tc => congrArg (· + 1) (trXs_len r tc)
theorem paired_one {A B : Type} {R : A → B → Prop} {a : A} {b : B} (h : Paired R [a] [b]) : R a b := by cases h; assumption
theorem paired_no {A B : Type} {R : A → B → Prop} {b : B} {r : List B} (h : Paired R [] (b :: r)) : False := by cases h
theorem paired_no' {A B : Type} {R : A → B → Prop} {b : A} {r : List A} (h : Paired R (b :: r) []) : False := by cases h
theorem paired_no2 {A B : Type} {R : A → B → Prop} {b b2 : A} {r : List A} {c : B} (h : Paired R (b :: b2 :: r) [c]) : False := by
  cases h with
  | cons _ h => cases h
theorem snd_cmps {X : Cx} {W : WX} {tc : TC} (o : Ok G cf X W tc) {l : Expr} {ops : List CmpOp} {rs : List Expr} {p : Pos} {ml : Mn} {ms : List Mn} (hl : GX G pn X W tc l ml) (hs : GXs G pn X W tc rs ms) : GX G pn X W tc (.Compare l ops rs p) (trCmp ops rs ml.v ms) := by
  unfold trCmp
  split
  · rename_i op r r'
    have hr := paired_one hs
    cases hq : isSetE r with
    | true => exact GX.bad
    | false => exact .of o (snd_cmp o.gk o.un hl.v hr.v (behind_of hq)) (snd_cmpT o.gk o.un hl.v hr.v (behind_of hq))
  · rename_i op1 op2 m r m' r'
    cases hs with
    | cons hm hs =>
      have hr := paired_one hs
      cases hq : (isSetE m || isSetE r) with
      | true => exact GX.bad
      | false =>
        rw [Bool.or_eq_false_iff] at hq
        exact .of o (snd_chain o.gk o.un hl.v hm.v hr.v (last_of hq.2)) (snd_chainT o.gk o.un hl.v hm.v hr.v (last_of hq.2))
  · exact GX.bad
mutual
theorem sndX : ∀ (e : Expr) (tc : TC) (X : Cx) (W : WX), Ok G cf X W tc → GX G pn X W tc e (trX cf tc e)
  | .Constant c j p, tc, X, W, o => .ofV o se_const.pe fun _ => rfl
  | .Name x p, tc, X, W, o => snd_name o
  | .BoolOp .And vs p, tc, X, W, o => by
    obtain ⟨a, b⟩ := snd_andA o (pos := p) (sndXs vs tc X W o)
    exact .of o a (pw_pt b)
  | .BoolOp .Or vs p, tc, X, W, o => by
    obtain ⟨a, b⟩ := snd_orA o (pos := p) (sndXs vs tc X W o)
    exact .of o a (pw_pt b)
  | .BinOp a op b p, tc, X, W, o => .ofV o (snd_bin o.gk (sndX a tc X W o).v (sndX b tc X W o).v) fun _ => rfl
  | .UnaryOp op a p, tc, X, W, o => by
    have ha := sndX a tc X W o
    refine .of o (snd_un o.gk ha.v) ?_
    cases op with
    | Not => exact snd_not ha.t
    | _ => exact snd_neg o.gk ha.v (by simp)
  | .IfExp c a b p, tc, X, W, o => .of o (snd_if (sndX c tc X W o).t (sndX a tc X W o).v (sndX b tc X W o).v) (snd_ifT (sndX c tc X W o).t (sndX a tc X W o).t (sndX b tc X W o).t)
  | .Compare l ops rs p, tc, X, W, o => snd_cmps o (sndX l tc X W o) (sndXs rs tc X W o)
  | .Call (.Name x p) es ks pos, tc, X, W, o => by
    show GX G pn X W tc _ (if isGl tc.sc x && noStar es then ⟨trCall cf tc x (trXs cf tc es) es ks (trK cf tc ks), callIt tc x (trCall cf tc x (trXs cf tc es) es ks (trK cf tc ks)) (trXs cf tc es) ks, noTg, enOf x (trXs cf tc es) ks⟩ else .bad)
    have he := sndXs es tc X W o
    have hk := sndK ks tc X W o
    by_cases h : (isGl tc.sc x && noStar es) = true
    · rw [if_pos h]
      rw [Bool.and_eq_true] at h
      have pv := snd_cbn (p := p) (pos := pos) o h.1 h.2 he hk
      refine ⟨pv, pt_v o.gk pv fun _ => rfl, fun tg hok => ?_, fun _ _ => pg_bad, fun f z => ?_⟩
      rotate_left
      · have z : enOf x (trXs cf tc es) ks = some f := z
        unfold enOf at z
        by_cases hx : x = "enumerate"
        · subst hx
          rw [if_pos rfl] at z
          have hn := h.2
          cases ks with
          | cons => cases z
          | nil =>
            generalize trXs cf tc es = ms at z he
            cases he with
            | nil => cases z
            | cons h1 r1 =>
              cases r1 with
              | cons => cases z
              | nil =>
                cases z
                exact ⟨p, _, pos, rfl, h.1, hn, h1.v⟩
        · rw [if_neg hx] at z; cases z
      show PI X tg _ (tI G pn W (callIt tc x _ _ ks))
      unfold callIt
      by_cases hr : x = "range"
      · subst hr
        rw [if_pos rfl]
        cases ks with
        | cons => exact pi_bad
        | nil =>
          have hb := o.blt "range" (by decide)
          have hpa := he.pa h.2
          have hst := star_map (env := X.env) h.2
          generalize trXs cf tc es = ms at he hpa ⊢
          cases he with
          | nil => exact pi_bad
          | cons h1 r1 =>
            cases r1 with
            | nil => exact snd_irange1 (gl_of o h.1) hb hpa hst
            | cons h2 r2 =>
              cases r2 with
              | nil => exact snd_irange2 (gl_of o h.1) hb hpa hst (star_map (noStar_cons h.2).2)
              | cons h3 r3 =>
                cases r3 with
                | nil => exact snd_irange3 (gl_of o h.1) hb hpa (by rw [hst, star_map (noStar_cons h.2).2]; rfl) (by rw [star_map (noStar_cons h.2).2]; rfl)
                | cons => exact pi_bad
      · rw [if_neg hr]
        by_cases hn : x = "enumerate"
        · subst hn
          rw [if_pos rfl]
          cases ks with
          | cons => exact pi_bad
          | nil =>
            have hb := o.blt "enumerate" (by decide)
            have hst := star_map (env := X.env) h.2
            generalize trXs cf tc es = ms at he ⊢
            cases he with
            | nil => exact pi_bad
            | cons h1 r1 =>
              cases r1 with
              | cons => exact pi_bad
              | nil =>
                have ht : isTupE tg = true := hok
                cases tg with
                | Tuple elts kk tpos => exact snd_ienum o.gk (gl_of o h.1) hb h1.v hst
                | _ => exact absurd ht (by simp [isTupE])
        · rw [if_neg hn]
          exact snd_ival o.gk pv
    · rw [if_neg h]; exact GX.bad
  | .Call (.Attribute ob m ap) es ks pos, tc, X, W, o => by
    show GX G pn X W tc _ (if ks.isEmpty && (ap.endLine == pos.line) && noStar es && decide (es.length < 30) && baseOk ob then (match bmOf m with
      | some b => .of (eBM b (trX cf tc ob).v (vals (trXs cf tc es)))
      | none => if tc.mns.contains m then .of (eMth cf tc.mt (tc.fld.length + tc.mns.idxOf m) (trX cf tc ob).v (vals (trXs cf tc es))) else .bad) else .bad)
    have ho := sndX ob tc X W o
    have he := sndXs es tc X W o
    by_cases h : (ks.isEmpty && (ap.endLine == pos.line) && noStar es && decide (es.length < 30) && baseOk ob) = true
    · rw [if_pos h]
      simp only [Bool.and_eq_true, decide_eq_true_eq] at h
      obtain ⟨⟨⟨⟨h0, h1⟩, h2⟩, h3⟩, h4⟩ := h
      cases ks with
      | cons => cases h0
      | nil =>
        cases em : bmOf m with
        | none =>
          show GX G pn X W tc _ (if tc.mns.contains m then .of (eMth cf tc.mt (tc.fld.length + tc.mns.idxOf m) (trX cf tc ob).v (vals (trXs cf tc es))) else .bad)
          by_cases hc : tc.mns.contains m = true
          · rw [if_pos hc]
            have e1 := o.mns m hc
            generalize tc.fld.length + tc.mns.idxOf m = mi at e1 ⊢
            subst e1
            refine .ofV o (snd_meth o.inj (fun c f => o.mt c mi f) o.gd o.tk ho.v (he.pa h2) he.len (base_of h4) ?_ h1 (fun e r z => by subst z; exact star_cons (noStar_cons h2).1) (fun e r z => by subst z; exact back_plain (noStar_cons h2).2)) fun _ => rfl
            rw [back_all h2]
            simpa [backToKw, keywordEach] using h3
          · rw [if_neg hc]; exact GX.bad
        | some b =>
          have hm := bm_name em
          subst hm
          refine .ofV o (snd_bm o.un ho.v (he.pa h2) (base_of h4) ?_ h1 (back_plain h2) (fun e r z => by subst z; exact star_cons (noStar_cons h2).1) he.len) fun _ => rfl
          rw [back_all h2]
          simpa [backToKw, keywordEach] using h3
    · rw [if_neg h]; exact GX.bad
  | .Attribute ob f p, tc, X, W, o => by
    show GX G pn X W tc _ (if tc.fld.contains f && baseOk ob then ⟨eAttr (tc.fld.idxOf f) (trX cf tc ob).v, iVal (eAttr (tc.fld.idxOf f) (trX cf tc ob).v), tAttr (tc.fld.idxOf f) (trX cf tc ob).v, none⟩ else .bad)
    have ho := sndX ob tc X W o
    by_cases h : (tc.fld.contains f && baseOk ob) = true
    · rw [if_pos h]
      simp only [Bool.and_eq_true] at h
      obtain ⟨fo, e1⟩ := o.fld f h.1
      generalize tc.fld.idxOf f = fi at fo e1 ⊢
      subst e1
      have pv := snd_attr fo (pos := p) ho.v (base_of h.2)
      exact ⟨pv, pt_v o.gk pv fun _ => rfl, fun _ _ => snd_ival o.gk pv, fun vs _ => snd_gattr fo ho.v, fun f z => by cases z⟩
    · rw [if_neg h]; exact GX.bad
  | .Subscript v (.Slice lo hi none p2) pos, tc, X, W, o => .ofV o (snd_slice o.gk (sndX v tc X W o).v (go_po (sndO lo tc X W o)) (go_po (sndO hi tc X W o))) fun _ => rfl
  | .Subscript v i pos, tc, X, W, o => by
    have hv := sndX v tc X W o
    have hi := sndX i tc X W o
    have main : GX G pn X W tc (.Subscript v i pos) (if isSl i then .bad else ⟨eItem (trX cf tc v).v (trX cf tc i).v, iVal (eItem (trX cf tc v).v (trX cf tc i).v), tItem (trX cf tc v).v (trX cf tc i).v, none⟩) := by
      cases hs : isSl i with
      | true => exact GX.bad
      | false =>
        have pv : PE X (.Subscript v i pos) (tE G pn W (eItem (trX cf tc v).v (trX cf tc i).v)) := snd_item o.gk o.un hv.v hi.v (isl_ix hs)
        exact ⟨pv, pt_v o.gk pv fun _ => rfl, fun tg _ => snd_ival o.gk pv, fun vs _ => snd_gitem o.gk o.un hv.v hi.v (isl_asg hs), fun f z => by cases z⟩
    cases i with
    | Slice lo hh st p2 =>
      have hst := sndO st tc X W o
      cases st with
      | none => exact .ofV o (snd_slice o.gk hv.v (go_po (sndO lo tc X W o)) (go_po (sndO hh tc X W o))) fun _ => rfl
      | some st =>
        cases lo with
        | some => exact main
        | none =>
          cases hh with
          | some => exact main
          | none => exact .ofV o (snd_rev o.gk hv.v hst) fun _ => rfl
    | _ => exact main
  | .Tuple es k pos, tc, X, W, o => by
    show GX G pn X W tc _ (if noStar es && decide (es.length ≤ 1000) then ⟨eTup (vals (trXs cf tc es)), iVal (eTup (vals (trXs cf tc es))), tTup ((trXs cf tc es).map (·.tg)), none⟩ else .bad)
    have he := sndXs es tc X W o
    by_cases h : (noStar es && decide (es.length ≤ 1000)) = true
    · rw [if_pos h]
      rw [Bool.and_eq_true, decide_eq_true_eq] at h
      have hl : (vals (trXs cf tc es)).length ≤ lim := by
        rw [← he.len]
        have : lim = 1000000 := rfl
        omega
      have pv : PE X (.Tuple es k pos) (tE G pn W (eTup (vals (trXs cf tc es)))) := snd_tup hl (he.pa h.1)
      refine ⟨pv, pt_v o.gk pv fun _ => rfl, fun tg _ => snd_ival o.gk pv, fun vs hvs => ?_, fun f z => by cases z⟩
      refine snd_gtup o.gk o.calm (GXs.pg hvs he h.1) (by rw [List.length_map]; exact (Paired.length he).symm) (by rw [asg_len h.1, List.length_map]) ?_
      rw [asg_len h.1]
      rw [List.findIdx?_map]
      simp
    · rw [if_neg h]; exact GX.bad
  | .List es pos, tc, X, W, o => by
    show GX G pn X W tc _ (if noStar es && decide (es.length ≤ 1000) then .of (eLst (vals (trXs cf tc es))) else .bad)
    have he := sndXs es tc X W o
    by_cases h : (noStar es && decide (es.length ≤ 1000)) = true
    · rw [if_pos h]
      rw [Bool.and_eq_true, decide_eq_true_eq] at h
      have hl : (vals (trXs cf tc es)).length ≤ lim := by
        rw [← he.len]
        have : lim = 1000000 := rfl
        omega
      exact .ofV o (snd_lst hl (he.pa h.1)) fun _ => rfl
    · rw [if_neg h]; exact GX.bad
  | .Dict ks vs pos, tc, X, W, o => by
    show GX G pn X W tc _ (if decide (ks.length ≤ 15) then (match zipD (trOs cf tc ks) (vals (trXs cf tc vs)) with
      | some ps => .of (eDic ps)
      | none => .bad) else .bad)
    have hk := sndOs ks tc X W o
    have hv := sndXs vs tc X W o
    by_cases h : ks.length ≤ 15
    · rw [if_pos (by simpa using h)]
      cases ez : zipD (trOs cf tc ks) (vals (trXs cf tc vs)) with
      | none => exact GX.bad
      | some ps =>
        obtain ⟨i1, i2, i3, i4⟩ := zip_pps (pos := pos) hk hv ez
        cases ks with
        | nil =>
          have e1 : vs = [] := List.length_eq_zero_iff.mp i3.symm
          have e2 : ps = [] := List.length_eq_zero_iff.mp i4.symm
          subst e1 e2
          exact .ofV o snd_dict0 fun _ => rfl
        | cons k kr => exact .ofV o (snd_dict o.un i1 i2 i3 (by simp) h) fun _ => rfl
    · rw [if_neg (by simpa using h)]; exact GX.bad
  | .ListComp elt [⟨tg, it, ifs, a⟩] scope pos, tc, X, W, o => by
    show GX G pn X W tc _ (if decide (a = 0) && L2.blkC tc.N tc.sc scope (ownP tc.N scope) && !isSetE it && okTg tg it then
      trLc (trX cf tc it).it ((ownP tc.N scope).map (·.2)) (trX cf (blkTC tc scope) tg).tg (trXs cf (blkTC tc scope) ifs) (trX cf (blkTC tc scope) elt).v else .bad)
    have hit := sndX it tc X W o
    have htg := fun Y V oo => sndX tg (blkTC tc scope) Y V oo
    have helt := fun Y V oo => sndX elt (blkTC tc scope) Y V oo
    have hifs := fun Y V oo => sndXs ifs (blkTC tc scope) Y V oo
    by_cases h : (decide (a = 0) && L2.blkC tc.N tc.sc scope (ownP tc.N scope) && !isSetE it && okTg tg it) = true
    · rw [if_pos h]
      simp only [Bool.and_eq_true, Bool.not_eq_true', decide_eq_true_eq] at h
      obtain ⟨⟨⟨rfl, h1⟩, h2⟩, h3⟩ := h
      have bo : BlkOk X.N X.env.scope scope (ownP tc.N scope) := by
        rw [← o.nN, ← o.sc]
        exact blkOk_by h1
      have htg' := fun s H C cl fp => (htg _ _ (o.blk h1 s H C cl fp)).tg _ fun x hx hN => own_mem (tc := tc) hx hN
      have helt' := fun s H C cl fp => (helt _ _ (o.blk h1 s H C cl fp)).v
      have hifs' := fun s H C cl fp => hifs _ _ (o.blk h1 s H C cl fp)
      have hle : (trXs cf (blkTC tc scope) ifs).length = ifs.length := trXs_len ifs _
      generalize trXs cf (blkTC tc scope) ifs = ms at hifs' hle ⊢
      match ifs, ms, hifs' with
      | [], [], hifs' => exact .ofV o (snd_lc o.calm o.nd (hit.it tg h3) bo htg' (fun s H C cl fp => pts_yes) helt' (set_iter h2)).1 fun _ => rfl
      | [c], [m], hifs' => exact .ofV o (snd_lc o.calm o.nd (hit.it tg h3) bo htg' (fun s H C cl fp => pts_one (paired_one (hifs' s H C cl fp)).t) helt' (set_iter h2)).1 fun _ => rfl
      | [], m :: r, hifs' => cases hle
      | c :: r, [], hifs' => cases hle
      | [c], m :: m2 :: r, hifs' => exact GX.bad
      | c :: c2 :: r, [m], hifs' => cases hle
      | c :: c2 :: r, m :: m2 :: r2, hifs' => exact GX.bad
    · rw [if_neg h]; exact GX.bad
  | .DictComp kx elt [⟨tg, it, ifs, a⟩] scope pos, tc, X, W, o => by
    show GX G pn X W tc _ (if decide (a = 0) && L2.blkC tc.N tc.sc scope (ownP tc.N scope) && !isSetE it && okTg tg it then
      trDc (trX cf tc it).it ((ownP tc.N scope).map (·.2)) (trX cf (blkTC tc scope) tg).tg (trXs cf (blkTC tc scope) ifs) (trX cf (blkTC tc scope) kx).v (trX cf (blkTC tc scope) elt).v else .bad)
    have hit := sndX it tc X W o
    have htg := fun Y V oo => sndX tg (blkTC tc scope) Y V oo
    have helt := fun Y V oo => sndX elt (blkTC tc scope) Y V oo
    have hkx := fun Y V oo => sndX kx (blkTC tc scope) Y V oo
    have hifs := fun Y V oo => sndXs ifs (blkTC tc scope) Y V oo
    by_cases h : (decide (a = 0) && L2.blkC tc.N tc.sc scope (ownP tc.N scope) && !isSetE it && okTg tg it) = true
    · rw [if_pos h]
      simp only [Bool.and_eq_true, Bool.not_eq_true', decide_eq_true_eq] at h
      obtain ⟨⟨⟨rfl, h1⟩, h2⟩, h3⟩ := h
      have bo : BlkOk X.N X.env.scope scope (ownP tc.N scope) := by
        rw [← o.nN, ← o.sc]
        exact blkOk_by h1
      have htg' := fun s H C cl fp => (htg _ _ (o.blk h1 s H C cl fp)).tg _ fun x hx hN => own_mem (tc := tc) hx hN
      have helt' := fun s H C cl fp => (helt _ _ (o.blk h1 s H C cl fp)).v
      have hkx' := fun s H C cl fp => (hkx _ _ (o.blk h1 s H C cl fp)).v
      have hifs' := fun s H C cl fp => hifs _ _ (o.blk h1 s H C cl fp)
      have hle : (trXs cf (blkTC tc scope) ifs).length = ifs.length := trXs_len ifs _
      generalize trXs cf (blkTC tc scope) ifs = ms at hifs' hle ⊢
      match ifs, ms, hifs' with
      | [], [], hifs' => exact .ofV o (snd_dc o.calm o.nd (hit.it tg h3) bo htg' (fun s H C cl fp => pts_yes) hkx' helt' (set_iter h2)) fun _ => rfl
      | [c], [m], hifs' => exact .ofV o (snd_dc o.calm o.nd (hit.it tg h3) bo htg' (fun s H C cl fp => pts_one (paired_one (hifs' s H C cl fp)).t) hkx' helt' (set_iter h2)) fun _ => rfl
      | [], m :: r, hifs' => cases hle
      | c :: r, [], hifs' => cases hle
      | [c], m :: m2 :: r, hifs' => exact GX.bad
      | c :: c2 :: r, [m], hifs' => cases hle
      | c :: c2 :: r, m :: m2 :: r2, hifs' => exact GX.bad
    · rw [if_neg h]; exact GX.bad
  | .ListComp elt [] scope pos, tc, X, W, o => GX.bad
  | .ListComp elt (⟨_, _, _, _⟩ :: g2 :: gr) scope pos, tc, X, W, o => GX.bad
  | .Call (.BoolOp ..) es ks pos, tc, X, W, o => GX.bad
  | .Call (.NamedExpr ..) es ks pos, tc, X, W, o => GX.bad
  | .Call (.BinOp ..) es ks pos, tc, X, W, o => GX.bad
  | .Call (.UnaryOp ..) es ks pos, tc, X, W, o => GX.bad
  | .Call (.Lambda ..) es ks pos, tc, X, W, o => GX.bad
  | .Call (.IfExp ..) es ks pos, tc, X, W, o => GX.bad
  | .Call (.Dict ..) es ks pos, tc, X, W, o => GX.bad
  | .Call (.Set ..) es ks pos, tc, X, W, o => GX.bad
  | .Call (.ListComp ..) es ks pos, tc, X, W, o => GX.bad
  | .Call (.SetComp ..) es ks pos, tc, X, W, o => GX.bad
  | .Call (.DictComp ..) es ks pos, tc, X, W, o => GX.bad
  | .Call (.GeneratorExp ..) es ks pos, tc, X, W, o => GX.bad
  | .Call (.Await ..) es ks pos, tc, X, W, o => GX.bad
  | .Call (.Yield ..) es ks pos, tc, X, W, o => GX.bad
  | .Call (.YieldFrom ..) es ks pos, tc, X, W, o => GX.bad
  | .Call (.Compare ..) es ks pos, tc, X, W, o => GX.bad
  | .Call (.Call ..) es ks pos, tc, X, W, o => GX.bad
  | .Call (.FormattedValue ..) es ks pos, tc, X, W, o => GX.bad
  | .Call (.JoinedStr ..) es ks pos, tc, X, W, o => GX.bad
  | .Call (.Constant ..) es ks pos, tc, X, W, o => GX.bad
  | .Call (.Subscript ..) es ks pos, tc, X, W, o => GX.bad
  | .Call (.Starred ..) es ks pos, tc, X, W, o => GX.bad
  | .Call (.List ..) es ks pos, tc, X, W, o => GX.bad
  | .Call (.Tuple ..) es ks pos, tc, X, W, o => GX.bad
  | .Call (.Slice ..) es ks pos, tc, X, W, o => GX.bad
  | .NamedExpr .., tc, X, W, o => GX.bad
  | .Lambda .., tc, X, W, o => GX.bad
  | .Set .., tc, X, W, o => GX.bad
  | .SetComp .., tc, X, W, o => GX.bad
  | .DictComp _ _ [] _ _, tc, X, W, o => GX.bad
  | .DictComp _ _ (⟨_, _, _, _⟩ :: g2 :: gr) _ _, tc, X, W, o => GX.bad
  | .GeneratorExp .., tc, X, W, o => GX.bad
  | .Await .., tc, X, W, o => GX.bad
  | .Yield .., tc, X, W, o => GX.bad
  | .YieldFrom .., tc, X, W, o => GX.bad
  | .FormattedValue .., tc, X, W, o => GX.bad
  | .JoinedStr .., tc, X, W, o => GX.bad
  | .Starred .., tc, X, W, o => GX.bad
  | .Slice .., tc, X, W, o => GX.bad
theorem sndXs : ∀ (es : List Expr) (tc : TC) (X : Cx) (W : WX), Ok G cf X W tc → GXs G pn X W tc es (trXs cf tc es)
  | [], _, _, _, _ => .nil
  | e :: r, tc, X, W, o => .cons (sndX e tc X W o) (sndXs r tc X W o)
theorem sndK : ∀ (ks : List Keyword) (tc : TC) (X : Cx) (W : WX), Ok G cf X W tc → Paired (fun (k : Option Str × Expr) m => PE X k.2 (tE G pn W m)) (ks.map fun k => (k.1, k.2)) (vals (trK cf tc ks))
  | [], _, _, _, _ => .nil
  | ⟨n, e, p⟩ :: r, tc, X, W, o => .cons (sndX e tc X W o).v (sndK r tc X W o)
theorem sndO : ∀ (e : Option Expr) (tc : TC) (X : Cx) (W : WX), Ok G cf X W tc → GOs G pn X W e (trO cf tc e)
  | none, _, _, _, _ => trivial
  | some e, tc, X, W, o => (sndX e tc X W o).v
theorem sndOs : ∀ (es : List (Option Expr)) (tc : TC) (X : Cx) (W : WX), Ok G cf X W tc → Paired (GOs G pn X W) es (trOs cf tc es)
  | [], _, _, _, _ => .nil
  | e :: r, tc, X, W, o => .cons (sndO e tc X W o) (sndOs r tc X W o)
end
end
end Ev

set_option maxRecDepth 100000
set_option maxHeartbeats 2000000
/-! soundness of the translator: statements -/
namespace Ev
open PySem PySem.Spec PyProof.Rows L2
section
variable {G : Gd} {pn : List (Addr × Obj)} {cf : CF} {X : Cx} {W : WX} {tc : TC}
theorem sw_no {e : Expr} {t : Option Expr} {n : Nat} {env : PySem.Env} (h : isComp e = false) : swapsWith e t n env = pure false := by
  cases e <;> first | rfl | exact absurd h (by simp [isComp])
theorem sole_no {tg e : Expr} {n : Nat} {env : PySem.Env} (h : isComp e = false) : swapsWithSole [tg] e n env = pure false := sw_no h
theorem lc_of (o : Ok G cf X W tc) {x : Str} (h : isLc tc.sc x = true) : X.env.scope.names.lookup x = some .local := by
  unfold isLc at h
  rw [o.sc] at h
  split at h
  · assumption
  · cases h
theorem loc_lc {x : Str} (h : isLc tc.sc x = true) : isLoc tc x = true := by
  unfold isLc at h
  unfold isLoc
  split at h
  · rename_i e; rw [e]
  · cases h
theorem plain_sw {tg e : Expr} {env : PySem.Env} (h : plainStore tg e = true) : swappedStores [tg] e env = pure none := by
  cases tg <;> cases e <;> first | rfl | exact absurd h (by simp [plainStore])
theorem vis_lc {sc : Scope} {x : Str} (h : isLc sc x = true) : isVis sc x = true := by
  unfold isLc at h
  unfold isVis
  split at h
  · rename_i e; rw [e]
  · cases h
theorem all_in (o : Ok G cf X W tc) : ∀ x, isLoc tc x = true → tc.N.contains x = true → tc.N.idxOf x ∈ List.range tc.N.length := fun x _ h => List.mem_range.mpr (List.idxOf_lt_length_of_mem (by simpa using h))
theorem ix_ne {N : List Str} {x y : Str} (hx : N.contains x = true) (hy : N.contains y = true) (h : x ≠ y) : N.idxOf x ≠ N.idxOf y := fun e => h (by
  have hx' : x ∈ N := by simpa using hx
  have hy' : y ∈ N := by simpa using hy
  have h1 := List.getElem_idxOf (List.idxOf_lt_length_of_mem hx')
  have h2 := List.getElem_idxOf (List.idxOf_lt_length_of_mem hy')
  rw [← h1, ← h2]
  congr 1)
theorem trX_name {x : Str} {p : Pos} (hN : tc.N.contains x = true) (hl : isLc tc.sc x = true) : (trX cf tc (.Name x p)).tg = tName (tc.N.idxOf x) := by
  show (if tc.N.contains x && isVis tc.sc x then (⟨eVar (tc.N.idxOf x), iVal (eVar (tc.N.idxOf x)), if isLoc tc x then tName (tc.N.idxOf x) else noTg, none⟩ : Mn)
    else .of (if isGl tc.sc x then (match tc.con.lookup x with
      | some d => eConst d
      | none => eBad) else eBad)).tg = _
  rw [if_pos (by rw [hN, vis_lc hl]; rfl)]
  show (if isLoc tc x then tName (tc.N.idxOf x) else noTg) = _
  rw [if_pos (loc_lc hl)]
theorem fc_ok : ∀ (e : Expr) (n : Nat), foldedForSure n e = true → constantsAlone n e = true := by
  intro e n
  induction n generalizing e with
  | zero =>
    intro h
    cases e with
    | Constant => rfl
    | UnaryOp op a p => rfl
    | Tuple es k p => rfl
    | _ => cases h
  | succ n ih =>
    intro h
    cases e with
    | Constant => rfl
    | UnaryOp op a p =>
      cases a with
      | Constant c j p => cases n <;> rfl
      | _ => cases h
    | Tuple es k p =>
      have h : es.all (foldedForSure n) = true := h
      show es.all (constantsAlone n) = true
      rw [List.all_eq_true] at h ⊢
      exact fun e he => ih e (h e he)
    | _ => cases h
theorem folded_const {n : Nat} {vs : List Expr} (h : vs.all (constantsAlone n) = false) : vs.all (foldedForSure n) = false := by
  rw [List.all_eq_false] at h ⊢
  obtain ⟨e, he, h⟩ := h
  exact ⟨e, he, fun z => h (fc_ok e n z)⟩
theorem fm_lt {A B : Type} {f : A → Option B} : ∀ {l : List A}, l.any (fun a => (f a).isNone) = true → (l.filterMap f).length < l.length
  | a :: r, h => by
    have le := List.length_filterMap_le f r
    rw [List.filterMap_cons]
    cases e : f a with
    | none =>
      show (r.filterMap f).length < r.length + 1
      omega
    | some b =>
      rw [List.any_cons, e] at h
      have := fm_lt (l := r) (by simpa using h)
      show (r.filterMap f).length + 1 < r.length + 1
      omega
theorem sw_nl (o : Ok G cf X W tc) {ts vs : List Expr} {k k2 : Nat} {p p2 : Pos} (h : ts.any (noLc tc) = true) : swappedStores [.Tuple ts k p] (.Tuple vs k2 p2) X.env = pure none := by
  unfold swappedStores
  simp only [bind, pure_bind]
  split
  · rfl
  · split
    · rfl
    · split
      · rfl
      · rename_i h3
        exfalso
        apply h3
        have lt : (ts.filterMap fun
            | .Name id pos => if X.env.kindOf id == some .local && pos.line == (ts.head?.map (·.pos.line)).getD 0 then some id else none
            | _ => none).length < ts.length := by
          refine fm_lt ?_
          obtain ⟨t, ht, hn⟩ := List.any_eq_true.mp h
          refine List.any_eq_true.mpr ⟨t, ht, ?_⟩
          cases t with
          | Name x q =>
            have hx : isLc tc.sc x = false := by simpa [noLc] using hn
            have kx : (X.env.kindOf x == some .local) = false := by
              cases e : (X.env.kindOf x == some NameKind.local) with
              | false => rfl
              | true =>
                have e' : X.env.scope.names.lookup x = some .local := eq_of_beq e
                unfold isLc at hx
                rw [o.sc, e'] at hx
                cases hx
            dsimp only
            rw [kx]; rfl
          | _ => rfl
        have ne : (ts.filterMap fun
            | .Name id pos => if X.env.kindOf id == some .local && pos.line == (ts.head?.map (·.pos.line)).getD 0 then some id else none
            | _ => none).length ≠ ts.length := Nat.ne_of_lt lt
        simp only [Bool.or_eq_true, bne_iff_ne]
        exact .inl ne
theorem snd_trAsg (o : Ok G cf X W tc) {tg e : Expr} {pos : Pos} (hg : GX G pn X W tc tg (trX cf tc tg)) (he : GX G pn X W tc e (trX cf tc e))
    (hes : ∀ es k p, e = .Tuple es k p → GXs G pn X W tc es (trXs cf tc es))
    (hlc : ∀ x p elt gens scope p2, tg = .Name x p → e = .ListComp elt gens scope p2 → isLc tc.sc x = true → tc.N.contains x = true → PS X (.Assign [tg] e pos) (tS G pn W (sAsg (trX cf tc tg).tg (trX cf tc e).v))) :
    PS X (.Assign [tg] e pos) (tS G pn W (trAsg cf tc tg e)) := by
  have gen : PS X (.Assign [tg] e pos) (tS G pn W (if plainStore tg e && !isComp e && !isStar tg then sAsg (trX cf tc tg).tg (trX cf tc e).v else sBad)) := by
    by_cases h : (plainStore tg e && !isComp e && !isStar tg) = true
    · rw [if_pos h]
      simp only [Bool.and_eq_true, Bool.not_eq_true'] at h
      obtain ⟨⟨h1, h2⟩, h3⟩ := h
      exact snd_asg he.v (hg.tg _ (all_in o)) (sole_no h2) (plain_sw h1) (by rw [asg_cons h3]; rfl)
    · rw [if_neg h]; exact ps_bad
  unfold trAsg
  split
  · rename_i ts k p vs k2 p2
    split
    · rename_i hs
      replace hes := hes vs k2 p2 rfl
      unfold swaps at hs
      split at hs
      · rename_i x px y py a b
        split at hs
        · rename_i hc
          simp only [Bool.and_eq_true, decide_eq_true_eq] at hc
          obtain ⟨⟨⟨⟨⟨c1, c2⟩, c3⟩, c4⟩, c5⟩, c6⟩ := hc
          cases hk : [a, b].all (constantsAlone 8) with
          | true => rw [hk] at hs; cases hs
          | false =>
            show PS X _ (tS G pn W (sAsg (trX cf tc (.Tuple [.Name x px, .Name y py] k p)).tg (trX cf tc (.Tuple [a, b] k2 p2)).v))
            have e1 : (trX cf tc (.Tuple [.Name x px, .Name y py] k p)).tg = tTup [tName (tc.N.idxOf x), tName (tc.N.idxOf y)] := by
              show tTup [(trX cf tc (.Name x px)).tg, (trX cf tc (.Name y py)).tg] = _
              rw [trX_name c4 c1, trX_name c5 c2]
            by_cases hst : noStar [a, b] = true
            · have e2 : (trX cf tc (.Tuple [a, b] k2 p2)).v = eTup (vals (trXs cf tc [a, b])) := by
                show (if noStar [a, b] && decide ([a, b].length ≤ 1000) then (⟨eTup (vals (trXs cf tc [a, b])), iVal (eTup (vals (trXs cf tc [a, b]))), tTup ((trXs cf tc [a, b]).map (·.tg)), none⟩ : Mn) else .bad).v = _
                rw [if_pos (by rw [hst]; rfl)]
              rw [e1, e2]
              have kx := lc_of o c1
              have ky := lc_of o c2
              refine snd_par2 o.calm o.nd (ix_of o c4).1 (ix_of o c5).1 (ix_ne c4 c5 c6) kx ky (hes.pa hst) ?_ (sole_no rfl)
              exact sw2 o.blkK kx ky (eq_of_beq c3) c6 hk hst
            · have e2 : (trX cf tc (.Tuple [a, b] k2 p2)).v = eBad := by
                show (if noStar [a, b] && decide ([a, b].length ≤ 1000) then (⟨eTup (vals (trXs cf tc [a, b])), iVal (eTup (vals (trXs cf tc [a, b]))), tTup ((trXs cf tc [a, b]).map (·.tg)), none⟩ : Mn) else .bad).v = _
                rw [if_neg (by simp [hst])]; rfl
              rw [e2]
              exact ⟨fun _ _ _ _ _ _ ⟨_, _, _, _, _, p⟩ => p.elim⟩
        · split at hs <;> cases hs
      · rename_i x px y py z pz a b c
        split at hs
        · rename_i hc
          simp only [Bool.and_eq_true, decide_eq_true_eq] at hc
          obtain ⟨⟨⟨⟨⟨⟨⟨⟨⟨⟨c1, c2⟩, c3⟩, c4⟩, c5⟩, c6⟩, c7⟩, c8⟩, c9⟩, c10⟩, c11⟩ := hc
          cases hk : [a, b, c].all (constantsAlone 8) with
          | true => rw [hk] at hs; cases hs
          | false =>
            show PS X _ (tS G pn W (sAsg (trX cf tc (.Tuple [.Name x px, .Name y py, .Name z pz] k p)).tg (trX cf tc (.Tuple [a, b, c] k2 p2)).v))
            have e1 : (trX cf tc (.Tuple [.Name x px, .Name y py, .Name z pz] k p)).tg = tTup [tName (tc.N.idxOf x), tName (tc.N.idxOf y), tName (tc.N.idxOf z)] := by
              show tTup [(trX cf tc (.Name x px)).tg, (trX cf tc (.Name y py)).tg, (trX cf tc (.Name z pz)).tg] = _
              rw [trX_name c6 c1, trX_name c7 c2, trX_name c8 c3]
            by_cases hst : noStar [a, b, c] = true
            · have e2 : (trX cf tc (.Tuple [a, b, c] k2 p2)).v = eTup (vals (trXs cf tc [a, b, c])) := by
                show (if noStar [a, b, c] && decide ([a, b, c].length ≤ 1000) then (⟨eTup (vals (trXs cf tc [a, b, c])), iVal (eTup (vals (trXs cf tc [a, b, c]))), tTup ((trXs cf tc [a, b, c]).map (·.tg)), none⟩ : Mn) else .bad).v = _
                rw [if_pos (by rw [hst]; rfl)]
              rw [e1, e2]
              have kx := lc_of o c1
              have ky := lc_of o c2
              have kz := lc_of o c3
              refine snd_par3 o.calm o.nd (ix_of o c6).1 (ix_of o c7).1 (ix_of o c8).1 (ix_ne c6 c7 c9) (ix_ne c6 c8 c10) (ix_ne c7 c8 c11) kx ky kz (hes.pa hst) ?_ (sole_no rfl)
              exact sw3 o.blkK kx ky kz (eq_of_beq c4) (eq_of_beq c5) c9 c10 c11 hk hst
            · have e2 : (trX cf tc (.Tuple [a, b, c] k2 p2)).v = eBad := by
                show (if noStar [a, b, c] && decide ([a, b, c].length ≤ 1000) then (⟨eTup (vals (trXs cf tc [a, b, c])), iVal (eTup (vals (trXs cf tc [a, b, c]))), tTup ((trXs cf tc [a, b, c]).map (·.tg)), none⟩ : Mn) else .bad).v = _
                rw [if_neg (by simp [hst])]; rfl
              rw [e2]
              exact ⟨fun _ _ _ _ _ _ ⟨_, _, _, _, _, p⟩ => p.elim⟩
        · split at hs <;> cases hs
      · cases hs
    · split
      · rename_i hn
        exact snd_asg he.v (hg.tg _ (all_in o)) (sole_no rfl) (sw_nl o hn) rfl
      · exact ps_bad
  · rename_i x p elt gens scope p2
    by_cases h : (isLc tc.sc x && tc.N.contains x) = true
    · rw [if_pos h]
      rw [Bool.and_eq_true] at h
      exact hlc x p elt gens scope p2 rfl rfl h.1 h.2
    · rw [if_neg h]; exact ps_bad
  · exact gen
where
  sw2 {env : PySem.Env} {x y : Str} {px py p p2 : Pos} {k k2 : Nat} {a b : Expr} (hb : env.blockKind = .function) (hx : env.scope.names.lookup x = some .local) (hy : env.scope.names.lookup y = some .local) (hl : px.line = py.line) (hxy : x ≠ y) (hk : [a, b].all (constantsAlone 8) = false) (hst : noStar [a, b] = true) :
      swappedStores [.Tuple [.Name x px, .Name y py] k p] (.Tuple [a, b] k2 p2) env = pure (some [x, y]) := by
    have kx : env.kindOf x = some .local := hx
    have ky : env.kindOf y = some .local := hy
    have hf := folded_const hk
    have n1 : (y == x) = false := by simpa using (Ne.symm hxy)
    have st : ∀ e ∈ [a, b], isStar e = false := fun e he => by simpa using List.all_eq_true.mp hst e he
    simp only [swappedStores, hb, hf, hk]
    refine (if_neg (by simp)).trans ((if_neg fun q => ?_).trans ((if_neg ?_).trans ((if_neg (by simp)).trans ((if_neg (by simp)).trans ?_))))
    · obtain ⟨e, he, q⟩ := List.any_eq_true.mp q
      have := st e he
      clear hb hx hy hk hf st he
      cases e <;> simp_all [isStar]
    · simp [List.filterMap_cons, kx, ky, ← hl, Expr.pos, List.eraseDups_cons, List.filter_cons, n1]
    · simp [List.filterMap_cons, kx, ky, ← hl, Expr.pos]
  sw3 {env : PySem.Env} {x y z : Str} {px py pz p p2 : Pos} {k k2 : Nat} {a b c : Expr} (hb : env.blockKind = .function) (hx : env.scope.names.lookup x = some .local) (hy : env.scope.names.lookup y = some .local) (hz : env.scope.names.lookup z = some .local) (hl : px.line = py.line) (hl2 : px.line = pz.line) (hxy : x ≠ y) (hxz : x ≠ z) (hyz : y ≠ z) (hk : [a, b, c].all (constantsAlone 8) = false) (hst : noStar [a, b, c] = true) :
      swappedStores [.Tuple [.Name x px, .Name y py, .Name z pz] k p] (.Tuple [a, b, c] k2 p2) env = pure (some [x, y, z]) := by
    have kx : env.kindOf x = some .local := hx
    have ky : env.kindOf y = some .local := hy
    have kz : env.kindOf z = some .local := hz
    have hf := folded_const hk
    have n1 : (y == x) = false := by simpa using (Ne.symm hxy)
    have n2 : (z == x) = false := by simpa using (Ne.symm hxz)
    have n3 : (z == y) = false := by simpa using (Ne.symm hyz)
    have st : ∀ e ∈ [a, b, c], isStar e = false := fun e he => by simpa using List.all_eq_true.mp hst e he
    simp only [swappedStores, hb, hf, hk]
    refine (if_neg (by simp)).trans ((if_neg fun q => ?_).trans ((if_neg ?_).trans ((if_neg (by simp)).trans ((if_neg (by simp)).trans ?_))))
    · obtain ⟨e, he, q⟩ := List.any_eq_true.mp q
      have := st e he
      clear hb hx hy hk hf st he
      cases e <;> simp_all [isStar]
    · simp [List.filterMap_cons, kx, ky, kz, ← hl, ← hl2, Expr.pos, List.eraseDups_cons, List.filter_cons, n1, n2, n3]
    · simp [List.filterMap_cons, kx, ky, kz, ← hl, ← hl2, Expr.pos]
end
end Ev

set_option maxRecDepth 100000
set_option maxHeartbeats 2000000
/-! soundness of the translator: statements, defs -/
namespace Ev
open PySem PySem.Spec PyProof.Rows L2
section
variable {G : Gd} {pn : List (Addr × Obj)} {cf : CF}
theorem sAsg_bad {X : Cx} {W : WX} {st : Stmt} {t : Tg} : PS X st (tS G pn W (sAsg t eBad)) := ⟨fun _ _ _ _ _ _ ⟨_, _, _, _, _, p⟩ => p.elim⟩
theorem snd_asgC {X : Cx} {W : WX} {tc : TC} (o : Ok G cf X W tc) {x : Str} {p p2 pos : Pos} {elt : Expr} {gens : List Comprehension} {scope : Scope} (hx : isLc tc.sc x = true) (hN : tc.N.contains x = true) :
    PS X (.Assign [.Name x p] (.ListComp elt gens scope p2) pos) (tS G pn W (sAsg (trX cf tc (.Name x p)).tg (trX cf tc (.ListComp elt gens scope p2)).v)) := by
  have hv : GX G pn X W tc (.ListComp elt gens scope p2) (trX cf tc (.ListComp elt gens scope p2)) := sndX _ tc X W o
  have hg : GX G pn X W tc (.Name x p) (trX cf tc (.Name x p)) := sndX _ tc X W o
  obtain ⟨b, hb⟩ : ∃ b : Bool, swapsWith (.ListComp elt gens scope p2) (some (.Name x p)) pos.line X.env = pure b := ⟨_, rfl⟩
  cases b with
  | false => exact snd_asg hv.v (hg.tg _ (all_in o)) hb rfl rfl
  | true =>
    match gens, hb with
    | [], _ => exact sAsg_bad
    | ⟨_, _, _, _⟩ :: g2 :: gr, _ => exact sAsg_bad
    | [⟨tg, it, ifs, a⟩], hb =>
      have hit : GX G pn X W tc it (trX cf tc it) := sndX it tc X W o
      have htg := fun Y V oo => sndX (G := G) (pn := pn) (cf := cf) tg (blkTC tc scope) Y V oo
      have helt := fun Y V oo => sndX (G := G) (pn := pn) (cf := cf) elt (blkTC tc scope) Y V oo
      have hifs := fun Y V oo => sndXs (G := G) (pn := pn) (cf := cf) ifs (blkTC tc scope) Y V oo
      show PS X _ (tS G pn W (sAsg (trX cf tc (.Name x p)).tg (if decide (a = 0) && L2.blkC tc.N tc.sc scope (ownP tc.N scope) && !isSetE it && okTg tg it then
        trLc (trX cf tc it).it ((ownP tc.N scope).map (·.2)) (trX cf (blkTC tc scope) tg).tg (trXs cf (blkTC tc scope) ifs) (trX cf (blkTC tc scope) elt).v else .bad).v))
      by_cases h : (decide (a = 0) && L2.blkC tc.N tc.sc scope (ownP tc.N scope) && !isSetE it && okTg tg it) = true
      · rw [if_pos h]
        simp only [Bool.and_eq_true, Bool.not_eq_true', decide_eq_true_eq] at h
        obtain ⟨⟨⟨rfl, h1⟩, h2⟩, h3⟩ := h
        have bo : BlkOk X.N X.env.scope scope (ownP tc.N scope) := by
          rw [← o.nN, ← o.sc]
          exact blkOk_by h1
        have htg' := fun s H C cl fp => (htg _ _ (o.blk h1 s H C cl fp)).tg _ fun x hx hN => own_mem (tc := tc) hx hN
        have helt' := fun s H C cl fp => (helt _ _ (o.blk h1 s H C cl fp)).v
        have hifs' := fun s H C cl fp => hifs _ _ (o.blk h1 s H C cl fp)
        have hle : (trXs cf (blkTC tc scope) ifs).length = ifs.length := trXs_len ifs _
        rw [trX_name hN hx]
        have kx := lc_of o hx
        generalize trXs cf (blkTC tc scope) ifs = ms at hifs' hle ⊢
        match ifs, ms, hifs', hb with
        | [], [], hifs', hb => exact snd_asgLc o.calm o.nd (ix_of o hN).1 kx hb (hit.it tg h3) bo htg' (fun s H C cl fp => pts_yes) helt' (set_iter h2)
        | [c], [m], hifs', hb => exact snd_asgLc o.calm o.nd (ix_of o hN).1 kx hb (hit.it tg h3) bo htg' (fun s H C cl fp => pts_one (paired_one (hifs' s H C cl fp)).t) helt' (set_iter h2)
        | [], m :: r, hifs', hb => cases hle
        | c :: r, [], hifs', hb => cases hle
        | [c], m :: m2 :: r, hifs', hb => exact sAsg_bad
        | c :: c2 :: r, [m], hifs', hb => cases hle
        | c :: c2 :: r, m :: m2 :: r2, hifs', hb => exact sAsg_bad
      · rw [if_neg h]; exact sAsg_bad
theorem snd_exprS {X : Cx} {W : WX} {tc : TC} (o : Ok G cf X W tc) {e : Expr} {p : Pos} (he : GX G pn X W tc e (trX cf tc e)) : PS X (.Expr e p) (tS G pn W (trS cf tc (.Expr e p))) := by
  have gen : PS X (.Expr e p) (tS G pn W (if isComp e then sBad else sExpr (trX cf tc e).v)) := by
    cases h : isComp e with
    | true => exact ps_bad
    | false => exact snd_expr he.v (sw_no h)
  cases e with
  | Constant c j q =>
    cases c with
    | str z => exact snd_doc
    | _ => exact gen
  | _ => exact gen
mutual
theorem sndS : ∀ (st : Stmt) (tc : TC) (X : Cx) (W : WX), Ok G cf X W tc → PassesOwn (model X.prog X.w) X.A X.env X.xe → PS X st (tS G pn W (trS cf tc st))
  | .Pass p, tc, X, W, o, hp => snd_pass
  | .Expr e p, tc, X, W, o, hp => snd_exprS o (sndX e tc X W o)
  | .Return none p, tc, X, W, o, hp => snd_retN
  | .Return (some e) p, tc, X, W, o, hp => snd_ret (sndX e tc X W o).v
  | .Assign [tg] e p, tc, X, W, o, hp => snd_trAsg o (sndX tg tc X W o) (sndX e tc X W o) (fun es k q z => sndXs es tc X W o) fun x q elt gens scope p2 z1 z2 h1 h2 => by
      subst z1 z2
      exact snd_asgC o h1 h2
  | .Assign [] e p, tc, X, W, o, hp => ps_bad
  | .Assign (_ :: _ :: _) e p, tc, X, W, o, hp => ps_bad
  | .AugAssign (.Name x q) op e p, tc, X, W, o, hp => by
    have he := sndX (pn := pn) e tc X W o
    show PS X _ (tS G pn W (if isLc tc.sc x && tc.N.contains x then (match op with
      | .Add => sAug (tc.N.idxOf x) .Add (trX cf tc e).v
      | .Sub => sAug (tc.N.idxOf x) .Sub (trX cf tc e).v
      | _ => sBad) else sBad))
    by_cases h : (isLc tc.sc x && tc.N.contains x) = true
    · rw [if_pos h]
      rw [Bool.and_eq_true] at h
      cases op with
      | Add => exact snd_aug o.nd (ix_of o h.2).1 (lc_of o h.1) he.v (.inl rfl)
      | Sub => exact snd_aug o.nd (ix_of o h.2).1 (lc_of o h.1) he.v (.inr rfl)
      | _ => exact ps_bad
    · rw [if_neg h]; exact ps_bad
  | .If c a b p, tc, X, W, o, hp => snd_sif (sndX c tc X W o).t (sndSs a tc X W o hp) (sndSs b tc X W o hp)
  | .While c b [] p, tc, X, W, o, hp => snd_while hp (sndX c tc X W o).t (sndSs b tc X W o hp)
  | .While c b (_ :: _) p, tc, X, W, o, hp => ps_bad
  | .For tg it b [] p, tc, X, W, o, hp => by
    have hit := sndX (pn := pn) it tc X W o
    have htg := sndX (pn := pn) tg tc X W o
    have hb := sndSs b tc X W o hp
    show PS X _ (tS G pn W (if !isSetE it && okTg tg it then sFor (trX cf tc it).it (trX cf tc tg).tg (trSs cf tc b) else sBad))
    by_cases h : (!isSetE it && okTg tg it) = true
    · rw [if_pos h]
      simp only [Bool.and_eq_true, Bool.not_eq_true'] at h
      exact snd_for hp o.calm (hit.it tg h.2) (htg.tg _ (all_in o)) hb (set_iter h.1)
    · rw [if_neg h]; exact ps_bad
  | .For tg it b (_ :: _) p, tc, X, W, o, hp => ps_bad
  | .Break p, tc, X, W, o, hp => snd_break
  | .Continue p, tc, X, W, o, hp => snd_continue
  | .AugAssign (.BoolOp ..) op e p, tc, X, W, o, hp => ps_bad
  | .AugAssign (.NamedExpr ..) op e p, tc, X, W, o, hp => ps_bad
  | .AugAssign (.BinOp ..) op e p, tc, X, W, o, hp => ps_bad
  | .AugAssign (.UnaryOp ..) op e p, tc, X, W, o, hp => ps_bad
  | .AugAssign (.Lambda ..) op e p, tc, X, W, o, hp => ps_bad
  | .AugAssign (.IfExp ..) op e p, tc, X, W, o, hp => ps_bad
  | .AugAssign (.Dict ..) op e p, tc, X, W, o, hp => ps_bad
  | .AugAssign (.Set ..) op e p, tc, X, W, o, hp => ps_bad
  | .AugAssign (.ListComp ..) op e p, tc, X, W, o, hp => ps_bad
  | .AugAssign (.SetComp ..) op e p, tc, X, W, o, hp => ps_bad
  | .AugAssign (.DictComp ..) op e p, tc, X, W, o, hp => ps_bad
  | .AugAssign (.GeneratorExp ..) op e p, tc, X, W, o, hp => ps_bad
  | .AugAssign (.Await ..) op e p, tc, X, W, o, hp => ps_bad
  | .AugAssign (.Yield ..) op e p, tc, X, W, o, hp => ps_bad
  | .AugAssign (.YieldFrom ..) op e p, tc, X, W, o, hp => ps_bad
  | .AugAssign (.Compare ..) op e p, tc, X, W, o, hp => ps_bad
  | .AugAssign (.Call ..) op e p, tc, X, W, o, hp => ps_bad
  | .AugAssign (.FormattedValue ..) op e p, tc, X, W, o, hp => ps_bad
  | .AugAssign (.JoinedStr ..) op e p, tc, X, W, o, hp => ps_bad
  | .AugAssign (.Constant ..) op e p, tc, X, W, o, hp => ps_bad
  | .AugAssign (.Attribute ..) op e p, tc, X, W, o, hp => ps_bad
  | .AugAssign (.Subscript ..) op e p, tc, X, W, o, hp => ps_bad
  | .AugAssign (.Starred ..) op e p, tc, X, W, o, hp => ps_bad
  | .AugAssign (.List ..) op e p, tc, X, W, o, hp => ps_bad
  | .AugAssign (.Tuple ..) op e p, tc, X, W, o, hp => ps_bad
  | .AugAssign (.Slice ..) op e p, tc, X, W, o, hp => ps_bad
  | .FunctionDef .., tc, X, W, o, hp => ps_bad
  | .AsyncFunctionDef .., tc, X, W, o, hp => ps_bad
  | .ClassDef .., tc, X, W, o, hp => ps_bad
  | .Delete .., tc, X, W, o, hp => ps_bad
  | .TypeAlias .., tc, X, W, o, hp => ps_bad
  | .AnnAssign .., tc, X, W, o, hp => ps_bad
  | .AsyncFor .., tc, X, W, o, hp => ps_bad
  | .With .., tc, X, W, o, hp => ps_bad
  | .AsyncWith .., tc, X, W, o, hp => ps_bad
  | .Match .., tc, X, W, o, hp => ps_bad
  | .Raise .., tc, X, W, o, hp => ps_bad
  | .Try .., tc, X, W, o, hp => ps_bad
  | .TryStar .., tc, X, W, o, hp => ps_bad
  | .Assert .., tc, X, W, o, hp => ps_bad
  | .Import .., tc, X, W, o, hp => ps_bad
  | .ImportFrom .., tc, X, W, o, hp => ps_bad
  | .Global .., tc, X, W, o, hp => ps_bad
  | .Nonlocal .., tc, X, W, o, hp => ps_bad
theorem sndSs : ∀ (st : List Stmt) (tc : TC) (X : Cx) (W : WX), Ok G cf X W tc → PassesOwn (model X.prog X.w) X.A X.env X.xe → PSs X st (tS G pn W (trSs cf tc st))
  | [], _, _, _, _, _ => snd_nil
  | s :: r, tc, X, W, o, hp => snd_cons (sndS s tc X W o hp) (sndSs r tc X W o hp)
end
end
end Ev

set_option maxRecDepth 100000
set_option maxHeartbeats 2000000
/-! the law's head (turned from HandS.Ends: the script as a list that is only read) -/
namespace Ev
open PySem PySem.Spec PyProof.Rows L2
theorem law_callG {P : Program} {w : World} {K : PySem.W.Frag} {mg mb : Str → Option Value} {k : Nat} {fa a : Addr} {fd : FuncData} {x : Str} {sp : Sp} {s₁ : Shared} {vs : List Value} {ns : List Int}
    (KX : K.In s₁.heap) (hns : s₁.heap.Ns mainGlobals mg) (hb : s₁.heap.Ns builtinsNs mb) (hbb : ∀ x : Str, x ≠ "__name__" → mb x = bootBuiltins x) (hlim : s₁.heap.NoLimit) (hg : s₁.gens = #[])
    (ha : s₁.heap.get? a = some { cls := .type "list", data := .seq vs.toArray }) (hi : IntsAre vs ns) (hl : ns.length ≤ sizeLine) (hr : Room k callerA)
    (hk : ∀ b o, K.lookup b = some o → o.cls ≠ .type "list")
    (hsys : ∃ mm, s₁.heap.Ns sysModules mm) (F : ∀ base : Heap, K.In base → base.Ns mainGlobals mg → (∃ o, base.get? sysModules = some o) → FnG P w K mg base k fa fd [x] sp) (hbind : ∀ (s : Shared) (u : Value), BindsTo s fd ⟨[u], []⟩ [(x, u)])
    (hsp : ∀ (H : Hp) (o : Obj), H a = some (.frz o (.lst (ns.map V.int))) → sp [.ref a] H (fun v _ => v = .bl true) fun _ _ _ => False) :
    codeAny (model P w) callerA (.call (.ref fa) ⟨[.ref a], []⟩) (fun r s' => r = .ok (.ret (.bool true)) ∧ OldK s₁.heap s'.heap ∧ s'.os = s₁.os ∧ AllBare s'.gens) s₁ := by
  have rv := vals_ints hi
  have hka : K.lookup a = none := by
    cases e : K.lookup a with
    | none => rfl
    | some o =>
      have e2 := KX a o e
      rw [ha] at e2
      cases e2
      exact absurd rfl (hk a _ e)
  obtain ⟨H, hH⟩ : ∃ H : Hp, H = fun b => if b = a then some (.frz { cls := .type "list", data := .seq vs.toArray } (.lst (ns.map V.int))) else none := ⟨_, rfl⟩
  have hHa : H a = some (.frz { cls := .type "list", data := .seq vs.toArray } (.lst (ns.map V.int))) := by rw [hH]; exact if_pos rfl
  have hHn : ∀ b, b ≠ a → H b = none := fun b n => by rw [hH]; exact if_neg n
  have base_of : ∀ {b : Addr} {o : Obj}, s₁.heap.get? b = some o → H b = none → (hidT s₁.heap H).get? b = some o := fun e n => hidT_get e n
  have noA : ∀ {b : Addr} {o : Obj} {es : Array DictEntry} {ep : Nat}, s₁.heap.get? b = some o → o.data = .dict es ep → H b = none := fun {b o es ep} e d => hHn b fun z => by
    subst z
    rw [ha] at e; cases e
    have d' : Data.seq vs.toArray _ = Data.dict es ep := d
    cases d'
  have nsK : ∀ {b : Addr} {m : Str → Option Value}, s₁.heap.Ns b m → (hidT s₁.heap H).Ns b m := fun {b m} ⟨o, es, ep, e, d, r⟩ => ⟨o, es, ep, base_of e (noA e d), d, r⟩
  have hKb : K.In (hidT s₁.heap H) := fun b o e => base_of (KX b o e) (hHn b fun z => by rw [z, hka] at e; cases e)
  have hM : Mod K mg (hidT s₁.heap H) := ⟨hKb, nsK hns, ⟨mb, nsK hb, hbb⟩, let ⟨mc, h1, h2⟩ := hlim; ⟨mc, nsK h1, h2⟩⟩
  have hok : HOk P w H s₁.heap := fun b u z => by
    by_cases hb : b = a
    · subst hb
      rw [hHa] at z
      cases z
      exact ⟨ha, by rw [List.length_map]; exact hl, vs, _, rv, ha⟩
    · rw [hHn b hb] at z; cases z
  have e0 : Env0 P w K mg (hidT s₁.heap H) callerA [] s₁ H := ⟨rfl, hM, fun b o e => of_hidT e, Nat.le_of_eq (hidT_size _ _), trivial, fun b hb => absurd (show b ∈ ([] : List Addr) from hb) (by simp), hok, .of_eq hg⟩
  refine codeAny_mono (F _ hKb (nsK hns) (let ⟨o, _, _, e, _⟩ := nsK hsys.choose_spec; ⟨o, e⟩) callerA [] s₁ H ⟨[.ref a], []⟩ [.ref a] [.ref a] _ _ rfl hr e0 (hbind s₁ (.ref a)) (.cons rfl .nil) rfl (hsp H _ hHa)) fun r s' h => ?_
  cases r with
  | error e =>
    obtain ⟨_, _, _, _, _, _, _, _, _, _, _, _, z⟩ := h
    exact z.elim
  | ok fl =>
    cases fl with
    | next => exact False.elim h
    | brk => exact False.elim h
    | cont => exact False.elim h
    | ret u =>
      obtain ⟨v, H', os, bare, un, hok', r', q⟩ := h
      have q' : v = .bl true := q
      subst q'
      obtain rfl : u = Value.bool true := r'
      refine ⟨rfl, OldK.of_keep fun b o e => ?_, os, bare⟩
      by_cases hb : b = a
      · subst hb
        have z2 := un.frzs b _ _ hHa
        obtain ⟨e2, _⟩ := hok' b _ z2
        rw [ha] at e; cases e
        exact e2
      · exact un.keep b o e (hHn b hb) (by intro z; exact absurd (show b ∈ ([] : List Addr) from z) (by simp)) (by simp)
/-- the goal that k_head leaves -/
theorem walkG {l : PySem.W.OpenLaw} {n k : Nat} {q : Program} {loose : List Str} {XP : (Str → Option Value) → Heap → Prop} {YP : World → Heap → Prop} {d : DefRec} {K : Params → PySem.W.Frag} {sp : World → Sp} {x : Str}
    (hn : l.most = some n) (hq : importsNone q = true) (hn2 : n ≤ sizeLine) (hdf : d.params.defaults = []) (hr : Room k callerA)
    (hY : ∀ (w : World) (h : Heap), YP w h → (K w.params).In h)
    (F : ∀ (w : World) (mg : Str → Option Value) (fa : Addr) (h : Heap), (K w.params).In h → h.Ns mainGlobals mg → mg d.name = some (.ref fa) →
      (∀ b o, (K w.params).lookup b = some o → o.cls ≠ .type "list") ∧ ∃ fd : FuncData, (∀ (s : Shared) (u : Value), BindsTo s fd ⟨[u], []⟩ [(x, u)]) ∧
        ∀ base : Heap, (K w.params).In base → base.Ns mainGlobals mg → (∃ o, base.get? sysModules = some o) → FnG l.prog w (K w.params) mg base k fa fd [x] (sp w))
    (hsp : ∀ (w : World) (H : Hp) (a : Addr) (o : Obj) (ns : List Int), ns.length ≤ n → (∀ z ∈ ns, Builtin.Int.intBits z ≤ 1048576) → H a = some (.frz o (.lst (ns.map V.int))) → sp w [.ref a] H (fun v _ => v = .bl true) fun _ _ _ => False) :
    PySem.W.WalkO q loose XP YP l.row.toRowW d [] (fun f vs => PySem.call f vs) := by
  refine Att.attach_callB hn hdf fun w s₀ s₁ mg mb fa o pm cd doc a vs ns G Y ho hd hcd hmg hobj hints hlen hbits hg => ?_
  have KX := hY w _ Y
  obtain ⟨hk, fd, hb, hF⟩ := F w mg fa _ KX G.T.g hmg
  exact law_callG KX G.T.g G.T.b G.T.builtins G.T.nolimit hg hobj hints (Nat.le_trans hlen hn2) hr hk (let ⟨mm, h1, _⟩ := (G.T.seer hq).mods; ⟨mm, h1⟩) hF hb fun H o hH => hsp w H a o ns hlen hbits hH
theorem ints_vrs {G : Gd} {pn : List (Addr × Obj)} {α : List Addr} {H : Hp} : ∀ ns : List Int, VRs G pn α H (ns.map D.int) (ns.map V.int)
  | [] => .nil
  | n :: r => .cons (.int n) (ints_vrs r)
/-- the evaluator's answer is the law's -/
theorem spD_law {G : Gd} {c : List D → Hh → Res D} {H : Hp} {a : Addr} {o : Obj} {ns : List Int} (hH : H a = some (.frz o (.lst (ns.map V.int)))) {h' : Hh} (hc : c [.ref 0] [.lst true (ns.map D.int)] = .ok (.bl true) h') :
    spD G c [.ref a] H (fun v _ => v = .bl true) fun _ _ _ => False := by
  refine ⟨[], [a], [.lst true (ns.map D.int)], [.ref 0], ⟨rfl, by simp, fun i b ob e1 e2 => ?_⟩, .cons (.ref rfl) .nil, ?_⟩
  · cases i with
    | zero =>
      simp at e1 e2
      subst e1 e2
      exact .lstF hH (ints_vrs ns)
    | succ => simp at e1
  · rw [hc]
    intro α' H' m r v q
    exact q.bl_eq
end Ev

set_option maxRecDepth 100000
set_option maxHeartbeats 2000000
/-! a program's table of defs -/
namespace Ev
open PySem PySem.Spec PyProof.Rows L2
/-- a def of the program -/
structure Ent where
  name : Str
  qual : Str
  args : Arguments
  body : List Stmt
  scope : Scope
  N : List Str
  ps : List Str
def tcOf (g : TC) (e : Ent) : TC := { g with N := e.N, sc := e.scope, fn := fun _ => true }
def tabOf (g : TC) (T : List Ent) : Nat → Option Def := fun i => (T[i]?).map fun e => ⟨e.ps.length, e.N.length, fun cf => trSs cf (tcOf g e) e.body⟩
/-- a def as the top has left it -/
structure EntOk (K : PySem.W.Frag) (e : Ent) (a : Addr) (fd : FuncData) : Prop where
  ex : ∃ (oc : Value) (od : Option Addr) (dV kV doc pm : Value) (an : Option Addr) (cdv ct : Value) (osl : Array (Option Value)),
    fd = PySem.W.fnOf e.name e.qual e.args e.body e.scope dV kV doc pm an cdv ct ∧ K.lookup a = some ⟨oc, od, .func fd, osl⟩ ∧ PySem.W.codeIn K cdv e.qual = true
  kp : PySem.W.keepIn K (.ref a) = true
  sc : FnScope e.N e.ps e.scope
  bd : Binds K fd e.ps []
  nm : ∀ x ∈ e.N, (x == ("__debug__" : Str)) = false ∧ (x == ("__classdict__" : Str)) = false
/-- what the top says of the globals -/
structure TopOk (G : Gd) (mg : Str → Option Value) (g : TC) (T : List Ent) (A : Nat → Addr) (FD : Nat → FuncData) : Prop where
  ents : ∀ i e, T[i]? = some e → EntOk G.K e (A i) (FD i)
  con : ∀ x d, g.con.lookup x = some d → ∃ v u, mg x = some u ∧ RelV v u ∧ (∀ pn α H, VR G pn α H d v) ∧ (x == ("__debug__" : Str)) = false
  blt : ∀ x ∈ bltN, mg x = none
  fns : ∀ x f, g.fns.lookup x = some f → ∃ e, T[f]? = some e ∧ mg x = some (.ref (A f)) ∧ (x == ("__debug__" : Str)) = false ∧ ∀ n ks pars, g.kws.lookup (f, n, ks) = some pars → CallAt G G.K (FD f) e.ps n ks pars
  cls : ∀ x c f, g.cls.lookup x = some (c, f) → G.CP c ∧ mg x = some (.ref (G.CT c)) ∧ (x == ("__debug__" : Str)) = false ∧
    ∀ n ks pars, g.kws.lookup (f, n, ks) = some pars → ∃ e, T[f]? = some e ∧ Mk G.K (G.CT c) (A f) ∧ CallAt G G.K (FD f) e.ps n ks pars
  inj : ∀ i j, G.FN i = G.FN j → i = j
  fld : ∀ f, g.fld.contains f = true → FldOk G G.K (g.fld.idxOf f) ∧ G.FN (g.fld.idxOf f) = f
  mns : ∀ m, g.mns.contains m = true → G.FN (g.fld.length + g.mns.idxOf m) = m
  mt : ∀ c m f, G.CP c → g.mt c m = some f → ∃ e, T[f]? = some e ∧ Cls G.K (G.CT c) ∧ Meth G.K (G.CT c) (G.FN m) (A f)
  isi : IsiOk G G.K
theorem tab_ok {G : Gd} {P : Program} {w : World} {mg : Str → Option Value} {base : Heap} {g : TC} {T : List Ent} {A : Nat → Addr} {FD : Nat → FuncData} (t : TopOk G mg g T A FD) (hsys : ∃ o, base.get? sysModules = some o) :
    ∀ (k i : Nat) (e : Ent), T[i]? = some e → FnG P w G.K mg base (2 * k) (A i) (FD i) e.ps (spD G (callN (tabOf g T) k i)) := by
  intro k
  induction k with
  | zero =>
    intro i e he A outer s H args us vs Q E hg hr e0 b r hl ⟨pn, α, h, ds, hR, q, p⟩
    exact p.elim
  | succ k ih =>
    intro i e he
    have et : tabOf g T i = some ⟨e.ps.length, e.N.length, fun cf => trSs cf (tcOf g e) e.body⟩ := by
      unfold tabOf
      rw [he]; rfl
    obtain ⟨oc, od, dV, kV, doc, pm, an, cdv, ct, osl, ef, lk, hcd⟩ := (t.ents i e he).ex
    have S := (t.ents i e he).sc
    have hnm := (t.ents i e he).nm
    have main : FnG P w G.K mg base (2 * k + 1 + 1) (A i) (FD i) e.ps (spD G fun ds h => (trSs (callN (tabOf g T) k) (tcOf g e) e.body (startD e.N.length ds) h).res) := by
      rw [ef]
      rw [ef] at lk
      refine fng_body lk hcd S fun X W pn h1 h2 h3 h4 h5 h6 h7 h8 h9 h10 h11 h12 h13 h14 => ?_
      refine sndSs e.body (tcOf g e) X W ?_ h12
      have h10' : Room (2 * k) X.A := h10.mono (Nat.le_succ _)
      have fnc : ∀ f e', T[f]? = some e' → FnC G X (callN (tabOf g T) k f) (2 * k) (A f) (FD f) e'.ps := fun f e' m1 => by
        refine ⟨by rw [h3]; exact (t.ents f e' m1).kp, by rw [h1, h2, h3, h4, h5]; exact ih f e' m1, by rw [h3]; exact (t.ents f e' m1).bd, fun ds h hl => ?_⟩
        cases k with
        | zero => rfl
        | succ k =>
          show (match tabOf g T f with
            | some d => if ds.length = d.ar then (d.body (callN (tabOf g T) k) (startD d.n ds) h).res else .bad
            | none => .bad) = Res.bad
          have et' : tabOf g T f = some ⟨e'.ps.length, e'.N.length, fun cf => trSs cf (tcOf g e') e'.body⟩ := by
            unfold tabOf
            rw [m1]; rfl
          rw [et']
          exact if_neg hl
      refine ⟨h3.symm, h8, by rw [h5]; exact hsys, h9, by have := h10.un; omega, by rw [h6]; exact S.nd, h6.symm, h7.symm, ?_, h13, by rw [h6]; exact hnm, fun x d hx => ?_, fun x hx => by rw [h4]; exact t.blt x hx, h11, fun x f hx => ?_, fun x c f hx => ?_, t.inj, fun f hf => by rw [h3]; exact t.fld f hf, t.mns, fun c m f hc hm => ?_, by rw [h3]; exact t.isi⟩
      · exact h14.symm
      · rw [h4]; exact t.con x d hx
      · obtain ⟨e', m1, m2, m3, m4⟩ := t.fns x f hx
        exact ⟨A f, FD f, e'.ps, 2 * k, fnc f e' m1, h10', by rw [h4]; exact m2, m3, fun n ks pars hk => by rw [h3]; exact m4 n ks pars hk⟩
      · obtain ⟨c1, c2, c3, c4⟩ := t.cls x c f hx
        refine ⟨c1, by rw [h4]; exact c2, c3, fun n ks pars hk => ?_⟩
        obtain ⟨e', m1, m2, m3⟩ := c4 n ks pars hk
        exact ⟨2 * k, A f, FD f, e'.ps, by rw [h3]; exact m2, (fnc f e' m1).ok, h10, by rw [h3]; exact m3⟩
      · obtain ⟨e', m1, m2, m3⟩ := t.mt c m f hc hm
        exact ⟨2 * k, A f, FD f, e'.ps, by rw [h3]; exact m2, by rw [h3]; exact m3, fnc f e' m1, h10'⟩
    intro Ar outer s H args us vs Q E hgd hr e0 b r hl ⟨pn, α, h, ds, hR, q, p⟩
    refine main Ar outer s H args us vs Q E hgd hr e0 b r hl ⟨pn, α, h, ds, hR, q, ?_⟩
    have p : Post G pn (match tabOf g T i with
      | some d => if ds.length = d.ar then (d.body (callN (tabOf g T) k) (startD d.n ds) h).res else .bad
      | none => .bad) α H (QV G pn Q) E := p
    rw [et] at p
    have hl2 : ds.length = e.ps.length := by rw [q.length, hl]
    dsimp only at p
    rw [if_pos hl2] at p
    exact p
/-- no list stands in the written part -/
def noList (K : PySem.W.Frag) : Bool := K.all fun p => match p.2.cls with
  | .type "list" => false
  | _ => true
theorem noList_ok {K : PySem.W.Frag} (h : noList K = true) : ∀ b o, K.lookup b = some o → o.cls ≠ .type "list" := by
  intro b o e z
  have hm : (b, o) ∈ K := by
    induction K with
    | nil => cases e
    | cons p r ih =>
      obtain ⟨c, u⟩ := p
      rw [List.lookup_cons] at e
      cases hb : (b == c) with
      | true =>
        rw [hb] at e
        cases e
        rw [eq_of_beq hb]
        exact List.mem_cons_self
      | false =>
        rw [hb] at e
        unfold noList at h
        rw [List.all_cons, Bool.and_eq_true] at h
        exact List.mem_cons_of_mem _ (ih h.2 e)
  have := List.all_eq_true.mp h (b, o) hm
  dsimp only at this
  rw [z] at this
  cases this
theorem mem_lk {A B : Type} [BEq A] [LawfulBEq A] : ∀ {l : List (A × B)} {x : A} {k : B}, l.lookup x = some k → (x, k) ∈ l
  | (y, z) :: r, x, k, h => by
    rw [List.lookup_cons] at h
    cases hb : (x == y) with
    | true =>
      rw [hb] at h
      cases h
      rw [eq_of_beq hb]
      exact List.mem_cons_self
    | false =>
      rw [hb] at h
      exact List.mem_cons_of_mem _ (mem_lk h)
end Ev

/-! attributes' names by their places -/
namespace Ev
open PySem PySem.Spec PyProof.Rows L2
/-- names by their places; behind them texts of NULs -/
def nulS (n : Nat) : Str := ⟨(List.replicate (n + 1) 0).toArray⟩
def FNof (l : List Str) (i : Nat) : Str := match l[i]? with
  | some s => s
  | none => nulS i
def namesOk : List Str → Bool
  | [] => true
  | s :: r => decide (s ∉ r) && decide (0 ∉ s.cps.toList) && namesOk r
theorem nul_inj {i j : Nat} (h : nulS i = nulS j) : i = j := by
  have := congrArg (fun s : Str => s.cps.size) h
  simp [nulS] at this
  exact this
theorem names_nul : ∀ {l : List Str}, namesOk l = true → ∀ s ∈ l, 0 ∉ s.cps.toList
  | s :: r, h, x, hx => by
    simp only [namesOk, Bool.and_eq_true, decide_eq_true_eq] at h
    rcases List.mem_cons.mp hx with rfl | hx
    · exact h.1.2
    · exact names_nul h.2 x hx
theorem names_nodup : ∀ {l : List Str}, namesOk l = true → l.Nodup
  | [], _ => List.nodup_nil
  | s :: r, h => by
    simp only [namesOk, Bool.and_eq_true, decide_eq_true_eq] at h
    exact List.nodup_cons.mpr ⟨h.1.1, names_nodup h.2⟩
theorem FNof_inj {l : List Str} (h : namesOk l = true) : ∀ i j, FNof l i = FNof l j → i = j := by
  intro i j e
  unfold FNof at e
  have nn : ∀ {k m : Nat} {s : Str}, l[k]? = some s → s = nulS m → False := fun {k m s} ek es => by
    refine names_nul h s (List.mem_of_getElem? ek) ?_
    rw [es]
    simp [nulS]
  cases ei : l[i]? with
  | none =>
    cases ej : l[j]? with
    | none => rw [ei, ej] at e; exact nul_inj e
    | some t => rw [ei, ej] at e; exact (nn ej e.symm).elim
  | some s =>
    cases ej : l[j]? with
    | none => rw [ei, ej] at e; exact (nn ei e).elim
    | some t =>
      rw [ei, ej] at e
      have e : s = t := e
      subst e
      obtain ⟨hi, e1⟩ := List.getElem?_eq_some_iff.mp ei
      obtain ⟨hj, e2⟩ := List.getElem?_eq_some_iff.mp ej
      exact (List.getElem_inj (names_nodup h)).mp (e1.trans e2.symm)
end Ev

set_option maxRecDepth 100000
/-! the evaluator, step by step: equations for simp -/
namespace Ev
open PySem
def tst (o : Option Bool) (a b : Res D) : Res D := match o with
  | some true => a
  | some false => b
  | none => .bad
def tstS (o : Option Bool) (a b : SRes) : SRes := match o with
  | some true => a
  | some false => b
  | none => .bad
def pBl (o : Option Bool) (h : Hh) : Res D := match o with
  | some b => .ok (.bl b) h
  | none => .bad
def pD (o : Option D) (h : Hh) : Res D := match o with
  | some b => .ok b h
  | none => .bad
def SRes.seq (r : SRes) (b : ShS) : SRes := match r with
  | .nx σ1 h1 => b σ1 h1
  | r => r
@[simp] theorem tst_t (a b : Res D) : tst (some true) a b = a := rfl
@[simp] theorem tst_f (a b : Res D) : tst (some false) a b = b := rfl
@[simp] theorem tst_if (c : Bool) (a b : Res D) : tst (some c) a b = if c then a else b := by cases c <;> rfl
@[simp] theorem tstS_t (a b : SRes) : tstS (some true) a b = a := rfl
@[simp] theorem tstS_f (a b : SRes) : tstS (some false) a b = b := rfl
@[simp] theorem tstS_if (c : Bool) (a b : SRes) : tstS (some c) a b = if c then a else b := by cases c <;> rfl
@[simp] theorem pBl_some (b : Bool) (h : Hh) : pBl (some b) h = .ok (.bl b) h := rfl
@[simp] theorem pD_some (b : D) (h : Hh) : pD (some b) h = .ok b h := rfl
@[simp] theorem seq_nx (σ : Ev.Env) (h : Hh) (b : ShS) : (SRes.nx σ h).seq b = b σ h := rfl
@[simp] theorem seq_rt (d : D) (h : Hh) (b : ShS) : (SRes.rt d h).seq b = SRes.rt d h := rfl
@[simp] theorem seq_bk (σ : Ev.Env) (h : Hh) (b : ShS) : (SRes.bk σ h).seq b = SRes.bk σ h := rfl
@[simp] theorem seq_ct (σ : Ev.Env) (h : Hh) (b : ShS) : (SRes.ct σ h).seq b = SRes.ct σ h := rfl
@[simp] theorem seq_exc (x : D) (σ : Ev.Env) (h : Hh) (b : ShS) : (SRes.exc x σ h).seq b = SRes.exc x σ h := rfl
@[simp] theorem res_rt (d : D) (h : Hh) : (SRes.rt d h).res = .ok d h := rfl
@[simp] theorem res_nx (σ : Ev.Env) (h : Hh) : (SRes.nx σ h).res = .ok .non h := rfl
@[simp] theorem res_exc (x : D) (σ : Ev.Env) (h : Hh) : (SRes.exc x σ h).res = .exc x h := rfl
section
variable (σ : Ev.Env) (h : Hh)
@[simp] theorem eConst_ap (d : D) : eConst d σ h = .ok d h := rfl
theorem eVar_ok {σ : Ev.Env} {h : Hh} {i : Nat} {d : D} (e : σ[i]? = some (some d)) : eVar i σ h = .ok d h := by unfold eVar; rw [e]
@[simp] theorem eVar_z (d : D) (r : Ev.Env) : eVar 0 (some d :: r) h = .ok d h := rfl
@[simp] theorem eVar_s (i : Nat) (o : Option D) (r : Ev.Env) : eVar (i + 1) (o :: r) h = eVar i r h := rfl
@[simp] theorem eBin_ap (op : Operator) (a b : Sh) : eBin op a b σ h = (a σ h).bind fun x h1 => (b σ h1).bind fun y h2 => binop op x y h2 := rfl
@[simp] theorem eUn_ap (op : UnaryOp) (a : Sh) : eUn op a σ h = (a σ h).bind fun x h1 => unop op x h1 := rfl
@[simp] theorem eAnd_ap (a b : Sh) : eAnd a b σ h = (a σ h).bind fun x h1 => tst (truth h1 x) (b σ h1) (.ok x h1) := rfl
@[simp] theorem eOr_ap (a b : Sh) : eOr a b σ h = (a σ h).bind fun x h1 => tst (truth h1 x) (.ok x h1) (b σ h1) := rfl
@[simp] theorem eIf_ap (c a b : Sh) : eIf c a b σ h = (c σ h).bind fun x h1 => tst (truth h1 x) (a σ h1) (b σ h1) := rfl
@[simp] theorem eCmp_ap (op : CmpOp) (a b : Sh) : eCmp op a b σ h = (a σ h).bind fun x h1 => (b σ h1).bind fun y h2 => pBl (cmpop op x y h2) h2 := rfl
@[simp] theorem eChain_ap (op1 op2 : CmpOp) (a b c : Sh) : eChain op1 op2 a b c σ h = (a σ h).bind fun x h1 => (b σ h1).bind fun y h2 => tst (cmpop op1 x y h2) ((c σ h2).bind fun z h3 => pBl (cmpop op2 y z h3) h3) (.ok (.bl false) h2) := rfl
@[simp] theorem eArgs_nil : eArgs [] σ h = .ok [] h := rfl
@[simp] theorem eArgs_cons (a : Sh) (r : List Sh) : eArgs (a :: r) σ h = (a σ h).bind fun x h1 => (eArgs r σ h1).bind fun xs h2 => .ok (x :: xs) h2 := rfl
@[simp] theorem eTup_ap (es : List Sh) : eTup es σ h = (eArgs es σ h).bind fun xs h1 => .ok (.tup xs) h1 := rfl
@[simp] theorem eLst_ap (es : List Sh) : eLst es σ h = (eArgs es σ h).bind fun xs h1 => .ok (.ref h1.length) (h1 ++ [.lst false xs]) := rfl
@[simp] theorem eItem_ap (a b : Sh) : eItem a b σ h = (a σ h).bind fun x h1 => (b σ h1).bind fun y h2 => pD (getItem x y h2) h2 := rfl
@[simp] theorem eEnd_none : eEnd none σ h = .ok none h := rfl
theorem eEnd_int {e : Sh} {σ : Ev.Env} {h h1 : Hh} {i : Int} (x : e σ h = .ok (.int i) h1) : eEnd (some e) σ h = .ok (some i) h1 := by
  unfold eEnd; dsimp only; rw [x]; rfl
@[simp] theorem eSlice_ap (a : Sh) (lo hi : Option Sh) : eSlice a lo hi σ h = (a σ h).bind fun x h1 => (eEnd lo σ h1).bind fun l h2 => (eEnd hi σ h2).bind fun u h3 => getSlice x l u h3 := rfl
@[simp] theorem eBF_ap (f : BF) (es : List Sh) : eBF f es σ h = (eArgs es σ h).bind fun xs h1 => bfun f xs h1 := rfl
@[simp] theorem eCall_ap (cf : CF) (f : Nat) (es : List Sh) : eCall cf f es σ h = (eArgs es σ h).bind fun xs h1 => cf f xs h1 := rfl
@[simp] theorem eCallK_ap (cf : CF) (f : Nat) (ps : List Par) (es ks : List Sh) : eCallK cf f ps es ks σ h = (eArgs es σ h).bind fun xs h1 => (eArgs ks σ h1).bind fun zs h2 => cf f (pick xs zs ps) h2 := rfl
@[simp] theorem eIsI_ap (a : Sh) (t : Ty) : eIsI a t σ h = (a σ h).bind fun x h1 => pBl (isTy h1 x t) h1 := rfl
@[simp] theorem sPass_ap : sPass σ h = .nx σ h := rfl
@[simp] theorem sExpr_ap (e : Sh) : sExpr e σ h = (e σ h).stm σ fun _ h1 => .nx σ h1 := rfl
@[simp] theorem sRet_ap (e : Sh) : sRet e σ h = (e σ h).stm σ fun d h1 => .rt d h1 := rfl
@[simp] theorem sRetN_ap : sRetN σ h = .rt .non h := rfl
@[simp] theorem sAsg_ap (t : Tg) (e : Sh) : sAsg t e σ h = (e σ h).stm σ fun d h1 => (noExc (t d σ h1)).stm σ fun σ2 h2 => .nx σ2 h2 := rfl
@[simp] theorem sIf_ap (c : Sh) (a b : ShS) : sIf c a b σ h = (c σ h).stm σ fun x h1 => tstS (truth h1 x) (a σ h1) (b σ h1) := rfl
@[simp] theorem sSeq_ap (a b : ShS) : sSeq a b σ h = (a σ h).seq b := rfl
@[simp] theorem noExc_ok {A : Type} (a : A) : noExc (.ok a h) = .ok a h := rfl
@[simp] theorem tName_ap (i : Nat) (v : D) : tName i v σ h = .ok (σ.set i (some v)) h := rfl
@[simp] theorem tEach_nil : tEach [] [] σ h = .ok σ h := rfl
@[simp] theorem tEach_cons (t : Tg) (ts : List Tg) (v : D) (vs : List D) : tEach (t :: ts) (v :: vs) σ h = (t v σ h).bind fun σ1 h1 => tEach ts vs σ1 h1 := rfl
@[simp] theorem tTup_ap (ts : List Tg) (vs : List D) : tTup ts (.tup vs) σ h = if vs.length = ts.length then tEach ts vs σ h else .bad := rfl
@[simp] theorem tItem_ap (o i : Sh) (v : D) : tItem o i v σ h = (o σ h).bind fun x h1 => (i σ h1).bind fun y h2 => (setItem x y v h2).bind fun _ h3 => .ok σ h3 := rfl
@[simp] theorem pick_nil (xs ks : List D) : pick xs ks [] = [] := rfl
@[simp] theorem pick_pos (xs ks : List D) (i : Nat) (r : List Par) : pick xs ks (.pos i :: r) = (xs[i]?).getD .non :: pick xs ks r := rfl
@[simp] theorem pick_kw (xs ks : List D) (i : Nat) (r : List Par) : pick xs ks (.kw i :: r) = (ks[i]?).getD .non :: pick xs ks r := rfl
@[simp] theorem pick_dfl (xs ks : List D) (d : D) (r : List Par) : pick xs ks (.dfl d :: r) = d :: pick xs ks r := rfl
/-! values -/
@[simp] theorem truth_bl (b : Bool) : truth h (.bl b) = some b := rfl
@[simp] theorem truth_non : truth h .non = some false := rfl
@[simp] theorem truth_int (i : Int) : truth h (.int i) = some (i != 0) := rfl
@[simp] theorem truth_str (s : Str) : truth h (.str s) = some (s.length != 0) := rfl
@[simp] theorem truth_tup (l : List D) : truth h (.tup l) = some (!l.isEmpty) := rfl
@[simp] theorem not_bl (b : Bool) : unop .Not (.bl b) h = .ok (.bl (!b)) h := rfl
@[simp] theorem not_non : unop .Not .non h = .ok (.bl true) h := rfl
@[simp] theorem not_int (i : Int) : unop .Not (.int i) h = .ok (.bl (!(i != 0))) h := rfl
@[simp] theorem neg_int (i : Int) : unop .USub (.int i) h = .ok (.int (-i)) h := rfl
@[simp] theorem add_int (i j : Int) : binop .Add (.int i) (.int j) h = .ok (.int (i + j)) h := rfl
@[simp] theorem sub_int (i j : Int) : binop .Sub (.int i) (.int j) h = .ok (.int (i - j)) h := rfl
@[simp] theorem mul_int (i j : Int) : binop .Mult (.int i) (.int j) h = if i.natAbs < 2 ^ 64 ∨ j.natAbs < 2 ^ 64 then .ok (.int (i * j)) h else .bad := rfl
@[simp] theorem fdiv_int (i j : Int) : binop .FloorDiv (.int i) (.int j) h = if 0 < j ∧ j < 10 ^ 70 then .ok (.int (i / j)) h else .bad := rfl
@[simp] theorem mod_int (i j : Int) : binop .Mod (.int i) (.int j) h = if 0 < j then .ok (.int (i % j)) h else .bad := rfl
@[simp] theorem pow_int (i j : Int) : binop .Pow (.int i) (.int j) h = if 0 ≤ j ∧ j ≤ 1000 ∧ i.natAbs < 2 ^ 64 then .ok (.int (i ^ j.toNat)) h else .bad := rfl
@[simp] theorem add_str (a b : Str) : binop .Add (.str a) (.str b) h = if a.length + b.length ≤ lim then .ok (.str (a ++ b)) h else .bad := rfl
@[simp] theorem add_tup (a b : List D) : binop .Add (.tup a) (.tup b) h = if a.length + b.length ≤ lim then .ok (.tup (a ++ b)) h else .bad := rfl
theorem add_ref {h : Hh} {a b : Nat} {xs ys : List D} (e1 : h[a]? = some (.lst false xs)) (e2 : h[b]? = some (.lst false ys)) (hl : xs.length + ys.length ≤ lim) : binop .Add (.ref a) (.ref b) h = .ok (.ref h.length) (h ++ [Ob.lst false (xs ++ ys)]) := by
  show (match h[a]?, h[b]? with
    | some (.lst false xs), some (.lst false ys) => if xs.length + ys.length ≤ lim then Res.ok (D.ref h.length) (h ++ [Ob.lst false (xs ++ ys)]) else .bad
    | _, _ => .bad) = _
  rw [e1, e2]
  exact if_pos hl
theorem mul_ref {h : Hh} {a : Nat} {k : Int} {xs : List D} (e1 : h[a]? = some (.lst false xs)) (hl : 0 ≤ k ∧ k ≤ lim ∧ xs.length * k.toNat ≤ lim) : binop .Mult (.ref a) (.int k) h = .ok (.ref h.length) (h ++ [Ob.lst false (List.replicate k.toNat xs).flatten]) := by
  show (match h[a]? with
    | some (.lst false xs) => if 0 ≤ k ∧ k ≤ lim ∧ xs.length * k.toNat ≤ lim then Res.ok (D.ref h.length) (h ++ [Ob.lst false (List.replicate k.toNat xs).flatten]) else .bad
    | _ => .bad) = _
  rw [e1]
  exact if_pos hl
@[simp] theorem lt_int (i j : Int) : cmpop .Lt (.int i) (.int j) h = some (decide (i < j)) := rfl
@[simp] theorem le_int (i j : Int) : cmpop .LtE (.int i) (.int j) h = some (decide (i ≤ j)) := rfl
@[simp] theorem gt_int (i j : Int) : cmpop .Gt (.int i) (.int j) h = some (decide (j < i)) := rfl
@[simp] theorem ge_int (i j : Int) : cmpop .GtE (.int i) (.int j) h = some (decide (j ≤ i)) := rfl
@[simp] theorem eq_int (i j : Int) : cmpop .Eq (.int i) (.int j) h = some (i == j) := rfl
@[simp] theorem ne_int (i j : Int) : cmpop .NotEq (.int i) (.int j) h = some (!(i == j)) := rfl
@[simp] theorem eq_str (i j : Str) : cmpop .Eq (.str i) (.str j) h = some (i == j) := rfl
@[simp] theorem isT_str_str (s : Str) : isTy h (.str s) .str = some true := rfl
@[simp] theorem isT_str_int (s : Str) : isTy h (.str s) .int = some false := rfl
@[simp] theorem isT_str_bool (s : Str) : isTy h (.str s) .bool = some false := rfl
@[simp] theorem isT_int_str (i : Int) : isTy h (.int i) .str = some false := rfl
@[simp] theorem isT_int_int (i : Int) : isTy h (.int i) .int = some true := rfl
@[simp] theorem isT_int_bool (i : Int) : isTy h (.int i) .bool = some false := rfl
@[simp] theorem len_str (s : Str) : bfun .len [.str s] h = .ok (.int s.length) h := rfl
@[simp] theorem len_tup (l : List D) : bfun .len [.tup l] h = .ok (.int l.length) h := rfl
theorem len_ref {h : Hh} {a : Nat} {fz : Bool} {xs : List D} (e : h[a]? = some (.lst fz xs)) : bfun .len [.ref a] h = .ok (.int xs.length) h := by
  show (match lenD h (.ref a) with | some n => Res.ok (D.int n) h | none => .bad) = _
  unfold lenD; dsimp only; rw [e]
@[simp] theorem abs_int (i : Int) : bfun .abs [.int i] h = .ok (.int i.natAbs) h := rfl
@[simp] theorem max_int (i j : Int) : bfun .max2 [.int i, .int j] h = .ok (.int (max i j)) h := rfl
@[simp] theorem min_int (i j : Int) : bfun .min2 [.int i, .int j] h = .ok (.int (min i j)) h := rfl
@[simp] theorem divmod_int (i j : Int) : bfun .divmod [.int i, .int j] h = if 0 < j ∧ j < 10 ^ 70 then .ok (.tup [.int (i / j), .int (i % j)]) h else .bad := rfl
theorem str_int {h : Hh} {i : Int} (hi : i.natAbs < 10 ^ 200) : bfun .str [.int i] h = .ok (.str (toString i)) h := if_pos hi
theorem allBls_map : ∀ l : List Bool, allBls (l.map D.bl) = some l
  | [] => rfl
  | a :: r => by simp [allBls, allBls_map r]
theorem allStrs_map : ∀ l : List Str, allStrs (l.map D.str) = some l
  | [] => rfl
  | a :: r => by simp [allStrs, allStrs_map r]
theorem listOf_ref {h : Hh} {a : Nat} {fz : Bool} {xs : List D} (e : h[a]? = some (.lst fz xs)) : listOf h (.ref a) = some xs := by
  unfold listOf; dsimp only; rw [e]
theorem all_ref {h : Hh} {a : Nat} {fz : Bool} {bs : List Bool} (e : h[a]? = some (.lst fz (bs.map .bl))) : bfun .all [.ref a] h = .ok (.bl (bs.all id)) h := by
  show (match (listOf h (.ref a)).bind allBls with | some bs => Res.ok (D.bl (bs.all id)) h | none => .bad) = _
  rw [listOf_ref e]
  show (match allBls (bs.map .bl) with | some bs => Res.ok (D.bl (bs.all id)) h | none => .bad) = _
  rw [allBls_map]
theorem item_ref {h : Hh} {a : Nat} {fz : Bool} {xs : List D} {i : Int} {d : D} (e : h[a]? = some (.lst fz xs)) (ei : atD xs i = some d) : getItem (.ref a) (.int i) h = some d := by
  unfold getItem; dsimp only; rw [e]; exact ei
theorem set_ref {h : Hh} {a : Nat} {xs : List D} {i : Int} {j : Nat} {v : D} (e : h[a]? = some (.lst false xs)) (ej : ixN xs.length i = some j) : setItem (.ref a) (.int i) v h = .ok () (h.set a (.lst false (xs.set j v))) := by
  unfold setItem; dsimp only; rw [e]; dsimp only; rw [ej]
theorem join_ref {h : Hh} {a : Nat} {fz : Bool} {z : Str} {ss : List Str} (e : h[a]? = some (.lst fz (ss.map D.str))) (c : (Txt.join z ss).length ≤ lim ∧ ((ss.map (·.length)).sum + ss.length * z.length ≤ lim)) : bmeth .join (.str z) [.ref a] h = .ok (.str (Txt.join z ss)) h := by
  have e1 : bmeth .join (.str z) [.ref a] h = (match (listOf h (.ref a)).bind allStrs with
    | some (ss : List Str) => if (Txt.join z ss).length ≤ lim ∧ ((ss.map (·.length)).sum + ss.length * z.length ≤ lim) then Res.ok (D.str (Txt.join z ss)) h else Res.bad
    | none => Res.bad) := rfl
  have e2 : (listOf h (.ref a)).bind allStrs = some ss := by
    rw [listOf_ref e]
    exact allStrs_map ss
  rw [e1, e2]
  exact if_pos c
theorem get_new {h : Hh} {o : Ob} : (h ++ [o])[h.length]? = some o := by simp
/-- a loop whose parts leave the heap -/
theorem lc_pure {t : Tg} {ft fe : Sh} {g : Option (Nat × Ob)} {env : Ev.Env} {h : Hh} (f : D → Option D) (hs : stands g h = true) : ∀ (xs acc : List D), (∀ x ∈ xs, ∃ env1 b, t x env h = .ok env1 h ∧ ft env1 h = .ok (.bl b) h ∧ (b = true → ∃ y, f x = some y ∧ fe env1 h = .ok y h) ∧ (b = false → f x = none)) →
    lcLoop t ft fe g env xs acc h = .ok (acc ++ xs.filterMap f) h
  | [], acc, _ => by
    show (if stands g h then Res.ok acc h else .bad) = _
    rw [if_pos hs]; simp
  | x :: xs, acc, hx => by
    obtain ⟨env1, b, h1, h2, h3, h4⟩ := hx x List.mem_cons_self
    have ih := fun acc => lc_pure f hs xs acc fun y hy => hx y (List.mem_cons_of_mem _ hy)
    show (if stands g h then (t x env h).bind fun σ1 h1 => (ft σ1 h1).bind fun b h2 => match truth h2 b with
      | some true => (fe σ1 h2).bind fun y h3 => lcLoop t ft fe g env xs (acc ++ [y]) h3
      | some false => lcLoop t ft fe g env xs acc h2
      | none => .bad
    else .bad) = _
    rw [if_pos hs, h1, Res.bind_ok, h2, Res.bind_ok]
    cases b with
    | true =>
      obtain ⟨y, e1, e2⟩ := h3 rfl
      show ((fe env1 h).bind fun y h3 => lcLoop t ft fe g env xs (acc ++ [y]) h3) = _
      rw [e2, Res.bind_ok, ih]
      simp [List.filterMap_cons, e1]
    | false =>
      show lcLoop t ft fe g env xs acc h = _
      rw [ih]
      simp [List.filterMap_cons, h4 rfl]
/-- a comprehension over a text or a tuple, its parts leave the heap -/
theorem lc_ap {it : It} {own : List Nat} {t : Tg} {ft fe : Sh} {σ : Ev.Env} {h h1 : Hh} {w : Walked} {ys : List D} {h2 : Hh} (hi : it σ h = .ok w h1) (hf : w.fin = none) (hl : w.items.length ≤ lim) (hx : lcLoop t ft fe w.guard (wipeD σ own) w.items [] h1 = .ok ys h2) : eLc it own t ft fe σ h = .ok (.ref h2.length) (h2 ++ [.lst false ys]) := by
  unfold eLc
  rw [hi, Res.bind_ok, if_pos hl, hx, hf]
  rfl
end
end Ev

/-! Bellman and Ford's rounds, in plain Lean -/
namespace Bf
abbrev Edge := Nat × Nat × Int
structure St where
  d : Nat → Option Int
  l : Nat → Option Nat
  c : Option Nat
def put {A : Type} (f : Nat → Option A) (k : Nat) (v : A) : Nat → Option A := fun j => if j = k then some v else f j
theorem put_same {A : Type} (f : Nat → Option A) (k : Nat) (v : A) : put f k v k = some v := if_pos rfl
theorem put_ne {A : Type} {f : Nat → Option A} {k j : Nat} {v : A} (h : j ≠ k) : put f k v j = f j := if_neg h
def better (d : Nat → Option Int) (v : Nat) (x : Int) : Bool := match d v with
  | none => true
  | some y => decide (x < y)
def step (s : St) (p : Edge × Nat) : St := match s.d p.1.1 with
  | none => s
  | some x => if better s.d p.1.2.1 (x + p.1.2.2) then ⟨put s.d p.1.2.1 (x + p.1.2.2), put s.l p.1.2.1 p.2, some p.1.2.1⟩ else s
def round (E : List Edge) (s : St) : St := E.zipIdx.foldl step { s with c := none }
def relax (E : List Edge) : Nat → St → St
  | 0, s => s
  | n + 1, s => if (round E s).c.isNone then round E s else relax E n (round E s)

/-- what stands in round t before the place j; lr: the round in which a node was changed last -/
structure Inv (E : List Edge) (t j : Nat) (s : St) (lr : Nat → Nat) : Prop where
  le : ∀ v, lr v ≤ t
  has : ∀ v, 1 ≤ lr v → ∃ i e, s.l v = some i ∧ E[i]? = some e ∧ e.2.1 = v ∧ lr v ≤ lr e.1 + 1
  tidy : ∀ i e, E[i]? = some e → lr e.1 < (if i < j then t else t - 1) → ∀ x, s.d e.1 = some x → ∃ y, s.d e.2.1 = some y ∧ y ≤ x + e.2.2
  cur : ∀ v, s.c = some v → lr v = t
theorem Inv.step {E : List Edge} {t j : Nat} {s : St} {lr : Nat → Nat} (I : Inv E t j s lr) {e : Edge} (he : E[j]? = some e) : ∃ lr', Inv E t (j + 1) (step s (e, j)) lr' := by
  unfold Bf.step
  cases hd : s.d e.1 with
  | none =>
    refine ⟨lr, I.le, I.has, fun i e' hi hl x hx => ?_, I.cur⟩
    by_cases hij : i = j
    · subst hij
      rw [he] at hi; cases hi
      have hx : s.d e.1 = some x := hx
      rw [hd] at hx; cases hx
    · refine I.tidy i e' hi ?_ x hx
      by_cases h1 : i < j
      · rw [if_pos h1]; rw [if_pos (by omega)] at hl; exact hl
      · rw [if_neg h1]; rw [if_neg (by omega)] at hl; exact hl
  | some x =>
    dsimp only
    cases hb : better s.d e.2.1 (x + e.2.2) with
    | false =>
      rw [if_neg (by simp)]
      refine ⟨lr, I.le, I.has, fun i e' hi hl x' hx => ?_, I.cur⟩
      by_cases hij : i = j
      · subst hij
        rw [he] at hi; cases hi
        rw [hd] at hx; cases hx
        unfold better at hb
        cases hv : s.d e.2.1 with
        | none => rw [hv] at hb; cases hb
        | some y =>
          rw [hv] at hb
          have hb : ¬ (x + e.2.2 < y) := by simpa using hb
          exact ⟨y, rfl, by omega⟩
      · refine I.tidy i e' hi ?_ x' hx
        by_cases h1 : i < j
        · rw [if_pos h1]; rw [if_pos (by omega)] at hl; exact hl
        · rw [if_neg h1]; rw [if_neg (by omega)] at hl; exact hl
    | true =>
      rw [if_pos rfl]
      have hno : ∀ y, s.d e.2.1 = some y → ¬ (y ≤ x + e.2.2) := fun y hy hle => by
        unfold better at hb
        rw [hy] at hb
        have hb : x + e.2.2 < y := by simpa using hb
        omega
      refine ⟨fun u => if u = e.2.1 then t else lr u, fun v => ?_, fun v hv => ?_, fun i e' hi hl x' hx => ?_, fun v hv => ?_⟩
      · split
        · exact Nat.le_refl _
        · exact I.le v
      · dsimp only at hv ⊢
        have mono : ∀ u, lr u ≤ (if u = e.2.1 then t else lr u) := fun u => by
          split
          · exact I.le u
          · exact Nat.le_refl _
        by_cases hve : v = e.2.1
        · subst hve
          refine ⟨j, e, put_same .., he, rfl, ?_⟩
          rw [if_pos rfl]
          by_cases h1 : e.1 = e.2.1
          · rw [if_pos h1]; omega
          · rw [if_neg h1]
            by_cases h2 : lr e.1 < t - 1
            · obtain ⟨y, hy, hle⟩ := I.tidy j e he (by rw [if_neg (Nat.lt_irrefl _)]; exact h2) x hd
              exact absurd hle (hno y hy)
            · omega
        · rw [if_neg hve] at hv ⊢
          obtain ⟨i, e', h1, h2, h3, h4⟩ := I.has v hv
          exact ⟨i, e', by rw [put_ne hve]; exact h1, h2, h3, Nat.le_trans h4 (Nat.add_le_add_right (mono _) 1)⟩
      · dsimp only at hl hx ⊢
        by_cases h1 : e'.1 = e.2.1
        · rw [if_pos h1] at hl
          split at hl <;> omega
        · rw [if_neg h1] at hl
          rw [put_ne h1] at hx
          by_cases hij : i = j
          · subst hij
            rw [he] at hi; cases hi
            rw [hd] at hx; cases hx
            exact ⟨_, put_same .., Int.le_refl _⟩
          · obtain ⟨y, hy, hle⟩ := I.tidy i e' hi (by
              by_cases h2 : i < j
              · rw [if_pos h2]; rw [if_pos (by omega)] at hl; exact hl
              · rw [if_neg h2]; rw [if_neg (by omega)] at hl; exact hl) x' hx
            by_cases h3 : e'.2.1 = e.2.1
            · rw [h3]
              refine ⟨_, put_same .., ?_⟩
              rw [h3] at hy
              have := hno y hy
              omega
            · exact ⟨y, by rw [put_ne h3]; exact hy, hle⟩
      · dsimp only at hv ⊢
        cases hv
        rw [if_pos rfl]
theorem Inv.fold {E : List Edge} {t : Nat} : ∀ (r : List Edge) (j : Nat) (s : St) (lr : Nat → Nat), E.drop j = r → Inv E t j s lr → ∃ lr', Inv E t E.length ((r.zipIdx j).foldl Bf.step s) lr'
  | [], j, s, lr, h, I => by
    have : E.length ≤ j := by
      have := congrArg List.length h
      rw [List.length_drop, List.length_nil] at this
      omega
    refine ⟨lr, I.le, I.has, fun i e hi hl x hx => I.tidy i e hi ?_ x hx, I.cur⟩
    have hlt := (List.getElem?_eq_some_iff.mp hi).1
    rw [if_pos hlt] at hl
    rw [if_pos (by omega)]; exact hl
  | e :: r, j, s, lr, h, I => by
    have he : E[j]? = some e := by
      have := congrArg (·[0]?) h
      simpa using this
    obtain ⟨lr1, I1⟩ := I.step he
    rw [List.zipIdx_cons, List.foldl_cons]
    refine Inv.fold r (j + 1) _ lr1 ?_ I1
    rw [← List.drop_drop, h]; rfl
theorem Inv.next {E : List Edge} {t : Nat} {s : St} {lr : Nat → Nat} (I : Inv E t E.length s lr) : Inv E (t + 1) 0 { s with c := none } lr := by
  refine ⟨fun v => Nat.le_succ_of_le (I.le v), I.has, fun i e hi hl x hx => I.tidy i e hi ?_ x hx, fun v hv => by cases hv⟩
  rw [if_neg (Nat.not_lt_zero _)] at hl
  rw [if_pos (List.getElem?_eq_some_iff.mp hi).1]
  omega
theorem Inv.relax {E : List Edge} : ∀ (n t : Nat) (s : St) (lr : Nat → Nat) (v : Nat), Inv E (t + 1) 0 { s with c := none } lr → (Bf.relax E (n + 1) s).c = some v → ∃ lr', Inv E (t + n + 1) E.length (Bf.relax E (n + 1) s) lr' ∧ lr' v = t + n + 1
  | n, t, s, lr, v, I, hc => by
    have e0 : Bf.relax E (n + 1) s = if (Bf.round E s).c.isNone then Bf.round E s else Bf.relax E n (Bf.round E s) := rfl
    obtain ⟨lr1, I1⟩ := Inv.fold E 0 _ lr rfl I
    have er : (E.zipIdx 0).foldl Bf.step { s with c := none } = Bf.round E s := rfl
    rw [er] at I1
    rw [e0] at hc ⊢
    cases hn : (Bf.round E s).c.isNone with
    | true =>
      rw [hn, if_pos rfl] at hc
      rw [Option.isNone_iff_eq_none] at hn
      rw [hn] at hc; cases hc
    | false =>
      rw [hn, if_neg (by simp)] at hc
      rw [if_neg (by simp)]
      cases n with
      | zero => exact ⟨lr1, I1, I1.cur v hc⟩
      | succ n =>
        obtain ⟨lr2, I2, h2⟩ := Inv.relax n (t + 1) _ lr1 v I1.next hc
        have e : t + 1 + n + 1 = t + (n + 1) + 1 := by omega
        exact ⟨lr2, by rw [← e]; exact I2, by rw [h2]; exact e⟩
theorem Inv.start {E : List Edge} {s : St} : Inv E 1 0 { s with c := none } (fun _ => 0) :=
  ⟨fun _ => Nat.zero_le _, fun v h => absurd h (by simp), fun i e hi hl => by rw [if_neg (Nat.not_lt_zero _)] at hl; exact absurd hl (Nat.not_lt_zero _), fun v h => by cases h⟩

/-! ### the walk back -/
def it (f : Nat → Nat) : Nat → Nat → Nat
  | 0, x => x
  | k + 1, x => f (it f k x)
theorem php : ∀ (n : Nat) (f : Nat → Nat), (∀ i, i ≤ n → f i < n) → ∃ a b, a < b ∧ b ≤ n ∧ f a = f b
  | 0, f, h => absurd (h 0 (Nat.le_refl _)) (Nat.not_lt_zero _)
  | n + 1, f, h => by
    by_cases hx : ∃ a, a ≤ n ∧ f a = f (n + 1)
    · obtain ⟨a, h1, h2⟩ := hx
      exact ⟨a, n + 1, by omega, Nat.le_refl _, h2⟩
    · have hx : ∀ a, a ≤ n → f a ≠ f (n + 1) := fun a h1 h2 => hx ⟨a, h1, h2⟩
      obtain ⟨a, b, h1, h2, h3⟩ := php n (fun i => if f (n + 1) < f i then f i - 1 else f i) fun i hi => by
        have q1 := h i (by omega)
        have q2 := h (n + 1) (Nat.le_refl _)
        have q3 := hx i hi
        split <;> omega
      refine ⟨a, b, h1, by omega, ?_⟩
      have q1 := hx a (by omega)
      have q2 := hx b h2
      split at h3 <;> split at h3 <;> omega
theorem it_add (f : Nat → Nat) (a b x : Nat) : it f (a + b) x = it f b (it f a x) := by
  induction b with
  | zero => rfl
  | succ b ih => show f (it f (a + b) x) = f (it f b (it f a x)); rw [ih]
/-- the node before -/
def prev (E : List Edge) (l : Nat → Option Nat) (v : Nat) : Nat := match l v with
  | some i => match E[i]? with
    | some e => e.1
    | none => 0
  | none => 0
theorem prev_of {E : List Edge} {l : Nat → Option Nat} {v i : Nat} {e : Edge} (h1 : l v = some i) (h2 : E[i]? = some e) : prev E l v = e.1 := by
  unfold prev; rw [h1]; dsimp only; rw [h2]
def Known (E : List Edge) (l : Nat → Option Nat) (v : Nat) : Prop := ∃ i e, l v = some i ∧ E[i]? = some e
theorem walk_back {E : List Edge} {n : Nat} {s : St} {lr : Nat → Nat} {v : Nat} (I : Inv E n E.length s lr) (hv : lr v = n) (hn : v < n) (hE : ∀ e ∈ E, e.1 < n) :
    (∀ k, Known E s.l (it (prev E s.l) k v) ∧ it (prev E s.l) k v < n) ∧ ∃ p, 1 ≤ p ∧ p ≤ n ∧ it (prev E s.l) (n + p) v = it (prev E s.l) n v := by
  have hlr : ∀ k, n ≤ lr (it (prev E s.l) k v) + k := by
    intro k
    induction k with
    | zero => show n ≤ lr v + 0; omega
    | succ k ih =>
      by_cases h0 : lr (it (prev E s.l) k v) = 0
      · show n ≤ lr (prev E s.l (it (prev E s.l) k v)) + (k + 1)
        omega
      · obtain ⟨i, e, h1, h2, h3, h4⟩ := I.has _ (Nat.pos_of_ne_zero h0)
        have hp : prev E s.l (it (prev E s.l) k v) = e.1 := prev_of h1 h2
        show n ≤ lr (prev E s.l (it (prev E s.l) k v)) + (k + 1)
        rw [hp]; omega
  have kn : ∀ k, k < n → Known E s.l (it (prev E s.l) k v) := fun k hk => by
    obtain ⟨i, e, h1, h2, _, _⟩ := I.has (it (prev E s.l) k v) (by have := hlr k; omega)
    exact ⟨i, e, h1, h2⟩
  have bd : ∀ k, Known E s.l (it (prev E s.l) k v) → it (prev E s.l) (k + 1) v < n := fun k ⟨i, e, h1, h2⟩ => by
    have hp : prev E s.l (it (prev E s.l) k v) = e.1 := prev_of h1 h2
    show prev E s.l (it (prev E s.l) k v) < n
    rw [hp]
    exact hE e (List.mem_of_getElem? h2)
  have bdn : ∀ k, k ≤ n → it (prev E s.l) k v < n := fun k hk => by
    cases k with
    | zero => exact hn
    | succ k => exact bd k (kn k hk)
  obtain ⟨a, b, h1, h2, h3⟩ := php n (fun k => it (prev E s.l) k v) bdn
  have per : ∀ k, a ≤ k → it (prev E s.l) (k + (b - a)) v = it (prev E s.l) k v := fun k hk => by
    have e1 : k + (b - a) = b + (k - a) := by omega
    have e2 : k = a + (k - a) := by omega
    rw [e1, it_add, ← h3, ← it_add, ← e2]
  have all : ∀ m k, k ≤ m → Known E s.l (it (prev E s.l) k v) := by
    intro m
    induction m with
    | zero => intro k hk; exact kn k (by omega)
    | succ m ih =>
      intro k hk
      by_cases hkn : k < n
      · exact kn k hkn
      · have := per (k - (b - a)) (by omega)
        have e : k - (b - a) + (b - a) = k := by omega
        rw [e] at this
        rw [this]
        exact ih _ (by omega)
  refine ⟨fun k => ⟨all k k (Nat.le_refl _), ?_⟩, b - a, by omega, by omega, per n (by omega)⟩
  cases k with
  | zero => exact hn
  | succ k => exact bd k (all k k (Nat.le_refl _))

/-! ### bounds, the nodes that have a distance -/
def Bnd (d : Nat → Option Int) (K : Int) : Prop := ∀ v y, d v = some y → -K ≤ y ∧ y ≤ K
def Dom (d : Nat → Option Int) (n : Nat) : Prop := ∀ v y, d v = some y → v < n
theorem step_bnd {s : St} {p : Edge × Nat} {K B : Int} (h : Bnd s.d K) (hB : -B ≤ p.1.2.2 ∧ p.1.2.2 ≤ B) : Bnd (step s p).d (K + B) := by
  have hb0 : 0 ≤ B := by omega
  unfold step
  cases hd : s.d p.1.1 with
  | none => intro v y hy; have := h v y hy; omega
  | some x =>
    dsimp only
    split
    · intro v y hy
      have hy : put s.d p.1.2.1 (x + p.1.2.2) v = some y := hy
      by_cases hv : v = p.1.2.1
      · subst hv
        rw [put_same] at hy
        cases hy
        have := h _ _ hd
        omega
      · rw [put_ne hv] at hy
        have := h v y hy
        omega
    · intro v y hy; have := h v y hy; omega
theorem fold_bnd {B : Int} : ∀ (l : List (Edge × Nat)) (s : St) (K : Int), Bnd s.d K → (∀ p ∈ l, -B ≤ p.1.2.2 ∧ p.1.2.2 ≤ B) → Bnd (l.foldl step s).d (K + l.length * B)
  | [], s, K, h, _ => by intro v y hy; have := h v y hy; simp; omega
  | p :: l, s, K, h, hB => by
    rw [List.foldl_cons]
    have := fold_bnd l _ _ (step_bnd h (hB p List.mem_cons_self)) fun q hq => hB q (List.mem_cons_of_mem _ hq)
    have e : K + B + (l.length : Int) * B = K + ((p :: l).length : Int) * B := by
      rw [List.length_cons]
      have : ((l.length + 1 : Nat) : Int) = (l.length : Int) + 1 := by omega
      rw [this, Int.add_mul]; omega
    rw [← e]; exact this
theorem zip_mem {E : List Edge} {p : Edge × Nat} (h : p ∈ E.zipIdx) : p.1 ∈ E := by
  obtain ⟨e, i⟩ := p
  have := List.mem_zipIdx h
  simp at this
  exact this.2 ▸ List.getElem_mem _
theorem round_bnd {E : List Edge} {s : St} {K B : Int} (h : Bnd s.d K) (hB : ∀ e ∈ E, -B ≤ e.2.2 ∧ e.2.2 ≤ B) : Bnd (round E s).d (K + E.length * B) := by
  have := fold_bnd E.zipIdx { s with c := none } K h fun p hp => hB _ (zip_mem hp)
  rw [List.length_zipIdx] at this
  exact this
theorem relax_bnd {E : List Edge} {B : Int} (h0 : 0 ≤ B) (hB : ∀ e ∈ E, -B ≤ e.2.2 ∧ e.2.2 ≤ B) : ∀ (n : Nat) (s : St) (K : Int), Bnd s.d K → Bnd (relax E n s).d (K + n * (E.length * B))
  | 0, s, K, h => by intro v y hy; have := h v y hy; simp; omega
  | n + 1, s, K, h => by
    have r := round_bnd h hB
    have hp : 0 ≤ (E.length : Int) * B := Int.mul_nonneg (by omega) h0
    have e : ((n + 1 : Nat) : Int) * (E.length * B) = n * (E.length * B) + E.length * B := by
      have : ((n + 1 : Nat) : Int) = (n : Int) + 1 := by omega
      rw [this, Int.add_mul]; omega
    rw [e]
    have hnp : 0 ≤ (n : Int) * (E.length * B) := Int.mul_nonneg (by omega) hp
    unfold relax
    split
    · intro v y hy; have := r v y hy; omega
    · intro v y hy
      have := relax_bnd h0 hB n _ _ r v y hy
      omega
theorem step_dom {s : St} {p : Edge × Nat} {n : Nat} (h : Dom s.d n) (hp : p.1.2.1 < n) : Dom (step s p).d n := by
  unfold step
  cases hd : s.d p.1.1 with
  | none => exact h
  | some x =>
    dsimp only
    split
    · intro v y hy
      have hy : put s.d p.1.2.1 (x + p.1.2.2) v = some y := hy
      by_cases hv : v = p.1.2.1
      · rw [hv]; exact hp
      · rw [put_ne hv] at hy
        exact h v y hy
    · exact h
theorem step_keep {s : St} {p : Edge × Nat} {v : Nat} (h : (s.d v).isSome = true) : ((step s p).d v).isSome = true := by
  unfold step
  cases hd : s.d p.1.1 with
  | none => exact h
  | some x =>
    dsimp only
    split
    · show (put s.d p.1.2.1 (x + p.1.2.2) v).isSome = true
      unfold put
      split
      · rfl
      · exact h
    · exact h
theorem fold_dom {n : Nat} : ∀ (l : List (Edge × Nat)) (s : St), Dom s.d n → (∀ p ∈ l, p.1.2.1 < n) → Dom (l.foldl step s).d n
  | [], s, h, _ => h
  | p :: l, s, h, hl => by
    rw [List.foldl_cons]
    exact fold_dom l _ (step_dom h (hl p List.mem_cons_self)) fun q hq => hl q (List.mem_cons_of_mem _ hq)
theorem fold_keep {v : Nat} : ∀ (l : List (Edge × Nat)) (s : St), (s.d v).isSome = true → ((l.foldl step s).d v).isSome = true
  | [], s, h => h
  | p :: l, s, h => by
    rw [List.foldl_cons]
    exact fold_keep l _ (step_keep h)
theorem relax_dom {E : List Edge} {N : Nat} (hE : ∀ e ∈ E, e.2.1 < N) : ∀ (n : Nat) (s : St), Dom s.d N → Dom (relax E n s).d N
  | 0, s, h => h
  | n + 1, s, h => by
    have r : Dom (round E s).d N := fold_dom E.zipIdx { s with c := none } h fun p hp => hE _ (zip_mem hp)
    unfold relax
    split
    · exact r
    · exact relax_dom hE n _ r
theorem relax_keep {E : List Edge} {v : Nat} : ∀ (n : Nat) (s : St), (s.d v).isSome = true → ((relax E n s).d v).isSome = true
  | 0, s, h => h
  | n + 1, s, h => by
    have r : ((round E s).d v).isSome = true := fold_keep E.zipIdx { s with c := none } h
    unfold relax
    split
    · exact r
    · exact relax_keep n _ r
/-- the changed node is a node -/
theorem step_c {s : St} {p : Edge × Nat} {n : Nat} (h : ∀ v, s.c = some v → v < n) (hp : p.1.2.1 < n) : ∀ v, (step s p).c = some v → v < n := by
  unfold step
  cases hd : s.d p.1.1 with
  | none => exact h
  | some x =>
    dsimp only
    split
    · intro v hv; cases hv; exact hp
    · exact h
theorem fold_c {n : Nat} : ∀ (l : List (Edge × Nat)) (s : St), (∀ v, s.c = some v → v < n) → (∀ p ∈ l, p.1.2.1 < n) → ∀ v, (l.foldl step s).c = some v → v < n
  | [], s, h, _ => h
  | p :: l, s, h, hl => by
    rw [List.foldl_cons]
    exact fold_c l _ (step_c h (hl p List.mem_cons_self)) fun q hq => hl q (List.mem_cons_of_mem _ hq)
theorem relax_c {E : List Edge} {N : Nat} (hE : ∀ e ∈ E, e.2.1 < N) : ∀ (n : Nat) (s : St), (∀ v, s.c = some v → v < N) → ∀ v, (relax E n s).c = some v → v < N
  | 0, s, h => h
  | n + 1, s, h => by
    have r : ∀ v, (round E s).c = some v → v < N := fold_c E.zipIdx { s with c := none } (fun v z => by cases z) fun p hp => hE _ (zip_mem hp)
    unfold relax
    split
    · exact r
    · exact relax_c hE n _ r
end Bf

/-! walks; when the rounds come to rest -/
namespace Bf
def Walk (E : List Edge) : Nat → Nat → List Edge → Prop
  | u, v, [] => u = v
  | u, v, e :: l => e ∈ E ∧ e.1 = u ∧ Walk E e.2.1 v l
def wt : List Edge → Int
  | [] => 0
  | e :: l => e.2.2 + wt l
theorem wt_append : ∀ a b : List Edge, wt (a ++ b) = wt a + wt b
  | [], b => by show wt b = 0 + wt b; omega
  | e :: a, b => by show e.2.2 + wt (a ++ b) = e.2.2 + wt a + wt b; rw [wt_append a b]; omega
theorem Walk.append {E : List Edge} : ∀ {a b : List Edge} {u v w : Nat}, Walk E u v a → Walk E v w b → Walk E u w (a ++ b)
  | [], b, u, v, w, h, k => by have : u = v := h; subst this; exact k
  | e :: a, b, u, v, w, h, k => ⟨h.1, h.2.1, Walk.append h.2.2 k⟩
def nd : Nat → List Edge → Nat → Nat
  | u, _, 0 => u
  | u, [], _ + 1 => u
  | u, e :: l, i + 1 => nd e.2.1 l i
theorem Walk.cut {E : List Edge} : ∀ {l : List Edge} {u v : Nat} (i : Nat), Walk E u v l → Walk E u (nd u l i) (l.take i) ∧ Walk E (nd u l i) v (l.drop i)
  | [], u, v, 0, h => ⟨rfl, h⟩
  | [], u, v, i + 1, h => ⟨rfl, h⟩
  | e :: l, u, v, 0, h => ⟨rfl, h⟩
  | e :: l, u, v, i + 1, h => by
    obtain ⟨h1, h2⟩ := Walk.cut i h.2.2
    exact ⟨⟨h.1, h.2.1, h1⟩, h2⟩
def VEd (E : List Edge) (n : Nat) : Prop := ∀ e ∈ E, e.1 < n ∧ e.2.1 < n
theorem Walk.bd {E : List Edge} {n : Nat} (hE : VEd E n) : ∀ {l : List Edge} {u v : Nat} (i : Nat), Walk E u v l → u < n → nd u l i < n
  | [], u, v, 0, h, hu => hu
  | [], u, v, i + 1, h, hu => hu
  | e :: l, u, v, 0, h, hu => hu
  | e :: l, u, v, i + 1, h, hu => Walk.bd hE i h.2.2 (hE e h.1).2
/-- no closed walk is negative -/
def NoNeg (E : List Edge) : Prop := ∀ u l, Walk E u u l → 0 ≤ wt l
theorem shorten {E : List Edge} {n : Nat} (hE : VEd E n) (hN : NoNeg E) : ∀ (k : Nat) (l : List Edge) (u v : Nat), l.length ≤ k → u < n → Walk E u v l → ∃ l', Walk E u v l' ∧ l'.length < n ∧ wt l' ≤ wt l := by
  intro k
  induction k with
  | zero =>
    intro l u v hl hu h
    have : l = [] := List.length_eq_zero_iff.mp (by omega)
    subst this
    exact ⟨[], h, by show 0 < n; omega, Int.le_refl _⟩
  | succ k ih =>
    intro l u v hl hu h
    by_cases hn : l.length < n
    · exact ⟨l, h, hn, Int.le_refl _⟩
    · obtain ⟨a, b, h1, h2, h3⟩ := php n (fun i => nd u l i) fun i _ => h.bd hE i hu
      obtain ⟨wa, wb⟩ := h.cut a
      have wm : Walk E (nd u l a) v (l.drop a) := wb
      obtain ⟨wc, wd⟩ := h.cut b
      -- the middle
      have e1 : l.drop a = (l.drop a).take (b - a) ++ l.drop b := by
        have := (List.take_append_drop (b - a) (l.drop a)).symm
        rw [List.drop_drop] at this
        have e : a + (b - a) = b := by omega
        rw [e] at this
        exact this
      have key : ∀ (l : List Edge) (u v a b : Nat), a ≤ b → Walk E u v l → Walk E (nd u l a) (nd u l b) ((l.drop a).take (b - a)) := by
        intro l
        induction l with
        | nil =>
          intro u v a b hab h
          have e1 : nd u [] a = u := by cases a <;> rfl
          have e2 : nd u [] b = u := by cases b <;> rfl
          rw [e1, e2, List.drop_nil, List.take_nil]; rfl
        | cons e l ihl =>
          intro u v a b hab h
          cases a with
          | zero => exact (h.cut b).1
          | succ a =>
            cases b with
            | zero => omega
            | succ b =>
              have := ihl e.2.1 v a b (by omega) h.2.2
              have e0 : b + 1 - (a + 1) = b - a := by omega
              rw [e0]
              exact this
      have mid := key l u v a b (by omega) h
      have hz : 0 ≤ wt ((l.drop a).take (b - a)) := hN (nd u l a) _ (by rw [← h3] at mid; exact mid)
      rw [← h3] at wd
      obtain ⟨l', g1, g2, g3⟩ := ih (l.take a ++ l.drop b) u v (by rw [List.length_append, List.length_take, List.length_drop]; omega) hu (wa.append wd)
      refine ⟨l', g1, g2, ?_⟩
      have ew : wt l = wt (l.take a) + (wt ((l.drop a).take (b - a)) + wt (l.drop b)) := by
        have e2 : l = l.take a ++ l.drop a := (List.take_append_drop a l).symm
        have e3 := congrArg wt e2
        rw [wt_append] at e3
        have e4 := congrArg wt e1
        rw [wt_append] at e4
        omega
      rw [wt_append] at g3
      omega
/-! ### the rounds -/
theorem step_le {s : St} {p : Edge × Nat} {v : Nat} {y : Int} (h : s.d v = some y) : ∃ y', (step s p).d v = some y' ∧ y' ≤ y := by
  unfold step
  cases hd : s.d p.1.1 with
  | none => exact ⟨y, h, Int.le_refl _⟩
  | some x =>
    dsimp only
    cases hb : better s.d p.1.2.1 (x + p.1.2.2) with
    | false => exact ⟨y, h, Int.le_refl _⟩
    | true =>
      rw [if_pos rfl]
      show ∃ y', put s.d p.1.2.1 (x + p.1.2.2) v = some y' ∧ y' ≤ y
      by_cases hv : v = p.1.2.1
      · subst hv
        refine ⟨_, put_same .., ?_⟩
        unfold better at hb
        rw [h] at hb
        have : x + p.1.2.2 < y := by simpa using hb
        omega
      · exact ⟨y, by rw [put_ne hv]; exact h, Int.le_refl _⟩
theorem fold_le {v : Nat} : ∀ (l : List (Edge × Nat)) (s : St) (y : Int), s.d v = some y → ∃ y', (l.foldl step s).d v = some y' ∧ y' ≤ y
  | [], s, y, h => ⟨y, h, Int.le_refl _⟩
  | p :: l, s, y, h => by
    obtain ⟨y1, h1, h2⟩ := step_le (p := p) h
    obtain ⟨y2, h3, h4⟩ := fold_le l _ y1 h1
    exact ⟨y2, by rw [List.foldl_cons]; exact h3, by omega⟩
theorem step_edge {s : St} {p : Edge × Nat} {x : Int} (h : s.d p.1.1 = some x) : ∃ y, (step s p).d p.1.2.1 = some y ∧ y ≤ x + p.1.2.2 := by
  unfold step
  rw [h]
  dsimp only
  cases hb : better s.d p.1.2.1 (x + p.1.2.2) with
  | true => exact ⟨_, put_same .., Int.le_refl _⟩
  | false =>
    rw [if_neg (by simp)]
    unfold better at hb
    cases hv : s.d p.1.2.1 with
    | none => rw [hv] at hb; cases hb
    | some y =>
      rw [hv] at hb
      have : ¬ (x + p.1.2.2 < y) := by simpa using hb
      exact ⟨y, rfl, by omega⟩
theorem fold_edge : ∀ (l : List (Edge × Nat)) (s : St) (p : Edge × Nat) (x : Int), p ∈ l → s.d p.1.1 = some x → ∃ y, (l.foldl step s).d p.1.2.1 = some y ∧ y ≤ x + p.1.2.2
  | q :: l, s, p, x, hp, h => by
    rw [List.foldl_cons]
    rcases List.mem_cons.mp hp with rfl | hp
    · obtain ⟨y, h1, h2⟩ := step_edge h
      obtain ⟨y', h3, h4⟩ := fold_le l _ y h1
      exact ⟨y', h3, by omega⟩
    · obtain ⟨x', h1, h2⟩ := step_le (p := q) h
      obtain ⟨y, h3, h4⟩ := fold_edge l _ p x' hp h1
      exact ⟨y, h3, by omega⟩
theorem zip_of {E : List Edge} {e : Edge} (h : e ∈ E) : ∃ i, (e, i) ∈ E.zipIdx ∧ E[i]? = some e := by
  obtain ⟨i, hi, rfl⟩ := List.mem_iff_getElem.mp h
  refine ⟨i, ?_, List.getElem?_eq_getElem hi⟩
  refine List.mem_iff_getElem?.mpr ⟨i, ?_⟩
  rw [List.getElem?_zipIdx, List.getElem?_eq_getElem hi]
  simp
theorem round_edge {E : List Edge} {s : St} {e : Edge} {x : Int} (he : e ∈ E) (h : s.d e.1 = some x) : ∃ y, (round E s).d e.2.1 = some y ∧ y ≤ x + e.2.2 := by
  obtain ⟨i, hi, _⟩ := zip_of he
  exact fold_edge E.zipIdx { s with c := none } (e, i) x hi h
theorem round_le {E : List Edge} {s : St} {v : Nat} {y : Int} (h : s.d v = some y) : ∃ y', (round E s).d v = some y' ∧ y' ≤ y := fold_le E.zipIdx { s with c := none } y h
theorem walk_snoc {E : List Edge} : ∀ {l : List Edge} {u v : Nat} {e : Edge}, Walk E u v (l ++ [e]) → Walk E u e.1 l ∧ e ∈ E ∧ e.2.1 = v
  | [], u, v, e, h => ⟨h.2.1.symm, h.1, h.2.2⟩
  | f :: l, u, v, e, h => by
    obtain ⟨h1, h2, h3⟩ := walk_snoc (l := l) h.2.2
    exact ⟨⟨h.1, h.2.1, h1⟩, h2, h3⟩
/-- what t rounds have found -/
def Upto (E : List Edge) (d0 : Nat → Option Int) (t : Nat) (d : Nat → Option Int) : Prop := ∀ u a l v, d0 u = some a → Walk E u v l → l.length ≤ t → ∃ y, d v = some y ∧ y ≤ a + wt l
def From (E : List Edge) (d0 : Nat → Option Int) (d : Nat → Option Int) : Prop := ∀ v y, d v = some y → ∃ u a l, d0 u = some a ∧ Walk E u v l ∧ y = a + wt l
theorem Upto.round {E : List Edge} {d0 : Nat → Option Int} {t : Nat} {s : St} (h : Upto E d0 t s.d) : Upto E d0 (t + 1) (round E s).d := by
  intro u a l v ha hw hl
  by_cases hlt : l.length ≤ t
  · obtain ⟨y, h1, h2⟩ := h u a l v ha hw hlt
    obtain ⟨y', h3, h4⟩ := round_le (E := E) h1
    exact ⟨y', h3, by omega⟩
  · have hne : l ≠ [] := fun z => by rw [z] at hlt; simp at hlt
    have el : l.dropLast ++ [l.getLast hne] = l := List.dropLast_concat_getLast hne
    generalize l.getLast hne = e at el
    generalize l.dropLast = l0 at el
    subst el
    obtain ⟨w1, w2, w3⟩ := walk_snoc hw
    rw [List.length_append, List.length_singleton] at hl
    obtain ⟨x, h1, h2⟩ := h u a l0 e.1 ha w1 (by omega)
    obtain ⟨y, h3, h4⟩ := round_edge w2 h1
    refine ⟨y, by rw [← w3]; exact h3, ?_⟩
    rw [wt_append]
    show y ≤ a + (wt l0 + (e.2.2 + 0))
    omega
theorem From.step {E : List Edge} {d0 : Nat → Option Int} {s : St} (h : From E d0 s.d) {p : Edge × Nat} (hp : p.1 ∈ E) : From E d0 (step s p).d := by
  unfold Bf.step
  cases hd : s.d p.1.1 with
  | none => exact h
  | some x =>
    dsimp only
    split
    · intro v y hy
      have hy : put s.d p.1.2.1 (x + p.1.2.2) v = some y := hy
      by_cases hv : v = p.1.2.1
      · subst hv
        rw [put_same] at hy
        cases hy
        obtain ⟨u, a, l, g1, g2, g3⟩ := h _ _ hd
        refine ⟨u, a, l ++ [p.1], g1, g2.append ⟨hp, rfl, rfl⟩, ?_⟩
        rw [wt_append]
        show x + p.1.2.2 = a + (wt l + (p.1.2.2 + 0))
        omega
      · rw [put_ne hv] at hy
        exact h v y hy
    · exact h
theorem From.fold {E : List Edge} {d0 : Nat → Option Int} : ∀ (l : List (Edge × Nat)) (s : St), From E d0 s.d → (∀ p ∈ l, p.1 ∈ E) → From E d0 (l.foldl Bf.step s).d
  | [], s, h, _ => h
  | p :: l, s, h, hl => by
    rw [List.foldl_cons]
    exact From.fold l _ (h.step (hl p List.mem_cons_self)) fun q hq => hl q (List.mem_cons_of_mem _ hq)
theorem From.round {E : List Edge} {d0 : Nat → Option Int} {s : St} (h : From E d0 s.d) : From E d0 (round E s).d := From.fold E.zipIdx { s with c := none } h fun p hp => zip_mem hp
/-- at rest nothing changes -/
theorem rest_fold {E : List Edge} {d0 : Nat → Option Int} {n : Nat} (n1 : 1 ≤ n) (hE : VEd E n) (hN : NoNeg E) (h0 : Dom d0 n) : ∀ (l : List (Edge × Nat)) (s : St), Upto E d0 (n - 1) s.d → From E d0 s.d → (∀ p ∈ l, p.1 ∈ E) → l.foldl step s = s
  | [], s, _, _, _ => rfl
  | p :: l, s, hu, hf, hl => by
    have hs : step s p = s := by
      unfold step
      cases hd : s.d p.1.1 with
      | none => rfl
      | some x =>
        dsimp only
        obtain ⟨u, a, l1, g1, g2, g3⟩ := hf _ _ hd
        have hp := hl p List.mem_cons_self
        obtain ⟨l2, k1, k2, k3⟩ := shorten hE hN (l1 ++ [p.1]).length (l1 ++ [p.1]) u p.1.2.1 (Nat.le_refl _) (h0 u a g1) (g2.append ⟨hp, rfl, rfl⟩)
        obtain ⟨y, m1, m2⟩ := hu u a l2 p.1.2.1 g1 k1 (by omega)
        rw [wt_append] at k3
        have k3 : wt l2 ≤ wt l1 + (p.1.2.2 + 0) := k3
        have hb : better s.d p.1.2.1 (x + p.1.2.2) = false := by
          unfold better
          rw [m1]
          exact decide_eq_false (by omega)
        rw [hb]; rfl
    rw [List.foldl_cons, hs]
    exact rest_fold n1 hE hN h0 l s hu hf fun q hq => hl q (List.mem_cons_of_mem _ hq)
theorem rest {E : List Edge} {d0 : Nat → Option Int} {n : Nat} (hE : VEd E n) (hN : NoNeg E) (h0 : Dom d0 n) : ∀ (m t : Nat) (s : St), t + m = n → Upto E d0 t s.d → From E d0 s.d → (1 ≤ m ∨ s.c = none) → (relax E m s).c = none
  | 0, t, s, ht, hu, hf, hc => hc.elim (fun z => by omega) id
  | m + 1, t, s, ht, hu, hf, hc => by
    show (if (round E s).c.isNone then round E s else relax E m (round E s)).c = none
    split
    · rename_i z
      exact Option.isNone_iff_eq_none.mp z
    · rename_i z
      refine rest hE hN h0 m (t + 1) _ (by omega) hu.round hf.round ?_
      cases m with
      | succ m => exact .inl (by omega)
      | zero =>
        right
        have : round E s = { s with c := none } := rest_fold (by omega) hE hN h0 E.zipIdx { s with c := none } (by rw [show n - 1 = t by omega]; exact hu) hf fun p hp => zip_mem hp
        rw [this]
theorem conv {E : List Edge} {d0 : Nat → Option Int} {n : Nat} (hE : VEd E n) (hN : NoNeg E) (h0 : Dom d0 n) : (relax E n ⟨d0, fun _ => none, none⟩).c = none := by
  refine rest hE hN h0 n 0 ⟨d0, fun _ => none, none⟩ (by omega) (fun u a l v ha hw hl => ?_) (fun v y hy => ⟨v, y, [], hy, rfl, by show y = y + 0; omega⟩) (.inr rfl)
  have : l = [] := List.length_eq_zero_iff.mp (by omega)
  subst this
  have : u = v := hw
  subst this
  exact ⟨a, ha, by show a ≤ a + 0; omega⟩
/-- a potential tells that no closed walk is negative -/
theorem noneg_of {E : List Edge} (p : Nat → Int) (h : ∀ e ∈ E, p e.2.1 ≤ p e.1 + e.2.2) : NoNeg E := by
  have key : ∀ (l : List Edge) (u v : Nat), Walk E u v l → p v ≤ p u + wt l := by
    intro l
    induction l with
    | nil => intro u v w; have : u = v := w; subst this; show p u ≤ p u + 0; omega
    | cons e l ih =>
      intro u v w
      have h1 := ih _ _ w.2.2
      have h2 := h e w.1
      have h3 : e.1 = u := w.2.1
      subst h3
      show p v ≤ p e.1 + (e.2.2 + wt l)
      omega
  intro u l w
  have := key l u u w
  omega
/-! ### what stands at rest -/
theorem step_none {s : St} {p : Edge × Nat} (h : (step s p).c = none) : step s p = s ∧ s.c = none := by
  unfold step at h ⊢
  cases hd : s.d p.1.1 with
  | none => rw [hd] at h; exact ⟨rfl, h⟩
  | some x =>
    rw [hd] at h
    dsimp only at h ⊢
    split at h
    · cases h
    · rename_i hb
      exact ⟨if_neg hb, h⟩
theorem fold_none : ∀ (l : List (Edge × Nat)) (s : St), (l.foldl step s).c = none → l.foldl step s = s ∧ ∀ p ∈ l, step s p = s
  | [], s, _ => ⟨rfl, fun p hp => absurd hp (by simp)⟩
  | p :: l, s, h => by
    rw [List.foldl_cons] at h ⊢
    obtain ⟨h1, h2⟩ := fold_none l _ h
    rw [h1] at h
    obtain ⟨h3, _⟩ := step_none h
    rw [h3] at h1 h2 ⊢
    refine ⟨h1, fun q hq => ?_⟩
    rcases List.mem_cons.mp hq with rfl | hq
    · exact h3
    · exact h2 q hq
/-- every edge is relaxed -/
def Tidy (E : List Edge) (d : Nat → Option Int) : Prop := ∀ e ∈ E, ∀ x, d e.1 = some x → ∃ y, d e.2.1 = some y ∧ y ≤ x + e.2.2
theorem round_none {E : List Edge} {s : St} (h : (round E s).c = none) : round E s = { s with c := none } ∧ Tidy E (round E s).d := by
  obtain ⟨h1, h2⟩ := fold_none E.zipIdx { s with c := none } h
  have e1 : round E s = { s with c := none } := h1
  refine ⟨e1, fun e he x hx => ?_⟩
  obtain ⟨y, k1, k2⟩ := round_edge (s := s) he (by rw [e1] at hx; exact hx)
  exact ⟨y, k1, k2⟩
theorem relax_tidy {E : List Edge} : ∀ (n : Nat) (s : St), 1 ≤ n → (relax E n s).c = none → Tidy E (relax E n s).d
  | n + 1, s, _, h => by
    have h : (if (round E s).c.isNone then round E s else relax E n (round E s)).c = none := h
    show Tidy E (if (round E s).c.isNone then round E s else relax E n (round E s)).d
    split
    · rename_i z
      exact (round_none (Option.isNone_iff_eq_none.mp z)).2
    · rename_i z
      rw [if_neg z] at h
      cases n with
      | zero => exact absurd (Option.isNone_iff_eq_none.mpr h) z
      | succ n => exact relax_tidy (n + 1) _ (by omega) h
theorem relax_from {E : List Edge} {d0 : Nat → Option Int} : ∀ (n : Nat) (s : St), From E d0 s.d → From E d0 (relax E n s).d
  | 0, s, h => h
  | n + 1, s, h => by
    show From E d0 (if (round E s).c.isNone then round E s else relax E n (round E s)).d
    split
    · exact h.round
    · exact relax_from n _ h.round
theorem relax_le {E : List Edge} {v : Nat} : ∀ (n : Nat) (s : St) (y : Int), s.d v = some y → ∃ y', (relax E n s).d v = some y' ∧ y' ≤ y
  | 0, s, y, h => ⟨y, h, Int.le_refl _⟩
  | n + 1, s, y, h => by
    show ∃ y', (if (round E s).c.isNone then round E s else relax E n (round E s)).d v = some y' ∧ y' ≤ y
    obtain ⟨y1, h1, h2⟩ := round_le (E := E) h
    split
    · exact ⟨y1, h1, h2⟩
    · obtain ⟨y2, h3, h4⟩ := relax_le n _ y1 h1
      exact ⟨y2, h3, by omega⟩
theorem Tidy.walk {E : List Edge} {d : Nat → Option Int} (t : Tidy E d) : ∀ {l : List Edge} {u v : Nat} {x : Int}, Walk E u v l → d u = some x → ∃ y, d v = some y ∧ y ≤ x + wt l
  | [], u, v, x, h, hx => by
    have : u = v := h
    subst this
    exact ⟨x, hx, by show x ≤ x + 0; omega⟩
  | e :: l, u, v, x, h, hx => by
    have h3 : e.1 = u := h.2.1
    subst h3
    obtain ⟨y, h1, h2⟩ := t e h.1 x hx
    obtain ⟨z, k1, k2⟩ := t.walk h.2.2 h1
    exact ⟨z, k1, by show z ≤ x + (e.2.2 + wt l); omega⟩
end Bf

/-! who came when: the ways back end -/
namespace Bf
structure Jn (E : List Edge) (d0 : Nat → Option Int) (s : St) (ts : Nat → Nat) (now : Nat) : Prop where
  le : ∀ v, ts v ≤ now
  pr : ∀ v i, s.l v = some i → ∃ e x y, E[i]? = some e ∧ e.2.1 = v ∧ s.d e.1 = some x ∧ s.d v = some y ∧ x + e.2.2 ≤ y ∧ (ts e.1 < ts v ∨ x + e.2.2 < y)
  st : ∀ v y, s.d v = some y → s.l v = none → d0 v = some y
theorem Jn.more {E : List Edge} {d0 : Nat → Option Int} {s : St} {ts : Nat → Nat} {now k : Nat} (J : Jn E d0 s ts now) (h : now ≤ k) : Jn E d0 s ts k := ⟨fun v => Nat.le_trans (J.le v) h, J.pr, J.st⟩
theorem Jn.step {E : List Edge} {d0 : Nat → Option Int} {s : St} {ts : Nat → Nat} {now i : Nat} {e : Edge} (J : Jn E d0 s ts now) (he : E[i]? = some e) : ∃ ts', Jn E d0 (step s (e, i)) ts' (now + 1) := by
  unfold Bf.step
  cases hd : s.d e.1 with
  | none => exact ⟨ts, J.more (Nat.le_succ _)⟩
  | some x =>
    dsimp only
    cases hb : better s.d e.2.1 (x + e.2.2) with
    | false => exact ⟨ts, J.more (Nat.le_succ _)⟩
    | true =>
      rw [if_pos rfl]
      have lt : ∀ y, s.d e.2.1 = some y → x + e.2.2 < y := fun y hy => by
        unfold better at hb
        rw [hy] at hb
        simpa using hb
      refine ⟨fun u => if u = e.2.1 then now + 1 else ts u, fun v => ?_, fun u j hj => ?_, fun u y hu hl => ?_⟩
      · show (if v = e.2.1 then now + 1 else ts v) ≤ now + 1
        split
        · exact Nat.le_refl _
        · exact Nat.le_succ_of_le (J.le v)
      · have hj : put s.l e.2.1 i u = some j := hj
        show ∃ e' x' y', E[j]? = some e' ∧ e'.2.1 = u ∧ put s.d e.2.1 (x + e.2.2) e'.1 = some x' ∧ put s.d e.2.1 (x + e.2.2) u = some y' ∧ x' + e'.2.2 ≤ y' ∧ ((if e'.1 = e.2.1 then now + 1 else ts e'.1) < (if u = e.2.1 then now + 1 else ts u) ∨ x' + e'.2.2 < y')
        by_cases hv : u = e.2.1
        · subst hv
          rw [put_same] at hj
          cases hj
          by_cases hs : e.1 = e.2.1
          · have hx : s.d e.2.1 = some x := by rw [← hs]; exact hd
            have := lt x hx
            refine ⟨e, x + e.2.2, x + e.2.2, he, rfl, by rw [hs]; exact put_same .., put_same .., by omega, .inr (by omega)⟩
          · refine ⟨e, x, x + e.2.2, he, rfl, by rw [put_ne hs]; exact hd, put_same .., Int.le_refl _, .inl ?_⟩
            rw [if_neg hs, if_pos rfl]
            have := J.le e.1
            omega
        · rw [put_ne hv] at hj
          obtain ⟨e', x', y', g1, g2, g3, g4, g5, g6⟩ := J.pr u j hj
          rw [put_ne hv]
          by_cases hs : e'.1 = e.2.1
          · have := lt x' (by rw [← hs]; exact g3)
            exact ⟨e', x + e.2.2, y', g1, g2, by rw [hs]; exact put_same .., g4, by omega, .inr (by omega)⟩
          · refine ⟨e', x', y', g1, g2, by rw [put_ne hs]; exact g3, g4, g5, ?_⟩
            rw [if_neg hs, if_neg hv]
            exact g6
      · have hu : put s.d e.2.1 (x + e.2.2) u = some y := hu
        have hl : put s.l e.2.1 i u = none := hl
        by_cases hv : u = e.2.1
        · subst hv
          rw [put_same] at hl; cases hl
        · rw [put_ne hv] at hu hl
          exact J.st u y hu hl
theorem Jn.fold {E : List Edge} {d0 : Nat → Option Int} : ∀ (l : List (Edge × Nat)) (s : St) (ts : Nat → Nat) (now : Nat), Jn E d0 s ts now → (∀ p ∈ l, E[p.2]? = some p.1) → ∃ ts', Jn E d0 (l.foldl Bf.step s) ts' (now + l.length)
  | [], s, ts, now, J, _ => ⟨ts, J⟩
  | p :: l, s, ts, now, J, h => by
    obtain ⟨ts1, J1⟩ := J.step (h p List.mem_cons_self)
    obtain ⟨ts2, J2⟩ := Jn.fold l _ ts1 _ J1 fun q hq => h q (List.mem_cons_of_mem _ hq)
    exact ⟨ts2, by rw [List.foldl_cons, List.length_cons]; exact J2.more (by omega)⟩
theorem zip_at {E : List Edge} {p : Edge × Nat} (h : p ∈ E.zipIdx) : E[p.2]? = some p.1 := by
  obtain ⟨i, hi⟩ := List.mem_iff_getElem?.mp h
  rw [List.getElem?_zipIdx] at hi
  obtain ⟨e, h1, h2⟩ := Option.map_eq_some_iff.mp hi
  subst h2
  simpa using h1
theorem Jn.relax {E : List Edge} {d0 : Nat → Option Int} : ∀ (n : Nat) (s : St) (ts : Nat → Nat) (now : Nat), Jn E d0 s ts now → ∃ ts', Jn E d0 (Bf.relax E n s) ts' (now + n * E.length)
  | 0, s, ts, now, J => ⟨ts, J.more (by omega)⟩
  | n + 1, s, ts, now, J => by
    have J0 : Jn E d0 { s with c := none } ts now := ⟨J.le, J.pr, J.st⟩
    obtain ⟨ts1, J1⟩ := Jn.fold E.zipIdx { s with c := none } ts now J0 fun p hp => zip_at hp
    rw [List.length_zipIdx] at J1
    have J1 : Jn E d0 (Bf.round E s) ts1 (now + E.length) := J1
    have em : (n + 1) * E.length = n * E.length + E.length := by rw [Nat.succ_mul]
    show ∃ ts', Jn E d0 (if (Bf.round E s).c.isNone then Bf.round E s else Bf.relax E n (Bf.round E s)) ts' _
    split
    · exact ⟨ts1, J1.more (by omega)⟩
    · obtain ⟨ts2, J2⟩ := Jn.relax n _ ts1 _ J1
      exact ⟨ts2, J2.more (by omega)⟩
/-- one step back, at rest -/
theorem Jn.back {E : List Edge} {d0 : Nat → Option Int} {s : St} {ts : Nat → Nat} {now : Nat} (J : Jn E d0 s ts now) (t : Tidy E s.d) {v : Nat} {y : Int} (hv : s.d v = some y) (h0 : d0 v = none) :
    ∃ i e x, s.l v = some i ∧ E[i]? = some e ∧ e.2.1 = v ∧ s.d e.1 = some x ∧ x + e.2.2 = y ∧ ts e.1 < ts v := by
  cases hl : s.l v with
  | none => rw [J.st v y hv hl] at h0; cases h0
  | some i =>
    obtain ⟨e, x, y', g1, g2, g3, g4, g5, g6⟩ := J.pr v i hl
    rw [hv] at g4
    cases g4
    obtain ⟨z, k1, k2⟩ := t e (List.mem_of_getElem? g1) x g3
    rw [g2, hv] at k1
    cases k1
    refine ⟨i, e, x, rfl, g1, g2, g3, by omega, ?_⟩
    rcases g6 with g6 | g6
    · exact g6
    · omega
theorem jn_start {E : List Edge} {d0 : Nat → Option Int} : Jn E d0 ⟨d0, fun _ => none, none⟩ (fun _ => 0) 0 := ⟨fun _ => Nat.le_refl _, fun v i h => (by cases h), fun v y h _ => h⟩
/-- the way back, position by position -/
inductive Back (E : List Edge) (l : Nat → Option Nat) (s : Nat) : Nat → List Nat → Prop
  | nil : Back E l s s []
  | cons {v i : Nat} {e : Edge} {xs : List Nat} : v ≠ s → l v = some i → E[i]? = some e → Back E l s e.1 xs → Back E l s v (i :: xs)
theorem Back.det {E : List Edge} {l : Nat → Option Nat} {s : Nat} : ∀ {v : Nat} {xs ys : List Nat}, Back E l s v xs → Back E l s v ys → xs = ys
  | _, _, _, .nil, .nil => rfl
  | _, _, _, .nil, .cons n _ _ _ => absurd rfl n
  | _, _, _, .cons n _ _ _, .nil => absurd rfl n
  | _, _, _, .cons _ h1 h2 r, .cons _ g1 g2 q => by
    rw [h1] at g1
    cases g1
    rw [h2] at g2
    cases g2
    rw [Back.det r q]
/-- the law's own step: the lesser of both -/
def minStep (d : Nat → Option Int) (e : Edge) : Nat → Option Int := match d e.1 with
  | none => d
  | some x => put d e.2.1 (min (x + e.2.2) ((d e.2.1).getD (x + e.2.2)))
theorem put_self {d : Nat → Option Int} {v : Nat} {y : Int} (h : d v = some y) : put d v y = d := by
  funext u
  unfold put
  split
  · rename_i e; rw [e, h]
  · rfl
theorem step_min (s : St) (p : Edge × Nat) : (step s p).d = minStep s.d p.1 := by
  unfold step minStep
  cases hd : s.d p.1.1 with
  | none => rfl
  | some x =>
    dsimp only
    unfold better
    cases hv : s.d p.1.2.1 with
    | none =>
      show put s.d p.1.2.1 (x + p.1.2.2) = put s.d p.1.2.1 (min (x + p.1.2.2) (x + p.1.2.2))
      rw [Int.min_self]
    | some y =>
      dsimp only
      by_cases h : x + p.1.2.2 < y
      · rw [if_pos (decide_eq_true h)]
        show put s.d p.1.2.1 (x + p.1.2.2) = put s.d p.1.2.1 (min (x + p.1.2.2) y)
        rw [Int.min_eq_left (by omega)]
      · rw [if_neg (by simpa using h)]
        show s.d = put s.d p.1.2.1 (min (x + p.1.2.2) y)
        rw [Int.min_eq_right (by omega), put_self hv]
theorem fold_min : ∀ (l : List (Edge × Nat)) (s : St), (l.foldl step s).d = (l.map (·.1)).foldl minStep s.d
  | [], s => rfl
  | p :: l, s => by rw [List.foldl_cons, List.map_cons, List.foldl_cons, fold_min l, step_min]
def minRound (E : List Edge) (d : Nat → Option Int) : Nat → Option Int := E.foldl minStep d
theorem round_min (E : List Edge) (s : St) : (round E s).d = minRound E s.d := by
  have := fold_min E.zipIdx { s with c := none }
  rw [List.zipIdx_map_fst] at this
  exact this
def minRounds (E : List Edge) : Nat → (Nat → Option Int) → Nat → Option Int
  | 0, d => d
  | n + 1, d => minRounds E n (minRound E d)
theorem minRounds_succ (E : List Edge) : ∀ (n : Nat) (d : Nat → Option Int), minRounds E (n + 1) d = minRound E (minRounds E n d)
  | 0, d => rfl
  | n + 1, d => minRounds_succ E n (minRound E d)
theorem relax_min {E : List Edge} : ∀ (n : Nat) (s : St), (relax E n s).d = minRounds E n s.d
  | 0, s => rfl
  | n + 1, s => by
    show (if (round E s).c.isNone then round E s else relax E n (round E s)).d = minRounds E n (minRound E s.d)
    split
    · rename_i z
      obtain ⟨h1, _⟩ := round_none (Option.isNone_iff_eq_none.mp z)
      have hd : minRound E s.d = s.d := by rw [← round_min, h1]
      rw [h1]
      show s.d = _
      have stay : ∀ m : Nat, minRounds E m s.d = s.d := by
        intro m
        induction m with
        | zero => rfl
        | succ m ih => show minRounds E m (minRound E s.d) = s.d; rw [hd]; exact ih
      rw [hd, stay]
    · rw [relax_min n, round_min]
end Bf

set_option maxRecDepth 100000
/-! what an answer has to keep: rules from behind -/
namespace Ev
open PySem
def wpR {A : Type} (r : Res A) (Q : A → Hh → Prop) : Prop := match r with
  | .ok a h => Q a h
  | _ => False
def wpS (r : SRes) (N : Env → Hh → Prop) (R : D → Hh → Prop) : Prop := match r with
  | .nx σ h => N σ h
  | .rt d h => R d h
  | _ => False
section
variable {A B : Type}
theorem wpR_ok (a : A) (h : Hh) (Q : A → Hh → Prop) : wpR (.ok a h) Q = Q a h := rfl
theorem wpR_bind (r : Res A) (f : A → Hh → Res B) (Q : B → Hh → Prop) : wpR (r.bind f) Q = wpR r fun a h => wpR (f a h) Q := by cases r <;> rfl
theorem wpS_stm (r : Res A) (σ : Env) (f : A → Hh → SRes) (N : Env → Hh → Prop) (R : D → Hh → Prop) : wpS (r.stm σ f) N R = wpR r fun a h => wpS (f a h) N R := by cases r <;> rfl
theorem wpS_seq (r : SRes) (b : ShS) (N : Env → Hh → Prop) (R : D → Hh → Prop) : wpS (r.seq b) N R = wpS r (fun σ h => wpS (b σ h) N R) R := by cases r <;> rfl
theorem wpS_nx (σ : Env) (h : Hh) (N : Env → Hh → Prop) (R : D → Hh → Prop) : wpS (.nx σ h) N R = N σ h := rfl
theorem wpS_rt (d : D) (h : Hh) (N : Env → Hh → Prop) (R : D → Hh → Prop) : wpS (.rt d h) N R = R d h := rfl
theorem wpR_res (r : SRes) (Q : D → Hh → Prop) : wpR r.res Q = wpS r (fun _ h => Q .non h) Q := by cases r <;> rfl
theorem wpR_noExc (r : Res A) (Q : A → Hh → Prop) : wpR (noExc r) Q = wpR r Q := by cases r <;> rfl
theorem wpR_mono {r : Res A} {P Q : A → Hh → Prop} (h : wpR r P) (k : ∀ a h, P a h → Q a h) : wpR r Q := by cases r <;> first | exact k _ _ h | exact h.elim
theorem wpS_mono {r : SRes} {N N' : Env → Hh → Prop} {R R' : D → Hh → Prop} (h : wpS r N R) (k : ∀ a h, N a h → N' a h) (l : ∀ a h, R a h → R' a h) : wpS r N' R' := by cases r <;> first | exact k _ _ h | exact l _ _ h | exact h.elim
theorem wpR_get {r : Res A} {Q : A → Hh → Prop} (h : wpR r Q) : ∃ a h', r = .ok a h' ∧ Q a h' := by cases r <;> first | exact ⟨_, _, rfl, h⟩ | exact h.elim
end
/-- a new object -/
def alloc (o : Ob) (h : Hh) : Res D := .ok (.ref h.length) (h ++ [o])
/-- all but M stays -/
structure Fr (M : List Nat) (h h' : Hh) : Prop where
  len : h.length ≤ h'.length
  get : ∀ i o, i ∉ M → h[i]? = some o → h'[i]? = some o
theorem Fr.refl (M : List Nat) (h : Hh) : Fr M h h := ⟨Nat.le_refl _, fun _ _ _ e => e⟩
theorem Fr.trans {M : List Nat} {h h1 h2 : Hh} (a : Fr M h h1) (b : Fr M h1 h2) : Fr M h h2 := ⟨Nat.le_trans a.len b.len, fun i o n e => b.get i o n (a.get i o n e)⟩
theorem Fr.weak {M M' : List Nat} {h h' : Hh} (a : Fr M h h') (s : ∀ i ∈ M, i ∈ M' ∨ h.length ≤ i) : Fr M' h h' := ⟨a.len, fun i o n e => a.get i o (fun hm => (s i hm).elim n fun z => absurd (List.getElem?_eq_some_iff.mp e).1 (by omega)) e⟩
theorem Fr.nil {M : List Nat} {h h' : Hh} (a : Fr [] h h') : Fr M h h' := a.weak fun _ z => by simp at z
theorem Fr.push (h r : Hh) : Fr [] h (h ++ r) := ⟨by simp, fun i o _ e => by rw [List.getElem?_append_left (List.getElem?_eq_some_iff.mp e).1]; exact e⟩
theorem Fr.set (h : Hh) (a : Nat) (o : Ob) : Fr [a] h (h.set a o) := ⟨by simp, fun i o' n e => by rw [List.getElem?_set_ne (fun z => n (by simp [z]))]; exact e⟩
/-- .. then more, of which all that is not M is new -/
theorem Fr.then {M M' : List Nat} {h h1 h2 : Hh} (a : Fr M h h1) (b : Fr M' h1 h2) (s : ∀ i ∈ M', i ∈ M ∨ h.length ≤ i) : Fr M h h2 := ⟨Nat.le_trans a.len b.len, fun i o n e => b.get i o (fun hm => (s i hm).elim n fun z => absurd (List.getElem?_eq_some_iff.mp e).1 (by omega)) (a.get i o n e)⟩
theorem at_lt {h : Hh} {i : Nat} {o : Ob} (e : h[i]? = some o) : i < h.length := (List.getElem?_eq_some_iff.mp e).1
theorem alloc_wp {o : Ob} {h : Hh} {Q : D → Hh → Prop} (q : ∀ a h1, h1[a]? = some o → Fr [] h h1 → h.length ≤ a → Q (.ref a) h1) : wpR (alloc o h) Q := q _ _ (by simp) (Fr.push h [o]) (Nat.le_refl _)
theorem newL_al (xs : List D) (h : Hh) : newL xs h = alloc (.lst false xs) h := rfl
theorem newD_al (xs : List (D × D)) (h : Hh) : newD xs h = alloc (.dic false xs) h := rfl
theorem eLst_wp (es : List Sh) (σ : Env) (h : Hh) : eLst es σ h = (eArgs es σ h).bind fun xs h1 => alloc (.lst false xs) h1 := rfl
theorem eRev_ap (a st : Sh) (σ : Env) (h : Hh) : eRev a st σ h = (a σ h).bind fun x h1 => (eEnd (some st) σ h1).bind fun o h2 => revD x o h2 := rfl
def toI (x : D) (h : Hh) : Res (Option Int) := match x with
  | .int i => .ok (some i) h
  | _ => .bad
theorem toI_int (i : Int) (h : Hh) : toI (.int i) h = .ok (some i) h := rfl
theorem eEnd_some (e : Sh) (σ : Env) (h : Hh) : eEnd (some e) σ h = (e σ h).bind toI := rfl
theorem eDicEn_ap (a : Sh) (σ : Env) (h : Hh) : eDicEn a σ h = (a σ h).bind enD := rfl
theorem eAttr_ap (f : Nat) (o : Sh) (σ : Env) (h : Hh) : eAttr f o σ h = (o σ h).bind fun x h1 => pD (getAttrD h1 x f) h1 := rfl
def pF (o : Option Nat) (k : Nat → Res D) : Res D := match o with
  | some f => k f
  | none => .bad
theorem pF_some (f : Nat) (k : Nat → Res D) : pF (some f) k = k f := rfl
theorem eMth_ap (cf : CF) (mt : Nat → Nat → Option Nat) (m : Nat) (o : Sh) (es : List Sh) (σ : Env) (h : Hh) : eMth cf mt m o es σ h = (o σ h).bind fun x h1 => pF ((mcls h1 m x).bind fun c => mt c m) fun f => (eArgs es σ h1).bind fun xs h2 => cf f (x :: xs) h2 := rfl
def isNon (r : D) (a : D) (h : Hh) : Res D := match r with
  | .non => .ok a h
  | _ => .bad
theorem isNon_non (a : D) (h : Hh) : isNon .non a h = .ok a h := rfl
theorem eMk_ap (cf : CF) (c f : Nat) (ps : List Par) (es ks : List Sh) (σ : Env) (h : Hh) : eMk cf c f ps es ks σ h = (eArgs es σ h).bind fun xs h1 => (eArgs ks σ h1).bind fun zs h2 => (alloc (.ins c []) h2).bind fun a h3 => (cf f (pick (a :: xs) zs ps) h3).bind fun r h4 => isNon r a h4 := rfl
def stAttr (f : Nat) (v x : D) (σ : Env) (h : Hh) : Res Env := match x with
  | .ref a => match h[a]? with
    | some (.ins c fs) => if fs.length < 900 then .ok σ (h.set a (.ins c (fput fs f v))) else .bad
    | _ => .bad
  | _ => .bad
theorem tAttr_ap (f : Nat) (o : Sh) (v : D) (σ : Env) (h : Hh) : tAttr f o v σ h = (o σ h).bind fun x h1 => stAttr f v x σ h1 := rfl
theorem stAttr_ref {f : Nat} {v : D} {a : Nat} {σ : Env} {h : Hh} {c : Nat} {fs : List (Nat × D)} (e : h[a]? = some (.ins c fs)) (hl : fs.length < 900) : stAttr f v (.ref a) σ h = .ok σ (h.set a (.ins c (fput fs f v))) := by
  unfold stAttr; dsimp only; rw [e]; exact if_pos hl
theorem getAttr_ref {a : Nat} {h : Hh} {c : Nat} {fs : List (Nat × D)} (e : h[a]? = some (.ins c fs)) (f : Nat) : getAttrD h (.ref a) f = fget fs f := by
  unfold getAttrD; dsimp only; rw [e]
theorem mcls_ref {a m : Nat} {h : Hh} {c : Nat} {fs : List (Nat × D)} (e : h[a]? = some (.ins c fs)) (n : fget fs m = none) : mcls h m (.ref a) = some c := by
  unfold mcls; dsimp only; rw [e]; dsimp only; rw [n]; rfl
theorem item_lst {h : Hh} {a : Nat} {fz : Bool} {xs : List D} (e : h[a]? = some (.lst fz xs)) (i : Int) : getItem (.ref a) (.int i) h = atD xs i := by
  unfold getItem; dsimp only; rw [e]
theorem item_tup (l : List D) (i : Int) (h : Hh) : getItem (.tup l) (.int i) h = atD l i := rfl
/-! loops -/
theorem forW_nil (tg : Tg) (body : ShS) (g fin : Option (Nat × Ob)) (σ : Env) (h : Hh) : forL tg body g fin [] σ h = if stands g h then .nx σ (unlock fin h) else .bad := rfl
def noIx (r : SRes) (k : Env → Hh → SRes) : SRes := match r with
  | .nx σ h => k σ h
  | .ct σ h => k σ h
  | .bk σ h => .nx σ h
  | .rt d h => .rt d h
  | .exc x σ h => .exc x σ h
  | .bad => .bad
theorem forW_cons (tg : Tg) (body : ShS) (g : Option (Nat × Ob)) (x : D) (xs : List D) (σ : Env) (h : Hh) : forL tg body g none (x :: xs) σ h = if stands g h then (noExc (tg x σ h)).stm σ fun σ1 h1 => noIx (body σ1 h1) fun σ2 h2 => forL tg body g none xs σ2 h2 else .bad := by
  show (if stands g h then _ else _) = _
  have e : (fun σ1 h1 => noIx (body σ1 h1) fun σ2 h2 => forL tg body g none xs σ2 h2) = (fun σ1 h1 => match body σ1 h1 with
      | .nx σ2 h2 => forL tg body g none xs σ2 h2
      | .ct σ2 h2 => forL tg body g none xs σ2 h2
      | .bk σ2 h2 => .nx σ2 h2
      | .rt d h2 => .rt d h2
      | .exc x σ2 h2 => .exc x σ2 h2
      | .bad => .bad) := by
    funext σ1 h1
    cases body σ1 h1 <;> rfl
  rw [e]
  rfl
theorem drop_at {A : Type} {xs r : List A} {x : A} {i : Nat} (hr : xs.drop i = x :: r) : xs[i]? = some x ∧ xs.drop (i + 1) = r ∧ i + 1 ≤ xs.length := by
  have hl : i < xs.length := by
    have := congrArg List.length hr
    rw [List.length_drop, List.length_cons] at this
    omega
  have e := List.drop_eq_getElem_cons hl
  rw [hr] at e
  injection e with e1 e2
  exact ⟨by rw [e1]; exact List.getElem?_eq_getElem hl, e2.symm, hl⟩
theorem forL_wp {tg : Tg} {body : ShS} {g : Option (Nat × Ob)} {xs : List D} (P : Nat → Env → Hh → Prop) {N : Env → Hh → Prop} {R : D → Hh → Prop} (hs : ∀ i σ h, P i σ h → stands g h = true)
    (step : ∀ i x σ h, xs[i]? = some x → P i σ h → wpR (tg x σ h) fun σ1 h1 => wpS (body σ1 h1) (fun σ2 h2 => P (i + 1) σ2 h2) R) (fin : ∀ σ h, P xs.length σ h → N σ h) {σ : Env} {h : Hh} (h0 : P 0 σ h) : wpS (forL tg body g none xs σ h) N R := by
  have key : ∀ (r : List D) (i : Nat), xs.drop i = r → i ≤ xs.length → ∀ σ h, P i σ h → wpS (forL tg body g none r σ h) N R := by
    intro r
    induction r with
    | nil =>
      intro i hr hi σ h p
      rw [forW_nil, if_pos (hs i σ h p)]
      have : xs.length - i = 0 := by
        have := congrArg List.length hr
        rwa [List.length_drop, List.length_nil] at this
      have he : i = xs.length := by omega
      subst he; exact fin σ h p
    | cons x r ih =>
      intro i hr hi σ h p
      rw [forW_cons, if_pos (hs i σ h p), wpS_stm, wpR_noExc]
      obtain ⟨hx, hr2, hi2⟩ := drop_at hr
      refine wpR_mono (step i x σ h hx p) fun σ1 h1 q => ?_
      have q' : wpS (body σ1 h1) (fun σ2 h2 => wpS (forL tg body g none r σ2 h2) N R) R := wpS_mono q (fun σ2 h2 p2 => ih (i + 1) hr2 hi2 σ2 h2 p2) fun _ _ z => z
      cases hb : body σ1 h1 <;> rw [hb] at q' <;> first | exact q' | exact q'.elim
  exact key xs 0 rfl (Nat.zero_le _) σ h h0
theorem lcLoop_wp {tg : Tg} {test elt : Sh} {g : Option (Nat × Ob)} {σ : Env} {xs : List D} (P : Nat → List D → Hh → Prop) {Q : List D → Hh → Prop} (hs : ∀ i acc h, P i acc h → stands g h = true)
    (step : ∀ i x acc h, xs[i]? = some x → P i acc h → wpR (tg x σ h) fun σ1 h1 => wpR (test σ1 h1) fun b h2 => ∃ c, truth h2 b = some c ∧ (c = true → wpR (elt σ1 h2) fun y h3 => P (i + 1) (acc ++ [y]) h3) ∧ (c = false → P (i + 1) acc h2))
    (fin : ∀ acc h, P xs.length acc h → Q acc h) {h : Hh} (h0 : P 0 [] h) : wpR (lcLoop tg test elt g σ xs [] h) Q := by
  have key : ∀ (r : List D) (i : Nat), xs.drop i = r → i ≤ xs.length → ∀ acc h, P i acc h → wpR (lcLoop tg test elt g σ r acc h) Q := by
    intro r
    induction r with
    | nil =>
      intro i hr hi acc h p
      have : xs.length - i = 0 := by
        have := congrArg List.length hr
        rwa [List.length_drop, List.length_nil] at this
      have he : i = xs.length := by omega
      subst he
      show wpR (if stands g h then Res.ok acc h else .bad) Q
      rw [if_pos (hs _ _ _ p)]
      exact fin acc h p
    | cons x r ih =>
      intro i hr hi acc h p
      obtain ⟨hx, hr2, hi2⟩ := drop_at hr
      show wpR (if stands g h then (tg x σ h).bind fun σ1 h1 => (test σ1 h1).bind fun b h2 => match truth h2 b with
        | some true => (elt σ1 h2).bind fun y h3 => lcLoop tg test elt g σ r (acc ++ [y]) h3
        | some false => lcLoop tg test elt g σ r acc h2
        | none => .bad else .bad) Q
      rw [if_pos (hs _ _ _ p), wpR_bind]
      refine wpR_mono (step i x acc h hx p) fun σ1 h1 q => ?_
      rw [wpR_bind]
      refine wpR_mono q fun b h2 ⟨c, e, q1, q2⟩ => ?_
      rw [e]
      cases c with
      | true =>
        show wpR ((elt σ1 h2).bind fun y h3 => lcLoop tg test elt g σ r (acc ++ [y]) h3) Q
        rw [wpR_bind]
        exact wpR_mono (q1 rfl) fun y h3 p3 => ih (i + 1) hr2 hi2 _ _ p3
      | false => exact ih (i + 1) hr2 hi2 _ _ (q2 rfl)
  exact key xs 0 rfl (Nat.zero_le _) [] h h0
theorem dcLoop_wp {tg : Tg} {test key elt : Sh} {g : Option (Nat × Ob)} {σ : Env} {xs : List D} (P : Nat → List (D × D) → Hh → Prop) {Q : List (D × D) → Hh → Prop} (hs : ∀ i acc h, P i acc h → stands g h = true)
    (step : ∀ i x acc h, xs[i]? = some x → P i acc h → wpR (tg x σ h) fun σ1 h1 => wpR (test σ1 h1) fun b h2 => ∃ c, truth h2 b = some c ∧ (c = true → wpR (key σ1 h2) fun k h3 => wpR (elt σ1 h3) fun y h4 => isKey k = true ∧ P (i + 1) (dput acc k y) h4) ∧ (c = false → P (i + 1) acc h2))
    (fin : ∀ acc h, P xs.length acc h → Q acc h) {h : Hh} (h0 : P 0 [] h) : wpR (dcLoop tg test key elt g σ xs [] h) Q := by
  have kk : ∀ (r : List D) (i : Nat), xs.drop i = r → i ≤ xs.length → ∀ acc h, P i acc h → wpR (dcLoop tg test key elt g σ r acc h) Q := by
    intro r
    induction r with
    | nil =>
      intro i hr hi acc h p
      have : xs.length - i = 0 := by
        have := congrArg List.length hr
        rwa [List.length_drop, List.length_nil] at this
      have he : i = xs.length := by omega
      subst he
      show wpR (if stands g h then Res.ok acc h else .bad) Q
      rw [if_pos (hs _ _ _ p)]
      exact fin acc h p
    | cons x r ih =>
      intro i hr hi acc h p
      obtain ⟨hx, hr2, hi2⟩ := drop_at hr
      show wpR (if stands g h then (tg x σ h).bind fun σ1 h1 => (test σ1 h1).bind fun b h2 => match truth h2 b with
        | some true => (key σ1 h2).bind fun k h3 => (elt σ1 h3).bind fun y h4 => if isKey k then dcLoop tg test key elt g σ r (dput acc k y) h4 else .bad
        | some false => dcLoop tg test key elt g σ r acc h2
        | none => .bad else .bad) Q
      rw [if_pos (hs _ _ _ p), wpR_bind]
      refine wpR_mono (step i x acc h hx p) fun σ1 h1 q => ?_
      rw [wpR_bind]
      refine wpR_mono q fun b h2 ⟨c, e, q1, q2⟩ => ?_
      rw [e]
      cases c with
      | true =>
        show wpR ((key σ1 h2).bind fun k h3 => (elt σ1 h3).bind fun y h4 => if isKey k then dcLoop tg test key elt g σ r (dput acc k y) h4 else .bad) Q
        rw [wpR_bind]
        refine wpR_mono (q1 rfl) fun k h3 p3 => ?_
        rw [wpR_bind]
        refine wpR_mono p3 fun y h4 ⟨hk, p4⟩ => ?_
        rw [if_pos hk]
        exact ih (i + 1) hr2 hi2 _ _ p4
      | false => exact ih (i + 1) hr2 hi2 _ _ (q2 rfl)
  exact kk xs 0 rfl (Nat.zero_le _) [] h h0
theorem whileL_wp {c : Sh} {body : ShS} (P : Nat → Env → Hh → Prop) {N : Env → Hh → Prop} {R : D → Hh → Prop}
    (step : ∀ m σ h, P m σ h → wpR (c σ h) fun x h1 => ∃ b, truth h1 x = some b ∧ (b = true → 0 < m ∧ wpS (body σ h1) (fun σ2 h2 => P (m - 1) σ2 h2) R) ∧ (b = false → N σ h1)) :
    ∀ (f m : Nat) (σ : Env) (h : Hh), m < f → P m σ h → wpS (whileL c body f σ h) N R := by
  intro f
  induction f with
  | zero => intro m σ h hm; omega
  | succ f ih =>
    intro m σ h hm p
    show wpS ((c σ h).stm σ fun x h1 => match truth h1 x with
      | some true => match body σ h1 with
        | .nx σ2 h2 => whileL c body f σ2 h2
        | .ct σ2 h2 => whileL c body f σ2 h2
        | .bk σ2 h2 => .nx σ2 h2
        | r => r
      | some false => .nx σ h1
      | none => .bad) N R
    rw [wpS_stm]
    refine wpR_mono (step m σ h p) fun x h1 ⟨b, e, q1, q2⟩ => ?_
    rw [e]
    cases b with
    | true =>
      obtain ⟨hm0, q⟩ := q1 rfl
      have q' : wpS (body σ h1) (fun σ2 h2 => wpS (whileL c body f σ2 h2) N R) R := wpS_mono q (fun σ2 h2 p2 => ih (m - 1) σ2 h2 (by omega) p2) fun _ _ z => z
      show wpS (match body σ h1 with
        | .nx σ2 h2 => whileL c body f σ2 h2
        | .ct σ2 h2 => whileL c body f σ2 h2
        | .bk σ2 h2 => .nx σ2 h2
        | r => r) N R
      cases hb : body σ h1 <;> rw [hb] at q' <;> first | exact q' | exact q'.elim
    | false => exact q2 rfl
theorem eLc_wp {it : It} {own : List Nat} {tg : Tg} {test elt : Sh} {σ : Env} {h : Hh} {Q : D → Hh → Prop} (hq : wpR (it σ h) fun w h1 => w.fin = none ∧ w.items.length ≤ lim ∧ wpR (lcLoop tg test elt w.guard (wipeD σ own) w.items [] h1) fun ys h2 => wpR (alloc (.lst false ys) h2) Q) : wpR (eLc it own tg test elt σ h) Q := by
  unfold eLc
  rw [wpR_bind]
  refine wpR_mono hq fun w h1 ⟨hf, hl, q⟩ => ?_
  rw [if_pos hl, wpR_bind, wpR_noExc]
  refine wpR_mono q fun ys h2 z => ?_
  rw [hf]
  exact z
theorem eDc_wp {it : It} {own : List Nat} {tg : Tg} {test key elt : Sh} {σ : Env} {h : Hh} {Q : D → Hh → Prop} (hq : wpR (it σ h) fun w h1 => w.fin = none ∧ w.items.length ≤ lim ∧ wpR (dcLoop tg test key elt w.guard (wipeD σ own) w.items [] h1) fun ys h2 => wpR (alloc (.dic false ys) h2) Q) : wpR (eDc it own tg test key elt σ h) Q := by
  unfold eDc
  rw [wpR_bind]
  refine wpR_mono hq fun w h1 ⟨hf, hl, q⟩ => ?_
  rw [if_pos hl, wpR_bind, wpR_noExc]
  refine wpR_mono q fun ys h2 z => ?_
  rw [hf]
  exact z
theorem sFor_wp {it : It} {tg : Tg} {body : ShS} {σ : Env} {h : Hh} {N : Env → Hh → Prop} {R : D → Hh → Prop} (hq : wpR (it σ h) fun w h1 => w.fin = none ∧ wpS (forL tg body w.guard none w.items σ h1) N R) : wpS (sFor it tg body σ h) N R := by
  unfold sFor
  rw [wpS_stm]
  refine wpR_mono hq fun w h1 ⟨hf, q⟩ => ?_
  rw [hf]; exact q
theorem iVal_wp {e : Sh} {σ : Env} {h : Hh} {Q : Walked → Hh → Prop} (hq : wpR (e σ h) fun x h1 => wpR (walkV x h1) Q) : wpR (iVal e σ h) Q := by
  unfold iVal; rw [wpR_bind]; exact hq
theorem walk_lst {h : Hh} {a : Nat} {fz : Bool} {xs : List D} (e : h[a]? = some (.lst fz xs)) : walkV (.ref a) h = .ok ⟨xs, some (a, .lst fz xs), none⟩ h := by
  unfold walkV; dsimp only; rw [e]
def enW (x : D) (h1 : Hh) : Res Walked := match x with
  | .ref a => match h1[a]? with
    | some (.lst fz xs) => .ok ⟨xs.zipIdx.map fun p => .tup [.int p.2, p.1], some (a, .lst fz xs), none⟩ h1
    | _ => .bad
  | _ => .bad
theorem iEnum_ap (e : Sh) (σ : Env) (h : Hh) : iEnum e σ h = (e σ h).bind enW := rfl
theorem enW_lst {h : Hh} {a : Nat} {fz : Bool} {xs : List D} (e : h[a]? = some (.lst fz xs)) : enW (.ref a) h = .ok ⟨xs.zipIdx.map fun p => .tup [.int p.2, p.1], some (a, .lst fz xs), none⟩ h := by
  unfold enW; dsimp only; rw [e]
theorem stands_some {a : Nat} {o : Ob} {h : Hh} (e : h[a]? = some o) : stands (some (a, o)) h = true := by
  show decide (h[a]? = some o) = true
  rw [decide_eq_true_eq]; exact e
/-- range(n) -/
theorem rng_ap {e : Sh} {σ : Env} {h h1 : Hh} {n : Int} (he : e σ h = .ok (.int n) h1) (h0 : 0 ≤ n) (hn : n ≤ 100000) : iRange [e] σ h = .ok ⟨(List.range n.toNat).map fun k => .int ((k : Nat) : Int), none, none⟩ h1 := by
  have q : n ≤ lim ∧ n.natAbs < 2 ^ 61 := ⟨by have : lim = 1000000 := rfl; omega, by omega⟩
  unfold iRange
  simp only [eArgs_cons, eArgs_nil, he, Res.bind_ok]
  exact if_pos q
end Ev

set_option maxRecDepth 100000
set_option maxHeartbeats 1000000
/-! the draws -/
namespace Ev
open PySem
def drawB : ShS := (sSeq (sIf (eCmp .Gt (eItem (eVar 0) (eConst (.int 0))) (eConst (.int 0))) (sSeq (sAsg (tTup [(tItem (eVar 0) (eConst (.int 0))), (tName 2)]) (eBF .divmod [(eItem (eVar 0) (eConst (.int 0))), (eVar 1)])) (sSeq (sRet (eVar 2)) sPass)) sPass) (sSeq (sAsg (tItem (eVar 0) (eConst (.int 1))) (eBin .Mod (eBin .Add (eBin .Mult (eItem (eVar 0) (eConst (.int 1))) (eConst (.int 44029))) (eConst (.int 10133))) (eConst (.int 2147483587)))) (sSeq (sRet (eBin .Mod (eBin .FloorDiv (eBin .Mod (eBin .Mult (eItem (eVar 0) (eConst (.int 1))) (eItem (eVar 0) (eConst (.int 1)))) (eConst (.int 2147483549))) (eConst (.int 11))) (eVar 1))) sPass)))
def rngB : ShS := (sSeq (sAsg (tName 2) (eConst (.int 0))) (sSeq (sIf (eCmp .Lt (eVar 1) (eBF .len [(eVar 0)])) (sSeq (sAsg (tName 2) (eBF .abs [(eItem (eVar 0) (eVar 1))])) sPass) sPass) (sSeq (sRet (eLst [(eBF .max2 [(eConst (.int 0)), (eBin .Sub (eVar 2) (eBin .Pow (eConst (.int 10)) (eConst (.int 18))))]), (eBin .Add (eBin .Mod (eBin .Pow (eBin .Add (eBin .Add (eBin .Mod (eVar 2) (eConst (.int 2147483543))) (eBin .Mult (eConst (.int 101)) (eVar 1))) (eConst (.int 5))) (eConst (.int 2))) (eConst (.int 2147483497))) (eConst (.int 1)))])) sPass)))
/-- the source of the draws -/
def Src (h : Hh) (s : Nat) : Prop := ∃ a b, h[s]? = some (.lst false [.int a, .int b])
theorem Src.fr {h h' : Hh} {s : Nat} {M : List Nat} (a : Src h s) (f : Fr M h h') (n : s ∉ M) : Src h' s := let ⟨x, y, e⟩ := a; ⟨x, y, f.get _ _ n e⟩
theorem Src.lt {h : Hh} {s : Nat} (a : Src h s) : s < h.length := let ⟨_, _, e⟩ := a; at_lt e
theorem atD0 (a : D) (r : List D) : atD (a :: r) 0 = some a := by
  have : ixN (a :: r).length 0 = some 0 := by unfold ixN; rw [if_pos (by omega), if_pos (by rw [List.length_cons]; omega)]; rfl
  unfold atD; rw [this]; rfl
theorem atD1 (a b : D) (r : List D) : atD (a :: b :: r) 1 = some b := by
  have : ixN (a :: b :: r).length 1 = some 1 := by unfold ixN; rw [if_pos (by omega), if_pos (by rw [List.length_cons, List.length_cons]; omega)]; rfl
  unfold atD; rw [this]; rfl
theorem atD2 (a b c : D) (r : List D) : atD (a :: b :: c :: r) 2 = some c := by
  have : ixN (a :: b :: c :: r).length 2 = some 2 := by unfold ixN; rw [if_pos (by omega), if_pos (by rw [List.length_cons, List.length_cons, List.length_cons]; omega)]; rfl
  unfold atD; rw [this]; rfl
theorem atD_nat {xs : List D} {i : Nat} {d : D} (e : xs[i]? = some d) : atD xs (i : Int) = some d := by
  have hl := (List.getElem?_eq_some_iff.mp e).1
  unfold atD ixN
  rw [if_pos (by omega), if_pos (by omega)]
  exact e
theorem atD_in {xs : List D} {r : Int} (h0 : 0 ≤ r) (h1 : r < xs.length) : ∃ d, atD xs r = some d ∧ d ∈ xs := by
  have hl : r.toNat < xs.length := by omega
  refine ⟨xs[r.toNat], ?_, List.getElem_mem hl⟩
  unfold atD ixN
  rw [if_pos h0, if_pos h1]
  exact List.getElem?_eq_getElem hl
theorem draw_wp {s : Nat} {L : Int} {h : Hh} {Q : D → Hh → Prop} (hs : Src h s) (h0 : 0 < L) (h1 : L < 10 ^ 70) (q : ∀ r h', 0 ≤ r → r < L → Fr [s] h h' → Src h' s → h'.length = h.length → Q (.int r) h') :
    wpR (drawB [some (.ref s), some (.int L), none] h).res Q := by
  obtain ⟨a, b, e⟩ := hs
  have hlt := at_lt e
  have hset : ∀ (x y : Int), (h.set s (.lst false [.int x, .int y]))[s]? = some (.lst false [.int x, .int y]) := fun x y => List.getElem?_set_self hlt
  by_cases ha : 0 < a
  · have st : setItem (.ref s) (.int 0) (.int (a / L)) h = .ok () (h.set s (.lst false [.int (a / L), .int b])) := set_ref (j := 0) e rfl
    simp only [drawB, wpR_ok, wpR_bind, wpS_stm, wpS_seq, wpS_nx, wpS_rt, wpR_res, wpR_noExc, eConst_ap, eVar_z, eVar_s, eBin_ap, eUn_ap, eAnd_ap, eOr_ap, eIf_ap, eCmp_ap, eChain_ap, eArgs_nil, eArgs_cons, eTup_ap, eLst_wp, eItem_ap, eEnd_none, eEnd_some, toI_int, eSlice_ap, eBF_ap, eCall_ap, eCallK_ap, eIsI_ap, sPass_ap, sExpr_ap, sRet_ap, sRetN_ap, sAsg_ap, sIf_ap, sSeq_ap, tName_ap, tEach_nil, tEach_cons, tTup_ap, tItem_ap, pick_nil, pick_pos, pick_kw, pick_dfl, eAttr_ap, eMth_ap, eMk_ap, tAttr_ap, pF_some, isNon_non, eDicEn_ap, eRev_ap, List.set_cons_zero, List.set_cons_succ, List.length_cons, List.length_nil, truth_bl, truth_non, not_bl, not_non, tst_if, tstS_if, pBl_some, pD_some, add_int, sub_int, neg_int, lt_int, le_int, gt_int, ge_int, eq_int, ne_int, if_true, Bool.not_true, Bool.not_false, Bool.false_eq_true, if_false, and_self, List.getElem?_cons_zero, List.getElem?_cons_succ, Option.getD_some, Option.bind_some, Option.map_some, item_lst e, atD0, decide_eq_true ha, divmod_int, if_pos (show 0 < L ∧ L < 10 ^ 70 from ⟨h0, h1⟩), st]
    exact q _ _ (Int.emod_nonneg _ (by omega)) (Int.emod_lt_of_pos _ h0) (Fr.set ..) ⟨_, _, hset _ _⟩ (by simp)
  · have hb : 0 ≤ (b * 44029 + 10133) % 2147483587 ∧ (b * 44029 + 10133) % 2147483587 < 2147483587 := ⟨Int.emod_nonneg _ (by decide), Int.emod_lt_of_pos _ (by decide)⟩
    generalize hb' : (b * 44029 + 10133) % 2147483587 = b' at hb
    have st : setItem (.ref s) (.int 1) (.int b') h = .ok () (h.set s (.lst false [.int a, .int b'])) := set_ref (j := 1) e rfl
    have m1 : b.natAbs < 2 ^ 64 ∨ (44029 : Int).natAbs < 2 ^ 64 := .inr (by decide)
    have m2 : b'.natAbs < 2 ^ 64 ∨ b'.natAbs < 2 ^ 64 := .inl (by omega)
    simp only [drawB, wpR_ok, wpR_bind, wpS_stm, wpS_seq, wpS_nx, wpS_rt, wpR_res, wpR_noExc, eConst_ap, eVar_z, eVar_s, eBin_ap, eUn_ap, eAnd_ap, eOr_ap, eIf_ap, eCmp_ap, eChain_ap, eArgs_nil, eArgs_cons, eTup_ap, eLst_wp, eItem_ap, eEnd_none, eEnd_some, toI_int, eSlice_ap, eBF_ap, eCall_ap, eCallK_ap, eIsI_ap, sPass_ap, sExpr_ap, sRet_ap, sRetN_ap, sAsg_ap, sIf_ap, sSeq_ap, tName_ap, tEach_nil, tEach_cons, tTup_ap, tItem_ap, pick_nil, pick_pos, pick_kw, pick_dfl, eAttr_ap, eMth_ap, eMk_ap, tAttr_ap, pF_some, isNon_non, eDicEn_ap, eRev_ap, List.set_cons_zero, List.set_cons_succ, List.length_cons, List.length_nil, truth_bl, truth_non, not_bl, not_non, tst_if, tstS_if, pBl_some, pD_some, add_int, sub_int, neg_int, lt_int, le_int, gt_int, ge_int, eq_int, ne_int, if_true, Bool.not_true, Bool.not_false, Bool.false_eq_true, if_false, and_self, List.getElem?_cons_zero, List.getElem?_cons_succ, Option.getD_some, Option.bind_some, Option.map_some, item_lst e, atD0, atD1, decide_eq_false ha, mul_int, if_pos m1, mod_int, (by decide : (0 : Int) < 2147483587), hb', st, item_lst (hset a b'), if_pos m2, (by decide : (0 : Int) < 2147483549), fdiv_int, (by decide : (0 : Int) < 11 ∧ (11 : Int) < 10 ^ 70), if_pos h0]
    exact q _ _ (Int.emod_nonneg _ (by omega)) (Int.emod_lt_of_pos _ h0) (Fr.set ..) ⟨_, _, hset _ _⟩ (by simp)
theorem pow_ten (n : Nat) (hn : n ≤ 1000) (h : Hh) : binop .Pow (.int 10) (.int (n : Int)) h = .ok (.int (10 ^ n)) h := by
  rw [pow_int, if_pos ⟨by omega, by omega, by decide⟩]
  rfl
theorem rng_wp {h : Hh} {ns : List Int} {j : Int} {Q : D → Hh → Prop} {i : Nat} (e : h[i]? = some (.lst true (ns.map .int))) (j0 : 0 ≤ j) (j1 : j ≤ 5) (q : ∀ s h', Src h' s → Fr [] h h' → h.length ≤ s → Q (.ref s) h') :
    wpR (rngB [some (.ref i), some (.int j), none] h).res Q := by
  have p1 : ∀ h, binop .Pow (.int 10) (.int 18) h = .ok (.int (10 ^ 18)) h := fun h => pow_ten 18 (by decide) h
  have m1 : (101 : Int).natAbs < 2 ^ 64 ∨ j.natAbs < 2 ^ 64 := .inl (by decide)
  have fin : ∀ c : Int, 0 ≤ c → wpS ((sSeq (sRet (eLst [(eBF .max2 [(eConst (.int 0)), (eBin .Sub (eVar 2) (eBin .Pow (eConst (.int 10)) (eConst (.int 18))))]), (eBin .Add (eBin .Mod (eBin .Pow (eBin .Add (eBin .Add (eBin .Mod (eVar 2) (eConst (.int 2147483543))) (eBin .Mult (eConst (.int 101)) (eVar 1))) (eConst (.int 5))) (eConst (.int 2))) (eConst (.int 2147483497))) (eConst (.int 1)))])) sPass) [some (.ref i), some (.int j), some (.int c)] h) (fun _ h => Q .non h) Q := by
    intro c c0
    have hc : 0 ≤ c % 2147483543 ∧ c % 2147483543 < 2147483543 := ⟨Int.emod_nonneg _ (by decide), Int.emod_lt_of_pos _ (by decide)⟩
    generalize hc' : c % 2147483543 = c' at hc
    have p2 : (0 : Int) ≤ 2 ∧ (2 : Int) ≤ 1000 ∧ (c' + 101 * j + 5).natAbs < 2 ^ 64 := ⟨by decide, by decide, by omega⟩
    simp only [wpR_ok, wpR_bind, wpS_stm, wpS_seq, wpS_nx, wpS_rt, wpR_res, wpR_noExc, eConst_ap, eVar_z, eVar_s, eBin_ap, eUn_ap, eAnd_ap, eOr_ap, eIf_ap, eCmp_ap, eChain_ap, eArgs_nil, eArgs_cons, eTup_ap, eLst_wp, eItem_ap, eEnd_none, eEnd_some, toI_int, eSlice_ap, eBF_ap, eCall_ap, eCallK_ap, eIsI_ap, sPass_ap, sExpr_ap, sRet_ap, sRetN_ap, sAsg_ap, sIf_ap, sSeq_ap, tName_ap, tEach_nil, tEach_cons, tTup_ap, tItem_ap, pick_nil, pick_pos, pick_kw, pick_dfl, eAttr_ap, eMth_ap, eMk_ap, tAttr_ap, pF_some, isNon_non, eDicEn_ap, eRev_ap, List.set_cons_zero, List.set_cons_succ, List.length_cons, List.length_nil, truth_bl, truth_non, not_bl, not_non, tst_if, tstS_if, pBl_some, pD_some, add_int, sub_int, neg_int, lt_int, le_int, gt_int, ge_int, eq_int, ne_int, if_true, Bool.not_true, Bool.not_false, Bool.false_eq_true, if_false, and_self, List.getElem?_cons_zero, List.getElem?_cons_succ, Option.getD_some, Option.bind_some, Option.map_some, p1, max_int, mod_int, (by decide : (0 : Int) < 2147483543), hc', mul_int, if_pos m1, pow_int, if_pos p2, (by decide : (0 : Int) < 2147483497)]
    exact alloc_wp fun a h1 ea fr la => q a h1 ⟨_, _, ea⟩ fr la
  have hl := len_ref e
  by_cases hj : j < (ns.length : Int)
  · obtain ⟨d, ed, hd⟩ := atD_in (xs := ns.map D.int) (r := j) j0 (by rw [List.length_map]; exact hj)
    obtain ⟨n, _, rfl⟩ := List.mem_map.mp hd
    have := fin n.natAbs (by omega)
    simp only [wpR_ok, wpR_bind, wpS_stm, wpS_seq, wpS_nx, wpS_rt, wpR_res, wpR_noExc, eConst_ap, eVar_z, eVar_s, eBin_ap, eUn_ap, eAnd_ap, eOr_ap, eIf_ap, eCmp_ap, eChain_ap, eArgs_nil, eArgs_cons, eTup_ap, eLst_wp, eItem_ap, eEnd_none, eEnd_some, toI_int, eSlice_ap, eBF_ap, eCall_ap, eCallK_ap, eIsI_ap, sPass_ap, sExpr_ap, sRet_ap, sRetN_ap, sAsg_ap, sIf_ap, sSeq_ap, tName_ap, tEach_nil, tEach_cons, tTup_ap, tItem_ap, pick_nil, pick_pos, pick_kw, pick_dfl, eAttr_ap, eMth_ap, eMk_ap, tAttr_ap, pF_some, isNon_non, eDicEn_ap, eRev_ap, List.set_cons_zero, List.set_cons_succ, List.length_cons, List.length_nil, truth_bl, truth_non, not_bl, not_non, tst_if, tstS_if, pBl_some, pD_some, add_int, sub_int, neg_int, lt_int, le_int, gt_int, ge_int, eq_int, ne_int, if_true, Bool.not_true, Bool.not_false, Bool.false_eq_true, if_false, and_self, List.getElem?_cons_zero, List.getElem?_cons_succ, Option.getD_some, Option.bind_some, Option.map_some] at this
    simp only [rngB, wpR_ok, wpR_bind, wpS_stm, wpS_seq, wpS_nx, wpS_rt, wpR_res, wpR_noExc, eConst_ap, eVar_z, eVar_s, eBin_ap, eUn_ap, eAnd_ap, eOr_ap, eIf_ap, eCmp_ap, eChain_ap, eArgs_nil, eArgs_cons, eTup_ap, eLst_wp, eItem_ap, eEnd_none, eEnd_some, toI_int, eSlice_ap, eBF_ap, eCall_ap, eCallK_ap, eIsI_ap, sPass_ap, sExpr_ap, sRet_ap, sRetN_ap, sAsg_ap, sIf_ap, sSeq_ap, tName_ap, tEach_nil, tEach_cons, tTup_ap, tItem_ap, pick_nil, pick_pos, pick_kw, pick_dfl, eAttr_ap, eMth_ap, eMk_ap, tAttr_ap, pF_some, isNon_non, eDicEn_ap, eRev_ap, List.set_cons_zero, List.set_cons_succ, List.length_cons, List.length_nil, truth_bl, truth_non, not_bl, not_non, tst_if, tstS_if, pBl_some, pD_some, add_int, sub_int, neg_int, lt_int, le_int, gt_int, ge_int, eq_int, ne_int, if_true, Bool.not_true, Bool.not_false, Bool.false_eq_true, if_false, and_self, List.getElem?_cons_zero, List.getElem?_cons_succ, Option.getD_some, Option.bind_some, Option.map_some, hl, List.length_map, decide_eq_true hj, item_lst e, ed, abs_int]
    exact this
  · have := fin 0 (by decide)
    simp only [wpR_ok, wpR_bind, wpS_stm, wpS_seq, wpS_nx, wpS_rt, wpR_res, wpR_noExc, eConst_ap, eVar_z, eVar_s, eBin_ap, eUn_ap, eAnd_ap, eOr_ap, eIf_ap, eCmp_ap, eChain_ap, eArgs_nil, eArgs_cons, eTup_ap, eLst_wp, eItem_ap, eEnd_none, eEnd_some, toI_int, eSlice_ap, eBF_ap, eCall_ap, eCallK_ap, eIsI_ap, sPass_ap, sExpr_ap, sRet_ap, sRetN_ap, sAsg_ap, sIf_ap, sSeq_ap, tName_ap, tEach_nil, tEach_cons, tTup_ap, tItem_ap, pick_nil, pick_pos, pick_kw, pick_dfl, eAttr_ap, eMth_ap, eMk_ap, tAttr_ap, pF_some, isNon_non, eDicEn_ap, eRev_ap, List.set_cons_zero, List.set_cons_succ, List.length_cons, List.length_nil, truth_bl, truth_non, not_bl, not_non, tst_if, tstS_if, pBl_some, pD_some, add_int, sub_int, neg_int, lt_int, le_int, gt_int, ge_int, eq_int, ne_int, if_true, Bool.not_true, Bool.not_false, Bool.false_eq_true, if_false, and_self, List.getElem?_cons_zero, List.getElem?_cons_succ, Option.getD_some, Option.bind_some, Option.map_some] at this
    simp only [rngB, wpR_ok, wpR_bind, wpS_stm, wpS_seq, wpS_nx, wpS_rt, wpR_res, wpR_noExc, eConst_ap, eVar_z, eVar_s, eBin_ap, eUn_ap, eAnd_ap, eOr_ap, eIf_ap, eCmp_ap, eChain_ap, eArgs_nil, eArgs_cons, eTup_ap, eLst_wp, eItem_ap, eEnd_none, eEnd_some, toI_int, eSlice_ap, eBF_ap, eCall_ap, eCallK_ap, eIsI_ap, sPass_ap, sExpr_ap, sRet_ap, sRetN_ap, sAsg_ap, sIf_ap, sSeq_ap, tName_ap, tEach_nil, tEach_cons, tTup_ap, tItem_ap, pick_nil, pick_pos, pick_kw, pick_dfl, eAttr_ap, eMth_ap, eMk_ap, tAttr_ap, pF_some, isNon_non, eDicEn_ap, eRev_ap, List.set_cons_zero, List.set_cons_succ, List.length_cons, List.length_nil, truth_bl, truth_non, not_bl, not_non, tst_if, tstS_if, pBl_some, pD_some, add_int, sub_int, neg_int, lt_int, le_int, gt_int, ge_int, eq_int, ne_int, if_true, Bool.not_true, Bool.not_false, Bool.false_eq_true, if_false, and_self, List.getElem?_cons_zero, List.getElem?_cons_succ, Option.getD_some, Option.bind_some, Option.map_some, hl, List.length_map, decide_eq_false hj]
    exact this
end Ev

set_option maxRecDepth 100000
set_option maxHeartbeats 1000000
/-! the constraint systems' defs (terms printed by dcterms.py) and what they compute -/
namespace Ev
open PySem
/-- methods by number -/
def dcMt : Nat → Nat → Option Nat := fun c m => List.lookup (c, m) [((0, 8), 4), ((0, 3), 5), ((0, 7), 6), ((0, 9), 7), ((0, 5), 8), ((0, 10), 9), ((0, 4), 10), ((0, 14), 11), ((0, 6), 12), ((0, 12), 13), ((0, 13), 14), ((0, 11), 15)]
/-- is_integer(value): value -/
def c0 (cf : CF) : ShS := (sSeq (sRet (eAnd (eIsI (eVar 0) .int) (eUn .Not (eIsI (eVar 0) .bool)))) sPass)
def d0 : Def := ⟨1, 1, c0⟩
/-- is_constraint(value, node_count): value, node_count, part -/
def c1 (cf : CF) : ShS := (sSeq (sIf (eOr (eUn .Not (eIsI (eVar 0) .tuple)) (eOr (eCmp .NotEq (eBF .len [(eVar 0)]) (eConst (.int 3))) (eUn .Not (eBF .all [(eLc (iVal (eVar 0)) [2] (tName 2) (eConst (.bl true)) (eCall cf 0 [(eVar 2)]))])))) (sSeq (sRet (eConst (.bl false))) sPass) sPass) (sSeq (sRet (eAnd (eChain .LtE .Lt (eConst (.int 0)) (eItem (eVar 0) (eConst (.int 0))) (eVar 1)) (eChain .LtE .Lt (eConst (.int 0)) (eItem (eVar 0) (eConst (.int 1))) (eVar 1)))) sPass))
def d1 : Def := ⟨2, 3, c1⟩
/-- checked_constraints(value, node_count): value, node_count, position, item -/
def c2 (cf : CF) : ShS := (sSeq (sIf (eUn .Not (eIsI (eVar 0) .list)) (sSeq sBad sPass) sPass) (sSeq (sFor (iEnum (eVar 0)) (tTup [(tName 2), (tName 3)]) (sSeq (sIf (eUn .Not (eCall cf 1 [(eVar 3), (eVar 1)])) (sSeq sBad sPass) sPass) sPass)) (sSeq (sRet (eBF .list [(eVar 0)])) sPass)))
def d2 : Def := ⟨2, 4, c2⟩
/-- __init__(self, node_count, constraints): self, node_count, constraints -/
def c3 (cf : CF) : ShS := (sSeq (sIf (eOr (eUn .Not (eCall cf 0 [(eVar 1)])) (eCmp .Lt (eVar 1) (eConst (.int 1)))) (sSeq sBad sPass) sPass) (sSeq (sAsg (tAttr 2 (eVar 0)) (eVar 1)) (sSeq (sAsg (tAttr 1 (eVar 0)) (eCall cf 2 [(eVar 2), (eVar 1)])) (sSeq (sAsg (tAttr 0 (eVar 0)) (eMth cf dcMt 5 (eVar 0) [])) sPass))))
def d3 : Def := ⟨3, 3, c3⟩
/-- node_count(self): self -/
def c4 (cf : CF) : ShS := (sSeq (sRet (eAttr 2 (eVar 0))) sPass)
def d4 : Def := ⟨1, 1, c4⟩
/-- constraints(self): self -/
def c5 (cf : CF) : ShS := (sSeq (sRet (eBF .list [(eAttr 1 (eVar 0))])) sPass)
def d5 : Def := ⟨1, 1, c5⟩
/-- negative_cycle(self): self -/
def c6 (cf : CF) : ShS := (sSeq (sRet (eIf (eCmp .Is (eAttr 0 (eVar 0)) (eConst .non)) (eConst .non) (eBF .list [(eAttr 0 (eVar 0))]))) sPass)
def d6 : Def := ⟨1, 1, c6⟩
/-- relax(self, distances): self, distances, last_edge, changed, turn, position, source, target, limit, distance -/
def c7 (cf : CF) : ShS := (sSeq (sAsg (tName 2) (eDic [])) (sSeq (sAsg (tName 3) (eConst .non)) (sSeq (sFor (iRange [(eAttr 2 (eVar 0))]) (tName 4) (sSeq (sAsg (tName 3) (eConst .non)) (sSeq (sFor (iEnum (eAttr 1 (eVar 0))) (tTup [(tName 5), (tTup [(tName 6), (tName 7), (tName 8)])]) (sSeq (sIf (eCmp .In (eVar 6) (eVar 1)) (sSeq (sAsg (tName 9) (eBin .Add (eItem (eVar 1) (eVar 6)) (eVar 8))) (sSeq (sIf (eOr (eCmp .NotIn (eVar 7) (eVar 1)) (eCmp .Lt (eVar 9) (eItem (eVar 1) (eVar 7)))) (sSeq (sAsg (tItem (eVar 1) (eVar 7)) (eVar 9)) (sSeq (sAsg (tItem (eVar 2) (eVar 7)) (eVar 5)) (sSeq (sAsg (tName 3) (eVar 7)) sPass))) sPass) sPass)) sPass) sPass)) (sSeq (sIf (eCmp .Is (eVar 3) (eConst .non)) (sSeq (sRet (eTup [(eVar 1), (eVar 2), (eConst .non)])) sPass) sPass) sPass)))) (sSeq (sRet (eTup [(eVar 1), (eVar 2), (eVar 3)])) sPass))))
def d7 : Def := ⟨2, 10, c7⟩
/-- find_negative_cycle(self): self, distances, last_edge, changed, node, turn, cycle -/
def c8 (cf : CF) : ShS := (sSeq (sAsg (tTup [(tName 1), (tName 2), (tName 3)]) (eMth cf dcMt 9 (eVar 0) [(eDc (iRange [(eAttr 2 (eVar 0))]) [4] (tName 4) (eConst (.bl true)) (eVar 4) (eConst (.int 0)))])) (sSeq (sIf (eCmp .Is (eVar 3) (eConst .non)) (sSeq (sRet (eConst .non)) sPass) sPass) (sSeq (sAsg (tName 4) (eVar 3)) (sSeq (sFor (iRange [(eAttr 2 (eVar 0))]) (tName 5) (sSeq (sAsg (tName 4) (eItem (eItem (eAttr 1 (eVar 0)) (eItem (eVar 2) (eVar 4))) (eConst (.int 0)))) sPass)) (sSeq (sAsg (tName 6) (eLst [(eItem (eVar 2) (eVar 4))])) (sSeq (sWhile (eCmp .NotEq (eItem (eItem (eAttr 1 (eVar 0)) (eItem (eVar 6) (eUn .USub (eConst (.int 1))))) (eConst (.int 0))) (eVar 4)) (sSeq (sExpr (eBM .append (eVar 6) [(eItem (eVar 2) (eItem (eItem (eAttr 1 (eVar 0)) (eItem (eVar 6) (eUn .USub (eConst (.int 1))))) (eConst (.int 0))))])) sPass)) (sSeq (sRet (eRev (eVar 6) (eUn .USub (eConst (.int 1))))) sPass)))))))
def d8 : Def := ⟨1, 7, c8⟩
/-- require_nodes(self, values): self, values, value -/
def c9 (cf : CF) : ShS := (sSeq (sFor (iVal (eVar 1)) (tName 2) (sSeq (sIf (eOr (eUn .Not (eCall cf 0 [(eVar 2)])) (eUn .Not (eChain .LtE .Lt (eConst (.int 0)) (eVar 2) (eAttr 2 (eVar 0))))) (sSeq sBad sPass) sPass) sPass)) (sSeq (sIf (eCmp .IsNot (eAttr 0 (eVar 0)) (eConst .non)) (sSeq sBad sPass) sPass) sPass))
def d9 : Def := ⟨2, 3, c9⟩
/-- distances(self, source): self, source -/
def c10 (cf : CF) : ShS := (sSeq (sRet (eItem (eMth cf dcMt 9 (eVar 0) [(eDic [((eVar 1), (eConst (.int 0)))])]) (eConst (.int 0)))) sPass)
def d10 : Def := ⟨2, 2, c10⟩
/-- upper_bound(self, source, target): self, source, target -/
def c11 (cf : CF) : ShS := (sSeq (sExpr (eMth cf dcMt 10 (eVar 0) [(eLst [(eVar 1), (eVar 2)])])) (sSeq (sRet (eBM .get (eMth cf dcMt 4 (eVar 0) [(eVar 1)]) [(eVar 2)])) sPass))
def d11 : Def := ⟨3, 3, c11⟩
/-- lower_bound(self, source, target): self, source, target, backward -/
def c12 (cf : CF) : ShS := (sSeq (sExpr (eMth cf dcMt 10 (eVar 0) [(eLst [(eVar 1), (eVar 2)])])) (sSeq (sAsg (tName 3) (eBM .get (eMth cf dcMt 4 (eVar 0) [(eVar 2)]) [(eVar 1)])) (sSeq (sRet (eIf (eCmp .Is (eVar 3) (eConst .non)) (eConst .non) (eUn .USub (eVar 3)))) sPass)))
def d12 : Def := ⟨3, 4, c12⟩
/-- shortest_path(self, source, target): self, source, target, distances, last_edge, changed, path, node -/
def c13 (cf : CF) : ShS := (sSeq (sExpr (eMth cf dcMt 10 (eVar 0) [(eLst [(eVar 1), (eVar 2)])])) (sSeq (sAsg (tTup [(tName 3), (tName 4), (tName 5)]) (eMth cf dcMt 9 (eVar 0) [(eDic [((eVar 1), (eConst (.int 0)))])])) (sSeq (sIf (eCmp .NotIn (eVar 2) (eVar 3)) (sSeq (sRet (eConst .non)) sPass) sPass) (sSeq (sAsg (tName 6) (eLst [])) (sSeq (sAsg (tName 7) (eVar 2)) (sSeq (sWhile (eCmp .NotEq (eVar 7) (eVar 1)) (sSeq (sExpr (eBM .append (eVar 6) [(eItem (eVar 4) (eVar 7))])) (sSeq (sAsg (tName 7) (eItem (eItem (eAttr 1 (eVar 0)) (eItem (eVar 4) (eVar 7))) (eConst (.int 0)))) sPass))) (sSeq (sRet (eRev (eVar 6) (eUn .USub (eConst (.int 1))))) sPass)))))))
def d13 : Def := ⟨3, 8, c13⟩
/-- solution(self, source): self, source, distances, outside, inner, offsets, gaps, shift, edge, node, target, limit -/
def c14 (cf : CF) : ShS := (sSeq (sExpr (eMth cf dcMt 10 (eVar 0) [(eLst [(eVar 1)])])) (sSeq (sAsg (tName 2) (eMth cf dcMt 4 (eVar 0) [(eVar 1)])) (sSeq (sAsg (tName 3) (eLc (iVal (eAttr 1 (eVar 0))) [8] (tName 8) (eCmp .NotIn (eItem (eVar 8) (eConst (.int 0))) (eVar 2)) (eVar 8))) (sSeq (sAsg (tName 4) (eMk cf 0 3 [.pos 0, .pos 1, .pos 2] [(eAttr 2 (eVar 0)), (eLc (iVal (eVar 3)) [8] (tName 8) (eCmp .NotIn (eItem (eVar 8) (eConst (.int 1))) (eVar 2)) (eVar 8))] [])) (sSeq (sAsg (tName 5) (eItem (eMth cf dcMt 9 (eVar 4) [(eDc (iRange [(eAttr 2 (eVar 0))]) [9] (tName 9) (eCmp .NotIn (eVar 9) (eVar 2)) (eVar 9) (eConst (.int 0)))]) (eConst (.int 0)))) (sSeq (sAsg (tName 6) (eLc (iVal (eVar 3)) [9, 10, 11] (tTup [(tName 9), (tName 10), (tName 11)]) (eCmp .In (eVar 10) (eVar 2)) (eBin .Sub (eBin .Sub (eItem (eVar 2) (eVar 10)) (eVar 11)) (eItem (eVar 5) (eVar 9))))) (sSeq (sAsg (tName 7) (eBF .max1 [(eBin .Add (eLst [(eConst (.int 0))]) (eVar 6))])) (sSeq (sRet (eLc (iRange [(eAttr 2 (eVar 0))]) [9] (tName 9) (eConst (.bl true)) (eIf (eCmp .In (eVar 9) (eVar 2)) (eItem (eVar 2) (eVar 9)) (eBin .Add (eItem (eVar 5) (eVar 9)) (eVar 7))))) sPass))))))))
def d14 : Def := ⟨2, 12, c14⟩
/-- satisfies(self, values): self, values, source, target, limit, value -/
def c15 (cf : CF) : ShS := (sSeq (sIf (eOr (eUn .Not (eIsI (eVar 1) .list)) (eOr (eCmp .NotEq (eBF .len [(eVar 1)]) (eAttr 2 (eVar 0))) (eUn .Not (eBF .all [(eLc (iVal (eVar 1)) [5] (tName 5) (eConst (.bl true)) (eCall cf 0 [(eVar 5)]))])))) (sSeq (sRet (eConst (.bl false))) sPass) sPass) (sSeq (sRet (eBF .all [(eLc (iVal (eAttr 1 (eVar 0))) [2, 3, 4] (tTup [(tName 2), (tName 3), (tName 4)]) (eConst (.bl true)) (eCmp .LtE (eBin .Sub (eItem (eVar 1) (eVar 3)) (eItem (eVar 1) (eVar 2))) (eVar 4)))])) sPass))
def d15 : Def := ⟨2, 6, c15⟩
theorem call_at {tab : Nat → Option Def} {i k : Nat} {d : Def} {vs : List D} {h : Hh} (e : tab i = some d) (hl : vs.length = d.ar) : callN tab (k + 1) i vs h = (d.body (callN tab k) (startD d.n vs) h).res := by
  show (match tab i with
    | some d => if vs.length = d.ar then (d.body (callN tab k) (startD d.n vs) h).res else .bad
    | none => .bad) = _
  rw [e]
  exact if_pos hl
/-! ### dicts from nodes -/
structure MapD {A : Type} (g : A → D) (kvs : List (D × D)) (f : Nat → Option A) : Prop where
  ks : ∀ p ∈ kvs, isKey p.1 = true
  at_ : ∀ v : Nat, dget kvs (.int v) = (f v).map g
section
variable {A : Type} {g : A → D} {kvs : List (D × D)} {f : Nat → Option A}
theorem MapD.nil : MapD g [] (fun _ => none) := ⟨fun _ h => absurd h (by simp), fun _ => rfl⟩
theorem map_no {k v : D} : ∀ r : List (D × D), (∀ q ∈ r, ¬ q.1 = k) → r.map (fun p => if p.1 = k then (p.1, v) else p) = r
  | [], _ => rfl
  | q :: r, h => by rw [List.map_cons, if_neg (h q List.mem_cons_self), map_no r fun x hx => h x (List.mem_cons_of_mem _ hx)]
theorem dget_cons (p : D × D) (r : List (D × D)) (j : D) : dget (p :: r) j = if p.1 = j then some p.2 else dget r j := by
  unfold dget
  rw [List.find?_cons]
  by_cases h : p.1 = j
  · rw [if_pos h, decide_eq_true h]; rfl
  · rw [if_neg h, decide_eq_false h]
theorem dget_nil (j : D) : dget [] j = none := rfl
theorem dget_map {k v : D} (j : D) : ∀ r : List (D × D), r.any (fun p => decide (p.1 = k)) = true → dget (r.map fun p => if p.1 = k then (p.1, v) else p) j = if j = k then some v else dget r j
  | [], ha => by cases ha
  | p :: r, ha => by
    rw [List.map_cons, dget_cons, dget_cons]
    by_cases hp : p.1 = k
    · rw [if_pos hp]
      by_cases hj : p.1 = j
      · rw [if_pos hj, if_pos (hj.symm.trans hp)]
      · rw [if_neg hj, if_neg (fun e => hj (hp.trans e.symm)), if_neg hj]
        by_cases hr : r.any (fun p => decide (p.1 = k)) = true
        · rw [dget_map j r hr, if_neg (fun e => hj (hp.trans e.symm))]
        · rw [map_no r fun q hq e => hr (List.any_eq_true.mpr ⟨q, hq, by simpa using e⟩)]
    · rw [if_neg hp]
      have hr : r.any (fun p => decide (p.1 = k)) = true := by
        rw [List.any_cons, decide_eq_false hp, Bool.false_or] at ha
        exact ha
      rw [dget_map j r hr]
      by_cases hj : p.1 = j
      · rw [if_pos hj, if_pos hj, if_neg (fun e => hp (hj.trans e))]
      · rw [if_neg hj, if_neg hj]
theorem dget_snoc {k v : D} (j : D) : ∀ r : List (D × D), ¬ r.any (fun p => decide (p.1 = k)) = true → dget (r ++ [(k, v)]) j = if j = k then some v else dget r j
  | [], _ => by
    rw [List.nil_append, dget_cons, dget_nil]
    by_cases hj : k = j
    · rw [if_pos hj, if_pos hj.symm]
    · rw [if_neg hj, if_neg (Ne.symm hj)]
  | p :: r, ha => by
    rw [List.any_cons, Bool.or_eq_true, decide_eq_true_eq] at ha
    rw [List.cons_append, dget_cons, dget_cons, dget_snoc j r fun h => ha (.inr h)]
    by_cases hj : p.1 = j
    · rw [if_pos hj, if_pos hj, if_neg (fun e => ha (.inl (hj.trans e)))]
    · rw [if_neg hj, if_neg hj]
theorem dget_put (kvs : List (D × D)) (k j v : D) : dget (dput kvs k v) j = if j = k then some v else dget kvs j := by
  unfold dput
  split
  · exact dget_map j kvs (by assumption)
  · exact dget_snoc j kvs (by assumption)
theorem dput_keys {kvs : List (D × D)} {k v : D} (h : ∀ p ∈ kvs, isKey p.1 = true) (hk : isKey k = true) : ∀ p ∈ dput kvs k v, isKey p.1 = true := by
  unfold dput
  split
  · intro p hp
    obtain ⟨q, hq, rfl⟩ := List.mem_map.mp hp
    split
    · exact h q hq
    · exact h q hq
  · intro p hp
    rcases List.mem_append.mp hp with hp | hp
    · exact h p hp
    · rw [List.mem_singleton.mp hp]; exact hk
theorem MapD.put (m : MapD g kvs f) (v : Nat) (a : A) : MapD g (dput kvs (.int v) (g a)) (Bf.put f v a) := by
  refine ⟨dput_keys m.ks rfl, fun j => ?_⟩
  rw [dget_put]
  by_cases hj : j = v
  · subst hj
    rw [if_pos rfl, Bf.put_same]; rfl
  · rw [if_neg (by simp; omega), Bf.put_ne hj]
    exact m.at_ j
theorem dput_len (kvs : List (D × D)) (k v : D) : (dput kvs k v).length ≤ kvs.length + 1 := by
  unfold dput
  split
  · rw [List.length_map]; omega
  · rw [List.length_append, List.length_singleton]; omega
theorem MapD.fits (m : MapD g kvs f) (v : Int) : keyFits kvs (.int v) = true := by
  unfold keyFits
  have : kvs.all (fun p => isKey p.1) = true := List.all_eq_true.mpr m.ks
  rw [this]; rfl
theorem MapD.ok (m : MapD g kvs f) (v : Int) : dOk false kvs (.int v) = true := by
  unfold dOk
  rw [m.fits]; rfl
theorem MapD.item (m : MapD g kvs f) {h : Hh} {a : Nat} (e : h[a]? = some (.dic false kvs)) (v : Nat) : getItem (.ref a) (.int v) h = (f v).map g := by
  unfold getItem
  dsimp only
  rw [e]
  dsimp only
  rw [m.ok]
  exact m.at_ v
theorem MapD.isin (m : MapD g kvs f) {h : Hh} {a : Nat} (e : h[a]? = some (.dic false kvs)) (v : Nat) : cmpop .In (.int v) (.ref a) h = some (f v).isSome := by
  show inOp (.int v) (.ref a) h = _
  unfold inOp
  dsimp only
  rw [e]
  dsimp only
  rw [m.ok, if_pos rfl, m.at_ v]
  cases f v <;> rfl
theorem MapD.notin (m : MapD g kvs f) {h : Hh} {a : Nat} (e : h[a]? = some (.dic false kvs)) (v : Nat) : cmpop .NotIn (.int v) (.ref a) h = some (!(f v).isSome) := by
  have := m.isin e v
  show (inOp (.int v) (.ref a) h).map (!·) = _
  have this : inOp (.int v) (.ref a) h = some (f v).isSome := this
  rw [this]; rfl
theorem MapD.set (m : MapD g kvs f) {h : Hh} {a : Nat} (e : h[a]? = some (.dic false kvs)) (hl : kvs.length < lim) (v : Nat) (x : D) : setItem (.ref a) (.int v) x h = .ok () (h.set a (.dic false (dput kvs (.int v) x))) := by
  unfold setItem
  dsimp only
  rw [e]
  dsimp only
  rw [m.fits, decide_eq_true hl]; rfl
end
/-! ### displays -/
def dicD (kvs : List (D × D)) (h : Hh) : Res D := if kvs.all (fun p => isKey p.1) && decide (kvs.length ≤ 15) then alloc (.dic false (kvs.foldl (fun acc p => dput acc p.1 p.2) [])) h else eDic1 kvs h
theorem eDic_ap (ps : List (Sh × Sh)) (σ : Env) (h : Hh) : eDic ps σ h = (eDict ps σ h).bind dicD := rfl
theorem eDict_nil (σ : Env) (h : Hh) : eDict [] σ h = .ok [] h := rfl
theorem eDict_cons (k v : Sh) (r : List (Sh × Sh)) (σ : Env) (h : Hh) : eDict ((k, v) :: r) σ h = (k σ h).bind fun x h1 => (v σ h1).bind fun y h2 => (eDict r σ h2).bind fun zs h3 => .ok ((x, y) :: zs) h3 := rfl
theorem dicD_nil (h : Hh) : dicD [] h = alloc (.dic false []) h := rfl
/-! ### relax -/
def edD (e : Bf.Edge) : D := .tup [.int (e.1 : Nat), .int (e.2.1 : Nat), .int e.2.2]
def natD (i : Nat) : D := .int (i : Nat)
def chD' : Option Nat → D
  | none => .non
  | some v => .int (v : Nat)
theorem enum_at {E : List Bf.Edge} {i : Nat} {x : D} (h : ((E.map edD).zipIdx.map fun p => D.tup [.int p.2, p.1])[i]? = some x) : ∃ e, E[i]? = some e ∧ x = .tup [.int i, edD e] := by
  rw [List.getElem?_map, List.getElem?_zipIdx, List.getElem?_map] at h
  cases e' : E[i]? with
  | none => rw [e'] at h; cases h
  | some e =>
    rw [e'] at h
    simp at h
    exact ⟨e, rfl, h.symm⟩
theorem take_step {E : List Bf.Edge} {i : Nat} {e : Bf.Edge} (h : E[i]? = some e) (s : Bf.St) : (E.zipIdx.take (i + 1)).foldl Bf.step s = Bf.step ((E.zipIdx.take i).foldl Bf.step s) (e, i) := by
  have : E.zipIdx[i]? = some (e, i) := by rw [List.getElem?_zipIdx, h]; simp
  rw [List.take_add_one, this, List.foldl_append]
  rfl
theorem tTupN {ts : List Tg} {vs : List D} {σ : Env} {h : Hh} (hl : vs.length = ts.length) : tTup ts (.tup vs) σ h = tEach ts vs σ h := if_pos hl
theorem is_non (x : D) (h : Hh) : cmpop .Is x .non h = some (decide (x = .non)) := rfl
theorem isnot_non (x : D) (h : Hh) : cmpop .IsNot x .non h = some (!decide (x = .non)) := rfl
end Ev

set_option maxRecDepth 100000
set_option maxHeartbeats 1000000
namespace Ev
open PySem
theorem lmE : lim = 1000000 := rfl
theorem tstS_wp {c : Bool} {a b : SRes} {N : Env → Hh → Prop} {R : D → Hh → Prop} (h1 : c = true → wpS a N R) (h2 : c = false → wpS b N R) : wpS (if c = true then a else b) N R := by
  cases c with
  | true => rw [if_pos rfl]; exact h1 rfl
  | false => rw [if_neg (by simp)]; exact h2 rfl
theorem tst_wp {c : Bool} {a b : Res D} {Q : D → Hh → Prop} (h1 : c = true → wpR a Q) (h2 : c = false → wpR b Q) : wpR (if c = true then a else b) Q := by
  cases c with
  | true => rw [if_pos rfl]; exact h1 rfl
  | false => rw [if_neg (by simp)]; exact h2 rfl
def relaxIn : ShS := (sSeq (sIf (eCmp .In (eVar 6) (eVar 1)) (sSeq (sAsg (tName 9) (eBin .Add (eItem (eVar 1) (eVar 6)) (eVar 8))) (sSeq (sIf (eOr (eCmp .NotIn (eVar 7) (eVar 1)) (eCmp .Lt (eVar 9) (eItem (eVar 1) (eVar 7)))) (sSeq (sAsg (tItem (eVar 1) (eVar 7)) (eVar 9)) (sSeq (sAsg (tItem (eVar 2) (eVar 7)) (eVar 5)) (sSeq (sAsg (tName 3) (eVar 7)) sPass))) sPass) sPass)) sPass) sPass)
def relaxOut : ShS := (sSeq (sAsg (tName 3) (eConst .non)) (sSeq (sFor (iEnum (eAttr 1 (eVar 0))) (tTup [(tName 5), (tTup [(tName 6), (tName 7), (tName 8)])]) relaxIn) (sSeq (sIf (eCmp .Is (eVar 3) (eConst .non)) (sSeq (sRet (eTup [(eVar 1), (eVar 2), (eConst .non)])) sPass) sPass) sPass)))
theorem c7_eq (cf : CF) : c7 cf = (sSeq (sAsg (tName 2) (eDic [])) (sSeq (sAsg (tName 3) (eConst .non)) (sSeq (sFor (iRange [(eAttr 2 (eVar 0))]) (tName 4) relaxOut) (sSeq (sRet (eTup [(eVar 1), (eVar 2), (eVar 3)])) sPass)))) := rfl
/-- one edge -/
theorem relaxIn_wp {y dd l : Nat} {s : Bf.St} {e : Bf.Edge} {i : Nat} {kvs lvs : List (D × D)} {h : Hh} {o4 o9 : Option D} (hd : h[dd]? = some (.dic false kvs)) (md : MapD D.int kvs s.d) (hl : h[l]? = some (.dic false lvs)) (ml : MapD natD lvs s.l) (ne : dd ≠ l) (bk : kvs.length < lim) (bl : lvs.length < lim) {N : Env → Hh → Prop} {R : D → Hh → Prop}
    (q : ∀ h' kvs' lvs' o9', h'[dd]? = some (.dic false kvs') → MapD D.int kvs' (Bf.step s (e, i)).d → h'[l]? = some (.dic false lvs') → MapD natD lvs' (Bf.step s (e, i)).l → Fr [dd, l] h h' → kvs'.length ≤ kvs.length + 1 → lvs'.length ≤ lvs.length + 1 →
      N [some (.ref y), some (.ref dd), some (.ref l), some (chD' (Bf.step s (e, i)).c), o4, some (.int i), some (.int e.1), some (.int e.2.1), some (.int e.2.2), o9'] h') :
    wpS (relaxIn [some (.ref y), some (.ref dd), some (.ref l), some (chD' s.c), o4, some (.int i), some (.int e.1), some (.int e.2.1), some (.int e.2.2), o9] h) N R := by
  have same := fun (hs : Bf.step s (e, i) = s) => q h kvs lvs
  unfold relaxIn
  simp only [wpR_ok, wpR_bind, wpS_stm, wpS_seq, wpS_nx, wpS_rt, wpR_res, wpR_noExc, eConst_ap, eVar_z, eVar_s, eBin_ap, eUn_ap, eAnd_ap, eOr_ap, eIf_ap, eCmp_ap, eChain_ap, eArgs_nil, eArgs_cons, eTup_ap, eLst_wp, eItem_ap, eEnd_none, eEnd_some, toI_int, eSlice_ap, eBF_ap, eCall_ap, eCallK_ap, eIsI_ap, sPass_ap, sExpr_ap, sRet_ap, sRetN_ap, sAsg_ap, sIf_ap, sSeq_ap, tName_ap, tEach_nil, tEach_cons, tTup_ap, tItem_ap, pick_nil, pick_pos, pick_kw, pick_dfl, eAttr_ap, eMth_ap, eMk_ap, tAttr_ap, pF_some, isNon_non, eDicEn_ap, eRev_ap, List.set_cons_zero, List.set_cons_succ, List.length_cons, List.length_nil, truth_bl, truth_non, not_bl, not_non, tst_if, tstS_if, pBl_some, pD_some, add_int, sub_int, neg_int, lt_int, le_int, gt_int, ge_int, eq_int, ne_int, if_true, Bool.not_true, Bool.not_false, Bool.false_eq_true, if_false, and_self, List.getElem?_cons_zero, List.getElem?_cons_succ, Option.getD_some, Option.bind_some, Option.map_some, md.isin hd]
  refine tstS_wp (fun h1 => ?_) (fun h1 => ?_)
  · obtain ⟨x, ex⟩ := Option.isSome_iff_exists.mp h1
    simp only [md.item hd, ex, Option.map_some, wpR_ok, wpR_bind, wpS_stm, wpS_seq, wpS_nx, wpS_rt, wpR_res, wpR_noExc, eConst_ap, eVar_z, eVar_s, eBin_ap, eUn_ap, eAnd_ap, eOr_ap, eIf_ap, eCmp_ap, eChain_ap, eArgs_nil, eArgs_cons, eTup_ap, eLst_wp, eItem_ap, eEnd_none, eEnd_some, toI_int, eSlice_ap, eBF_ap, eCall_ap, eCallK_ap, eIsI_ap, sPass_ap, sExpr_ap, sRet_ap, sRetN_ap, sAsg_ap, sIf_ap, sSeq_ap, tName_ap, tEach_nil, tEach_cons, tTup_ap, tItem_ap, pick_nil, pick_pos, pick_kw, pick_dfl, eAttr_ap, eMth_ap, eMk_ap, tAttr_ap, pF_some, isNon_non, eDicEn_ap, eRev_ap, List.set_cons_zero, List.set_cons_succ, List.length_cons, List.length_nil, truth_bl, truth_non, not_bl, not_non, tst_if, tstS_if, pBl_some, pD_some, add_int, sub_int, neg_int, lt_int, le_int, gt_int, ge_int, eq_int, ne_int, if_true, Bool.not_true, Bool.not_false, Bool.false_eq_true, if_false, and_self, List.getElem?_cons_zero, List.getElem?_cons_succ, Option.getD_some, Option.bind_some, Option.map_some, md.notin hd]
    have hstep : Bf.step s (e, i) = if Bf.better s.d e.2.1 (x + e.2.2) then ⟨Bf.put s.d e.2.1 (x + e.2.2), Bf.put s.l e.2.1 i, some e.2.1⟩ else s := by
      unfold Bf.step
      have ex : s.d e.1 = some x := ex
      dsimp only
      rw [ex]
    have up : Bf.better s.d e.2.1 (x + e.2.2) = true → wpS ((sSeq (sAsg (tItem (eVar 1) (eVar 7)) (eVar 9)) (sSeq (sAsg (tItem (eVar 2) (eVar 7)) (eVar 5)) (sSeq (sAsg (tName 3) (eVar 7)) sPass))) [some (.ref y), some (.ref dd), some (.ref l), some (chD' s.c), o4, some (.int i), some (.int e.1), some (.int e.2.1), some (.int e.2.2), some (.int (x + e.2.2))] h) N R := fun hb => by
      rw [if_pos hb] at hstep
      have e1 : (h.set dd (.dic false (dput kvs (.int e.2.1) (.int (x + e.2.2)))))[l]? = some (.dic false lvs) := by rw [List.getElem?_set_ne ne]; exact hl
      simp only [wpR_ok, wpR_bind, wpS_stm, wpS_seq, wpS_nx, wpS_rt, wpR_res, wpR_noExc, eConst_ap, eVar_z, eVar_s, eBin_ap, eUn_ap, eAnd_ap, eOr_ap, eIf_ap, eCmp_ap, eChain_ap, eArgs_nil, eArgs_cons, eTup_ap, eLst_wp, eItem_ap, eEnd_none, eEnd_some, toI_int, eSlice_ap, eBF_ap, eCall_ap, eCallK_ap, eIsI_ap, sPass_ap, sExpr_ap, sRet_ap, sRetN_ap, sAsg_ap, sIf_ap, sSeq_ap, tName_ap, tEach_nil, tEach_cons, tTup_ap, tItem_ap, pick_nil, pick_pos, pick_kw, pick_dfl, eAttr_ap, eMth_ap, eMk_ap, tAttr_ap, pF_some, isNon_non, eDicEn_ap, eRev_ap, List.set_cons_zero, List.set_cons_succ, List.length_cons, List.length_nil, truth_bl, truth_non, not_bl, not_non, tst_if, tstS_if, pBl_some, pD_some, add_int, sub_int, neg_int, lt_int, le_int, gt_int, ge_int, eq_int, ne_int, if_true, Bool.not_true, Bool.not_false, Bool.false_eq_true, if_false, and_self, List.getElem?_cons_zero, List.getElem?_cons_succ, Option.getD_some, Option.bind_some, Option.map_some, md.set hd bk, ml.set e1 bl]
      rw [hstep] at q
      refine q _ (dput kvs (.int e.2.1) (.int (x + e.2.2))) (dput lvs (.int e.2.1) (natD i)) _ ?_ (md.put _ _) ?_ (ml.put _ _) ?_ (dput_len ..) (dput_len ..)
      · rw [List.getElem?_set_ne (Ne.symm ne)]
        exact List.getElem?_set_self (at_lt hd)
      · exact List.getElem?_set_self (by rw [List.length_set]; exact at_lt hl)
      · exact ((Fr.set h dd _).weak (M' := [dd, l]) fun j hj => .inl (by simp at hj; simp [hj])).trans ((Fr.set _ l _).weak fun j hj => .inl (by simp at hj; simp [hj]))
    have no : Bf.better s.d e.2.1 (x + e.2.2) = false → N [some (.ref y), some (.ref dd), some (.ref l), some (chD' s.c), o4, some (.int i), some (.int e.1), some (.int e.2.1), some (.int e.2.2), some (.int (x + e.2.2))] h := fun hb => by
      rw [if_neg (by rw [hb]; simp)] at hstep
      rw [hstep] at q
      exact q h kvs lvs _ hd md hl ml (Fr.refl _ _) (Nat.le_succ _) (Nat.le_succ _)
    simp only [wpR_ok, wpR_bind, wpS_stm, wpS_seq, wpS_nx, wpS_rt, wpR_res, wpR_noExc, eConst_ap, eVar_z, eVar_s, eBin_ap, eUn_ap, eAnd_ap, eOr_ap, eIf_ap, eCmp_ap, eChain_ap, eArgs_nil, eArgs_cons, eTup_ap, eLst_wp, eItem_ap, eEnd_none, eEnd_some, toI_int, eSlice_ap, eBF_ap, eCall_ap, eCallK_ap, eIsI_ap, sPass_ap, sExpr_ap, sRet_ap, sRetN_ap, sAsg_ap, sIf_ap, sSeq_ap, tName_ap, tEach_nil, tEach_cons, tTup_ap, tItem_ap, pick_nil, pick_pos, pick_kw, pick_dfl, eAttr_ap, eMth_ap, eMk_ap, tAttr_ap, pF_some, isNon_non, eDicEn_ap, eRev_ap, List.set_cons_zero, List.set_cons_succ, List.length_cons, List.length_nil, truth_bl, truth_non, not_bl, not_non, tst_if, tstS_if, pBl_some, pD_some, add_int, sub_int, neg_int, lt_int, le_int, gt_int, ge_int, eq_int, ne_int, if_true, Bool.not_true, Bool.not_false, Bool.false_eq_true, if_false, and_self, List.getElem?_cons_zero, List.getElem?_cons_succ, Option.getD_some, Option.bind_some, Option.map_some] at up
    refine tst_wp (fun h2 => ?_) (fun h2 => ?_)
    · rw [h2]
      simp only [wpR_ok, wpR_bind, wpS_stm, wpS_seq, wpS_nx, wpS_rt, wpR_res, wpR_noExc, eConst_ap, eVar_z, eVar_s, eBin_ap, eUn_ap, eAnd_ap, eOr_ap, eIf_ap, eCmp_ap, eChain_ap, eArgs_nil, eArgs_cons, eTup_ap, eLst_wp, eItem_ap, eEnd_none, eEnd_some, toI_int, eSlice_ap, eBF_ap, eCall_ap, eCallK_ap, eIsI_ap, sPass_ap, sExpr_ap, sRet_ap, sRetN_ap, sAsg_ap, sIf_ap, sSeq_ap, tName_ap, tEach_nil, tEach_cons, tTup_ap, tItem_ap, pick_nil, pick_pos, pick_kw, pick_dfl, eAttr_ap, eMth_ap, eMk_ap, tAttr_ap, pF_some, isNon_non, eDicEn_ap, eRev_ap, List.set_cons_zero, List.set_cons_succ, List.length_cons, List.length_nil, truth_bl, truth_non, not_bl, not_non, tst_if, tstS_if, pBl_some, pD_some, add_int, sub_int, neg_int, lt_int, le_int, gt_int, ge_int, eq_int, ne_int, if_true, Bool.not_true, Bool.not_false, Bool.false_eq_true, if_false, and_self, List.getElem?_cons_zero, List.getElem?_cons_succ, Option.getD_some, Option.bind_some, Option.map_some]
      refine up ?_
      unfold Bf.better
      cases ey : s.d e.2.1 with
      | none => rfl
      | some z => rw [ey] at h2; cases h2
    · have : (s.d e.2.1).isSome = true := by simpa using h2
      obtain ⟨z, ez⟩ := Option.isSome_iff_exists.mp this
      simp only [md.item hd, ez, Option.map_some, wpR_ok, wpR_bind, wpS_stm, wpS_seq, wpS_nx, wpS_rt, wpR_res, wpR_noExc, eConst_ap, eVar_z, eVar_s, eBin_ap, eUn_ap, eAnd_ap, eOr_ap, eIf_ap, eCmp_ap, eChain_ap, eArgs_nil, eArgs_cons, eTup_ap, eLst_wp, eItem_ap, eEnd_none, eEnd_some, toI_int, eSlice_ap, eBF_ap, eCall_ap, eCallK_ap, eIsI_ap, sPass_ap, sExpr_ap, sRet_ap, sRetN_ap, sAsg_ap, sIf_ap, sSeq_ap, tName_ap, tEach_nil, tEach_cons, tTup_ap, tItem_ap, pick_nil, pick_pos, pick_kw, pick_dfl, eAttr_ap, eMth_ap, eMk_ap, tAttr_ap, pF_some, isNon_non, eDicEn_ap, eRev_ap, List.set_cons_zero, List.set_cons_succ, List.length_cons, List.length_nil, truth_bl, truth_non, not_bl, not_non, tst_if, tstS_if, pBl_some, pD_some, add_int, sub_int, neg_int, lt_int, le_int, gt_int, ge_int, eq_int, ne_int, if_true, Bool.not_true, Bool.not_false, Bool.false_eq_true, if_false, and_self, List.getElem?_cons_zero, List.getElem?_cons_succ, Option.getD_some, Option.bind_some, Option.map_some]
      have hb : Bf.better s.d e.2.1 (x + e.2.2) = decide (x + e.2.2 < z) := by unfold Bf.better; rw [ez]
      refine tstS_wp (fun h3 => ?_) (fun h3 => ?_)
      · simp only [wpR_ok, wpR_bind, wpS_stm, wpS_seq, wpS_nx, wpS_rt, wpR_res, wpR_noExc, eConst_ap, eVar_z, eVar_s, eBin_ap, eUn_ap, eAnd_ap, eOr_ap, eIf_ap, eCmp_ap, eChain_ap, eArgs_nil, eArgs_cons, eTup_ap, eLst_wp, eItem_ap, eEnd_none, eEnd_some, toI_int, eSlice_ap, eBF_ap, eCall_ap, eCallK_ap, eIsI_ap, sPass_ap, sExpr_ap, sRet_ap, sRetN_ap, sAsg_ap, sIf_ap, sSeq_ap, tName_ap, tEach_nil, tEach_cons, tTup_ap, tItem_ap, pick_nil, pick_pos, pick_kw, pick_dfl, eAttr_ap, eMth_ap, eMk_ap, tAttr_ap, pF_some, isNon_non, eDicEn_ap, eRev_ap, List.set_cons_zero, List.set_cons_succ, List.length_cons, List.length_nil, truth_bl, truth_non, not_bl, not_non, tst_if, tstS_if, pBl_some, pD_some, add_int, sub_int, neg_int, lt_int, le_int, gt_int, ge_int, eq_int, ne_int, if_true, Bool.not_true, Bool.not_false, Bool.false_eq_true, if_false, and_self, List.getElem?_cons_zero, List.getElem?_cons_succ, Option.getD_some, Option.bind_some, Option.map_some]
        exact up (by rw [hb]; exact h3)
      · simp only [wpR_ok, wpR_bind, wpS_stm, wpS_seq, wpS_nx, wpS_rt, wpR_res, wpR_noExc, eConst_ap, eVar_z, eVar_s, eBin_ap, eUn_ap, eAnd_ap, eOr_ap, eIf_ap, eCmp_ap, eChain_ap, eArgs_nil, eArgs_cons, eTup_ap, eLst_wp, eItem_ap, eEnd_none, eEnd_some, toI_int, eSlice_ap, eBF_ap, eCall_ap, eCallK_ap, eIsI_ap, sPass_ap, sExpr_ap, sRet_ap, sRetN_ap, sAsg_ap, sIf_ap, sSeq_ap, tName_ap, tEach_nil, tEach_cons, tTup_ap, tItem_ap, pick_nil, pick_pos, pick_kw, pick_dfl, eAttr_ap, eMth_ap, eMk_ap, tAttr_ap, pF_some, isNon_non, eDicEn_ap, eRev_ap, List.set_cons_zero, List.set_cons_succ, List.length_cons, List.length_nil, truth_bl, truth_non, not_bl, not_non, tst_if, tstS_if, pBl_some, pD_some, add_int, sub_int, neg_int, lt_int, le_int, gt_int, ge_int, eq_int, ne_int, if_true, Bool.not_true, Bool.not_false, Bool.false_eq_true, if_false, and_self, List.getElem?_cons_zero, List.getElem?_cons_succ, Option.getD_some, Option.bind_some, Option.map_some]
        exact no (by rw [hb]; exact h3)
  · have hstep : Bf.step s (e, i) = s := by
      unfold Bf.step
      have : s.d e.1 = none := by simpa using h1
      dsimp only
      rw [this]
    rw [hstep] at q
    simp only [wpR_ok, wpR_bind, wpS_stm, wpS_seq, wpS_nx, wpS_rt, wpR_res, wpR_noExc, eConst_ap, eVar_z, eVar_s, eBin_ap, eUn_ap, eAnd_ap, eOr_ap, eIf_ap, eCmp_ap, eChain_ap, eArgs_nil, eArgs_cons, eTup_ap, eLst_wp, eItem_ap, eEnd_none, eEnd_some, toI_int, eSlice_ap, eBF_ap, eCall_ap, eCallK_ap, eIsI_ap, sPass_ap, sExpr_ap, sRet_ap, sRetN_ap, sAsg_ap, sIf_ap, sSeq_ap, tName_ap, tEach_nil, tEach_cons, tTup_ap, tItem_ap, pick_nil, pick_pos, pick_kw, pick_dfl, eAttr_ap, eMth_ap, eMk_ap, tAttr_ap, pF_some, isNon_non, eDicEn_ap, eRev_ap, List.set_cons_zero, List.set_cons_succ, List.length_cons, List.length_nil, truth_bl, truth_non, not_bl, not_non, tst_if, tstS_if, pBl_some, pD_some, add_int, sub_int, neg_int, lt_int, le_int, gt_int, ge_int, eq_int, ne_int, if_true, Bool.not_true, Bool.not_false, Bool.false_eq_true, if_false, and_self, List.getElem?_cons_zero, List.getElem?_cons_succ, Option.getD_some, Option.bind_some, Option.map_some]
    exact q h kvs lvs _ hd md hl ml (Fr.refl _ _) (Nat.le_succ _) (Nat.le_succ _)
/-- one round -/
theorem relaxOut_wp {y e dd l : Nat} {fs : List (Nat × D)} {E : List Bf.Edge} {s : Bf.St} {kvs lvs : List (D × D)} {h : Hh} {o4 : D} {o5 o6 o7 o8 o9 : Option D} {sc : D} (hy : h[y]? = some (.ins 0 fs)) (f1 : fget fs 1 = some (.ref e)) (he : h[e]? = some (.lst false (E.map edD)))
    (hd : h[dd]? = some (.dic false kvs)) (md : MapD D.int kvs s.d) (hl : h[l]? = some (.dic false lvs)) (ml : MapD natD lvs s.l) (ne : dd ≠ l) (bk : kvs.length + E.length < lim) (bl : lvs.length + E.length < lim) {N : Env → Hh → Prop} {R : D → Hh → Prop}
    (q : ∀ h' kvs' lvs', h'[dd]? = some (.dic false kvs') → MapD D.int kvs' (Bf.round E s).d → h'[l]? = some (.dic false lvs') → MapD natD lvs' (Bf.round E s).l → Fr [dd, l] h h' → kvs'.length ≤ kvs.length + E.length → lvs'.length ≤ lvs.length + E.length →
      ((Bf.round E s).c = none → R (.tup [.ref dd, .ref l, .non]) h') ∧ ((Bf.round E s).c ≠ none → ∀ o5 o6 o7 o8 o9, N [some (.ref y), some (.ref dd), some (.ref l), some (chD' (Bf.round E s).c), some o4, o5, o6, o7, o8, o9] h')) :
    wpS (relaxOut [some (.ref y), some (.ref dd), some (.ref l), some sc, some o4, o5, o6, o7, o8, o9] h) N R := by
  have nye : ∀ (j : Nat), j ∈ [dd, l] → y ≠ j ∧ e ≠ j := fun j hj => by
    simp at hj
    rcases hj with rfl | rfl
    · exact ⟨fun z => by rw [z, hd] at hy; simp at hy, fun z => by rw [z, hd] at he; simp at he⟩
    · exact ⟨fun z => by rw [z, hl] at hy; simp at hy, fun z => by rw [z, hl] at he; simp at he⟩
  have ny : y ∉ [dd, l] := fun hm => (nye y hm).1 rfl
  have nee : e ∉ [dd, l] := fun hm => (nye e hm).2 rfl
  unfold relaxOut
  simp only [wpR_ok, wpR_bind, wpS_stm, wpS_seq, wpS_nx, wpS_rt, wpR_res, wpR_noExc, eConst_ap, eVar_z, eVar_s, eBin_ap, eUn_ap, eAnd_ap, eOr_ap, eIf_ap, eCmp_ap, eChain_ap, eArgs_nil, eArgs_cons, eTup_ap, eLst_wp, eItem_ap, eEnd_none, eEnd_some, toI_int, eSlice_ap, eBF_ap, eCall_ap, eCallK_ap, eIsI_ap, sPass_ap, sExpr_ap, sRet_ap, sRetN_ap, sAsg_ap, sIf_ap, sSeq_ap, tName_ap, tEach_nil, tEach_cons, tTup_ap, tItem_ap, pick_nil, pick_pos, pick_kw, pick_dfl, eAttr_ap, eMth_ap, eMk_ap, tAttr_ap, pF_some, isNon_non, eDicEn_ap, eRev_ap, List.set_cons_zero, List.set_cons_succ, List.length_cons, List.length_nil, truth_bl, truth_non, not_bl, not_non, tst_if, tstS_if, pBl_some, pD_some, add_int, sub_int, neg_int, lt_int, le_int, gt_int, ge_int, eq_int, ne_int, if_true, Bool.not_true, Bool.not_false, Bool.false_eq_true, if_false, and_self, List.getElem?_cons_zero, List.getElem?_cons_succ, Option.getD_some, Option.bind_some, Option.map_some]
  refine sFor_wp ?_
  simp only [iEnum_ap, wpR_ok, wpR_bind, wpS_stm, wpS_seq, wpS_nx, wpS_rt, wpR_res, wpR_noExc, eConst_ap, eVar_z, eVar_s, eBin_ap, eUn_ap, eAnd_ap, eOr_ap, eIf_ap, eCmp_ap, eChain_ap, eArgs_nil, eArgs_cons, eTup_ap, eLst_wp, eItem_ap, eEnd_none, eEnd_some, toI_int, eSlice_ap, eBF_ap, eCall_ap, eCallK_ap, eIsI_ap, sPass_ap, sExpr_ap, sRet_ap, sRetN_ap, sAsg_ap, sIf_ap, sSeq_ap, tName_ap, tEach_nil, tEach_cons, tTup_ap, tItem_ap, pick_nil, pick_pos, pick_kw, pick_dfl, eAttr_ap, eMth_ap, eMk_ap, tAttr_ap, pF_some, isNon_non, eDicEn_ap, eRev_ap, List.set_cons_zero, List.set_cons_succ, List.length_cons, List.length_nil, truth_bl, truth_non, not_bl, not_non, tst_if, tstS_if, pBl_some, pD_some, add_int, sub_int, neg_int, lt_int, le_int, gt_int, ge_int, eq_int, ne_int, if_true, Bool.not_true, Bool.not_false, Bool.false_eq_true, if_false, and_self, List.getElem?_cons_zero, List.getElem?_cons_succ, Option.getD_some, Option.bind_some, Option.map_some, getAttr_ref hy, f1, enW_lst he]
  refine ⟨trivial, ?_⟩
  refine forL_wp (fun j σ h' => ∃ kvs' lvs' o5 o6 o7 o8 o9, σ = [some (.ref y), some (.ref dd), some (.ref l), some (chD' ((E.zipIdx.take j).foldl Bf.step { s with c := none }).c), some o4, o5, o6, o7, o8, o9] ∧
    h'[dd]? = some (.dic false kvs') ∧ MapD D.int kvs' ((E.zipIdx.take j).foldl Bf.step { s with c := none }).d ∧ h'[l]? = some (.dic false lvs') ∧ MapD natD lvs' ((E.zipIdx.take j).foldl Bf.step { s with c := none }).l ∧ Fr [dd, l] h h' ∧ kvs'.length ≤ kvs.length + j ∧ lvs'.length ≤ lvs.length + j) ?_ ?_ ?_ ?_
  · rintro j σ h' ⟨kvs', lvs', _, _, _, _, _, rfl, h1, h2, h3, h4, fr, b1, b2⟩
    exact stands_some (fr.get _ _ nee he)
  · rintro j x σ h' hx ⟨kvs', lvs', p5, p6, p7, p8, p9, rfl, h1, h2, h3, h4, fr, b1, b2⟩
    obtain ⟨ed, e1, rfl⟩ := enum_at hx
    have hj := (List.getElem?_eq_some_iff.mp e1).1
    have t3 : ([.int (ed.1 : Nat), .int (ed.2.1 : Nat), .int ed.2.2] : List D).length = ([tName 6, tName 7, tName 8] : List Tg).length := rfl
    simp only [wpR_ok, wpR_bind, wpS_stm, wpS_seq, wpS_nx, wpS_rt, wpR_res, wpR_noExc, eConst_ap, eVar_z, eVar_s, eBin_ap, eUn_ap, eAnd_ap, eOr_ap, eIf_ap, eCmp_ap, eChain_ap, eArgs_nil, eArgs_cons, eTup_ap, eLst_wp, eItem_ap, eEnd_none, eEnd_some, toI_int, eSlice_ap, eBF_ap, eCall_ap, eCallK_ap, eIsI_ap, sPass_ap, sExpr_ap, sRet_ap, sRetN_ap, sAsg_ap, sIf_ap, sSeq_ap, tName_ap, tEach_nil, tEach_cons, tTup_ap, tItem_ap, pick_nil, pick_pos, pick_kw, pick_dfl, eAttr_ap, eMth_ap, eMk_ap, tAttr_ap, pF_some, isNon_non, eDicEn_ap, eRev_ap, List.set_cons_zero, List.set_cons_succ, List.length_cons, List.length_nil, truth_bl, truth_non, not_bl, not_non, tst_if, tstS_if, pBl_some, pD_some, add_int, sub_int, neg_int, lt_int, le_int, gt_int, ge_int, eq_int, ne_int, if_true, Bool.not_true, Bool.not_false, Bool.false_eq_true, if_false, and_self, List.getElem?_cons_zero, List.getElem?_cons_succ, Option.getD_some, Option.bind_some, Option.map_some, edD, tTupN t3]
    refine relaxIn_wp (s := (E.zipIdx.take j).foldl Bf.step { s with c := none }) (e := ed) (i := j) h1 h2 h3 h4 ne (by omega) (by omega) fun h'' kvs'' lvs'' o9' g1 g2 g3 g4 fr2 b3 b4 => ?_
    rw [← take_step e1] at g2 g4 ⊢
    exact ⟨kvs'', lvs'', _, _, _, _, _, rfl, g1, g2, g3, g4, fr.trans fr2, by omega, by omega⟩
  · rintro σ h' ⟨kvs', lvs', p5, p6, p7, p8, p9, rfl, h1, h2, h3, h4, fr, b1, b2⟩
    have hl' : (E.zipIdx.take ((E.map edD).zipIdx.map fun p => D.tup [.int p.2, p.1]).length) = E.zipIdx := by
      rw [List.length_map, List.length_zipIdx, List.length_map]
      exact List.take_of_length_le (by rw [List.length_zipIdx]; exact Nat.le_refl _)
    rw [hl'] at h2 h4 ⊢
    have hr : E.zipIdx.foldl Bf.step { s with c := none } = Bf.round E s := rfl
    rw [hr] at h2 h4 ⊢
    rw [List.length_map, List.length_zipIdx, List.length_map] at b1 b2
    obtain ⟨q1, q2⟩ := q h' kvs' lvs' h1 h2 h3 h4 fr b1 b2
    simp only [wpR_ok, wpR_bind, wpS_stm, wpS_seq, wpS_nx, wpS_rt, wpR_res, wpR_noExc, eConst_ap, eVar_z, eVar_s, eBin_ap, eUn_ap, eAnd_ap, eOr_ap, eIf_ap, eCmp_ap, eChain_ap, eArgs_nil, eArgs_cons, eTup_ap, eLst_wp, eItem_ap, eEnd_none, eEnd_some, toI_int, eSlice_ap, eBF_ap, eCall_ap, eCallK_ap, eIsI_ap, sPass_ap, sExpr_ap, sRet_ap, sRetN_ap, sAsg_ap, sIf_ap, sSeq_ap, tName_ap, tEach_nil, tEach_cons, tTup_ap, tItem_ap, pick_nil, pick_pos, pick_kw, pick_dfl, eAttr_ap, eMth_ap, eMk_ap, tAttr_ap, pF_some, isNon_non, eDicEn_ap, eRev_ap, List.set_cons_zero, List.set_cons_succ, List.length_cons, List.length_nil, truth_bl, truth_non, not_bl, not_non, tst_if, tstS_if, pBl_some, pD_some, add_int, sub_int, neg_int, lt_int, le_int, gt_int, ge_int, eq_int, ne_int, if_true, Bool.not_true, Bool.not_false, Bool.false_eq_true, if_false, and_self, List.getElem?_cons_zero, List.getElem?_cons_succ, Option.getD_some, Option.bind_some, Option.map_some, is_non]
    refine tstS_wp (fun hc => ?_) (fun hc => ?_)
    · simp only [wpR_ok, wpR_bind, wpS_stm, wpS_seq, wpS_nx, wpS_rt, wpR_res, wpR_noExc, eConst_ap, eVar_z, eVar_s, eBin_ap, eUn_ap, eAnd_ap, eOr_ap, eIf_ap, eCmp_ap, eChain_ap, eArgs_nil, eArgs_cons, eTup_ap, eLst_wp, eItem_ap, eEnd_none, eEnd_some, toI_int, eSlice_ap, eBF_ap, eCall_ap, eCallK_ap, eIsI_ap, sPass_ap, sExpr_ap, sRet_ap, sRetN_ap, sAsg_ap, sIf_ap, sSeq_ap, tName_ap, tEach_nil, tEach_cons, tTup_ap, tItem_ap, pick_nil, pick_pos, pick_kw, pick_dfl, eAttr_ap, eMth_ap, eMk_ap, tAttr_ap, pF_some, isNon_non, eDicEn_ap, eRev_ap, List.set_cons_zero, List.set_cons_succ, List.length_cons, List.length_nil, truth_bl, truth_non, not_bl, not_non, tst_if, tstS_if, pBl_some, pD_some, add_int, sub_int, neg_int, lt_int, le_int, gt_int, ge_int, eq_int, ne_int, if_true, Bool.not_true, Bool.not_false, Bool.false_eq_true, if_false, and_self, List.getElem?_cons_zero, List.getElem?_cons_succ, Option.getD_some, Option.bind_some, Option.map_some]
      refine q1 ?_
      cases ec : (Bf.round E s).c with
      | none => rfl
      | some v => rw [ec] at hc; simp [chD'] at hc
    · simp only [wpR_ok, wpR_bind, wpS_stm, wpS_seq, wpS_nx, wpS_rt, wpR_res, wpR_noExc, eConst_ap, eVar_z, eVar_s, eBin_ap, eUn_ap, eAnd_ap, eOr_ap, eIf_ap, eCmp_ap, eChain_ap, eArgs_nil, eArgs_cons, eTup_ap, eLst_wp, eItem_ap, eEnd_none, eEnd_some, toI_int, eSlice_ap, eBF_ap, eCall_ap, eCallK_ap, eIsI_ap, sPass_ap, sExpr_ap, sRet_ap, sRetN_ap, sAsg_ap, sIf_ap, sSeq_ap, tName_ap, tEach_nil, tEach_cons, tTup_ap, tItem_ap, pick_nil, pick_pos, pick_kw, pick_dfl, eAttr_ap, eMth_ap, eMk_ap, tAttr_ap, pF_some, isNon_non, eDicEn_ap, eRev_ap, List.set_cons_zero, List.set_cons_succ, List.length_cons, List.length_nil, truth_bl, truth_non, not_bl, not_non, tst_if, tstS_if, pBl_some, pD_some, add_int, sub_int, neg_int, lt_int, le_int, gt_int, ge_int, eq_int, ne_int, if_true, Bool.not_true, Bool.not_false, Bool.false_eq_true, if_false, and_self, List.getElem?_cons_zero, List.getElem?_cons_succ, Option.getD_some, Option.bind_some, Option.map_some]
      refine q2 (fun z => ?_) _ _ _ _ _
      rw [z] at hc; simp [chD'] at hc
  · exact ⟨kvs, lvs, _, _, _, _, _, rfl, hd, md, hl, ml, Fr.refl _ _, Nat.le_refl _, Nat.le_refl _⟩
/-- relax -/
theorem relax_wp {cf : CF} {y e dd n : Nat} {fs : List (Nat × D)} {E : List Bf.Edge} {f : Nat → Option Int} {kvs : List (D × D)} {h : Hh} (hy : h[y]? = some (.ins 0 fs)) (f1 : fget fs 1 = some (.ref e)) (f2 : fget fs 2 = some (.int (n : Nat))) (he : h[e]? = some (.lst false (E.map edD)))
    (hd : h[dd]? = some (.dic false kvs)) (md : MapD D.int kvs f) (bk : kvs.length ≤ 1000) (bn : n ≤ 100) (bE : E.length ≤ 1000) {Q : D → Hh → Prop}
    (q : ∀ h' l kvs' lvs, h'[dd]? = some (.dic false kvs') → MapD D.int kvs' (Bf.relax E n ⟨f, fun _ => none, none⟩).d → h'[l]? = some (.dic false lvs) → MapD natD lvs (Bf.relax E n ⟨f, fun _ => none, none⟩).l → Fr [dd] h h' → h.length ≤ l → kvs'.length < lim →
      Q (.tup [.ref dd, .ref l, chD' (Bf.relax E n ⟨f, fun _ => none, none⟩).c]) h') :
    wpR (c7 cf [some (.ref y), some (.ref dd), none, none, none, none, none, none, none, none] h).res Q := by
  rw [c7_eq]
  simp only [wpR_ok, wpR_bind, wpS_stm, wpS_seq, wpS_nx, wpS_rt, wpR_res, wpR_noExc, eConst_ap, eVar_z, eVar_s, eBin_ap, eUn_ap, eAnd_ap, eOr_ap, eIf_ap, eCmp_ap, eChain_ap, eArgs_nil, eArgs_cons, eTup_ap, eLst_wp, eItem_ap, eEnd_none, eEnd_some, toI_int, eSlice_ap, eBF_ap, eCall_ap, eCallK_ap, eIsI_ap, sPass_ap, sExpr_ap, sRet_ap, sRetN_ap, sAsg_ap, sIf_ap, sSeq_ap, tName_ap, tEach_nil, tEach_cons, tTup_ap, tItem_ap, pick_nil, pick_pos, pick_kw, pick_dfl, eAttr_ap, eMth_ap, eMk_ap, tAttr_ap, pF_some, isNon_non, eDicEn_ap, eRev_ap, List.set_cons_zero, List.set_cons_succ, List.length_cons, List.length_nil, truth_bl, truth_non, not_bl, not_non, tst_if, tstS_if, pBl_some, pD_some, add_int, sub_int, neg_int, lt_int, le_int, gt_int, ge_int, eq_int, ne_int, if_true, Bool.not_true, Bool.not_false, Bool.false_eq_true, if_false, and_self, List.getElem?_cons_zero, List.getElem?_cons_succ, Option.getD_some, Option.bind_some, Option.map_some, eDic_ap, eDict_nil, dicD_nil]
  refine alloc_wp fun l h1 hl fr1 lal => ?_
  have hdl : dd < h.length := at_lt hd
  have ne : dd ≠ l := by omega
  have hy1 := fr1.get _ _ (by simp) hy
  have he1 := fr1.get _ _ (by simp) he
  have hd1 := fr1.get _ _ (by simp) hd
  have nye : ∀ (j : Nat), j ∈ [dd, l] → y ≠ j ∧ e ≠ j := fun j hj => by
    simp at hj
    rcases hj with rfl | rfl
    · exact ⟨fun z => by rw [z, hd] at hy; simp at hy, fun z => by rw [z, hd] at he; simp at he⟩
    · exact ⟨fun z => by have := at_lt hy; omega, fun z => by have := at_lt he; omega⟩
  have ny : y ∉ [dd, l] := fun hm => (nye y hm).1 rfl
  have nee : e ∉ [dd, l] := fun hm => (nye e hm).2 rfl
  refine sFor_wp ?_
  have rE : iRange [(eAttr 2 (eVar 0))] [some (.ref y), some (.ref dd), some (.ref l), some .non, none, none, none, none, none, none] h1 = .ok ⟨(List.range (n : Int).toNat).map fun k => .int ((k : Nat) : Int), none, none⟩ h1 := by
    refine rng_ap ?_ (by omega) (by omega)
    simp only [eAttr_ap, eVar_z, Res.bind_ok, getAttr_ref hy1, f2, pD_some]
  rw [rE]
  simp only [wpR_ok, wpR_bind, wpS_stm, wpS_seq, wpS_nx, wpS_rt, wpR_res, wpR_noExc, eConst_ap, eVar_z, eVar_s, eBin_ap, eUn_ap, eAnd_ap, eOr_ap, eIf_ap, eCmp_ap, eChain_ap, eArgs_nil, eArgs_cons, eTup_ap, eLst_wp, eItem_ap, eEnd_none, eEnd_some, toI_int, eSlice_ap, eBF_ap, eCall_ap, eCallK_ap, eIsI_ap, sPass_ap, sExpr_ap, sRet_ap, sRetN_ap, sAsg_ap, sIf_ap, sSeq_ap, tName_ap, tEach_nil, tEach_cons, tTup_ap, tItem_ap, pick_nil, pick_pos, pick_kw, pick_dfl, eAttr_ap, eMth_ap, eMk_ap, tAttr_ap, pF_some, isNon_non, eDicEn_ap, eRev_ap, List.set_cons_zero, List.set_cons_succ, List.length_cons, List.length_nil, truth_bl, truth_non, not_bl, not_non, tst_if, tstS_if, pBl_some, pD_some, add_int, sub_int, neg_int, lt_int, le_int, gt_int, ge_int, eq_int, ne_int, if_true, Bool.not_true, Bool.not_false, Bool.false_eq_true, if_false, and_self, List.getElem?_cons_zero, List.getElem?_cons_succ, Option.getD_some, Option.bind_some, Option.map_some]
  refine ⟨trivial, ?_⟩
  have frf : ∀ {h2 : Hh}, Fr [dd, l] h1 h2 → Fr [dd] h h2 := fun fr => (fr1.nil).then fr fun j hj => by
    simp at hj
    rcases hj with rfl | rfl
    · exact .inl (by simp)
    · exact .inr lal
  refine forL_wp (fun t σ h' => ∃ (s : Bf.St) (kvs' lvs' : List (D × D)) (o4 o5 o6 o7 o8 o9 : Option D), Bf.relax E n ⟨f, fun _ => none, none⟩ = Bf.relax E (n - t) s ∧ σ = [some (.ref y), some (.ref dd), some (.ref l), some (chD' s.c), o4, o5, o6, o7, o8, o9] ∧
    h'[dd]? = some (.dic false kvs') ∧ MapD D.int kvs' s.d ∧ h'[l]? = some (.dic false lvs') ∧ MapD natD lvs' s.l ∧ Fr [dd, l] h1 h' ∧ kvs'.length ≤ 1000 + t * 1000 ∧ lvs'.length ≤ t * 1000 ∧ t ≤ n) ?_ ?_ ?_ ?_
  · exact fun _ _ _ _ => rfl
  · rintro t x σ h' hx ⟨s, kvs', lvs', o4, o5, o6, o7, o8, o9, hR, rfl, g1, g2, g3, g4, fr, b1, b2, ht⟩
    have htn : t < n := by
      have := (List.getElem?_eq_some_iff.mp hx).1
      rw [List.length_map, List.length_range] at this
      omega
    obtain ⟨m, hm⟩ : ∃ m, n - t = m + 1 := ⟨n - t - 1, by omega⟩
    have hm' : n - (t + 1) = m := by omega
    simp only [wpR_ok, wpR_bind, wpS_stm, wpS_seq, wpS_nx, wpS_rt, wpR_res, wpR_noExc, eConst_ap, eVar_z, eVar_s, eBin_ap, eUn_ap, eAnd_ap, eOr_ap, eIf_ap, eCmp_ap, eChain_ap, eArgs_nil, eArgs_cons, eTup_ap, eLst_wp, eItem_ap, eEnd_none, eEnd_some, toI_int, eSlice_ap, eBF_ap, eCall_ap, eCallK_ap, eIsI_ap, sPass_ap, sExpr_ap, sRet_ap, sRetN_ap, sAsg_ap, sIf_ap, sSeq_ap, tName_ap, tEach_nil, tEach_cons, tTup_ap, tItem_ap, pick_nil, pick_pos, pick_kw, pick_dfl, eAttr_ap, eMth_ap, eMk_ap, tAttr_ap, pF_some, isNon_non, eDicEn_ap, eRev_ap, List.set_cons_zero, List.set_cons_succ, List.length_cons, List.length_nil, truth_bl, truth_non, not_bl, not_non, tst_if, tstS_if, pBl_some, pD_some, add_int, sub_int, neg_int, lt_int, le_int, gt_int, ge_int, eq_int, ne_int, if_true, Bool.not_true, Bool.not_false, Bool.false_eq_true, if_false, and_self, List.getElem?_cons_zero, List.getElem?_cons_succ, Option.getD_some, Option.bind_some, Option.map_some]
    refine relaxOut_wp (E := E) (s := s) (fr.get _ _ ny hy1) f1 (fr.get _ _ nee he1) g1 g2 g3 g4 ne (by rw [lmE]; omega) (by rw [lmE]; omega) fun h'' kvs'' lvs'' r1 r2 r3 r4 fr2 b3 b4 => ⟨fun hc => ?_, fun hc o5 o6 o7 o8 o9 => ?_⟩
    · have eR : Bf.relax E n ⟨f, fun _ => none, none⟩ = Bf.round E s := by
        rw [hR, hm]
        show (if (Bf.round E s).c.isNone then Bf.round E s else Bf.relax E m (Bf.round E s)) = _
        rw [hc]; rfl
      have := q h'' l kvs'' lvs'' r1 (by rw [eR]; exact r2) r3 (by rw [eR]; exact r4) (frf (fr.trans fr2)) lal (by rw [lmE]; omega)
      rw [eR, hc] at this
      exact this
    · refine ⟨Bf.round E s, kvs'', lvs'', _, _, _, _, _, _, ?_, rfl, r1, r2, r3, r4, fr.trans fr2, by omega, by omega, htn⟩
      rw [hR, hm, hm']
      show (if (Bf.round E s).c.isNone then Bf.round E s else Bf.relax E m (Bf.round E s)) = _
      rw [if_neg]
      intro z
      exact hc (Option.isNone_iff_eq_none.mp z)
  · rintro σ h' ⟨s, kvs', lvs', o4, o5, o6, o7, o8, o9, hR, rfl, g1, g2, g3, g4, fr, b1, b2, ht⟩
    rw [List.length_map, List.length_range] at hR b1 b2
    have e0 : n - (n : Int).toNat = 0 := by omega
    rw [e0] at hR
    have eR : Bf.relax E n ⟨f, fun _ => none, none⟩ = s := hR
    have bb : ((n : Int).toNat) * 1000 ≤ 100 * 1000 := by
      have : (n : Int).toNat = n := by omega
      rw [this]; omega
    simp only [wpR_ok, wpR_bind, wpS_stm, wpS_seq, wpS_nx, wpS_rt, wpR_res, wpR_noExc, eConst_ap, eVar_z, eVar_s, eBin_ap, eUn_ap, eAnd_ap, eOr_ap, eIf_ap, eCmp_ap, eChain_ap, eArgs_nil, eArgs_cons, eTup_ap, eLst_wp, eItem_ap, eEnd_none, eEnd_some, toI_int, eSlice_ap, eBF_ap, eCall_ap, eCallK_ap, eIsI_ap, sPass_ap, sExpr_ap, sRet_ap, sRetN_ap, sAsg_ap, sIf_ap, sSeq_ap, tName_ap, tEach_nil, tEach_cons, tTup_ap, tItem_ap, pick_nil, pick_pos, pick_kw, pick_dfl, eAttr_ap, eMth_ap, eMk_ap, tAttr_ap, pF_some, isNon_non, eDicEn_ap, eRev_ap, List.set_cons_zero, List.set_cons_succ, List.length_cons, List.length_nil, truth_bl, truth_non, not_bl, not_non, tst_if, tstS_if, pBl_some, pD_some, add_int, sub_int, neg_int, lt_int, le_int, gt_int, ge_int, eq_int, ne_int, if_true, Bool.not_true, Bool.not_false, Bool.false_eq_true, if_false, and_self, List.getElem?_cons_zero, List.getElem?_cons_succ, Option.getD_some, Option.bind_some, Option.map_some]
    have := q h' l kvs' lvs' g1 (by rw [eR]; exact g2) g3 (by rw [eR]; exact g4) (frf fr) lal (by rw [lmE]; omega)
    rw [eR] at this
    exact this
  · exact ⟨⟨f, fun _ => none, none⟩, kvs, [], _, _, _, _, _, _, rfl, rfl, hd1, md, hl, MapD.nil, Fr.refl _ _, by omega, by simp, Nat.zero_le _⟩
end Ev

set_option maxRecDepth 100000
set_option maxHeartbeats 1000000
namespace Ev
open PySem
/-! ### comprehensions whose parts leave the heap -/
theorem comp_wp {it : It} {own : List Nat} {tg : Tg} {test elt : Sh} {σ : Env} {h : Hh} {xs : List D} {g : Option (Nat × Ob)} (f : D → Option D) (hit : it σ h = .ok ⟨xs, g, none⟩ h) (hs : stands g h = true) (hl : xs.length ≤ lim)
    (he : ∀ x ∈ xs, ∃ σ1 b, tg x (wipeD σ own) h = .ok σ1 h ∧ test σ1 h = .ok (.bl b) h ∧ (b = true → ∃ y, f x = some y ∧ elt σ1 h = .ok y h) ∧ (b = false → f x = none)) {Q : D → Hh → Prop}
    (q : ∀ a h', h'[a]? = some (.lst false (xs.filterMap f)) → Fr [] h h' → h.length ≤ a → Q (.ref a) h') : wpR (eLc it own tg test elt σ h) Q := by
  refine eLc_wp ?_
  rw [hit]
  refine ⟨rfl, hl, ?_⟩
  have e := lc_pure (t := tg) (ft := test) (fe := elt) (g := g) (env := wipeD σ own) f hs xs [] he
  rw [e]
  exact alloc_wp fun a h1 ea fr la => q a h1 ea fr la
theorem all_wp {it : It} {own : List Nat} {tg : Tg} {elt : Sh} {σ : Env} {h : Hh} {xs : List D} {g : Option (Nat × Ob)} (p : D → Bool) (hit : it σ h = .ok ⟨xs, g, none⟩ h) (hs : stands g h = true) (hl : xs.length ≤ lim)
    (he : ∀ x ∈ xs, ∃ σ1, tg x (wipeD σ own) h = .ok σ1 h ∧ elt σ1 h = .ok (.bl (p x)) h) {Q : D → Hh → Prop} (q : ∀ h', Fr [] h h' → Q (.bl (xs.all p)) h') : wpR (eBF .all [eLc it own tg (eConst (.bl true)) elt] σ h) Q := by
  simp only [eBF_ap, eArgs_cons, eArgs_nil, Res.bind_assoc, wpR_bind, Res.bind_ok]
  refine comp_wp (f := fun x => some (.bl (p x))) hit hs hl (fun x hx => ?_) fun a h' ea fr la => ?_
  · obtain ⟨σ1, e1, e2⟩ := he x hx
    exact ⟨σ1, true, e1, rfl, fun _ => ⟨_, rfl, e2⟩, fun z => by cases z⟩
  · have e1 : h'[a]? = some (.lst false ((xs.map p).map .bl)) := by
      rw [ea, List.map_map]
      have : (fun x => some (D.bl (p x))) = some ∘ (D.bl ∘ p) := rfl
      rw [this, List.filterMap_eq_map]
    simp only [wpR_ok, wpR_bind, wpS_stm, wpS_seq, wpS_nx, wpS_rt, wpR_res, wpR_noExc, eConst_ap, eVar_z, eVar_s, eBin_ap, eUn_ap, eAnd_ap, eOr_ap, eIf_ap, eCmp_ap, eChain_ap, eArgs_nil, eArgs_cons, eTup_ap, eLst_wp, eItem_ap, eEnd_none, eEnd_some, toI_int, eSlice_ap, eBF_ap, eCall_ap, eCallK_ap, eIsI_ap, sPass_ap, sExpr_ap, sRet_ap, sRetN_ap, sAsg_ap, sIf_ap, sSeq_ap, tName_ap, tEach_nil, tEach_cons, tTup_ap, tItem_ap, pick_nil, pick_pos, pick_kw, pick_dfl, eAttr_ap, eMth_ap, eMk_ap, tAttr_ap, pF_some, isNon_non, eDicEn_ap, eRev_ap, List.set_cons_zero, List.set_cons_succ, List.length_cons, List.length_nil, truth_bl, truth_non, not_bl, not_non, tst_if, tstS_if, pBl_some, pD_some, add_int, sub_int, neg_int, lt_int, le_int, gt_int, ge_int, eq_int, ne_int, if_true, Bool.not_true, Bool.not_false, Bool.false_eq_true, if_false, and_self, List.getElem?_cons_zero, List.getElem?_cons_succ, Option.getD_some, Option.bind_some, Option.map_some, all_ref e1]
    have : (xs.map p).all id = xs.all p := by rw [List.all_map]; rfl
    rw [this]
    exact q h' fr
theorem iVal_lst {e : Sh} {σ : Env} {h : Hh} {a : Nat} {fz : Bool} {xs : List D} (he : e σ h = .ok (.ref a) h) (ea : h[a]? = some (.lst fz xs)) : iVal e σ h = .ok ⟨xs, some (a, .lst fz xs), none⟩ h := by
  unfold iVal; rw [he, Res.bind_ok, walk_lst ea]
theorem iVal_tup {e : Sh} {σ : Env} {h : Hh} {l : List D} (he : e σ h = .ok (.tup l) h) : iVal e σ h = .ok ⟨l, none, none⟩ h := by
  unfold iVal; rw [he, Res.bind_ok]; rfl
theorem list_ref {h : Hh} {a : Nat} {fz : Bool} {xs : List D} (e : h[a]? = some (.lst fz xs)) : bfun .list [.ref a] h = alloc (.lst false xs) h := by
  show (match seqOf h (.ref a) with | some xs => newL xs h | none => .bad) = _
  have : seqOf h (.ref a) = some xs := listOf_ref e
  rw [this]; rfl
theorem append_eq {o arg : Sh} {σ : Env} {h : Hh} {a : Nat} {xs : List D} {x : D} (ho : o σ h = .ok (.ref a) h) (ea : h[a]? = some (.lst false xs)) (hx : arg σ h = .ok x h) (hl : xs.length < lim) : eBM .append o [arg] σ h = .ok .non (h.set a (.lst false (xs ++ [x]))) := by
  have k : kdOf h (.ref a) = some .lst := by unfold kdOf; dsimp only; rw [ea]
  unfold eBM
  rw [ho, Res.bind_ok, k]
  show (if bmK .lst .append then (eArgs [arg] σ h).bind fun xs h2 => if kdOf h2 (.ref a) = some .lst then bmeth .append (.ref a) xs h2 else .bad else .bad) = _
  have b1 : bmK .lst .append = true := rfl
  rw [if_pos b1]
  simp only [eArgs_cons, eArgs_nil, hx, Res.bind_ok]
  rw [if_pos k]
  unfold bmeth
  dsimp only
  rw [ea]
  exact if_pos ⟨rfl, hl⟩
theorem rev_ref {h : Hh} {a : Nat} {fz : Bool} {xs : List D} (e : h[a]? = some (.lst fz xs)) : revD (.ref a) (some (-1)) h = alloc (.lst false xs.reverse) h := by
  unfold revD
  rw [if_pos rfl, listOf_ref e]; rfl
theorem atD_last {xs : List D} {x : D} : atD (xs ++ [x]) (-1) = some x := by
  unfold atD ixN
  have : ¬ (0 : Int) ≤ -1 := by decide
  rw [if_neg this, if_pos (by rw [List.length_append, List.length_singleton]; omega)]
  show (xs ++ [x])[(-1 + ((xs ++ [x]).length : Int)).toNat]? = _
  have : (-1 + ((xs ++ [x]).length : Int)).toNat = xs.length := by rw [List.length_append, List.length_singleton]; omega
  rw [this]
  simp
/-! ### the table -/
structure DcT (tab : Nat → Option Def) : Prop where
  t0 : tab 0 = some d0
  t1 : tab 1 = some d1
  t2 : tab 2 = some d2
  t3 : tab 3 = some d3
  t7 : tab 7 = some d7
  t8 : tab 8 = some d8
variable {tab : Nat → Option Def}
/-- a value whose type is known -/
def Kn (h : Hh) : D → Prop
  | .ref a => (∃ fz xs, h[a]? = some (.lst fz xs)) ∨ (∃ kvs, h[a]? = some (.dic false kvs)) ∨ ∃ c fs, h[a]? = some (.ins c fs)
  | .xn _ _ => False
  | _ => True
def isInt : D → Bool
  | .int _ => true
  | _ => false
def isLst (h : Hh) : D → Option (List D)
  | .ref a => match h[a]? with
    | some (.lst _ xs) => some xs
    | _ => none
  | _ => none
theorem Kn.fr {h h' : Hh} {v : D} {M : List Nat} (k : Kn h v) (f : Fr M h h') (n : ∀ a, v = .ref a → a ∉ M) : Kn h' v := by
  cases v with
  | ref a =>
    have n := n a rfl
    rcases k with ⟨_, _, e⟩ | ⟨_, e⟩ | ⟨_, _, e⟩
    · exact .inl ⟨_, _, f.get _ _ n e⟩
    · exact .inr (.inl ⟨_, f.get _ _ n e⟩)
    · exact .inr (.inr ⟨_, _, f.get _ _ n e⟩)
  | xn => exact k.elim
  | _ => trivial
theorem kn_int (h : Hh) (i : Int) : Kn h (.int i) := trivial
theorem ty_int {h : Hh} {v : D} (k : Kn h v) : ∃ b, isTy h v .int = some b ∧ isTy h v .bool = some (b && !isInt v) ∧ (isInt v = true → b = true) ∧ (b = true → isInt v = false → ∃ c, v = .bl c) := by
  cases v with
  | ref a =>
    refine ⟨false, ?_, ?_, fun z => (by cases z), fun z => (by cases z)⟩
    · rcases k with ⟨_, _, e⟩ | ⟨_, e⟩ | ⟨_, _, e⟩ <;> (unfold isTy; dsimp only; rw [e] <;> rfl)
    · rcases k with ⟨_, _, e⟩ | ⟨_, e⟩ | ⟨_, _, e⟩ <;> (unfold isTy; dsimp only; rw [e] <;> rfl)
  | xn => exact k.elim
  | int i => exact ⟨true, rfl, rfl, fun _ => rfl, fun _ z => (by cases z)⟩
  | bl b => exact ⟨true, rfl, rfl, fun z => (by cases z), fun _ _ => ⟨b, rfl⟩⟩
  | _ => exact ⟨false, rfl, rfl, fun z => (by cases z), fun z => (by cases z)⟩
theorem isint_call (T : DcT tab) {k : Nat} {v : D} {h : Hh} (kn : Kn h v) : callN tab (k + 1) 0 [v] h = .ok (.bl (isInt v)) h := by
  rw [call_at T.t0 rfl]
  show (c0 (callN tab k) [some v] h).res = _
  obtain ⟨b, e1, e2, e3, e4⟩ := ty_int kn
  cases b with
  | false =>
    have : isInt v = false := by
      cases hh : isInt v with
      | false => rfl
      | true => have := e3 hh; cases this
    simp only [c0, sSeq_ap, sRet_ap, eAnd_ap, eIsI_ap, eVar_z, Res.bind_ok, e1, pBl_some, truth_bl, tst_f, Res.stm_ok, seq_rt, res_rt, this]
  | true =>
    simp only [c0, sSeq_ap, sRet_ap, eAnd_ap, eIsI_ap, eVar_z, Res.bind_ok, e1, e2, pBl_some, truth_bl, tst_t, eUn_ap, not_bl, Res.stm_ok, seq_rt, res_rt, Bool.true_and, Bool.not_not]
def VE (E : List Bf.Edge) (n : Nat) : Prop := ∀ e ∈ E, e.1 < n ∧ e.2.1 < n
theorem tup_ty (h : Hh) (l : List D) : isTy h (.tup l) .tuple = some true := rfl
theorem lst_ty {h : Hh} {a : Nat} {fz : Bool} {xs : List D} (e : h[a]? = some (.lst fz xs)) : isTy h (.ref a) .list = some true := by unfold isTy; dsimp only; rw [e]; rfl
theorem iscon_wp (T : DcT tab) {k n : Nat} {e : Bf.Edge} {h : Hh} (hv : e.1 < n ∧ e.2.1 < n) {Q : D → Hh → Prop} (q : ∀ h', Fr [] h h' → Q (.bl true) h') : wpR (callN tab (k + 2) 1 [edD e, .int (n : Nat)] h) Q := by
  rw [call_at T.t1 rfl]
  show wpR (c1 (callN tab (k + 1)) [some (edD e), some (.int (n : Nat)), none] h).res Q
  have hall : ∀ Q', (∀ h', Fr [] h h' → Q' (.bl true) h') → wpR (eBF .all [(eLc (iVal (eVar 0)) [2] (tName 2) (eConst (.bl true)) (eCall (callN tab (k + 1)) 0 [(eVar 2)]))] [some (edD e), some (.int (n : Nat)), none] h) Q' := fun Q' q' => by
    refine all_wp (fun _ => true) (iVal_tup (l := [.int (e.1 : Nat), .int (e.2.1 : Nat), .int e.2.2]) rfl) rfl (by rw [lmE]; show 3 ≤ 1000000; decide) (fun x hx => ⟨[some (edD e), some (.int (n : Nat)), some x], rfl, ?_⟩) q'
    have hi : isInt x = true ∧ Kn h x := by
      simp at hx
      rcases hx with rfl | rfl | rfl <;> exact ⟨rfl, trivial⟩
    simp only [eCall_ap, eArgs_cons, eArgs_nil, eVar_z, eVar_s, Res.bind_ok, isint_call T hi.2, hi.1]
  have h3 : ((([D.int (e.1 : Nat), .int (e.2.1 : Nat), .int e.2.2] : List D).length : Nat) : Int) == 3 := rfl
  unfold c1
  simp only [wpR_res, sSeq_ap, wpS_seq, sIf_ap, wpS_stm, eOr_ap, eUn_ap, eIsI_ap, eVar_z, Res.bind_ok, edD, tup_ty, pBl_some, not_bl, Bool.not_true, truth_bl, tst_f, eCmp_ap, eBF_ap (f := .len), eArgs_cons, eArgs_nil, len_tup, eConst_ap, ne_int, h3, wpR_bind]
  simp only [edD] at hall
  refine hall _ fun h' fr => ?_
  have a1 : (0 : Int) ≤ (e.1 : Nat) := by omega
  have a2 : ((e.1 : Nat) : Int) < (n : Nat) := by omega
  have a3 : (0 : Int) ≤ (e.2.1 : Nat) := by omega
  have a4 : ((e.2.1 : Nat) : Int) < (n : Nat) := by omega
  simp only [wpR_ok, wpR_bind, wpS_stm, wpS_seq, wpS_nx, wpS_rt, wpR_res, wpR_noExc, eConst_ap, eVar_z, eVar_s, eBin_ap, eUn_ap, eAnd_ap, eOr_ap, eIf_ap, eCmp_ap, eChain_ap, eArgs_nil, eArgs_cons, eTup_ap, eLst_wp, eItem_ap, eEnd_none, eEnd_some, toI_int, eSlice_ap, eBF_ap, eCall_ap, eCallK_ap, eIsI_ap, sPass_ap, sExpr_ap, sRet_ap, sRetN_ap, sAsg_ap, sIf_ap, sSeq_ap, tName_ap, tEach_nil, tEach_cons, tTup_ap, tItem_ap, pick_nil, pick_pos, pick_kw, pick_dfl, eAttr_ap, eMth_ap, eMk_ap, tAttr_ap, pF_some, isNon_non, eDicEn_ap, eRev_ap, List.set_cons_zero, List.set_cons_succ, List.length_cons, List.length_nil, truth_bl, truth_non, not_bl, not_non, tst_if, tstS_if, pBl_some, pD_some, add_int, sub_int, neg_int, lt_int, le_int, gt_int, ge_int, eq_int, ne_int, if_true, Bool.not_true, Bool.not_false, Bool.false_eq_true, if_false, and_self, List.getElem?_cons_zero, List.getElem?_cons_succ, Option.getD_some, Option.bind_some, Option.map_some, item_tup, atD0, atD1, decide_eq_true a1, decide_eq_true a2, decide_eq_true a3, decide_eq_true a4]
  exact q h' fr
theorem checked_wp (T : DcT tab) {k n a : Nat} {E : List Bf.Edge} {h : Hh} (hE : VE E n) (ea : h[a]? = some (.lst false (E.map edD))) {Q : D → Hh → Prop} (q : ∀ b h', h'[b]? = some (.lst false (E.map edD)) → Fr [] h h' → h.length ≤ b → Q (.ref b) h') : wpR (callN tab (k + 3) 2 [.ref a, .int (n : Nat)] h) Q := by
  rw [call_at T.t2 rfl]
  show wpR (c2 (callN tab (k + 2)) [some (.ref a), some (.int (n : Nat)), none, none] h).res Q
  unfold c2
  simp only [wpR_ok, wpR_bind, wpS_stm, wpS_seq, wpS_nx, wpS_rt, wpR_res, wpR_noExc, eConst_ap, eVar_z, eVar_s, eBin_ap, eUn_ap, eAnd_ap, eOr_ap, eIf_ap, eCmp_ap, eChain_ap, eArgs_nil, eArgs_cons, eTup_ap, eLst_wp, eItem_ap, eEnd_none, eEnd_some, toI_int, eSlice_ap, eBF_ap, eCall_ap, eCallK_ap, eIsI_ap, sPass_ap, sExpr_ap, sRet_ap, sRetN_ap, sAsg_ap, sIf_ap, sSeq_ap, tName_ap, tEach_nil, tEach_cons, tTup_ap, tItem_ap, pick_nil, pick_pos, pick_kw, pick_dfl, eAttr_ap, eMth_ap, eMk_ap, tAttr_ap, pF_some, isNon_non, eDicEn_ap, eRev_ap, List.set_cons_zero, List.set_cons_succ, List.length_cons, List.length_nil, truth_bl, truth_non, not_bl, not_non, tst_if, tstS_if, pBl_some, pD_some, add_int, sub_int, neg_int, lt_int, le_int, gt_int, ge_int, eq_int, ne_int, if_true, Bool.not_true, Bool.not_false, Bool.false_eq_true, if_false, and_self, List.getElem?_cons_zero, List.getElem?_cons_succ, Option.getD_some, Option.bind_some, Option.map_some, lst_ty ea]
  refine sFor_wp ?_
  simp only [iEnum_ap, wpR_ok, wpR_bind, wpS_stm, wpS_seq, wpS_nx, wpS_rt, wpR_res, wpR_noExc, eConst_ap, eVar_z, eVar_s, eBin_ap, eUn_ap, eAnd_ap, eOr_ap, eIf_ap, eCmp_ap, eChain_ap, eArgs_nil, eArgs_cons, eTup_ap, eLst_wp, eItem_ap, eEnd_none, eEnd_some, toI_int, eSlice_ap, eBF_ap, eCall_ap, eCallK_ap, eIsI_ap, sPass_ap, sExpr_ap, sRet_ap, sRetN_ap, sAsg_ap, sIf_ap, sSeq_ap, tName_ap, tEach_nil, tEach_cons, tTup_ap, tItem_ap, pick_nil, pick_pos, pick_kw, pick_dfl, eAttr_ap, eMth_ap, eMk_ap, tAttr_ap, pF_some, isNon_non, eDicEn_ap, eRev_ap, List.set_cons_zero, List.set_cons_succ, List.length_cons, List.length_nil, truth_bl, truth_non, not_bl, not_non, tst_if, tstS_if, pBl_some, pD_some, add_int, sub_int, neg_int, lt_int, le_int, gt_int, ge_int, eq_int, ne_int, if_true, Bool.not_true, Bool.not_false, Bool.false_eq_true, if_false, and_self, List.getElem?_cons_zero, List.getElem?_cons_succ, Option.getD_some, Option.bind_some, Option.map_some, enW_lst ea]
  refine ⟨trivial, ?_⟩
  refine forL_wp (fun j σ h' => ∃ o2 o3, σ = [some (.ref a), some (.int (n : Nat)), o2, o3] ∧ Fr [] h h') ?_ ?_ ?_ ?_
  · rintro j σ h' ⟨_, _, _, fr⟩
    exact stands_some (fr.get _ _ (by simp) ea)
  · rintro j x σ h' hx ⟨o2, o3, rfl, fr⟩
    obtain ⟨ed, e1, rfl⟩ := enum_at hx
    simp only [wpR_ok, wpR_bind, wpS_stm, wpS_seq, wpS_nx, wpS_rt, wpR_res, wpR_noExc, eConst_ap, eVar_z, eVar_s, eBin_ap, eUn_ap, eAnd_ap, eOr_ap, eIf_ap, eCmp_ap, eChain_ap, eArgs_nil, eArgs_cons, eTup_ap, eLst_wp, eItem_ap, eEnd_none, eEnd_some, toI_int, eSlice_ap, eBF_ap, eCall_ap, eCallK_ap, eIsI_ap, sPass_ap, sExpr_ap, sRet_ap, sRetN_ap, sAsg_ap, sIf_ap, sSeq_ap, tName_ap, tEach_nil, tEach_cons, tTup_ap, tItem_ap, pick_nil, pick_pos, pick_kw, pick_dfl, eAttr_ap, eMth_ap, eMk_ap, tAttr_ap, pF_some, isNon_non, eDicEn_ap, eRev_ap, List.set_cons_zero, List.set_cons_succ, List.length_cons, List.length_nil, truth_bl, truth_non, not_bl, not_non, tst_if, tstS_if, pBl_some, pD_some, add_int, sub_int, neg_int, lt_int, le_int, gt_int, ge_int, eq_int, ne_int, if_true, Bool.not_true, Bool.not_false, Bool.false_eq_true, if_false, and_self, List.getElem?_cons_zero, List.getElem?_cons_succ, Option.getD_some, Option.bind_some, Option.map_some]
    refine iscon_wp T (hE ed (List.mem_of_getElem? e1)) fun h'' fr2 => ?_
    simp only [wpR_ok, wpR_bind, wpS_stm, wpS_seq, wpS_nx, wpS_rt, wpR_res, wpR_noExc, eConst_ap, eVar_z, eVar_s, eBin_ap, eUn_ap, eAnd_ap, eOr_ap, eIf_ap, eCmp_ap, eChain_ap, eArgs_nil, eArgs_cons, eTup_ap, eLst_wp, eItem_ap, eEnd_none, eEnd_some, toI_int, eSlice_ap, eBF_ap, eCall_ap, eCallK_ap, eIsI_ap, sPass_ap, sExpr_ap, sRet_ap, sRetN_ap, sAsg_ap, sIf_ap, sSeq_ap, tName_ap, tEach_nil, tEach_cons, tTup_ap, tItem_ap, pick_nil, pick_pos, pick_kw, pick_dfl, eAttr_ap, eMth_ap, eMk_ap, tAttr_ap, pF_some, isNon_non, eDicEn_ap, eRev_ap, List.set_cons_zero, List.set_cons_succ, List.length_cons, List.length_nil, truth_bl, truth_non, not_bl, not_non, tst_if, tstS_if, pBl_some, pD_some, add_int, sub_int, neg_int, lt_int, le_int, gt_int, ge_int, eq_int, ne_int, if_true, Bool.not_true, Bool.not_false, Bool.false_eq_true, if_false, and_self, List.getElem?_cons_zero, List.getElem?_cons_succ, Option.getD_some, Option.bind_some, Option.map_some]
    exact ⟨_, _, rfl, fr.trans fr2⟩
  · rintro σ h' ⟨o2, o3, rfl, fr⟩
    simp only [wpR_ok, wpR_bind, wpS_stm, wpS_seq, wpS_nx, wpS_rt, wpR_res, wpR_noExc, eConst_ap, eVar_z, eVar_s, eBin_ap, eUn_ap, eAnd_ap, eOr_ap, eIf_ap, eCmp_ap, eChain_ap, eArgs_nil, eArgs_cons, eTup_ap, eLst_wp, eItem_ap, eEnd_none, eEnd_some, toI_int, eSlice_ap, eBF_ap, eCall_ap, eCallK_ap, eIsI_ap, sPass_ap, sExpr_ap, sRet_ap, sRetN_ap, sAsg_ap, sIf_ap, sSeq_ap, tName_ap, tEach_nil, tEach_cons, tTup_ap, tItem_ap, pick_nil, pick_pos, pick_kw, pick_dfl, eAttr_ap, eMth_ap, eMk_ap, tAttr_ap, pF_some, isNon_non, eDicEn_ap, eRev_ap, List.set_cons_zero, List.set_cons_succ, List.length_cons, List.length_nil, truth_bl, truth_non, not_bl, not_non, tst_if, tstS_if, pBl_some, pD_some, add_int, sub_int, neg_int, lt_int, le_int, gt_int, ge_int, eq_int, ne_int, if_true, Bool.not_true, Bool.not_false, Bool.false_eq_true, if_false, and_self, List.getElem?_cons_zero, List.getElem?_cons_succ, Option.getD_some, Option.bind_some, Option.map_some, list_ref (fr.get _ _ (by simp) ea)]
    exact alloc_wp fun b h1 eb fr1 lb => q b h1 eb (fr.trans fr1) (Nat.le_trans fr.len lb)
  · exact ⟨_, _, rfl, Fr.refl _ _⟩
theorem relax_call (T : DcT tab) {k y e dd n : Nat} {fs : List (Nat × D)} {E : List Bf.Edge} {f : Nat → Option Int} {kvs : List (D × D)} {h : Hh} (hy : h[y]? = some (.ins 0 fs)) (f1 : fget fs 1 = some (.ref e)) (f2 : fget fs 2 = some (.int (n : Nat))) (he : h[e]? = some (.lst false (E.map edD)))
    (hd : h[dd]? = some (.dic false kvs)) (md : MapD D.int kvs f) (bk : kvs.length ≤ 1000) (bn : n ≤ 100) (bE : E.length ≤ 1000) {Q : D → Hh → Prop}
    (q : ∀ h' l kvs' lvs, h'[dd]? = some (.dic false kvs') → MapD D.int kvs' (Bf.relax E n ⟨f, fun _ => none, none⟩).d → h'[l]? = some (.dic false lvs) → MapD natD lvs (Bf.relax E n ⟨f, fun _ => none, none⟩).l → Fr [dd] h h' → h.length ≤ l → kvs'.length < lim →
      Q (.tup [.ref dd, .ref l, chD' (Bf.relax E n ⟨f, fun _ => none, none⟩).c]) h') : wpR (callN tab (k + 1) 7 [.ref y, .ref dd] h) Q := by
  rw [call_at T.t7 rfl]
  exact relax_wp (cf := callN tab k) hy f1 f2 he hd md bk bn bE q
end Ev

set_option maxRecDepth 100000
set_option maxHeartbeats 1000000
namespace Ev
open PySem
variable {tab : Nat → Option Def}
/-! ### the negative cycle -/
def zer (n : Nat) (p : Nat → Bool) : Nat → Option Int := fun v => if v < n ∧ p v = true then some 0 else none
theorem zeros_wp {it : It} {own : List Nat} {tg : Tg} {test key elt : Sh} {σ : Env} {h : Hh} {n : Nat} (p : Nat → Bool) (hit : it σ h = .ok ⟨(List.range n).map fun k => .int ((k : Nat) : Int), none, none⟩ h) (hn : n ≤ 1000)
    (he : ∀ t, t < n → ∃ σ1, tg (.int (t : Nat)) (wipeD σ own) h = .ok σ1 h ∧ test σ1 h = .ok (.bl (p t)) h ∧ key σ1 h = .ok (.int (t : Nat)) h ∧ elt σ1 h = .ok (.int 0) h) {Q : D → Hh → Prop}
    (q : ∀ a h' kvs, h'[a]? = some (.dic false kvs) → MapD D.int kvs (zer n p) → kvs.length ≤ n → Fr [] h h' → h.length ≤ a → Q (.ref a) h') : wpR (eDc it own tg test key elt σ h) Q := by
  refine eDc_wp ?_
  rw [hit]
  refine ⟨rfl, by rw [List.length_map, List.length_range, lmE]; omega, ?_⟩
  refine dcLoop_wp (fun i acc h' => h' = h ∧ MapD D.int acc (zer i p) ∧ acc.length ≤ i) (fun _ _ _ _ => rfl) ?_ ?_ ?_
  · rintro i x acc h' hx ⟨rfl, m, hl⟩
    have hi : i < n := by
      have := (List.getElem?_eq_some_iff.mp hx).1
      rwa [List.length_map, List.length_range] at this
    have ex : x = .int (i : Nat) := by
      rw [List.getElem?_map, List.getElem?_range hi] at hx
      simpa using hx.symm
    subst ex
    obtain ⟨σ1, e1, e2, e3, e4⟩ := he i hi
    rw [e1]
    show wpR (test σ1 h') _
    rw [e2]
    refine ⟨p i, rfl, fun hp => ?_, fun hp => ?_⟩
    · rw [e3]
      show wpR (elt σ1 h') _
      rw [e4]
      refine ⟨rfl, rfl, ?_, by have := dput_len acc (.int (i : Nat)) (.int 0); omega⟩
      have := m.put i (0 : Int)
      have ef : Bf.put (zer i p) i 0 = zer (i + 1) p := by
        funext v
        unfold Bf.put zer
        by_cases hv : v = i
        · subst hv
          rw [if_pos rfl, if_pos ⟨by omega, hp⟩]
        · rw [if_neg hv]
          by_cases hc : v < i ∧ p v = true
          · rw [if_pos hc, if_pos ⟨by omega, hc.2⟩]
          · rw [if_neg hc, if_neg (fun z => hc ⟨by omega, z.2⟩)]
      rw [← ef]; exact this
    · refine ⟨rfl, ?_, by omega⟩
      have ef : zer i p = zer (i + 1) p := by
        funext v
        unfold zer
        by_cases hv : v = i
        · subst hv
          rw [if_neg (by omega), if_neg (by rw [hp]; simp)]
        · by_cases hc : v < i ∧ p v = true
          · rw [if_pos hc, if_pos ⟨by omega, hc.2⟩]
          · rw [if_neg hc, if_neg (fun z => hc ⟨by omega, z.2⟩)]
      rw [← ef]; exact m
  · rintro acc h' ⟨rfl, m, hl⟩
    rw [List.length_map, List.length_range] at m hl
    exact alloc_wp fun a h1 ea fr la => q a h1 acc ea m hl fr la
  · refine ⟨rfl, ?_, Nat.le_refl _⟩
    have : zer 0 p = fun _ => none := by funext v; unfold zer; rw [if_neg (by omega)]
    rw [this]; exact MapD.nil
abbrev zst (n : Nat) : Bf.St := ⟨zer n (fun _ => true), fun _ => none, none⟩
/-- the list of a cycle's positions -/
def CycOf (E : List Bf.Edge) (l : Nat → Option Nat) (n v : Nat) (xs : List Nat) : Prop :=
  ∃ J, J < n ∧ xs.reverse = (List.range (J + 1)).map (fun j => (l (Bf.it (Bf.prev E l) (n + j) v)).getD 0) ∧ Bf.it (Bf.prev E l) (n + (J + 1)) v = Bf.it (Bf.prev E l) n v
theorem mt9 : dcMt 0 9 = some 7 := rfl
theorem mt5 : dcMt 0 5 = some 8 := rfl
theorem mt10 : dcMt 0 10 = some 9 := rfl
theorem mt4 : dcMt 0 4 = some 10 := rfl
theorem find_wp (T : DcT tab) {k y e n : Nat} {fs : List (Nat × D)} {E : List Bf.Edge} {h : Hh} (hy : h[y]? = some (.ins 0 fs)) (f1 : fget fs 1 = some (.ref e)) (f2 : fget fs 2 = some (.int (n : Nat))) (f9 : fget fs 9 = none) (he : h[e]? = some (.lst false (E.map edD)))
    (bn : n ≤ 100) (bE : E.length ≤ 1000) (hE : VE E n) {Q : D → Hh → Prop} (q0 : (Bf.relax E n (zst n)).c = none → ∀ h', Fr [] h h' → Q .non h')
    (q1 : ∀ v, (Bf.relax E n (zst n)).c = some v → ∀ c xs h', h'[c]? = some (.lst false (xs.map natD)) → CycOf E (Bf.relax E n (zst n)).l n v xs → Fr [] h h' → h.length ≤ c → Q (.ref c) h') : wpR (callN tab (k + 2) 8 [.ref y] h) Q := by
  rw [call_at T.t8 rfl]
  show wpR (c8 (callN tab (k + 1)) [some (.ref y), none, none, none, none, none, none] h).res Q
  unfold c8
  simp only [wpR_ok, wpR_bind, wpS_stm, wpS_seq, wpS_nx, wpS_rt, wpR_res, wpR_noExc, eConst_ap, eVar_z, eVar_s, eBin_ap, eUn_ap, eAnd_ap, eOr_ap, eIf_ap, eCmp_ap, eChain_ap, eArgs_nil, eArgs_cons, eTup_ap, eLst_wp, eItem_ap, eEnd_none, eEnd_some, toI_int, eSlice_ap, eBF_ap, eCall_ap, eCallK_ap, eIsI_ap, sPass_ap, sExpr_ap, sRet_ap, sRetN_ap, sAsg_ap, sIf_ap, sSeq_ap, tName_ap, tEach_nil, tEach_cons, tTup_ap, tItem_ap, pick_nil, pick_pos, pick_kw, pick_dfl, eAttr_ap, eMth_ap, eMk_ap, tAttr_ap, pF_some, isNon_non, eDicEn_ap, eRev_ap, List.set_cons_zero, List.set_cons_succ, List.length_cons, List.length_nil, truth_bl, truth_non, not_bl, not_non, tst_if, tstS_if, pBl_some, pD_some, add_int, sub_int, neg_int, lt_int, le_int, gt_int, ge_int, eq_int, ne_int, if_true, Bool.not_true, Bool.not_false, Bool.false_eq_true, if_false, and_self, List.getElem?_cons_zero, List.getElem?_cons_succ, Option.getD_some, Option.bind_some, Option.map_some, mcls_ref hy f9, Option.bind_some, mt9]
  have rE : ∀ σ' h' , h'[y]? = some (.ins 0 fs) → iRange [(eAttr 2 (eVar 0))] (some (.ref y) :: σ') h' = .ok ⟨(List.range n).map fun k => .int ((k : Nat) : Int), none, none⟩ h' := fun σ' h' hy' => by
    have := rng_ap (e := eAttr 2 (eVar 0)) (σ := some (.ref y) :: σ') (h := h') (h1 := h') (n := (n : Nat)) (by simp only [eAttr_ap, eVar_z, Res.bind_ok, getAttr_ref hy', f2, pD_some]) (by omega) (by omega)
    rw [this]
    have e0 : (n : Int).toNat = n := by omega
    rw [e0]
  refine zeros_wp (fun _ => true) (rE _ _ hy) (by omega) (fun t ht => ⟨[some (.ref y), none, none, none, some (.int (t : Nat)), none, none], rfl, rfl, rfl, rfl⟩) fun dd h1 kvs hd md hl fr1 lad => ?_
  have hy1 := fr1.get _ _ (by simp) hy
  have he1 := fr1.get _ _ (by simp) he
  refine relax_call T hy1 f1 f2 he1 hd md (by omega) bn bE fun h2 l kvs2 lvs g1 g2 g3 g4 fr2 ll bk => ?_
  generalize hR : Bf.relax E n ⟨zer n (fun _ => true), fun _ => none, none⟩ = R at *
  have fr : Fr [] h h2 := fr1.then fr2 fun j hj => by simp at hj; exact .inr (by omega)
  have ydd : y ∉ [dd] := by have := at_lt hy; simp; omega
  have edd : e ∉ [dd] := by have := at_lt he; simp; omega
  have hy2 := fr2.get _ _ ydd hy1
  have he2 := fr2.get _ _ edd he1
  have t3 : ([.ref dd, .ref l, chD' R.c] : List D).length = ([tName 1, tName 2, tName 3] : List Tg).length := rfl
  simp only [tTupN t3, wpR_ok, wpR_bind, wpS_stm, wpS_seq, wpS_nx, wpS_rt, wpR_res, wpR_noExc, eConst_ap, eVar_z, eVar_s, eBin_ap, eUn_ap, eAnd_ap, eOr_ap, eIf_ap, eCmp_ap, eChain_ap, eArgs_nil, eArgs_cons, eTup_ap, eLst_wp, eItem_ap, eEnd_none, eEnd_some, toI_int, eSlice_ap, eBF_ap, eCall_ap, eCallK_ap, eIsI_ap, sPass_ap, sExpr_ap, sRet_ap, sRetN_ap, sAsg_ap, sIf_ap, sSeq_ap, tName_ap, tEach_nil, tEach_cons, tTup_ap, tItem_ap, pick_nil, pick_pos, pick_kw, pick_dfl, eAttr_ap, eMth_ap, eMk_ap, tAttr_ap, pF_some, isNon_non, eDicEn_ap, eRev_ap, List.set_cons_zero, List.set_cons_succ, List.length_cons, List.length_nil, truth_bl, truth_non, not_bl, not_non, tst_if, tstS_if, pBl_some, pD_some, add_int, sub_int, neg_int, lt_int, le_int, gt_int, ge_int, eq_int, ne_int, if_true, Bool.not_true, Bool.not_false, Bool.false_eq_true, if_false, and_self, List.getElem?_cons_zero, List.getElem?_cons_succ, Option.getD_some, Option.bind_some, Option.map_some, is_non]
  cases hc : R.c with
  | none =>
    have : decide (chD' none = .non) = true := rfl
    simp only [this, wpR_ok, wpR_bind, wpS_stm, wpS_seq, wpS_nx, wpS_rt, wpR_res, wpR_noExc, eConst_ap, eVar_z, eVar_s, eBin_ap, eUn_ap, eAnd_ap, eOr_ap, eIf_ap, eCmp_ap, eChain_ap, eArgs_nil, eArgs_cons, eTup_ap, eLst_wp, eItem_ap, eEnd_none, eEnd_some, toI_int, eSlice_ap, eBF_ap, eCall_ap, eCallK_ap, eIsI_ap, sPass_ap, sExpr_ap, sRet_ap, sRetN_ap, sAsg_ap, sIf_ap, sSeq_ap, tName_ap, tEach_nil, tEach_cons, tTup_ap, tItem_ap, pick_nil, pick_pos, pick_kw, pick_dfl, eAttr_ap, eMth_ap, eMk_ap, tAttr_ap, pF_some, isNon_non, eDicEn_ap, eRev_ap, List.set_cons_zero, List.set_cons_succ, List.length_cons, List.length_nil, truth_bl, truth_non, not_bl, not_non, tst_if, tstS_if, pBl_some, pD_some, add_int, sub_int, neg_int, lt_int, le_int, gt_int, ge_int, eq_int, ne_int, if_true, Bool.not_true, Bool.not_false, Bool.false_eq_true, if_false, and_self, List.getElem?_cons_zero, List.getElem?_cons_succ, Option.getD_some, Option.bind_some, Option.map_some]
    exact q0 hc h2 fr
  | some v =>
    have : decide (chD' (some v) = .non) = false := by simp [chD']
    have e3 : chD' (some v) = .int (v : Nat) := rfl
    simp only [this, wpR_ok, wpR_bind, wpS_stm, wpS_seq, wpS_nx, wpS_rt, wpR_res, wpR_noExc, eConst_ap, eVar_z, eVar_s, eBin_ap, eUn_ap, eAnd_ap, eOr_ap, eIf_ap, eCmp_ap, eChain_ap, eArgs_nil, eArgs_cons, eTup_ap, eLst_wp, eItem_ap, eEnd_none, eEnd_some, toI_int, eSlice_ap, eBF_ap, eCall_ap, eCallK_ap, eIsI_ap, sPass_ap, sExpr_ap, sRet_ap, sRetN_ap, sAsg_ap, sIf_ap, sSeq_ap, tName_ap, tEach_nil, tEach_cons, tTup_ap, tItem_ap, pick_nil, pick_pos, pick_kw, pick_dfl, eAttr_ap, eMth_ap, eMk_ap, tAttr_ap, pF_some, isNon_non, eDicEn_ap, eRev_ap, List.set_cons_zero, List.set_cons_succ, List.length_cons, List.length_nil, truth_bl, truth_non, not_bl, not_non, tst_if, tstS_if, pBl_some, pD_some, add_int, sub_int, neg_int, lt_int, le_int, gt_int, ge_int, eq_int, ne_int, if_true, Bool.not_true, Bool.not_false, Bool.false_eq_true, if_false, and_self, List.getElem?_cons_zero, List.getElem?_cons_succ, Option.getD_some, Option.bind_some, Option.map_some]
    simp only [e3, wpR_ok, wpR_bind, wpS_stm, wpS_seq, wpS_nx, wpS_rt, wpR_res, wpR_noExc, eConst_ap, eVar_z, eVar_s, eBin_ap, eUn_ap, eAnd_ap, eOr_ap, eIf_ap, eCmp_ap, eChain_ap, eArgs_nil, eArgs_cons, eTup_ap, eLst_wp, eItem_ap, eEnd_none, eEnd_some, toI_int, eSlice_ap, eBF_ap, eCall_ap, eCallK_ap, eIsI_ap, sPass_ap, sExpr_ap, sRet_ap, sRetN_ap, sAsg_ap, sIf_ap, sSeq_ap, tName_ap, tEach_nil, tEach_cons, tTup_ap, tItem_ap, pick_nil, pick_pos, pick_kw, pick_dfl, eAttr_ap, eMth_ap, eMk_ap, tAttr_ap, pF_some, isNon_non, eDicEn_ap, eRev_ap, List.set_cons_zero, List.set_cons_succ, List.length_cons, List.length_nil, truth_bl, truth_non, not_bl, not_non, tst_if, tstS_if, pBl_some, pD_some, add_int, sub_int, neg_int, lt_int, le_int, gt_int, ge_int, eq_int, ne_int, if_true, Bool.not_true, Bool.not_false, Bool.false_eq_true, if_false, and_self, List.getElem?_cons_zero, List.getElem?_cons_succ, Option.getD_some, Option.bind_some, Option.map_some]
    -- the rounds
    obtain ⟨m, hm⟩ : ∃ m, n = m + 1 := by
      cases n with
      | zero => rw [← hR] at hc; cases hc
      | succ m => exact ⟨m, rfl⟩
    have hw : (∀ k, Bf.Known E R.l (Bf.it (Bf.prev E R.l) k v) ∧ Bf.it (Bf.prev E R.l) k v < n) ∧ ∃ p, 1 ≤ p ∧ p ≤ n ∧ Bf.it (Bf.prev E R.l) (n + p) v = Bf.it (Bf.prev E R.l) n v := by
      have hR' : Bf.relax E (m + 1) ⟨zer n (fun _ => true), fun _ => none, none⟩ = R := by rw [← hm]; exact hR
      obtain ⟨lr, I, hv⟩ := Bf.Inv.relax (E := E) m 0 ⟨zer n (fun _ => true), fun _ => none, none⟩ (fun _ => 0) v Bf.Inv.start (by rw [hR']; exact hc)
      rw [hR'] at I
      have e1 : 0 + m + 1 = n := by omega
      rw [e1] at I hv
      refine Bf.walk_back I hv ?_ fun ed hed => (hE ed hed).1
      exact Bf.relax_c (fun ed hed => (hE ed hed).2) n ⟨zer n (fun _ => true), fun _ => none, none⟩ (fun v z => by cases z) v (by rw [hR]; exact hc)
    obtain ⟨kn, p, p1, p2, hp⟩ := hw
    have lstep : ∀ k, getItem (.ref l) (.int (Bf.it (Bf.prev E R.l) k v : Nat)) = getItem (.ref l) (.int (Bf.it (Bf.prev E R.l) k v : Nat)) := fun _ => rfl
    have look : ∀ k h', h'[l]? = some (.dic false lvs) → getItem (.ref l) (.int (Bf.it (Bf.prev E R.l) k v : Nat)) h' = some (.int ((R.l (Bf.it (Bf.prev E R.l) k v)).getD 0 : Nat)) := fun k h' hl' => by
      obtain ⟨i, ed, e1, e2⟩ := (kn k).1
      rw [g4.item hl', e1]; rfl
    have src : ∀ k h', h'[e]? = some (.lst false (E.map edD)) → ∃ ed, getItem (.ref e) (.int ((R.l (Bf.it (Bf.prev E R.l) k v)).getD 0 : Nat)) h' = some (edD ed) ∧ ∀ h'', getItem (edD ed) (.int 0) h'' = some (.int (Bf.it (Bf.prev E R.l) (k + 1) v : Nat)) := fun k h' he' => by
      obtain ⟨i, ed, e1, e2⟩ := (kn k).1
      refine ⟨ed, ?_, fun h'' => ?_⟩
      · rw [item_lst he', e1]
        exact atD_nat (by rw [List.getElem?_map, Option.getD_some, e2]; rfl)
      · have : Bf.it (Bf.prev E R.l) (k + 1) v = ed.1 := Bf.prev_of e1 e2
        rw [this]
        exact atD0 _ _
    refine sFor_wp ?_
    rw [rE _ _ hy2]
    refine ⟨rfl, ?_⟩
    refine forL_wp (fun t σ h' => h' = h2 ∧ ∃ o5, σ = [some (.ref y), some (.ref dd), some (.ref l), some (.int (v : Nat)), some (.int (Bf.it (Bf.prev E R.l) t v : Nat)), o5, none]) (fun _ _ _ _ => rfl) ?_ ?_ ⟨rfl, none, rfl⟩
    · rintro t x σ h' hx ⟨rfl, o5, rfl⟩
      obtain ⟨ed, s1, s2⟩ := src t h' he2
      simp only [wpR_ok, wpR_bind, wpS_stm, wpS_seq, wpS_nx, wpS_rt, wpR_res, wpR_noExc, eConst_ap, eVar_z, eVar_s, eBin_ap, eUn_ap, eAnd_ap, eOr_ap, eIf_ap, eCmp_ap, eChain_ap, eArgs_nil, eArgs_cons, eTup_ap, eLst_wp, eItem_ap, eEnd_none, eEnd_some, toI_int, eSlice_ap, eBF_ap, eCall_ap, eCallK_ap, eIsI_ap, sPass_ap, sExpr_ap, sRet_ap, sRetN_ap, sAsg_ap, sIf_ap, sSeq_ap, tName_ap, tEach_nil, tEach_cons, tTup_ap, tItem_ap, pick_nil, pick_pos, pick_kw, pick_dfl, eAttr_ap, eMth_ap, eMk_ap, tAttr_ap, pF_some, isNon_non, eDicEn_ap, eRev_ap, List.set_cons_zero, List.set_cons_succ, List.length_cons, List.length_nil, truth_bl, truth_non, not_bl, not_non, tst_if, tstS_if, pBl_some, pD_some, add_int, sub_int, neg_int, lt_int, le_int, gt_int, ge_int, eq_int, ne_int, if_true, Bool.not_true, Bool.not_false, Bool.false_eq_true, if_false, and_self, List.getElem?_cons_zero, List.getElem?_cons_succ, Option.getD_some, Option.bind_some, Option.map_some, getAttr_ref hy2, f1, look t h' g3, s1, s2]
      exact ⟨trivial, _, rfl⟩
    · rintro σ h' ⟨rfl, o5, rfl⟩
      rw [List.length_map, List.length_range]
      simp only [wpR_ok, wpR_bind, wpS_stm, wpS_seq, wpS_nx, wpS_rt, wpR_res, wpR_noExc, eConst_ap, eVar_z, eVar_s, eBin_ap, eUn_ap, eAnd_ap, eOr_ap, eIf_ap, eCmp_ap, eChain_ap, eArgs_nil, eArgs_cons, eTup_ap, eLst_wp, eItem_ap, eEnd_none, eEnd_some, toI_int, eSlice_ap, eBF_ap, eCall_ap, eCallK_ap, eIsI_ap, sPass_ap, sExpr_ap, sRet_ap, sRetN_ap, sAsg_ap, sIf_ap, sSeq_ap, tName_ap, tEach_nil, tEach_cons, tTup_ap, tItem_ap, pick_nil, pick_pos, pick_kw, pick_dfl, eAttr_ap, eMth_ap, eMk_ap, tAttr_ap, pF_some, isNon_non, eDicEn_ap, eRev_ap, List.set_cons_zero, List.set_cons_succ, List.length_cons, List.length_nil, truth_bl, truth_non, not_bl, not_non, tst_if, tstS_if, pBl_some, pD_some, add_int, sub_int, neg_int, lt_int, le_int, gt_int, ge_int, eq_int, ne_int, if_true, Bool.not_true, Bool.not_false, Bool.false_eq_true, if_false, and_self, List.getElem?_cons_zero, List.getElem?_cons_succ, Option.getD_some, Option.bind_some, Option.map_some, look n h' g3]
      refine alloc_wp fun c h3 hc3 fr3 lc => ?_
      have hy3 := fr3.get _ _ (by simp) hy2
      have he3 := fr3.get _ _ (by simp) he2
      have hl3 := fr3.get _ _ (by simp) g3
      have nc : ∀ {j : Nat} {o : Ob}, h'[j]? = some o → j ∉ [c] := fun ej => by have := at_lt ej; simp; omega
      refine whileL_wp (fun m' σ h4 => ∃ J, σ = [some (.ref y), some (.ref dd), some (.ref l), some (.int (v : Nat)), some (.int (Bf.it (Bf.prev E R.l) n v : Nat)), o5, some (.ref c)] ∧ J + m' + 1 = p ∧
        h4[c]? = some (.lst false ((List.range (J + 1)).map fun j => natD ((R.l (Bf.it (Bf.prev E R.l) (n + j) v)).getD 0))) ∧ Fr [c] h3 h4) ?_ wfuel (p - 1) _ _ (by show p - 1 < 1000000; omega) ?_
      · rintro m' σ h4 ⟨J, rfl, hJ, hc4, fr4⟩
        have hy4 := fr4.get _ _ (nc hy2) hy3
        have he4 := fr4.get _ _ (nc he2) he3
        have hl4 := fr4.get _ _ (nc g3) hl3
        obtain ⟨ed, s1, s2⟩ := src (n + J) h4 he4
        have el : getItem (.ref c) (.int (-1)) h4 = some (.int ((R.l (Bf.it (Bf.prev E R.l) (n + J) v)).getD 0 : Nat)) := by
          rw [item_lst hc4, List.range_succ, List.map_append, List.map_singleton]
          exact atD_last
        have ec : (eCmp .NotEq (eItem (eItem (eAttr 1 (eVar 0)) (eItem (eVar 6) (eUn .USub (eConst (.int 1))))) (eConst (.int 0))) (eVar 4)) [some (.ref y), some (.ref dd), some (.ref l), some (.int (v : Nat)), some (.int (Bf.it (Bf.prev E R.l) n v : Nat)), o5, some (.ref c)] h4 = .ok (.bl (!(((Bf.it (Bf.prev E R.l) (n + J + 1) v : Nat) : Int) == (Bf.it (Bf.prev E R.l) n v : Nat)))) h4 := by
          simp only [eCmp_ap, eItem_ap, eVar_z, eVar_s, Res.bind_ok, eAttr_ap, getAttr_ref hy4, f1, pD_some, eUn_ap, eConst_ap, neg_int, el, s1, s2, ne_int, pBl_some]
        rw [ec]
        refine ⟨_, rfl, fun hb => ?_, fun hb => ?_⟩
        · have hne : Bf.it (Bf.prev E R.l) (n + J + 1) v ≠ Bf.it (Bf.prev E R.l) n v := by
            intro z
            rw [z] at hb
            simp at hb
          have hJp : J + 1 ≠ p := fun z => hne (by rw [Nat.add_assoc, z]; exact hp)
          refine ⟨by omega, ?_⟩
          have ap := append_eq (o := eVar 6) (arg := (eItem (eVar 2) (eItem (eItem (eAttr 1 (eVar 0)) (eItem (eVar 6) (eUn .USub (eConst (.int 1))))) (eConst (.int 0))))) (σ := [some (.ref y), some (.ref dd), some (.ref l), some (.int (v : Nat)), some (.int (Bf.it (Bf.prev E R.l) n v : Nat)), o5, some (.ref c)]) (h := h4) (x := .int ((R.l (Bf.it (Bf.prev E R.l) (n + J + 1) v)).getD 0 : Nat)) rfl hc4 (by
            simp only [eItem_ap, eVar_z, eVar_s, Res.bind_ok, eAttr_ap, getAttr_ref hy4, f1, pD_some, eUn_ap, eConst_ap, neg_int, el, s1, s2, look (n + J + 1) h4 hl4]) (by rw [List.length_map, List.length_range, lmE]; omega)
          simp only [sSeq_ap, sExpr_ap, ap, Res.stm_ok, seq_nx, sPass_ap, wpS_nx]
          refine ⟨J + 1, trivial, by omega, ?_, fr4.trans (Fr.set ..)⟩
          rw [List.getElem?_set_self (at_lt hc4), List.range_succ (n := J + 1), List.map_append]; rfl
        · have heq : Bf.it (Bf.prev E R.l) (n + J + 1) v = Bf.it (Bf.prev E R.l) n v := by
            have : ((Bf.it (Bf.prev E R.l) (n + J + 1) v : Nat) : Int) = (Bf.it (Bf.prev E R.l) n v : Nat) := by simpa using hb
            omega
          simp only [wpR_ok, wpR_bind, wpS_stm, wpS_seq, wpS_nx, wpS_rt, wpR_res, wpR_noExc, eConst_ap, eVar_z, eVar_s, eBin_ap, eUn_ap, eAnd_ap, eOr_ap, eIf_ap, eCmp_ap, eChain_ap, eArgs_nil, eArgs_cons, eTup_ap, eLst_wp, eItem_ap, eEnd_none, eEnd_some, toI_int, eSlice_ap, eBF_ap, eCall_ap, eCallK_ap, eIsI_ap, sPass_ap, sExpr_ap, sRet_ap, sRetN_ap, sAsg_ap, sIf_ap, sSeq_ap, tName_ap, tEach_nil, tEach_cons, tTup_ap, tItem_ap, pick_nil, pick_pos, pick_kw, pick_dfl, eAttr_ap, eMth_ap, eMk_ap, tAttr_ap, pF_some, isNon_non, eDicEn_ap, eRev_ap, List.set_cons_zero, List.set_cons_succ, List.length_cons, List.length_nil, truth_bl, truth_non, not_bl, not_non, tst_if, tstS_if, pBl_some, pD_some, add_int, sub_int, neg_int, lt_int, le_int, gt_int, ge_int, eq_int, ne_int, if_true, Bool.not_true, Bool.not_false, Bool.false_eq_true, if_false, and_self, List.getElem?_cons_zero, List.getElem?_cons_succ, Option.getD_some, Option.bind_some, Option.map_some, rev_ref hc4]
          refine alloc_wp fun b h5 hb5 fr5 lb => ?_
          have fr34 : Fr [] h' h4 := fr3.then fr4 fun j hj => by simp at hj; exact .inr (by omega)
          refine q1 v hc b ((List.range (J + 1)).map fun j => (R.l (Bf.it (Bf.prev E R.l) (n + j) v)).getD 0).reverse h5 ?_ ⟨J, by omega, by rw [List.reverse_reverse], by rw [← Nat.add_assoc]; exact heq⟩ ((fr.trans fr34).trans fr5) (by have := fr.len; have := fr34.len; omega)
          rw [hb5, List.map_reverse, List.map_map]; rfl
      · exact ⟨0, rfl, by omega, hc3, Fr.refl _ _⟩
end Ev

set_option maxRecDepth 100000
set_option maxHeartbeats 1000000
namespace Ev
open PySem
variable {tab : Nat → Option Def}
/-! ### a system -/
def CycAt (h : Hh) (E : List Bf.Edge) (n : Nat) (oc : D) : Prop := ((Bf.relax E n (zst n)).c = none ∧ oc = .non) ∨
  ∃ v c xs, (Bf.relax E n (zst n)).c = some v ∧ oc = .ref c ∧ h[c]? = some (.lst false (xs.map natD)) ∧ CycOf E (Bf.relax E n (zst n)).l n v xs
structure Sys (h : Hh) (y e : Nat) (oc : D) (n : Nat) (E : List Bf.Edge) : Prop where
  y : h[y]? = some (.ins 0 [(2, .int (n : Nat)), (1, .ref e), (0, oc)])
  e : h[e]? = some (.lst false (E.map edD))
  c : CycAt h E n oc
theorem Sys.fr {h h' : Hh} {y e : Nat} {oc : D} {n : Nat} {E : List Bf.Edge} {M : List Nat} (s : Sys h y e oc n E) (f : Fr M h h') (ny : y ∉ M) (ne : e ∉ M) (nc : ∀ c, oc = .ref c → c ∉ M) : Sys h' y e oc n E := by
  refine ⟨f.get _ _ ny s.y, f.get _ _ ne s.e, ?_⟩
  rcases s.c with ⟨a, b⟩ | ⟨v, c, xs, a, b, ec, d⟩
  · exact .inl ⟨a, b⟩
  · exact .inr ⟨v, c, xs, a, b, f.get _ _ (nc c b) ec, d⟩
theorem Sys.fr0 {h h' : Hh} {y e : Nat} {oc : D} {n : Nat} {E : List Bf.Edge} (s : Sys h y e oc n E) (f : Fr [] h h') : Sys h' y e oc n E := s.fr f (by simp) (by simp) fun _ _ => by simp
theorem Sys.cyc {h : Hh} {y e : Nat} {oc : D} {n : Nat} {E : List Bf.Edge} (s : Sys h y e oc n E) : (oc = .non ∧ (Bf.relax E n (zst n)).c = none) ∨ (oc ≠ .non ∧ (Bf.relax E n (zst n)).c ≠ none) := by
  rcases s.c with ⟨a, b⟩ | ⟨v, c, xs, a, b, _⟩
  · exact .inl ⟨b, a⟩
  · exact .inr ⟨by rw [b]; simp, by rw [a]; simp⟩
theorem init_wp (T : DcT tab) {k y n a : Nat} {E : List Bf.Edge} {h : Hh} (hy : h[y]? = some (.ins 0 [])) (ea : h[a]? = some (.lst false (E.map edD))) (n1 : 1 ≤ n) (bn : n ≤ 100) (bE : E.length ≤ 1000) (hE : VE E n) {Q : D → Hh → Prop}
    (q : ∀ h' e oc, Sys h' y e oc n E → Fr [y] h h' → h.length ≤ e → (∀ c, oc = .ref c → h.length ≤ c) → Q .non h') : wpR (callN tab (k + 4) 3 [.ref y, .int (n : Nat), .ref a] h) Q := by
  rw [call_at T.t3 rfl]
  show wpR (c3 (callN tab (k + 3)) [some (.ref y), some (.int (n : Nat)), some (.ref a)] h).res Q
  have hyl := at_lt hy
  have ay : a ≠ y := fun z => by rw [z, hy] at ea; simp at ea
  obtain ⟨h1, e1⟩ : ∃ x, h.set y (.ins 0 [(2, .int (n : Nat))]) = x := ⟨_, rfl⟩
  have fr1 : Fr [y] h h1 := by rw [← e1]; exact Fr.set ..
  have hy1 : h1[y]? = some (.ins 0 [(2, .int (n : Nat))]) := by rw [← e1]; exact List.getElem?_set_self hyl
  have ll1 : h1.length = h.length := by rw [← e1]; exact List.length_set
  have st1 : ∀ σ, stAttr 2 (.int (n : Nat)) (.ref y) σ h = .ok σ h1 := fun σ => by rw [← e1]; exact stAttr_ref hy (by decide)
  have nlt : ¬ ((n : Nat) : Int) < 1 := by omega
  unfold c3
  simp only [wpR_ok, wpR_bind, wpS_stm, wpS_seq, wpS_nx, wpS_rt, wpR_res, wpR_noExc, eConst_ap, eVar_z, eVar_s, eBin_ap, eUn_ap, eAnd_ap, eOr_ap, eIf_ap, eCmp_ap, eChain_ap, eArgs_nil, eArgs_cons, eTup_ap, eLst_wp, eItem_ap, eEnd_none, eEnd_some, toI_int, eSlice_ap, eBF_ap, eCall_ap, eCallK_ap, eIsI_ap, sPass_ap, sExpr_ap, sRet_ap, sRetN_ap, sAsg_ap, sIf_ap, sSeq_ap, tName_ap, tEach_nil, tEach_cons, tTup_ap, tItem_ap, pick_nil, pick_pos, pick_kw, pick_dfl, eAttr_ap, eMth_ap, eMk_ap, tAttr_ap, pF_some, isNon_non, eDicEn_ap, eRev_ap, List.set_cons_zero, List.set_cons_succ, List.length_cons, List.length_nil, truth_bl, truth_non, not_bl, not_non, tst_if, tstS_if, pBl_some, pD_some, add_int, sub_int, neg_int, lt_int, le_int, gt_int, ge_int, eq_int, ne_int, if_true, Bool.not_true, Bool.not_false, Bool.false_eq_true, if_false, and_self, List.getElem?_cons_zero, List.getElem?_cons_succ, Option.getD_some, Option.bind_some, Option.map_some, isint_call T (kn_int h _), isInt, decide_eq_false nlt, st1]
  refine checked_wp T hE (fr1.get _ _ (by simp [ay]) ea) fun e h2 he2 fr2 le => ?_
  have hy2 := fr2.get _ _ (by simp) hy1
  obtain ⟨h3, e3⟩ : ∃ x, h2.set y (.ins 0 [(2, .int (n : Nat)), (1, .ref e)]) = x := ⟨_, rfl⟩
  have st3 : ∀ σ, stAttr 1 (.ref e) (.ref y) σ h2 = .ok σ h3 := fun σ => by rw [← e3]; exact stAttr_ref hy2 (by show 1 < 900; decide)
  have fr3 : Fr [y] h2 h3 := by rw [← e3]; exact Fr.set ..
  have hy3 : h3[y]? = some (.ins 0 [(2, .int (n : Nat)), (1, .ref e)]) := by rw [← e3]; exact List.getElem?_set_self (at_lt hy2)
  have ll3 : h3.length = h2.length := by rw [← e3]; exact List.length_set
  have ley : e ≠ y := by omega
  have he3 := fr3.get _ _ (by simp [ley]) he2
  have f03 : Fr [y] h h3 := (fr1.trans fr2.nil).trans fr3
  simp only [wpR_ok, wpR_bind, wpS_stm, wpS_seq, wpS_nx, wpS_rt, wpR_res, wpR_noExc, eConst_ap, eVar_z, eVar_s, eBin_ap, eUn_ap, eAnd_ap, eOr_ap, eIf_ap, eCmp_ap, eChain_ap, eArgs_nil, eArgs_cons, eTup_ap, eLst_wp, eItem_ap, eEnd_none, eEnd_some, toI_int, eSlice_ap, eBF_ap, eCall_ap, eCallK_ap, eIsI_ap, sPass_ap, sExpr_ap, sRet_ap, sRetN_ap, sAsg_ap, sIf_ap, sSeq_ap, tName_ap, tEach_nil, tEach_cons, tTup_ap, tItem_ap, pick_nil, pick_pos, pick_kw, pick_dfl, eAttr_ap, eMth_ap, eMk_ap, tAttr_ap, pF_some, isNon_non, eDicEn_ap, eRev_ap, List.set_cons_zero, List.set_cons_succ, List.length_cons, List.length_nil, truth_bl, truth_non, not_bl, not_non, tst_if, tstS_if, pBl_some, pD_some, add_int, sub_int, neg_int, lt_int, le_int, gt_int, ge_int, eq_int, ne_int, if_true, Bool.not_true, Bool.not_false, Bool.false_eq_true, if_false, and_self, List.getElem?_cons_zero, List.getElem?_cons_succ, Option.getD_some, Option.bind_some, Option.map_some, st3, mcls_ref hy3 (show fget [(2, .int (n : Nat)), (1, .ref e)] 5 = none from rfl), mt5]
  have fin : ∀ oc h4, Fr [] h3 h4 → (CycAt h4 E n oc) → (∀ c, oc = .ref c → h3.length ≤ c) → wpR (stAttr 0 oc (.ref y) [some (.ref y), some (.int (n : Nat)), some (.ref a)] h4) fun a h => Q .non h := fun oc h4 fr4 hc hl => by
    have hy4 := fr4.get _ _ (by simp) hy3
    rw [stAttr_ref hy4 (by show 2 < 900; decide)]
    have fr5 : Fr [y] h4 (h4.set y (.ins 0 [(2, .int (n : Nat)), (1, .ref e), (0, oc)])) := Fr.set ..
    have hl2 : h.length ≤ h3.length := f03.len
    refine q _ e oc ⟨List.getElem?_set_self (at_lt hy4), fr5.get _ _ (by simp [ley]) (fr4.get _ _ (by simp) he3), ?_⟩ ((f03.trans fr4.nil).trans fr5) (by omega) fun c hcc => Nat.le_trans hl2 (hl c hcc)
    rcases hc with ⟨q1, q2⟩ | ⟨v, c, xs, q1, q2, q3, q4⟩
    · exact .inl ⟨q1, q2⟩
    · refine .inr ⟨v, c, xs, q1, q2, fr5.get _ _ ?_ q3, q4⟩
      have := hl c q2
      have := at_lt hy3
      simp
      intro z
      rw [z, hy4] at q3
      simp at q3
  refine find_wp T hy3 rfl rfl rfl he3 bn bE hE (fun hc h4 fr4 => ?_) (fun v hc c xs h4 hc4 cy fr4 lc => ?_)
  · exact fin .non h4 fr4 (.inl ⟨hc, rfl⟩) fun c z => by cases z
  · exact fin (.ref c) h4 fr4 (.inr ⟨v, c, xs, hc, rfl, hc4, cy⟩) fun c' z => by cases z; exact lc
/-! ### the nodes asked for -/
structure DcT2 (tab : Nat → Option Def) : Prop extends DcT tab where
  t6 : tab 6 = some d6
  t9 : tab 9 = some d9
  t10 : tab 10 = some d10
theorem req_wp (T : DcT2 tab) {k y e n a : Nat} {E : List Bf.Edge} {h : Hh} {fz : Bool} {vs : List Nat} (s : Sys h y e .non n E) (ea : h[a]? = some (.lst fz (vs.map natD))) (hv : ∀ v ∈ vs, v < n) {Q : D → Hh → Prop} (q : Q .non h) : wpR (callN tab (k + 2) 9 [.ref y, .ref a] h) Q := by
  rw [call_at T.t9 rfl]
  show wpR (c9 (callN tab (k + 1)) [some (.ref y), some (.ref a), none] h).res Q
  unfold c9
  simp only [wpR_ok, wpR_bind, wpS_stm, wpS_seq, wpS_nx, wpS_rt, wpR_res, wpR_noExc, eConst_ap, eVar_z, eVar_s, eBin_ap, eUn_ap, eAnd_ap, eOr_ap, eIf_ap, eCmp_ap, eChain_ap, eArgs_nil, eArgs_cons, eTup_ap, eLst_wp, eItem_ap, eEnd_none, eEnd_some, toI_int, eSlice_ap, eBF_ap, eCall_ap, eCallK_ap, eIsI_ap, sPass_ap, sExpr_ap, sRet_ap, sRetN_ap, sAsg_ap, sIf_ap, sSeq_ap, tName_ap, tEach_nil, tEach_cons, tTup_ap, tItem_ap, pick_nil, pick_pos, pick_kw, pick_dfl, eAttr_ap, eMth_ap, eMk_ap, tAttr_ap, pF_some, isNon_non, eDicEn_ap, eRev_ap, List.set_cons_zero, List.set_cons_succ, List.length_cons, List.length_nil, truth_bl, truth_non, not_bl, not_non, tst_if, tstS_if, pBl_some, pD_some, add_int, sub_int, neg_int, lt_int, le_int, gt_int, ge_int, eq_int, ne_int, if_true, Bool.not_true, Bool.not_false, Bool.false_eq_true, if_false, and_self, List.getElem?_cons_zero, List.getElem?_cons_succ, Option.getD_some, Option.bind_some, Option.map_some]
  refine sFor_wp ?_
  rw [iVal_lst rfl ea]
  refine ⟨rfl, ?_⟩
  refine forL_wp (fun t σ h' => h' = h ∧ ∃ o2, σ = [some (.ref y), some (.ref a), o2]) ?_ ?_ ?_ ⟨rfl, none, rfl⟩
  · rintro t σ h' ⟨rfl, _⟩
    exact stands_some ea
  · rintro t x σ h' hx ⟨rfl, o2, rfl⟩
    obtain ⟨v, hvm, rfl⟩ : ∃ v ∈ vs, natD v = x := by
      have := List.mem_of_getElem? hx
      simpa using this
    have a1 : (0 : Int) ≤ (v : Nat) := by omega
    have a2 : ((v : Nat) : Int) < (n : Nat) := by have := hv v hvm; omega
    have e2 : fget [(2, D.int (n : Nat)), (1, .ref e), (0, .non)] 2 = some (.int (n : Nat)) := rfl
    simp only [wpR_ok, wpR_bind, wpS_stm, wpS_seq, wpS_nx, wpS_rt, wpR_res, wpR_noExc, eConst_ap, eVar_z, eVar_s, eBin_ap, eUn_ap, eAnd_ap, eOr_ap, eIf_ap, eCmp_ap, eChain_ap, eArgs_nil, eArgs_cons, eTup_ap, eLst_wp, eItem_ap, eEnd_none, eEnd_some, toI_int, eSlice_ap, eBF_ap, eCall_ap, eCallK_ap, eIsI_ap, sPass_ap, sExpr_ap, sRet_ap, sRetN_ap, sAsg_ap, sIf_ap, sSeq_ap, tName_ap, tEach_nil, tEach_cons, tTup_ap, tItem_ap, pick_nil, pick_pos, pick_kw, pick_dfl, eAttr_ap, eMth_ap, eMk_ap, tAttr_ap, pF_some, isNon_non, eDicEn_ap, eRev_ap, List.set_cons_zero, List.set_cons_succ, List.length_cons, List.length_nil, truth_bl, truth_non, not_bl, not_non, tst_if, tstS_if, pBl_some, pD_some, add_int, sub_int, neg_int, lt_int, le_int, gt_int, ge_int, eq_int, ne_int, if_true, Bool.not_true, Bool.not_false, Bool.false_eq_true, if_false, and_self, List.getElem?_cons_zero, List.getElem?_cons_succ, Option.getD_some, Option.bind_some, Option.map_some, natD, isint_call T.toDcT (kn_int h' _), isInt, getAttr_ref s.y, e2, decide_eq_true a1, decide_eq_true a2]
    exact ⟨trivial, _, rfl⟩
  · rintro σ h' ⟨rfl, o2, rfl⟩
    have e0 : fget [(2, D.int (n : Nat)), (1, .ref e), (0, .non)] 0 = some .non := rfl
    have d0 : (!decide (D.non = D.non)) = false := rfl
    simp only [wpR_ok, wpR_bind, wpS_stm, wpS_seq, wpS_nx, wpS_rt, wpR_res, wpR_noExc, eConst_ap, eVar_z, eVar_s, eBin_ap, eUn_ap, eAnd_ap, eOr_ap, eIf_ap, eCmp_ap, eChain_ap, eArgs_nil, eArgs_cons, eTup_ap, eLst_wp, eItem_ap, eEnd_none, eEnd_some, toI_int, eSlice_ap, eBF_ap, eCall_ap, eCallK_ap, eIsI_ap, sPass_ap, sExpr_ap, sRet_ap, sRetN_ap, sAsg_ap, sIf_ap, sSeq_ap, tName_ap, tEach_nil, tEach_cons, tTup_ap, tItem_ap, pick_nil, pick_pos, pick_kw, pick_dfl, eAttr_ap, eMth_ap, eMk_ap, tAttr_ap, pF_some, isNon_non, eDicEn_ap, eRev_ap, List.set_cons_zero, List.set_cons_succ, List.length_cons, List.length_nil, truth_bl, truth_non, not_bl, not_non, tst_if, tstS_if, pBl_some, pD_some, add_int, sub_int, neg_int, lt_int, le_int, gt_int, ge_int, eq_int, ne_int, if_true, Bool.not_true, Bool.not_false, Bool.false_eq_true, if_false, and_self, List.getElem?_cons_zero, List.getElem?_cons_succ, Option.getD_some, Option.bind_some, Option.map_some, getAttr_ref s.y, e0, isnot_non, d0]
    exact q
abbrev sst (s : Nat) : Bf.St := ⟨Bf.put (fun _ => none) s 0, fun _ => none, none⟩
theorem dicD_one (s : Nat) (h : Hh) : dicD [(.int (s : Nat), .int 0)] h = alloc (.dic false [(.int (s : Nat), .int 0)]) h := rfl
theorem map_one (s : Nat) : MapD D.int [(.int (s : Nat), .int 0)] (Bf.put (fun _ => none) s 0) := MapD.nil.put s 0
theorem dist_wp (T : DcT2 tab) {k y e n s : Nat} {oc : D} {E : List Bf.Edge} {h : Hh} (S : Sys h y e oc n E) (bn : n ≤ 100) (bE : E.length ≤ 1000) {Q : D → Hh → Prop}
    (q : ∀ dd kvs h', h'[dd]? = some (.dic false kvs) → MapD D.int kvs (Bf.relax E n (sst s)).d → Fr [] h h' → h.length ≤ dd → kvs.length < lim → Q (.ref dd) h') : wpR (callN tab (k + 2) 10 [.ref y, .int (s : Nat)] h) Q := by
  rw [call_at T.t10 rfl]
  show wpR (c10 (callN tab (k + 1)) [some (.ref y), some (.int (s : Nat))] h).res Q
  unfold c10
  have f9 : fget [(2, D.int (n : Nat)), (1, .ref e), (0, oc)] 9 = none := rfl
  simp only [wpR_ok, wpR_bind, wpS_stm, wpS_seq, wpS_nx, wpS_rt, wpR_res, wpR_noExc, eConst_ap, eVar_z, eVar_s, eBin_ap, eUn_ap, eAnd_ap, eOr_ap, eIf_ap, eCmp_ap, eChain_ap, eArgs_nil, eArgs_cons, eTup_ap, eLst_wp, eItem_ap, eEnd_none, eEnd_some, toI_int, eSlice_ap, eBF_ap, eCall_ap, eCallK_ap, eIsI_ap, sPass_ap, sExpr_ap, sRet_ap, sRetN_ap, sAsg_ap, sIf_ap, sSeq_ap, tName_ap, tEach_nil, tEach_cons, tTup_ap, tItem_ap, pick_nil, pick_pos, pick_kw, pick_dfl, eAttr_ap, eMth_ap, eMk_ap, tAttr_ap, pF_some, isNon_non, eDicEn_ap, eRev_ap, List.set_cons_zero, List.set_cons_succ, List.length_cons, List.length_nil, truth_bl, truth_non, not_bl, not_non, tst_if, tstS_if, pBl_some, pD_some, add_int, sub_int, neg_int, lt_int, le_int, gt_int, ge_int, eq_int, ne_int, if_true, Bool.not_true, Bool.not_false, Bool.false_eq_true, if_false, and_self, List.getElem?_cons_zero, List.getElem?_cons_succ, Option.getD_some, Option.bind_some, Option.map_some, eDic_ap, eDict_cons, eDict_nil, dicD_one, mcls_ref S.y f9, mt9]
  refine alloc_wp fun dd h1 hd fr1 ld => ?_
  refine relax_call T.toDcT (fr1.get _ _ (by simp) S.y) rfl rfl (fr1.get _ _ (by simp) S.e) hd (map_one s) (by simp) bn bE fun h2 l kvs lvs g1 g2 g3 g4 fr2 ll bk => ?_
  simp only [wpR_ok, wpR_bind, wpS_stm, wpS_seq, wpS_nx, wpS_rt, wpR_res, wpR_noExc, eConst_ap, eVar_z, eVar_s, eBin_ap, eUn_ap, eAnd_ap, eOr_ap, eIf_ap, eCmp_ap, eChain_ap, eArgs_nil, eArgs_cons, eTup_ap, eLst_wp, eItem_ap, eEnd_none, eEnd_some, toI_int, eSlice_ap, eBF_ap, eCall_ap, eCallK_ap, eIsI_ap, sPass_ap, sExpr_ap, sRet_ap, sRetN_ap, sAsg_ap, sIf_ap, sSeq_ap, tName_ap, tEach_nil, tEach_cons, tTup_ap, tItem_ap, pick_nil, pick_pos, pick_kw, pick_dfl, eAttr_ap, eMth_ap, eMk_ap, tAttr_ap, pF_some, isNon_non, eDicEn_ap, eRev_ap, List.set_cons_zero, List.set_cons_succ, List.length_cons, List.length_nil, truth_bl, truth_non, not_bl, not_non, tst_if, tstS_if, pBl_some, pD_some, add_int, sub_int, neg_int, lt_int, le_int, gt_int, ge_int, eq_int, ne_int, if_true, Bool.not_true, Bool.not_false, Bool.false_eq_true, if_false, and_self, List.getElem?_cons_zero, List.getElem?_cons_succ, Option.getD_some, Option.bind_some, Option.map_some, item_tup, atD0]
  exact q dd kvs h2 g1 g2 (fr1.then fr2 fun j hj => by simp at hj; exact .inr (by omega)) ld bk
end Ev

set_option maxRecDepth 100000
set_option maxHeartbeats 1000000
namespace Ev
open PySem
variable {tab : Nat → Option Def}
def edF (F : Bf.Edge → Option D) : D → Option D := fun x => match x with
  | .tup [.int u, .int v, .int w] => F (u.toNat, v.toNat, w)
  | _ => none
theorem edF_ed (F : Bf.Edge → Option D) (e : Bf.Edge) : edF F (edD e) = F e := by
  show F (((e.1 : Nat) : Int).toNat, ((e.2.1 : Nat) : Int).toNat, e.2.2) = F e
  rw [Int.toNat_natCast, Int.toNat_natCast]
theorem fm_ed (F : Bf.Edge → Option D) : ∀ E : List Bf.Edge, (E.map edD).filterMap (edF F) = E.filterMap F
  | [] => rfl
  | e :: r => by rw [List.map_cons, List.filterMap_cons, List.filterMap_cons, edF_ed, fm_ed F r]
theorem fm_filter (p : Bf.Edge → Bool) : ∀ E : List Bf.Edge, E.filterMap (fun e => if p e then some (edD e) else none) = (E.filter p).map edD
  | [] => rfl
  | e :: r => by
    rw [List.filterMap_cons, List.filter_cons, fm_filter p r]
    cases p e <;> rfl
theorem fm_map (F : Bf.Edge → Option Int) : ∀ E : List Bf.Edge, E.filterMap (fun e => (F e).map D.int) = (E.filterMap F).map D.int
  | [] => rfl
  | e :: r => by
    rw [List.filterMap_cons, List.filterMap_cons, fm_map F r]
    cases F e <;> rfl
theorem ed_item0 (e : Bf.Edge) (h : Hh) : getItem (edD e) (.int 0) h = some (.int (e.1 : Nat)) := atD0 _ _
theorem ed_item1 (e : Bf.Edge) (h : Hh) : getItem (edD e) (.int 1) h = some (.int (e.2.1 : Nat)) := atD1 _ _ _
theorem ed_item2 (e : Bf.Edge) (h : Hh) : getItem (edD e) (.int 2) h = some (.int e.2.2) := atD2 _ _ _ _
/-- the edges of a list of edges that p keeps -/
theorem edges_comp {it : It} {own : List Nat} {tg : Tg} {test elt : Sh} {σ : Env} {h : Hh} {E : List Bf.Edge} {g : Option (Nat × Ob)} (p : Bf.Edge → Bool) (hit : it σ h = .ok ⟨E.map edD, g, none⟩ h) (hs : stands g h = true) (hl : E.length ≤ 1000)
    (he : ∀ e ∈ E, ∃ σ1, tg (edD e) (wipeD σ own) h = .ok σ1 h ∧ test σ1 h = .ok (.bl (p e)) h ∧ elt σ1 h = .ok (edD e) h) {Q : D → Hh → Prop}
    (q : ∀ a h', h'[a]? = some (.lst false ((E.filter p).map edD)) → Fr [] h h' → h.length ≤ a → Q (.ref a) h') : wpR (eLc it own tg test elt σ h) Q := by
  refine comp_wp (edF fun e => if p e then some (edD e) else none) hit hs (by rw [List.length_map, lmE]; omega) (fun x hx => ?_) fun a h' ea fr la => ?_
  · obtain ⟨e, hm, rfl⟩ := List.mem_map.mp hx
    obtain ⟨σ1, e1, e2, e3⟩ := he e hm
    refine ⟨σ1, p e, e1, e2, fun hp => ⟨edD e, ?_, e3⟩, fun hp => ?_⟩
    · rw [edF_ed, if_pos hp]
    · rw [edF_ed, if_neg (by rw [hp]; simp)]
  · rw [fm_ed, fm_filter] at ea
    exact q a h' ea fr la
theorem ints_comp {it : It} {own : List Nat} {tg : Tg} {test elt : Sh} {σ : Env} {h : Hh} {E : List Bf.Edge} {g : Option (Nat × Ob)} (F : Bf.Edge → Option Int) (hit : it σ h = .ok ⟨E.map edD, g, none⟩ h) (hs : stands g h = true) (hl : E.length ≤ 1000)
    (he : ∀ e ∈ E, ∃ σ1, tg (edD e) (wipeD σ own) h = .ok σ1 h ∧ test σ1 h = .ok (.bl (F e).isSome) h ∧ ∀ x, F e = some x → elt σ1 h = .ok (.int x) h) {Q : D → Hh → Prop}
    (q : ∀ a h', h'[a]? = some (.lst false ((E.filterMap F).map D.int)) → Fr [] h h' → h.length ≤ a → Q (.ref a) h') : wpR (eLc it own tg test elt σ h) Q := by
  refine comp_wp (edF fun e => (F e).map D.int) hit hs (by rw [List.length_map, lmE]; omega) (fun x hx => ?_) fun a h' ea fr la => ?_
  · obtain ⟨e, hm, rfl⟩ := List.mem_map.mp hx
    obtain ⟨σ1, e1, e2, e3⟩ := he e hm
    refine ⟨σ1, (F e).isSome, e1, e2, fun hp => ?_, fun hp => ?_⟩
    · obtain ⟨x, ex⟩ := Option.isSome_iff_exists.mp hp
      exact ⟨.int x, by rw [edF_ed, ex]; rfl, e3 x ex⟩
    · rw [edF_ed]
      have : F e = none := by simpa using hp
      rw [this]; rfl
  · rw [fm_ed, fm_map] at ea
    exact q a h' ea fr la
theorem range_comp {it : It} {own : List Nat} {tg : Tg} {elt : Sh} {σ : Env} {h : Hh} {n : Nat} (F : Nat → D) (hit : it σ h = .ok ⟨(List.range n).map fun k => .int ((k : Nat) : Int), none, none⟩ h) (hl : n ≤ 1000)
    (he : ∀ t, t < n → ∃ σ1, tg (.int (t : Nat)) (wipeD σ own) h = .ok σ1 h ∧ elt σ1 h = .ok (F t) h) {Q : D → Hh → Prop}
    (q : ∀ a h', h'[a]? = some (.lst false ((List.range n).map F)) → Fr [] h h' → h.length ≤ a → Q (.ref a) h') : wpR (eLc it own tg (eConst (.bl true)) elt σ h) Q := by
  refine comp_wp (fun (x : D) => match x with
    | .int i => some (F i.toNat)
    | _ => none) hit rfl (by rw [List.length_map, List.length_range, lmE]; omega) (fun x hx => ?_) fun a h' ea fr la => ?_
  · obtain ⟨t, hm, rfl⟩ := List.mem_map.mp hx
    obtain ⟨σ1, e1, e2⟩ := he t (List.mem_range.mp hm)
    exact ⟨σ1, true, e1, rfl, fun _ => ⟨F t, by dsimp only; rw [Int.toNat_natCast], e2⟩, fun z => by cases z⟩
  · refine q a h' ?_ fr la
    rw [ea, List.filterMap_map]
    have : ((fun x => match x with
      | D.int i => some (F i.toNat)
      | _ => none) ∘ fun k => D.int ((k : Nat) : Int)) = some ∘ F := by
      funext t
      show some (F ((t : Nat) : Int).toNat) = some (F t)
      rw [Int.toNat_natCast]
    rw [this, List.filterMap_eq_map]
theorem allInts_map : ∀ l : List Int, allInts (l.map D.int) = some l
  | [] => rfl
  | a :: r => by simp [allInts, allInts_map r]
theorem max_ref {h : Hh} {a : Nat} {fz : Bool} {l : List Int} (e : h[a]? = some (.lst fz (l.map D.int))) (n : l ≠ []) : bfun .max1 [.ref a] h = .ok (.int (maxI l)) h := by
  show (match (listOf h (.ref a)).bind allInts with
    | some ns => if ns = [] then Res.bad else Res.ok (D.int (maxI ns)) h
    | none => .bad) = _
  rw [listOf_ref e]
  show (match allInts (l.map D.int) with
    | some ns => if ns = [] then Res.bad else Res.ok (D.int (maxI ns)) h
    | none => .bad) = _
  rw [allInts_map]
  exact if_neg n
theorem add_al {h : Hh} {a b : Nat} {xs ys : List D} (e1 : h[a]? = some (.lst false xs)) (e2 : h[b]? = some (.lst false ys)) (hl : xs.length + ys.length ≤ lim) : binop .Add (.ref a) (.ref b) h = alloc (.lst false (xs ++ ys)) h := add_ref e1 e2 hl
/-! ### a solution -/
def dist1 (E : List Bf.Edge) (n s : Nat) : Nat → Option Int := (Bf.relax E n (sst s)).d
def outE (E : List Bf.Edge) (n s : Nat) : List Bf.Edge := E.filter fun e => (dist1 E n s e.1).isNone
def inE (E : List Bf.Edge) (n s : Nat) : List Bf.Edge := (outE E n s).filter fun e => (dist1 E n s e.2.1).isNone
def dist2 (E : List Bf.Edge) (n s : Nat) : Nat → Option Int := (Bf.relax (inE E n s) n ⟨zer n (fun v => (dist1 E n s v).isNone), fun _ => none, none⟩).d
def gapF (E : List Bf.Edge) (n s : Nat) (e : Bf.Edge) : Option Int := match dist1 E n s e.2.1 with
  | none => none
  | some x => some (x - e.2.2 - (dist2 E n s e.1).getD 0)
def shiftN (E : List Bf.Edge) (n s : Nat) : Int := maxI (0 :: (outE E n s).filterMap (gapF E n s))
def solN (E : List Bf.Edge) (n s : Nat) (t : Nat) : Int := match dist1 E n s t with
  | some x => x
  | none => (dist2 E n s t).getD 0 + shiftN E n s
theorem VE.filter {E : List Bf.Edge} {n : Nat} (h : VE E n) (p : Bf.Edge → Bool) : VE (E.filter p) n := fun e he => h e (List.mem_filter.mp he).1
def c14r7 (cf : CF) : ShS := (sSeq (sRet (eLc (iRange [(eAttr 2 (eVar 0))]) [9] (tName 9) (eConst (.bl true)) (eIf (eCmp .In (eVar 9) (eVar 2)) (eItem (eVar 2) (eVar 9)) (eBin .Add (eItem (eVar 5) (eVar 9)) (eVar 7))))) sPass)
def c14r6 (cf : CF) : ShS := (sSeq (sAsg (tName 7) (eBF .max1 [(eBin .Add (eLst [(eConst (.int 0))]) (eVar 6))])) (c14r7 cf))
def c14r5 (cf : CF) : ShS := (sSeq (sAsg (tName 6) (eLc (iVal (eVar 3)) [9, 10, 11] (tTup [(tName 9), (tName 10), (tName 11)]) (eCmp .In (eVar 10) (eVar 2)) (eBin .Sub (eBin .Sub (eItem (eVar 2) (eVar 10)) (eVar 11)) (eItem (eVar 5) (eVar 9))))) (c14r6 cf))
def c14r4 (cf : CF) : ShS := (sSeq (sAsg (tName 5) (eItem (eMth cf dcMt 9 (eVar 4) [(eDc (iRange [(eAttr 2 (eVar 0))]) [9] (tName 9) (eCmp .NotIn (eVar 9) (eVar 2)) (eVar 9) (eConst (.int 0)))]) (eConst (.int 0)))) (c14r5 cf))
def c14r3 (cf : CF) : ShS := (sSeq (sAsg (tName 4) (eMk cf 0 3 [.pos 0, .pos 1, .pos 2] [(eAttr 2 (eVar 0)), (eLc (iVal (eVar 3)) [8] (tName 8) (eCmp .NotIn (eItem (eVar 8) (eConst (.int 1))) (eVar 2)) (eVar 8))] [])) (c14r4 cf))
def c14r2 (cf : CF) : ShS := (sSeq (sAsg (tName 3) (eLc (iVal (eAttr 1 (eVar 0))) [8] (tName 8) (eCmp .NotIn (eItem (eVar 8) (eConst (.int 0))) (eVar 2)) (eVar 8))) (c14r3 cf))
def c14r1 (cf : CF) : ShS := (sSeq (sAsg (tName 2) (eMth cf dcMt 4 (eVar 0) [(eVar 1)])) (c14r2 cf))
theorem c14_eq (cf : CF) : c14 cf = (sSeq (sExpr (eMth cf dcMt 10 (eVar 0) [(eLst [(eVar 1)])])) (c14r1 cf)) := rfl
structure DcT3 (tab : Nat → Option Def) : Prop extends DcT2 tab where
  t14 : tab 14 = some d14
theorem sol_wp (T : DcT3 tab) {k y e n s : Nat} {E : List Bf.Edge} {h : Hh} (S : Sys h y e .non n E) (hs : s < n) (bn : n ≤ 100) (bE : E.length ≤ 900) (hE : VE E n) {Q : D → Hh → Prop}
    (q : ∀ a h', h'[a]? = some (.lst false ((List.range n).map fun t => D.int (solN E n s t))) → Fr [] h h' → h.length ≤ a → Q (.ref a) h') : wpR (callN tab (k + 5) 14 [.ref y, .int (s : Nat)] h) Q := by
  rw [call_at T.t14 rfl]
  show wpR (c14 (callN tab (k + 4)) [some (.ref y), some (.int (s : Nat)), none, none, none, none, none, none, none, none, none, none] h).res Q
  rw [c14_eq]
  have f10 : fget [(2, D.int (n : Nat)), (1, .ref e), (0, .non)] 10 = none := rfl
  have f4 : fget [(2, D.int (n : Nat)), (1, .ref e), (0, .non)] 4 = none := rfl
  have f1 : fget [(2, D.int (n : Nat)), (1, .ref e), (0, .non)] 1 = some (.ref e) := rfl
  have f2 : fget [(2, D.int (n : Nat)), (1, .ref e), (0, .non)] 2 = some (.int (n : Nat)) := rfl
  simp only [wpR_ok, wpR_bind, wpS_stm, wpS_seq, wpS_nx, wpS_rt, wpR_res, wpR_noExc, eConst_ap, eVar_z, eVar_s, eBin_ap, eUn_ap, eAnd_ap, eOr_ap, eIf_ap, eCmp_ap, eChain_ap, eArgs_nil, eArgs_cons, eTup_ap, eLst_wp, eItem_ap, eEnd_none, eEnd_some, toI_int, eSlice_ap, eBF_ap, eCall_ap, eCallK_ap, eIsI_ap, sPass_ap, sExpr_ap, sRet_ap, sRetN_ap, sAsg_ap, sIf_ap, sSeq_ap, tName_ap, tEach_nil, tEach_cons, tTup_ap, tItem_ap, pick_nil, pick_pos, pick_kw, pick_dfl, eAttr_ap, eMth_ap, eMk_ap, tAttr_ap, pF_some, isNon_non, eDicEn_ap, eRev_ap, List.set_cons_zero, List.set_cons_succ, List.length_cons, List.length_nil, truth_bl, truth_non, not_bl, not_non, tst_if, tstS_if, pBl_some, pD_some, add_int, sub_int, neg_int, lt_int, le_int, gt_int, ge_int, eq_int, ne_int, if_true, Bool.not_true, Bool.not_false, Bool.false_eq_true, if_false, and_self, List.getElem?_cons_zero, List.getElem?_cons_succ, Option.getD_some, Option.bind_some, Option.map_some, mcls_ref S.y f10, mt10]
  refine alloc_wp fun a0 h1 ea0 fr1 la0 => ?_
  have S1 := S.fr0 fr1
  refine req_wp T.toDcT2 (vs := [s]) S1 ea0 (by simpa using hs) ?_
  unfold c14r1
  simp only [wpR_ok, wpR_bind, wpS_stm, wpS_seq, wpS_nx, wpS_rt, wpR_res, wpR_noExc, eConst_ap, eVar_z, eVar_s, eBin_ap, eUn_ap, eAnd_ap, eOr_ap, eIf_ap, eCmp_ap, eChain_ap, eArgs_nil, eArgs_cons, eTup_ap, eLst_wp, eItem_ap, eEnd_none, eEnd_some, toI_int, eSlice_ap, eBF_ap, eCall_ap, eCallK_ap, eIsI_ap, sPass_ap, sExpr_ap, sRet_ap, sRetN_ap, sAsg_ap, sIf_ap, sSeq_ap, tName_ap, tEach_nil, tEach_cons, tTup_ap, tItem_ap, pick_nil, pick_pos, pick_kw, pick_dfl, eAttr_ap, eMth_ap, eMk_ap, tAttr_ap, pF_some, isNon_non, eDicEn_ap, eRev_ap, List.set_cons_zero, List.set_cons_succ, List.length_cons, List.length_nil, truth_bl, truth_non, not_bl, not_non, tst_if, tstS_if, pBl_some, pD_some, add_int, sub_int, neg_int, lt_int, le_int, gt_int, ge_int, eq_int, ne_int, if_true, Bool.not_true, Bool.not_false, Bool.false_eq_true, if_false, and_self, List.getElem?_cons_zero, List.getElem?_cons_succ, Option.getD_some, Option.bind_some, Option.map_some, mcls_ref S1.y f4, mt4]
  refine dist_wp T.toDcT2 S1 bn (by omega) fun dd kvs h2 hd md fr2 ld bk => ?_
  have S2 := S1.fr0 fr2
  have md : MapD D.int kvs (dist1 E n s) := md
  unfold c14r2
  simp only [wpR_ok, wpR_bind, wpS_stm, wpS_seq, wpS_nx, wpS_rt, wpR_res, wpR_noExc, eConst_ap, eVar_z, eVar_s, eBin_ap, eUn_ap, eAnd_ap, eOr_ap, eIf_ap, eCmp_ap, eChain_ap, eArgs_nil, eArgs_cons, eTup_ap, eLst_wp, eItem_ap, eEnd_none, eEnd_some, toI_int, eSlice_ap, eBF_ap, eCall_ap, eCallK_ap, eIsI_ap, sPass_ap, sExpr_ap, sRet_ap, sRetN_ap, sAsg_ap, sIf_ap, sSeq_ap, tName_ap, tEach_nil, tEach_cons, tTup_ap, tItem_ap, pick_nil, pick_pos, pick_kw, pick_dfl, eAttr_ap, eMth_ap, eMk_ap, tAttr_ap, pF_some, isNon_non, eDicEn_ap, eRev_ap, List.set_cons_zero, List.set_cons_succ, List.length_cons, List.length_nil, truth_bl, truth_non, not_bl, not_non, tst_if, tstS_if, pBl_some, pD_some, add_int, sub_int, neg_int, lt_int, le_int, gt_int, ge_int, eq_int, ne_int, if_true, Bool.not_true, Bool.not_false, Bool.false_eq_true, if_false, and_self, List.getElem?_cons_zero, List.getElem?_cons_succ, Option.getD_some, Option.bind_some, Option.map_some]
  refine edges_comp (fun e => (dist1 E n s e.1).isNone) (iVal_lst (by simp only [eAttr_ap, eVar_z, Res.bind_ok, getAttr_ref S2.y, f1, pD_some]) S2.e) (stands_some S2.e) (by omega) (fun ed _ => ⟨[some (.ref y), some (.int (s : Nat)), some (.ref dd), none, none, none, none, none, some (edD ed), none, none, none], rfl, ?_, rfl⟩) fun ao h3 hao fr3 lao => ?_
  · simp only [eCmp_ap, eItem_ap, eVar_z, eVar_s, eConst_ap, Res.bind_ok, ed_item0, pD_some, md.notin hd, pBl_some]
    cases dist1 E n s ed.1 <;> rfl
  have S3 := S2.fr0 fr3
  have hd3 := fr3.get _ _ (by simp) hd
  unfold c14r3
  simp only [wpR_ok, wpR_bind, wpS_stm, wpS_seq, wpS_nx, wpS_rt, wpR_res, wpR_noExc, eConst_ap, eVar_z, eVar_s, eBin_ap, eUn_ap, eAnd_ap, eOr_ap, eIf_ap, eCmp_ap, eChain_ap, eArgs_nil, eArgs_cons, eTup_ap, eLst_wp, eItem_ap, eEnd_none, eEnd_some, toI_int, eSlice_ap, eBF_ap, eCall_ap, eCallK_ap, eIsI_ap, sPass_ap, sExpr_ap, sRet_ap, sRetN_ap, sAsg_ap, sIf_ap, sSeq_ap, tName_ap, tEach_nil, tEach_cons, tTup_ap, tItem_ap, pick_nil, pick_pos, pick_kw, pick_dfl, eAttr_ap, eMth_ap, eMk_ap, tAttr_ap, pF_some, isNon_non, eDicEn_ap, eRev_ap, List.set_cons_zero, List.set_cons_succ, List.length_cons, List.length_nil, truth_bl, truth_non, not_bl, not_non, tst_if, tstS_if, pBl_some, pD_some, add_int, sub_int, neg_int, lt_int, le_int, gt_int, ge_int, eq_int, ne_int, if_true, Bool.not_true, Bool.not_false, Bool.false_eq_true, if_false, and_self, List.getElem?_cons_zero, List.getElem?_cons_succ, Option.getD_some, Option.bind_some, Option.map_some, getAttr_ref S3.y, f2]
  refine edges_comp (fun e => (dist1 E n s e.2.1).isNone) (iVal_lst rfl hao) (stands_some hao) (Nat.le_trans (List.length_filter_le ..) (by omega)) (fun ed _ => ⟨[some (.ref y), some (.int (s : Nat)), some (.ref dd), some (.ref ao), none, none, none, none, some (edD ed), none, none, none], rfl, ?_, rfl⟩) fun ai h4 hai fr4 lai => ?_
  · simp only [eCmp_ap, eItem_ap, eVar_z, eVar_s, eConst_ap, Res.bind_ok, ed_item1, pD_some, md.notin hd3, pBl_some]
    cases dist1 E n s ed.2.1 <;> rfl
  have S4 := S3.fr0 fr4
  have hd4 := fr4.get _ _ (by simp) hd3
  have hao4 := fr4.get _ _ (by simp) hao
  refine alloc_wp fun y2 h5 hy2 fr5 ly2 => ?_
  have S5 := S4.fr0 fr5
  have hd5 := fr5.get _ _ (by simp) hd4
  have hao5 := fr5.get _ _ (by simp) hao4
  have hai5 := fr5.get _ _ (by simp) hai
  have VI : VE (inE E n s) n := (hE.filter _).filter _
  have lI : (inE E n s).length ≤ 900 := Nat.le_trans (List.length_filter_le ..) (Nat.le_trans (List.length_filter_le ..) bE)
  refine init_wp T.toDcT hy2 (E := inE E n s) hai5 (by omega) bn (by omega) VI fun h6 e2 oc2 S2' fr6 le2 lc2 => ?_
  have yl := at_lt S4.y
  have el := at_lt S4.e
  have dl := at_lt hd4
  have aol := at_lt hao4
  have S6 := S5.fr fr6 (by simp; omega) (by simp; omega) (fun c z => by cases z)
  have hd6 := fr6.get _ _ (by simp; omega) hd5
  have hao6 := fr6.get _ _ (by simp; omega) hao5
  have g9 : fget [(2, D.int (n : Nat)), (1, .ref e2), (0, oc2)] 9 = none := rfl
  simp only [wpR_ok, wpR_bind, wpS_stm, wpS_seq, wpS_nx, wpS_rt, wpR_res, wpR_noExc, eConst_ap, eVar_z, eVar_s, eBin_ap, eUn_ap, eAnd_ap, eOr_ap, eIf_ap, eCmp_ap, eChain_ap, eArgs_nil, eArgs_cons, eTup_ap, eLst_wp, eItem_ap, eEnd_none, eEnd_some, toI_int, eSlice_ap, eBF_ap, eCall_ap, eCallK_ap, eIsI_ap, sPass_ap, sExpr_ap, sRet_ap, sRetN_ap, sAsg_ap, sIf_ap, sSeq_ap, tName_ap, tEach_nil, tEach_cons, tTup_ap, tItem_ap, pick_nil, pick_pos, pick_kw, pick_dfl, eAttr_ap, eMth_ap, eMk_ap, tAttr_ap, pF_some, isNon_non, eDicEn_ap, eRev_ap, List.set_cons_zero, List.set_cons_succ, List.length_cons, List.length_nil, truth_bl, truth_non, not_bl, not_non, tst_if, tstS_if, pBl_some, pD_some, add_int, sub_int, neg_int, lt_int, le_int, gt_int, ge_int, eq_int, ne_int, if_true, Bool.not_true, Bool.not_false, Bool.false_eq_true, if_false, and_self, List.getElem?_cons_zero, List.getElem?_cons_succ, Option.getD_some, Option.bind_some, Option.map_some]
  unfold c14r4
  simp only [wpR_ok, wpR_bind, wpS_stm, wpS_seq, wpS_nx, wpS_rt, wpR_res, wpR_noExc, eConst_ap, eVar_z, eVar_s, eBin_ap, eUn_ap, eAnd_ap, eOr_ap, eIf_ap, eCmp_ap, eChain_ap, eArgs_nil, eArgs_cons, eTup_ap, eLst_wp, eItem_ap, eEnd_none, eEnd_some, toI_int, eSlice_ap, eBF_ap, eCall_ap, eCallK_ap, eIsI_ap, sPass_ap, sExpr_ap, sRet_ap, sRetN_ap, sAsg_ap, sIf_ap, sSeq_ap, tName_ap, tEach_nil, tEach_cons, tTup_ap, tItem_ap, pick_nil, pick_pos, pick_kw, pick_dfl, eAttr_ap, eMth_ap, eMk_ap, tAttr_ap, pF_some, isNon_non, eDicEn_ap, eRev_ap, List.set_cons_zero, List.set_cons_succ, List.length_cons, List.length_nil, truth_bl, truth_non, not_bl, not_non, tst_if, tstS_if, pBl_some, pD_some, add_int, sub_int, neg_int, lt_int, le_int, gt_int, ge_int, eq_int, ne_int, if_true, Bool.not_true, Bool.not_false, Bool.false_eq_true, if_false, and_self, List.getElem?_cons_zero, List.getElem?_cons_succ, Option.getD_some, Option.bind_some, Option.map_some, mcls_ref S2'.y g9, mt9]
  have rE : ∀ σ' h', h'[y]? = some (.ins 0 [(2, .int (n : Nat)), (1, .ref e), (0, .non)]) → iRange [(eAttr 2 (eVar 0))] (some (.ref y) :: σ') h' = .ok ⟨(List.range n).map fun k => .int ((k : Nat) : Int), none, none⟩ h' := fun σ' h' hy' => by
    have := rng_ap (e := eAttr 2 (eVar 0)) (σ := some (.ref y) :: σ') (h := h') (h1 := h') (n := (n : Nat)) (by simp only [eAttr_ap, eVar_z, Res.bind_ok, getAttr_ref hy', f2, pD_some]) (by omega) (by omega)
    rw [this]
    have e0 : (n : Int).toNat = n := by omega
    rw [e0]
  refine zeros_wp (fun v => (dist1 E n s v).isNone) (rE _ _ S6.y) (by omega) (fun t ht => ⟨[some (.ref y), some (.int (s : Nat)), some (.ref dd), some (.ref ao), some (.ref y2), none, none, none, none, some (.int (t : Nat)), none, none], rfl, ?_, rfl, rfl⟩) fun dz h7 kvz hz mz lz fr7 laz => ?_
  · simp only [eCmp_ap, eVar_z, eVar_s, Res.bind_ok, md.notin hd6, pBl_some]
    cases dist1 E n s t <;> rfl
  have S7 := S6.fr0 fr7
  have S7' := S2'.fr0 fr7
  have hd7 := fr7.get _ _ (by simp) hd6
  have hao7 := fr7.get _ _ (by simp) hao6
  refine relax_call T.toDcT S7'.y rfl rfl S7'.e hz mz (by omega) bn (by omega) fun h8 l8 kv8 lv8 hz8 mz8 _ _ fr8 _ bz8 => ?_
  have nz : ∀ {j : Nat} {o : Ob}, h6[j]? = some o → j ∉ [dz] := fun ej => by have := at_lt ej; simp; omega
  have S8 := S7.fr fr8 (nz S6.y) (nz S6.e) (fun c z => by cases z)
  have hd8 := fr8.get _ _ (nz hd6) hd7
  have hao8 := fr8.get _ _ (nz hao6) hao7
  have mz8 : MapD D.int kv8 (dist2 E n s) := mz8
  have keep2 : ∀ t, t < n → dist1 E n s t = none → ∃ x, dist2 E n s t = some x := fun t ht hn => by
    have : (zer n (fun v => (dist1 E n s v).isNone) t).isSome = true := by
      unfold zer
      rw [if_pos ⟨ht, by show (dist1 E n s t).isNone = true; rw [hn]; rfl⟩]; rfl
    exact Option.isSome_iff_exists.mp (Bf.relax_keep (E := inE E n s) n ⟨zer n (fun v => (dist1 E n s v).isNone), fun _ => none, none⟩ this)
  simp only [wpR_ok, wpR_bind, wpS_stm, wpS_seq, wpS_nx, wpS_rt, wpR_res, wpR_noExc, eConst_ap, eVar_z, eVar_s, eBin_ap, eUn_ap, eAnd_ap, eOr_ap, eIf_ap, eCmp_ap, eChain_ap, eArgs_nil, eArgs_cons, eTup_ap, eLst_wp, eItem_ap, eEnd_none, eEnd_some, toI_int, eSlice_ap, eBF_ap, eCall_ap, eCallK_ap, eIsI_ap, sPass_ap, sExpr_ap, sRet_ap, sRetN_ap, sAsg_ap, sIf_ap, sSeq_ap, tName_ap, tEach_nil, tEach_cons, tTup_ap, tItem_ap, pick_nil, pick_pos, pick_kw, pick_dfl, eAttr_ap, eMth_ap, eMk_ap, tAttr_ap, pF_some, isNon_non, eDicEn_ap, eRev_ap, List.set_cons_zero, List.set_cons_succ, List.length_cons, List.length_nil, truth_bl, truth_non, not_bl, not_non, tst_if, tstS_if, pBl_some, pD_some, add_int, sub_int, neg_int, lt_int, le_int, gt_int, ge_int, eq_int, ne_int, if_true, Bool.not_true, Bool.not_false, Bool.false_eq_true, if_false, and_self, List.getElem?_cons_zero, List.getElem?_cons_succ, Option.getD_some, Option.bind_some, Option.map_some, item_tup, atD0]
  unfold c14r5
  simp only [wpR_ok, wpR_bind, wpS_stm, wpS_seq, wpS_nx, wpS_rt, wpR_res, wpR_noExc, eConst_ap, eVar_z, eVar_s, eBin_ap, eUn_ap, eAnd_ap, eOr_ap, eIf_ap, eCmp_ap, eChain_ap, eArgs_nil, eArgs_cons, eTup_ap, eLst_wp, eItem_ap, eEnd_none, eEnd_some, toI_int, eSlice_ap, eBF_ap, eCall_ap, eCallK_ap, eIsI_ap, sPass_ap, sExpr_ap, sRet_ap, sRetN_ap, sAsg_ap, sIf_ap, sSeq_ap, tName_ap, tEach_nil, tEach_cons, tTup_ap, tItem_ap, pick_nil, pick_pos, pick_kw, pick_dfl, eAttr_ap, eMth_ap, eMk_ap, tAttr_ap, pF_some, isNon_non, eDicEn_ap, eRev_ap, List.set_cons_zero, List.set_cons_succ, List.length_cons, List.length_nil, truth_bl, truth_non, not_bl, not_non, tst_if, tstS_if, pBl_some, pD_some, add_int, sub_int, neg_int, lt_int, le_int, gt_int, ge_int, eq_int, ne_int, if_true, Bool.not_true, Bool.not_false, Bool.false_eq_true, if_false, and_self, List.getElem?_cons_zero, List.getElem?_cons_succ, Option.getD_some, Option.bind_some, Option.map_some]
  refine ints_comp (E := outE E n s) (gapF E n s) (iVal_lst rfl hao8) (stands_some hao8) (Nat.le_trans (List.length_filter_le ..) (by omega)) (fun ed hed => ⟨[some (.ref y), some (.int (s : Nat)), some (.ref dd), some (.ref ao), some (.ref y2), some (.ref dz), none, none, none, some (.int (ed.1 : Nat)), some (.int (ed.2.1 : Nat)), some (.int ed.2.2)], rfl, ?_, fun x hx => ?_⟩) fun ag h9 hag fr9 lag => ?_
  · simp only [eCmp_ap, eVar_z, eVar_s, Res.bind_ok, md.isin hd8, pBl_some]
    unfold gapF
    cases dist1 E n s ed.2.1 <;> rfl
  · obtain ⟨h1', h2'⟩ := List.mem_filter.mp hed
    have hn1 : dist1 E n s ed.1 = none := by simpa using h2'
    obtain ⟨z, hz'⟩ := keep2 ed.1 (hE ed h1').1 hn1
    unfold gapF at hx
    cases hg : dist1 E n s ed.2.1 with
    | none => rw [hg] at hx; cases hx
    | some w =>
      rw [hg, hz'] at hx
      simp only [eBin_ap, eItem_ap, eVar_z, eVar_s, Res.bind_ok, md.item hd8, hg, Option.map_some, pD_some, sub_int, mz8.item hz8, hz']
      cases hx; rfl
  have S9 := S8.fr0 fr9
  have hd9 := fr9.get _ _ (by simp) hd8
  have hz9 := fr9.get _ _ (by simp) hz8
  unfold c14r6
  simp only [wpR_ok, wpR_bind, wpS_stm, wpS_seq, wpS_nx, wpS_rt, wpR_res, wpR_noExc, eConst_ap, eVar_z, eVar_s, eBin_ap, eUn_ap, eAnd_ap, eOr_ap, eIf_ap, eCmp_ap, eChain_ap, eArgs_nil, eArgs_cons, eTup_ap, eLst_wp, eItem_ap, eEnd_none, eEnd_some, toI_int, eSlice_ap, eBF_ap, eCall_ap, eCallK_ap, eIsI_ap, sPass_ap, sExpr_ap, sRet_ap, sRetN_ap, sAsg_ap, sIf_ap, sSeq_ap, tName_ap, tEach_nil, tEach_cons, tTup_ap, tItem_ap, pick_nil, pick_pos, pick_kw, pick_dfl, eAttr_ap, eMth_ap, eMk_ap, tAttr_ap, pF_some, isNon_non, eDicEn_ap, eRev_ap, List.set_cons_zero, List.set_cons_succ, List.length_cons, List.length_nil, truth_bl, truth_non, not_bl, not_non, tst_if, tstS_if, pBl_some, pD_some, add_int, sub_int, neg_int, lt_int, le_int, gt_int, ge_int, eq_int, ne_int, if_true, Bool.not_true, Bool.not_false, Bool.false_eq_true, if_false, and_self, List.getElem?_cons_zero, List.getElem?_cons_succ, Option.getD_some, Option.bind_some, Option.map_some]
  refine alloc_wp fun a10 h10 ha10 fr10 la10 => ?_
  have hag10 := fr10.get _ _ (by simp) hag
  have hgl : ((outE E n s).filterMap (gapF E n s)).length ≤ 900 := Nat.le_trans (List.length_filterMap_le ..) (Nat.le_trans (List.length_filter_le ..) bE)
  rw [add_al ha10 hag10 (by rw [List.length_map, lmE]; show 1 + _ ≤ _; omega)]
  refine alloc_wp fun a11 h11 ha11 fr11 la11 => ?_
  have em := max_ref (h := h11) (a := a11) (fz := false) (l := 0 :: (outE E n s).filterMap (gapF E n s)) ha11 (by simp)
  have fr911 := fr10.trans fr11
  have S11 := S9.fr0 fr911
  have hd11 := fr911.get _ _ (by simp) hd9
  have hz11 := fr911.get _ _ (by simp) hz9
  simp only [em, wpR_ok, wpR_bind, wpS_stm, wpS_seq, wpS_nx, wpS_rt, wpR_res, wpR_noExc, eConst_ap, eVar_z, eVar_s, eBin_ap, eUn_ap, eAnd_ap, eOr_ap, eIf_ap, eCmp_ap, eChain_ap, eArgs_nil, eArgs_cons, eTup_ap, eLst_wp, eItem_ap, eEnd_none, eEnd_some, toI_int, eSlice_ap, eBF_ap, eCall_ap, eCallK_ap, eIsI_ap, sPass_ap, sExpr_ap, sRet_ap, sRetN_ap, sAsg_ap, sIf_ap, sSeq_ap, tName_ap, tEach_nil, tEach_cons, tTup_ap, tItem_ap, pick_nil, pick_pos, pick_kw, pick_dfl, eAttr_ap, eMth_ap, eMk_ap, tAttr_ap, pF_some, isNon_non, eDicEn_ap, eRev_ap, List.set_cons_zero, List.set_cons_succ, List.length_cons, List.length_nil, truth_bl, truth_non, not_bl, not_non, tst_if, tstS_if, pBl_some, pD_some, add_int, sub_int, neg_int, lt_int, le_int, gt_int, ge_int, eq_int, ne_int, if_true, Bool.not_true, Bool.not_false, Bool.false_eq_true, if_false, and_self, List.getElem?_cons_zero, List.getElem?_cons_succ, Option.getD_some, Option.bind_some, Option.map_some]
  unfold c14r7
  simp only [wpR_ok, wpR_bind, wpS_stm, wpS_seq, wpS_nx, wpS_rt, wpR_res, wpR_noExc, eConst_ap, eVar_z, eVar_s, eBin_ap, eUn_ap, eAnd_ap, eOr_ap, eIf_ap, eCmp_ap, eChain_ap, eArgs_nil, eArgs_cons, eTup_ap, eLst_wp, eItem_ap, eEnd_none, eEnd_some, toI_int, eSlice_ap, eBF_ap, eCall_ap, eCallK_ap, eIsI_ap, sPass_ap, sExpr_ap, sRet_ap, sRetN_ap, sAsg_ap, sIf_ap, sSeq_ap, tName_ap, tEach_nil, tEach_cons, tTup_ap, tItem_ap, pick_nil, pick_pos, pick_kw, pick_dfl, eAttr_ap, eMth_ap, eMk_ap, tAttr_ap, pF_some, isNon_non, eDicEn_ap, eRev_ap, List.set_cons_zero, List.set_cons_succ, List.length_cons, List.length_nil, truth_bl, truth_non, not_bl, not_non, tst_if, tstS_if, pBl_some, pD_some, add_int, sub_int, neg_int, lt_int, le_int, gt_int, ge_int, eq_int, ne_int, if_true, Bool.not_true, Bool.not_false, Bool.false_eq_true, if_false, and_self, List.getElem?_cons_zero, List.getElem?_cons_succ, Option.getD_some, Option.bind_some, Option.map_some]
  refine range_comp (fun t => D.int (solN E n s t)) (rE _ _ S11.y) (by omega) (fun t ht => ⟨[some (.ref y), some (.int (s : Nat)), some (.ref dd), some (.ref ao), some (.ref y2), some (.ref dz), some (.ref ag), some (.int (shiftN E n s)), none, some (.int (t : Nat)), none, none], rfl, ?_⟩) fun ar h12 har fr12 lar => ?_
  · cases hg : dist1 E n s t with
    | some x =>
      have e1 : solN E n s t = x := by unfold solN; rw [hg]
      simp only [eIf_ap, eCmp_ap, eVar_z, eVar_s, Res.bind_ok, md.isin hd11, hg, Option.isSome_some, pBl_some, truth_bl, tst_t, eItem_ap, md.item hd11, Option.map_some, pD_some, e1]
    | none =>
      obtain ⟨z, hz'⟩ := keep2 t ht hg
      have e1 : solN E n s t = z + shiftN E n s := by unfold solN; rw [hg, hz']; rfl
      simp only [eIf_ap, eCmp_ap, eVar_z, eVar_s, Res.bind_ok, md.isin hd11, hg, Option.isSome_none, pBl_some, truth_bl, tst_f, eBin_ap, eItem_ap, mz8.item hz11, hz', Option.map_some, pD_some, add_int, e1]
  · refine q ar h12 har ?_ (by have := fr1.len; have := fr2.len; have := fr3.len; have := fr4.len; have := fr5.len; have := fr6.len; have := fr7.len; have := fr8.len; have := fr9.len; have := fr10.len; have := fr11.len; omega)
    have f14 : Fr [] h h4 := ((fr1.trans fr2).trans fr3).trans fr4
    have f16 : Fr [] h h6 := (f14.trans fr5).then fr6 fun j hj => by simp at hj; have := f14.len; exact .inr (by omega)
    have f18 : Fr [] h h8 := (f16.trans fr7).then fr8 fun j hj => by simp at hj; have := f16.len; exact .inr (by omega)
    exact ((f18.trans fr9).trans fr911).trans fr12
end Ev

set_option maxRecDepth 100000
set_option maxHeartbeats 1000000
/-! what repr tells: bounds -/
namespace Ev
open PySem
structure Shn (d : PyData) (p B : Nat) : Prop where
  sh : d.showable = true
  dp : d.depth ≤ p
  ln : d.shown.length ≤ B
theorem Shn.mono {d : PyData} {p B p' B' : Nat} (s : Shn d p B) (h1 : p ≤ p') (h2 : B ≤ B') : Shn d p' B' := ⟨s.sh, Nat.le_trans s.dp h1, Nat.le_trans s.ln h2⟩
theorem log_of {i : Int} (hi : i.natAbs ≤ 10 ^ 100) : i.natAbs.log2 < 1920 := PySem.Flt.log2_lt_of (by decide) (Nat.lt_of_le_of_lt hi (by decide))
theorem shn_int {i : Int} (hi : i.natAbs ≤ 10 ^ 100) : Shn (.int i) 0 20000 := by
  refine ⟨decide_eq_true (log_of hi), by simp [PyData.depth], ?_⟩
  have e := int_text_length_le (k := 1920) (by decide) (log_of hi)
  show (Str.ofString (toString i)).length ≤ 20000
  rw [PySem.ofString_length]
  omega
theorem shn_sm {i : Int} {k : Nat} (h0 : 0 < k) (hk : k ≤ 100) (hi : i.natAbs < 10 ^ k) : Shn (.int i) 0 (k + 1) := by
  have h1 : (10 : Nat) ^ k ≤ 10 ^ 100 := Nat.pow_le_pow_right (by decide) hk
  refine ⟨decide_eq_true (log_of (by omega)), by simp [PyData.depth], ?_⟩
  have e := int_text_length_le10 h0 hi
  show (Str.ofString (toString i)).length ≤ k + 1
  rw [PySem.ofString_length]
  exact e
theorem shn_non : Shn .none 0 20000 := ⟨rfl, by simp [PyData.depth], by decide⟩
theorem shn_bl (b : Bool) : Shn (.bool b) 0 20000 := ⟨rfl, by simp [PyData.depth], by cases b <;> decide⟩
theorem shn_str {w : Str} (h1 : w.length ≤ 100) (h2 : ∀ c ∈ w.cps.toList, c < 1114112) : Shn (.str w) 0 20000 := by
  refine ⟨rfl, by simp [PyData.depth], ?_⟩
  have := StrLaws.reprText_len w fun c hc => Nat.lt_of_lt_of_le (h2 c hc) (by decide)
  show (reprText w).length ≤ 20000
  omega
theorem textFrom_le (B : Nat) : ∀ (ts : List Str) (k : Nat) (acc : Str), (∀ t ∈ ts, t.length ≤ B) → (textFrom k acc ts).length ≤ acc.length + ts.length * (B + 2)
  | [], k, acc, _ => by show acc.length ≤ _; omega
  | t :: r, k, acc, h => by
    have ih := textFrom_le B r (k + 1) (acc ++ (if k > 0 then ", " else "" : String) ++ t) fun x hx => h x (List.mem_cons_of_mem _ hx)
    have e : (acc ++ (if k > 0 then ", " else "" : String) ++ t).length ≤ acc.length + 2 + t.length := by
      rw [strLen_append, strLen_append]
      split
      · have : ((", " : String) : Str).length = 2 := rfl
        omega
      · have : (("" : String) : Str).length = 0 := rfl
        omega
    have hb := h t List.mem_cons_self
    show (textFrom (k + 1) (acc ++ (if k > 0 then ", " else "" : String) ++ t) r).length ≤ _
    rw [List.length_cons, Nat.succ_mul]
    omega
theorem join_le (B : Nat) : ∀ ts : List Str, (∀ t ∈ ts, t.length ≤ B) → (Str.join ", " ts).length ≤ ts.length * (B + 2)
  | [], _ => by show 0 ≤ _; omega
  | [x], h => by have := h x (by simp); show x.length ≤ _; rw [List.length_singleton]; omega
  | x :: y :: r, h => by
    have ih := join_le B (y :: r) fun z hz => h z (List.mem_cons_of_mem _ hz)
    show (x ++ ", " ++ Str.join ", " (y :: r)).length ≤ _
    have e2 : ((", " : String) : Str).length = 2 := rfl
    have hx := h x List.mem_cons_self
    rw [strLen_append, strLen_append, e2, List.length_cons, Nat.succ_mul]
    omega
theorem all_shown {p B : Nat} : ∀ {ds : List PyData}, (∀ d ∈ ds, Shn d p B) → PyData.showableAll ds = true ∧ PyData.depthAll ds ≤ p ∧ (∀ t ∈ PyData.shownAll ds, t.length ≤ B) ∧ (PyData.shownAll ds).length = ds.length
  | [], _ => ⟨rfl, by simp [PyData.depthAll], fun t h => absurd h (by simp [PyData.shownAll]), rfl⟩
  | d :: r, h => by
    obtain ⟨h1, h2, h3, h4⟩ := all_shown (ds := r) fun x hx => h x (List.mem_cons_of_mem _ hx)
    have hd := h d List.mem_cons_self
    refine ⟨by simp only [PyData.showableAll, hd.sh, h1, Bool.and_self], ?_, fun t ht => ?_, ?_⟩
    · have := hd.dp
      simp only [PyData.depthAll]
      omega
    · simp only [PyData.shownAll, List.mem_cons] at ht
      rcases ht with rfl | ht
      · exact hd.ln
      · exact h3 t ht
    · simp only [PyData.shownAll, List.length_cons, h4]
theorem shn_list {ds : List PyData} {p B m : Nat} (h : ∀ d ∈ ds, Shn d p B) (hm : ds.length ≤ m) : Shn (.list ds) (p + 1) (m * (B + 2) + 3) := by
  obtain ⟨h1, h2, h3, h4⟩ := all_shown h
  have e : (PyData.list ds).shown = listText (PyData.shownAll ds) := by simp only [PyData.shown]
  refine ⟨by simp only [PyData.showable, h1], by simp only [PyData.depth]; omega, ?_⟩
  rw [e]
  have := textFrom_le B (PyData.shownAll ds) 0 "[" h3
  have e1 : (("[" : String) : Str).length = 1 := rfl
  have e2 : (("]" : String) : Str).length = 1 := rfl
  unfold listText
  rw [strLen_append, e2]
  rw [h4, e1] at this
  have hmul := Nat.mul_le_mul_right (B + 2) hm
  omega
theorem shn_tup {ds : List PyData} {p B m : Nat} (h : ∀ d ∈ ds, Shn d p B) (hm : ds.length ≤ m) : Shn (.tuple ds) (p + 1) (m * (B + 2) + 3) := by
  obtain ⟨h1, h2, h3, h4⟩ := all_shown h
  have e : (PyData.tuple ds).shown = tupleText (PyData.shownAll ds) := by simp only [PyData.shown]
  refine ⟨by simp only [PyData.showable, h1], by simp only [PyData.depth]; omega, ?_⟩
  rw [e]
  have := join_le B (PyData.shownAll ds) h3
  have e1 : (("(" : String) : Str).length = 1 := rfl
  unfold tupleText
  rw [strLen_append, strLen_append, e1]
  rw [h4] at this
  have hmul := Nat.mul_le_mul_right (B + 2) hm
  have e3 : ∀ b : Bool, ((if b = true then ",)" else ")" : String) : Str).length ≤ 2 := fun b => by cases b <;> decide
  have := e3 ((PyData.shownAll ds).length == 1)
  omega
theorem kv_shown {p B : Nat} : ∀ {ds : List (PyData × PyData)}, (∀ d ∈ ds, Shn d.1 p B ∧ Shn d.2 p B) → PyData.showableKv ds = true ∧ PyData.depthKv ds ≤ p ∧ (∀ t ∈ PyData.shownKv ds, t.length ≤ 2 * B + 2) ∧ (PyData.shownKv ds).length = ds.length
  | [], _ => ⟨rfl, by simp [PyData.depthKv], fun t h => absurd h (by simp [PyData.shownKv]), rfl⟩
  | (k, v) :: r, h => by
    obtain ⟨h1, h2, h3, h4⟩ := kv_shown (ds := r) fun x hx => h x (List.mem_cons_of_mem _ hx)
    obtain ⟨hk, hv⟩ := h (k, v) List.mem_cons_self
    refine ⟨by simp only [PyData.showableKv, hk.sh, hv.sh, h1, Bool.and_self], ?_, fun t ht => ?_, ?_⟩
    · have := hk.dp
      have := hv.dp
      simp only [PyData.depthKv]
      dsimp only at *
      omega
    · simp only [PyData.shownKv, List.mem_cons] at ht
      rcases ht with rfl | ht
      · have e2 : ((": " : String) : Str).length = 2 := rfl
        have := hk.ln
        have := hv.ln
        rw [strLen_append, strLen_append, e2]
        dsimp only at *
        omega
      · exact h3 t ht
    · simp only [PyData.shownKv, List.length_cons, h4]
theorem shn_dict {ds : List (PyData × PyData)} {p B m : Nat} (h : ∀ d ∈ ds, Shn d.1 p B ∧ Shn d.2 p B) (hm : ds.length ≤ m) : Shn (.dict ds) (p + 1) (m * (2 * B + 4) + 3) := by
  obtain ⟨h1, h2, h3, h4⟩ := kv_shown h
  have e : (PyData.dict ds).shown = dictText (PyData.shownKv ds) := by simp only [PyData.shown]
  refine ⟨by simp only [PyData.showable, h1], by simp only [PyData.depth]; omega, ?_⟩
  rw [e]
  have := join_le (2 * B + 2) (PyData.shownKv ds) h3
  have e1 : (("{" : String) : Str).length = 1 := rfl
  have e2 : (("}" : String) : Str).length = 1 := rfl
  unfold dictText
  rw [strLen_append, strLen_append, e1, e2]
  rw [h4] at this
  have hmul := Nat.mul_le_mul_right (2 * B + 2 + 2) hm
  have e4 : 2 * B + 4 = 2 * B + 2 + 2 := by omega
  rw [e4]
  omega
/-! ### data of values -/
def Pd (n : Nat) (h : Hh) (x : D) (p B : Nat) : Prop := ∃ d, rdat n h x = some d ∧ Shn d p B
theorem mapO_all {A C : Type} {f : A → Option C} {P : C → Prop} : ∀ {xs : List A}, (∀ x ∈ xs, ∃ d, f x = some d ∧ P d) → ∃ ds, mapO f xs = some ds ∧ ds.length = xs.length ∧ ∀ d ∈ ds, P d
  | [], _ => ⟨[], rfl, rfl, fun _ h => absurd h (by simp)⟩
  | x :: r, h => by
    obtain ⟨d, e1, e2⟩ := h x List.mem_cons_self
    obtain ⟨ds, g1, g2, g3⟩ := mapO_all (xs := r) fun y hy => h y (List.mem_cons_of_mem _ hy)
    refine ⟨d :: ds, ?_, by rw [List.length_cons, List.length_cons, g2], fun z hz => ?_⟩
    · unfold mapO; rw [e1]; dsimp only; rw [g1]
    · rcases List.mem_cons.mp hz with rfl | hz
      · exact e2
      · exact g3 z hz
theorem pd_int (n : Nat) (h : Hh) {i : Int} (hi : i.natAbs ≤ 10 ^ 100) : Pd n h (.int i) 0 20000 := ⟨.int i, by cases n <;> rfl, shn_int hi⟩
theorem pd_sm (n : Nat) (h : Hh) {i : Int} {k : Nat} (h0 : 0 < k) (hk : k ≤ 100) (hi : i.natAbs < 10 ^ k) : Pd n h (.int i) 0 (k + 1) := ⟨.int i, by cases n <;> rfl, shn_sm h0 hk hi⟩
theorem pd_non (n : Nat) (h : Hh) : Pd n h .non 0 20000 := ⟨.none, by cases n <;> rfl, shn_non⟩
theorem pd_bl (n : Nat) (h : Hh) (b : Bool) : Pd n h (.bl b) 0 20000 := ⟨.bool b, by cases n <;> rfl, shn_bl b⟩
theorem pd_str (n : Nat) (h : Hh) {w : Str} (h1 : w.length ≤ 100) (h2 : ∀ c ∈ w.cps.toList, c < 1114112) : Pd n h (.str w) 0 20000 := ⟨.str w, by cases n <;> rfl, shn_str h1 h2⟩
theorem pd_lst {n : Nat} {h : Hh} {a : Nat} {fz : Bool} {xs : List D} {p B m : Nat} (e : h[a]? = some (.lst fz xs)) (hx : ∀ x ∈ xs, Pd n h x p B) (hm : xs.length ≤ m) : Pd (n + 1) h (.ref a) (p + 1) (m * (B + 2) + 3) := by
  obtain ⟨ds, g1, g2, g3⟩ := mapO_all hx
  refine ⟨.list ds, ?_, shn_list g3 (by omega)⟩
  show (match h[a]? with
    | some (.lst _ xs) => (mapO (rdat n h) xs).map PyData.list
    | some (.dic _ kvs) => (mapO (fun p : D × D => pairK (keyOnly p.1) (rdat n h p.2)) kvs).map PyData.dict
    | _ => none) = _
  rw [e]
  show (mapO (rdat n h) xs).map PyData.list = _
  rw [g1]; rfl
theorem pd_tup {n : Nat} {h : Hh} {xs : List D} {p B m : Nat} (hx : ∀ x ∈ xs, Pd n h x p B) (hm : xs.length ≤ m) : Pd (n + 1) h (.tup xs) (p + 1) (m * (B + 2) + 3) := by
  obtain ⟨ds, g1, g2, g3⟩ := mapO_all hx
  refine ⟨.tuple ds, ?_, shn_tup g3 (by omega)⟩
  show (mapO (rdat n h) xs).map PyData.tuple = _
  rw [g1]; rfl
theorem pd_dic {n : Nat} {h : Hh} {a : Nat} {fz : Bool} {kvs : List (D × D)} {p B m : Nat} (e : h[a]? = some (.dic fz kvs)) (hx : ∀ q ∈ kvs, (∃ d, keyOnly q.1 = some d ∧ Shn d p B) ∧ Pd n h q.2 p B) (hm : kvs.length ≤ m) : Pd (n + 1) h (.ref a) (p + 1) (m * (2 * B + 4) + 3) := by
  obtain ⟨ds, g1, g2, g3⟩ := mapO_all (f := fun p : D × D => pairK (keyOnly p.1) (rdat n h p.2)) (P := fun d => Shn d.1 p B ∧ Shn d.2 p B) (xs := kvs) fun q hq => by
    obtain ⟨⟨d, e1, e2⟩, d', e3, e4⟩ := hx q hq
    exact ⟨(d, d'), by rw [e1, e3]; rfl, e2, e4⟩
  refine ⟨.dict ds, ?_, shn_dict g3 (by omega)⟩
  show (match h[a]? with
    | some (.lst _ xs) => (mapO (rdat n h) xs).map PyData.list
    | some (.dic _ kvs) => (mapO (fun p : D × D => pairK (keyOnly p.1) (rdat n h p.2)) kvs).map PyData.dict
    | _ => none) = _
  rw [e]
  show (mapO (fun p : D × D => pairK (keyOnly p.1) (rdat n h p.2)) kvs).map PyData.dict = _
  rw [g1]; rfl
theorem mapO_mono {A C : Type} {f g : A → Option C} : ∀ {xs : List A} {ds : List C}, (∀ x ∈ xs, ∀ d, f x = some d → g x = some d) → mapO f xs = some ds → mapO g xs = some ds
  | [], ds, _, e => e
  | x :: r, ds, h, e => by
    unfold mapO at e ⊢
    cases hf : f x with
    | none => rw [hf] at e; cases e
    | some d =>
      rw [hf] at e
      rw [h x List.mem_cons_self d hf]
      dsimp only at e ⊢
      cases hr : mapO f r with
      | none => rw [hr] at e; cases e
      | some l =>
        rw [hr] at e
        rw [mapO_mono (fun y hy => h y (List.mem_cons_of_mem _ hy)) hr]
        exact e
theorem rdat_fr {h h' : Hh} (f : Fr [] h h') : ∀ (n : Nat) (x : D) (d : PyData), rdat n h x = some d → rdat n h' x = some d := by
  intro n
  induction n with
  | zero => intro x d e; cases x <;> exact e
  | succ n ih =>
    intro x d e
    cases x with
    | tup l =>
      have e : (mapO (rdat n h) l).map PyData.tuple = some d := e
      show (mapO (rdat n h') l).map PyData.tuple = some d
      obtain ⟨ds, e1, e2⟩ := Option.map_eq_some_iff.mp e
      rw [mapO_mono (fun x _ d => ih x d) e1, ← e2]; rfl
    | tupw l =>
      have e : (mapO (rdat n h) l).map PyData.tuple = some d := e
      show (mapO (rdat n h') l).map PyData.tuple = some d
      obtain ⟨ds, e1, e2⟩ := Option.map_eq_some_iff.mp e
      rw [mapO_mono (fun x _ d => ih x d) e1, ← e2]; rfl
    | ref a =>
      have e : (match h[a]? with
        | some (.lst _ xs) => (mapO (rdat n h) xs).map PyData.list
        | some (.dic _ kvs) => (mapO (fun p : D × D => pairK (keyOnly p.1) (rdat n h p.2)) kvs).map PyData.dict
        | _ => none) = some d := e
      show (match h'[a]? with
        | some (.lst _ xs) => (mapO (rdat n h') xs).map PyData.list
        | some (.dic _ kvs) => (mapO (fun p : D × D => pairK (keyOnly p.1) (rdat n h' p.2)) kvs).map PyData.dict
        | _ => none) = some d
      cases ea : h[a]? with
      | none => rw [ea] at e; cases e
      | some o =>
        rw [ea] at e
        rw [f.get _ _ (by simp) ea]
        cases o with
        | lst fz xs =>
          have e : (mapO (rdat n h) xs).map PyData.list = some d := e
          show (mapO (rdat n h') xs).map PyData.list = some d
          obtain ⟨ds, e1, e2⟩ := Option.map_eq_some_iff.mp e
          rw [mapO_mono (fun x _ d => ih x d) e1, ← e2]; rfl
        | dic lk kvs =>
          have e : (mapO (fun p : D × D => pairK (keyOnly p.1) (rdat n h p.2)) kvs).map PyData.dict = some d := e
          show (mapO (fun p : D × D => pairK (keyOnly p.1) (rdat n h' p.2)) kvs).map PyData.dict = some d
          obtain ⟨ds, e1, e2⟩ := Option.map_eq_some_iff.mp e
          rw [mapO_mono (g := fun p : D × D => pairK (keyOnly p.1) (rdat n h' p.2)) (fun x _ d hd => ?_) e1, ← e2]; rfl
          cases hk : keyOnly x.1 with
          | none => rw [hk] at hd; cases hd
          | some k =>
            rw [hk] at hd
            cases hr : rdat n h x.2 with
            | none => rw [hr] at hd; cases hd
            | some v =>
              rw [hr] at hd
              rw [ih _ _ hr]
              exact hd
        | ins c fs => cases e
    | _ => exact e
theorem Pd.fr {n : Nat} {h h' : Hh} {x : D} {p B : Nat} (q : Pd n h x p B) (f : Fr [] h h') : Pd n h' x p B := let ⟨d, e, s⟩ := q; ⟨d, rdat_fr f _ _ _ e, s⟩
theorem Pd.mono {n : Nat} {h : Hh} {x : D} {p B p' B' : Nat} (q : Pd n h x p B) (h1 : p ≤ p') (h2 : B ≤ B') : Pd n h x p' B' := let ⟨d, e, s⟩ := q; ⟨d, e, s.mono h1 h2⟩
/-- repr answers, and answers alike later -/
theorem Pd.repr {h : Hh} {x : D} {p B : Nat} (q : Pd 20 h x p B) (hp : p ≤ 20) (hB : B ≤ lim) : ∃ s, bfun .repr [x] h = .ok (.str s) h ∧ ∀ h', Fr [] h h' → bfun .repr [x] h' = .ok (.str s) h' := by
  obtain ⟨d, e, s⟩ := q
  have go : ∀ h', rdat 20 h' x = some d → bfun .repr [x] h' = .ok (.str d.shown) h' := fun h' e' => by
    show (match reprD h' x with | some s => Res.ok (D.str s) h' | none => .bad) = _
    unfold reprD
    rw [e']
    dsimp only
    rw [if_pos (by rw [s.sh, decide_eq_true (Nat.le_trans s.dp hp), decide_eq_true (Nat.le_trans s.ln hB)]; rfl)]
  exact ⟨d.shown, go h e, fun h' f => go h' (rdat_fr f _ _ _ e)⟩
/-- two values of the same data -/
theorem repr_same {h h' : Hh} {x y : D} {d : PyData} {p B : Nat} (e1 : rdat 20 h x = some d) (e2 : rdat 20 h' y = some d) (s : Shn d p B) (hp : p ≤ 20) (hB : B ≤ lim) : ∃ z, bfun .repr [x] h = .ok (.str z) h ∧ bfun .repr [y] h' = .ok (.str z) h' := by
  have go : ∀ h' x, rdat 20 h' x = some d → bfun .repr [x] h' = .ok (.str d.shown) h' := fun h' x e' => by
    show (match reprD h' x with | some s => Res.ok (D.str s) h' | none => .bad) = _
    unfold reprD
    rw [e']
    dsimp only
    rw [if_pos (by rw [s.sh, decide_eq_true (Nat.le_trans s.dp hp), decide_eq_true (Nat.le_trans s.ln hB)]; rfl)]
  exact ⟨d.shown, go h x e1, go h' y e2⟩
theorem bl_repr (b : Bool) : ∃ s, ∀ h, bfun .repr [.bl b] h = .ok (.str s) h := by
  obtain ⟨s, e1, e2⟩ := (pd_bl 20 [] b).repr (by decide) (by decide)
  refine ⟨s, fun h => e2 h ⟨by simp, fun i o _ e => by simp at e⟩⟩
end Ev

set_option maxRecDepth 100000
set_option maxHeartbeats 1000000
namespace Ev
open PySem
variable {tab : Nat → Option Def}
/-! ### what satisfies a system -/
def iOf (xs : List D) (i : Nat) : Int := match xs[i]? with
  | some (.int x) => x
  | _ => 0
def edOk (xs : List D) (e : Bf.Edge) : Bool := decide (iOf xs e.2.1 - iOf xs e.1 ≤ e.2.2)
def satL (n : Nat) (E : List Bf.Edge) (xs : List D) : Bool := decide (xs.length = n) && xs.all isInt && E.all (edOk xs)
def satB (h : Hh) (n : Nat) (E : List Bf.Edge) (v : D) : Bool := match isLst h v with
  | some xs => satL n E xs
  | none => false
def edP (xs : List D) : D → Bool := fun x => match x with
  | .tup [.int u, .int v, .int w] => edOk xs (u.toNat, v.toNat, w)
  | _ => false
theorem edP_ed (xs : List D) (e : Bf.Edge) : edP xs (edD e) = edOk xs e := by
  show edOk xs (((e.1 : Nat) : Int).toNat, ((e.2.1 : Nat) : Int).toNat, e.2.2) = _
  rw [Int.toNat_natCast, Int.toNat_natCast]
theorem all_edP (xs : List D) (E : List Bf.Edge) : (E.map edD).all (edP xs) = E.all (edOk xs) := by
  rw [List.all_map]
  have : edP xs ∘ edD = edOk xs := funext fun e => edP_ed xs e
  rw [this]
theorem item_iOf {h : Hh} {a : Nat} {fz : Bool} {xs : List D} (e : h[a]? = some (.lst fz xs)) (hi : xs.all isInt = true) {u : Nat} (hu : u < xs.length) : getItem (.ref a) (.int (u : Nat)) h = some (.int (iOf xs u)) := by
  rw [item_lst e]
  have ex := List.getElem?_eq_getElem hu
  rw [atD_nat ex]
  have := List.all_eq_true.mp hi _ (List.getElem_mem hu)
  unfold iOf
  rw [ex]
  cases hx : xs[u] with
  | int x => rfl
  | _ => rw [hx] at this; cases this
theorem ty_list {h : Hh} {v : D} (kn : Kn h v) : isTy h v .list = some (isLst h v).isSome := by
  cases v with
  | ref a =>
    rcases kn with ⟨_, _, e⟩ | ⟨_, e⟩ | ⟨_, _, e⟩ <;> (unfold isTy isLst; dsimp only; rw [e] <;> rfl)
  | xn => exact kn.elim
  | _ => rfl
theorem isLst_some {h : Hh} {v : D} {xs : List D} (e : isLst h v = some xs) : ∃ a fz, v = .ref a ∧ h[a]? = some (.lst fz xs) := by
  cases v with
  | ref a =>
    unfold isLst at e
    dsimp only at e
    split at e
    · rename_i eo; cases e; exact ⟨a, _, rfl, eo⟩
    · cases e
  | _ => cases e
theorem isLst_fr {h h' : Hh} {v : D} {M : List Nat} (f : Fr M h h') (n : ∀ a, v = .ref a → a ∉ M) (kn : Kn h v) : isLst h' v = isLst h v := by
  cases v with
  | ref a =>
    have n := n a rfl
    rcases kn with ⟨_, _, e⟩ | ⟨_, e⟩ | ⟨_, _, e⟩ <;> (unfold isLst; dsimp only; rw [e, f.get _ _ n e])
  | _ => rfl
structure DcT4 (tab : Nat → Option Def) : Prop extends DcT3 tab where
  t15 : tab 15 = some d15
def c15r (cf : CF) : ShS := (sSeq (sRet (eBF .all [(eLc (iVal (eAttr 1 (eVar 0))) [2, 3, 4] (tTup [(tName 2), (tName 3), (tName 4)]) (eConst (.bl true)) (eCmp .LtE (eBin .Sub (eItem (eVar 1) (eVar 3)) (eItem (eVar 1) (eVar 2))) (eVar 4)))])) sPass)
theorem c15_eq (cf : CF) : c15 cf = (sSeq (sIf (eOr (eUn .Not (eIsI (eVar 1) .list)) (eOr (eCmp .NotEq (eBF .len [(eVar 1)]) (eAttr 2 (eVar 0))) (eUn .Not (eBF .all [(eLc (iVal (eVar 1)) [5] (tName 5) (eConst (.bl true)) (eCall cf 0 [(eVar 5)]))])))) (sSeq (sRet (eConst (.bl false))) sPass) sPass) (c15r cf)) := rfl
theorem sat_wp (T : DcT4 tab) {k y e n : Nat} {oc : D} {E : List Bf.Edge} {h : Hh} {v : D} (S : Sys h y e oc n E) (kn : Kn h v) (it : ∀ xs, isLst h v = some xs → xs.length ≤ 1000 ∧ ∀ x ∈ xs, Kn h x) (bE : E.length ≤ 1000) (hE : VE E n) {Q : D → Hh → Prop}
    (q : ∀ h', Fr [] h h' → Q (.bl (satB h n E v)) h') : wpR (callN tab (k + 2) 15 [.ref y, v] h) Q := by
  rw [call_at T.t15 rfl]
  show wpR (c15 (callN tab (k + 1)) [some (.ref y), some v, none, none, none, none] h).res Q
  rw [c15_eq]
  have f1 : fget [(2, D.int (n : Nat)), (1, .ref e), (0, oc)] 1 = some (.ref e) := rfl
  have f2 : fget [(2, D.int (n : Nat)), (1, .ref e), (0, oc)] 2 = some (.int (n : Nat)) := rfl
  cases hl : isLst h v with
  | none =>
    have eB : satB h n E v = false := by unfold satB; rw [hl]
    rw [eB] at q
    simp only [wpR_ok, wpR_bind, wpS_stm, wpS_seq, wpS_nx, wpS_rt, wpR_res, wpR_noExc, eConst_ap, eVar_z, eVar_s, eBin_ap, eUn_ap, eAnd_ap, eOr_ap, eIf_ap, eCmp_ap, eChain_ap, eArgs_nil, eArgs_cons, eTup_ap, eLst_wp, eItem_ap, eEnd_none, eEnd_some, toI_int, eSlice_ap, eBF_ap, eCall_ap, eCallK_ap, eIsI_ap, sPass_ap, sExpr_ap, sRet_ap, sRetN_ap, sAsg_ap, sIf_ap, sSeq_ap, tName_ap, tEach_nil, tEach_cons, tTup_ap, tItem_ap, pick_nil, pick_pos, pick_kw, pick_dfl, eAttr_ap, eMth_ap, eMk_ap, tAttr_ap, pF_some, isNon_non, eDicEn_ap, eRev_ap, List.set_cons_zero, List.set_cons_succ, List.length_cons, List.length_nil, truth_bl, truth_non, not_bl, not_non, tst_if, tstS_if, pBl_some, pD_some, add_int, sub_int, neg_int, lt_int, le_int, gt_int, ge_int, eq_int, ne_int, if_true, Bool.not_true, Bool.not_false, Bool.false_eq_true, if_false, and_self, List.getElem?_cons_zero, List.getElem?_cons_succ, Option.getD_some, Option.bind_some, Option.map_some, ty_list kn, hl, Option.isSome_none]
    exact q h (Fr.refl _ _)
  | some xs =>
    obtain ⟨a, fz, rfl, ea⟩ := isLst_some hl
    obtain ⟨i1, i2⟩ := it xs hl
    have eB : satB h n E (.ref a) = satL n E xs := by unfold satB; rw [hl]
    rw [eB] at q
    simp only [wpR_ok, wpR_bind, wpS_stm, wpS_seq, wpS_nx, wpS_rt, wpR_res, wpR_noExc, eConst_ap, eVar_z, eVar_s, eBin_ap, eUn_ap, eAnd_ap, eOr_ap, eIf_ap, eCmp_ap, eChain_ap, eArgs_nil, eArgs_cons, eTup_ap, eLst_wp, eItem_ap, eEnd_none, eEnd_some, toI_int, eSlice_ap, eBF_ap, eCall_ap, eCallK_ap, eIsI_ap, sPass_ap, sExpr_ap, sRet_ap, sRetN_ap, sAsg_ap, sIf_ap, sSeq_ap, tName_ap, tEach_nil, tEach_cons, tTup_ap, tItem_ap, pick_nil, pick_pos, pick_kw, pick_dfl, eAttr_ap, eMth_ap, eMk_ap, tAttr_ap, pF_some, isNon_non, eDicEn_ap, eRev_ap, List.set_cons_zero, List.set_cons_succ, List.length_cons, List.length_nil, truth_bl, truth_non, not_bl, not_non, tst_if, tstS_if, pBl_some, pD_some, add_int, sub_int, neg_int, lt_int, le_int, gt_int, ge_int, eq_int, ne_int, if_true, Bool.not_true, Bool.not_false, Bool.false_eq_true, if_false, and_self, List.getElem?_cons_zero, List.getElem?_cons_succ, Option.getD_some, Option.bind_some, Option.map_some, ty_list kn, hl, Option.isSome_some, len_ref ea, getAttr_ref S.y, f2]
    by_cases hn : xs.length = n
    · have hb : (!(((xs.length : Nat) : Int) == ((n : Nat) : Int))) = false := by rw [hn]; simp
      simp only [hb, wpR_ok, wpR_bind, wpS_stm, wpS_seq, wpS_nx, wpS_rt, wpR_res, wpR_noExc, eConst_ap, eVar_z, eVar_s, eBin_ap, eUn_ap, eAnd_ap, eOr_ap, eIf_ap, eCmp_ap, eChain_ap, eArgs_nil, eArgs_cons, eTup_ap, eLst_wp, eItem_ap, eEnd_none, eEnd_some, toI_int, eSlice_ap, eBF_ap, eCall_ap, eCallK_ap, eIsI_ap, sPass_ap, sExpr_ap, sRet_ap, sRetN_ap, sAsg_ap, sIf_ap, sSeq_ap, tName_ap, tEach_nil, tEach_cons, tTup_ap, tItem_ap, pick_nil, pick_pos, pick_kw, pick_dfl, eAttr_ap, eMth_ap, eMk_ap, tAttr_ap, pF_some, isNon_non, eDicEn_ap, eRev_ap, List.set_cons_zero, List.set_cons_succ, List.length_cons, List.length_nil, truth_bl, truth_non, not_bl, not_non, tst_if, tstS_if, pBl_some, pD_some, add_int, sub_int, neg_int, lt_int, le_int, gt_int, ge_int, eq_int, ne_int, if_true, Bool.not_true, Bool.not_false, Bool.false_eq_true, if_false, and_self, List.getElem?_cons_zero, List.getElem?_cons_succ, Option.getD_some, Option.bind_some, Option.map_some]
      have hall : ∀ Q', (∀ h', Fr [] h h' → Q' (.bl (xs.all isInt)) h') → wpR (eBF .all [(eLc (iVal (eVar 1)) [5] (tName 5) (eConst (.bl true)) (eCall (callN tab (k + 1)) 0 [(eVar 5)]))] [some (.ref y), some (.ref a), none, none, none, none] h) Q' := fun Q' q' => by
        refine all_wp isInt (iVal_lst rfl ea) (stands_some ea) (by rw [lmE]; omega) (fun x hx => ⟨[some (.ref y), some (.ref a), none, none, none, some x], rfl, ?_⟩) q'
        simp only [eCall_ap, eArgs_cons, eArgs_nil, eVar_z, eVar_s, Res.bind_ok, isint_call T.toDcT (i2 x hx)]
      simp only [wpR_ok, wpR_bind, wpS_stm, wpS_seq, wpS_nx, wpS_rt, wpR_res, wpR_noExc, eConst_ap, eVar_z, eVar_s, eBin_ap, eUn_ap, eAnd_ap, eOr_ap, eIf_ap, eCmp_ap, eChain_ap, eArgs_nil, eArgs_cons, eTup_ap, eLst_wp, eItem_ap, eEnd_none, eEnd_some, toI_int, eSlice_ap, eBF_ap, eCall_ap, eCallK_ap, eIsI_ap, sPass_ap, sExpr_ap, sRet_ap, sRetN_ap, sAsg_ap, sIf_ap, sSeq_ap, tName_ap, tEach_nil, tEach_cons, tTup_ap, tItem_ap, pick_nil, pick_pos, pick_kw, pick_dfl, eAttr_ap, eMth_ap, eMk_ap, tAttr_ap, pF_some, isNon_non, eDicEn_ap, eRev_ap, List.set_cons_zero, List.set_cons_succ, List.length_cons, List.length_nil, truth_bl, truth_non, not_bl, not_non, tst_if, tstS_if, pBl_some, pD_some, add_int, sub_int, neg_int, lt_int, le_int, gt_int, ge_int, eq_int, ne_int, if_true, Bool.not_true, Bool.not_false, Bool.false_eq_true, if_false, and_self, List.getElem?_cons_zero, List.getElem?_cons_succ, Option.getD_some, Option.bind_some, Option.map_some] at hall
      refine hall _ fun h' fr => ?_
      simp only [wpR_ok, wpR_bind, wpS_stm, wpS_seq, wpS_nx, wpS_rt, wpR_res, wpR_noExc, eConst_ap, eVar_z, eVar_s, eBin_ap, eUn_ap, eAnd_ap, eOr_ap, eIf_ap, eCmp_ap, eChain_ap, eArgs_nil, eArgs_cons, eTup_ap, eLst_wp, eItem_ap, eEnd_none, eEnd_some, toI_int, eSlice_ap, eBF_ap, eCall_ap, eCallK_ap, eIsI_ap, sPass_ap, sExpr_ap, sRet_ap, sRetN_ap, sAsg_ap, sIf_ap, sSeq_ap, tName_ap, tEach_nil, tEach_cons, tTup_ap, tItem_ap, pick_nil, pick_pos, pick_kw, pick_dfl, eAttr_ap, eMth_ap, eMk_ap, tAttr_ap, pF_some, isNon_non, eDicEn_ap, eRev_ap, List.set_cons_zero, List.set_cons_succ, List.length_cons, List.length_nil, truth_bl, truth_non, not_bl, not_non, tst_if, tstS_if, pBl_some, pD_some, add_int, sub_int, neg_int, lt_int, le_int, gt_int, ge_int, eq_int, ne_int, if_true, Bool.not_true, Bool.not_false, Bool.false_eq_true, if_false, and_self, List.getElem?_cons_zero, List.getElem?_cons_succ, Option.getD_some, Option.bind_some, Option.map_some]
      cases hi : xs.all isInt with
      | false =>
        have : satL n E xs = false := by unfold satL; rw [hi]; simp
        rw [this] at q
        simp only [wpR_ok, wpR_bind, wpS_stm, wpS_seq, wpS_nx, wpS_rt, wpR_res, wpR_noExc, eConst_ap, eVar_z, eVar_s, eBin_ap, eUn_ap, eAnd_ap, eOr_ap, eIf_ap, eCmp_ap, eChain_ap, eArgs_nil, eArgs_cons, eTup_ap, eLst_wp, eItem_ap, eEnd_none, eEnd_some, toI_int, eSlice_ap, eBF_ap, eCall_ap, eCallK_ap, eIsI_ap, sPass_ap, sExpr_ap, sRet_ap, sRetN_ap, sAsg_ap, sIf_ap, sSeq_ap, tName_ap, tEach_nil, tEach_cons, tTup_ap, tItem_ap, pick_nil, pick_pos, pick_kw, pick_dfl, eAttr_ap, eMth_ap, eMk_ap, tAttr_ap, pF_some, isNon_non, eDicEn_ap, eRev_ap, List.set_cons_zero, List.set_cons_succ, List.length_cons, List.length_nil, truth_bl, truth_non, not_bl, not_non, tst_if, tstS_if, pBl_some, pD_some, add_int, sub_int, neg_int, lt_int, le_int, gt_int, ge_int, eq_int, ne_int, if_true, Bool.not_true, Bool.not_false, Bool.false_eq_true, if_false, and_self, List.getElem?_cons_zero, List.getElem?_cons_succ, Option.getD_some, Option.bind_some, Option.map_some]
        exact q h' fr
      | true =>
        have eL : satL n E xs = E.all (edOk xs) := by unfold satL; rw [hi, decide_eq_true hn]; simp
        rw [eL] at q
        have ea' := fr.get _ _ (by simp) ea
        have S' := S.fr0 fr
        simp only [wpR_ok, wpR_bind, wpS_stm, wpS_seq, wpS_nx, wpS_rt, wpR_res, wpR_noExc, eConst_ap, eVar_z, eVar_s, eBin_ap, eUn_ap, eAnd_ap, eOr_ap, eIf_ap, eCmp_ap, eChain_ap, eArgs_nil, eArgs_cons, eTup_ap, eLst_wp, eItem_ap, eEnd_none, eEnd_some, toI_int, eSlice_ap, eBF_ap, eCall_ap, eCallK_ap, eIsI_ap, sPass_ap, sExpr_ap, sRet_ap, sRetN_ap, sAsg_ap, sIf_ap, sSeq_ap, tName_ap, tEach_nil, tEach_cons, tTup_ap, tItem_ap, pick_nil, pick_pos, pick_kw, pick_dfl, eAttr_ap, eMth_ap, eMk_ap, tAttr_ap, pF_some, isNon_non, eDicEn_ap, eRev_ap, List.set_cons_zero, List.set_cons_succ, List.length_cons, List.length_nil, truth_bl, truth_non, not_bl, not_non, tst_if, tstS_if, pBl_some, pD_some, add_int, sub_int, neg_int, lt_int, le_int, gt_int, ge_int, eq_int, ne_int, if_true, Bool.not_true, Bool.not_false, Bool.false_eq_true, if_false, and_self, List.getElem?_cons_zero, List.getElem?_cons_succ, Option.getD_some, Option.bind_some, Option.map_some]
        unfold c15r
        have hall2 : ∀ Q', (∀ h'', Fr [] h' h'' → Q' (.bl ((E.map edD).all (edP xs))) h'') → wpR (eBF .all [(eLc (iVal (eAttr 1 (eVar 0))) [2, 3, 4] (tTup [(tName 2), (tName 3), (tName 4)]) (eConst (.bl true)) (eCmp .LtE (eBin .Sub (eItem (eVar 1) (eVar 3)) (eItem (eVar 1) (eVar 2))) (eVar 4)))] [some (.ref y), some (.ref a), none, none, none, none] h') Q' := fun Q' q' => by
          refine all_wp (edP xs) (iVal_lst (by simp only [eAttr_ap, eVar_z, Res.bind_ok, getAttr_ref S'.y, f1, pD_some]) S'.e) (stands_some S'.e) (by rw [List.length_map, lmE]; omega) (fun x hx => ?_) q'
          obtain ⟨ed, hm, rfl⟩ := List.mem_map.mp hx
          have hv := hE ed hm
          refine ⟨[some (.ref y), some (.ref a), some (.int (ed.1 : Nat)), some (.int (ed.2.1 : Nat)), some (.int ed.2.2), none], rfl, ?_⟩
          simp only [eCmp_ap, eBin_ap, eItem_ap, eVar_z, eVar_s, Res.bind_ok, item_iOf ea' hi (show ed.2.1 < xs.length by omega), item_iOf ea' hi (show ed.1 < xs.length by omega), pD_some, sub_int, le_int, pBl_some, edP_ed]
          rfl
        rw [all_edP] at hall2
        simp only [sSeq_ap, sRet_ap, wpS_seq, wpS_stm]
        refine hall2 _ fun h'' fr2 => ?_
        simp only [wpR_ok, wpR_bind, wpS_stm, wpS_seq, wpS_nx, wpS_rt, wpR_res, wpR_noExc, eConst_ap, eVar_z, eVar_s, eBin_ap, eUn_ap, eAnd_ap, eOr_ap, eIf_ap, eCmp_ap, eChain_ap, eArgs_nil, eArgs_cons, eTup_ap, eLst_wp, eItem_ap, eEnd_none, eEnd_some, toI_int, eSlice_ap, eBF_ap, eCall_ap, eCallK_ap, eIsI_ap, sPass_ap, sExpr_ap, sRet_ap, sRetN_ap, sAsg_ap, sIf_ap, sSeq_ap, tName_ap, tEach_nil, tEach_cons, tTup_ap, tItem_ap, pick_nil, pick_pos, pick_kw, pick_dfl, eAttr_ap, eMth_ap, eMk_ap, tAttr_ap, pF_some, isNon_non, eDicEn_ap, eRev_ap, List.set_cons_zero, List.set_cons_succ, List.length_cons, List.length_nil, truth_bl, truth_non, not_bl, not_non, tst_if, tstS_if, pBl_some, pD_some, add_int, sub_int, neg_int, lt_int, le_int, gt_int, ge_int, eq_int, ne_int, if_true, Bool.not_true, Bool.not_false, Bool.false_eq_true, if_false, and_self, List.getElem?_cons_zero, List.getElem?_cons_succ, Option.getD_some, Option.bind_some, Option.map_some]
        exact q h'' (fr.trans fr2)
    · have hb : (!(((xs.length : Nat) : Int) == ((n : Nat) : Int))) = true := by
        have : ¬ ((xs.length : Nat) : Int) = ((n : Nat) : Int) := by omega
        simp [this]
      have : satL n E xs = false := by unfold satL; rw [decide_eq_false hn]; simp
      rw [this] at q
      simp only [hb, wpR_ok, wpR_bind, wpS_stm, wpS_seq, wpS_nx, wpS_rt, wpR_res, wpR_noExc, eConst_ap, eVar_z, eVar_s, eBin_ap, eUn_ap, eAnd_ap, eOr_ap, eIf_ap, eCmp_ap, eChain_ap, eArgs_nil, eArgs_cons, eTup_ap, eLst_wp, eItem_ap, eEnd_none, eEnd_some, toI_int, eSlice_ap, eBF_ap, eCall_ap, eCallK_ap, eIsI_ap, sPass_ap, sExpr_ap, sRet_ap, sRetN_ap, sAsg_ap, sIf_ap, sSeq_ap, tName_ap, tEach_nil, tEach_cons, tTup_ap, tItem_ap, pick_nil, pick_pos, pick_kw, pick_dfl, eAttr_ap, eMth_ap, eMk_ap, tAttr_ap, pF_some, isNon_non, eDicEn_ap, eRev_ap, List.set_cons_zero, List.set_cons_succ, List.length_cons, List.length_nil, truth_bl, truth_non, not_bl, not_non, tst_if, tstS_if, pBl_some, pD_some, add_int, sub_int, neg_int, lt_int, le_int, gt_int, ge_int, eq_int, ne_int, if_true, Bool.not_true, Bool.not_false, Bool.false_eq_true, if_false, and_self, List.getElem?_cons_zero, List.getElem?_cons_succ, Option.getD_some, Option.bind_some, Option.map_some]
      exact q h (Fr.refl _ _)
/-! ### values asked of -/
structure Gv (h : Hh) (v : D) : Prop where
  kn : Kn h v
  it : ∀ xs, isLst h v = some xs → xs.length ≤ 1000 ∧ ∀ x ∈ xs, Kn h x
  pd : ∃ p B, Pd 20 h v p B ∧ p ≤ 20 ∧ B ≤ lim
theorem Gv.fr {h h' : Hh} {v : D} (g : Gv h v) (f : Fr [] h h') : Gv h' v := by
  refine ⟨g.kn.fr f fun _ _ => by simp, fun xs e => ?_, ?_⟩
  · rw [isLst_fr f (fun _ _ => by simp) g.kn] at e
    obtain ⟨h1, h2⟩ := g.it xs e
    exact ⟨h1, fun x hx => (h2 x hx).fr f fun _ _ => by simp⟩
  · obtain ⟨p, B, q, h1, h2⟩ := g.pd
    exact ⟨p, B, q.fr f, h1, h2⟩
theorem satB_fr {h h' : Hh} {n : Nat} {E : List Bf.Edge} {v : D} (f : Fr [] h h') (kn : Kn h v) : satB h' n E v = satB h n E v := by
  unfold satB
  rw [isLst_fr f (fun _ _ => by simp) kn]
end Ev

set_option maxRecDepth 100000
set_option maxHeartbeats 1000000
namespace Ev
open PySem
variable {tab : Nat → Option Def}
theorem append_wp {o arg : Sh} {σ : Env} {h : Hh} {a : Nat} {xs : List D} {Q : D → Hh → Prop} (ho : o σ h = .ok (.ref a) h) (ea : h[a]? = some (.lst false xs))
    (hq : wpR (arg σ h) fun x h1 => ∃ ys, h1[a]? = some (.lst false ys) ∧ ys.length < lim ∧ Q .non (h1.set a (.lst false (ys ++ [x])))) : wpR (eBM .append o [arg] σ h) Q := by
  have k : kdOf h (.ref a) = some .lst := by unfold kdOf; dsimp only; rw [ea]
  unfold eBM
  rw [ho, Res.bind_ok, k]
  show wpR (if bmK .lst .append then (eArgs [arg] σ h).bind fun xs h2 => if kdOf h2 (.ref a) = some .lst then bmeth .append (.ref a) xs h2 else .bad else .bad) Q
  have b1 : bmK .lst .append = true := rfl
  rw [if_pos b1]
  simp only [eArgs_cons, eArgs_nil, Res.bind_assoc, wpR_bind, Res.bind_ok]
  refine wpR_mono hq fun x h1 ⟨ys, e1, e2, e3⟩ => ?_
  have k1 : kdOf h1 (.ref a) = some .lst := by unfold kdOf; dsimp only; rw [e1]
  show wpR (if kdOf h1 (.ref a) = some .lst then bmeth .append (.ref a) [x] h1 else .bad) Q
  rw [if_pos k1]
  have : bmeth .append (.ref a) [x] h1 = .ok .non (h1.set a (.lst false (ys ++ [x]))) := by
    unfold bmeth
    dsimp only
    rw [e1]
    exact if_pos ⟨rfl, e2⟩
  rw [this]
  exact e3
theorem ncyc_wp (T : DcT2 tab) {k y e n : Nat} {oc : D} {E : List Bf.Edge} {h : Hh} (S : Sys h y e oc n E) {Q : D → Hh → Prop} (q0 : oc = .non → Q .non h)
    (q1 : ∀ v c xs, (Bf.relax E n (zst n)).c = some v → oc = .ref c → CycOf E (Bf.relax E n (zst n)).l n v xs → ∀ b h', h'[b]? = some (.lst false (xs.map natD)) → Fr [] h h' → h.length ≤ b → Q (.ref b) h') : wpR (callN tab (k + 1) 6 [.ref y] h) Q := by
  rw [call_at T.t6 rfl]
  show wpR (c6 (callN tab k) [some (.ref y)] h).res Q
  unfold c6
  have f0 : fget [(2, D.int (n : Nat)), (1, .ref e), (0, oc)] 0 = some oc := rfl
  rcases S.c with ⟨a, rfl⟩ | ⟨v, c, xs, a, rfl, ec, d⟩
  · have d0 : decide (D.non = D.non) = true := rfl
    simp only [wpR_ok, wpR_bind, wpS_stm, wpS_seq, wpS_nx, wpS_rt, wpR_res, wpR_noExc, eConst_ap, eVar_z, eVar_s, eBin_ap, eUn_ap, eAnd_ap, eOr_ap, eIf_ap, eCmp_ap, eChain_ap, eArgs_nil, eArgs_cons, eTup_ap, eLst_wp, eItem_ap, eEnd_none, eEnd_some, toI_int, eSlice_ap, eBF_ap, eCall_ap, eCallK_ap, eIsI_ap, sPass_ap, sExpr_ap, sRet_ap, sRetN_ap, sAsg_ap, sIf_ap, sSeq_ap, tName_ap, tEach_nil, tEach_cons, tTup_ap, tItem_ap, pick_nil, pick_pos, pick_kw, pick_dfl, eAttr_ap, eMth_ap, eMk_ap, tAttr_ap, pF_some, isNon_non, eDicEn_ap, eRev_ap, List.set_cons_zero, List.set_cons_succ, List.length_cons, List.length_nil, truth_bl, truth_non, not_bl, not_non, tst_if, tstS_if, pBl_some, pD_some, add_int, sub_int, neg_int, lt_int, le_int, gt_int, ge_int, eq_int, ne_int, if_true, Bool.not_true, Bool.not_false, Bool.false_eq_true, if_false, and_self, List.getElem?_cons_zero, List.getElem?_cons_succ, Option.getD_some, Option.bind_some, Option.map_some, getAttr_ref S.y, f0, is_non, d0]
    exact q0 rfl
  · have d0 : decide (D.ref c = D.non) = false := rfl
    simp only [wpR_ok, wpR_bind, wpS_stm, wpS_seq, wpS_nx, wpS_rt, wpR_res, wpR_noExc, eConst_ap, eVar_z, eVar_s, eBin_ap, eUn_ap, eAnd_ap, eOr_ap, eIf_ap, eCmp_ap, eChain_ap, eArgs_nil, eArgs_cons, eTup_ap, eLst_wp, eItem_ap, eEnd_none, eEnd_some, toI_int, eSlice_ap, eBF_ap, eCall_ap, eCallK_ap, eIsI_ap, sPass_ap, sExpr_ap, sRet_ap, sRetN_ap, sAsg_ap, sIf_ap, sSeq_ap, tName_ap, tEach_nil, tEach_cons, tTup_ap, tItem_ap, pick_nil, pick_pos, pick_kw, pick_dfl, eAttr_ap, eMth_ap, eMk_ap, tAttr_ap, pF_some, isNon_non, eDicEn_ap, eRev_ap, List.set_cons_zero, List.set_cons_succ, List.length_cons, List.length_nil, truth_bl, truth_non, not_bl, not_non, tst_if, tstS_if, pBl_some, pD_some, add_int, sub_int, neg_int, lt_int, le_int, gt_int, ge_int, eq_int, ne_int, if_true, Bool.not_true, Bool.not_false, Bool.false_eq_true, if_false, and_self, List.getElem?_cons_zero, List.getElem?_cons_succ, Option.getD_some, Option.bind_some, Option.map_some, getAttr_ref S.y, f0, is_non, d0, list_ref ec]
    exact alloc_wp fun b h1 eb fr lb => q1 v c xs a rfl d b h1 eb fr lb
/-! ### bounds of a solution -/
theorem Bnd.mono {d : Nat → Option Int} {K K' : Int} (h : Bf.Bnd d K) (hk : K ≤ K') : Bf.Bnd d K' := fun v y hy => by have := h v y hy; omega
theorem maxI_bnd {K : Int} : ∀ l : List Int, l ≠ [] → (∀ x ∈ l, -K ≤ x ∧ x ≤ K) → -K ≤ maxI l ∧ maxI l ≤ K
  | [a], _, h => h a (by simp)
  | a :: b :: r, _, h => by
    have ih := maxI_bnd (b :: r) (by simp) fun x hx => h x (List.mem_cons_of_mem _ hx)
    have ha := h a (by simp)
    show -K ≤ max a (maxI (b :: r)) ∧ max a (maxI (b :: r)) ≤ K
    omega
theorem mul_le {n m : Nat} {N M : Nat} {B : Int} (hB : 0 ≤ B) (hn : n ≤ N) (hm : m ≤ M) : (n : Int) * ((m : Int) * B) ≤ (N : Int) * ((M : Int) * B) := by
  have h1 : (m : Int) * B ≤ (M : Int) * B := Int.mul_le_mul_of_nonneg_right (by omega) hB
  have h2 : 0 ≤ (m : Int) * B := Int.mul_nonneg (by omega) hB
  have h3 : (n : Int) * ((m : Int) * B) ≤ (N : Int) * ((m : Int) * B) := Int.mul_le_mul_of_nonneg_right (by omega) h2
  have h4 : (N : Int) * ((m : Int) * B) ≤ (N : Int) * ((M : Int) * B) := Int.mul_le_mul_of_nonneg_left h1 (by omega)
  exact Int.le_trans h3 h4
theorem sst_bnd (s : Nat) : Bf.Bnd (sst s).d 0 := fun v y hy => by
  have hy : Bf.put (fun _ => none) s (0 : Int) v = some y := hy
  unfold Bf.put at hy
  split at hy
  · cases hy; exact ⟨by decide, by decide⟩
  · cases hy
theorem zer_bnd (n : Nat) (p : Nat → Bool) : Bf.Bnd (zer n p) 0 := fun v y hy => by
  unfold zer at hy
  split at hy
  · cases hy; exact ⟨by decide, by decide⟩
  · cases hy
theorem sol_bnd {E : List Bf.Edge} {n s N M : Nat} {B : Int} (hB : 0 ≤ B) (hE : ∀ e ∈ E, -B ≤ e.2.2 ∧ e.2.2 ≤ B) (hn : n ≤ N) (hm : E.length ≤ M) (t : Nat) : -(3 * ((N : Int) * ((M : Int) * B)) + B) ≤ solN E n s t ∧ solN E n s t ≤ 3 * ((N : Int) * ((M : Int) * B)) + B := by
  have hI : ∀ e ∈ inE E n s, -B ≤ e.2.2 ∧ e.2.2 ≤ B := fun e he => hE e (List.mem_filter.mp (List.mem_filter.mp he).1).1
  have lI : (inE E n s).length ≤ M := Nat.le_trans (List.length_filter_le ..) (Nat.le_trans (List.length_filter_le ..) hm)
  have b1 : Bf.Bnd (dist1 E n s) ((N : Int) * ((M : Int) * B)) := Bnd.mono (Bf.relax_bnd hB hE n _ _ (sst_bnd s)) (by rw [Int.zero_add]; exact mul_le hB hn hm)
  have b2 : Bf.Bnd (dist2 E n s) ((N : Int) * ((M : Int) * B)) := Bnd.mono (Bf.relax_bnd hB hI n ⟨zer n (fun v => (dist1 E n s v).isNone), fun _ => none, none⟩ _ (zer_bnd n _)) (by rw [Int.zero_add]; exact mul_le hB hn lI)
  have p0 : 0 ≤ (N : Int) * ((M : Int) * B) := Int.mul_nonneg (by omega) (Int.mul_nonneg (by omega) hB)
  generalize (N : Int) * ((M : Int) * B) = K at *
  have g2 : ∀ v, -K ≤ (dist2 E n s v).getD 0 ∧ (dist2 E n s v).getD 0 ≤ K := fun v => by
    cases hd : dist2 E n s v with
    | none => exact ⟨by show -K ≤ 0; omega, by show 0 ≤ K; omega⟩
    | some x => exact b2 v x hd
  have bs : -(2 * K + B) ≤ shiftN E n s ∧ shiftN E n s ≤ 2 * K + B := by
    refine maxI_bnd _ (by simp) fun x hx => ?_
    rcases List.mem_cons.mp hx with rfl | hx
    · omega
    · obtain ⟨e, he, hx⟩ := List.mem_filterMap.mp hx
      have hw := hE e (List.mem_filter.mp he).1
      have := g2 e.1
      unfold gapF at hx
      cases hd : dist1 E n s e.2.1 with
      | none => rw [hd] at hx; cases hx
      | some z =>
        rw [hd] at hx
        have := b1 _ z hd
        cases hx
        omega
  unfold solN
  cases hd : dist1 E n s t with
  | some x => have := b1 t x hd; dsimp only; omega
  | none => have := g2 t; dsimp only; omega
end Ev

set_option maxRecDepth 100000
set_option maxHeartbeats 1000000
namespace Ev
open PySem
variable {tab : Nat → Option Def}
def optD : Option Int → D
  | none => .non
  | some x => .int x
theorem get_wp {A : Type} {g : A → D} {o arg : Sh} {σ : Env} {h : Hh} {Q : D → Hh → Prop} (hq : wpR (o σ h) fun x h1 => ∃ (a : Nat) (kvs : List (D × D)) (f : Nat → Option A) (v : Nat), x = .ref a ∧ h1[a]? = some (.dic false kvs) ∧ MapD g kvs f ∧ arg σ h1 = .ok (.int (v : Nat)) h1 ∧ Q (((f v).map g).getD .non) h1) :
    wpR (eBM .get o [arg] σ h) Q := by
  unfold eBM
  rw [wpR_bind]
  refine wpR_mono hq fun x h1 ⟨a, kvs, f, v, ex, ea, md, e1, q⟩ => ?_
  subst ex
  have k : kdOf h1 (.ref a) = some .dic := by unfold kdOf; dsimp only; rw [ea]
  rw [k]
  show wpR (if bmK .dic .get then (eArgs [arg] σ h1).bind fun xs h2 => if kdOf h2 (.ref a) = some .dic then bmeth .get (.ref a) xs h2 else .bad else .bad) Q
  have b1 : bmK .dic .get = true := rfl
  rw [if_pos b1]
  simp only [eArgs_cons, eArgs_nil, e1, Res.bind_ok]
  rw [if_pos k]
  have : bmeth .get (.ref a) [.int (v : Nat)] h1 = .ok ((dget kvs (.int (v : Nat))).getD .non) h1 := by
    unfold bmeth
    dsimp only
    rw [ea]
    exact if_pos (md.ok v)
  rw [this, md.at_ v]
  exact q
structure DcT5 (tab : Nat → Option Def) : Prop extends DcT2 tab where
  t4 : tab 4 = some d4
  t5 : tab 5 = some d5
theorem count_wp (T : DcT5 tab) {k y e n : Nat} {oc : D} {E : List Bf.Edge} {h : Hh} (S : Sys h y e oc n E) {Q : D → Hh → Prop} (q : Q (.int (n : Nat)) h) : wpR (callN tab (k + 1) 4 [.ref y] h) Q := by
  rw [call_at T.t4 rfl]
  show wpR (c4 (callN tab k) [some (.ref y)] h).res Q
  unfold c4
  have f2 : fget [(2, D.int (n : Nat)), (1, .ref e), (0, oc)] 2 = some (.int (n : Nat)) := rfl
  simp only [wpR_ok, wpR_bind, wpS_stm, wpS_seq, wpS_nx, wpS_rt, wpR_res, wpR_noExc, eConst_ap, eVar_z, eVar_s, eBin_ap, eUn_ap, eAnd_ap, eOr_ap, eIf_ap, eCmp_ap, eChain_ap, eArgs_nil, eArgs_cons, eTup_ap, eLst_wp, eItem_ap, eEnd_none, eEnd_some, toI_int, eSlice_ap, eBF_ap, eCall_ap, eCallK_ap, eIsI_ap, sPass_ap, sExpr_ap, sRet_ap, sRetN_ap, sAsg_ap, sIf_ap, sSeq_ap, tName_ap, tEach_nil, tEach_cons, tTup_ap, tItem_ap, pick_nil, pick_pos, pick_kw, pick_dfl, eAttr_ap, eMth_ap, eMk_ap, tAttr_ap, pF_some, isNon_non, eDicEn_ap, eRev_ap, List.set_cons_zero, List.set_cons_succ, List.length_cons, List.length_nil, truth_bl, truth_non, not_bl, not_non, tst_if, tstS_if, pBl_some, pD_some, add_int, sub_int, neg_int, lt_int, le_int, gt_int, ge_int, eq_int, ne_int, if_true, Bool.not_true, Bool.not_false, Bool.false_eq_true, if_false, and_self, List.getElem?_cons_zero, List.getElem?_cons_succ, Option.getD_some, Option.bind_some, Option.map_some, getAttr_ref S.y, f2]
  exact q
theorem cons_wp (T : DcT5 tab) {k y e n : Nat} {oc : D} {E : List Bf.Edge} {h : Hh} (S : Sys h y e oc n E) {Q : D → Hh → Prop} (q : ∀ b h', h'[b]? = some (.lst false (E.map edD)) → Fr [] h h' → h.length ≤ b → Q (.ref b) h') : wpR (callN tab (k + 1) 5 [.ref y] h) Q := by
  rw [call_at T.t5 rfl]
  show wpR (c5 (callN tab k) [some (.ref y)] h).res Q
  unfold c5
  have f1 : fget [(2, D.int (n : Nat)), (1, .ref e), (0, oc)] 1 = some (.ref e) := rfl
  simp only [wpR_ok, wpR_bind, wpS_stm, wpS_seq, wpS_nx, wpS_rt, wpR_res, wpR_noExc, eConst_ap, eVar_z, eVar_s, eBin_ap, eUn_ap, eAnd_ap, eOr_ap, eIf_ap, eCmp_ap, eChain_ap, eArgs_nil, eArgs_cons, eTup_ap, eLst_wp, eItem_ap, eEnd_none, eEnd_some, toI_int, eSlice_ap, eBF_ap, eCall_ap, eCallK_ap, eIsI_ap, sPass_ap, sExpr_ap, sRet_ap, sRetN_ap, sAsg_ap, sIf_ap, sSeq_ap, tName_ap, tEach_nil, tEach_cons, tTup_ap, tItem_ap, pick_nil, pick_pos, pick_kw, pick_dfl, eAttr_ap, eMth_ap, eMk_ap, tAttr_ap, pF_some, isNon_non, eDicEn_ap, eRev_ap, List.set_cons_zero, List.set_cons_succ, List.length_cons, List.length_nil, truth_bl, truth_non, not_bl, not_non, tst_if, tstS_if, pBl_some, pD_some, add_int, sub_int, neg_int, lt_int, le_int, gt_int, ge_int, eq_int, ne_int, if_true, Bool.not_true, Bool.not_false, Bool.false_eq_true, if_false, and_self, List.getElem?_cons_zero, List.getElem?_cons_succ, Option.getD_some, Option.bind_some, Option.map_some, getAttr_ref S.y, f1, list_ref S.e]
  exact alloc_wp fun b h1 eb fr lb => q b h1 eb fr lb
theorem ub_wp (T : DcT2 tab) (t11 : tab 11 = some d11) {k y e n s t : Nat} {E : List Bf.Edge} {h : Hh} (S : Sys h y e .non n E) (hs : s < n) (ht : t < n) (bn : n ≤ 100) (bE : E.length ≤ 1000) {Q : D → Hh → Prop}
    (q : ∀ h', Fr [] h h' → Q (optD (dist1 E n s t)) h') : wpR (callN tab (k + 3) 11 [.ref y, .int (s : Nat), .int (t : Nat)] h) Q := by
  rw [call_at t11 rfl]
  show wpR (c11 (callN tab (k + 2)) [some (.ref y), some (.int (s : Nat)), some (.int (t : Nat))] h).res Q
  unfold c11
  have f10 : fget [(2, D.int (n : Nat)), (1, .ref e), (0, .non)] 10 = none := rfl
  have f4 : fget [(2, D.int (n : Nat)), (1, .ref e), (0, .non)] 4 = none := rfl
  simp only [wpR_ok, wpR_bind, wpS_stm, wpS_seq, wpS_nx, wpS_rt, wpR_res, wpR_noExc, eConst_ap, eVar_z, eVar_s, eBin_ap, eUn_ap, eAnd_ap, eOr_ap, eIf_ap, eCmp_ap, eChain_ap, eArgs_nil, eArgs_cons, eTup_ap, eLst_wp, eItem_ap, eEnd_none, eEnd_some, toI_int, eSlice_ap, eBF_ap, eCall_ap, eCallK_ap, eIsI_ap, sPass_ap, sExpr_ap, sRet_ap, sRetN_ap, sAsg_ap, sIf_ap, sSeq_ap, tName_ap, tEach_nil, tEach_cons, tTup_ap, tItem_ap, pick_nil, pick_pos, pick_kw, pick_dfl, eAttr_ap, eMth_ap, eMk_ap, tAttr_ap, pF_some, isNon_non, eDicEn_ap, eRev_ap, List.set_cons_zero, List.set_cons_succ, List.length_cons, List.length_nil, truth_bl, truth_non, not_bl, not_non, tst_if, tstS_if, pBl_some, pD_some, add_int, sub_int, neg_int, lt_int, le_int, gt_int, ge_int, eq_int, ne_int, if_true, Bool.not_true, Bool.not_false, Bool.false_eq_true, if_false, and_self, List.getElem?_cons_zero, List.getElem?_cons_succ, Option.getD_some, Option.bind_some, Option.map_some, mcls_ref S.y f10, mt10]
  refine alloc_wp fun a h1 ea fr1 la => ?_
  have S1 := S.fr0 fr1
  refine req_wp T (vs := [s, t]) S1 ea (fun v hv => by simp at hv; omega) ?_
  refine get_wp (g := D.int) ?_
  simp only [wpR_ok, wpR_bind, wpS_stm, wpS_seq, wpS_nx, wpS_rt, wpR_res, wpR_noExc, eConst_ap, eVar_z, eVar_s, eBin_ap, eUn_ap, eAnd_ap, eOr_ap, eIf_ap, eCmp_ap, eChain_ap, eArgs_nil, eArgs_cons, eTup_ap, eLst_wp, eItem_ap, eEnd_none, eEnd_some, toI_int, eSlice_ap, eBF_ap, eCall_ap, eCallK_ap, eIsI_ap, sPass_ap, sExpr_ap, sRet_ap, sRetN_ap, sAsg_ap, sIf_ap, sSeq_ap, tName_ap, tEach_nil, tEach_cons, tTup_ap, tItem_ap, pick_nil, pick_pos, pick_kw, pick_dfl, eAttr_ap, eMth_ap, eMk_ap, tAttr_ap, pF_some, isNon_non, eDicEn_ap, eRev_ap, List.set_cons_zero, List.set_cons_succ, List.length_cons, List.length_nil, truth_bl, truth_non, not_bl, not_non, tst_if, tstS_if, pBl_some, pD_some, add_int, sub_int, neg_int, lt_int, le_int, gt_int, ge_int, eq_int, ne_int, if_true, Bool.not_true, Bool.not_false, Bool.false_eq_true, if_false, and_self, List.getElem?_cons_zero, List.getElem?_cons_succ, Option.getD_some, Option.bind_some, Option.map_some, mcls_ref S1.y f4, mt4]
  refine dist_wp T S1 bn bE fun dd kvs h2 hd md fr2 ld bk => ?_
  refine ⟨dd, kvs, dist1 E n s, t, rfl, hd, md, rfl, ?_⟩
  have : ((dist1 E n s t).map D.int).getD .non = optD (dist1 E n s t) := by cases dist1 E n s t <;> rfl
  rw [this]
  exact q h2 (fr1.trans fr2)
theorem lo_wp (T : DcT2 tab) (t12 : tab 12 = some d12) {k y e n s t : Nat} {E : List Bf.Edge} {h : Hh} (S : Sys h y e .non n E) (hs : s < n) (ht : t < n) (bn : n ≤ 100) (bE : E.length ≤ 1000) {Q : D → Hh → Prop}
    (q : ∀ h', Fr [] h h' → Q (optD ((dist1 E n t s).map (- ·))) h') : wpR (callN tab (k + 3) 12 [.ref y, .int (s : Nat), .int (t : Nat)] h) Q := by
  rw [call_at t12 rfl]
  show wpR (c12 (callN tab (k + 2)) [some (.ref y), some (.int (s : Nat)), some (.int (t : Nat)), none] h).res Q
  unfold c12
  have f10 : fget [(2, D.int (n : Nat)), (1, .ref e), (0, .non)] 10 = none := rfl
  have f4 : fget [(2, D.int (n : Nat)), (1, .ref e), (0, .non)] 4 = none := rfl
  simp only [wpR_ok, wpR_bind, wpS_stm, wpS_seq, wpS_nx, wpS_rt, wpR_res, wpR_noExc, eConst_ap, eVar_z, eVar_s, eBin_ap, eUn_ap, eAnd_ap, eOr_ap, eIf_ap, eCmp_ap, eChain_ap, eArgs_nil, eArgs_cons, eTup_ap, eLst_wp, eItem_ap, eEnd_none, eEnd_some, toI_int, eSlice_ap, eBF_ap, eCall_ap, eCallK_ap, eIsI_ap, sPass_ap, sExpr_ap, sRet_ap, sRetN_ap, sAsg_ap, sIf_ap, sSeq_ap, tName_ap, tEach_nil, tEach_cons, tTup_ap, tItem_ap, pick_nil, pick_pos, pick_kw, pick_dfl, eAttr_ap, eMth_ap, eMk_ap, tAttr_ap, pF_some, isNon_non, eDicEn_ap, eRev_ap, List.set_cons_zero, List.set_cons_succ, List.length_cons, List.length_nil, truth_bl, truth_non, not_bl, not_non, tst_if, tstS_if, pBl_some, pD_some, add_int, sub_int, neg_int, lt_int, le_int, gt_int, ge_int, eq_int, ne_int, if_true, Bool.not_true, Bool.not_false, Bool.false_eq_true, if_false, and_self, List.getElem?_cons_zero, List.getElem?_cons_succ, Option.getD_some, Option.bind_some, Option.map_some, mcls_ref S.y f10, mt10]
  refine alloc_wp fun a h1 ea fr1 la => ?_
  have S1 := S.fr0 fr1
  refine req_wp T (vs := [s, t]) S1 ea (fun v hv => by simp at hv; omega) ?_
  refine get_wp (g := D.int) ?_
  simp only [wpR_ok, wpR_bind, wpS_stm, wpS_seq, wpS_nx, wpS_rt, wpR_res, wpR_noExc, eConst_ap, eVar_z, eVar_s, eBin_ap, eUn_ap, eAnd_ap, eOr_ap, eIf_ap, eCmp_ap, eChain_ap, eArgs_nil, eArgs_cons, eTup_ap, eLst_wp, eItem_ap, eEnd_none, eEnd_some, toI_int, eSlice_ap, eBF_ap, eCall_ap, eCallK_ap, eIsI_ap, sPass_ap, sExpr_ap, sRet_ap, sRetN_ap, sAsg_ap, sIf_ap, sSeq_ap, tName_ap, tEach_nil, tEach_cons, tTup_ap, tItem_ap, pick_nil, pick_pos, pick_kw, pick_dfl, eAttr_ap, eMth_ap, eMk_ap, tAttr_ap, pF_some, isNon_non, eDicEn_ap, eRev_ap, List.set_cons_zero, List.set_cons_succ, List.length_cons, List.length_nil, truth_bl, truth_non, not_bl, not_non, tst_if, tstS_if, pBl_some, pD_some, add_int, sub_int, neg_int, lt_int, le_int, gt_int, ge_int, eq_int, ne_int, if_true, Bool.not_true, Bool.not_false, Bool.false_eq_true, if_false, and_self, List.getElem?_cons_zero, List.getElem?_cons_succ, Option.getD_some, Option.bind_some, Option.map_some, mcls_ref S1.y f4, mt4]
  refine dist_wp T S1 bn bE fun dd kvs h2 hd md fr2 ld bk => ?_
  refine ⟨dd, kvs, dist1 E n t, s, rfl, hd, md, rfl, ?_⟩
  cases hc : dist1 E n t s with
  | none =>
    rw [hc] at q
    have d0 : decide (D.non = D.non) = true := rfl
    simp only [wpR_ok, wpR_bind, wpS_stm, wpS_seq, wpS_nx, wpS_rt, wpR_res, wpR_noExc, eConst_ap, eVar_z, eVar_s, eBin_ap, eUn_ap, eAnd_ap, eOr_ap, eIf_ap, eCmp_ap, eChain_ap, eArgs_nil, eArgs_cons, eTup_ap, eLst_wp, eItem_ap, eEnd_none, eEnd_some, toI_int, eSlice_ap, eBF_ap, eCall_ap, eCallK_ap, eIsI_ap, sPass_ap, sExpr_ap, sRet_ap, sRetN_ap, sAsg_ap, sIf_ap, sSeq_ap, tName_ap, tEach_nil, tEach_cons, tTup_ap, tItem_ap, pick_nil, pick_pos, pick_kw, pick_dfl, eAttr_ap, eMth_ap, eMk_ap, tAttr_ap, pF_some, isNon_non, eDicEn_ap, eRev_ap, List.set_cons_zero, List.set_cons_succ, List.length_cons, List.length_nil, truth_bl, truth_non, not_bl, not_non, tst_if, tstS_if, pBl_some, pD_some, add_int, sub_int, neg_int, lt_int, le_int, gt_int, ge_int, eq_int, ne_int, if_true, Bool.not_true, Bool.not_false, Bool.false_eq_true, if_false, and_self, List.getElem?_cons_zero, List.getElem?_cons_succ, Option.getD_some, Option.bind_some, Option.map_some, Option.map_none, Option.getD_none, is_non, decide_true]
    exact q h2 (fr1.trans fr2)
  | some x =>
    rw [hc] at q
    have d0 : decide (D.int x = D.non) = false := rfl
    simp only [wpR_ok, wpR_bind, wpS_stm, wpS_seq, wpS_nx, wpS_rt, wpR_res, wpR_noExc, eConst_ap, eVar_z, eVar_s, eBin_ap, eUn_ap, eAnd_ap, eOr_ap, eIf_ap, eCmp_ap, eChain_ap, eArgs_nil, eArgs_cons, eTup_ap, eLst_wp, eItem_ap, eEnd_none, eEnd_some, toI_int, eSlice_ap, eBF_ap, eCall_ap, eCallK_ap, eIsI_ap, sPass_ap, sExpr_ap, sRet_ap, sRetN_ap, sAsg_ap, sIf_ap, sSeq_ap, tName_ap, tEach_nil, tEach_cons, tTup_ap, tItem_ap, pick_nil, pick_pos, pick_kw, pick_dfl, eAttr_ap, eMth_ap, eMk_ap, tAttr_ap, pF_some, isNon_non, eDicEn_ap, eRev_ap, List.set_cons_zero, List.set_cons_succ, List.length_cons, List.length_nil, truth_bl, truth_non, not_bl, not_non, tst_if, tstS_if, pBl_some, pD_some, add_int, sub_int, neg_int, lt_int, le_int, gt_int, ge_int, eq_int, ne_int, if_true, Bool.not_true, Bool.not_false, Bool.false_eq_true, if_false, and_self, List.getElem?_cons_zero, List.getElem?_cons_succ, Option.getD_some, Option.bind_some, Option.map_some, is_non, d0]
    exact q h2 (fr1.trans fr2)
def pathL : ShS := (sSeq (sExpr (eBM .append (eVar 6) [(eItem (eVar 4) (eVar 7))])) (sSeq (sAsg (tName 7) (eItem (eItem (eAttr 1 (eVar 0)) (eItem (eVar 4) (eVar 7))) (eConst (.int 0)))) sPass))
def c13r3 : ShS := (sSeq (sAsg (tName 6) (eLst [])) (sSeq (sAsg (tName 7) (eVar 2)) (sSeq (sWhile (eCmp .NotEq (eVar 7) (eVar 1)) pathL) (sSeq (sRet (eRev (eVar 6) (eUn .USub (eConst (.int 1))))) sPass))))
def c13r1 (cf : CF) : ShS := (sSeq (sAsg (tTup [(tName 3), (tName 4), (tName 5)]) (eMth cf dcMt 9 (eVar 0) [(eDic [((eVar 1), (eConst (.int 0)))])])) (sSeq (sIf (eCmp .NotIn (eVar 2) (eVar 3)) (sSeq (sRet (eConst .non)) sPass) sPass) c13r3))
theorem c13_eq (cf : CF) : c13 cf = (sSeq (sExpr (eMth cf dcMt 10 (eVar 0) [(eLst [(eVar 1), (eVar 2)])])) (c13r1 cf)) := rfl
theorem sp_wp (T : DcT2 tab) (t13 : tab 13 = some d13) {k y e n s t : Nat} {E : List Bf.Edge} {h : Hh} (S : Sys h y e .non n E) (hs : s < n) (ht : t < n) (bn : n ≤ 100) (bE : E.length ≤ 1000) (hE : VE E n) (hN : Bf.NoNeg E) {Q : D → Hh → Prop}
    (q0 : dist1 E n s t = none → ∀ h', Fr [] h h' → Q .non h')
    (q1 : ∀ y, dist1 E n s t = some y → ∀ (b : Nat) (xs : List Nat) (es : List Bf.Edge) (h' : Hh), h'[b]? = some (.lst false (xs.map natD)) → xs.length ≤ n * E.length → (xs.map fun i => E[i]?) = es.map some → Bf.Walk E s t es → Bf.Back E (Bf.relax E n ⟨Bf.put (fun _ => none) s 0, fun _ => none, none⟩).l s t xs.reverse → (∃ x0, dist1 E n s s = some x0 ∧ y = x0 + Bf.wt es) → Fr [] h h' → h.length ≤ b → Q (.ref b) h') :
    wpR (callN tab (k + 3) 13 [.ref y, .int (s : Nat), .int (t : Nat)] h) Q := by
  rw [call_at t13 rfl]
  show wpR (c13 (callN tab (k + 2)) [some (.ref y), some (.int (s : Nat)), some (.int (t : Nat)), none, none, none, none, none] h).res Q
  rw [c13_eq]
  have f10 : fget [(2, D.int (n : Nat)), (1, .ref e), (0, .non)] 10 = none := rfl
  have f9 : fget [(2, D.int (n : Nat)), (1, .ref e), (0, .non)] 9 = none := rfl
  have f1 : fget [(2, D.int (n : Nat)), (1, .ref e), (0, .non)] 1 = some (.ref e) := rfl
  simp only [wpR_ok, wpR_bind, wpS_stm, wpS_seq, wpS_nx, wpS_rt, wpR_res, wpR_noExc, eConst_ap, eVar_z, eVar_s, eBin_ap, eUn_ap, eAnd_ap, eOr_ap, eIf_ap, eCmp_ap, eChain_ap, eArgs_nil, eArgs_cons, eTup_ap, eLst_wp, eItem_ap, eEnd_none, eEnd_some, toI_int, eSlice_ap, eBF_ap, eCall_ap, eCallK_ap, eIsI_ap, sPass_ap, sExpr_ap, sRet_ap, sRetN_ap, sAsg_ap, sIf_ap, sSeq_ap, tName_ap, tEach_nil, tEach_cons, tTup_ap, tItem_ap, pick_nil, pick_pos, pick_kw, pick_dfl, eAttr_ap, eMth_ap, eMk_ap, tAttr_ap, pF_some, isNon_non, eDicEn_ap, eRev_ap, List.set_cons_zero, List.set_cons_succ, List.length_cons, List.length_nil, truth_bl, truth_non, not_bl, not_non, tst_if, tstS_if, pBl_some, pD_some, add_int, sub_int, neg_int, lt_int, le_int, gt_int, ge_int, eq_int, ne_int, if_true, Bool.not_true, Bool.not_false, Bool.false_eq_true, if_false, and_self, List.getElem?_cons_zero, List.getElem?_cons_succ, Option.getD_some, Option.bind_some, Option.map_some, mcls_ref S.y f10, mt10]
  refine alloc_wp fun a h1 ea fr1 la => ?_
  have S1 := S.fr0 fr1
  refine req_wp T (vs := [s, t]) S1 ea (fun v hv => by simp at hv; omega) ?_
  unfold c13r1
  simp only [wpR_ok, wpR_bind, wpS_stm, wpS_seq, wpS_nx, wpS_rt, wpR_res, wpR_noExc, eConst_ap, eVar_z, eVar_s, eBin_ap, eUn_ap, eAnd_ap, eOr_ap, eIf_ap, eCmp_ap, eChain_ap, eArgs_nil, eArgs_cons, eTup_ap, eLst_wp, eItem_ap, eEnd_none, eEnd_some, toI_int, eSlice_ap, eBF_ap, eCall_ap, eCallK_ap, eIsI_ap, sPass_ap, sExpr_ap, sRet_ap, sRetN_ap, sAsg_ap, sIf_ap, sSeq_ap, tName_ap, tEach_nil, tEach_cons, tTup_ap, tItem_ap, pick_nil, pick_pos, pick_kw, pick_dfl, eAttr_ap, eMth_ap, eMk_ap, tAttr_ap, pF_some, isNon_non, eDicEn_ap, eRev_ap, List.set_cons_zero, List.set_cons_succ, List.length_cons, List.length_nil, truth_bl, truth_non, not_bl, not_non, tst_if, tstS_if, pBl_some, pD_some, add_int, sub_int, neg_int, lt_int, le_int, gt_int, ge_int, eq_int, ne_int, if_true, Bool.not_true, Bool.not_false, Bool.false_eq_true, if_false, and_self, List.getElem?_cons_zero, List.getElem?_cons_succ, Option.getD_some, Option.bind_some, Option.map_some, eDic_ap, eDict_cons, eDict_nil, dicD_one, mcls_ref S1.y f9, mt9]
  refine alloc_wp fun dd h2 hd fr2 ld => ?_
  have S2 := S1.fr0 fr2
  refine relax_call T.toDcT S2.y rfl rfl S2.e hd (map_one s) (by simp) bn bE fun h3 l kvs lvs g1 g2 g3 g4 fr3 ll bk => ?_
  have dl := at_lt S1.y
  have el := at_lt S1.e
  have S3 := S2.fr fr3 (by simp; omega) (by simp; omega) (fun c z => by cases z)
  have f13 : Fr [] h h3 := (fr1.trans fr2).then fr3 fun j hj => by simp at hj; have := fr1.len; exact .inr (by omega)
  obtain ⟨ts, J⟩ := Bf.Jn.relax (E := E) (d0 := Bf.put (fun _ => none) s 0) n ⟨Bf.put (fun _ => none) s 0, fun _ => none, none⟩ (fun _ => 0) 0 Bf.jn_start
  have hc : (Bf.relax E n ⟨Bf.put (fun _ => none) s 0, fun _ => none, none⟩).c = none := Bf.conv (n := n) hE hN fun v y hy => by
    unfold Bf.put at hy
    split at hy
    · omega
    · cases hy
  have tidy := Bf.relax_tidy (E := E) n ⟨Bf.put (fun _ => none) s 0, fun _ => none, none⟩ (by omega) hc
  have eD : (Bf.relax E n ⟨Bf.put (fun _ => none) s 0, fun _ => none, none⟩).d = dist1 E n s := rfl
  have g2 : MapD D.int kvs (dist1 E n s) := g2
  generalize Bf.relax E n ⟨Bf.put (fun _ => none) s 0, fun _ => none, none⟩ = R at *
  have t3 : ([.ref dd, .ref l, chD' R.c] : List D).length = ([tName 3, tName 4, tName 5] : List Tg).length := rfl
  simp only [tTupN t3, wpR_ok, wpR_bind, wpS_stm, wpS_seq, wpS_nx, wpS_rt, wpR_res, wpR_noExc, eConst_ap, eVar_z, eVar_s, eBin_ap, eUn_ap, eAnd_ap, eOr_ap, eIf_ap, eCmp_ap, eChain_ap, eArgs_nil, eArgs_cons, eTup_ap, eLst_wp, eItem_ap, eEnd_none, eEnd_some, toI_int, eSlice_ap, eBF_ap, eCall_ap, eCallK_ap, eIsI_ap, sPass_ap, sExpr_ap, sRet_ap, sRetN_ap, sAsg_ap, sIf_ap, sSeq_ap, tName_ap, tEach_nil, tEach_cons, tTup_ap, tItem_ap, pick_nil, pick_pos, pick_kw, pick_dfl, eAttr_ap, eMth_ap, eMk_ap, tAttr_ap, pF_some, isNon_non, eDicEn_ap, eRev_ap, List.set_cons_zero, List.set_cons_succ, List.length_cons, List.length_nil, truth_bl, truth_non, not_bl, not_non, tst_if, tstS_if, pBl_some, pD_some, add_int, sub_int, neg_int, lt_int, le_int, gt_int, ge_int, eq_int, ne_int, if_true, Bool.not_true, Bool.not_false, Bool.false_eq_true, if_false, and_self, List.getElem?_cons_zero, List.getElem?_cons_succ, Option.getD_some, Option.bind_some, Option.map_some, g2.notin g1]
  refine tstS_wp (fun hn => ?_) (fun hn => ?_) <;> (try rw [eD] at hn)
  · simp only [wpR_ok, wpR_bind, wpS_stm, wpS_seq, wpS_nx, wpS_rt, wpR_res, wpR_noExc, eConst_ap, eVar_z, eVar_s, eBin_ap, eUn_ap, eAnd_ap, eOr_ap, eIf_ap, eCmp_ap, eChain_ap, eArgs_nil, eArgs_cons, eTup_ap, eLst_wp, eItem_ap, eEnd_none, eEnd_some, toI_int, eSlice_ap, eBF_ap, eCall_ap, eCallK_ap, eIsI_ap, sPass_ap, sExpr_ap, sRet_ap, sRetN_ap, sAsg_ap, sIf_ap, sSeq_ap, tName_ap, tEach_nil, tEach_cons, tTup_ap, tItem_ap, pick_nil, pick_pos, pick_kw, pick_dfl, eAttr_ap, eMth_ap, eMk_ap, tAttr_ap, pF_some, isNon_non, eDicEn_ap, eRev_ap, List.set_cons_zero, List.set_cons_succ, List.length_cons, List.length_nil, truth_bl, truth_non, not_bl, not_non, tst_if, tstS_if, pBl_some, pD_some, add_int, sub_int, neg_int, lt_int, le_int, gt_int, ge_int, eq_int, ne_int, if_true, Bool.not_true, Bool.not_false, Bool.false_eq_true, if_false, and_self, List.getElem?_cons_zero, List.getElem?_cons_succ, Option.getD_some, Option.bind_some, Option.map_some]
    refine q0 ?_ h3 f13
    cases hx : dist1 E n s t with
    | none => rfl
    | some x => rw [hx] at hn; cases hn
  · obtain ⟨yt, hyt⟩ : ∃ yt, dist1 E n s t = some yt := by
      cases hx : dist1 E n s t with
      | none => rw [hx] at hn; cases hn
      | some x => exact ⟨x, rfl⟩
    simp only [wpR_ok, wpR_bind, wpS_stm, wpS_seq, wpS_nx, wpS_rt, wpR_res, wpR_noExc, eConst_ap, eVar_z, eVar_s, eBin_ap, eUn_ap, eAnd_ap, eOr_ap, eIf_ap, eCmp_ap, eChain_ap, eArgs_nil, eArgs_cons, eTup_ap, eLst_wp, eItem_ap, eEnd_none, eEnd_some, toI_int, eSlice_ap, eBF_ap, eCall_ap, eCallK_ap, eIsI_ap, sPass_ap, sExpr_ap, sRet_ap, sRetN_ap, sAsg_ap, sIf_ap, sSeq_ap, tName_ap, tEach_nil, tEach_cons, tTup_ap, tItem_ap, pick_nil, pick_pos, pick_kw, pick_dfl, eAttr_ap, eMth_ap, eMk_ap, tAttr_ap, pF_some, isNon_non, eDicEn_ap, eRev_ap, List.set_cons_zero, List.set_cons_succ, List.length_cons, List.length_nil, truth_bl, truth_non, not_bl, not_non, tst_if, tstS_if, pBl_some, pD_some, add_int, sub_int, neg_int, lt_int, le_int, gt_int, ge_int, eq_int, ne_int, if_true, Bool.not_true, Bool.not_false, Bool.false_eq_true, if_false, and_self, List.getElem?_cons_zero, List.getElem?_cons_succ, Option.getD_some, Option.bind_some, Option.map_some]
    unfold c13r3
    simp only [wpR_ok, wpR_bind, wpS_stm, wpS_seq, wpS_nx, wpS_rt, wpR_res, wpR_noExc, eConst_ap, eVar_z, eVar_s, eBin_ap, eUn_ap, eAnd_ap, eOr_ap, eIf_ap, eCmp_ap, eChain_ap, eArgs_nil, eArgs_cons, eTup_ap, eLst_wp, eItem_ap, eEnd_none, eEnd_some, toI_int, eSlice_ap, eBF_ap, eCall_ap, eCallK_ap, eIsI_ap, sPass_ap, sExpr_ap, sRet_ap, sRetN_ap, sAsg_ap, sIf_ap, sSeq_ap, tName_ap, tEach_nil, tEach_cons, tTup_ap, tItem_ap, pick_nil, pick_pos, pick_kw, pick_dfl, eAttr_ap, eMth_ap, eMk_ap, tAttr_ap, pF_some, isNon_non, eDicEn_ap, eRev_ap, List.set_cons_zero, List.set_cons_succ, List.length_cons, List.length_nil, truth_bl, truth_non, not_bl, not_non, tst_if, tstS_if, pBl_some, pD_some, add_int, sub_int, neg_int, lt_int, le_int, gt_int, ge_int, eq_int, ne_int, if_true, Bool.not_true, Bool.not_false, Bool.false_eq_true, if_false, and_self, List.getElem?_cons_zero, List.getElem?_cons_succ, Option.getD_some, Option.bind_some, Option.map_some]
    refine alloc_wp fun p h4 hp fr4 lp => ?_
    have S4 := S3.fr0 fr4
    have l4 := fr4.get _ _ (by simp) g3
    have fmul : n * E.length ≤ 100 * 1000 := Nat.mul_le_mul bn bE
    refine whileL_wp (fun m σ h5 => ∃ (v : Nat) (xs : List Nat) (es : List Bf.Edge) (yv : Int), σ = [some (.ref y), some (.int (s : Nat)), some (.int (t : Nat)), some (.ref dd), some (.ref l), some (chD' R.c), some (.ref p), some (.int (v : Nat))] ∧ ts v ≤ m ∧ xs.length + m ≤ n * E.length ∧ dist1 E n s v = some yv ∧
      h5[p]? = some (.lst false (xs.map natD)) ∧ (xs.reverse.map fun i => E[i]?) = es.map some ∧ Bf.Walk E v t es ∧ (∀ zs, Bf.Back E R.l s v zs → Bf.Back E R.l s t (xs ++ zs)) ∧ yt = yv + Bf.wt es ∧ Fr [p] h4 h5) ?_ wfuel (ts t) _ _ (by have := J.le t; show ts t < 1000000; omega) ?_
    · rintro m σ h5 ⟨v, xs, es, yv, rfl, htv, hlen, hdv, hp5, hpos, hw, hbk, hyy, fr5⟩
      have np : ∀ {j : Nat} {o : Ob}, h3[j]? = some o → j ∉ [p] := fun ej => by have := at_lt ej; simp; omega
      have S5 := S4.fr fr5 (np S3.y) (np S3.e) (fun c z => by cases z)
      have l5 := fr5.get _ _ (np g3) l4
      simp only [eCmp_ap, eVar_z, eVar_s, Res.bind_ok, ne_int, pBl_some, wpR_ok]
      refine ⟨_, rfl, fun hb => ?_, fun hb => ?_⟩
      · have hvs : v ≠ s := fun z => by rw [z] at hb; simp at hb
        obtain ⟨i, ed, x, b1, b2, b3, b4, b5, b6⟩ := J.back tidy (v := v) (y := yv) (by rw [eD]; exact hdv) (by rw [Bf.put_ne hvs])
        have li : ∀ h', h'[l]? = some (.dic false lvs) → getItem (.ref l) (.int (v : Nat)) h' = some (natD i) := fun h' hl' => by rw [g4.item hl', b1]; rfl
        refine ⟨by omega, ?_⟩
        have ap := append_eq (o := eVar 6) (arg := (eItem (eVar 4) (eVar 7))) (σ := [some (.ref y), some (.int (s : Nat)), some (.int (t : Nat)), some (.ref dd), some (.ref l), some (chD' R.c), some (.ref p), some (.int (v : Nat))]) (h := h5) (x := natD i) rfl hp5 (by simp only [eItem_ap, eVar_z, eVar_s, Res.bind_ok, li h5 l5, pD_some]) (by rw [List.length_map, lmE]; omega)
        have fs : Fr [p] h5 (h5.set p (.lst false (xs.map natD ++ [natD i]))) := Fr.set ..
        have S6 := S5.fr fs (np S3.y) (np S3.e) (fun c z => by cases z)
        have l6 := fs.get _ _ (np g3) l5
        have ei : getItem (.ref e) (natD i) (h5.set p (.lst false (xs.map natD ++ [natD i]))) = some (edD ed) := by
          show getItem (.ref e) (.int (i : Nat)) _ = _
          rw [item_lst S6.e]
          exact atD_nat (by rw [List.getElem?_map, b2]; rfl)
        unfold pathL
        simp only [wpR_ok, wpR_bind, wpS_stm, wpS_seq, wpS_nx, wpS_rt, wpR_res, wpR_noExc, eConst_ap, eVar_z, eVar_s, eBin_ap, eUn_ap, eAnd_ap, eOr_ap, eIf_ap, eCmp_ap, eChain_ap, eArgs_nil, eArgs_cons, eTup_ap, eLst_wp, eItem_ap, eEnd_none, eEnd_some, toI_int, eSlice_ap, eBF_ap, eCall_ap, eCallK_ap, eIsI_ap, sPass_ap, sExpr_ap, sRet_ap, sRetN_ap, sAsg_ap, sIf_ap, sSeq_ap, tName_ap, tEach_nil, tEach_cons, tTup_ap, tItem_ap, pick_nil, pick_pos, pick_kw, pick_dfl, eAttr_ap, eMth_ap, eMk_ap, tAttr_ap, pF_some, isNon_non, eDicEn_ap, eRev_ap, List.set_cons_zero, List.set_cons_succ, List.length_cons, List.length_nil, truth_bl, truth_non, not_bl, not_non, tst_if, tstS_if, pBl_some, pD_some, add_int, sub_int, neg_int, lt_int, le_int, gt_int, ge_int, eq_int, ne_int, if_true, Bool.not_true, Bool.not_false, Bool.false_eq_true, if_false, and_self, List.getElem?_cons_zero, List.getElem?_cons_succ, Option.getD_some, Option.bind_some, Option.map_some, ap, getAttr_ref S6.y, f1, li _ l6, ei, ed_item0]
        refine ⟨ed.1, xs ++ [i], ed :: es, x, rfl, by omega, by rw [List.length_append, List.length_singleton]; omega, by rw [← eD]; exact b4, ?_, ?_, ⟨List.mem_of_getElem? b2, rfl, by rw [b3]; exact hw⟩, fun zs hz => ?_, ?_, fr5.trans fs⟩
        · rw [List.getElem?_set_self (at_lt hp5), List.map_append]; rfl
        · rw [List.reverse_append, List.map_append, hpos]
          show [E[i]?] ++ _ = _
          rw [b2]; rfl
        · rw [List.append_assoc]
          exact hbk _ (.cons hvs b1 b2 hz)
        · show yt = x + (ed.2.2 + Bf.wt es)
          omega
      · have hvs : v = s := by
          have : ((v : Nat) : Int) = (s : Nat) := by simpa using hb
          omega
        subst hvs
        simp only [wpR_ok, wpR_bind, wpS_stm, wpS_seq, wpS_nx, wpS_rt, wpR_res, wpR_noExc, eConst_ap, eVar_z, eVar_s, eBin_ap, eUn_ap, eAnd_ap, eOr_ap, eIf_ap, eCmp_ap, eChain_ap, eArgs_nil, eArgs_cons, eTup_ap, eLst_wp, eItem_ap, eEnd_none, eEnd_some, toI_int, eSlice_ap, eBF_ap, eCall_ap, eCallK_ap, eIsI_ap, sPass_ap, sExpr_ap, sRet_ap, sRetN_ap, sAsg_ap, sIf_ap, sSeq_ap, tName_ap, tEach_nil, tEach_cons, tTup_ap, tItem_ap, pick_nil, pick_pos, pick_kw, pick_dfl, eAttr_ap, eMth_ap, eMk_ap, tAttr_ap, pF_some, isNon_non, eDicEn_ap, eRev_ap, List.set_cons_zero, List.set_cons_succ, List.length_cons, List.length_nil, truth_bl, truth_non, not_bl, not_non, tst_if, tstS_if, pBl_some, pD_some, add_int, sub_int, neg_int, lt_int, le_int, gt_int, ge_int, eq_int, ne_int, if_true, Bool.not_true, Bool.not_false, Bool.false_eq_true, if_false, and_self, List.getElem?_cons_zero, List.getElem?_cons_succ, Option.getD_some, Option.bind_some, Option.map_some, rev_ref hp5]
        refine alloc_wp fun b h6 hb6 fr6 lb => ?_
        refine q1 yt hyt b xs.reverse es h6 (by rw [hb6, List.map_reverse]) (by rw [List.length_reverse]; omega) hpos hw (by rw [List.reverse_reverse]; have := hbk [] .nil; rwa [List.append_nil] at this) ⟨yv, hdv, hyy⟩ (((f13.trans fr4).then fr5 fun j hj => by simp at hj; have := f13.len; exact .inr (by omega)).trans fr6) (by have := f13.len; have := fr4.len; have := fr5.len; omega)
    · exact ⟨t, [], [], yt, rfl, Nat.le_refl _, by have := J.le t; simp; omega, hyt, hp, rfl, rfl, fun zs hz => hz, by show yt = yt + 0; omega, Fr.refl _ _⟩
end Ev

set_option maxRecDepth 100000
set_option maxHeartbeats 1000000
/-! Floyd and Warshall, in place: what the table holds at the end -/
namespace Bf
abbrev Tb := Nat → Nat → Option Int
def put3 (F : Tb) (u v : Nat) (x : Int) : Tb := fun a b => if a = u ∧ b = v then some x else F a b
theorem put3_at (F : Tb) (u v : Nat) (x : Int) : put3 F u v x u v = some x := by unfold put3; rw [if_pos ⟨rfl, rfl⟩]
theorem put3_ne {F : Tb} {u v a b : Nat} {x : Int} (h : ¬ (a = u ∧ b = v)) : put3 F u v x a b = F a b := by unfold put3; rw [if_neg h]
/-- one cell's step over the middle k -/
def fwCell (k u : Nat) (F : Tb) (v : Nat) : Tb := match F u k, F k v with
  | some a, some b => put3 F u v (min (a + b) ((F u v).getD (a + b)))
  | _, _ => F
def fwRow (n k : Nat) (F : Tb) (u : Nat) : Tb := (List.range n).foldl (fwCell k u) F
def fwStage (n : Nat) (F : Tb) (k : Nat) : Tb := (List.range n).foldl (fwRow n k) F
def fwRun (n : Nat) (F : Tb) : Tb := (List.range n).foldl (fwStage n) F
def fwEdge (F : Tb) (e : Edge) : Tb := put3 F e.1 e.2.1 (min e.2.2 ((F e.1 e.2.1).getD e.2.2))
def fwDiag (n : Nat) : Tb := fun u v => if u = v ∧ u < n then some 0 else none
def fwStart (E : List Edge) (n : Nat) : Tb := E.foldl fwEdge (fwDiag n)
def fw (E : List Edge) (n : Nat) : Tb := fwRun n (fwStart E n)
/-- F' has all that F has, no larger -/
def Lo (F' F : Tb) : Prop := ∀ u v x, F u v = some x → ∃ y, F' u v = some y ∧ y ≤ x
theorem Lo.refl (F : Tb) : Lo F F := fun _ _ x h => ⟨x, h, Int.le_refl x⟩
theorem Lo.trans {F G H : Tb} (a : Lo F G) (b : Lo G H) : Lo F H := fun u v x h => by
  obtain ⟨y, h1, h2⟩ := b u v x h
  obtain ⟨z, h3, h4⟩ := a u v y h1
  exact ⟨z, h3, Int.le_trans h4 h2⟩
theorem lo_put (F : Tb) (u v : Nat) (c : Int) : Lo (put3 F u v (min c ((F u v).getD c))) F := fun a b x h => by
  by_cases z : a = u ∧ b = v
  · obtain ⟨rfl, rfl⟩ := z
    refine ⟨_, put3_at .., ?_⟩
    rw [h]
    show min c x ≤ x
    omega
  · exact ⟨x, by rw [put3_ne z]; exact h, Int.le_refl x⟩
theorem lo_cell (k u v : Nat) (F : Tb) : Lo (fwCell k u F v) F := by
  unfold fwCell
  split
  · exact lo_put F u v _
  · exact Lo.refl F
theorem lo_fold {A : Type} {f : Tb → A → Tb} (h : ∀ F a, Lo (f F a) F) : ∀ (l : List A) (F : Tb), Lo (l.foldl f F) F
  | [], F => Lo.refl F
  | a :: r, F => (lo_fold h r (f F a)).trans (h F a)
theorem lo_row (n k : Nat) (F : Tb) (u : Nat) : Lo (fwRow n k F u) F := lo_fold (fun F v => lo_cell k u v F) _ F
theorem lo_stage (n : Nat) (F : Tb) (k : Nat) : Lo (fwStage n F k) F := lo_fold (fun F u => lo_row n k F u) _ F
theorem lo_edge (F : Tb) (e : Edge) : Lo (fwEdge F e) F := lo_put F e.1 e.2.1 e.2.2
/-- a fold's element is met at some time -/
theorem fold_hit {A : Type} {f : Tb → A → Tb} (h : ∀ F a, Lo (f F a) F) {a : A} : ∀ (l : List A) (F : Tb), a ∈ l → ∃ G, Lo G F ∧ Lo (l.foldl f F) (f G a)
  | [], _, m => absurd m List.not_mem_nil
  | b :: r, F, m => by
    rcases List.mem_cons.mp m with rfl | m
    · exact ⟨F, Lo.refl F, lo_fold h r (f F a)⟩
    · obtain ⟨G, g1, g2⟩ := fold_hit h r (f F b) m
      exact ⟨G, g1.trans (h F b), g2⟩
theorem stage_hit {n k u v : Nat} (F : Tb) (hu : u < n) (hv : v < n) : ∃ G, Lo G F ∧ Lo (fwStage n F k) (fwCell k u G v) := by
  obtain ⟨G, g1, g2⟩ := fold_hit (f := fwRow n k) (fun F u => lo_row n k F u) (List.range n) F (List.mem_range.mpr hu)
  obtain ⟨G', g3, g4⟩ := fold_hit (f := fwCell k u) (fun F v => lo_cell k u v F) (List.range n) G (List.mem_range.mpr hv)
  exact ⟨G', g3.trans g1, g2.trans g4⟩
theorem stage_sum {n k u v : Nat} {F : Tb} (hu : u < n) (hv : v < n) {a b : Int} (ha : F u k = some a) (hb : F k v = some b) : ∃ y, fwStage n F k u v = some y ∧ y ≤ a + b := by
  obtain ⟨G, g1, g2⟩ := stage_hit (k := k) F hu hv
  obtain ⟨a', a1, a2⟩ := g1 u k a ha
  obtain ⟨b', b1, b2⟩ := g1 k v b hb
  have e : fwCell k u G v = put3 G u v (min (a' + b') ((G u v).getD (a' + b'))) := by unfold fwCell; rw [a1, b1]
  rw [e] at g2
  obtain ⟨y, y1, y2⟩ := g2 u v _ (put3_at ..)
  exact ⟨y, y1, by omega⟩
/-! ### every value is a walk's weight -/
def Fr2 (E : List Edge) (F : Tb) : Prop := ∀ u v x, F u v = some x → ∃ l, Walk E u v l ∧ wt l = x
theorem fr2_put {E : List Edge} {F : Tb} (h : Fr2 E F) {u v : Nat} {c : Int} (hc : ∃ l, Walk E u v l ∧ wt l = c) : Fr2 E (put3 F u v (min c ((F u v).getD c))) := fun a b x hx => by
  by_cases z : a = u ∧ b = v
  · obtain ⟨rfl, rfl⟩ := z
    rw [put3_at] at hx
    cases hx
    cases e : F a b with
    | none =>
      rw [Option.getD_none, Int.min_self]; exact hc
    | some y =>
      rw [Option.getD_some]
      rcases Int.le_total c y with w | w
      · rw [Int.min_eq_left w]; exact hc
      · rw [Int.min_eq_right w]; exact h a b y e
  · rw [put3_ne z] at hx; exact h a b x hx
theorem fr2_cell {E : List Edge} {F : Tb} {k u v : Nat} (h : Fr2 E F) : Fr2 E (fwCell k u F v) := by
  unfold fwCell
  split
  · rename_i a b ha hb
    obtain ⟨l1, w1, rfl⟩ := h u k a ha
    obtain ⟨l2, w2, rfl⟩ := h k v b hb
    exact fr2_put h ⟨l1 ++ l2, w1.append w2, wt_append l1 l2⟩
  · exact h
theorem fr2_fold {E : List Edge} {A : Type} {f : Tb → A → Tb} (h : ∀ F a, Fr2 E F → Fr2 E (f F a)) : ∀ (l : List A) (F : Tb), Fr2 E F → Fr2 E (l.foldl f F)
  | [], _, q => q
  | a :: r, F, q => fr2_fold h r (f F a) (h F a q)
theorem fr2_run {E : List Edge} {F : Tb} (n : Nat) (h : Fr2 E F) : Fr2 E (fwRun n F) :=
  fr2_fold (fun F k q => fr2_fold (fun F u q => fr2_fold (fun F v q => fr2_cell q) _ F q) _ F q) _ F h
theorem fr2_edges {E : List Edge} : ∀ (l : List Edge) (F : Tb), (∀ e ∈ l, e ∈ E) → Fr2 E F → Fr2 E (l.foldl fwEdge F)
  | [], _, _, q => q
  | e :: r, F, hl, q => fr2_edges r (fwEdge F e) (fun x hx => hl x (List.mem_cons_of_mem _ hx)) (fr2_put q ⟨[e], ⟨hl e List.mem_cons_self, rfl, rfl⟩, by show e.2.2 + 0 = e.2.2; omega⟩)
theorem fr2_start (E : List Edge) (n : Nat) : Fr2 E (fwStart E n) := fr2_edges E _ (fun _ h => h) fun u v x hx => by
  unfold fwDiag at hx
  split at hx
  · rename_i h
    cases hx
    exact ⟨[], h.1, rfl⟩
  · cases hx
theorem fr2_fw (E : List Edge) (n : Nat) : Fr2 E (fw E n) := fr2_run n (fr2_start E n)
/-! ### and no walk is lighter -/
def Mid (k : Nat) (l : List Edge) : Prop := ∀ e ∈ l.dropLast, e.2.1 < k
theorem split_mid {E : List Edge} {k : Nat} : ∀ (l : List Edge) (u v : Nat), Walk E u v l → Mid (k + 1) l → Mid k l ∨ ∃ a b, l = a ++ b ∧ a ≠ [] ∧ b ≠ [] ∧ Walk E u k a ∧ Walk E k v b ∧ Mid k a ∧ Mid (k + 1) b
  | [], _, _, _, _ => .inl fun e h => absurd h (by simp)
  | [e], _, _, _, _ => .inl fun e h => absurd h (by simp)
  | e :: f :: r, u, v, w, m => by
    obtain ⟨he, hs, w2⟩ := w
    have dl : (e :: f :: r).dropLast = e :: (f :: r).dropLast := rfl
    have m2 : Mid (k + 1) (f :: r) := fun x hx => m x (by rw [dl]; exact List.mem_cons_of_mem _ hx)
    have hk : e.2.1 < k + 1 := m e (by rw [dl]; exact List.mem_cons_self)
    by_cases ek : e.2.1 = k
    · refine .inr ⟨[e], f :: r, rfl, by simp, by simp, ⟨he, hs, ek⟩, by rw [← ek]; exact w2, fun x hx => absurd hx (by simp), m2⟩
    · rcases split_mid (f :: r) e.2.1 v w2 m2 with h | ⟨a, b, e1, na, nb, wa, wb, ma, mb⟩
      · refine .inl fun x hx => ?_
        rw [dl] at hx
        rcases List.mem_cons.mp hx with rfl | hx
        · omega
        · exact h x hx
      · refine .inr ⟨e :: a, b, by rw [e1]; rfl, by simp, nb, ⟨he, hs, wa⟩, wb, fun x hx => ?_, mb⟩
        cases a with
        | nil => exact absurd rfl na
        | cons a0 ar =>
          have dl2 : (e :: a0 :: ar).dropLast = e :: (a0 :: ar).dropLast := rfl
          rw [dl2] at hx
          rcases List.mem_cons.mp hx with rfl | hx
          · omega
          · exact ma x hx
def UpK (E : List Edge) (n k : Nat) (F : Tb) : Prop := ∀ u v l, u < n → v < n → Walk E u v l → Mid k l → ∃ y, F u v = some y ∧ y ≤ wt l
theorem upk_back {E : List Edge} {n k : Nat} {F : Tb} (hU : UpK E n k F) (hk : k < n) (hd : ∀ x, F k k = some x → 0 ≤ x) : ∀ (m : Nat) (l : List Edge) (v : Nat), l.length ≤ m → v < n → Walk E k v l → Mid (k + 1) l → ∃ y, F k v = some y ∧ y ≤ wt l
  | 0, l, v, hl, hv, w, m => by
    have : l = [] := List.length_eq_zero_iff.mp (by omega)
    subst this
    exact hU k v [] hk hv w fun e h => absurd h (by simp)
  | m + 1, l, v, hl, hv, w, md => by
    rcases split_mid l k v w md with h | ⟨a, b, e1, na, nb, wa, wb, ma, mb⟩
    · exact hU k v l hk hv w h
    · subst e1
      obtain ⟨x, x1, x2⟩ := hU k k a hk hk wa ma
      have := hd x x1
      have la : 1 ≤ a.length := by
        cases a with
        | nil => exact absurd rfl na
        | cons => rw [List.length_cons]; omega
      rw [List.length_append] at hl
      obtain ⟨y, y1, y2⟩ := upk_back hU hk hd m b v (by omega) hv wb mb
      refine ⟨y, y1, ?_⟩
      rw [wt_append]; omega
theorem upk_stage {E : List Edge} {n k : Nat} {F : Tb} (hU : UpK E n k F) (hk : k < n) (hd : ∀ x, F k k = some x → 0 ≤ x) : UpK E n (k + 1) (fwStage n F k) := fun u v l hu hv w md => by
  rcases split_mid l u v w md with h | ⟨a, b, e1, na, nb, wa, wb, ma, mb⟩
  · obtain ⟨y, y1, y2⟩ := hU u v l hu hv w h
    obtain ⟨z, z1, z2⟩ := lo_stage n F k u v y y1
    exact ⟨z, z1, by omega⟩
  · subst e1
    obtain ⟨x, x1, x2⟩ := hU u k a hu hk wa ma
    obtain ⟨y, y1, y2⟩ := upk_back hU hk hd b.length b v (Nat.le_refl _) hv wb mb
    obtain ⟨z, z1, z2⟩ := stage_sum hu hv x1 y1
    refine ⟨z, z1, ?_⟩
    rw [wt_append]; omega
theorem upk_start {E : List Edge} {n : Nat} : UpK E n 0 (fwStart E n) := fun u v l hu hv w md => by
  match l, w, md with
  | [], w, _ =>
    have e : u = v := w
    subst e
    exact lo_fold lo_edge E (fwDiag n) u u 0 (by unfold fwDiag; rw [if_pos ⟨rfl, hu⟩])
  | [e], w, _ =>
    obtain ⟨he, hs, ht⟩ := w
    have ht : e.2.1 = v := ht
    obtain ⟨G, g1, g2⟩ := fold_hit (f := fwEdge) lo_edge E (fwDiag n) he
    obtain ⟨y, y1, y2⟩ := g2 e.1 e.2.1 _ (put3_at ..)
    refine ⟨y, by rw [← ht, ← hs]; exact y1, ?_⟩
    show y ≤ e.2.2 + 0
    omega
  | e :: f :: r, w, md => exact absurd (md e (by show e ∈ e :: (f :: r).dropLast; exact List.mem_cons_self)) (Nat.not_lt_zero _)
theorem upk_run {E : List Edge} {n : Nat} {F : Tb} (hU : UpK E n 0 F) : ∀ (k : Nat), k ≤ n → (∀ j, j < k → ∀ x, (List.range j).foldl (fwStage n) F j j = some x → 0 ≤ x) → UpK E n k ((List.range k).foldl (fwStage n) F)
  | 0, _, _ => hU
  | k + 1, hk, hd => by
    rw [List.range_succ, List.foldl_append]
    exact upk_stage (upk_run hU k (by omega) fun j hj => hd j (by omega)) (by omega) (hd k (by omega))
theorem lo_later {n : Nat} {F : Tb} (j : Nat) : ∀ (k : Nat), j ≤ k → Lo ((List.range k).foldl (fwStage n) F) ((List.range j).foldl (fwStage n) F)
  | 0, h => by
    have : j = 0 := by omega
    subst this
    exact Lo.refl _
  | k + 1, h => by
    by_cases e : j = k + 1
    · subst e; exact Lo.refl _
    · rw [List.range_succ, List.foldl_append]
      exact (lo_stage n _ k).trans (lo_later j k (by omega))
theorem fw_up {E : List Edge} {n : Nat} (hd : ∀ v, v < n → ∀ x, fw E n v v = some x → 0 ≤ x) : UpK E n n (fw E n) := upk_run upk_start n (Nat.le_refl n) fun j hj x hx => by
  obtain ⟨y, y1, y2⟩ := lo_later (n := n) (F := fwStart E n) j n (by omega) j j x hx
  have := hd j hj y y1
  omega
theorem mid_all {E : List Edge} {n : Nat} (hE : VEd E n) : ∀ {l : List Edge} {u v : Nat}, Walk E u v l → Mid n l
  | [], _, _, _ => fun e h => absurd h (by simp)
  | [e], _, _, _ => fun e h => absurd h (by simp)
  | e :: f :: r, u, v, w => by
    obtain ⟨he, hs, w2⟩ := w
    intro x hx
    have dl : (e :: f :: r).dropLast = e :: (f :: r).dropLast := rfl
    rw [dl] at hx
    rcases List.mem_cons.mp hx with rfl | hx
    · exact (hE x he).2
    · exact mid_all hE w2 x hx
theorem fw_le {E : List Edge} {n : Nat} (hE : VEd E n) (hd : ∀ v, v < n → ∀ x, fw E n v v = some x → 0 ≤ x) {u v : Nat} {l : List Edge} (hu : u < n) (hv : v < n) (w : Walk E u v l) : ∃ y, fw E n u v = some y ∧ y ≤ wt l := fw_up hd u v l hu hv w (mid_all hE w)
theorem fw_noneg {E : List Edge} {n : Nat} (hE : VEd E n) (hd : ∀ v, v < n → ∀ x, fw E n v v = some x → 0 ≤ x) : NoNeg E := fun u l w => by
  by_cases hu : u < n
  · obtain ⟨y, y1, y2⟩ := fw_le hE hd hu hu w
    have := hd u hu y y1
    omega
  · cases l with
    | nil => exact Int.le_refl 0
    | cons e r =>
      obtain ⟨he, hs, _⟩ := w
      have := (hE e he).1
      omega
theorem fw_neg {E : List Edge} {n v : Nat} {x : Int} (h : fw E n v v = some x) (hx : x < 0) : ¬ NoNeg E := fun nn => by
  obtain ⟨l, w, e⟩ := fr2_fw E n v v x h
  have := nn v l w
  omega
theorem fw_diag {E : List Edge} {n v : Nat} (hv : v < n) : ∃ x, fw E n v v = some x ∧ x ≤ 0 := by
  have h0 : Lo (fw E n) (fwDiag n) := (lo_later (n := n) (F := fwStart E n) 0 n (by omega)).trans (lo_fold lo_edge E (fwDiag n))
  exact h0 v v 0 (by unfold fwDiag; rw [if_pos ⟨rfl, hv⟩])
theorem fw_in {E : List Edge} {n u v : Nat} (hE : VEd E n) (hu : u < n) {x : Int} (h : fw E n u v = some x) : v < n := by
  obtain ⟨l, w, e⟩ := fr2_fw E n u v x h
  have := w.bd hE l.length hu
  have z : nd u l l.length = v := (by
    have := (w.cut l.length).2
    rw [List.drop_length] at this
    exact this)
  rw [z] at this
  exact this
/-- it is the relaxed distance -/
theorem fw_dist {E : List Edge} {n : Nat} (hE : VEd E n) (hN : NoNeg E) (hd : ∀ v, v < n → ∀ x, fw E n v v = some x → 0 ≤ x) {u v : Nat} (hu : u < n) : fw E n u v = (relax E n ⟨put (fun _ => none) u 0, fun _ => none, none⟩).d v := by
  have h0 : Dom (put (fun _ => none) u 0) n := fun v y hy => by
    unfold put at hy
    split at hy
    · omega
    · cases hy
  have n1 : 1 ≤ n := by omega
  have t := relax_tidy n ⟨put (fun _ => none) u 0, fun _ => none, none⟩ n1 (conv hE hN h0)
  have f : From E (put (fun _ => none) u 0) (relax E n ⟨put (fun _ => none) u 0, fun _ => none, none⟩).d := relax_from n _ fun v y hy => ⟨v, y, [], hy, rfl, by show y = y + 0; omega⟩
  obtain ⟨d0, e0, l0⟩ := relax_le (E := E) n ⟨put (fun _ => none) u 0, fun _ => none, none⟩ 0 (v := u) (by show put (fun _ => none) u 0 u = some 0; unfold put; rw [if_pos rfl])
  have up : ∀ y, (relax E n ⟨put (fun _ => none) u 0, fun _ => none, none⟩).d v = some y → ∃ x, fw E n u v = some x ∧ x ≤ y := fun y hy => by
    obtain ⟨u', a, l, ha, w, e⟩ := f v y hy
    unfold put at ha
    split at ha
    · rename_i z
      subst z
      cases ha
      have hv : v < n := by
        have := w.bd hE l.length hu
        have z : nd u' l l.length = v := (by
          have := (w.cut l.length).2
          rw [List.drop_length] at this
          exact this)
        rw [z] at this
        exact this
      obtain ⟨x, x1, x2⟩ := fw_le hE hd hu hv w
      exact ⟨x, x1, by omega⟩
    · cases ha
  have lo : ∀ x, fw E n u v = some x → ∃ y, (relax E n ⟨put (fun _ => none) u 0, fun _ => none, none⟩).d v = some y ∧ y ≤ x := fun x hx => by
    obtain ⟨l, w, e⟩ := fr2_fw E n u v x hx
    obtain ⟨y, y1, y2⟩ := t.walk w e0
    exact ⟨y, y1, by omega⟩
  cases hx : fw E n u v with
  | none =>
    cases hy : (relax E n ⟨put (fun _ => none) u 0, fun _ => none, none⟩).d v with
    | none => rfl
    | some y =>
      obtain ⟨x, x1, _⟩ := up y hy
      rw [hx] at x1; cases x1
  | some x =>
    obtain ⟨y, y1, y2⟩ := lo x hx
    obtain ⟨x', x1, x2⟩ := up y y1
    rw [hx] at x1
    cases x1
    rw [y1]
    have : x = y := by omega
    rw [this]
end Bf

set_option maxRecDepth 100000
set_option maxHeartbeats 1000000
/-! dicts whose keys are pairs of nodes -/
namespace Ev
open PySem
abbrev k2 (u v : Nat) : D := .tup [.int (u : Nat), .int (v : Nat)]
structure MapT (kvs : List (D × D)) (F : Nat → Nat → Option Int) : Prop where
  ks : ∀ p ∈ kvs, isTKey p.1 = true
  at_ : ∀ u v : Nat, dget kvs (k2 u v) = (F u v).map D.int
def put2 (F : Nat → Nat → Option Int) (u v : Nat) (x : Int) : Nat → Nat → Option Int := fun a b => if a = u ∧ b = v then some x else F a b
theorem MapT.nil : MapT [] (fun _ _ => none) := ⟨fun _ h => absurd h (by simp), fun _ _ => rfl⟩
theorem k2_inj {a b u v : Nat} : k2 a b = k2 u v ↔ a = u ∧ b = v := by
  constructor
  · intro h
    simp only [k2, D.tup.injEq, List.cons.injEq, D.int.injEq, and_true] at h
    omega
  · rintro ⟨rfl, rfl⟩; rfl
section
variable {kvs : List (D × D)} {F : Nat → Nat → Option Int}
theorem dput_tkeys {kvs : List (D × D)} {k v : D} (h : ∀ p ∈ kvs, isTKey p.1 = true) (hk : isTKey k = true) : ∀ p ∈ dput kvs k v, isTKey p.1 = true := by
  unfold dput
  split
  · intro p hp
    obtain ⟨q, hq, rfl⟩ := List.mem_map.mp hp
    split
    · exact h q hq
    · exact h q hq
  · intro p hp
    rcases List.mem_append.mp hp with hp | hp
    · exact h p hp
    · rw [List.mem_singleton.mp hp]; exact hk
theorem MapT.put (m : MapT kvs F) (u v : Nat) (x : Int) : MapT (dput kvs (k2 u v) (.int x)) (put2 F u v x) := by
  refine ⟨dput_tkeys m.ks rfl, fun a b => ?_⟩
  rw [dget_put]
  unfold put2
  by_cases h : a = u ∧ b = v
  · rw [if_pos (k2_inj.mpr h), if_pos h]; rfl
  · rw [if_neg (fun z => h (k2_inj.mp z)), if_neg h]
    exact m.at_ a b
theorem MapT.fits (m : MapT kvs F) (u v : Nat) : keyFits kvs (k2 u v) = true := by
  have h : kvs.all (fun p => isTKey p.1) = true := List.all_eq_true.mpr m.ks
  show ((false && _) || (isTKey (k2 u v) && kvs.all fun p => isTKey p.1)) = true
  rw [h]; rfl
theorem MapT.ok (m : MapT kvs F) (u v : Nat) : dOk false kvs (k2 u v) = true := by
  unfold dOk
  rw [m.fits]; rfl
theorem MapT.item (m : MapT kvs F) {h : Hh} {a : Nat} (e : h[a]? = some (.dic false kvs)) (u v : Nat) : getItem (.ref a) (k2 u v) h = (F u v).map D.int := by
  unfold getItem
  dsimp only
  rw [e]
  dsimp only
  rw [m.ok]
  exact m.at_ u v
theorem MapT.isin (m : MapT kvs F) {h : Hh} {a : Nat} (e : h[a]? = some (.dic false kvs)) (u v : Nat) : cmpop .In (k2 u v) (.ref a) h = some (F u v).isSome := by
  show inOp (k2 u v) (.ref a) h = _
  unfold inOp
  dsimp only
  rw [e]
  dsimp only
  rw [m.ok, if_pos rfl, m.at_ u v]
  cases F u v <;> rfl
theorem MapT.set (m : MapT kvs F) {h : Hh} {a : Nat} (e : h[a]? = some (.dic false kvs)) (hl : kvs.length < lim) (u v : Nat) (x : D) : setItem (.ref a) (k2 u v) x h = .ok () (h.set a (.dic false (dput kvs (k2 u v) x))) := by
  unfold setItem
  dsimp only
  rw [e]
  dsimp only
  rw [m.fits, decide_eq_true hl]; rfl
theorem MapT.get1 (m : MapT kvs F) {o arg : Sh} {σ : Env} {h : Hh} {a u v : Nat} (ho : o σ h = .ok (.ref a) h) (e : h[a]? = some (.dic false kvs)) (e1 : arg σ h = .ok (k2 u v) h) : eBM .get o [arg] σ h = .ok (optD (F u v)) h := by
  have k : kdOf h (.ref a) = some .dic := by unfold kdOf; dsimp only; rw [e]
  unfold eBM
  rw [ho, Res.bind_ok, k]
  show (if bmK .dic .get then (eArgs [arg] σ h).bind fun xs h2 => if kdOf h2 (.ref a) = some .dic then bmeth .get (.ref a) xs h2 else .bad else .bad) = _
  have b1 : bmK .dic .get = true := rfl
  rw [if_pos b1]
  simp only [eArgs_cons, eArgs_nil, e1, Res.bind_ok]
  rw [if_pos k]
  have : bmeth .get (.ref a) [k2 u v] h = .ok ((dget kvs (k2 u v)).getD .non) h := by
    unfold bmeth
    dsimp only
    rw [e]
    exact if_pos (m.ok u v)
  rw [this, m.at_]
  cases F u v <;> rfl
theorem MapT.get2 (m : MapT kvs F) {o arg arg2 : Sh} {σ : Env} {h : Hh} {a u v : Nat} {d : Int} (ho : o σ h = .ok (.ref a) h) (e : h[a]? = some (.dic false kvs)) (e1 : arg σ h = .ok (k2 u v) h) (e2 : arg2 σ h = .ok (.int d) h) : eBM .get o [arg, arg2] σ h = .ok (.int ((F u v).getD d)) h := by
  have k : kdOf h (.ref a) = some .dic := by unfold kdOf; dsimp only; rw [e]
  unfold eBM
  rw [ho, Res.bind_ok, k]
  show (if bmK .dic .get then (eArgs [arg, arg2] σ h).bind fun xs h2 => if kdOf h2 (.ref a) = some .dic then bmeth .get (.ref a) xs h2 else .bad else .bad) = _
  have b1 : bmK .dic .get = true := rfl
  rw [if_pos b1]
  simp only [eArgs_cons, eArgs_nil, e1, e2, Res.bind_ok]
  rw [if_pos k]
  have : bmeth .get (.ref a) [k2 u v, .int d] h = .ok ((dget kvs (k2 u v)).getD (.int d)) h := by
    unfold bmeth
    dsimp only
    rw [e]
    exact if_pos (m.ok u v)
  rw [this, m.at_]
  cases F u v <;> rfl
end
theorem eDicP_ap (a : Sh) (σ : Env) (h : Hh) : eDicP a σ h = (a σ h).bind dicP := rfl
/-- {(v, v): 0} -/
def diag (n : Nat) : Nat → Nat → Option Int := fun u v => if u = v ∧ u < n then some 0 else none
def diagL (n : Nat) : List (D × D) := ((List.range n).map fun v => ((k2 v v, D.int 0) : D × D)).foldl (fun acc p => dput acc p.1 p.2) []
theorem diag_map : ∀ n : Nat, MapT (diagL n) (diag n) ∧ (diagL n).length ≤ n
  | 0 => by
    refine ⟨?_, Nat.le_refl _⟩
    have : diag 0 = fun _ _ => none := by funext u v; unfold diag; rw [if_neg (by omega)]
    rw [this]; exact MapT.nil
  | n + 1 => by
    obtain ⟨m, l⟩ := diag_map n
    have e : diagL (n + 1) = dput (diagL n) (k2 n n) (.int 0) := by
      unfold diagL
      rw [List.range_succ, List.map_append, List.foldl_append]; rfl
    rw [e]
    refine ⟨?_, by have := dput_len (diagL n) (k2 n n) (.int 0); omega⟩
    have := m.put n n 0
    have ef : put2 (diag n) n n 0 = diag (n + 1) := by
      funext u v
      unfold put2 diag
      by_cases h : u = n ∧ v = n
      · rw [if_pos h, if_pos (by omega)]
      · rw [if_neg h]
        by_cases h2 : u = v ∧ u < n
        · rw [if_pos h2, if_pos (by omega)]
        · rw [if_neg h2, if_neg (by omega)]
    rw [← ef]; exact this
theorem pairs_range : ∀ l : List Nat, mapO pairD (l.map fun v => D.tup [k2 v v, .int 0]) = some (l.map fun v => ((k2 v v, D.int 0) : D × D))
  | [] => rfl
  | a :: r => by
    rw [List.map_cons, List.map_cons]
    unfold mapO
    have : pairD (D.tup [k2 a a, .int 0]) = some (k2 a a, .int 0) := rfl
    rw [this]
    dsimp only
    rw [pairs_range r]
theorem dicP_diag {h : Hh} {a n : Nat} {fz : Bool} (e : h[a]? = some (.lst fz ((List.range n).map fun v => D.tup [k2 v v, .int 0]))) (n1 : 1 ≤ n) (n2 : n ≤ 1000) : dicP (.ref a) h = alloc (.dic false (diagL n)) h := by
  unfold dicP
  rw [listOf_ref e]
  have e1 : (some ((List.range n).map fun v => D.tup [k2 v v, .int 0])).bind (mapO pairD) = some ((List.range n).map fun v => ((k2 v v, D.int 0) : D × D)) := pairs_range _
  rw [e1]
  dsimp only
  have c1 : ((List.range n).map fun v => ((k2 v v, D.int 0) : D × D)).all (fun p => isTKey p.1) = true := by
    rw [List.all_eq_true]
    intro p hp
    obtain ⟨v, _, rfl⟩ := List.mem_map.mp hp
    rfl
  have c2 : ((List.range n).map fun v => ((k2 v v, D.int 0) : D × D)).isEmpty = false := by
    cases n with
    | zero => omega
    | succ n => rw [List.range_succ, List.map_append]; simp
  have c3 : ((List.range n).map fun v => ((k2 v v, D.int 0) : D × D)).length ≤ lim := by rw [List.length_map, List.length_range, lmE]; omega
  rw [c1, c2, decide_eq_true c3]
  rfl
end Ev

set_option maxRecDepth 100000
set_option maxHeartbeats 1000000
/-! a solution violates no constraint -/
namespace Ev
open PySem
theorem sst_dom {n s : Nat} (hs : s < n) : Bf.Dom (sst s).d n := fun v y hy => by
  have hy : Bf.put (fun _ => none) s (0 : Int) v = some y := hy
  unfold Bf.put at hy
  split at hy
  · omega
  · cases hy
theorem zer_dom (n : Nat) (p : Nat → Bool) : Bf.Dom (zer n p) n := fun v y hy => by
  unfold zer at hy
  split at hy
  · rename_i h; exact h.1
  · cases hy
theorem dist1_tidy {E : List Bf.Edge} {n s : Nat} (hE : VE E n) (hN : Bf.NoNeg E) (hs : s < n) : Bf.Tidy E (dist1 E n s) := Bf.relax_tidy n (sst s) (by omega) (Bf.conv hE hN (sst_dom hs))
theorem dist1_self {E : List Bf.Edge} {n s : Nat} (hN : Bf.NoNeg E) (hs : s < n) : dist1 E n s s = some 0 := by
  obtain ⟨y, y1, y2⟩ := Bf.relax_le (E := E) n (sst s) 0 (v := s) (by show Bf.put (fun _ => none) s 0 s = some 0; unfold Bf.put; rw [if_pos rfl])
  have f : Bf.From E (sst s).d (dist1 E n s) := Bf.relax_from n (sst s) fun v y hy => ⟨v, y, [], hy, rfl, by show y = y + 0; omega⟩
  obtain ⟨u, a, l, ha, w, e⟩ := f s y y1
  have ha : Bf.put (fun _ => none) s (0 : Int) u = some a := ha
  unfold Bf.put at ha
  split at ha
  · rename_i z
    cases ha
    rw [z] at w
    have := hN s l w
    have : y = 0 := by omega
    rw [← this]; exact y1
  · cases ha
theorem noneg_sub {E F : List Bf.Edge} (h : ∀ e ∈ F, e ∈ E) (hN : Bf.NoNeg E) : Bf.NoNeg F := fun u l w => hN u l (mono l u u w)
where
  mono : ∀ (l : List Bf.Edge) (u v : Nat), Bf.Walk F u v l → Bf.Walk E u v l
    | [], _, _, w => w
    | e :: r, u, v, w => ⟨h e w.1, w.2.1, mono r _ v w.2.2⟩
theorem maxI_ge : ∀ (l : List Int) (x : Int), x ∈ l → x ≤ maxI l
  | [a], x, h => by rw [List.mem_singleton.mp h]; exact Int.le_refl a
  | a :: b :: r, x, h => by
    show x ≤ max a (maxI (b :: r))
    rcases List.mem_cons.mp h with rfl | h
    · omega
    · have := maxI_ge (b :: r) x h
      omega
theorem sol_ok {E : List Bf.Edge} {n s : Nat} (hE : VE E n) (hN : Bf.NoNeg E) (hs : s < n) : ∀ e ∈ E, solN E n s e.2.1 - solN E n s e.1 ≤ e.2.2 := fun e he => by
  have t1 := dist1_tidy hE hN hs
  have vI : VE (inE E n s) n := fun x hx => hE x (List.mem_filter.mp (List.mem_filter.mp hx).1).1
  have t2 : Bf.Tidy (inE E n s) (dist2 E n s) := Bf.relax_tidy n _ (by omega) (Bf.conv vI (noneg_sub (fun x hx => (List.mem_filter.mp (List.mem_filter.mp hx).1).1) hN) (zer_dom n _))
  unfold solN
  cases h1 : dist1 E n s e.1 with
  | some x =>
    obtain ⟨y, y1, y2⟩ := t1 e he x h1
    rw [y1]
    show y - x ≤ e.2.2
    omega
  | none =>
    have ho : e ∈ outE E n s := List.mem_filter.mpr ⟨he, by rw [h1]; rfl⟩
    cases h2 : dist1 E n s e.2.1 with
    | some y =>
      have hg : gapF E n s e = some (y - e.2.2 - (dist2 E n s e.1).getD 0) := by unfold gapF; rw [h2]
      have : y - e.2.2 - (dist2 E n s e.1).getD 0 ≤ shiftN E n s := maxI_ge _ _ (List.mem_cons_of_mem _ (List.mem_filterMap.mpr ⟨e, ho, hg⟩))
      show y - ((dist2 E n s e.1).getD 0 + shiftN E n s) ≤ e.2.2
      omega
    | none =>
      have hi : e ∈ inE E n s := List.mem_filter.mpr ⟨ho, by rw [h2]; rfl⟩
      have hz : (zer n (fun v => (dist1 E n s v).isNone) e.1).isSome = true := by
        unfold zer
        rw [if_pos ⟨(hE e he).1, by show (dist1 E n s e.1).isNone = true; rw [h1]; rfl⟩]; rfl
      obtain ⟨a, ha⟩ : ∃ a, dist2 E n s e.1 = some a := Option.isSome_iff_exists.mp (Bf.relax_keep (E := inE E n s) n ⟨zer n (fun v => (dist1 E n s v).isNone), fun _ => none, none⟩ hz)
      obtain ⟨b, b1, b2⟩ := t2 e hi a ha
      rw [ha, b1]
      show b + shiftN E n s - (a + shiftN E n s) ≤ e.2.2
      omega
theorem sol_self {E : List Bf.Edge} {n s : Nat} (hN : Bf.NoNeg E) (hs : s < n) : solN E n s s = 0 := by unfold solN; rw [dist1_self hN hs]
theorem sol_dist {E : List Bf.Edge} {n s t : Nat} {x : Int} (h : dist1 E n s t = some x) : solN E n s t = x := by unfold solN; rw [h]
/-- the law's table is the distance -/
theorem fw_dist1 {E : List Bf.Edge} {n u v : Nat} (hE : VE E n) (hd : ∀ v, v < n → ∀ x, Bf.fw E n v v = some x → 0 ≤ x) (hu : u < n) : Bf.fw E n u v = dist1 E n u v := Bf.fw_dist hE (Bf.fw_noneg hE hd) hd hu
theorem iOf_ints {f : Nat → Int} {n i : Nat} (hi : i < n) : iOf ((List.range n).map fun t => D.int (f t)) i = f i := by
  unfold iOf
  rw [List.getElem?_map, List.getElem?_range hi]; rfl
theorem satL_sol {E : List Bf.Edge} {n s : Nat} (hE : VE E n) (hN : Bf.NoNeg E) (hs : s < n) : satL n E ((List.range n).map fun t => D.int (solN E n s t)) = true := by
  unfold satL
  rw [List.length_map, List.length_range, decide_eq_true rfl, Bool.true_and, Bool.and_eq_true, List.all_eq_true, List.all_eq_true]
  refine ⟨fun x hx => ?_, fun e he => ?_⟩
  · obtain ⟨t, _, rfl⟩ := List.mem_map.mp hx; rfl
  · unfold edOk
    rw [iOf_ints (hE e he).1, iOf_ints (hE e he).2]
    exact decide_eq_true (sol_ok hE hN hs e he)
end Ev

set_option maxRecDepth 100000
set_option maxHeartbeats 1000000
/-! _law_random_edges and _law_distances: the same text in k21, k23 and k25 -/
namespace Ev
open PySem
def w18_3b_1 (cf : CF) : ShS := (sSeq (sExpr (eBM .append (eVar 5) [(eTup [(eVar 7), (eVar 8), (eBin .Sub (eCall cf 17 [(eVar 0), (eVar 3)]) (eVar 4))])])) sPass)
def w18_3b (cf : CF) : ShS := (sSeq (sAsg (tTup [(tName 7), (tName 8)]) (eTup [(eCall cf 17 [(eVar 0), (eVar 1)]), (eCall cf 17 [(eVar 0), (eVar 1)])])) (w18_3b_1 cf))
def w18_4 (cf : CF) : ShS := (sSeq (sRet (eBin .Add (eVar 5) (eSlice (eVar 5) none (some (eCall cf 17 [(eVar 0), (eConst (.int 2))]))))) sPass)
def w18_3 (cf : CF) : ShS := (sSeq (sFor (iRange [(eCall cf 17 [(eVar 0), (eBin .Add (eVar 2) (eConst (.int 1)))])]) (tName 6) (w18_3b cf)) (w18_4 cf))
def w18_2 (cf : CF) : ShS := (sSeq (sAsg (tName 5) (eLst [])) (w18_3 cf))
def w18_1 (cf : CF) : ShS := (sSeq (sAsg (tName 4) (eItem (eLst [(eBin .FloorDiv (eVar 3) (eConst (.int 2))), (eConst (.int 0)), (eBin .FloorDiv (eVar 3) (eConst (.int 3)))]) (eCall cf 17 [(eVar 0), (eConst (.int 3))]))) (w18_2 cf))
def w18 (cf : CF) : ShS := (sSeq (sAsg (tName 3) (eItem (eLst [(eConst (.int 4)), (eConst (.int 12)), (eBin .Pow (eConst (.int 10)) (eConst (.int 30))), (eBin .Pow (eConst (.int 10)) (eConst (.int 55)))]) (eCall cf 17 [(eVar 0), (eConst (.int 4))]))) (w18_1 cf))
def w19_2b_0b_0b_0t_1 (cf : CF) : ShS := (sSeq (sAsg (tItem (eVar 2) (eTup [(eVar 3), (eVar 4)])) (eBF .min2 [(eVar 8), (eBM .get (eVar 2) [(eTup [(eVar 3), (eVar 4)]), (eVar 8)])])) sPass)
def w19_2b_0b_0b_0t (cf : CF) : ShS := (sSeq (sAsg (tName 8) (eBin .Add (eItem (eVar 2) (eTup [(eVar 3), (eVar 6)])) (eItem (eVar 2) (eTup [(eVar 6), (eVar 4)])))) (w19_2b_0b_0b_0t_1 cf))
def w19_2b_0b_0b (cf : CF) : ShS := (sSeq (sIf (eAnd (eCmp .In (eTup [(eVar 3), (eVar 6)]) (eVar 2)) (eCmp .In (eTup [(eVar 6), (eVar 4)]) (eVar 2))) (w19_2b_0b_0b_0t cf) sPass) sPass)
def w19_2b_0b (cf : CF) : ShS := (sSeq (sFor (iRange [(eVar 0)]) (tName 4) (w19_2b_0b_0b cf)) sPass)
def w19_2b (cf : CF) : ShS := (sSeq (sFor (iRange [(eVar 0)]) (tName 3) (w19_2b_0b cf)) sPass)
def w19_3 (cf : CF) : ShS := (sSeq (sRet (eIf (eBF .any [(eLc (iRange [(eVar 0)]) [7] (tName 7) (eConst (.bl true)) (eCmp .Lt (eItem (eVar 2) (eTup [(eVar 7), (eVar 7)])) (eConst (.int 0))))]) (eConst .non) (eVar 2))) sPass)
def w19_2 (cf : CF) : ShS := (sSeq (sFor (iRange [(eVar 0)]) (tName 6) (w19_2b cf)) (w19_3 cf))
def w19_1 (cf : CF) : ShS := (sSeq (sFor (iVal (eVar 1)) (tTup [(tName 3), (tName 4), (tName 5)]) (sSeq (sAsg (tItem (eVar 2) (eTup [(eVar 3), (eVar 4)])) (eBF .min2 [(eVar 5), (eBM .get (eVar 2) [(eTup [(eVar 3), (eVar 4)]), (eVar 5)])])) sPass)) (w19_2 cf))
def w19 (cf : CF) : ShS := (sSeq (sAsg (tName 2) (eDicP (eLc (iRange [(eVar 0)]) [7] (tName 7) (eConst (.bl true)) (eTup [(eTup [(eVar 7), (eVar 7)]), (eConst (.int 0))])))) (w19_1 cf))
/-- what a draw does, said of the calls -/
def DrawOk (cf : CF) : Prop := ∀ (s : Nat) (L : Int) (h : Hh) (Q : D → Hh → Prop), Src h s → 0 < L → L < 10 ^ 70 → (∀ r h', 0 ≤ r → r < L → Fr [s] h h' → Src h' s → h'.length = h.length → Q (.int r) h') → wpR (cf 17 [.ref s, .int L] h) Q
def BEw (E : List Bf.Edge) : Prop := ∀ e ∈ E, -(10 ^ 55) ≤ e.2.2 ∧ e.2.2 ≤ 10 ^ 55
theorem cut_to (xs : List D) (a : Nat) : cutD xs none (some (a : Int)) = xs.take a := by
  unfold cutD
  rw [HT.sIx_none, HT.sIx_nat, List.drop_zero, Nat.sub_zero]
  rcases Nat.le_total a xs.length with z | z
  · rw [Nat.min_eq_left z]
  · rw [Nat.min_eq_right z, List.take_of_length_le z, List.take_of_length_le (Nat.le_refl _)]
theorem slice_al {h : Hh} {a : Nat} {fz : Bool} {xs : List D} (e : h[a]? = some (.lst fz xs)) (lo hi : Option Int) : getSlice (.ref a) lo hi h = alloc (.lst false (cutD xs lo hi)) h := by
  unfold getSlice; dsimp only; rw [e]; rfl
theorem w18_wp {cf : CF} (dr : DrawOk cf) {s n : Nat} {L : Int} {h : Hh} (hs : Src h s) (n1 : 1 ≤ n) (n2 : n ≤ 8) (l0 : 0 ≤ L) (l1 : L ≤ 14) {Q : D → Hh → Prop}
    (q : ∀ b E h', h'[b]? = some (.lst false (E.map edD)) → VE E n → BEw E → E.length ≤ 15 → Fr [s] h h' → Src h' s → h.length ≤ b → Q (.ref b) h') :
    wpR (w18 cf [some (.ref s), some (.int (n : Nat)), some (.int L), none, none, none, none, none, none] h).res Q := by
  have p30 : ∀ h, binop .Pow (.int 10) (.int 30) h = .ok (.int (10 ^ 30)) h := fun h => pow_ten 30 (by decide) h
  have p55 : ∀ h, binop .Pow (.int 10) (.int 55) h = .ok (.int (10 ^ 55)) h := fun h => pow_ten 55 (by decide) h
  have sl := hs.lt
  unfold w18
  simp only [wpR_ok, wpR_bind, wpS_stm, wpS_seq, wpS_nx, wpS_rt, wpR_res, wpR_noExc, eConst_ap, eVar_z, eVar_s, eBin_ap, eUn_ap, eAnd_ap, eOr_ap, eIf_ap, eCmp_ap, eChain_ap, eArgs_nil, eArgs_cons, eTup_ap, eLst_wp, eItem_ap, eEnd_none, eEnd_some, toI_int, eSlice_ap, eBF_ap, eCall_ap, eCallK_ap, eIsI_ap, sPass_ap, sExpr_ap, sRet_ap, sRetN_ap, sAsg_ap, sIf_ap, sSeq_ap, tName_ap, tEach_nil, tEach_cons, tTup_ap, tItem_ap, pick_nil, pick_pos, pick_kw, pick_dfl, eAttr_ap, eMth_ap, eMk_ap, tAttr_ap, pF_some, isNon_non, eDicEn_ap, eRev_ap, List.set_cons_zero, List.set_cons_succ, List.length_cons, List.length_nil, truth_bl, truth_non, not_bl, not_non, tst_if, tstS_if, pBl_some, pD_some, add_int, sub_int, neg_int, lt_int, le_int, gt_int, ge_int, eq_int, ne_int, if_true, Bool.not_true, Bool.not_false, Bool.false_eq_true, if_false, and_self, List.getElem?_cons_zero, List.getElem?_cons_succ, Option.getD_some, Option.bind_some, Option.map_some, p30, p55]
  refine alloc_wp fun b1 h1 e1 fr1 lb1 => ?_
  have hs1 := hs.fr fr1 (by simp)
  refine dr s 4 h1 _ hs1 (by decide) (by decide) fun r1 h2 a0 a1 fr2 hs2 l2 => ?_
  have e12 := fr2.get _ _ (by simp; omega) e1
  obtain ⟨sc, es, s0, s1⟩ : ∃ sc : Int, getItem (.ref b1) (.int r1) h2 = some (.int sc) ∧ 4 ≤ sc ∧ sc ≤ 10 ^ 55 := by
    obtain ⟨d, ed, hd⟩ := atD_in (xs := [.int 4, .int 12, .int (10 ^ 30), .int (10 ^ 55)]) (r := r1) a0 a1
    rw [item_lst e12, ed]
    simp only [List.mem_cons, List.not_mem_nil, or_false] at hd
    rcases hd with rfl | rfl | rfl | rfl
    · exact ⟨4, rfl, by decide, by decide⟩
    · exact ⟨12, rfl, by decide, by decide⟩
    · exact ⟨10 ^ 30, rfl, by decide, by decide⟩
    · exact ⟨10 ^ 55, rfl, by decide, by decide⟩
  have f2 : ∀ h, binop .FloorDiv (.int sc) (.int 2) h = .ok (.int (sc / 2)) h := fun h => rfl
  have f3 : ∀ h, binop .FloorDiv (.int sc) (.int 3) h = .ok (.int (sc / 3)) h := fun h => rfl
  simp only [wpR_ok, wpR_bind, wpS_stm, wpS_seq, wpS_nx, wpS_rt, wpR_res, wpR_noExc, eConst_ap, eVar_z, eVar_s, eBin_ap, eUn_ap, eAnd_ap, eOr_ap, eIf_ap, eCmp_ap, eChain_ap, eArgs_nil, eArgs_cons, eTup_ap, eLst_wp, eItem_ap, eEnd_none, eEnd_some, toI_int, eSlice_ap, eBF_ap, eCall_ap, eCallK_ap, eIsI_ap, sPass_ap, sExpr_ap, sRet_ap, sRetN_ap, sAsg_ap, sIf_ap, sSeq_ap, tName_ap, tEach_nil, tEach_cons, tTup_ap, tItem_ap, pick_nil, pick_pos, pick_kw, pick_dfl, eAttr_ap, eMth_ap, eMk_ap, tAttr_ap, pF_some, isNon_non, eDicEn_ap, eRev_ap, List.set_cons_zero, List.set_cons_succ, List.length_cons, List.length_nil, truth_bl, truth_non, not_bl, not_non, tst_if, tstS_if, pBl_some, pD_some, add_int, sub_int, neg_int, lt_int, le_int, gt_int, ge_int, eq_int, ne_int, if_true, Bool.not_true, Bool.not_false, Bool.false_eq_true, if_false, and_self, List.getElem?_cons_zero, List.getElem?_cons_succ, Option.getD_some, Option.bind_some, Option.map_some, es]
  unfold w18_1
  simp only [wpR_ok, wpR_bind, wpS_stm, wpS_seq, wpS_nx, wpS_rt, wpR_res, wpR_noExc, eConst_ap, eVar_z, eVar_s, eBin_ap, eUn_ap, eAnd_ap, eOr_ap, eIf_ap, eCmp_ap, eChain_ap, eArgs_nil, eArgs_cons, eTup_ap, eLst_wp, eItem_ap, eEnd_none, eEnd_some, toI_int, eSlice_ap, eBF_ap, eCall_ap, eCallK_ap, eIsI_ap, sPass_ap, sExpr_ap, sRet_ap, sRetN_ap, sAsg_ap, sIf_ap, sSeq_ap, tName_ap, tEach_nil, tEach_cons, tTup_ap, tItem_ap, pick_nil, pick_pos, pick_kw, pick_dfl, eAttr_ap, eMth_ap, eMk_ap, tAttr_ap, pF_some, isNon_non, eDicEn_ap, eRev_ap, List.set_cons_zero, List.set_cons_succ, List.length_cons, List.length_nil, truth_bl, truth_non, not_bl, not_non, tst_if, tstS_if, pBl_some, pD_some, add_int, sub_int, neg_int, lt_int, le_int, gt_int, ge_int, eq_int, ne_int, if_true, Bool.not_true, Bool.not_false, Bool.false_eq_true, if_false, and_self, List.getElem?_cons_zero, List.getElem?_cons_succ, Option.getD_some, Option.bind_some, Option.map_some, f2, f3]
  refine alloc_wp fun b2 h3 e3 fr3 lb2 => ?_
  have hs3 := hs2.fr fr3 (by simp)
  refine dr s 3 h3 _ hs3 (by decide) (by decide) fun r2 h4 c0 c1 fr4 hs4 l4 => ?_
  have sl2 := hs2.lt
  have e34 := fr4.get _ _ (by simp; omega) e3
  obtain ⟨of, eo, o0, o1⟩ : ∃ of : Int, getItem (.ref b2) (.int r2) h4 = some (.int of) ∧ 0 ≤ of ∧ of ≤ sc := by
    obtain ⟨d, ed, hd⟩ := atD_in (xs := [.int (sc / 2), .int 0, .int (sc / 3)]) (r := r2) c0 c1
    rw [item_lst e34, ed]
    simp only [List.mem_cons, List.not_mem_nil, or_false] at hd
    rcases hd with rfl | rfl | rfl
    · exact ⟨sc / 2, rfl, by omega, by omega⟩
    · exact ⟨0, rfl, by omega, by omega⟩
    · exact ⟨sc / 3, rfl, by omega, by omega⟩
  simp only [wpR_ok, wpR_bind, wpS_stm, wpS_seq, wpS_nx, wpS_rt, wpR_res, wpR_noExc, eConst_ap, eVar_z, eVar_s, eBin_ap, eUn_ap, eAnd_ap, eOr_ap, eIf_ap, eCmp_ap, eChain_ap, eArgs_nil, eArgs_cons, eTup_ap, eLst_wp, eItem_ap, eEnd_none, eEnd_some, toI_int, eSlice_ap, eBF_ap, eCall_ap, eCallK_ap, eIsI_ap, sPass_ap, sExpr_ap, sRet_ap, sRetN_ap, sAsg_ap, sIf_ap, sSeq_ap, tName_ap, tEach_nil, tEach_cons, tTup_ap, tItem_ap, pick_nil, pick_pos, pick_kw, pick_dfl, eAttr_ap, eMth_ap, eMk_ap, tAttr_ap, pF_some, isNon_non, eDicEn_ap, eRev_ap, List.set_cons_zero, List.set_cons_succ, List.length_cons, List.length_nil, truth_bl, truth_non, not_bl, not_non, tst_if, tstS_if, pBl_some, pD_some, add_int, sub_int, neg_int, lt_int, le_int, gt_int, ge_int, eq_int, ne_int, if_true, Bool.not_true, Bool.not_false, Bool.false_eq_true, if_false, and_self, List.getElem?_cons_zero, List.getElem?_cons_succ, Option.getD_some, Option.bind_some, Option.map_some, eo]
  unfold w18_2
  simp only [wpR_ok, wpR_bind, wpS_stm, wpS_seq, wpS_nx, wpS_rt, wpR_res, wpR_noExc, eConst_ap, eVar_z, eVar_s, eBin_ap, eUn_ap, eAnd_ap, eOr_ap, eIf_ap, eCmp_ap, eChain_ap, eArgs_nil, eArgs_cons, eTup_ap, eLst_wp, eItem_ap, eEnd_none, eEnd_some, toI_int, eSlice_ap, eBF_ap, eCall_ap, eCallK_ap, eIsI_ap, sPass_ap, sExpr_ap, sRet_ap, sRetN_ap, sAsg_ap, sIf_ap, sSeq_ap, tName_ap, tEach_nil, tEach_cons, tTup_ap, tItem_ap, pick_nil, pick_pos, pick_kw, pick_dfl, eAttr_ap, eMth_ap, eMk_ap, tAttr_ap, pF_some, isNon_non, eDicEn_ap, eRev_ap, List.set_cons_zero, List.set_cons_succ, List.length_cons, List.length_nil, truth_bl, truth_non, not_bl, not_non, tst_if, tstS_if, pBl_some, pD_some, add_int, sub_int, neg_int, lt_int, le_int, gt_int, ge_int, eq_int, ne_int, if_true, Bool.not_true, Bool.not_false, Bool.false_eq_true, if_false, and_self, List.getElem?_cons_zero, List.getElem?_cons_succ, Option.getD_some, Option.bind_some, Option.map_some]
  refine alloc_wp fun b h5 eb fr5 lb => ?_
  have hs5 := hs4.fr fr5 (by simp)
  unfold w18_3
  simp only [wpR_ok, wpR_bind, wpS_stm, wpS_seq, wpS_nx, wpS_rt, wpR_res, wpR_noExc, eConst_ap, eVar_z, eVar_s, eBin_ap, eUn_ap, eAnd_ap, eOr_ap, eIf_ap, eCmp_ap, eChain_ap, eArgs_nil, eArgs_cons, eTup_ap, eLst_wp, eItem_ap, eEnd_none, eEnd_some, toI_int, eSlice_ap, eBF_ap, eCall_ap, eCallK_ap, eIsI_ap, sPass_ap, sExpr_ap, sRet_ap, sRetN_ap, sAsg_ap, sIf_ap, sSeq_ap, tName_ap, tEach_nil, tEach_cons, tTup_ap, tItem_ap, pick_nil, pick_pos, pick_kw, pick_dfl, eAttr_ap, eMth_ap, eMk_ap, tAttr_ap, pF_some, isNon_non, eDicEn_ap, eRev_ap, List.set_cons_zero, List.set_cons_succ, List.length_cons, List.length_nil, truth_bl, truth_non, not_bl, not_non, tst_if, tstS_if, pBl_some, pD_some, add_int, sub_int, neg_int, lt_int, le_int, gt_int, ge_int, eq_int, ne_int, if_true, Bool.not_true, Bool.not_false, Bool.false_eq_true, if_false, and_self, List.getElem?_cons_zero, List.getElem?_cons_succ, Option.getD_some, Option.bind_some, Option.map_some]
  have f15 : Fr [s] h h5 := (((fr1.nil.trans fr2).trans fr3.nil).trans fr4).trans fr5.nil
  have sl4 := hs4.lt
  have l15 := f15.len
  have l45 := fr5.len
  have bs : b ≠ s := by omega
  have lhb : h.length ≤ b := by
    have := fr1.len
    have := fr3.len
    omega
  refine sFor_wp ?_
  unfold iRange
  simp only [wpR_ok, wpR_bind, wpS_stm, wpS_seq, wpS_nx, wpS_rt, wpR_res, wpR_noExc, eConst_ap, eVar_z, eVar_s, eBin_ap, eUn_ap, eAnd_ap, eOr_ap, eIf_ap, eCmp_ap, eChain_ap, eArgs_nil, eArgs_cons, eTup_ap, eLst_wp, eItem_ap, eEnd_none, eEnd_some, toI_int, eSlice_ap, eBF_ap, eCall_ap, eCallK_ap, eIsI_ap, sPass_ap, sExpr_ap, sRet_ap, sRetN_ap, sAsg_ap, sIf_ap, sSeq_ap, tName_ap, tEach_nil, tEach_cons, tTup_ap, tItem_ap, pick_nil, pick_pos, pick_kw, pick_dfl, eAttr_ap, eMth_ap, eMk_ap, tAttr_ap, pF_some, isNon_non, eDicEn_ap, eRev_ap, List.set_cons_zero, List.set_cons_succ, List.length_cons, List.length_nil, truth_bl, truth_non, not_bl, not_non, tst_if, tstS_if, pBl_some, pD_some, add_int, sub_int, neg_int, lt_int, le_int, gt_int, ge_int, eq_int, ne_int, if_true, Bool.not_true, Bool.not_false, Bool.false_eq_true, if_false, and_self, List.getElem?_cons_zero, List.getElem?_cons_succ, Option.getD_some, Option.bind_some, Option.map_some]
  refine dr s (L + 1) h5 _ hs5 (by omega) (by omega) fun r h6 r0 r1 fr6 hs6 l6 => ?_
  have rr : rng1 [.int r] h6 = .ok ⟨(List.range r.toNat).map fun k => .int ((k : Nat) : Int), none, none⟩ h6 := if_pos ⟨by rw [lmE]; omega, by omega⟩
  rw [rr]
  refine ⟨rfl, ?_⟩
  have eb6 := fr6.get _ _ (by simp [bs]) eb
  have f16 := f15.trans fr6
  refine forL_wp (fun t σ h' => ∃ E o6 o7 o8, σ = [some (.ref s), some (.int (n : Nat)), some (.int L), some (.int sc), some (.int of), some (.ref b), o6, o7, o8] ∧ h'[b]? = some (.lst false (E.map edD)) ∧ VE E n ∧ BEw E ∧ E.length = t ∧ Fr [s, b] h6 h' ∧ Src h' s) (fun _ _ _ _ => rfl) ?_ ?_ ?_
  · rintro t x σ h7 hx ⟨E, o6, o7, o8, rfl, eb7, vE, bE, lE, fr7, hs7⟩
    have ht : t < r.toNat := by
      have := (List.getElem?_eq_some_iff.mp hx).1
      rwa [List.length_map, List.length_range] at this
    unfold w18_3b
    simp only [wpR_ok, wpR_bind, wpS_stm, wpS_seq, wpS_nx, wpS_rt, wpR_res, wpR_noExc, eConst_ap, eVar_z, eVar_s, eBin_ap, eUn_ap, eAnd_ap, eOr_ap, eIf_ap, eCmp_ap, eChain_ap, eArgs_nil, eArgs_cons, eTup_ap, eLst_wp, eItem_ap, eEnd_none, eEnd_some, toI_int, eSlice_ap, eBF_ap, eCall_ap, eCallK_ap, eIsI_ap, sPass_ap, sExpr_ap, sRet_ap, sRetN_ap, sAsg_ap, sIf_ap, sSeq_ap, tName_ap, tEach_nil, tEach_cons, tTup_ap, tItem_ap, pick_nil, pick_pos, pick_kw, pick_dfl, eAttr_ap, eMth_ap, eMk_ap, tAttr_ap, pF_some, isNon_non, eDicEn_ap, eRev_ap, List.set_cons_zero, List.set_cons_succ, List.length_cons, List.length_nil, truth_bl, truth_non, not_bl, not_non, tst_if, tstS_if, pBl_some, pD_some, add_int, sub_int, neg_int, lt_int, le_int, gt_int, ge_int, eq_int, ne_int, if_true, Bool.not_true, Bool.not_false, Bool.false_eq_true, if_false, and_self, List.getElem?_cons_zero, List.getElem?_cons_succ, Option.getD_some, Option.bind_some, Option.map_some]
    refine dr s n h7 _ hs7 (by omega) (by omega) fun r1 h8 a0 a1 fr8 hs8 l8 => ?_
    refine dr s n h8 _ hs8 (by omega) (by omega) fun r2 h9 c0 c1 fr9 hs9 l9 => ?_
    obtain ⟨u, rfl⟩ := Int.eq_ofNat_of_zero_le a0
    obtain ⟨w, rfl⟩ := Int.eq_ofNat_of_zero_le c0
    unfold w18_3b_1
    have eb9 := (fr8.trans fr9).get _ _ (by simp [bs]) eb7
    simp only [wpR_ok, wpR_bind, wpS_stm, wpS_seq, wpS_nx, wpS_rt, wpR_res, wpR_noExc, eConst_ap, eVar_z, eVar_s, eBin_ap, eUn_ap, eAnd_ap, eOr_ap, eIf_ap, eCmp_ap, eChain_ap, eArgs_nil, eArgs_cons, eTup_ap, eLst_wp, eItem_ap, eEnd_none, eEnd_some, toI_int, eSlice_ap, eBF_ap, eCall_ap, eCallK_ap, eIsI_ap, sPass_ap, sExpr_ap, sRet_ap, sRetN_ap, sAsg_ap, sIf_ap, sSeq_ap, tName_ap, tEach_nil, tEach_cons, tTup_ap, tItem_ap, pick_nil, pick_pos, pick_kw, pick_dfl, eAttr_ap, eMth_ap, eMk_ap, tAttr_ap, pF_some, isNon_non, eDicEn_ap, eRev_ap, List.set_cons_zero, List.set_cons_succ, List.length_cons, List.length_nil, truth_bl, truth_non, not_bl, not_non, tst_if, tstS_if, pBl_some, pD_some, add_int, sub_int, neg_int, lt_int, le_int, gt_int, ge_int, eq_int, ne_int, if_true, Bool.not_true, Bool.not_false, Bool.false_eq_true, if_false, and_self, List.getElem?_cons_zero, List.getElem?_cons_succ, Option.getD_some, Option.bind_some, Option.map_some]
    refine append_wp (a := b) (xs := E.map edD) ?_ eb9 ?_
    · rfl
    simp only [wpR_ok, wpR_bind, wpS_stm, wpS_seq, wpS_nx, wpS_rt, wpR_res, wpR_noExc, eConst_ap, eVar_z, eVar_s, eBin_ap, eUn_ap, eAnd_ap, eOr_ap, eIf_ap, eCmp_ap, eChain_ap, eArgs_nil, eArgs_cons, eTup_ap, eLst_wp, eItem_ap, eEnd_none, eEnd_some, toI_int, eSlice_ap, eBF_ap, eCall_ap, eCallK_ap, eIsI_ap, sPass_ap, sExpr_ap, sRet_ap, sRetN_ap, sAsg_ap, sIf_ap, sSeq_ap, tName_ap, tEach_nil, tEach_cons, tTup_ap, tItem_ap, pick_nil, pick_pos, pick_kw, pick_dfl, eAttr_ap, eMth_ap, eMk_ap, tAttr_ap, pF_some, isNon_non, eDicEn_ap, eRev_ap, List.set_cons_zero, List.set_cons_succ, List.length_cons, List.length_nil, truth_bl, truth_non, not_bl, not_non, tst_if, tstS_if, pBl_some, pD_some, add_int, sub_int, neg_int, lt_int, le_int, gt_int, ge_int, eq_int, ne_int, if_true, Bool.not_true, Bool.not_false, Bool.false_eq_true, if_false, and_self, List.getElem?_cons_zero, List.getElem?_cons_succ, Option.getD_some, Option.bind_some, Option.map_some]
    refine dr s sc h9 _ hs9 (by omega) (by omega) fun z h10 z0 z1 fr10 hs10 l10 => ?_
    have eb10 := fr10.get _ _ (by simp [bs]) eb9
    simp only [wpR_ok, wpR_bind, wpS_stm, wpS_seq, wpS_nx, wpS_rt, wpR_res, wpR_noExc, eConst_ap, eVar_z, eVar_s, eBin_ap, eUn_ap, eAnd_ap, eOr_ap, eIf_ap, eCmp_ap, eChain_ap, eArgs_nil, eArgs_cons, eTup_ap, eLst_wp, eItem_ap, eEnd_none, eEnd_some, toI_int, eSlice_ap, eBF_ap, eCall_ap, eCallK_ap, eIsI_ap, sPass_ap, sExpr_ap, sRet_ap, sRetN_ap, sAsg_ap, sIf_ap, sSeq_ap, tName_ap, tEach_nil, tEach_cons, tTup_ap, tItem_ap, pick_nil, pick_pos, pick_kw, pick_dfl, eAttr_ap, eMth_ap, eMk_ap, tAttr_ap, pF_some, isNon_non, eDicEn_ap, eRev_ap, List.set_cons_zero, List.set_cons_succ, List.length_cons, List.length_nil, truth_bl, truth_non, not_bl, not_non, tst_if, tstS_if, pBl_some, pD_some, add_int, sub_int, neg_int, lt_int, le_int, gt_int, ge_int, eq_int, ne_int, if_true, Bool.not_true, Bool.not_false, Bool.false_eq_true, if_false, and_self, List.getElem?_cons_zero, List.getElem?_cons_succ, Option.getD_some, Option.bind_some, Option.map_some]
    refine ⟨E.map edD, eb10, by rw [List.length_map, lmE]; omega, ?_⟩
    have fs : Fr [b] h10 (h10.set b (.lst false (E.map edD ++ [edD (u, w, z - of)]))) := Fr.set ..
    refine ⟨E ++ [(u, w, z - of)], _, _, _, rfl, ?_, fun e he => ?_, fun e he => ?_, by rw [List.length_append, List.length_singleton, lE], ?_, hs10.fr fs (by simp [Ne.symm bs])⟩
    · show (h10.set b (.lst false (E.map edD ++ [edD (u, w, z - of)])))[b]? = _
      rw [List.getElem?_set_self (at_lt eb10), List.map_append]; rfl
    · rcases List.mem_append.mp he with he | he
      · exact vE e he
      · rw [List.mem_singleton.mp he]
        exact ⟨by show u < n; omega, by show w < n; omega⟩
    · rcases List.mem_append.mp he with he | he
      · exact bE e he
      · rw [List.mem_singleton.mp he]
        show -(10 ^ 55) ≤ z - of ∧ z - of ≤ 10 ^ 55
        omega
    · exact (fr7.trans (((fr8.trans fr9).trans fr10).weak fun j hj => by simp at hj; exact .inl (by simp [hj]))).trans (fs.weak fun j hj => by simp at hj; exact .inl (by simp [hj]))
  · rintro σ h7 ⟨E, o6, o7, o8, rfl, eb7, vE, bE, lE, fr7, hs7⟩
    rw [List.length_map, List.length_range] at lE
    unfold w18_4
    simp only [wpR_ok, wpR_bind, wpS_stm, wpS_seq, wpS_nx, wpS_rt, wpR_res, wpR_noExc, eConst_ap, eVar_z, eVar_s, eBin_ap, eUn_ap, eAnd_ap, eOr_ap, eIf_ap, eCmp_ap, eChain_ap, eArgs_nil, eArgs_cons, eTup_ap, eLst_wp, eItem_ap, eEnd_none, eEnd_some, toI_int, eSlice_ap, eBF_ap, eCall_ap, eCallK_ap, eIsI_ap, sPass_ap, sExpr_ap, sRet_ap, sRetN_ap, sAsg_ap, sIf_ap, sSeq_ap, tName_ap, tEach_nil, tEach_cons, tTup_ap, tItem_ap, pick_nil, pick_pos, pick_kw, pick_dfl, eAttr_ap, eMth_ap, eMk_ap, tAttr_ap, pF_some, isNon_non, eDicEn_ap, eRev_ap, List.set_cons_zero, List.set_cons_succ, List.length_cons, List.length_nil, truth_bl, truth_non, not_bl, not_non, tst_if, tstS_if, pBl_some, pD_some, add_int, sub_int, neg_int, lt_int, le_int, gt_int, ge_int, eq_int, ne_int, if_true, Bool.not_true, Bool.not_false, Bool.false_eq_true, if_false, and_self, List.getElem?_cons_zero, List.getElem?_cons_succ, Option.getD_some, Option.bind_some, Option.map_some]
    refine dr s 2 h7 _ hs7 (by decide) (by decide) fun z h8 z0 z1 fr8 hs8 l8 => ?_
    obtain ⟨t, rfl⟩ := Int.eq_ofNat_of_zero_le z0
    have eb8 := fr8.get _ _ (by simp [bs]) eb7
    simp only [wpR_ok, wpR_bind, wpS_stm, wpS_seq, wpS_nx, wpS_rt, wpR_res, wpR_noExc, eConst_ap, eVar_z, eVar_s, eBin_ap, eUn_ap, eAnd_ap, eOr_ap, eIf_ap, eCmp_ap, eChain_ap, eArgs_nil, eArgs_cons, eTup_ap, eLst_wp, eItem_ap, eEnd_none, eEnd_some, toI_int, eSlice_ap, eBF_ap, eCall_ap, eCallK_ap, eIsI_ap, sPass_ap, sExpr_ap, sRet_ap, sRetN_ap, sAsg_ap, sIf_ap, sSeq_ap, tName_ap, tEach_nil, tEach_cons, tTup_ap, tItem_ap, pick_nil, pick_pos, pick_kw, pick_dfl, eAttr_ap, eMth_ap, eMk_ap, tAttr_ap, pF_some, isNon_non, eDicEn_ap, eRev_ap, List.set_cons_zero, List.set_cons_succ, List.length_cons, List.length_nil, truth_bl, truth_non, not_bl, not_non, tst_if, tstS_if, pBl_some, pD_some, add_int, sub_int, neg_int, lt_int, le_int, gt_int, ge_int, eq_int, ne_int, if_true, Bool.not_true, Bool.not_false, Bool.false_eq_true, if_false, and_self, List.getElem?_cons_zero, List.getElem?_cons_succ, Option.getD_some, Option.bind_some, Option.map_some, slice_al eb8, cut_to]
    refine alloc_wp fun b3 h9 eb3 fr9 lb3 => ?_
    have eb9 := fr9.get _ _ (by simp) eb8
    rw [← List.map_take] at eb3
    simp only [add_al eb9 eb3 (by rw [List.length_map, List.length_map, List.length_take, lmE]; omega)]
    refine alloc_wp fun b4 h10 eb4 fr10 lb4 => ?_
    have f7 : Fr [s] h h7 := f16.then fr7 fun j hj => by
      simp at hj
      rcases hj with rfl | rfl
      · exact .inl (by simp)
      · exact .inr lhb
    have f10 : Fr [s] h h10 := ((f7.trans fr8).trans fr9.nil).trans fr10.nil
    have lt : t ≤ 1 := by omega
    refine q b4 (E ++ E.take t) h10 (by rw [eb4, List.map_append]) (fun e he => ?_) (fun e he => ?_) (by rw [List.length_append, List.length_take]; omega) f10 ((hs8.fr fr9 (by simp)).fr fr10 (by simp)) (by
      have := f7.len
      have := fr9.len
      omega)
    · rcases List.mem_append.mp he with he | he
      · exact vE e he
      · exact vE e (List.mem_of_mem_take he)
    · rcases List.mem_append.mp he with he | he
      · exact bE e he
      · exact bE e (List.mem_of_mem_take he)
  · exact ⟨[], _, _, _, rfl, eb6, fun e he => absurd he (by simp), fun e he => absurd he (by simp), rfl, Fr.refl _ _, hs6⟩
/-! ### _law_distances -/
theorem min_two (i j : Int) (h : Hh) : bfun .min2 [.int i, .int j] h = .ok (.int (min i j)) h := rfl
theorem fwDiag_eq (n : Nat) : Bf.fwDiag n = diag n := rfl
theorem put3_eq : Bf.put3 = put2 := rfl
theorem take_map {A : Type} {f : Bf.Tb → A → Bf.Tb} {F : Bf.Tb} {l : List A} {j : Nat} {a : A} (e : l[j]? = some a) : (l.take (j + 1)).foldl f F = f ((l.take j).foldl f F) a := by
  rw [List.take_add_one, e, List.foldl_append]; rfl
theorem range_fold {f : Bf.Tb → Nat → Bf.Tb} {F : Bf.Tb} (j : Nat) : (List.range (j + 1)).foldl f F = f ((List.range j).foldl f F) j := by
  rw [List.range_succ, List.foldl_append]; rfl
theorem any_neg {h : Hh} {b n : Nat} {p : Nat → Bool} (e : h[b]? = some (.lst false ((List.range n).map fun v => D.bl (p v)))) (hn : n ≤ 1000) : bfun .any [.ref b] h = .ok (.bl ((List.range n).any p)) h := by
  have e2 : h[b]? = some (.lst false (((List.range n).map p).map .bl)) := by rw [e, List.map_map]; rfl
  show (match (listOf h (.ref b)).bind allBls with | some bs => Res.ok (D.bl (bs.any id)) h | none => .bad) = _
  rw [listOf_ref e2]
  show (match allBls (((List.range n).map p).map .bl) with | some bs => Res.ok (D.bl (bs.any id)) h | none => .bad) = _
  rw [allBls_map]
  show Res.ok (D.bl (((List.range n).map p).any id)) h = _
  rw [List.any_map]; rfl
theorem w19_wp {cf : CF} {n er : Nat} {E : List Bf.Edge} {h : Hh} (ee : h[er]? = some (.lst false (E.map edD))) (n1 : 1 ≤ n) (n2 : n ≤ 8) (lE : E.length ≤ 20) {Q : D → Hh → Prop}
    (q0 : (∃ v x, v < n ∧ Bf.fw E n v v = some x ∧ x < 0) → ∀ h', Fr [] h h' → Q .non h')
    (q1 : (∀ v, v < n → ∀ x, Bf.fw E n v v = some x → 0 ≤ x) → ∀ a kvs h', h'[a]? = some (.dic false kvs) → MapT kvs (Bf.fw E n) → Fr [] h h' → h.length ≤ a → Q (.ref a) h') :
    wpR (w19 cf [some (.int (n : Nat)), some (.ref er), none, none, none, none, none, none, none] h).res Q := by
  have e0 : ((n : Nat) : Int).toNat = n := by omega
  have rn : ∀ (σ : Ev.Env) (h' : Hh), iRange [(eVar 0)] (some (.int (n : Nat)) :: σ) h' = .ok ⟨(List.range n).map fun k => .int ((k : Nat) : Int), none, none⟩ h' := fun σ h' => by
    rw [rng_ap (e := eVar 0) (n := (n : Nat)) (h1 := h') rfl (by omega) (by omega), e0]
  have nat_of : ∀ {i : Nat} {x : D}, ((List.range n).map fun k => D.int ((k : Nat) : Int))[i]? = some x → i < n ∧ x = .int (i : Nat) := fun {i x} hx => by
    have hi := (List.getElem?_eq_some_iff.mp hx).1
    rw [List.length_map, List.length_range] at hi
    rw [List.getElem?_map, List.getElem?_range hi] at hx
    exact ⟨hi, by simpa using hx.symm⟩
  unfold w19
  simp only [wpR_ok, wpR_bind, wpS_stm, wpS_seq, wpS_nx, wpS_rt, wpR_res, wpR_noExc, eConst_ap, eVar_z, eVar_s, eBin_ap, eUn_ap, eAnd_ap, eOr_ap, eIf_ap, eCmp_ap, eChain_ap, eArgs_nil, eArgs_cons, eTup_ap, eLst_wp, eItem_ap, eEnd_none, eEnd_some, toI_int, eSlice_ap, eBF_ap, eCall_ap, eCallK_ap, eIsI_ap, sPass_ap, sExpr_ap, sRet_ap, sRetN_ap, sAsg_ap, sIf_ap, sSeq_ap, tName_ap, tEach_nil, tEach_cons, tTup_ap, tItem_ap, pick_nil, pick_pos, pick_kw, pick_dfl, eAttr_ap, eMth_ap, eMk_ap, tAttr_ap, pF_some, isNon_non, eDicEn_ap, eRev_ap, List.set_cons_zero, List.set_cons_succ, List.length_cons, List.length_nil, truth_bl, truth_non, not_bl, not_non, tst_if, tstS_if, pBl_some, pD_some, add_int, sub_int, neg_int, lt_int, le_int, gt_int, ge_int, eq_int, ne_int, if_true, Bool.not_true, Bool.not_false, Bool.false_eq_true, if_false, and_self, List.getElem?_cons_zero, List.getElem?_cons_succ, Option.getD_some, Option.bind_some, Option.map_some, eDicP_ap]
  refine range_comp (fun v => D.tup [k2 v v, .int 0]) (rn _ _) (by omega) (fun t ht => ⟨[some (.int (n : Nat)), some (.ref er), none, none, none, none, none, some (.int (t : Nat)), none], rfl, rfl⟩) fun a1 h1 ea1 fr1 la1 => ?_
  rw [dicP_diag ea1 n1 (by omega)]
  refine alloc_wp fun a h2 ea fr2 la => ?_
  obtain ⟨md, ml⟩ := diag_map n
  have f12 := fr1.trans fr2
  have ee2 := f12.get _ _ (by simp) ee
  have el := at_lt ee
  have l1 := fr1.len
  have na : er ∉ [a] := by simp; omega
  unfold w19_1
  simp only [wpR_ok, wpR_bind, wpS_stm, wpS_seq, wpS_nx, wpS_rt, wpR_res, wpR_noExc, eConst_ap, eVar_z, eVar_s, eBin_ap, eUn_ap, eAnd_ap, eOr_ap, eIf_ap, eCmp_ap, eChain_ap, eArgs_nil, eArgs_cons, eTup_ap, eLst_wp, eItem_ap, eEnd_none, eEnd_some, toI_int, eSlice_ap, eBF_ap, eCall_ap, eCallK_ap, eIsI_ap, sPass_ap, sExpr_ap, sRet_ap, sRetN_ap, sAsg_ap, sIf_ap, sSeq_ap, tName_ap, tEach_nil, tEach_cons, tTup_ap, tItem_ap, pick_nil, pick_pos, pick_kw, pick_dfl, eAttr_ap, eMth_ap, eMk_ap, tAttr_ap, pF_some, isNon_non, eDicEn_ap, eRev_ap, List.set_cons_zero, List.set_cons_succ, List.length_cons, List.length_nil, truth_bl, truth_non, not_bl, not_non, tst_if, tstS_if, pBl_some, pD_some, add_int, sub_int, neg_int, lt_int, le_int, gt_int, ge_int, eq_int, ne_int, if_true, Bool.not_true, Bool.not_false, Bool.false_eq_true, if_false, and_self, List.getElem?_cons_zero, List.getElem?_cons_succ, Option.getD_some, Option.bind_some, Option.map_some]
  refine sFor_wp ?_
  rw [iVal_lst rfl ee2]
  refine ⟨rfl, ?_⟩
  refine forL_wp (fun j σ h' => ∃ kvs o3 o4 o5, σ = [some (.int (n : Nat)), some (.ref er), some (.ref a), o3, o4, o5, none, none, none] ∧ h'[a]? = some (.dic false kvs) ∧ MapT kvs ((E.take j).foldl Bf.fwEdge (Bf.fwDiag n)) ∧ kvs.length ≤ 100 + j ∧ Fr [a] h2 h') ?_ ?_ ?_ ?_
  · rintro j σ h' ⟨kvs, _, _, _, _, _, _, _, fr4⟩
    exact stands_some (fr4.get _ _ na ee2)
  · rintro j x3 σ h4 hx3 ⟨kvs, o3, o4, o5, rfl, ek, mk, lk, fr4⟩
    obtain ⟨ed, e1, rfl⟩ : ∃ ed, E[j]? = some ed ∧ x3 = edD ed := by
      rw [List.getElem?_map] at hx3
      obtain ⟨ed, g1, g2⟩ := Option.map_eq_some_iff.mp hx3
      exact ⟨ed, g1, g2.symm⟩
    have hj := (List.getElem?_eq_some_iff.mp e1).1
    generalize hd : (E.take j).foldl Bf.fwEdge (Bf.fwDiag n) = F at mk
    have hd' : (E.take (j + 1)).foldl Bf.fwEdge (Bf.fwDiag n) = Bf.fwEdge F ed := by rw [take_map e1, hd]
    have t3 : ([.int (ed.1 : Nat), .int (ed.2.1 : Nat), .int ed.2.2] : List D).length = ([tName 3, tName 4, tName 5] : List Tg).length := rfl
    have gg := mk.get2 (o := eVar 2) (arg := eTup [(eVar 3), (eVar 4)]) (arg2 := eVar 5) (σ := [some (.int (n : Nat)), some (.ref er), some (.ref a), some (.int (ed.1 : Nat)), some (.int (ed.2.1 : Nat)), some (.int ed.2.2), none, none, none]) (h := h4) (a := a) (u := ed.1) (v := ed.2.1) (d := ed.2.2) rfl ek rfl rfl
    simp only [edD, tTupN t3, wpR_ok, wpR_bind, wpS_stm, wpS_seq, wpS_nx, wpS_rt, wpR_res, wpR_noExc, eConst_ap, eVar_z, eVar_s, eBin_ap, eUn_ap, eAnd_ap, eOr_ap, eIf_ap, eCmp_ap, eChain_ap, eArgs_nil, eArgs_cons, eTup_ap, eLst_wp, eItem_ap, eEnd_none, eEnd_some, toI_int, eSlice_ap, eBF_ap, eCall_ap, eCallK_ap, eIsI_ap, sPass_ap, sExpr_ap, sRet_ap, sRetN_ap, sAsg_ap, sIf_ap, sSeq_ap, tName_ap, tEach_nil, tEach_cons, tTup_ap, tItem_ap, pick_nil, pick_pos, pick_kw, pick_dfl, eAttr_ap, eMth_ap, eMk_ap, tAttr_ap, pF_some, isNon_non, eDicEn_ap, eRev_ap, List.set_cons_zero, List.set_cons_succ, List.length_cons, List.length_nil, truth_bl, truth_non, not_bl, not_non, tst_if, tstS_if, pBl_some, pD_some, add_int, sub_int, neg_int, lt_int, le_int, gt_int, ge_int, eq_int, ne_int, if_true, Bool.not_true, Bool.not_false, Bool.false_eq_true, if_false, and_self, List.getElem?_cons_zero, List.getElem?_cons_succ, Option.getD_some, Option.bind_some, Option.map_some, gg, min_two, mk.set ek (by rw [lmE]; omega)]
    have fs : Fr [a] h4 (h4.set a (.dic false (dput kvs (k2 ed.1 ed.2.1) (.int (min ed.2.2 ((F ed.1 ed.2.1).getD ed.2.2)))))) := Fr.set ..
    refine ⟨_, _, _, _, rfl, List.getElem?_set_self (at_lt ek), ?_, by have := dput_len kvs (k2 ed.1 ed.2.1) (.int (min ed.2.2 ((F ed.1 ed.2.1).getD ed.2.2))); omega, fr4.trans fs⟩
    rw [hd']
    exact mk.put _ _ _
  · rintro σ h4 ⟨kvs, o3, o4, o5, rfl, ek, mk, lk, fr4⟩
    rw [List.length_map] at mk lk
    rw [List.take_length] at mk
    have mk : MapT kvs (Bf.fwStart E n) := mk
    unfold w19_2
    simp only [wpR_ok, wpR_bind, wpS_stm, wpS_seq, wpS_nx, wpS_rt, wpR_res, wpR_noExc, eConst_ap, eVar_z, eVar_s, eBin_ap, eUn_ap, eAnd_ap, eOr_ap, eIf_ap, eCmp_ap, eChain_ap, eArgs_nil, eArgs_cons, eTup_ap, eLst_wp, eItem_ap, eEnd_none, eEnd_some, toI_int, eSlice_ap, eBF_ap, eCall_ap, eCallK_ap, eIsI_ap, sPass_ap, sExpr_ap, sRet_ap, sRetN_ap, sAsg_ap, sIf_ap, sSeq_ap, tName_ap, tEach_nil, tEach_cons, tTup_ap, tItem_ap, pick_nil, pick_pos, pick_kw, pick_dfl, eAttr_ap, eMth_ap, eMk_ap, tAttr_ap, pF_some, isNon_non, eDicEn_ap, eRev_ap, List.set_cons_zero, List.set_cons_succ, List.length_cons, List.length_nil, truth_bl, truth_non, not_bl, not_non, tst_if, tstS_if, pBl_some, pD_some, add_int, sub_int, neg_int, lt_int, le_int, gt_int, ge_int, eq_int, ne_int, if_true, Bool.not_true, Bool.not_false, Bool.false_eq_true, if_false, and_self, List.getElem?_cons_zero, List.getElem?_cons_succ, Option.getD_some, Option.bind_some, Option.map_some]
    refine sFor_wp ?_
    rw [rn]
    refine ⟨rfl, ?_⟩
    refine forL_wp (fun t σ h' => ∃ kvs o3 o4 o5 o6 o8, σ = [some (.int (n : Nat)), some (.ref er), some (.ref a), o3, o4, o5, o6, none, o8] ∧ h'[a]? = some (.dic false kvs) ∧ MapT kvs ((List.range t).foldl (Bf.fwStage n) (Bf.fwStart E n)) ∧ kvs.length ≤ 200 + t * 1000 ∧ t ≤ n ∧ Fr [a] h2 h') (fun _ _ _ _ => rfl) ?_ ?_ ?_
    · rintro t x σ h5 hx ⟨kvs, o3, o4, o5, o6, o8, rfl, ek, mk, lk, tn, fr5⟩
      obtain ⟨ht, rfl⟩ := nat_of hx
      generalize hd : (List.range t).foldl (Bf.fwStage n) (Bf.fwStart E n) = F at mk
      have hd' : (List.range (t + 1)).foldl (Bf.fwStage n) (Bf.fwStart E n) = Bf.fwStage n F t := by rw [range_fold, hd]
      unfold w19_2b
      simp only [wpR_ok, wpR_bind, wpS_stm, wpS_seq, wpS_nx, wpS_rt, wpR_res, wpR_noExc, eConst_ap, eVar_z, eVar_s, eBin_ap, eUn_ap, eAnd_ap, eOr_ap, eIf_ap, eCmp_ap, eChain_ap, eArgs_nil, eArgs_cons, eTup_ap, eLst_wp, eItem_ap, eEnd_none, eEnd_some, toI_int, eSlice_ap, eBF_ap, eCall_ap, eCallK_ap, eIsI_ap, sPass_ap, sExpr_ap, sRet_ap, sRetN_ap, sAsg_ap, sIf_ap, sSeq_ap, tName_ap, tEach_nil, tEach_cons, tTup_ap, tItem_ap, pick_nil, pick_pos, pick_kw, pick_dfl, eAttr_ap, eMth_ap, eMk_ap, tAttr_ap, pF_some, isNon_non, eDicEn_ap, eRev_ap, List.set_cons_zero, List.set_cons_succ, List.length_cons, List.length_nil, truth_bl, truth_non, not_bl, not_non, tst_if, tstS_if, pBl_some, pD_some, add_int, sub_int, neg_int, lt_int, le_int, gt_int, ge_int, eq_int, ne_int, if_true, Bool.not_true, Bool.not_false, Bool.false_eq_true, if_false, and_self, List.getElem?_cons_zero, List.getElem?_cons_succ, Option.getD_some, Option.bind_some, Option.map_some]
      refine sFor_wp ?_
      rw [rn]
      refine ⟨rfl, ?_⟩
      refine forL_wp (fun i σ h' => ∃ kvs o3 o4 o8, σ = [some (.int (n : Nat)), some (.ref er), some (.ref a), o3, o4, o5, some (.int (t : Nat)), none, o8] ∧ h'[a]? = some (.dic false kvs) ∧ MapT kvs ((List.range i).foldl (Bf.fwRow n t) F) ∧ kvs.length ≤ 200 + t * 1000 + i * 100 ∧ i ≤ n ∧ Fr [a] h2 h') (fun _ _ _ _ => rfl) ?_ ?_ ?_
      · rintro i x σ h6 hx ⟨kvs, o3, o4, o8, rfl, ek, mk, lk, iN, fr6⟩
        obtain ⟨hi, rfl⟩ := nat_of hx
        generalize hd2 : (List.range i).foldl (Bf.fwRow n t) F = F2 at mk
        have hd2' : (List.range (i + 1)).foldl (Bf.fwRow n t) F = Bf.fwRow n t F2 i := by rw [range_fold, hd2]
        unfold w19_2b_0b
        simp only [wpR_ok, wpR_bind, wpS_stm, wpS_seq, wpS_nx, wpS_rt, wpR_res, wpR_noExc, eConst_ap, eVar_z, eVar_s, eBin_ap, eUn_ap, eAnd_ap, eOr_ap, eIf_ap, eCmp_ap, eChain_ap, eArgs_nil, eArgs_cons, eTup_ap, eLst_wp, eItem_ap, eEnd_none, eEnd_some, toI_int, eSlice_ap, eBF_ap, eCall_ap, eCallK_ap, eIsI_ap, sPass_ap, sExpr_ap, sRet_ap, sRetN_ap, sAsg_ap, sIf_ap, sSeq_ap, tName_ap, tEach_nil, tEach_cons, tTup_ap, tItem_ap, pick_nil, pick_pos, pick_kw, pick_dfl, eAttr_ap, eMth_ap, eMk_ap, tAttr_ap, pF_some, isNon_non, eDicEn_ap, eRev_ap, List.set_cons_zero, List.set_cons_succ, List.length_cons, List.length_nil, truth_bl, truth_non, not_bl, not_non, tst_if, tstS_if, pBl_some, pD_some, add_int, sub_int, neg_int, lt_int, le_int, gt_int, ge_int, eq_int, ne_int, if_true, Bool.not_true, Bool.not_false, Bool.false_eq_true, if_false, and_self, List.getElem?_cons_zero, List.getElem?_cons_succ, Option.getD_some, Option.bind_some, Option.map_some]
        refine sFor_wp ?_
        rw [rn]
        refine ⟨rfl, ?_⟩
        refine forL_wp (fun j σ h' => ∃ kvs o4 o8, σ = [some (.int (n : Nat)), some (.ref er), some (.ref a), some (.int (i : Nat)), o4, o5, some (.int (t : Nat)), none, o8] ∧ h'[a]? = some (.dic false kvs) ∧ MapT kvs ((List.range j).foldl (Bf.fwCell t i) F2) ∧ kvs.length ≤ 200 + t * 1000 + i * 100 + j ∧ Fr [a] h2 h') (fun _ _ _ _ => rfl) ?_ ?_ ?_
        · rintro j x σ h7 hx ⟨kvs, o4, o8, rfl, ek, mk, lk, fr7⟩
          obtain ⟨hj, rfl⟩ := nat_of hx
          generalize hd3 : (List.range j).foldl (Bf.fwCell t i) F2 = F3 at mk
          have hd3' : (List.range (j + 1)).foldl (Bf.fwCell t i) F2 = Bf.fwCell t i F3 j := by rw [range_fold, hd3]
          unfold w19_2b_0b_0b
          have hc : ∀ a b : Option Int, (∃ x y, a = some x ∧ b = some y) ∨ (a = none ∨ b = none) := fun a b => by cases a <;> cases b <;> simp
          rcases hc (F3 i t) (F3 t j) with ⟨x, y, hx, hy⟩ | hno
          · have ez : Bf.fwCell t i F3 j = put2 F3 i j (min (x + y) ((F3 i j).getD (x + y))) := by unfold Bf.fwCell; rw [hx, hy]; rfl
            simp only [wpR_ok, wpR_bind, wpS_stm, wpS_seq, wpS_nx, wpS_rt, wpR_res, wpR_noExc, eConst_ap, eVar_z, eVar_s, eBin_ap, eUn_ap, eAnd_ap, eOr_ap, eIf_ap, eCmp_ap, eChain_ap, eArgs_nil, eArgs_cons, eTup_ap, eLst_wp, eItem_ap, eEnd_none, eEnd_some, toI_int, eSlice_ap, eBF_ap, eCall_ap, eCallK_ap, eIsI_ap, sPass_ap, sExpr_ap, sRet_ap, sRetN_ap, sAsg_ap, sIf_ap, sSeq_ap, tName_ap, tEach_nil, tEach_cons, tTup_ap, tItem_ap, pick_nil, pick_pos, pick_kw, pick_dfl, eAttr_ap, eMth_ap, eMk_ap, tAttr_ap, pF_some, isNon_non, eDicEn_ap, eRev_ap, List.set_cons_zero, List.set_cons_succ, List.length_cons, List.length_nil, truth_bl, truth_non, not_bl, not_non, tst_if, tstS_if, pBl_some, pD_some, add_int, sub_int, neg_int, lt_int, le_int, gt_int, ge_int, eq_int, ne_int, if_true, Bool.not_true, Bool.not_false, Bool.false_eq_true, if_false, and_self, List.getElem?_cons_zero, List.getElem?_cons_succ, Option.getD_some, Option.bind_some, Option.map_some, mk.isin ek, hx, hy, Option.isSome_some]
            unfold w19_2b_0b_0b_0t
            simp only [wpR_ok, wpR_bind, wpS_stm, wpS_seq, wpS_nx, wpS_rt, wpR_res, wpR_noExc, eConst_ap, eVar_z, eVar_s, eBin_ap, eUn_ap, eAnd_ap, eOr_ap, eIf_ap, eCmp_ap, eChain_ap, eArgs_nil, eArgs_cons, eTup_ap, eLst_wp, eItem_ap, eEnd_none, eEnd_some, toI_int, eSlice_ap, eBF_ap, eCall_ap, eCallK_ap, eIsI_ap, sPass_ap, sExpr_ap, sRet_ap, sRetN_ap, sAsg_ap, sIf_ap, sSeq_ap, tName_ap, tEach_nil, tEach_cons, tTup_ap, tItem_ap, pick_nil, pick_pos, pick_kw, pick_dfl, eAttr_ap, eMth_ap, eMk_ap, tAttr_ap, pF_some, isNon_non, eDicEn_ap, eRev_ap, List.set_cons_zero, List.set_cons_succ, List.length_cons, List.length_nil, truth_bl, truth_non, not_bl, not_non, tst_if, tstS_if, pBl_some, pD_some, add_int, sub_int, neg_int, lt_int, le_int, gt_int, ge_int, eq_int, ne_int, if_true, Bool.not_true, Bool.not_false, Bool.false_eq_true, if_false, and_self, List.getElem?_cons_zero, List.getElem?_cons_succ, Option.getD_some, Option.bind_some, Option.map_some, mk.item ek, hx, hy]
            unfold w19_2b_0b_0b_0t_1
            have gg := mk.get2 (o := eVar 2) (arg := eTup [(eVar 3), (eVar 4)]) (arg2 := eVar 8) (σ := [some (.int (n : Nat)), some (.ref er), some (.ref a), some (.int (i : Nat)), some (.int (j : Nat)), o5, some (.int (t : Nat)), none, some (.int (x + y))]) (h := h7) (a := a) (u := i) (v := j) (d := x + y) rfl ek rfl rfl
            have tn' : t ≤ 8 := by omega
            simp only [wpR_ok, wpR_bind, wpS_stm, wpS_seq, wpS_nx, wpS_rt, wpR_res, wpR_noExc, eConst_ap, eVar_z, eVar_s, eBin_ap, eUn_ap, eAnd_ap, eOr_ap, eIf_ap, eCmp_ap, eChain_ap, eArgs_nil, eArgs_cons, eTup_ap, eLst_wp, eItem_ap, eEnd_none, eEnd_some, toI_int, eSlice_ap, eBF_ap, eCall_ap, eCallK_ap, eIsI_ap, sPass_ap, sExpr_ap, sRet_ap, sRetN_ap, sAsg_ap, sIf_ap, sSeq_ap, tName_ap, tEach_nil, tEach_cons, tTup_ap, tItem_ap, pick_nil, pick_pos, pick_kw, pick_dfl, eAttr_ap, eMth_ap, eMk_ap, tAttr_ap, pF_some, isNon_non, eDicEn_ap, eRev_ap, List.set_cons_zero, List.set_cons_succ, List.length_cons, List.length_nil, truth_bl, truth_non, not_bl, not_non, tst_if, tstS_if, pBl_some, pD_some, add_int, sub_int, neg_int, lt_int, le_int, gt_int, ge_int, eq_int, ne_int, if_true, Bool.not_true, Bool.not_false, Bool.false_eq_true, if_false, and_self, List.getElem?_cons_zero, List.getElem?_cons_succ, Option.getD_some, Option.bind_some, Option.map_some, gg, min_two, mk.set ek (by rw [lmE]; omega)]
            have fs : Fr [a] h7 (h7.set a (.dic false (dput kvs (k2 i j) (.int (min (x + y) ((F3 i j).getD (x + y))))))) := Fr.set ..
            refine ⟨_, _, _, rfl, List.getElem?_set_self (at_lt ek), ?_, by have := dput_len kvs (k2 i j) (.int (min (x + y) ((F3 i j).getD (x + y)))); omega, fr7.trans fs⟩
            rw [hd3', ez]
            exact mk.put _ _ _
          · have ez : Bf.fwCell t i F3 j = F3 := by
              unfold Bf.fwCell
              rcases hno with hno | hno
              · rw [hno]
              · rw [hno]
                cases F3 i t <;> rfl
            have go : ∃ kvs' o4' o8', ([some (.int (n : Nat)), some (.ref er), some (.ref a), some (.int (i : Nat)), some (.int (j : Nat)), o5, some (.int (t : Nat)), none, o8] : Ev.Env) = [some (.int (n : Nat)), some (.ref er), some (.ref a), some (.int (i : Nat)), o4', o5, some (.int (t : Nat)), none, o8'] ∧ h7[a]? = some (.dic false kvs') ∧ MapT kvs' ((List.range (j + 1)).foldl (Bf.fwCell t i) F2) ∧ kvs'.length ≤ 200 + t * 1000 + i * 100 + (j + 1) ∧ Fr [a] h2 h7 := ⟨kvs, _, _, rfl, ek, by rw [hd3', ez]; exact mk, by omega, fr7⟩
            rcases hno with hno | hno
            · simp only [wpR_ok, wpR_bind, wpS_stm, wpS_seq, wpS_nx, wpS_rt, wpR_res, wpR_noExc, eConst_ap, eVar_z, eVar_s, eBin_ap, eUn_ap, eAnd_ap, eOr_ap, eIf_ap, eCmp_ap, eChain_ap, eArgs_nil, eArgs_cons, eTup_ap, eLst_wp, eItem_ap, eEnd_none, eEnd_some, toI_int, eSlice_ap, eBF_ap, eCall_ap, eCallK_ap, eIsI_ap, sPass_ap, sExpr_ap, sRet_ap, sRetN_ap, sAsg_ap, sIf_ap, sSeq_ap, tName_ap, tEach_nil, tEach_cons, tTup_ap, tItem_ap, pick_nil, pick_pos, pick_kw, pick_dfl, eAttr_ap, eMth_ap, eMk_ap, tAttr_ap, pF_some, isNon_non, eDicEn_ap, eRev_ap, List.set_cons_zero, List.set_cons_succ, List.length_cons, List.length_nil, truth_bl, truth_non, not_bl, not_non, tst_if, tstS_if, pBl_some, pD_some, add_int, sub_int, neg_int, lt_int, le_int, gt_int, ge_int, eq_int, ne_int, if_true, Bool.not_true, Bool.not_false, Bool.false_eq_true, if_false, and_self, List.getElem?_cons_zero, List.getElem?_cons_succ, Option.getD_some, Option.bind_some, Option.map_some, mk.isin ek, hno, Option.isSome_none]
              exact go
            · cases hx : F3 i t with
              | none =>
                simp only [wpR_ok, wpR_bind, wpS_stm, wpS_seq, wpS_nx, wpS_rt, wpR_res, wpR_noExc, eConst_ap, eVar_z, eVar_s, eBin_ap, eUn_ap, eAnd_ap, eOr_ap, eIf_ap, eCmp_ap, eChain_ap, eArgs_nil, eArgs_cons, eTup_ap, eLst_wp, eItem_ap, eEnd_none, eEnd_some, toI_int, eSlice_ap, eBF_ap, eCall_ap, eCallK_ap, eIsI_ap, sPass_ap, sExpr_ap, sRet_ap, sRetN_ap, sAsg_ap, sIf_ap, sSeq_ap, tName_ap, tEach_nil, tEach_cons, tTup_ap, tItem_ap, pick_nil, pick_pos, pick_kw, pick_dfl, eAttr_ap, eMth_ap, eMk_ap, tAttr_ap, pF_some, isNon_non, eDicEn_ap, eRev_ap, List.set_cons_zero, List.set_cons_succ, List.length_cons, List.length_nil, truth_bl, truth_non, not_bl, not_non, tst_if, tstS_if, pBl_some, pD_some, add_int, sub_int, neg_int, lt_int, le_int, gt_int, ge_int, eq_int, ne_int, if_true, Bool.not_true, Bool.not_false, Bool.false_eq_true, if_false, and_self, List.getElem?_cons_zero, List.getElem?_cons_succ, Option.getD_some, Option.bind_some, Option.map_some, mk.isin ek, hx, Option.isSome_none]
                exact go
              | some x =>
                simp only [wpR_ok, wpR_bind, wpS_stm, wpS_seq, wpS_nx, wpS_rt, wpR_res, wpR_noExc, eConst_ap, eVar_z, eVar_s, eBin_ap, eUn_ap, eAnd_ap, eOr_ap, eIf_ap, eCmp_ap, eChain_ap, eArgs_nil, eArgs_cons, eTup_ap, eLst_wp, eItem_ap, eEnd_none, eEnd_some, toI_int, eSlice_ap, eBF_ap, eCall_ap, eCallK_ap, eIsI_ap, sPass_ap, sExpr_ap, sRet_ap, sRetN_ap, sAsg_ap, sIf_ap, sSeq_ap, tName_ap, tEach_nil, tEach_cons, tTup_ap, tItem_ap, pick_nil, pick_pos, pick_kw, pick_dfl, eAttr_ap, eMth_ap, eMk_ap, tAttr_ap, pF_some, isNon_non, eDicEn_ap, eRev_ap, List.set_cons_zero, List.set_cons_succ, List.length_cons, List.length_nil, truth_bl, truth_non, not_bl, not_non, tst_if, tstS_if, pBl_some, pD_some, add_int, sub_int, neg_int, lt_int, le_int, gt_int, ge_int, eq_int, ne_int, if_true, Bool.not_true, Bool.not_false, Bool.false_eq_true, if_false, and_self, List.getElem?_cons_zero, List.getElem?_cons_succ, Option.getD_some, Option.bind_some, Option.map_some, mk.isin ek, hx, hno, Option.isSome_none, Option.isSome_some]
                exact go
        · rintro σ h7 ⟨kvs, o4, o8, rfl, ek, mk, lk, fr7⟩
          rw [List.length_map, List.length_range] at mk lk
          refine ⟨kvs, _, _, _, rfl, ek, ?_, by rw [Nat.succ_mul]; omega, hi, fr7⟩
          rw [hd2']
          exact mk
        · exact ⟨kvs, _, _, rfl, ek, mk, by omega, fr6⟩
      · rintro σ h6 ⟨kvs, o3, o4, o8, rfl, ek, mk, lk, iN, fr6⟩
        rw [List.length_map, List.length_range] at mk lk
        refine ⟨kvs, _, _, _, _, _, rfl, ek, ?_, by rw [Nat.succ_mul]; omega, ht, fr6⟩
        rw [hd']
        exact mk
      · exact ⟨kvs, _, _, _, rfl, ek, mk, by omega, Nat.zero_le _, fr5⟩
    · rintro σ h5 ⟨kvs, o3, o4, o5, o6, o8, rfl, ek, mk, lk, tn, fr5⟩
      rw [List.length_map, List.length_range] at mk
      have mk : MapT kvs (Bf.fw E n) := mk
      unfold w19_3
      simp only [wpR_ok, wpR_bind, wpS_stm, wpS_seq, wpS_nx, wpS_rt, wpR_res, wpR_noExc, eConst_ap, eVar_z, eVar_s, eBin_ap, eUn_ap, eAnd_ap, eOr_ap, eIf_ap, eCmp_ap, eChain_ap, eArgs_nil, eArgs_cons, eTup_ap, eLst_wp, eItem_ap, eEnd_none, eEnd_some, toI_int, eSlice_ap, eBF_ap, eCall_ap, eCallK_ap, eIsI_ap, sPass_ap, sExpr_ap, sRet_ap, sRetN_ap, sAsg_ap, sIf_ap, sSeq_ap, tName_ap, tEach_nil, tEach_cons, tTup_ap, tItem_ap, pick_nil, pick_pos, pick_kw, pick_dfl, eAttr_ap, eMth_ap, eMk_ap, tAttr_ap, pF_some, isNon_non, eDicEn_ap, eRev_ap, List.set_cons_zero, List.set_cons_succ, List.length_cons, List.length_nil, truth_bl, truth_non, not_bl, not_non, tst_if, tstS_if, pBl_some, pD_some, add_int, sub_int, neg_int, lt_int, le_int, gt_int, ge_int, eq_int, ne_int, if_true, Bool.not_true, Bool.not_false, Bool.false_eq_true, if_false, and_self, List.getElem?_cons_zero, List.getElem?_cons_succ, Option.getD_some, Option.bind_some, Option.map_some]
      have lz : ∀ v, v < n → getItem (.ref a) (k2 v v) h5 = some (.int ((Bf.fw E n v v).getD 0)) := fun v hv => by
        obtain ⟨x, x1, _⟩ := Bf.fw_diag (E := E) hv
        rw [mk.item ek, x1]; rfl
      refine range_comp (fun v => D.bl (decide ((Bf.fw E n v v).getD 0 < 0))) (rn _ _) (by omega) (fun t ht => ⟨[some (.int (n : Nat)), some (.ref er), some (.ref a), o3, o4, o5, o6, some (.int (t : Nat)), o8], rfl, ?_⟩) fun b h6 eb fr6 lb => ?_
      · simp only [wpR_ok, wpR_bind, wpS_stm, wpS_seq, wpS_nx, wpS_rt, wpR_res, wpR_noExc, eConst_ap, eVar_z, eVar_s, eBin_ap, eUn_ap, eAnd_ap, eOr_ap, eIf_ap, eCmp_ap, eChain_ap, eArgs_nil, eArgs_cons, eTup_ap, eLst_wp, eItem_ap, eEnd_none, eEnd_some, toI_int, eSlice_ap, eBF_ap, eCall_ap, eCallK_ap, eIsI_ap, sPass_ap, sExpr_ap, sRet_ap, sRetN_ap, sAsg_ap, sIf_ap, sSeq_ap, tName_ap, tEach_nil, tEach_cons, tTup_ap, tItem_ap, pick_nil, pick_pos, pick_kw, pick_dfl, eAttr_ap, eMth_ap, eMk_ap, tAttr_ap, pF_some, isNon_non, eDicEn_ap, eRev_ap, List.set_cons_zero, List.set_cons_succ, List.length_cons, List.length_nil, truth_bl, truth_non, not_bl, not_non, tst_if, tstS_if, pBl_some, pD_some, add_int, sub_int, neg_int, lt_int, le_int, gt_int, ge_int, eq_int, ne_int, if_true, Bool.not_true, Bool.not_false, Bool.false_eq_true, if_false, and_self, List.getElem?_cons_zero, List.getElem?_cons_succ, Option.getD_some, Option.bind_some, Option.map_some, Res.bind_ok, lz t ht]
      have f26 : Fr [] h h6 := (f12.then (fr5.trans fr6.nil) fun j hj => by simp at hj; exact .inr (by omega))
      simp only [any_neg eb (by omega), wpR_ok, wpR_bind, wpS_stm, wpS_seq, wpS_nx, wpS_rt, wpR_res, wpR_noExc, eConst_ap, eVar_z, eVar_s, eBin_ap, eUn_ap, eAnd_ap, eOr_ap, eIf_ap, eCmp_ap, eChain_ap, eArgs_nil, eArgs_cons, eTup_ap, eLst_wp, eItem_ap, eEnd_none, eEnd_some, toI_int, eSlice_ap, eBF_ap, eCall_ap, eCallK_ap, eIsI_ap, sPass_ap, sExpr_ap, sRet_ap, sRetN_ap, sAsg_ap, sIf_ap, sSeq_ap, tName_ap, tEach_nil, tEach_cons, tTup_ap, tItem_ap, pick_nil, pick_pos, pick_kw, pick_dfl, eAttr_ap, eMth_ap, eMk_ap, tAttr_ap, pF_some, isNon_non, eDicEn_ap, eRev_ap, List.set_cons_zero, List.set_cons_succ, List.length_cons, List.length_nil, truth_bl, truth_non, not_bl, not_non, tst_if, tstS_if, pBl_some, pD_some, add_int, sub_int, neg_int, lt_int, le_int, gt_int, ge_int, eq_int, ne_int, if_true, Bool.not_true, Bool.not_false, Bool.false_eq_true, if_false, and_self, List.getElem?_cons_zero, List.getElem?_cons_succ, Option.getD_some, Option.bind_some, Option.map_some]
      refine tst_wp (fun hz => ?_) (fun hz => ?_)
      · simp only [wpR_ok, wpR_bind, wpS_stm, wpS_seq, wpS_nx, wpS_rt, wpR_res, wpR_noExc, eConst_ap, eVar_z, eVar_s, eBin_ap, eUn_ap, eAnd_ap, eOr_ap, eIf_ap, eCmp_ap, eChain_ap, eArgs_nil, eArgs_cons, eTup_ap, eLst_wp, eItem_ap, eEnd_none, eEnd_some, toI_int, eSlice_ap, eBF_ap, eCall_ap, eCallK_ap, eIsI_ap, sPass_ap, sExpr_ap, sRet_ap, sRetN_ap, sAsg_ap, sIf_ap, sSeq_ap, tName_ap, tEach_nil, tEach_cons, tTup_ap, tItem_ap, pick_nil, pick_pos, pick_kw, pick_dfl, eAttr_ap, eMth_ap, eMk_ap, tAttr_ap, pF_some, isNon_non, eDicEn_ap, eRev_ap, List.set_cons_zero, List.set_cons_succ, List.length_cons, List.length_nil, truth_bl, truth_non, not_bl, not_non, tst_if, tstS_if, pBl_some, pD_some, add_int, sub_int, neg_int, lt_int, le_int, gt_int, ge_int, eq_int, ne_int, if_true, Bool.not_true, Bool.not_false, Bool.false_eq_true, if_false, and_self, List.getElem?_cons_zero, List.getElem?_cons_succ, Option.getD_some, Option.bind_some, Option.map_some]
        rw [List.any_eq_true] at hz
        obtain ⟨v, hv, hx⟩ := hz
        have hv := List.mem_range.mp hv
        obtain ⟨x, x1, _⟩ := Bf.fw_diag (E := E) hv
        rw [x1] at hx
        exact q0 ⟨v, x, hv, x1, by simpa using hx⟩ _ f26
      · simp only [wpR_ok, wpR_bind, wpS_stm, wpS_seq, wpS_nx, wpS_rt, wpR_res, wpR_noExc, eConst_ap, eVar_z, eVar_s, eBin_ap, eUn_ap, eAnd_ap, eOr_ap, eIf_ap, eCmp_ap, eChain_ap, eArgs_nil, eArgs_cons, eTup_ap, eLst_wp, eItem_ap, eEnd_none, eEnd_some, toI_int, eSlice_ap, eBF_ap, eCall_ap, eCallK_ap, eIsI_ap, sPass_ap, sExpr_ap, sRet_ap, sRetN_ap, sAsg_ap, sIf_ap, sSeq_ap, tName_ap, tEach_nil, tEach_cons, tTup_ap, tItem_ap, pick_nil, pick_pos, pick_kw, pick_dfl, eAttr_ap, eMth_ap, eMk_ap, tAttr_ap, pF_some, isNon_non, eDicEn_ap, eRev_ap, List.set_cons_zero, List.set_cons_succ, List.length_cons, List.length_nil, truth_bl, truth_non, not_bl, not_non, tst_if, tstS_if, pBl_some, pD_some, add_int, sub_int, neg_int, lt_int, le_int, gt_int, ge_int, eq_int, ne_int, if_true, Bool.not_true, Bool.not_false, Bool.false_eq_true, if_false, and_self, List.getElem?_cons_zero, List.getElem?_cons_succ, Option.getD_some, Option.bind_some, Option.map_some]
        refine q1 (fun v hv x hx => ?_) a kvs h6 (fr6.get _ _ (by simp) ek) mk f26 (by omega)
        rw [List.any_eq_false] at hz
        have := hz v (List.mem_range.mpr hv)
        rw [hx] at this
        simpa using this
    · exact ⟨kvs, _, _, _, _, _, rfl, ek, mk, by omega, Nat.zero_le _, fr4⟩
  · exact ⟨_, _, _, _, rfl, ea, md, by omega, Fr.refl _ _⟩
end Ev

set_option maxRecDepth 100000
set_option maxHeartbeats 1000000
/-! == and `None in` of lists of ints -/
namespace Ev
open PySem
theorem mapO_ints (h : Hh) (k : Nat) : ∀ l : List Int, mapO (reify k h) (l.map .int) = some (l.map .int)
  | [] => rfl
  | i :: r => by
    rw [List.map_cons]
    unfold mapO
    have : reify k h (.int i) = some (.int i) := by cases k <;> rfl
    rw [this]
    dsimp only
    rw [mapO_ints h k r]; rfl
theorem shaped_ints (l : List Int) : SeqAt.shaped (.list (l.map .int)) = true := by
  have hc : PyData.canLayAll0 (l.map .int) = true := by
    induction l with
    | nil => rfl
    | cons c r ih =>
      show (PyData.canLay0 (.int c) && PyData.canLayAll0 (r.map .int)) = true
      rw [ih]; rfl
  have hd : PyData.depthAll (l.map .int) ≤ 1 := by
    clear hc
    induction l with
    | nil => simp [PyData.depthAll]
    | cons c r ih =>
      rw [List.map_cons]
      simp [PyData.depthAll, PyData.depth]
      try omega
  unfold SeqAt.shaped
  rw [Bool.and_eq_true, decide_eq_true_eq]
  refine ⟨hc, ?_⟩
  show PyData.depth (.list _) ≤ 64
  simp only [PyData.depth]
  omega
theorem eqable_ints {h : Hh} {a : Nat} {fz : Bool} {l : List Int} (e : h[a]? = some (.lst fz (l.map .int))) : eqable 20 h (.ref a) = some (.list (l.map .int)) := by
  have r : reify 20 h (.ref a) = some (.list (l.map .int)) := by
    unfold reify
    rw [e]
    dsimp only
    rw [mapO_ints]; rfl
  unfold eqable
  rw [r]
  dsimp only
  rw [shaped_ints, if_pos rfl]
theorem eqv_ints : ∀ l : List Int, PyData.eqvAll (l.map .int) (l.map .int) = true
  | [] => rfl
  | i :: r => by
    show ((i == i) && PyData.eqvAll (r.map .int) (r.map .int)) = true
    rw [eqv_ints r, BEq.rfl]; rfl
theorem ne_ints {h : Hh} {a b : Nat} {f1 f2 : Bool} {l : List Int} (e1 : h[a]? = some (.lst f1 (l.map .int))) (e2 : h[b]? = some (.lst f2 (l.map .int))) : cmpop .NotEq (.ref a) (.ref b) h = some false := by
  show (if scalD (.ref a) (.ref b) then some (eqF (.ref a) (.ref b)) else eqD h (.ref a) (.ref b)).map (!·) = _
  show (eqD h (.ref a) (.ref b)).map (!·) = _
  unfold eqD
  rw [eqable_ints e1, eqable_ints e2]
  show some (!PyData.eqvAll (l.map .int) (l.map .int)) = _
  rw [eqv_ints]; rfl
theorem none_in {h : Hh} {a : Nat} {fz : Bool} {l : List Int} (e : h[a]? = some (.lst fz (l.map .int))) : cmpop .In .non (.ref a) h = some false := by
  show inOp .non (.ref a) h = _
  unfold inOp
  dsimp only
  rw [e]
  dsimp only
  rw [eqable_ints e]
  have : eqable 20 h .non = some .none := rfl
  rw [this]
  dsimp only
  congr 1
  rw [List.any_map, List.any_eq_false]
  intro i _
  show ¬ (PyData.eqv (.int i) .none = true)
  intro z
  cases z
theorem nats_ints (xs : List Nat) : xs.map natD = (xs.map fun (i : Nat) => (i : Int)).map D.int := by rw [List.map_map]; rfl
/-- along a walk -/
theorem nd_next : ∀ (es : List Bf.Edge) (u j : Nat) (e : Bf.Edge), es[j]? = some e → Bf.nd u es (j + 1) = e.2.1
  | [], _, _, _, h => by simp at h
  | e0 :: r, u, 0, e, h => by
    simp at h
    subst h
    cases r <;> rfl
  | e0 :: r, u, j + 1, e, h => nd_next r e0.2.1 j e (by simpa using h)
theorem nd_here {E es : List Bf.Edge} {u v j : Nat} {e : Bf.Edge} (w : Bf.Walk E u v es) (h : es[j]? = some e) : e.1 = Bf.nd u es j := by
  have := (w.cut j).2
  rw [show es.drop j = e :: es.drop (j + 1) from by
    obtain ⟨hj, he⟩ := List.getElem?_eq_some_iff.mp h
    rw [List.drop_eq_getElem_cons hj, he]] at this
  exact this.2.1
theorem nd_zero (es : List Bf.Edge) (u : Nat) : Bf.nd u es 0 = u := by cases es <;> rfl
theorem nd_end {E es : List Bf.Edge} {u v : Nat} (w : Bf.Walk E u v es) : Bf.nd u es es.length = v := by
  have := (w.cut es.length).2
  rw [List.drop_length] at this
  exact this
theorem wt_take {es : List Bf.Edge} {j : Nat} {e : Bf.Edge} (h : es[j]? = some e) : Bf.wt (es.take (j + 1)) = Bf.wt (es.take j) + e.2.2 := by
  rw [List.take_add_one, h, Bf.wt_append]
  show _ + (e.2.2 + 0) = _
  omega
end Ev

set_option maxRecDepth 100000
set_option maxHeartbeats 1000000
/-! repr of bounds and of lists of constraints -/
namespace Ev
open PySem
theorem repr_of {h : Hh} {x : D} {d : PyData} {p B : Nat} (e : rdat 20 h x = some d) (s : Shn d p B) (hp : p ≤ 20) (hB : B ≤ lim) : bfun .repr [x] h = .ok (.str d.shown) h := by
  show (match reprD h x with | some s => Res.ok (D.str s) h | none => .bad) = _
  unfold reprD
  rw [e]
  dsimp only
  rw [if_pos (by rw [s.sh, decide_eq_true (Nat.le_trans s.dp hp), decide_eq_true (Nat.le_trans s.ln hB)]; rfl)]
theorem mapO_maps {A B C : Type} {f : A → B} {g : A → C} {F : B → Option C} (hf : ∀ a, F (f a) = some (g a)) : ∀ l : List A, mapO F (l.map f) = some (l.map g)
  | [] => rfl
  | a :: r => by
    rw [List.map_cons, List.map_cons]
    unfold mapO
    rw [hf a]
    dsimp only
    rw [mapO_maps hf r]
theorem rd_list {k : Nat} {h : Hh} {a : Nat} {fz : Bool} {xs : List D} {ds : List PyData} (e : h[a]? = some (.lst fz xs)) (m : mapO (rdat k h) xs = some ds) : rdat (k + 1) h (.ref a) = some (.list ds) := by
  show (match h[a]? with
    | some (.lst _ xs) => (mapO (rdat k h) xs).map PyData.list
    | some (.dic _ kvs) => (mapO (fun p : D × D => pairK (keyOnly p.1) (rdat k h p.2)) kvs).map PyData.dict
    | _ => none) = _
  rw [e]
  show (mapO (rdat k h) xs).map PyData.list = _
  rw [m]; rfl
theorem mapO_two {A B : Type} {f : A → Option B} {a : A} {l : List A} {b : B} {r : List B} (h1 : f a = some b) (h2 : mapO f l = some r) : mapO f (a :: l) = some (b :: r) := by
  unfold mapO; rw [h1]; dsimp only; rw [h2]
def oPy : Option Int → PyData
  | none => .none
  | some x => .int x
theorem rd_o (k : Nat) (h : Hh) (o : Option Int) : rdat k h (optD o) = some (oPy o) := by
  cases o <;> cases k <;> rfl
theorem shn_o {o : Option Int} (h : ∀ x, o = some x → x.natAbs < 10 ^ 60) : Shn (oPy o) 0 20000 := by
  cases o with
  | none => exact shn_non
  | some x => exact (shn_sm (k := 60) (by decide) (by decide) (h x rfl)).mono (Nat.le_refl _) (by decide)
theorem repr_o {o : Option Int} (hh : Hh) (h : ∀ x, o = some x → x.natAbs < 10 ^ 60) : bfun .repr [optD o] hh = .ok (.str (oPy o).shown) hh := repr_of (rd_o 20 hh o) (shn_o h) (by decide) (by decide)
def ePy (e : Bf.Edge) : PyData := .tuple [.int (e.1 : Nat), .int (e.2.1 : Nat), .int e.2.2]
theorem shn_es {E : List Bf.Edge} {n : Nat} (vE : VE E n) (bE : BEw E) (n2 : n ≤ 8) (lE : E.length ≤ 20) : Shn (.list (E.map ePy)) 2 (20 * (300 + 2) + 3) := by
  refine shn_list (p := 1) (B := 300) (m := 20) (fun d hd => ?_) (by rw [List.length_map]; exact lE)
  obtain ⟨ed, hm, rfl⟩ := List.mem_map.mp hd
  have := vE ed hm
  have := bE ed hm
  refine (shn_tup (p := 0) (B := 61) (m := 3) (fun d hd => ?_) (by show 3 ≤ 3; decide)).mono (by decide) (by decide)
  simp only [List.mem_cons, List.not_mem_nil, or_false] at hd
  rcases hd with rfl | rfl | rfl <;> exact shn_sm (k := 60) (by decide) (by decide) (by omega)
theorem rd_es {k : Nat} {h : Hh} {a : Nat} {fz : Bool} {E : List Bf.Edge} (e : h[a]? = some (.lst fz (E.map edD))) : rdat (k + 2) h (.ref a) = some (.list (E.map ePy)) := rd_list e (mapO_maps (f := edD) (g := ePy) (F := rdat (k + 1) h) (fun ed => by cases k <;> rfl) E)
theorem repr_es {h : Hh} {a n : Nat} {fz : Bool} {E : List Bf.Edge} (e : h[a]? = some (.lst fz (E.map edD))) (vE : VE E n) (bE : BEw E) (n2 : n ≤ 8) (lE : E.length ≤ 20) : bfun .repr [.ref a] h = .ok (.str (PyData.list (E.map ePy)).shown) h :=
  repr_of (rd_es e) (shn_es vE bE n2 lE) (by decide) (by decide)
theorem repr_nes {h : Hh} {a b n : Nat} {f1 f2 : Bool} {E : List Bf.Edge} (ea : h[a]? = some (.lst f1 [.int (n : Nat), .ref b])) (e : h[b]? = some (.lst f2 (E.map edD))) (vE : VE E n) (bE : BEw E) (n2 : n ≤ 8) (lE : E.length ≤ 20) :
    bfun .repr [.ref a] h = .ok (.str (PyData.list [.int (n : Nat), .list (E.map ePy)]).shown) h := by
  refine repr_of (rd_list ea (mapO_two rfl (mapO_two (rd_es e) rfl))) (shn_list (p := 2) (B := 20 * (300 + 2) + 3) (m := 2) (fun d hd => ?_) (by show 2 ≤ 2; decide)) (by decide) (by decide)
  simp only [List.mem_cons, List.not_mem_nil, or_false] at hd
  rcases hd with rfl | rfl
  · exact (shn_sm (k := 60) (by decide) (by decide) (by omega)).mono (by decide) (by decide)
  · exact shn_es vE bE n2 lE
theorem dist_bnd {E : List Bf.Edge} {n s : Nat} (bE : BEw E) (n2 : n ≤ 8) (lE : E.length ≤ 20) (t : Nat) : ∀ x, dist1 E n s t = some x → x.natAbs < 10 ^ 60 := fun x hx => by
  have b1 : Bf.Bnd (dist1 E n s) ((8 : Nat) * ((20 : Nat) * 10 ^ 55)) := Bnd.mono (Bf.relax_bnd (by decide) bE n _ _ (sst_bnd s)) (by rw [Int.zero_add]; exact mul_le (by decide) n2 lE)
  have := b1 t x hx
  omega
theorem same_st (z : Str) : (z == z) = true := by simp
theorem eq_st (a b : Str) (h : Hh) : cmpop .Eq (.str a) (.str b) h = some (a == b) := rfl
/-! ### o().append(x), o().reverse() -/
theorem app_wp {o arg : Sh} {σ : Env} {h : Hh} {Q : D → Hh → Prop} (hq : wpR (o σ h) fun x h1 => ∃ a xs, x = .ref a ∧ h1[a]? = some (.lst false xs) ∧ wpR (arg σ h1) fun y h2 => ∃ ys, h2[a]? = some (.lst false ys) ∧ ys.length < lim ∧ Q .non (h2.set a (.lst false (ys ++ [y])))) : wpR (eBM .append o [arg] σ h) Q := by
  unfold eBM
  rw [wpR_bind]
  refine wpR_mono hq fun x h1 ⟨a, xs, ex, ea, q⟩ => ?_
  subst ex
  have k : kdOf h1 (.ref a) = some .lst := by unfold kdOf; dsimp only; rw [ea]
  rw [k]
  show wpR (if bmK .lst .append then (eArgs [arg] σ h1).bind fun xs h2 => if kdOf h2 (.ref a) = some .lst then bmeth .append (.ref a) xs h2 else .bad else .bad) Q
  have b1 : bmK .lst .append = true := rfl
  rw [if_pos b1]
  simp only [eArgs_cons, eArgs_nil, Res.bind_assoc, wpR_bind, Res.bind_ok]
  refine wpR_mono q fun y h2 ⟨ys, e1, e2, e3⟩ => ?_
  have k1 : kdOf h2 (.ref a) = some .lst := by unfold kdOf; dsimp only; rw [e1]
  show wpR (if kdOf h2 (.ref a) = some .lst then bmeth .append (.ref a) [y] h2 else .bad) Q
  rw [if_pos k1]
  have : bmeth .append (.ref a) [y] h2 = .ok .non (h2.set a (.lst false (ys ++ [y]))) := by
    unfold bmeth
    dsimp only
    rw [e1]
    exact if_pos ⟨rfl, e2⟩
  rw [this]
  exact e3
theorem rev_eq {o : Sh} {σ : Env} {h : Hh} {a : Nat} {xs : List D} (ho : o σ h = .ok (.ref a) h) (ea : h[a]? = some (.lst false xs)) : eBM .reverse o [] σ h = .ok .non (h.set a (.lst false xs.reverse)) := by
  have k : kdOf h (.ref a) = some .lst := by unfold kdOf; dsimp only; rw [ea]
  unfold eBM
  rw [ho, Res.bind_ok, k]
  show (if bmK .lst .reverse then (eArgs [] σ h).bind fun xs h2 => if kdOf h2 (.ref a) = some .lst then bmeth .reverse (.ref a) xs h2 else .bad else .bad) = _
  have b1 : bmK .lst .reverse = true := rfl
  rw [if_pos b1]
  simp only [eArgs_nil, Res.bind_ok]
  rw [if_pos k]
  unfold bmeth
  dsimp only
  rw [ea]
  rfl
theorem rev_wp {o : Sh} {σ : Env} {h : Hh} {Q : D → Hh → Prop} (hq : wpR (o σ h) fun x h1 => ∃ a xs, x = .ref a ∧ h1[a]? = some (.lst false xs) ∧ Q .non (h1.set a (.lst false xs.reverse))) : wpR (eBM .reverse o [] σ h) Q := by
  have e : eBM .reverse o [] σ h = (o σ h).bind fun x h1 => eBM .reverse (eConst x) [] σ h1 := rfl
  rw [e, wpR_bind]
  refine wpR_mono hq fun x h1 ⟨a, xs, ex, ea, q⟩ => ?_
  subst ex
  rw [rev_eq (o := eConst (.ref a)) rfl ea]
  exact q
end Ev

set_option maxRecDepth 100000
set_option maxHeartbeats 4000000
namespace K21
open PySem PySem.Spec PyProof.Rows L2 Ev
def top (i : Nat) : Stmt := PySem.Challenge.pw_clockbounds_k21_whole_upper_bounds_by_al.main.body.getD i (.Pass ⟨0, 0, 0, 0⟩)
def e0 : Ent := ⟨"is_integer", "is_integer", defArgs (top 8), defBody (top 8), defScope (top 8), ["value"], ["value"]⟩
def e1 : Ent := ⟨"is_constraint", "is_constraint", defArgs (top 9), defBody (top 9), defScope (top 9), ["value", "node_count", "part"], ["value", "node_count"]⟩
def e2 : Ent := ⟨"checked_constraints", "checked_constraints", defArgs (top 10), defBody (top 10), defScope (top 10), ["value", "node_count", "position", "item"], ["value", "node_count"]⟩
def e3 : Ent := ⟨"__init__", "DifferenceConstraints.__init__", defArgs (inClass (top 11) 0), defBody (inClass (top 11) 0), defScope (inClass (top 11) 0), ["self", "node_count", "constraints"], ["self", "node_count", "constraints"]⟩
def e4 : Ent := ⟨"node_count", "DifferenceConstraints.node_count", defArgs (inClass (top 11) 1), defBody (inClass (top 11) 1), defScope (inClass (top 11) 1), ["self"], ["self"]⟩
def e5 : Ent := ⟨"constraints", "DifferenceConstraints.constraints", defArgs (inClass (top 11) 2), defBody (inClass (top 11) 2), defScope (inClass (top 11) 2), ["self"], ["self"]⟩
def e6 : Ent := ⟨"negative_cycle", "DifferenceConstraints.negative_cycle", defArgs (inClass (top 11) 3), defBody (inClass (top 11) 3), defScope (inClass (top 11) 3), ["self"], ["self"]⟩
def e7 : Ent := ⟨"relax", "DifferenceConstraints.relax", defArgs (inClass (top 11) 4), defBody (inClass (top 11) 4), defScope (inClass (top 11) 4), ["self", "distances", "last_edge", "changed", "turn", "position", "source", "target", "limit", "distance"], ["self", "distances"]⟩
def e8 : Ent := ⟨"find_negative_cycle", "DifferenceConstraints.find_negative_cycle", defArgs (inClass (top 11) 5), defBody (inClass (top 11) 5), defScope (inClass (top 11) 5), ["self", "distances", "last_edge", "changed", "node", "turn", "cycle"], ["self"]⟩
def e9 : Ent := ⟨"require_nodes", "DifferenceConstraints.require_nodes", defArgs (inClass (top 11) 6), defBody (inClass (top 11) 6), defScope (inClass (top 11) 6), ["self", "values", "value"], ["self", "values"]⟩
def e10 : Ent := ⟨"distances", "DifferenceConstraints.distances", defArgs (inClass (top 11) 7), defBody (inClass (top 11) 7), defScope (inClass (top 11) 7), ["self", "source"], ["self", "source"]⟩
def e11 : Ent := ⟨"upper_bound", "DifferenceConstraints.upper_bound", defArgs (inClass (top 11) 8), defBody (inClass (top 11) 8), defScope (inClass (top 11) 8), ["self", "source", "target"], ["self", "source", "target"]⟩
def e12 : Ent := ⟨"lower_bound", "DifferenceConstraints.lower_bound", defArgs (inClass (top 11) 9), defBody (inClass (top 11) 9), defScope (inClass (top 11) 9), ["self", "source", "target", "backward"], ["self", "source", "target"]⟩
def e13 : Ent := ⟨"shortest_path", "DifferenceConstraints.shortest_path", defArgs (inClass (top 11) 10), defBody (inClass (top 11) 10), defScope (inClass (top 11) 10), ["self", "source", "target"], ["self", "source", "target"]⟩
def e14 : Ent := ⟨"solution", "DifferenceConstraints.solution", defArgs (inClass (top 11) 11), defBody (inClass (top 11) 11), defScope (inClass (top 11) 11), ["self", "source", "distances", "outside", "inner", "offsets", "gaps", "shift", "edge", "node", "target", "limit"], ["self", "source"]⟩
def e15 : Ent := ⟨"satisfies", "DifferenceConstraints.satisfies", defArgs (inClass (top 11) 12), defBody (inClass (top 11) 12), defScope (inClass (top 11) 12), ["self", "values"], ["self", "values"]⟩
def e16 : Ent := ⟨"_law_rng", "_law_rng", defArgs (top 13), defBody (top 13), defScope (top 13), ["_law_script", "_law_k", "_law_cell"], ["_law_script", "_law_k"]⟩
def e17 : Ent := ⟨"_law_draw", "_law_draw", defArgs (top 14), defBody (top 14), defScope (top 14), ["_law_rng_here", "_law_many", "_law_digit"], ["_law_rng_here", "_law_many"]⟩
def e18 : Ent := ⟨"_law_random_edges", "_law_random_edges", defArgs (top 15), defBody (top 15), defScope (top 15), ["_law_rng_here", "_law_size", "_law_limit", "_law_scale", "_law_offset", "_law_result", "_law_k", "_law_source", "_law_target"], ["_law_rng_here", "_law_size", "_law_limit"]⟩
def e19 : Ent := ⟨"_law_distances", "_law_distances", defArgs (top 16), defBody (top 16), defScope (top 16), ["_law_size", "_law_edges", "_law_result", "_law_source", "_law_target", "_law_limit", "_law_middle", "_law_value", "_law_total"], ["_law_size", "_law_edges"]⟩
def e20 : Ent := ⟨"_law_same", "_law_same", defArgs (top 17), defBody (top 17), defScope (top 17), ["_law_actual", "_law_expected"], ["_law_actual", "_law_expected"]⟩
def e21 : Ent := ⟨"_law_check", "_law_check", defArgs (top 18), defBody (top 18), defScope (top 18), ["_law_system", "_law_size", "_law_edges", "_law_distances_here", "_law_source", "_law_target", "_law_expected", "_law_backward", "_law_lower"], ["_law_system", "_law_size", "_law_edges", "_law_distances_here"]⟩
def e22 : Ent := ⟨"_law_check_chain", "_law_check_chain", defArgs (top 19), defBody (top 19), defScope (top 19), ["_law_edges", "_law_system", "_law_node"], []⟩
def e23 : Ent := ⟨"law", "law", defArgs (top 20), defBody (top 20), defScope (top 20), ["_law_script", "_law_previous", "_law_k", "_law_rng_here", "_law_size", "_law_attempt", "_law_edges", "_law_distances_here", "_law_argument", "_law_system"], ["_law_script"]⟩
def T : List Ent := [e0, e1, e2, e3, e4, e5, e6, e7, e8, e9, e10, e11, e12, e13, e14, e15, e16, e17, e18, e19, e20, e21, e22, e23]
def mtab : List ((Nat × Nat) × Nat) := [((0, 8), 4), ((0, 3), 5), ((0, 7), 6), ((0, 9), 7), ((0, 5), 8), ((0, 10), 9), ((0, 4), 10), ((0, 14), 11), ((0, 6), 12), ((0, 12), 13), ((0, 13), 14), ((0, 11), 15)]
def fnames : List Str := ["cycle_found", "edges", "size", "constraints", "distances", "find_negative_cycle", "lower_bound", "negative_cycle", "node_count", "relax", "require_nodes", "satisfies", "shortest_path", "solution", "upper_bound"]
def g : TC where
  N := []
  sc := { kind := .function, names := [], isGenerator := false, isCoroutine := false }
  fn := fun _ => true
  fns := [("is_integer", 0), ("is_constraint", 1), ("checked_constraints", 2), ("_law_rng", 16), ("_law_draw", 17), ("_law_random_edges", 18), ("_law_distances", 19), ("_law_same", 20), ("_law_check", 21), ("_law_check_chain", 22), ("law", 23)]
  cls := [("DifferenceConstraints", (0, 3))]
  con := []
  fld := ["cycle_found", "edges", "size"]
  mns := ["constraints", "distances", "find_negative_cycle", "lower_bound", "negative_cycle", "node_count", "relax", "require_nodes", "satisfies", "shortest_path", "solution", "upper_bound"]
  kws := [((3, 3, []), [.pos 0, .pos 1, .pos 2])]
  mt := fun c m => mtab.lookup (c, m)
def clsOf (K : PySem.W.Frag) (x : Str) : Addr := match PySem.W.nsIn K mainGlobals x with
  | some (some (.ref a)) => a
  | _ => 0
def CTf (K : PySem.W.Frag) (c : Nat) : Addr := match c with | 0 => clsOf K "DifferenceConstraints" | _ => 0
def CPf (c : Nat) : Prop := c < 1
def G (K : PySem.W.Frag) : Gd := ⟨K, CTf K, FNof fnames, CPf⟩
/-- what the top has written: each a fact that k_is finds -/
theorem all_mk {l : PySem.W.OpenLaw} {w : World} {K : PySem.W.Frag} {h : Heap} {mg : Str → Option Value} {fa : Addr} (X : K.In h) (Gm : h.Ns mainGlobals mg) (hfa : mg "law" = some (.ref fa))
    {f0 : Addr} {od0 an0 : Option Addr} {sl0 : Array (Option Value)} {oc0 kV0 dc0 pm0 cd0 ct0 : Value} {f1 : Addr} {od1 an1 : Option Addr} {sl1 : Array (Option Value)} {oc1 kV1 dc1 pm1 cd1 ct1 : Value} {f2 : Addr} {od2 an2 : Option Addr} {sl2 : Array (Option Value)} {oc2 kV2 dc2 pm2 cd2 ct2 : Value} {f3 : Addr} {od3 an3 : Option Addr} {sl3 : Array (Option Value)} {oc3 kV3 dc3 pm3 cd3 ct3 : Value} {f4 : Addr} {od4 an4 : Option Addr} {sl4 : Array (Option Value)} {oc4 kV4 dc4 pm4 cd4 ct4 : Value} {f5 : Addr} {od5 an5 : Option Addr} {sl5 : Array (Option Value)} {oc5 kV5 dc5 pm5 cd5 ct5 : Value} {f6 : Addr} {od6 an6 : Option Addr} {sl6 : Array (Option Value)} {oc6 kV6 dc6 pm6 cd6 ct6 : Value} {f7 : Addr} {od7 an7 : Option Addr} {sl7 : Array (Option Value)} {oc7 kV7 dc7 pm7 cd7 ct7 : Value} {f8 : Addr} {od8 an8 : Option Addr} {sl8 : Array (Option Value)} {oc8 kV8 dc8 pm8 cd8 ct8 : Value} {f9 : Addr} {od9 an9 : Option Addr} {sl9 : Array (Option Value)} {oc9 kV9 dc9 pm9 cd9 ct9 : Value} {f10 : Addr} {od10 an10 : Option Addr} {sl10 : Array (Option Value)} {oc10 kV10 dc10 pm10 cd10 ct10 : Value} {f11 : Addr} {od11 an11 : Option Addr} {sl11 : Array (Option Value)} {oc11 kV11 dc11 pm11 cd11 ct11 : Value} {f12 : Addr} {od12 an12 : Option Addr} {sl12 : Array (Option Value)} {oc12 kV12 dc12 pm12 cd12 ct12 : Value} {f13 : Addr} {od13 an13 : Option Addr} {sl13 : Array (Option Value)} {oc13 kV13 dc13 pm13 cd13 ct13 : Value} {f14 : Addr} {od14 an14 : Option Addr} {sl14 : Array (Option Value)} {oc14 kV14 dc14 pm14 cd14 ct14 : Value} {f15 : Addr} {od15 an15 : Option Addr} {sl15 : Array (Option Value)} {oc15 kV15 dc15 pm15 cd15 ct15 : Value} {f16 : Addr} {od16 an16 : Option Addr} {sl16 : Array (Option Value)} {oc16 kV16 dc16 pm16 cd16 ct16 : Value} {f17 : Addr} {od17 an17 : Option Addr} {sl17 : Array (Option Value)} {oc17 kV17 dc17 pm17 cd17 ct17 : Value} {f18 : Addr} {od18 an18 : Option Addr} {sl18 : Array (Option Value)} {oc18 kV18 dc18 pm18 cd18 ct18 : Value} {f19 : Addr} {od19 an19 : Option Addr} {sl19 : Array (Option Value)} {oc19 kV19 dc19 pm19 cd19 ct19 : Value} {f20 : Addr} {od20 an20 : Option Addr} {sl20 : Array (Option Value)} {oc20 kV20 dc20 pm20 cd20 ct20 : Value} {f21 : Addr} {od21 an21 : Option Addr} {sl21 : Array (Option Value)} {oc21 kV21 dc21 pm21 cd21 ct21 : Value} {f22 : Addr} {od22 an22 : Option Addr} {sl22 : Array (Option Value)} {oc22 kV22 dc22 pm22 cd22 ct22 : Value} {f23 : Addr} {od23 an23 : Option Addr} {sl23 : Array (Option Value)} {oc23 kV23 dc23 pm23 cd23 ct23 : Value} {C0 : Addr}
    (C0a : PySem.W.nsIn K mainGlobals "DifferenceConstraints" = some (some (.ref C0)))
    (a0 : PySem.W.nsIn K mainGlobals "is_integer" = some (some (.ref f0))) (l0 : K.lookup f0 = some ⟨oc0, od0, .func (PySem.W.fnOf "is_integer" "is_integer" (defArgs (top 8)) (defBody (top 8)) (defScope (top 8)) .none kV0 dc0 pm0 an0 cd0 ct0), sl0⟩) (c0 : PySem.W.codeIn K cd0 "is_integer" = true) (k0 : PySem.W.keepIn K (.ref f0) = true)
    (a1 : PySem.W.nsIn K mainGlobals "is_constraint" = some (some (.ref f1))) (l1 : K.lookup f1 = some ⟨oc1, od1, .func (PySem.W.fnOf "is_constraint" "is_constraint" (defArgs (top 9)) (defBody (top 9)) (defScope (top 9)) .none kV1 dc1 pm1 an1 cd1 ct1), sl1⟩) (c1 : PySem.W.codeIn K cd1 "is_constraint" = true) (k1 : PySem.W.keepIn K (.ref f1) = true)
    (a2 : PySem.W.nsIn K mainGlobals "checked_constraints" = some (some (.ref f2))) (l2 : K.lookup f2 = some ⟨oc2, od2, .func (PySem.W.fnOf "checked_constraints" "checked_constraints" (defArgs (top 10)) (defBody (top 10)) (defScope (top 10)) .none kV2 dc2 pm2 an2 cd2 ct2), sl2⟩) (c2 : PySem.W.codeIn K cd2 "checked_constraints" = true) (k2 : PySem.W.keepIn K (.ref f2) = true)
    (a3 : PySem.W.findIn K (.ref C0) "__init__" = some (some (.ref f3))) (i3 : PySem.W.isFn K (.ref f3) = true) (l3 : K.lookup f3 = some ⟨oc3, od3, .func (PySem.W.fnOf "__init__" "DifferenceConstraints.__init__" (defArgs (inClass (top 11) 0)) (defBody (inClass (top 11) 0)) (defScope (inClass (top 11) 0)) .none kV3 dc3 pm3 an3 cd3 ct3), sl3⟩) (c3 : PySem.W.codeIn K cd3 "DifferenceConstraints.__init__" = true) (k3 : PySem.W.keepIn K (.ref f3) = true)
    (a4 : PySem.W.findIn K (.ref C0) "node_count" = some (some (.ref f4))) (i4 : PySem.W.isFn K (.ref f4) = true) (l4 : K.lookup f4 = some ⟨oc4, od4, .func (PySem.W.fnOf "node_count" "DifferenceConstraints.node_count" (defArgs (inClass (top 11) 1)) (defBody (inClass (top 11) 1)) (defScope (inClass (top 11) 1)) .none kV4 dc4 pm4 an4 cd4 ct4), sl4⟩) (c4 : PySem.W.codeIn K cd4 "DifferenceConstraints.node_count" = true) (k4 : PySem.W.keepIn K (.ref f4) = true)
    (a5 : PySem.W.findIn K (.ref C0) "constraints" = some (some (.ref f5))) (i5 : PySem.W.isFn K (.ref f5) = true) (l5 : K.lookup f5 = some ⟨oc5, od5, .func (PySem.W.fnOf "constraints" "DifferenceConstraints.constraints" (defArgs (inClass (top 11) 2)) (defBody (inClass (top 11) 2)) (defScope (inClass (top 11) 2)) .none kV5 dc5 pm5 an5 cd5 ct5), sl5⟩) (c5 : PySem.W.codeIn K cd5 "DifferenceConstraints.constraints" = true) (k5 : PySem.W.keepIn K (.ref f5) = true)
    (a6 : PySem.W.findIn K (.ref C0) "negative_cycle" = some (some (.ref f6))) (i6 : PySem.W.isFn K (.ref f6) = true) (l6 : K.lookup f6 = some ⟨oc6, od6, .func (PySem.W.fnOf "negative_cycle" "DifferenceConstraints.negative_cycle" (defArgs (inClass (top 11) 3)) (defBody (inClass (top 11) 3)) (defScope (inClass (top 11) 3)) .none kV6 dc6 pm6 an6 cd6 ct6), sl6⟩) (c6 : PySem.W.codeIn K cd6 "DifferenceConstraints.negative_cycle" = true) (k6 : PySem.W.keepIn K (.ref f6) = true)
    (a7 : PySem.W.findIn K (.ref C0) "relax" = some (some (.ref f7))) (i7 : PySem.W.isFn K (.ref f7) = true) (l7 : K.lookup f7 = some ⟨oc7, od7, .func (PySem.W.fnOf "relax" "DifferenceConstraints.relax" (defArgs (inClass (top 11) 4)) (defBody (inClass (top 11) 4)) (defScope (inClass (top 11) 4)) .none kV7 dc7 pm7 an7 cd7 ct7), sl7⟩) (c7 : PySem.W.codeIn K cd7 "DifferenceConstraints.relax" = true) (k7 : PySem.W.keepIn K (.ref f7) = true)
    (a8 : PySem.W.findIn K (.ref C0) "find_negative_cycle" = some (some (.ref f8))) (i8 : PySem.W.isFn K (.ref f8) = true) (l8 : K.lookup f8 = some ⟨oc8, od8, .func (PySem.W.fnOf "find_negative_cycle" "DifferenceConstraints.find_negative_cycle" (defArgs (inClass (top 11) 5)) (defBody (inClass (top 11) 5)) (defScope (inClass (top 11) 5)) .none kV8 dc8 pm8 an8 cd8 ct8), sl8⟩) (c8 : PySem.W.codeIn K cd8 "DifferenceConstraints.find_negative_cycle" = true) (k8 : PySem.W.keepIn K (.ref f8) = true)
    (a9 : PySem.W.findIn K (.ref C0) "require_nodes" = some (some (.ref f9))) (i9 : PySem.W.isFn K (.ref f9) = true) (l9 : K.lookup f9 = some ⟨oc9, od9, .func (PySem.W.fnOf "require_nodes" "DifferenceConstraints.require_nodes" (defArgs (inClass (top 11) 6)) (defBody (inClass (top 11) 6)) (defScope (inClass (top 11) 6)) .none kV9 dc9 pm9 an9 cd9 ct9), sl9⟩) (c9 : PySem.W.codeIn K cd9 "DifferenceConstraints.require_nodes" = true) (k9 : PySem.W.keepIn K (.ref f9) = true)
    (a10 : PySem.W.findIn K (.ref C0) "distances" = some (some (.ref f10))) (i10 : PySem.W.isFn K (.ref f10) = true) (l10 : K.lookup f10 = some ⟨oc10, od10, .func (PySem.W.fnOf "distances" "DifferenceConstraints.distances" (defArgs (inClass (top 11) 7)) (defBody (inClass (top 11) 7)) (defScope (inClass (top 11) 7)) .none kV10 dc10 pm10 an10 cd10 ct10), sl10⟩) (c10 : PySem.W.codeIn K cd10 "DifferenceConstraints.distances" = true) (k10 : PySem.W.keepIn K (.ref f10) = true)
    (a11 : PySem.W.findIn K (.ref C0) "upper_bound" = some (some (.ref f11))) (i11 : PySem.W.isFn K (.ref f11) = true) (l11 : K.lookup f11 = some ⟨oc11, od11, .func (PySem.W.fnOf "upper_bound" "DifferenceConstraints.upper_bound" (defArgs (inClass (top 11) 8)) (defBody (inClass (top 11) 8)) (defScope (inClass (top 11) 8)) .none kV11 dc11 pm11 an11 cd11 ct11), sl11⟩) (c11 : PySem.W.codeIn K cd11 "DifferenceConstraints.upper_bound" = true) (k11 : PySem.W.keepIn K (.ref f11) = true)
    (a12 : PySem.W.findIn K (.ref C0) "lower_bound" = some (some (.ref f12))) (i12 : PySem.W.isFn K (.ref f12) = true) (l12 : K.lookup f12 = some ⟨oc12, od12, .func (PySem.W.fnOf "lower_bound" "DifferenceConstraints.lower_bound" (defArgs (inClass (top 11) 9)) (defBody (inClass (top 11) 9)) (defScope (inClass (top 11) 9)) .none kV12 dc12 pm12 an12 cd12 ct12), sl12⟩) (c12 : PySem.W.codeIn K cd12 "DifferenceConstraints.lower_bound" = true) (k12 : PySem.W.keepIn K (.ref f12) = true)
    (a13 : PySem.W.findIn K (.ref C0) "shortest_path" = some (some (.ref f13))) (i13 : PySem.W.isFn K (.ref f13) = true) (l13 : K.lookup f13 = some ⟨oc13, od13, .func (PySem.W.fnOf "shortest_path" "DifferenceConstraints.shortest_path" (defArgs (inClass (top 11) 10)) (defBody (inClass (top 11) 10)) (defScope (inClass (top 11) 10)) .none kV13 dc13 pm13 an13 cd13 ct13), sl13⟩) (c13 : PySem.W.codeIn K cd13 "DifferenceConstraints.shortest_path" = true) (k13 : PySem.W.keepIn K (.ref f13) = true)
    (a14 : PySem.W.findIn K (.ref C0) "solution" = some (some (.ref f14))) (i14 : PySem.W.isFn K (.ref f14) = true) (l14 : K.lookup f14 = some ⟨oc14, od14, .func (PySem.W.fnOf "solution" "DifferenceConstraints.solution" (defArgs (inClass (top 11) 11)) (defBody (inClass (top 11) 11)) (defScope (inClass (top 11) 11)) .none kV14 dc14 pm14 an14 cd14 ct14), sl14⟩) (c14 : PySem.W.codeIn K cd14 "DifferenceConstraints.solution" = true) (k14 : PySem.W.keepIn K (.ref f14) = true)
    (a15 : PySem.W.findIn K (.ref C0) "satisfies" = some (some (.ref f15))) (i15 : PySem.W.isFn K (.ref f15) = true) (l15 : K.lookup f15 = some ⟨oc15, od15, .func (PySem.W.fnOf "satisfies" "DifferenceConstraints.satisfies" (defArgs (inClass (top 11) 12)) (defBody (inClass (top 11) 12)) (defScope (inClass (top 11) 12)) .none kV15 dc15 pm15 an15 cd15 ct15), sl15⟩) (c15 : PySem.W.codeIn K cd15 "DifferenceConstraints.satisfies" = true) (k15 : PySem.W.keepIn K (.ref f15) = true)
    (a16 : PySem.W.nsIn K mainGlobals "_law_rng" = some (some (.ref f16))) (l16 : K.lookup f16 = some ⟨oc16, od16, .func (PySem.W.fnOf "_law_rng" "_law_rng" (defArgs (top 13)) (defBody (top 13)) (defScope (top 13)) .none kV16 dc16 pm16 an16 cd16 ct16), sl16⟩) (c16 : PySem.W.codeIn K cd16 "_law_rng" = true) (k16 : PySem.W.keepIn K (.ref f16) = true)
    (a17 : PySem.W.nsIn K mainGlobals "_law_draw" = some (some (.ref f17))) (l17 : K.lookup f17 = some ⟨oc17, od17, .func (PySem.W.fnOf "_law_draw" "_law_draw" (defArgs (top 14)) (defBody (top 14)) (defScope (top 14)) .none kV17 dc17 pm17 an17 cd17 ct17), sl17⟩) (c17 : PySem.W.codeIn K cd17 "_law_draw" = true) (k17 : PySem.W.keepIn K (.ref f17) = true)
    (a18 : PySem.W.nsIn K mainGlobals "_law_random_edges" = some (some (.ref f18))) (l18 : K.lookup f18 = some ⟨oc18, od18, .func (PySem.W.fnOf "_law_random_edges" "_law_random_edges" (defArgs (top 15)) (defBody (top 15)) (defScope (top 15)) .none kV18 dc18 pm18 an18 cd18 ct18), sl18⟩) (c18 : PySem.W.codeIn K cd18 "_law_random_edges" = true) (k18 : PySem.W.keepIn K (.ref f18) = true)
    (a19 : PySem.W.nsIn K mainGlobals "_law_distances" = some (some (.ref f19))) (l19 : K.lookup f19 = some ⟨oc19, od19, .func (PySem.W.fnOf "_law_distances" "_law_distances" (defArgs (top 16)) (defBody (top 16)) (defScope (top 16)) .none kV19 dc19 pm19 an19 cd19 ct19), sl19⟩) (c19 : PySem.W.codeIn K cd19 "_law_distances" = true) (k19 : PySem.W.keepIn K (.ref f19) = true)
    (a20 : PySem.W.nsIn K mainGlobals "_law_same" = some (some (.ref f20))) (l20 : K.lookup f20 = some ⟨oc20, od20, .func (PySem.W.fnOf "_law_same" "_law_same" (defArgs (top 17)) (defBody (top 17)) (defScope (top 17)) .none kV20 dc20 pm20 an20 cd20 ct20), sl20⟩) (c20 : PySem.W.codeIn K cd20 "_law_same" = true) (k20 : PySem.W.keepIn K (.ref f20) = true)
    (a21 : PySem.W.nsIn K mainGlobals "_law_check" = some (some (.ref f21))) (l21 : K.lookup f21 = some ⟨oc21, od21, .func (PySem.W.fnOf "_law_check" "_law_check" (defArgs (top 18)) (defBody (top 18)) (defScope (top 18)) .none kV21 dc21 pm21 an21 cd21 ct21), sl21⟩) (c21 : PySem.W.codeIn K cd21 "_law_check" = true) (k21 : PySem.W.keepIn K (.ref f21) = true)
    (a22 : PySem.W.nsIn K mainGlobals "_law_check_chain" = some (some (.ref f22))) (l22 : K.lookup f22 = some ⟨oc22, od22, .func (PySem.W.fnOf "_law_check_chain" "_law_check_chain" (defArgs (top 19)) (defBody (top 19)) (defScope (top 19)) .none kV22 dc22 pm22 an22 cd22 ct22), sl22⟩) (c22 : PySem.W.codeIn K cd22 "_law_check_chain" = true) (k22 : PySem.W.keepIn K (.ref f22) = true)
    (a23 : PySem.W.nsIn K mainGlobals "law" = some (some (.ref f23))) (l23 : K.lookup f23 = some ⟨oc23, od23, .func (PySem.W.fnOf "law" "law" (defArgs (top 20)) (defBody (top 20)) (defScope (top 20)) .none kV23 dc23 pm23 an23 cd23 ct23), sl23⟩) (c23 : PySem.W.codeIn K cd23 "law" = true) (k23 : PySem.W.keepIn K (.ref f23) = true)
    (z0 : PySem.W.nsIn K mainGlobals "len" = some none)
    (z1 : PySem.W.nsIn K mainGlobals "repr" = some none)
    (z2 : PySem.W.nsIn K mainGlobals "abs" = some none)
    (z3 : PySem.W.nsIn K mainGlobals "max" = some none)
    (z4 : PySem.W.nsIn K mainGlobals "min" = some none)
    (z5 : PySem.W.nsIn K mainGlobals "divmod" = some none)
    (z6 : PySem.W.nsIn K mainGlobals "list" = some none)
    (z7 : PySem.W.nsIn K mainGlobals "tuple" = some none)
    (z8 : PySem.W.nsIn K mainGlobals "str" = some none)
    (z9 : PySem.W.nsIn K mainGlobals "int" = some none)
    (z10 : PySem.W.nsIn K mainGlobals "all" = some none)
    (z11 : PySem.W.nsIn K mainGlobals "any" = some none)
    (z12 : PySem.W.nsIn K mainGlobals "sum" = some none)
    (z13 : PySem.W.nsIn K mainGlobals "isinstance" = some none)
    (z14 : PySem.W.nsIn K mainGlobals "range" = some none)
    (z15 : PySem.W.nsIn K mainGlobals "enumerate" = some none)
    (z16 : PySem.W.nsIn K mainGlobals "bool" = some none)
    (z17 : PySem.W.nsIn K mainGlobals "dict" = some none)
    (C0pg : PySem.W.plainGet K C0 Str.empty = true)
    (C0hd : PySem.W.hasDictIn K C0 = true)
    (C0po : PySem.W.plainOver K C0 = true)
    (C0sa : PySem.W.findIn K (.ref C0) "__setattr__" = some (some (.builtin "object.__setattr__")))
    (C0mk : PySem.W.makesIn K C0 = true)
    (C0kc : PySem.W.keepIn K (.ref C0) = true)
    (C0ic : PySem.W.findIn K (.ref C0) "__class__" = some (some (.builtin "object.__class__")))
    (C0mr : PySem.W.mroIn K C0 (.type "object") = some true)
    (C0n0_ : PySem.W.findIn K (.ref C0) "cycle_found" = some none)
    (C0n1_ : PySem.W.findIn K (.ref C0) "edges" = some none)
    (C0n2_ : PySem.W.findIn K (.ref C0) "size" = some none)
    (C0o0_ : PySem.W.kitOne K (.ref C0) (.ref C0) = some true)
    (C0p0_ : PySem.W.kitOne K (.type "NoneType") (.ref C0) = some false)
    (C0r0_ : PySem.W.kitOne K (.ref C0) (.type "NoneType") = some false)
    (C0p1_ : PySem.W.kitOne K (.type "bool") (.ref C0) = some false)
    (C0r1_ : PySem.W.kitOne K (.ref C0) (.type "bool") = some false)
    (C0p2_ : PySem.W.kitOne K (.type "int") (.ref C0) = some false)
    (C0r2_ : PySem.W.kitOne K (.ref C0) (.type "int") = some false)
    (C0p3_ : PySem.W.kitOne K (.type "str") (.ref C0) = some false)
    (C0r3_ : PySem.W.kitOne K (.ref C0) (.type "str") = some false)
    (C0p4_ : PySem.W.kitOne K (.type "list") (.ref C0) = some false)
    (C0r4_ : PySem.W.kitOne K (.ref C0) (.type "list") = some false)
    (C0p5_ : PySem.W.kitOne K (.type "tuple") (.ref C0) = some false)
    (C0r5_ : PySem.W.kitOne K (.ref C0) (.type "tuple") = some false)
    (C0p6_ : PySem.W.kitOne K (.type "dict") (.ref C0) = some false)
    (C0r6_ : PySem.W.kitOne K (.ref C0) (.type "dict") = some false)
    (xg : PySem.W.specialIn K (.builtin "object.__class__") "__get__" = some (some (.builtin "getset_descriptor.__get__")))
    (xt : PySem.W.takesIn K (.builtin "object.__class__") = some true)
    (nl : noList K = true)
    : (∀ b o, K.lookup b = some o → o.cls ≠ .type "list") ∧ ∃ fd : FuncData, (∀ (s : Shared) (v : Value), BindsTo s fd ⟨[v], []⟩ [("_law_script", v)]) ∧ ∀ base : Heap, K.In base → base.Ns mainGlobals mg → (∃ o, base.get? sysModules = some o) → FnG l.prog w K mg base (2 * 8) fa fd ["_law_script"] (spD (G K) (callN (tabOf g T) 8 23)) := by
  have e := hfa.symm.trans (PySem.W.mg_of X Gm a23)
  cases e
  obtain rfl : C0 = clsOf K "DifferenceConstraints" := by unfold clsOf; rw [C0a]
  have E0 : EntOk K e0 f0 (PySem.W.fnOf "is_integer" "is_integer" (defArgs (top 8)) (defBody (top 8)) (defScope (top 8)) .none kV0 dc0 pm0 an0 cd0 ct0) := ⟨⟨oc0, od0, _, kV0, dc0, pm0, an0, cd0, ct0, sl0, rfl, l0, c0⟩, k0, ⟨rfl, rfl, rfl, by decide +kernel, rfl, by decide +kernel, by decide +kernel⟩, .all fun us hl => (match us, hl with | [_], _ => rfl), by decide +kernel⟩
  have E1 : EntOk K e1 f1 (PySem.W.fnOf "is_constraint" "is_constraint" (defArgs (top 9)) (defBody (top 9)) (defScope (top 9)) .none kV1 dc1 pm1 an1 cd1 ct1) := ⟨⟨oc1, od1, _, kV1, dc1, pm1, an1, cd1, ct1, sl1, rfl, l1, c1⟩, k1, ⟨rfl, rfl, rfl, by decide +kernel, rfl, by decide +kernel, by decide +kernel⟩, .all fun us hl => (match us, hl with | [_, _], _ => rfl), by decide +kernel⟩
  have E2 : EntOk K e2 f2 (PySem.W.fnOf "checked_constraints" "checked_constraints" (defArgs (top 10)) (defBody (top 10)) (defScope (top 10)) .none kV2 dc2 pm2 an2 cd2 ct2) := ⟨⟨oc2, od2, _, kV2, dc2, pm2, an2, cd2, ct2, sl2, rfl, l2, c2⟩, k2, ⟨rfl, rfl, rfl, by decide +kernel, rfl, by decide +kernel, by decide +kernel⟩, .all fun us hl => (match us, hl with | [_, _], _ => rfl), by decide +kernel⟩
  have E3 : EntOk K e3 f3 (PySem.W.fnOf "__init__" "DifferenceConstraints.__init__" (defArgs (inClass (top 11) 0)) (defBody (inClass (top 11) 0)) (defScope (inClass (top 11) 0)) .none kV3 dc3 pm3 an3 cd3 ct3) := ⟨⟨oc3, od3, _, kV3, dc3, pm3, an3, cd3, ct3, sl3, rfl, l3, c3⟩, k3, ⟨rfl, rfl, rfl, by decide +kernel, rfl, by decide +kernel, by decide +kernel⟩, .all fun us hl => (match us, hl with | [_, _, _], _ => rfl), by decide +kernel⟩
  have E4 : EntOk K e4 f4 (PySem.W.fnOf "node_count" "DifferenceConstraints.node_count" (defArgs (inClass (top 11) 1)) (defBody (inClass (top 11) 1)) (defScope (inClass (top 11) 1)) .none kV4 dc4 pm4 an4 cd4 ct4) := ⟨⟨oc4, od4, _, kV4, dc4, pm4, an4, cd4, ct4, sl4, rfl, l4, c4⟩, k4, ⟨rfl, rfl, rfl, by decide +kernel, rfl, by decide +kernel, by decide +kernel⟩, .all fun us hl => (match us, hl with | [_], _ => rfl), by decide +kernel⟩
  have E5 : EntOk K e5 f5 (PySem.W.fnOf "constraints" "DifferenceConstraints.constraints" (defArgs (inClass (top 11) 2)) (defBody (inClass (top 11) 2)) (defScope (inClass (top 11) 2)) .none kV5 dc5 pm5 an5 cd5 ct5) := ⟨⟨oc5, od5, _, kV5, dc5, pm5, an5, cd5, ct5, sl5, rfl, l5, c5⟩, k5, ⟨rfl, rfl, rfl, by decide +kernel, rfl, by decide +kernel, by decide +kernel⟩, .all fun us hl => (match us, hl with | [_], _ => rfl), by decide +kernel⟩
  have E6 : EntOk K e6 f6 (PySem.W.fnOf "negative_cycle" "DifferenceConstraints.negative_cycle" (defArgs (inClass (top 11) 3)) (defBody (inClass (top 11) 3)) (defScope (inClass (top 11) 3)) .none kV6 dc6 pm6 an6 cd6 ct6) := ⟨⟨oc6, od6, _, kV6, dc6, pm6, an6, cd6, ct6, sl6, rfl, l6, c6⟩, k6, ⟨rfl, rfl, rfl, by decide +kernel, rfl, by decide +kernel, by decide +kernel⟩, .all fun us hl => (match us, hl with | [_], _ => rfl), by decide +kernel⟩
  have E7 : EntOk K e7 f7 (PySem.W.fnOf "relax" "DifferenceConstraints.relax" (defArgs (inClass (top 11) 4)) (defBody (inClass (top 11) 4)) (defScope (inClass (top 11) 4)) .none kV7 dc7 pm7 an7 cd7 ct7) := ⟨⟨oc7, od7, _, kV7, dc7, pm7, an7, cd7, ct7, sl7, rfl, l7, c7⟩, k7, ⟨rfl, rfl, rfl, by decide +kernel, rfl, by decide +kernel, by decide +kernel⟩, .all fun us hl => (match us, hl with | [_, _], _ => rfl), by decide +kernel⟩
  have E8 : EntOk K e8 f8 (PySem.W.fnOf "find_negative_cycle" "DifferenceConstraints.find_negative_cycle" (defArgs (inClass (top 11) 5)) (defBody (inClass (top 11) 5)) (defScope (inClass (top 11) 5)) .none kV8 dc8 pm8 an8 cd8 ct8) := ⟨⟨oc8, od8, _, kV8, dc8, pm8, an8, cd8, ct8, sl8, rfl, l8, c8⟩, k8, ⟨rfl, rfl, rfl, by decide +kernel, rfl, by decide +kernel, by decide +kernel⟩, .all fun us hl => (match us, hl with | [_], _ => rfl), by decide +kernel⟩
  have E9 : EntOk K e9 f9 (PySem.W.fnOf "require_nodes" "DifferenceConstraints.require_nodes" (defArgs (inClass (top 11) 6)) (defBody (inClass (top 11) 6)) (defScope (inClass (top 11) 6)) .none kV9 dc9 pm9 an9 cd9 ct9) := ⟨⟨oc9, od9, _, kV9, dc9, pm9, an9, cd9, ct9, sl9, rfl, l9, c9⟩, k9, ⟨rfl, rfl, rfl, by decide +kernel, rfl, by decide +kernel, by decide +kernel⟩, .all fun us hl => (match us, hl with | [_, _], _ => rfl), by decide +kernel⟩
  have E10 : EntOk K e10 f10 (PySem.W.fnOf "distances" "DifferenceConstraints.distances" (defArgs (inClass (top 11) 7)) (defBody (inClass (top 11) 7)) (defScope (inClass (top 11) 7)) .none kV10 dc10 pm10 an10 cd10 ct10) := ⟨⟨oc10, od10, _, kV10, dc10, pm10, an10, cd10, ct10, sl10, rfl, l10, c10⟩, k10, ⟨rfl, rfl, rfl, by decide +kernel, rfl, by decide +kernel, by decide +kernel⟩, .all fun us hl => (match us, hl with | [_, _], _ => rfl), by decide +kernel⟩
  have E11 : EntOk K e11 f11 (PySem.W.fnOf "upper_bound" "DifferenceConstraints.upper_bound" (defArgs (inClass (top 11) 8)) (defBody (inClass (top 11) 8)) (defScope (inClass (top 11) 8)) .none kV11 dc11 pm11 an11 cd11 ct11) := ⟨⟨oc11, od11, _, kV11, dc11, pm11, an11, cd11, ct11, sl11, rfl, l11, c11⟩, k11, ⟨rfl, rfl, rfl, by decide +kernel, rfl, by decide +kernel, by decide +kernel⟩, .all fun us hl => (match us, hl with | [_, _, _], _ => rfl), by decide +kernel⟩
  have E12 : EntOk K e12 f12 (PySem.W.fnOf "lower_bound" "DifferenceConstraints.lower_bound" (defArgs (inClass (top 11) 9)) (defBody (inClass (top 11) 9)) (defScope (inClass (top 11) 9)) .none kV12 dc12 pm12 an12 cd12 ct12) := ⟨⟨oc12, od12, _, kV12, dc12, pm12, an12, cd12, ct12, sl12, rfl, l12, c12⟩, k12, ⟨rfl, rfl, rfl, by decide +kernel, rfl, by decide +kernel, by decide +kernel⟩, .all fun us hl => (match us, hl with | [_, _, _], _ => rfl), by decide +kernel⟩
  have E13 : EntOk K e13 f13 (PySem.W.fnOf "shortest_path" "DifferenceConstraints.shortest_path" (defArgs (inClass (top 11) 10)) (defBody (inClass (top 11) 10)) (defScope (inClass (top 11) 10)) .none kV13 dc13 pm13 an13 cd13 ct13) := ⟨⟨oc13, od13, _, kV13, dc13, pm13, an13, cd13, ct13, sl13, rfl, l13, c13⟩, k13, ⟨rfl, rfl, rfl, by decide +kernel, rfl, by decide +kernel, by decide +kernel⟩, .all fun us hl => (match us, hl with | [_, _, _], _ => rfl), by decide +kernel⟩
  have E14 : EntOk K e14 f14 (PySem.W.fnOf "solution" "DifferenceConstraints.solution" (defArgs (inClass (top 11) 11)) (defBody (inClass (top 11) 11)) (defScope (inClass (top 11) 11)) .none kV14 dc14 pm14 an14 cd14 ct14) := ⟨⟨oc14, od14, _, kV14, dc14, pm14, an14, cd14, ct14, sl14, rfl, l14, c14⟩, k14, ⟨rfl, rfl, rfl, by decide +kernel, rfl, by decide +kernel, by decide +kernel⟩, .all fun us hl => (match us, hl with | [_, _], _ => rfl), by decide +kernel⟩
  have E15 : EntOk K e15 f15 (PySem.W.fnOf "satisfies" "DifferenceConstraints.satisfies" (defArgs (inClass (top 11) 12)) (defBody (inClass (top 11) 12)) (defScope (inClass (top 11) 12)) .none kV15 dc15 pm15 an15 cd15 ct15) := ⟨⟨oc15, od15, _, kV15, dc15, pm15, an15, cd15, ct15, sl15, rfl, l15, c15⟩, k15, ⟨rfl, rfl, rfl, by decide +kernel, rfl, by decide +kernel, by decide +kernel⟩, .all fun us hl => (match us, hl with | [_, _], _ => rfl), by decide +kernel⟩
  have E16 : EntOk K e16 f16 (PySem.W.fnOf "_law_rng" "_law_rng" (defArgs (top 13)) (defBody (top 13)) (defScope (top 13)) .none kV16 dc16 pm16 an16 cd16 ct16) := ⟨⟨oc16, od16, _, kV16, dc16, pm16, an16, cd16, ct16, sl16, rfl, l16, c16⟩, k16, ⟨rfl, rfl, rfl, by decide +kernel, rfl, by decide +kernel, by decide +kernel⟩, .all fun us hl => (match us, hl with | [_, _], _ => rfl), by decide +kernel⟩
  have E17 : EntOk K e17 f17 (PySem.W.fnOf "_law_draw" "_law_draw" (defArgs (top 14)) (defBody (top 14)) (defScope (top 14)) .none kV17 dc17 pm17 an17 cd17 ct17) := ⟨⟨oc17, od17, _, kV17, dc17, pm17, an17, cd17, ct17, sl17, rfl, l17, c17⟩, k17, ⟨rfl, rfl, rfl, by decide +kernel, rfl, by decide +kernel, by decide +kernel⟩, .all fun us hl => (match us, hl with | [_, _], _ => rfl), by decide +kernel⟩
  have E18 : EntOk K e18 f18 (PySem.W.fnOf "_law_random_edges" "_law_random_edges" (defArgs (top 15)) (defBody (top 15)) (defScope (top 15)) .none kV18 dc18 pm18 an18 cd18 ct18) := ⟨⟨oc18, od18, _, kV18, dc18, pm18, an18, cd18, ct18, sl18, rfl, l18, c18⟩, k18, ⟨rfl, rfl, rfl, by decide +kernel, rfl, by decide +kernel, by decide +kernel⟩, .all fun us hl => (match us, hl with | [_, _, _], _ => rfl), by decide +kernel⟩
  have E19 : EntOk K e19 f19 (PySem.W.fnOf "_law_distances" "_law_distances" (defArgs (top 16)) (defBody (top 16)) (defScope (top 16)) .none kV19 dc19 pm19 an19 cd19 ct19) := ⟨⟨oc19, od19, _, kV19, dc19, pm19, an19, cd19, ct19, sl19, rfl, l19, c19⟩, k19, ⟨rfl, rfl, rfl, by decide +kernel, rfl, by decide +kernel, by decide +kernel⟩, .all fun us hl => (match us, hl with | [_, _], _ => rfl), by decide +kernel⟩
  have E20 : EntOk K e20 f20 (PySem.W.fnOf "_law_same" "_law_same" (defArgs (top 17)) (defBody (top 17)) (defScope (top 17)) .none kV20 dc20 pm20 an20 cd20 ct20) := ⟨⟨oc20, od20, _, kV20, dc20, pm20, an20, cd20, ct20, sl20, rfl, l20, c20⟩, k20, ⟨rfl, rfl, rfl, by decide +kernel, rfl, by decide +kernel, by decide +kernel⟩, .all fun us hl => (match us, hl with | [_, _], _ => rfl), by decide +kernel⟩
  have E21 : EntOk K e21 f21 (PySem.W.fnOf "_law_check" "_law_check" (defArgs (top 18)) (defBody (top 18)) (defScope (top 18)) .none kV21 dc21 pm21 an21 cd21 ct21) := ⟨⟨oc21, od21, _, kV21, dc21, pm21, an21, cd21, ct21, sl21, rfl, l21, c21⟩, k21, ⟨rfl, rfl, rfl, by decide +kernel, rfl, by decide +kernel, by decide +kernel⟩, .all fun us hl => (match us, hl with | [_, _, _, _], _ => rfl), by decide +kernel⟩
  have E22 : EntOk K e22 f22 (PySem.W.fnOf "_law_check_chain" "_law_check_chain" (defArgs (top 19)) (defBody (top 19)) (defScope (top 19)) .none kV22 dc22 pm22 an22 cd22 ct22) := ⟨⟨oc22, od22, _, kV22, dc22, pm22, an22, cd22, ct22, sl22, rfl, l22, c22⟩, k22, ⟨rfl, rfl, rfl, by decide +kernel, rfl, by decide +kernel, by decide +kernel⟩, .all fun us hl => (match us, hl with | [], _ => rfl), by decide +kernel⟩
  have E23 : EntOk K e23 fa (PySem.W.fnOf "law" "law" (defArgs (top 20)) (defBody (top 20)) (defScope (top 20)) .none kV23 dc23 pm23 an23 cd23 ct23) := ⟨⟨oc23, od23, _, kV23, dc23, pm23, an23, cd23, ct23, sl23, rfl, l23, c23⟩, k23, ⟨rfl, rfl, rfl, by decide +kernel, rfl, by decide +kernel, by decide +kernel⟩, .all fun us hl => (match us, hl with | [_], _ => rfl), by decide +kernel⟩
  let A : Nat → Addr := fun i => match i with | 0 => f0 | 1 => f1 | 2 => f2 | 3 => f3 | 4 => f4 | 5 => f5 | 6 => f6 | 7 => f7 | 8 => f8 | 9 => f9 | 10 => f10 | 11 => f11 | 12 => f12 | 13 => f13 | 14 => f14 | 15 => f15 | 16 => f16 | 17 => f17 | 18 => f18 | 19 => f19 | 20 => f20 | 21 => f21 | 22 => f22 | 23 => fa | _ => 0
  let FD : Nat → FuncData := fun i => match i with
    | 0 => PySem.W.fnOf "is_integer" "is_integer" (defArgs (top 8)) (defBody (top 8)) (defScope (top 8)) .none kV0 dc0 pm0 an0 cd0 ct0
    | 1 => PySem.W.fnOf "is_constraint" "is_constraint" (defArgs (top 9)) (defBody (top 9)) (defScope (top 9)) .none kV1 dc1 pm1 an1 cd1 ct1
    | 2 => PySem.W.fnOf "checked_constraints" "checked_constraints" (defArgs (top 10)) (defBody (top 10)) (defScope (top 10)) .none kV2 dc2 pm2 an2 cd2 ct2
    | 3 => PySem.W.fnOf "__init__" "DifferenceConstraints.__init__" (defArgs (inClass (top 11) 0)) (defBody (inClass (top 11) 0)) (defScope (inClass (top 11) 0)) .none kV3 dc3 pm3 an3 cd3 ct3
    | 4 => PySem.W.fnOf "node_count" "DifferenceConstraints.node_count" (defArgs (inClass (top 11) 1)) (defBody (inClass (top 11) 1)) (defScope (inClass (top 11) 1)) .none kV4 dc4 pm4 an4 cd4 ct4
    | 5 => PySem.W.fnOf "constraints" "DifferenceConstraints.constraints" (defArgs (inClass (top 11) 2)) (defBody (inClass (top 11) 2)) (defScope (inClass (top 11) 2)) .none kV5 dc5 pm5 an5 cd5 ct5
    | 6 => PySem.W.fnOf "negative_cycle" "DifferenceConstraints.negative_cycle" (defArgs (inClass (top 11) 3)) (defBody (inClass (top 11) 3)) (defScope (inClass (top 11) 3)) .none kV6 dc6 pm6 an6 cd6 ct6
    | 7 => PySem.W.fnOf "relax" "DifferenceConstraints.relax" (defArgs (inClass (top 11) 4)) (defBody (inClass (top 11) 4)) (defScope (inClass (top 11) 4)) .none kV7 dc7 pm7 an7 cd7 ct7
    | 8 => PySem.W.fnOf "find_negative_cycle" "DifferenceConstraints.find_negative_cycle" (defArgs (inClass (top 11) 5)) (defBody (inClass (top 11) 5)) (defScope (inClass (top 11) 5)) .none kV8 dc8 pm8 an8 cd8 ct8
    | 9 => PySem.W.fnOf "require_nodes" "DifferenceConstraints.require_nodes" (defArgs (inClass (top 11) 6)) (defBody (inClass (top 11) 6)) (defScope (inClass (top 11) 6)) .none kV9 dc9 pm9 an9 cd9 ct9
    | 10 => PySem.W.fnOf "distances" "DifferenceConstraints.distances" (defArgs (inClass (top 11) 7)) (defBody (inClass (top 11) 7)) (defScope (inClass (top 11) 7)) .none kV10 dc10 pm10 an10 cd10 ct10
    | 11 => PySem.W.fnOf "upper_bound" "DifferenceConstraints.upper_bound" (defArgs (inClass (top 11) 8)) (defBody (inClass (top 11) 8)) (defScope (inClass (top 11) 8)) .none kV11 dc11 pm11 an11 cd11 ct11
    | 12 => PySem.W.fnOf "lower_bound" "DifferenceConstraints.lower_bound" (defArgs (inClass (top 11) 9)) (defBody (inClass (top 11) 9)) (defScope (inClass (top 11) 9)) .none kV12 dc12 pm12 an12 cd12 ct12
    | 13 => PySem.W.fnOf "shortest_path" "DifferenceConstraints.shortest_path" (defArgs (inClass (top 11) 10)) (defBody (inClass (top 11) 10)) (defScope (inClass (top 11) 10)) .none kV13 dc13 pm13 an13 cd13 ct13
    | 14 => PySem.W.fnOf "solution" "DifferenceConstraints.solution" (defArgs (inClass (top 11) 11)) (defBody (inClass (top 11) 11)) (defScope (inClass (top 11) 11)) .none kV14 dc14 pm14 an14 cd14 ct14
    | 15 => PySem.W.fnOf "satisfies" "DifferenceConstraints.satisfies" (defArgs (inClass (top 11) 12)) (defBody (inClass (top 11) 12)) (defScope (inClass (top 11) 12)) .none kV15 dc15 pm15 an15 cd15 ct15
    | 16 => PySem.W.fnOf "_law_rng" "_law_rng" (defArgs (top 13)) (defBody (top 13)) (defScope (top 13)) .none kV16 dc16 pm16 an16 cd16 ct16
    | 17 => PySem.W.fnOf "_law_draw" "_law_draw" (defArgs (top 14)) (defBody (top 14)) (defScope (top 14)) .none kV17 dc17 pm17 an17 cd17 ct17
    | 18 => PySem.W.fnOf "_law_random_edges" "_law_random_edges" (defArgs (top 15)) (defBody (top 15)) (defScope (top 15)) .none kV18 dc18 pm18 an18 cd18 ct18
    | 19 => PySem.W.fnOf "_law_distances" "_law_distances" (defArgs (top 16)) (defBody (top 16)) (defScope (top 16)) .none kV19 dc19 pm19 an19 cd19 ct19
    | 20 => PySem.W.fnOf "_law_same" "_law_same" (defArgs (top 17)) (defBody (top 17)) (defScope (top 17)) .none kV20 dc20 pm20 an20 cd20 ct20
    | 21 => PySem.W.fnOf "_law_check" "_law_check" (defArgs (top 18)) (defBody (top 18)) (defScope (top 18)) .none kV21 dc21 pm21 an21 cd21 ct21
    | 22 => PySem.W.fnOf "_law_check_chain" "_law_check_chain" (defArgs (top 19)) (defBody (top 19)) (defScope (top 19)) .none kV22 dc22 pm22 an22 cd22 ct22
    | 23 => PySem.W.fnOf "law" "law" (defArgs (top 20)) (defBody (top 20)) (defScope (top 20)) .none kV23 dc23 pm23 an23 cd23 ct23
    | _ => PySem.W.fnOf "is_integer" "is_integer" (defArgs (top 8)) (defBody (top 8)) (defScope (top 8)) .none kV0 dc0 pm0 an0 cd0 ct0
  have t : TopOk (G K) mg g T A FD := by
    refine ⟨fun i e he => ?_, fun x d hx => ?_, fun x hx => ?_, fun x f hx => ?_, fun x c f hx => ?_, FNof_inj (l := fnames) (by decide), fun f hf => ?_, fun f hf => ?_, fun c m f hc hm => ?_, ⟨fun c hc => ?_, fun c d hc hd => ?_, fun c hc => ?_, fun c hc => ?_⟩⟩
    · match i, he with
      | 0, he => cases he; exact E0
      | 1, he => cases he; exact E1
      | 2, he => cases he; exact E2
      | 3, he => cases he; exact E3
      | 4, he => cases he; exact E4
      | 5, he => cases he; exact E5
      | 6, he => cases he; exact E6
      | 7, he => cases he; exact E7
      | 8, he => cases he; exact E8
      | 9, he => cases he; exact E9
      | 10, he => cases he; exact E10
      | 11, he => cases he; exact E11
      | 12, he => cases he; exact E12
      | 13, he => cases he; exact E13
      | 14, he => cases he; exact E14
      | 15, he => cases he; exact E15
      | 16, he => cases he; exact E16
      | 17, he => cases he; exact E17
      | 18, he => cases he; exact E18
      | 19, he => cases he; exact E19
      | 20, he => cases he; exact E20
      | 21, he => cases he; exact E21
      | 22, he => cases he; exact E22
      | 23, he => cases he; exact E23
      | n + 24, he => exact absurd (List.getElem?_eq_some_iff.mp he).1 (by show ¬ n + 24 < 24; omega)
    · have hx := mem_lk hx
      simp only [g, List.mem_cons, List.not_mem_nil, or_false, Prod.mk.injEq] at hx
    · simp only [bltN, List.mem_cons, List.not_mem_nil, or_false] at hx
      rcases hx with rfl | rfl | rfl | rfl | rfl | rfl | rfl | rfl | rfl | rfl | rfl | rfl | rfl | rfl | rfl | rfl | rfl | rfl
      · exact PySem.W.mg_none_of X Gm z0
      · exact PySem.W.mg_none_of X Gm z1
      · exact PySem.W.mg_none_of X Gm z2
      · exact PySem.W.mg_none_of X Gm z3
      · exact PySem.W.mg_none_of X Gm z4
      · exact PySem.W.mg_none_of X Gm z5
      · exact PySem.W.mg_none_of X Gm z6
      · exact PySem.W.mg_none_of X Gm z7
      · exact PySem.W.mg_none_of X Gm z8
      · exact PySem.W.mg_none_of X Gm z9
      · exact PySem.W.mg_none_of X Gm z10
      · exact PySem.W.mg_none_of X Gm z11
      · exact PySem.W.mg_none_of X Gm z12
      · exact PySem.W.mg_none_of X Gm z13
      · exact PySem.W.mg_none_of X Gm z14
      · exact PySem.W.mg_none_of X Gm z15
      · exact PySem.W.mg_none_of X Gm z16
      · exact PySem.W.mg_none_of X Gm z17
    · have hx := mem_lk hx
      simp only [g, List.mem_cons, List.not_mem_nil, or_false, Prod.mk.injEq] at hx
      rcases hx with ⟨rfl, rfl⟩ | ⟨rfl, rfl⟩ | ⟨rfl, rfl⟩ | ⟨rfl, rfl⟩ | ⟨rfl, rfl⟩ | ⟨rfl, rfl⟩ | ⟨rfl, rfl⟩ | ⟨rfl, rfl⟩ | ⟨rfl, rfl⟩ | ⟨rfl, rfl⟩ | ⟨rfl, rfl⟩
      · refine ⟨e0, rfl, PySem.W.mg_of X Gm a0, by decide, fun n ks pars hk => ?_⟩
        have hk := mem_lk hk
        simp only [g, List.mem_cons, List.not_mem_nil, or_false, Prod.mk.injEq] at hk
        rcases hk with ⟨⟨hf, rfl, rfl⟩, rfl⟩
        · exact absurd hf (by decide)
      · refine ⟨e1, rfl, PySem.W.mg_of X Gm a1, by decide, fun n ks pars hk => ?_⟩
        have hk := mem_lk hk
        simp only [g, List.mem_cons, List.not_mem_nil, or_false, Prod.mk.injEq] at hk
        rcases hk with ⟨⟨hf, rfl, rfl⟩, rfl⟩
        · exact absurd hf (by decide)
      · refine ⟨e2, rfl, PySem.W.mg_of X Gm a2, by decide, fun n ks pars hk => ?_⟩
        have hk := mem_lk hk
        simp only [g, List.mem_cons, List.not_mem_nil, or_false, Prod.mk.injEq] at hk
        rcases hk with ⟨⟨hf, rfl, rfl⟩, rfl⟩
        · exact absurd hf (by decide)
      · refine ⟨e16, rfl, PySem.W.mg_of X Gm a16, by decide, fun n ks pars hk => ?_⟩
        have hk := mem_lk hk
        simp only [g, List.mem_cons, List.not_mem_nil, or_false, Prod.mk.injEq] at hk
        rcases hk with ⟨⟨hf, rfl, rfl⟩, rfl⟩
        · exact absurd hf (by decide)
      · refine ⟨e17, rfl, PySem.W.mg_of X Gm a17, by decide, fun n ks pars hk => ?_⟩
        have hk := mem_lk hk
        simp only [g, List.mem_cons, List.not_mem_nil, or_false, Prod.mk.injEq] at hk
        rcases hk with ⟨⟨hf, rfl, rfl⟩, rfl⟩
        · exact absurd hf (by decide)
      · refine ⟨e18, rfl, PySem.W.mg_of X Gm a18, by decide, fun n ks pars hk => ?_⟩
        have hk := mem_lk hk
        simp only [g, List.mem_cons, List.not_mem_nil, or_false, Prod.mk.injEq] at hk
        rcases hk with ⟨⟨hf, rfl, rfl⟩, rfl⟩
        · exact absurd hf (by decide)
      · refine ⟨e19, rfl, PySem.W.mg_of X Gm a19, by decide, fun n ks pars hk => ?_⟩
        have hk := mem_lk hk
        simp only [g, List.mem_cons, List.not_mem_nil, or_false, Prod.mk.injEq] at hk
        rcases hk with ⟨⟨hf, rfl, rfl⟩, rfl⟩
        · exact absurd hf (by decide)
      · refine ⟨e20, rfl, PySem.W.mg_of X Gm a20, by decide, fun n ks pars hk => ?_⟩
        have hk := mem_lk hk
        simp only [g, List.mem_cons, List.not_mem_nil, or_false, Prod.mk.injEq] at hk
        rcases hk with ⟨⟨hf, rfl, rfl⟩, rfl⟩
        · exact absurd hf (by decide)
      · refine ⟨e21, rfl, PySem.W.mg_of X Gm a21, by decide, fun n ks pars hk => ?_⟩
        have hk := mem_lk hk
        simp only [g, List.mem_cons, List.not_mem_nil, or_false, Prod.mk.injEq] at hk
        rcases hk with ⟨⟨hf, rfl, rfl⟩, rfl⟩
        · exact absurd hf (by decide)
      · refine ⟨e22, rfl, PySem.W.mg_of X Gm a22, by decide, fun n ks pars hk => ?_⟩
        have hk := mem_lk hk
        simp only [g, List.mem_cons, List.not_mem_nil, or_false, Prod.mk.injEq] at hk
        rcases hk with ⟨⟨hf, rfl, rfl⟩, rfl⟩
        · exact absurd hf (by decide)
      · refine ⟨e23, rfl, PySem.W.mg_of X Gm a23, by decide, fun n ks pars hk => ?_⟩
        have hk := mem_lk hk
        simp only [g, List.mem_cons, List.not_mem_nil, or_false, Prod.mk.injEq] at hk
        rcases hk with ⟨⟨hf, rfl, rfl⟩, rfl⟩
        · exact absurd hf (by decide)
    · have hx := mem_lk hx
      simp only [g, List.mem_cons, List.not_mem_nil, or_false, Prod.mk.injEq] at hx
      rcases hx with ⟨rfl, rfl, rfl⟩
      · refine ⟨(show 0 < 1 by decide), PySem.W.mg_of X Gm C0a, by decide, fun n ks pars hk => ?_⟩
        have hk := mem_lk hk
        simp only [g, List.mem_cons, List.not_mem_nil, or_false, Prod.mk.injEq] at hk
        rcases hk with ⟨⟨hf, rfl, rfl⟩, rfl⟩
        · refine ⟨e3, rfl, ⟨C0mk, a3, i3, C0kc⟩, ⟨fun s us ws KX h1 h2 => ?_⟩⟩
          match us, ws, h1, h2 with
          | [u0, u1, u2], [], _, _ =>
            refine ⟨[u0, u1, u2], .of_eq rfl, rfl, fun pn α H ds vs es zs q1 r1 q2 r2 => ?_⟩
            cases r1 with | cons r1a0 r1 => cases q1 with | cons q1a0 q1 =>
            cases r1 with | cons r1a1 r1 => cases q1 with | cons q1a1 q1 =>
            cases r1 with | cons r1a2 r1 => cases q1 with | cons q1a2 q1 =>
            cases r1; cases q1
            cases r2; cases q2
            exact ⟨_, (.cons r1a0 (.cons r1a1 (.cons r1a2 .nil))), (.cons q1a0 (.cons q1a1 (.cons q1a2 .nil)))⟩
    · simp only [g, List.contains_eq_mem, List.mem_cons, List.not_mem_nil, or_false, decide_eq_true_eq] at hf
      rcases hf with rfl | rfl | rfl
      · refine ⟨⟨FNof_inj (l := fnames) (by decide), fun c hc => ?_⟩, (by decide : FNof fnames (g.fld.idxOf ("cycle_found" : Str)) = ("cycle_found" : Str))⟩
        match c, hc with
        | 0, _ => exact ⟨⟨C0pg, C0hd, C0po, C0sa⟩, C0n0_⟩
        | n + 1, z => exact absurd z (by show ¬ n + 1 < 1; omega)
      · refine ⟨⟨FNof_inj (l := fnames) (by decide), fun c hc => ?_⟩, (by decide : FNof fnames (g.fld.idxOf ("edges" : Str)) = ("edges" : Str))⟩
        match c, hc with
        | 0, _ => exact ⟨⟨C0pg, C0hd, C0po, C0sa⟩, C0n1_⟩
        | n + 1, z => exact absurd z (by show ¬ n + 1 < 1; omega)
      · refine ⟨⟨FNof_inj (l := fnames) (by decide), fun c hc => ?_⟩, (by decide : FNof fnames (g.fld.idxOf ("size" : Str)) = ("size" : Str))⟩
        match c, hc with
        | 0, _ => exact ⟨⟨C0pg, C0hd, C0po, C0sa⟩, C0n2_⟩
        | n + 1, z => exact absurd z (by show ¬ n + 1 < 1; omega)
    · simp only [g, List.contains_eq_mem, List.mem_cons, List.not_mem_nil, or_false, decide_eq_true_eq] at hf
      rcases hf with rfl | rfl | rfl | rfl | rfl | rfl | rfl | rfl | rfl | rfl | rfl | rfl
      · exact (by decide : FNof fnames (g.fld.length + g.mns.idxOf ("constraints" : Str)) = ("constraints" : Str))
      · exact (by decide : FNof fnames (g.fld.length + g.mns.idxOf ("distances" : Str)) = ("distances" : Str))
      · exact (by decide : FNof fnames (g.fld.length + g.mns.idxOf ("find_negative_cycle" : Str)) = ("find_negative_cycle" : Str))
      · exact (by decide : FNof fnames (g.fld.length + g.mns.idxOf ("lower_bound" : Str)) = ("lower_bound" : Str))
      · exact (by decide : FNof fnames (g.fld.length + g.mns.idxOf ("negative_cycle" : Str)) = ("negative_cycle" : Str))
      · exact (by decide : FNof fnames (g.fld.length + g.mns.idxOf ("node_count" : Str)) = ("node_count" : Str))
      · exact (by decide : FNof fnames (g.fld.length + g.mns.idxOf ("relax" : Str)) = ("relax" : Str))
      · exact (by decide : FNof fnames (g.fld.length + g.mns.idxOf ("require_nodes" : Str)) = ("require_nodes" : Str))
      · exact (by decide : FNof fnames (g.fld.length + g.mns.idxOf ("satisfies" : Str)) = ("satisfies" : Str))
      · exact (by decide : FNof fnames (g.fld.length + g.mns.idxOf ("shortest_path" : Str)) = ("shortest_path" : Str))
      · exact (by decide : FNof fnames (g.fld.length + g.mns.idxOf ("solution" : Str)) = ("solution" : Str))
      · exact (by decide : FNof fnames (g.fld.length + g.mns.idxOf ("upper_bound" : Str)) = ("upper_bound" : Str))
    · have hm := mem_lk (show mtab.lookup (c, m) = some f from hm)
      simp only [mtab, List.mem_cons, List.not_mem_nil, or_false, Prod.mk.injEq] at hm
      rcases hm with ⟨⟨rfl, rfl⟩, rfl⟩ | ⟨⟨rfl, rfl⟩, rfl⟩ | ⟨⟨rfl, rfl⟩, rfl⟩ | ⟨⟨rfl, rfl⟩, rfl⟩ | ⟨⟨rfl, rfl⟩, rfl⟩ | ⟨⟨rfl, rfl⟩, rfl⟩ | ⟨⟨rfl, rfl⟩, rfl⟩ | ⟨⟨rfl, rfl⟩, rfl⟩ | ⟨⟨rfl, rfl⟩, rfl⟩ | ⟨⟨rfl, rfl⟩, rfl⟩ | ⟨⟨rfl, rfl⟩, rfl⟩ | ⟨⟨rfl, rfl⟩, rfl⟩
      · exact ⟨e4, rfl, ⟨C0pg, C0hd, C0po, C0sa⟩, ⟨a4, i4, k4⟩⟩
      · exact ⟨e5, rfl, ⟨C0pg, C0hd, C0po, C0sa⟩, ⟨a5, i5, k5⟩⟩
      · exact ⟨e6, rfl, ⟨C0pg, C0hd, C0po, C0sa⟩, ⟨a6, i6, k6⟩⟩
      · exact ⟨e7, rfl, ⟨C0pg, C0hd, C0po, C0sa⟩, ⟨a7, i7, k7⟩⟩
      · exact ⟨e8, rfl, ⟨C0pg, C0hd, C0po, C0sa⟩, ⟨a8, i8, k8⟩⟩
      · exact ⟨e9, rfl, ⟨C0pg, C0hd, C0po, C0sa⟩, ⟨a9, i9, k9⟩⟩
      · exact ⟨e10, rfl, ⟨C0pg, C0hd, C0po, C0sa⟩, ⟨a10, i10, k10⟩⟩
      · exact ⟨e11, rfl, ⟨C0pg, C0hd, C0po, C0sa⟩, ⟨a11, i11, k11⟩⟩
      · exact ⟨e12, rfl, ⟨C0pg, C0hd, C0po, C0sa⟩, ⟨a12, i12, k12⟩⟩
      · exact ⟨e13, rfl, ⟨C0pg, C0hd, C0po, C0sa⟩, ⟨a13, i13, k13⟩⟩
      · exact ⟨e14, rfl, ⟨C0pg, C0hd, C0po, C0sa⟩, ⟨a14, i14, k14⟩⟩
      · exact ⟨e15, rfl, ⟨C0pg, C0hd, C0po, C0sa⟩, ⟨a15, i15, k15⟩⟩
    ·
      match c, hc with
      | 0, _ => exact ⟨⟨C0pg, C0hd, C0po, C0sa⟩, C0ic, xg, xt, C0mr⟩
      | n + 1, z => exact absurd z (by show ¬ n + 1 < 1; omega)
    ·
      match c, hc, d, hd with
      | 0, _, 0, _ => exact C0o0_
      | 0, _, n + 1, z => exact absurd z (by show ¬ n + 1 < 1; omega)
      | n + 1, z, _, _ => exact absurd z (by show ¬ n + 1 < 1; omega)
    · intro T hT
      simp only [List.mem_cons, List.not_mem_nil, or_false] at hT
      match c, hc with
      | 0, _ => rcases hT with rfl | rfl | rfl | rfl | rfl | rfl | rfl
                · exact C0p0_
                · exact C0p1_
                · exact C0p2_
                · exact C0p3_
                · exact C0p4_
                · exact C0p5_
                · exact C0p6_
      | n + 1, z => exact absurd z (by show ¬ n + 1 < 1; omega)
    · intro T hT
      simp only [List.mem_cons, List.not_mem_nil, or_false] at hT
      match c, hc with
      | 0, _ => rcases hT with rfl | rfl | rfl | rfl | rfl | rfl | rfl
                · exact C0r0_
                · exact C0r1_
                · exact C0r2_
                · exact C0r3_
                · exact C0r4_
                · exact C0r5_
                · exact C0r6_
      | n + 1, z => exact absurd z (by show ¬ n + 1 < 1; omega)
  exact ⟨noList_ok nl, _, fun s v => .of_eq rfl, fun base _ _ hs => tab_ok (A := A) (FD := FD) t hs 8 23 e23 rfl⟩
/-- is_integer(value): value -/
def b0 (cf : CF) : ShS := (sSeq (sRet (eAnd (eIsI (eVar 0) .int) (eUn .Not (eIsI (eVar 0) .bool)))) sPass)
theorem b0_eq (cf : CF) : trSs cf (tcOf g e0) e0.body = b0 cf := rfl
theorem u0 (k : Nat) (a0 : D) (h : Hh) : callN (tabOf g T) (k + 1) 0 [a0] h = (b0 (callN (tabOf g T) k) [some a0] h).res := by
  show (trSs (callN (tabOf g T) k) (tcOf g e0) e0.body (startD 1 [a0]) h).res = _
  rw [b0_eq]; rfl
/-- is_constraint(value, node_count): value, node_count, part -/
def b1_1 (cf : CF) : ShS := (sSeq (sRet (eAnd (eChain .LtE .Lt (eConst (.int 0)) (eItem (eVar 0) (eConst (.int 0))) (eVar 1)) (eChain .LtE .Lt (eConst (.int 0)) (eItem (eVar 0) (eConst (.int 1))) (eVar 1)))) sPass)
def b1 (cf : CF) : ShS := (sSeq (sIf (eOr (eUn .Not (eIsI (eVar 0) .tuple)) (eOr (eCmp .NotEq (eBF .len [(eVar 0)]) (eConst (.int 3))) (eUn .Not (eBF .all [(eLc (iVal (eVar 0)) [2] (tName 2) (eConst (.bl true)) (eCall cf 0 [(eVar 2)]))])))) (sSeq (sRet (eConst (.bl false))) sPass) sPass) (b1_1 cf))
theorem b1_eq (cf : CF) : trSs cf (tcOf g e1) e1.body = b1 cf := rfl
theorem u1 (k : Nat) (a0 a1 : D) (h : Hh) : callN (tabOf g T) (k + 1) 1 [a0, a1] h = (b1 (callN (tabOf g T) k) [some a0, some a1, none] h).res := by
  show (trSs (callN (tabOf g T) k) (tcOf g e1) e1.body (startD 3 [a0, a1]) h).res = _
  rw [b1_eq]; rfl
/-- checked_constraints(value, node_count): value, node_count, position, item -/
def b2_1b (cf : CF) : ShS := (sSeq (sIf (eUn .Not (eCall cf 1 [(eVar 3), (eVar 1)])) (sSeq sBad sPass) sPass) sPass)
def b2_2 (cf : CF) : ShS := (sSeq (sRet (eBF .list [(eVar 0)])) sPass)
def b2_1 (cf : CF) : ShS := (sSeq (sFor (iEnum (eVar 0)) (tTup [(tName 2), (tName 3)]) (b2_1b cf)) (b2_2 cf))
def b2 (cf : CF) : ShS := (sSeq (sIf (eUn .Not (eIsI (eVar 0) .list)) (sSeq sBad sPass) sPass) (b2_1 cf))
theorem b2_eq (cf : CF) : trSs cf (tcOf g e2) e2.body = b2 cf := rfl
theorem u2 (k : Nat) (a0 a1 : D) (h : Hh) : callN (tabOf g T) (k + 1) 2 [a0, a1] h = (b2 (callN (tabOf g T) k) [some a0, some a1, none, none] h).res := by
  show (trSs (callN (tabOf g T) k) (tcOf g e2) e2.body (startD 4 [a0, a1]) h).res = _
  rw [b2_eq]; rfl
/-- __init__(self, node_count, constraints): self, node_count, constraints -/
def b3_3 (cf : CF) : ShS := (sSeq (sAsg (tAttr 0 (eVar 0)) (eMth cf g.mt 5 (eVar 0) [])) sPass)
def b3_2 (cf : CF) : ShS := (sSeq (sAsg (tAttr 1 (eVar 0)) (eCall cf 2 [(eVar 2), (eVar 1)])) (b3_3 cf))
def b3_1 (cf : CF) : ShS := (sSeq (sAsg (tAttr 2 (eVar 0)) (eVar 1)) (b3_2 cf))
def b3 (cf : CF) : ShS := (sSeq (sIf (eOr (eUn .Not (eCall cf 0 [(eVar 1)])) (eCmp .Lt (eVar 1) (eConst (.int 1)))) (sSeq sBad sPass) sPass) (b3_1 cf))
theorem b3_eq (cf : CF) : trSs cf (tcOf g e3) e3.body = b3 cf := rfl
theorem u3 (k : Nat) (a0 a1 a2 : D) (h : Hh) : callN (tabOf g T) (k + 1) 3 [a0, a1, a2] h = (b3 (callN (tabOf g T) k) [some a0, some a1, some a2] h).res := by
  show (trSs (callN (tabOf g T) k) (tcOf g e3) e3.body (startD 3 [a0, a1, a2]) h).res = _
  rw [b3_eq]; rfl
/-- node_count(self): self -/
def b4 (cf : CF) : ShS := (sSeq (sRet (eAttr 2 (eVar 0))) sPass)
theorem b4_eq (cf : CF) : trSs cf (tcOf g e4) e4.body = b4 cf := rfl
theorem u4 (k : Nat) (a0 : D) (h : Hh) : callN (tabOf g T) (k + 1) 4 [a0] h = (b4 (callN (tabOf g T) k) [some a0] h).res := by
  show (trSs (callN (tabOf g T) k) (tcOf g e4) e4.body (startD 1 [a0]) h).res = _
  rw [b4_eq]; rfl
/-- constraints(self): self -/
def b5 (cf : CF) : ShS := (sSeq (sRet (eBF .list [(eAttr 1 (eVar 0))])) sPass)
theorem b5_eq (cf : CF) : trSs cf (tcOf g e5) e5.body = b5 cf := rfl
theorem u5 (k : Nat) (a0 : D) (h : Hh) : callN (tabOf g T) (k + 1) 5 [a0] h = (b5 (callN (tabOf g T) k) [some a0] h).res := by
  show (trSs (callN (tabOf g T) k) (tcOf g e5) e5.body (startD 1 [a0]) h).res = _
  rw [b5_eq]; rfl
/-- negative_cycle(self): self -/
def b6 (cf : CF) : ShS := (sSeq (sRet (eIf (eCmp .Is (eAttr 0 (eVar 0)) (eConst .non)) (eConst .non) (eBF .list [(eAttr 0 (eVar 0))]))) sPass)
theorem b6_eq (cf : CF) : trSs cf (tcOf g e6) e6.body = b6 cf := rfl
theorem u6 (k : Nat) (a0 : D) (h : Hh) : callN (tabOf g T) (k + 1) 6 [a0] h = (b6 (callN (tabOf g T) k) [some a0] h).res := by
  show (trSs (callN (tabOf g T) k) (tcOf g e6) e6.body (startD 1 [a0]) h).res = _
  rw [b6_eq]; rfl
/-- relax(self, distances): self, distances, last_edge, changed, turn, position, source, target, limit, distance -/
def b7_2b_1b_0t_1t_2 (cf : CF) : ShS := (sSeq (sAsg (tName 3) (eVar 7)) sPass)
def b7_2b_1b_0t_1t_1 (cf : CF) : ShS := (sSeq (sAsg (tItem (eVar 2) (eVar 7)) (eVar 5)) (b7_2b_1b_0t_1t_2 cf))
def b7_2b_1b_0t_1t (cf : CF) : ShS := (sSeq (sAsg (tItem (eVar 1) (eVar 7)) (eVar 9)) (b7_2b_1b_0t_1t_1 cf))
def b7_2b_1b_0t_1 (cf : CF) : ShS := (sSeq (sIf (eOr (eCmp .NotIn (eVar 7) (eVar 1)) (eCmp .Lt (eVar 9) (eItem (eVar 1) (eVar 7)))) (b7_2b_1b_0t_1t cf) sPass) sPass)
def b7_2b_1b_0t (cf : CF) : ShS := (sSeq (sAsg (tName 9) (eBin .Add (eItem (eVar 1) (eVar 6)) (eVar 8))) (b7_2b_1b_0t_1 cf))
def b7_2b_1b (cf : CF) : ShS := (sSeq (sIf (eCmp .In (eVar 6) (eVar 1)) (b7_2b_1b_0t cf) sPass) sPass)
def b7_2b_2 (cf : CF) : ShS := (sSeq (sIf (eCmp .Is (eVar 3) (eConst .non)) (sSeq (sRet (eTup [(eVar 1), (eVar 2), (eConst .non)])) sPass) sPass) sPass)
def b7_2b_1 (cf : CF) : ShS := (sSeq (sFor (iEnum (eAttr 1 (eVar 0))) (tTup [(tName 5), (tTup [(tName 6), (tName 7), (tName 8)])]) (b7_2b_1b cf)) (b7_2b_2 cf))
def b7_2b (cf : CF) : ShS := (sSeq (sAsg (tName 3) (eConst .non)) (b7_2b_1 cf))
def b7_3 (cf : CF) : ShS := (sSeq (sRet (eTup [(eVar 1), (eVar 2), (eVar 3)])) sPass)
def b7_2 (cf : CF) : ShS := (sSeq (sFor (iRange [(eAttr 2 (eVar 0))]) (tName 4) (b7_2b cf)) (b7_3 cf))
def b7_1 (cf : CF) : ShS := (sSeq (sAsg (tName 3) (eConst .non)) (b7_2 cf))
def b7 (cf : CF) : ShS := (sSeq (sAsg (tName 2) (eDic [])) (b7_1 cf))
theorem b7_eq (cf : CF) : trSs cf (tcOf g e7) e7.body = b7 cf := rfl
theorem u7 (k : Nat) (a0 a1 : D) (h : Hh) : callN (tabOf g T) (k + 1) 7 [a0, a1] h = (b7 (callN (tabOf g T) k) [some a0, some a1, none, none, none, none, none, none, none, none] h).res := by
  show (trSs (callN (tabOf g T) k) (tcOf g e7) e7.body (startD 10 [a0, a1]) h).res = _
  rw [b7_eq]; rfl
/-- find_negative_cycle(self): self, distances, last_edge, changed, node, turn, cycle -/
def b8_6 (cf : CF) : ShS := (sSeq (sRet (eRev (eVar 6) (eUn .USub (eConst (.int 1))))) sPass)
def b8_5 (cf : CF) : ShS := (sSeq (sWhile (eCmp .NotEq (eItem (eItem (eAttr 1 (eVar 0)) (eItem (eVar 6) (eUn .USub (eConst (.int 1))))) (eConst (.int 0))) (eVar 4)) (sSeq (sExpr (eBM .append (eVar 6) [(eItem (eVar 2) (eItem (eItem (eAttr 1 (eVar 0)) (eItem (eVar 6) (eUn .USub (eConst (.int 1))))) (eConst (.int 0))))])) sPass)) (b8_6 cf))
def b8_4 (cf : CF) : ShS := (sSeq (sAsg (tName 6) (eLst [(eItem (eVar 2) (eVar 4))])) (b8_5 cf))
def b8_3 (cf : CF) : ShS := (sSeq (sFor (iRange [(eAttr 2 (eVar 0))]) (tName 5) (sSeq (sAsg (tName 4) (eItem (eItem (eAttr 1 (eVar 0)) (eItem (eVar 2) (eVar 4))) (eConst (.int 0)))) sPass)) (b8_4 cf))
def b8_2 (cf : CF) : ShS := (sSeq (sAsg (tName 4) (eVar 3)) (b8_3 cf))
def b8_1 (cf : CF) : ShS := (sSeq (sIf (eCmp .Is (eVar 3) (eConst .non)) (sSeq (sRet (eConst .non)) sPass) sPass) (b8_2 cf))
def b8 (cf : CF) : ShS := (sSeq (sAsg (tTup [(tName 1), (tName 2), (tName 3)]) (eMth cf g.mt 9 (eVar 0) [(eDc (iRange [(eAttr 2 (eVar 0))]) [4] (tName 4) (eConst (.bl true)) (eVar 4) (eConst (.int 0)))])) (b8_1 cf))
theorem b8_eq (cf : CF) : trSs cf (tcOf g e8) e8.body = b8 cf := rfl
theorem u8 (k : Nat) (a0 : D) (h : Hh) : callN (tabOf g T) (k + 1) 8 [a0] h = (b8 (callN (tabOf g T) k) [some a0, none, none, none, none, none, none] h).res := by
  show (trSs (callN (tabOf g T) k) (tcOf g e8) e8.body (startD 7 [a0]) h).res = _
  rw [b8_eq]; rfl
/-- require_nodes(self, values): self, values, value -/
def b9_0b (cf : CF) : ShS := (sSeq (sIf (eOr (eUn .Not (eCall cf 0 [(eVar 2)])) (eUn .Not (eChain .LtE .Lt (eConst (.int 0)) (eVar 2) (eAttr 2 (eVar 0))))) (sSeq sBad sPass) sPass) sPass)
def b9_1 (cf : CF) : ShS := (sSeq (sIf (eCmp .IsNot (eAttr 0 (eVar 0)) (eConst .non)) (sSeq sBad sPass) sPass) sPass)
def b9 (cf : CF) : ShS := (sSeq (sFor (iVal (eVar 1)) (tName 2) (b9_0b cf)) (b9_1 cf))
theorem b9_eq (cf : CF) : trSs cf (tcOf g e9) e9.body = b9 cf := rfl
theorem u9 (k : Nat) (a0 a1 : D) (h : Hh) : callN (tabOf g T) (k + 1) 9 [a0, a1] h = (b9 (callN (tabOf g T) k) [some a0, some a1, none] h).res := by
  show (trSs (callN (tabOf g T) k) (tcOf g e9) e9.body (startD 3 [a0, a1]) h).res = _
  rw [b9_eq]; rfl
/-- distances(self, source): self, source -/
def b10 (cf : CF) : ShS := (sSeq (sRet (eItem (eMth cf g.mt 9 (eVar 0) [(eDic [((eVar 1), (eConst (.int 0)))])]) (eConst (.int 0)))) sPass)
theorem b10_eq (cf : CF) : trSs cf (tcOf g e10) e10.body = b10 cf := rfl
theorem u10 (k : Nat) (a0 a1 : D) (h : Hh) : callN (tabOf g T) (k + 1) 10 [a0, a1] h = (b10 (callN (tabOf g T) k) [some a0, some a1] h).res := by
  show (trSs (callN (tabOf g T) k) (tcOf g e10) e10.body (startD 2 [a0, a1]) h).res = _
  rw [b10_eq]; rfl
/-- upper_bound(self, source, target): self, source, target -/
def b11_1 (cf : CF) : ShS := (sSeq (sRet (eBM .get (eMth cf g.mt 4 (eVar 0) [(eVar 1)]) [(eVar 2)])) sPass)
def b11 (cf : CF) : ShS := (sSeq (sExpr (eMth cf g.mt 10 (eVar 0) [(eLst [(eVar 1), (eVar 2)])])) (b11_1 cf))
theorem b11_eq (cf : CF) : trSs cf (tcOf g e11) e11.body = b11 cf := rfl
theorem u11 (k : Nat) (a0 a1 a2 : D) (h : Hh) : callN (tabOf g T) (k + 1) 11 [a0, a1, a2] h = (b11 (callN (tabOf g T) k) [some a0, some a1, some a2] h).res := by
  show (trSs (callN (tabOf g T) k) (tcOf g e11) e11.body (startD 3 [a0, a1, a2]) h).res = _
  rw [b11_eq]; rfl
/-- lower_bound(self, source, target): self, source, target, backward -/
def b12_2 (cf : CF) : ShS := (sSeq (sRet (eIf (eCmp .Is (eVar 3) (eConst .non)) (eConst .non) (eUn .USub (eVar 3)))) sPass)
def b12_1 (cf : CF) : ShS := (sSeq (sAsg (tName 3) (eBM .get (eMth cf g.mt 4 (eVar 0) [(eVar 2)]) [(eVar 1)])) (b12_2 cf))
def b12 (cf : CF) : ShS := (sSeq (sExpr (eMth cf g.mt 10 (eVar 0) [(eLst [(eVar 1), (eVar 2)])])) (b12_1 cf))
theorem b12_eq (cf : CF) : trSs cf (tcOf g e12) e12.body = b12 cf := rfl
theorem u12 (k : Nat) (a0 a1 a2 : D) (h : Hh) : callN (tabOf g T) (k + 1) 12 [a0, a1, a2] h = (b12 (callN (tabOf g T) k) [some a0, some a1, some a2, none] h).res := by
  show (trSs (callN (tabOf g T) k) (tcOf g e12) e12.body (startD 4 [a0, a1, a2]) h).res = _
  rw [b12_eq]; rfl
/-- shortest_path(self, source, target): self, source, target -/
def b13 (cf : CF) : ShS := (sSeq (sExpr eBad) sPass)
theorem b13_eq (cf : CF) : trSs cf (tcOf g e13) e13.body = b13 cf := rfl
theorem u13 (k : Nat) (a0 a1 a2 : D) (h : Hh) : callN (tabOf g T) (k + 1) 13 [a0, a1, a2] h = (b13 (callN (tabOf g T) k) [some a0, some a1, some a2] h).res := by
  show (trSs (callN (tabOf g T) k) (tcOf g e13) e13.body (startD 3 [a0, a1, a2]) h).res = _
  rw [b13_eq]; rfl
/-- solution(self, source): self, source, distances, outside, inner, offsets, gaps, shift, edge, node, target, limit -/
def b14_7 (cf : CF) : ShS := (sSeq (sRet (eLc (iRange [(eAttr 2 (eVar 0))]) [9] (tName 9) (eConst (.bl true)) (eIf (eCmp .In (eVar 9) (eVar 2)) (eItem (eVar 2) (eVar 9)) (eBin .Add (eItem (eVar 5) (eVar 9)) (eVar 7))))) sPass)
def b14_6 (cf : CF) : ShS := (sSeq (sAsg (tName 7) (eBF .max1 [(eBin .Add (eLst [(eConst (.int 0))]) (eVar 6))])) (b14_7 cf))
def b14_5 (cf : CF) : ShS := (sSeq (sAsg (tName 6) (eLc (iVal (eVar 3)) [9, 10, 11] (tTup [(tName 9), (tName 10), (tName 11)]) (eCmp .In (eVar 10) (eVar 2)) (eBin .Sub (eBin .Sub (eItem (eVar 2) (eVar 10)) (eVar 11)) (eItem (eVar 5) (eVar 9))))) (b14_6 cf))
def b14_4 (cf : CF) : ShS := (sSeq (sAsg (tName 5) (eItem (eMth cf g.mt 9 (eVar 4) [(eDc (iRange [(eAttr 2 (eVar 0))]) [9] (tName 9) (eCmp .NotIn (eVar 9) (eVar 2)) (eVar 9) (eConst (.int 0)))]) (eConst (.int 0)))) (b14_5 cf))
def b14_3 (cf : CF) : ShS := (sSeq (sAsg (tName 4) (eMk cf 0 3 [.pos 0, .pos 1, .pos 2] [(eAttr 2 (eVar 0)), (eLc (iVal (eVar 3)) [8] (tName 8) (eCmp .NotIn (eItem (eVar 8) (eConst (.int 1))) (eVar 2)) (eVar 8))] [])) (b14_4 cf))
def b14_2 (cf : CF) : ShS := (sSeq (sAsg (tName 3) (eLc (iVal (eAttr 1 (eVar 0))) [8] (tName 8) (eCmp .NotIn (eItem (eVar 8) (eConst (.int 0))) (eVar 2)) (eVar 8))) (b14_3 cf))
def b14_1 (cf : CF) : ShS := (sSeq (sAsg (tName 2) (eMth cf g.mt 4 (eVar 0) [(eVar 1)])) (b14_2 cf))
def b14 (cf : CF) : ShS := (sSeq (sExpr (eMth cf g.mt 10 (eVar 0) [(eLst [(eVar 1)])])) (b14_1 cf))
theorem b14_eq (cf : CF) : trSs cf (tcOf g e14) e14.body = b14 cf := rfl
theorem u14 (k : Nat) (a0 a1 : D) (h : Hh) : callN (tabOf g T) (k + 1) 14 [a0, a1] h = (b14 (callN (tabOf g T) k) [some a0, some a1, none, none, none, none, none, none, none, none, none, none] h).res := by
  show (trSs (callN (tabOf g T) k) (tcOf g e14) e14.body (startD 12 [a0, a1]) h).res = _
  rw [b14_eq]; rfl
/-- satisfies(self, values): self, values -/
def b15 (cf : CF) : ShS := (sSeq (sExpr eBad) sPass)
theorem b15_eq (cf : CF) : trSs cf (tcOf g e15) e15.body = b15 cf := rfl
theorem u15 (k : Nat) (a0 a1 : D) (h : Hh) : callN (tabOf g T) (k + 1) 15 [a0, a1] h = (b15 (callN (tabOf g T) k) [some a0, some a1] h).res := by
  show (trSs (callN (tabOf g T) k) (tcOf g e15) e15.body (startD 2 [a0, a1]) h).res = _
  rw [b15_eq]; rfl
/-- _law_rng(_law_script, _law_k): _law_script, _law_k, _law_cell -/
def b16_2 (cf : CF) : ShS := (sSeq (sRet (eLst [(eBF .max2 [(eConst (.int 0)), (eBin .Sub (eVar 2) (eBin .Pow (eConst (.int 10)) (eConst (.int 18))))]), (eBin .Add (eBin .Mod (eBin .Pow (eBin .Add (eBin .Add (eBin .Mod (eVar 2) (eConst (.int 2147483543))) (eBin .Mult (eConst (.int 101)) (eVar 1))) (eConst (.int 5))) (eConst (.int 2))) (eConst (.int 2147483497))) (eConst (.int 1)))])) sPass)
def b16_1 (cf : CF) : ShS := (sSeq (sIf (eCmp .Lt (eVar 1) (eBF .len [(eVar 0)])) (sSeq (sAsg (tName 2) (eBF .abs [(eItem (eVar 0) (eVar 1))])) sPass) sPass) (b16_2 cf))
def b16 (cf : CF) : ShS := (sSeq (sAsg (tName 2) (eConst (.int 0))) (b16_1 cf))
theorem b16_eq (cf : CF) : trSs cf (tcOf g e16) e16.body = b16 cf := rfl
theorem u16 (k : Nat) (a0 a1 : D) (h : Hh) : callN (tabOf g T) (k + 1) 16 [a0, a1] h = (b16 (callN (tabOf g T) k) [some a0, some a1, none] h).res := by
  show (trSs (callN (tabOf g T) k) (tcOf g e16) e16.body (startD 3 [a0, a1]) h).res = _
  rw [b16_eq]; rfl
/-- _law_draw(_law_rng_here, _law_many): _law_rng_here, _law_many, _law_digit -/
def b17_0t_1 (cf : CF) : ShS := (sSeq (sRet (eVar 2)) sPass)
def b17_0t (cf : CF) : ShS := (sSeq (sAsg (tTup [(tItem (eVar 0) (eConst (.int 0))), (tName 2)]) (eBF .divmod [(eItem (eVar 0) (eConst (.int 0))), (eVar 1)])) (b17_0t_1 cf))
def b17_2 (cf : CF) : ShS := (sSeq (sRet (eBin .Mod (eBin .FloorDiv (eBin .Mod (eBin .Mult (eItem (eVar 0) (eConst (.int 1))) (eItem (eVar 0) (eConst (.int 1)))) (eConst (.int 2147483549))) (eConst (.int 11))) (eVar 1))) sPass)
def b17_1 (cf : CF) : ShS := (sSeq (sAsg (tItem (eVar 0) (eConst (.int 1))) (eBin .Mod (eBin .Add (eBin .Mult (eItem (eVar 0) (eConst (.int 1))) (eConst (.int 44029))) (eConst (.int 10133))) (eConst (.int 2147483587)))) (b17_2 cf))
def b17 (cf : CF) : ShS := (sSeq (sIf (eCmp .Gt (eItem (eVar 0) (eConst (.int 0))) (eConst (.int 0))) (b17_0t cf) sPass) (b17_1 cf))
theorem b17_eq (cf : CF) : trSs cf (tcOf g e17) e17.body = b17 cf := rfl
theorem u17 (k : Nat) (a0 a1 : D) (h : Hh) : callN (tabOf g T) (k + 1) 17 [a0, a1] h = (b17 (callN (tabOf g T) k) [some a0, some a1, none] h).res := by
  show (trSs (callN (tabOf g T) k) (tcOf g e17) e17.body (startD 3 [a0, a1]) h).res = _
  rw [b17_eq]; rfl
/-- _law_random_edges(_law_rng_here, _law_size, _law_limit): _law_rng_here, _law_size, _law_limit, _law_scale, _law_offset, _law_result, _law_k, _law_source, _law_target -/
def b18_3b_1 (cf : CF) : ShS := (sSeq (sExpr (eBM .append (eVar 5) [(eTup [(eVar 7), (eVar 8), (eBin .Sub (eCall cf 17 [(eVar 0), (eVar 3)]) (eVar 4))])])) sPass)
def b18_3b (cf : CF) : ShS := (sSeq (sAsg (tTup [(tName 7), (tName 8)]) (eTup [(eCall cf 17 [(eVar 0), (eVar 1)]), (eCall cf 17 [(eVar 0), (eVar 1)])])) (b18_3b_1 cf))
def b18_4 (cf : CF) : ShS := (sSeq (sRet (eBin .Add (eVar 5) (eSlice (eVar 5) none (some (eCall cf 17 [(eVar 0), (eConst (.int 2))]))))) sPass)
def b18_3 (cf : CF) : ShS := (sSeq (sFor (iRange [(eCall cf 17 [(eVar 0), (eBin .Add (eVar 2) (eConst (.int 1)))])]) (tName 6) (b18_3b cf)) (b18_4 cf))
def b18_2 (cf : CF) : ShS := (sSeq (sAsg (tName 5) (eLst [])) (b18_3 cf))
def b18_1 (cf : CF) : ShS := (sSeq (sAsg (tName 4) (eItem (eLst [(eBin .FloorDiv (eVar 3) (eConst (.int 2))), (eConst (.int 0)), (eBin .FloorDiv (eVar 3) (eConst (.int 3)))]) (eCall cf 17 [(eVar 0), (eConst (.int 3))]))) (b18_2 cf))
def b18 (cf : CF) : ShS := (sSeq (sAsg (tName 3) (eItem (eLst [(eConst (.int 4)), (eConst (.int 12)), (eBin .Pow (eConst (.int 10)) (eConst (.int 30))), (eBin .Pow (eConst (.int 10)) (eConst (.int 55)))]) (eCall cf 17 [(eVar 0), (eConst (.int 4))]))) (b18_1 cf))
theorem b18_eq (cf : CF) : trSs cf (tcOf g e18) e18.body = b18 cf := rfl
theorem u18 (k : Nat) (a0 a1 a2 : D) (h : Hh) : callN (tabOf g T) (k + 1) 18 [a0, a1, a2] h = (b18 (callN (tabOf g T) k) [some a0, some a1, some a2, none, none, none, none, none, none] h).res := by
  show (trSs (callN (tabOf g T) k) (tcOf g e18) e18.body (startD 9 [a0, a1, a2]) h).res = _
  rw [b18_eq]; rfl
/-- _law_distances(_law_size, _law_edges): _law_size, _law_edges, _law_result, _law_source, _law_target, _law_limit, _law_middle, _law_value, _law_total -/
def b19_2b_0b_0b_0t_1 (cf : CF) : ShS := (sSeq (sAsg (tItem (eVar 2) (eTup [(eVar 3), (eVar 4)])) (eBF .min2 [(eVar 8), (eBM .get (eVar 2) [(eTup [(eVar 3), (eVar 4)]), (eVar 8)])])) sPass)
def b19_2b_0b_0b_0t (cf : CF) : ShS := (sSeq (sAsg (tName 8) (eBin .Add (eItem (eVar 2) (eTup [(eVar 3), (eVar 6)])) (eItem (eVar 2) (eTup [(eVar 6), (eVar 4)])))) (b19_2b_0b_0b_0t_1 cf))
def b19_2b_0b_0b (cf : CF) : ShS := (sSeq (sIf (eAnd (eCmp .In (eTup [(eVar 3), (eVar 6)]) (eVar 2)) (eCmp .In (eTup [(eVar 6), (eVar 4)]) (eVar 2))) (b19_2b_0b_0b_0t cf) sPass) sPass)
def b19_2b_0b (cf : CF) : ShS := (sSeq (sFor (iRange [(eVar 0)]) (tName 4) (b19_2b_0b_0b cf)) sPass)
def b19_2b (cf : CF) : ShS := (sSeq (sFor (iRange [(eVar 0)]) (tName 3) (b19_2b_0b cf)) sPass)
def b19_3 (cf : CF) : ShS := (sSeq (sRet (eIf (eBF .any [(eLc (iRange [(eVar 0)]) [7] (tName 7) (eConst (.bl true)) (eCmp .Lt (eItem (eVar 2) (eTup [(eVar 7), (eVar 7)])) (eConst (.int 0))))]) (eConst .non) (eVar 2))) sPass)
def b19_2 (cf : CF) : ShS := (sSeq (sFor (iRange [(eVar 0)]) (tName 6) (b19_2b cf)) (b19_3 cf))
def b19_1 (cf : CF) : ShS := (sSeq (sFor (iVal (eVar 1)) (tTup [(tName 3), (tName 4), (tName 5)]) (sSeq (sAsg (tItem (eVar 2) (eTup [(eVar 3), (eVar 4)])) (eBF .min2 [(eVar 5), (eBM .get (eVar 2) [(eTup [(eVar 3), (eVar 4)]), (eVar 5)])])) sPass)) (b19_2 cf))
def b19 (cf : CF) : ShS := (sSeq (sAsg (tName 2) (eDicP (eLc (iRange [(eVar 0)]) [7] (tName 7) (eConst (.bl true)) (eTup [(eTup [(eVar 7), (eVar 7)]), (eConst (.int 0))])))) (b19_1 cf))
theorem b19_eq (cf : CF) : trSs cf (tcOf g e19) e19.body = b19 cf := rfl
theorem u19 (k : Nat) (a0 a1 : D) (h : Hh) : callN (tabOf g T) (k + 1) 19 [a0, a1] h = (b19 (callN (tabOf g T) k) [some a0, some a1, none, none, none, none, none, none, none] h).res := by
  show (trSs (callN (tabOf g T) k) (tcOf g e19) e19.body (startD 9 [a0, a1]) h).res = _
  rw [b19_eq]; rfl
/-- _law_same(_law_actual, _law_expected): _law_actual, _law_expected -/
def b20 (cf : CF) : ShS := (sSeq (sRet (eCmp .Eq (eBF .repr [(eVar 0)]) (eBF .repr [(eVar 1)]))) sPass)
theorem b20_eq (cf : CF) : trSs cf (tcOf g e20) e20.body = b20 cf := rfl
theorem u20 (k : Nat) (a0 a1 : D) (h : Hh) : callN (tabOf g T) (k + 1) 20 [a0, a1] h = (b20 (callN (tabOf g T) k) [some a0, some a1] h).res := by
  show (trSs (callN (tabOf g T) k) (tcOf g e20) e20.body (startD 2 [a0, a1]) h).res = _
  rw [b20_eq]; rfl
/-- _law_check(_law_system, _law_size, _law_edges, _law_distances_here): _law_system, _law_size, _law_edges, _law_distances_here, _law_source, _law_target, _law_expected, _law_backward, _law_lower -/
def b21_4b_0b_4 (cf : CF) : ShS := (sSeq (sIf (eUn .Not (eCall cf 20 [(eMth cf g.mt 6 (eVar 0) [(eVar 4), (eVar 5)]), (eVar 8)])) (sSeq (sRet (eConst (.bl false))) sPass) sPass) sPass)
def b21_4b_0b_3 (cf : CF) : ShS := (sSeq (sIf (eUn .Not (eCall cf 20 [(eMth cf g.mt 14 (eVar 0) [(eVar 4), (eVar 5)]), (eVar 6)])) (sSeq (sRet (eConst (.bl false))) sPass) sPass) (b21_4b_0b_4 cf))
def b21_4b_0b_2 (cf : CF) : ShS := (sSeq (sAsg (tName 8) (eIf (eCmp .Is (eVar 7) (eConst .non)) (eConst .non) (eBin .Sub (eConst (.int 0)) (eVar 7)))) (b21_4b_0b_3 cf))
def b21_4b_0b_1 (cf : CF) : ShS := (sSeq (sAsg (tName 7) (eBM .get (eVar 3) [(eTup [(eVar 5), (eVar 4)])])) (b21_4b_0b_2 cf))
def b21_4b_0b (cf : CF) : ShS := (sSeq (sAsg (tName 6) (eBM .get (eVar 3) [(eTup [(eVar 4), (eVar 5)])])) (b21_4b_0b_1 cf))
def b21_4b (cf : CF) : ShS := (sSeq (sFor (iRange [(eVar 1)]) (tName 5) (b21_4b_0b cf)) sPass)
def b21_5 (cf : CF) : ShS := (sSeq (sRet (eCall cf 20 [(eMth cf g.mt 3 (eVar 0) []), (eVar 2)])) sPass)
def b21_4 (cf : CF) : ShS := (sSeq (sFor (iRange [(eVar 1)]) (tName 4) (b21_4b cf)) (b21_5 cf))
def b21_3 (cf : CF) : ShS := (sSeq (sExpr (eBM .reverse (eMth cf g.mt 3 (eVar 0) []) [])) (b21_4 cf))
def b21_2 (cf : CF) : ShS := (sSeq (sExpr (eBM .append (eMth cf g.mt 3 (eVar 0) []) [(eConst .non)])) (b21_3 cf))
def b21_1 (cf : CF) : ShS := (sSeq (sIf (eCmp .IsNot (eMth cf g.mt 7 (eVar 0) []) (eConst .non)) (sSeq (sRet (eConst (.bl false))) sPass) sPass) (b21_2 cf))
def b21 (cf : CF) : ShS := (sSeq (sIf (eUn .Not (eCall cf 20 [(eLst [(eMth cf g.mt 8 (eVar 0) []), (eMth cf g.mt 3 (eVar 0) [])]), (eLst [(eVar 1), (eVar 2)])])) (sSeq (sRet (eConst (.bl false))) sPass) sPass) (b21_1 cf))
theorem b21_eq (cf : CF) : trSs cf (tcOf g e21) e21.body = b21 cf := rfl
theorem u21 (k : Nat) (a0 a1 a2 a3 : D) (h : Hh) : callN (tabOf g T) (k + 1) 21 [a0, a1, a2, a3] h = (b21 (callN (tabOf g T) k) [some a0, some a1, some a2, some a3, none, none, none, none, none] h).res := by
  show (trSs (callN (tabOf g T) k) (tcOf g e21) e21.body (startD 9 [a0, a1, a2, a3]) h).res = _
  rw [b21_eq]; rfl
/-- _law_check_chain(): _law_edges, _law_system, _law_node -/
def b22_5 (cf : CF) : ShS := (sSeq (sRet (eCmp .IsNot (eMth cf g.mt 7 (eMk cf 0 3 [.pos 0, .pos 1, .pos 2] [(eConst (.int 60)), (eBin .Add (eVar 0) (eLst [(eTup [(eConst (.int 59)), (eConst (.int 0)), (eUn .USub (eConst (.int 178)))])]))] []) []) (eConst .non))) sPass)
def b22_4 (cf : CF) : ShS := (sSeq (sIf (eCmp .NotEq (eMth cf g.mt 14 (eMk cf 0 3 [.pos 0, .pos 1, .pos 2] [(eConst (.int 60)), (eBin .Add (eVar 0) (eLst [(eTup [(eConst (.int 59)), (eConst (.int 0)), (eUn .USub (eConst (.int 177)))])]))] []) [(eConst (.int 58)), (eConst (.int 0))]) (eUn .USub (eConst (.int 174)))) (sSeq (sRet (eConst (.bl false))) sPass) sPass) (b22_5 cf))
def b22_3 (cf : CF) : ShS := (sSeq (sIf (eCmp .IsNot (eMth cf g.mt 14 (eVar 1) [(eConst (.int 59)), (eConst (.int 0))]) (eConst .non)) (sSeq (sRet (eConst (.bl false))) sPass) sPass) (b22_4 cf))
def b22_2 (cf : CF) : ShS := (sSeq (sIf (eOr (eCmp .NotEq (eMth cf g.mt 14 (eVar 1) [(eConst (.int 0)), (eConst (.int 59))]) (eConst (.int 177))) (eCmp .NotEq (eMth cf g.mt 6 (eVar 1) [(eConst (.int 59)), (eConst (.int 0))]) (eUn .USub (eConst (.int 177))))) (sSeq (sRet (eConst (.bl false))) sPass) sPass) (b22_3 cf))
def b22_1 (cf : CF) : ShS := (sSeq (sAsg (tName 1) (eMk cf 0 3 [.pos 0, .pos 1, .pos 2] [(eConst (.int 60)), (eVar 0)] [])) (b22_2 cf))
def b22 (cf : CF) : ShS := (sSeq (sAsg (tName 0) (eLc (iRange [(eConst (.int 58)), (eUn .USub (eConst (.int 1))), (eUn .USub (eConst (.int 1)))]) [2] (tName 2) (eConst (.bl true)) (eTup [(eVar 2), (eBin .Add (eVar 2) (eConst (.int 1))), (eConst (.int 3))]))) (b22_1 cf))
theorem b22_eq (cf : CF) : trSs cf (tcOf g e22) e22.body = b22 cf := rfl
theorem u22 (k : Nat) (h : Hh) : callN (tabOf g T) (k + 1) 22 [] h = (b22 (callN (tabOf g T) k) [none, none, none] h).res := by
  show (trSs (callN (tabOf g T) k) (tcOf g e22) e22.body (startD 3 []) h).res = _
  rw [b22_eq]; rfl
/-- law(_law_script): _law_script, _law_previous, _law_k, _law_rng_here, _law_size, _law_attempt, _law_edges, _law_distances_here, _law_argument, _law_system -/
def b23_2b_2b_2t_6 (cf : CF) : ShS := (sSeq (sAsg (tName 1) (eTup [(eVar 9), (eVar 4), (eVar 6), (eVar 7)])) sPass)
def b23_2b_2b_2t_5 (cf : CF) : ShS := (sSeq (sIf (eUn .Not (eCall cf 21 [(eItem (eVar 1) (eConst (.int 0))), (eItem (eVar 1) (eConst (.int 1))), (eItem (eVar 1) (eConst (.int 2))), (eItem (eVar 1) (eConst (.int 3)))])) (sSeq (sRet (eConst (.bl false))) sPass) sPass) (b23_2b_2b_2t_6 cf))
def b23_2b_2b_2t_4 (cf : CF) : ShS := (sSeq (sIf (eUn .Not (eCall cf 21 [(eVar 9), (eVar 4), (eVar 6), (eVar 7)])) (sSeq (sRet (eConst (.bl false))) sPass) sPass) (b23_2b_2b_2t_5 cf))
def b23_2b_2b_2t_3 (cf : CF) : ShS := (sSeq (sExpr (eBM .append (eVar 8) [(eConst .non)])) (b23_2b_2b_2t_4 cf))
def b23_2b_2b_2t_2 (cf : CF) : ShS := (sSeq (sExpr (eBM .reverse (eVar 8) [])) (b23_2b_2b_2t_3 cf))
def b23_2b_2b_2t_1 (cf : CF) : ShS := (sSeq (sAsg (tName 9) (eMk cf 0 3 [.pos 0, .pos 1, .pos 2] [(eVar 4), (eVar 8)] [])) (b23_2b_2b_2t_2 cf))
def b23_2b_2b_2t (cf : CF) : ShS := (sSeq (sAsg (tName 8) (eBF .list [(eVar 6)])) (b23_2b_2b_2t_1 cf))
def b23_2b_2b_2 (cf : CF) : ShS := (sSeq (sIf (eCmp .IsNot (eVar 7) (eConst .non)) (b23_2b_2b_2t cf) sPass) sPass)
def b23_2b_2b_1 (cf : CF) : ShS := (sSeq (sAsg (tName 7) (eCall cf 19 [(eVar 4), (eVar 6)])) (b23_2b_2b_2 cf))
def b23_2b_2b (cf : CF) : ShS := (sSeq (sAsg (tName 6) (eCall cf 18 [(eVar 3), (eVar 4), (eItem (eLst [(eConst (.int 7)), (eConst (.int 14))]) (eCall cf 17 [(eVar 3), (eConst (.int 2))]))])) (b23_2b_2b_1 cf))
def b23_2b_2 (cf : CF) : ShS := (sSeq (sFor (iRange [(eConst (.int 2))]) (tName 5) (b23_2b_2b cf)) sPass)
def b23_2b_1 (cf : CF) : ShS := (sSeq (sAsg (tName 4) (eBin .Add (eConst (.int 1)) (eCall cf 17 [(eVar 3), (eConst (.int 7))]))) (b23_2b_2 cf))
def b23_2b (cf : CF) : ShS := (sSeq (sAsg (tName 3) (eCall cf 16 [(eVar 0), (eVar 2)])) (b23_2b_1 cf))
def b23_3 (cf : CF) : ShS := (sSeq (sRet (eConst (.bl true))) sPass)
def b23_2 (cf : CF) : ShS := (sSeq (sFor (iRange [(eBF .max2 [(eConst (.int 1)), (eBF .min2 [(eBF .len [(eVar 0)]), (eConst (.int 5))])])]) (tName 2) (b23_2b cf)) (b23_3 cf))
def b23_1 (cf : CF) : ShS := (sSeq (sAsg (tName 1) (eTup [(eMk cf 0 3 [.pos 0, .pos 1, .pos 2] [(eConst (.int 1)), (eLst [])] []), (eConst (.int 1)), (eLst []), (eDic [((eTup [(eConst (.int 0)), (eConst (.int 0))]), (eConst (.int 0)))])])) (b23_2 cf))
def b23 (cf : CF) : ShS := (sSeq (sIf (eUn .Not (eCall cf 22 [])) (sSeq (sRet (eConst (.bl false))) sPass) sPass) (b23_1 cf))
theorem b23_eq (cf : CF) : trSs cf (tcOf g e23) e23.body = b23 cf := rfl
theorem u23 (k : Nat) (a0 : D) (h : Hh) : callN (tabOf g T) (k + 1) 23 [a0] h = (b23 (callN (tabOf g T) k) [some a0, none, none, none, none, none, none, none, none, none] h).res := by
  show (trSs (callN (tabOf g T) k) (tcOf g e23) e23.body (startD 10 [a0]) h).res = _
  rw [b23_eq]; rfl
/-- the evaluator and the law -/
abbrev run : List D → Hh → Res D := callN (tabOf g T) 8 23
theorem walk {l : PySem.W.OpenLaw} {q : Program} {loose : List Str} {XP : (Str → Option Value) → Heap → Prop} {YP : World → Heap → Prop} {d : DefRec} {K : Params → PySem.W.Frag} (hn : l.most = some 63) (hq : importsNone q = true) (hdf : d.params.defaults = [])
    (hlaw : ∀ ns : List Int, ns.length ≤ 63 → (∀ z ∈ ns, Builtin.Int.intBits z ≤ 1048576) → ∃ h', run [.ref 0] [.lst true (ns.map D.int)] = .ok (.bl true) h')
    (hY : ∀ (w : World) (h : Heap), YP w h → (K w.params).In h)
    (F : ∀ (w : World) (mg : Str → Option Value) (fa : Addr) (h : Heap), (K w.params).In h → h.Ns mainGlobals mg → mg d.name = some (.ref fa) →
      (∀ b o, (K w.params).lookup b = some o → o.cls ≠ .type "list") ∧ ∃ fd : FuncData, (∀ (s : Shared) (u : Value), BindsTo s fd ⟨[u], []⟩ [("_law_script", u)]) ∧ ∀ base : Heap, (K w.params).In base → base.Ns mainGlobals mg → (∃ o, base.get? sysModules = some o) → FnG l.prog w (K w.params) mg base (2 * 8) fa fd ["_law_script"] (spD (G (K w.params)) run)) :
    PySem.W.WalkO q loose XP YP l.row.toRowW d [] (fun f vs => PySem.call f vs) :=
  walkG (n := 63) (k := 2 * 8) (x := "_law_script") (sp := fun w => spD (G (K w.params)) run) hn hq (by decide) hdf ⟨rfl, by decide, by decide⟩ hY F fun w H a o ns hl hb hH => (let ⟨h', e⟩ := hlaw ns hl hb; spD_law hH e)
end K21

set_option maxRecDepth 100000
set_option maxHeartbeats 1000000
namespace K21
open PySem Ev
theorem tb {i : Nat} {e : Ent} {n m : Nat} {b c : CF → ShS} (h : T[i]? = some e) (h1 : e.ps.length = n) (h2 : e.N.length = m) (h3 : ∀ cf, trSs cf (tcOf g e) e.body = b cf) (h4 : b = c) : tabOf g T i = some ⟨n, m, c⟩ := by
  subst h4
  unfold tabOf
  rw [h]
  show some (Def.mk e.ps.length e.N.length fun cf => trSs cf (tcOf g e) e.body) = _
  rw [h1, h2, funext h3]
theorem dc : DcT3 (tabOf g T) where
  t0 := tb rfl rfl rfl b0_eq rfl
  t1 := tb rfl rfl rfl b1_eq rfl
  t2 := tb rfl rfl rfl b2_eq rfl
  t3 := tb rfl rfl rfl b3_eq rfl
  t6 := tb rfl rfl rfl b6_eq rfl
  t7 := tb rfl rfl rfl b7_eq rfl
  t8 := tb rfl rfl rfl b8_eq rfl
  t9 := tb rfl rfl rfl b9_eq rfl
  t10 := tb rfl rfl rfl b10_eq rfl
  t14 := tb rfl rfl rfl b14_eq rfl
theorem dc5 : DcT5 (tabOf g T) where
  toDcT2 := dc.toDcT2
  t4 := tb rfl rfl rfl b4_eq rfl
  t5 := tb rfl rfl rfl b5_eq rfl
theorem t11 : tabOf g T 11 = some d11 := tb rfl rfl rfl b11_eq rfl
theorem t12 : tabOf g T 12 = some d12 := tb rfl rfl rfl b12_eq rfl
theorem m14 : g.mt 0 14 = some 11 := rfl
theorem m6 : g.mt 0 6 = some 12 := rfl
theorem m3 : g.mt 0 3 = some 5 := rfl
theorem m8 : g.mt 0 8 = some 4 := rfl
theorem m7 : g.mt 0 7 = some 6 := rfl
abbrev C (k : Nat) : CF := callN (tabOf g T) k
theorem draw {k s : Nat} {L : Int} {h : Hh} {Q : D → Hh → Prop} (hs : Src h s) (h0 : 0 < L) (h1 : L < 10 ^ 70) (q : ∀ r h', 0 ≤ r → r < L → Fr [s] h h' → Src h' s → h'.length = h.length → Q (.int r) h') : wpR (C (k + 1) 17 [.ref s, .int L] h) Q := by
  rw [C, u17]
  exact draw_wp hs h0 h1 q
theorem rng {k i : Nat} {h : Hh} {ns : List Int} {j : Int} {Q : D → Hh → Prop} (e : h[i]? = some (.lst true (ns.map .int))) (j0 : 0 ≤ j) (j1 : j ≤ 5) (q : ∀ s h', Src h' s → Fr [] h h' → h.length ≤ s → Q (.ref s) h') : wpR (C (k + 1) 16 [.ref i, .int j] h) Q := by
  rw [C, u16]
  exact rng_wp e j0 j1 q
theorem edges {k s n : Nat} {L : Int} {h : Hh} (hs : Src h s) (n1 : 1 ≤ n) (n2 : n ≤ 8) (l0 : 0 ≤ L) (l1 : L ≤ 14) {Q : D → Hh → Prop}
    (q : ∀ b E h', h'[b]? = some (.lst false (E.map edD)) → VE E n → BEw E → E.length ≤ 15 → Fr [s] h h' → Src h' s → h.length ≤ b → Q (.ref b) h') : wpR (C (k + 2) 18 [.ref s, .int (n : Nat), .int L] h) Q := by
  rw [C, u18]
  exact w18_wp (fun s L h Q hs h0 h1 q => draw (k := k) hs h0 h1 q) hs n1 n2 l0 l1 q
theorem dists {k er n : Nat} {E : List Bf.Edge} {h : Hh} (ee : h[er]? = some (.lst false (E.map edD))) (n1 : 1 ≤ n) (n2 : n ≤ 8) (lE : E.length ≤ 20) {Q : D → Hh → Prop}
    (q0 : (∃ v x, v < n ∧ Bf.fw E n v v = some x ∧ x < 0) → ∀ h', Fr [] h h' → Q .non h')
    (q1 : (∀ v, v < n → ∀ x, Bf.fw E n v v = some x → 0 ≤ x) → ∀ a kvs h', h'[a]? = some (.dic false kvs) → MapT kvs (Bf.fw E n) → Fr [] h h' → h.length ≤ a → Q (.ref a) h') : wpR (C (k + 1) 19 [.int (n : Nat), .ref er] h) Q := by
  rw [C, u19]
  exact w19_wp (cf := C k) ee n1 n2 lE q0 q1
/-- repr(a) == repr(b) -/
theorem same {k : Nat} {x y : D} {z : Str} {h : Hh} (e1 : bfun .repr [x] h = .ok (.str z) h) (e2 : bfun .repr [y] h = .ok (.str z) h) {Q : D → Hh → Prop} (q : Q (.bl true) h) : wpR (C (k + 1) 20 [x, y] h) Q := by
  rw [C, u20]
  unfold b20
  simp only [wpR_ok, wpR_bind, wpS_stm, wpS_seq, wpS_nx, wpS_rt, wpR_res, wpR_noExc, eConst_ap, eVar_z, eVar_s, eBin_ap, eUn_ap, eAnd_ap, eOr_ap, eIf_ap, eCmp_ap, eChain_ap, eArgs_nil, eArgs_cons, eTup_ap, eLst_wp, eItem_ap, eEnd_none, eEnd_some, toI_int, eSlice_ap, eBF_ap, eCall_ap, eCallK_ap, eIsI_ap, sPass_ap, sExpr_ap, sRet_ap, sRetN_ap, sAsg_ap, sIf_ap, sSeq_ap, tName_ap, tEach_nil, tEach_cons, tTup_ap, tItem_ap, pick_nil, pick_pos, pick_kw, pick_dfl, eAttr_ap, eMth_ap, eMk_ap, tAttr_ap, pF_some, isNon_non, eDicEn_ap, eRev_ap, List.set_cons_zero, List.set_cons_succ, List.length_cons, List.length_nil, truth_bl, truth_non, not_bl, not_non, tst_if, tstS_if, pBl_some, pD_some, add_int, sub_int, neg_int, lt_int, le_int, gt_int, ge_int, eq_int, ne_int, if_true, Bool.not_true, Bool.not_false, Bool.false_eq_true, if_false, and_self, List.getElem?_cons_zero, List.getElem?_cons_succ, Option.getD_some, Option.bind_some, Option.map_some, e1, e2, eq_st, same_st]
  exact q
theorem isnot_nn (h : Hh) : cmpop .IsNot .non .non h = some false := rfl
/-! ### a check -/
structure Sy (h : Hh) (y n er a : Nat) : Prop where
  ex : ∃ e E kvs F, Sys h y e .non n E ∧ h[er]? = some (.lst false (E.map edD)) ∧ h[a]? = some (.dic false kvs) ∧ MapT kvs F ∧ (∀ s v, s < n → F s v = dist1 E n s v) ∧ VE E n ∧ BEw E ∧ E.length ≤ 15 ∧ 1 ≤ n ∧ n ≤ 8
theorem Sy.fr {h h' : Hh} {y n er a : Nat} (q : Sy h y n er a) (f : Fr [] h h') : Sy h' y n er a := by
  obtain ⟨e, E, kvs, F, S, ee, ea, mk, r⟩ := q.ex
  exact ⟨e, E, kvs, F, S.fr0 f, f.get _ _ (by simp) ee, f.get _ _ (by simp) ea, mk, r⟩
theorem Sy.frs {h h' : Hh} {y n er a s : Nat} (q : Sy h y n er a) (hs : Src h s) (f : Fr [s] h h') : Sy h' y n er a := by
  obtain ⟨e, E, kvs, F, S, ee, ea, mk, r⟩ := q.ex
  obtain ⟨i, j, es⟩ := hs
  have n1 : y ≠ s := fun z => by have := S.y; rw [z, es] at this; cases this
  have n2 : a ≠ s := fun z => by rw [z, es] at ea; cases ea
  have nl : ∀ {b : Nat}, h[b]? = some (.lst false (E.map edD)) → b ≠ s := fun eb z => by
    rw [z, es] at eb
    cases E with
    | nil => cases eb
    | cons ed r => cases eb
  exact ⟨e, E, kvs, F, S.fr f (by simp [n1]) (by simp [nl S.e]) (fun c hc => by cases hc), f.get _ _ (by simp [nl ee]) ee, f.get _ _ (by simp [n2]) ea, mk, r⟩
theorem neg_o (o : Option Int) : ∀ h : Hh, ∀ σ : Ev.Env, ∀ i : Nat, ∀ Q : D → Hh → Prop, σ[i]? = some (some (optD o)) → Q (optD (o.map (- ·))) h → wpR (eIf (eCmp .Is (eVar i) (eConst .non)) (eConst .non) (eBin .Sub (eConst (.int 0)) (eVar i)) σ h) Q := fun h σ i Q hi q => by
  have ev : ∀ h : Hh, eVar i σ h = .ok (optD o) h := fun h => by unfold eVar; rw [hi]
  cases o with
  | none =>
    have d0 : cmpop .Is .non .non h = some true := rfl
    simp only [wpR_ok, wpR_bind, wpS_stm, wpS_seq, wpS_nx, wpS_rt, wpR_res, wpR_noExc, eConst_ap, eVar_z, eVar_s, eBin_ap, eUn_ap, eAnd_ap, eOr_ap, eIf_ap, eCmp_ap, eChain_ap, eArgs_nil, eArgs_cons, eTup_ap, eLst_wp, eItem_ap, eEnd_none, eEnd_some, toI_int, eSlice_ap, eBF_ap, eCall_ap, eCallK_ap, eIsI_ap, sPass_ap, sExpr_ap, sRet_ap, sRetN_ap, sAsg_ap, sIf_ap, sSeq_ap, tName_ap, tEach_nil, tEach_cons, tTup_ap, tItem_ap, pick_nil, pick_pos, pick_kw, pick_dfl, eAttr_ap, eMth_ap, eMk_ap, tAttr_ap, pF_some, isNon_non, eDicEn_ap, eRev_ap, List.set_cons_zero, List.set_cons_succ, List.length_cons, List.length_nil, truth_bl, truth_non, not_bl, not_non, tst_if, tstS_if, pBl_some, pD_some, add_int, sub_int, neg_int, lt_int, le_int, gt_int, ge_int, eq_int, ne_int, if_true, Bool.not_true, Bool.not_false, Bool.false_eq_true, if_false, and_self, List.getElem?_cons_zero, List.getElem?_cons_succ, Option.getD_some, Option.bind_some, Option.map_some, ev, optD, d0]
    exact q
  | some x =>
    have d0 : cmpop .Is (.int x) .non h = some false := rfl
    simp only [wpR_ok, wpR_bind, wpS_stm, wpS_seq, wpS_nx, wpS_rt, wpR_res, wpR_noExc, eConst_ap, eVar_z, eVar_s, eBin_ap, eUn_ap, eAnd_ap, eOr_ap, eIf_ap, eCmp_ap, eChain_ap, eArgs_nil, eArgs_cons, eTup_ap, eLst_wp, eItem_ap, eEnd_none, eEnd_some, toI_int, eSlice_ap, eBF_ap, eCall_ap, eCallK_ap, eIsI_ap, sPass_ap, sExpr_ap, sRet_ap, sRetN_ap, sAsg_ap, sIf_ap, sSeq_ap, tName_ap, tEach_nil, tEach_cons, tTup_ap, tItem_ap, pick_nil, pick_pos, pick_kw, pick_dfl, eAttr_ap, eMth_ap, eMk_ap, tAttr_ap, pF_some, isNon_non, eDicEn_ap, eRev_ap, List.set_cons_zero, List.set_cons_succ, List.length_cons, List.length_nil, truth_bl, truth_non, not_bl, not_non, tst_if, tstS_if, pBl_some, pD_some, add_int, sub_int, neg_int, lt_int, le_int, gt_int, ge_int, eq_int, ne_int, if_true, Bool.not_true, Bool.not_false, Bool.false_eq_true, if_false, and_self, List.getElem?_cons_zero, List.getElem?_cons_succ, Option.getD_some, Option.bind_some, Option.map_some, ev, optD, d0]
    have : (0 : Int) - x = -x := by omega
    rw [this]
    exact q
theorem check {y n er a : Nat} {h : Hh} (Y : Sy h y n er a) {Q : D → Hh → Prop} (q : ∀ h', Fr [] h h' → Q (.bl true) h') : wpR (C 7 21 [.ref y, .int (n : Nat), .ref er, .ref a] h) Q := by
  obtain ⟨e, E, kvs, F, S, ee, ea, mk, fd, vE, bE, lE, n1, n2⟩ := Y.ex
  have e0 : ((n : Nat) : Int).toNat = n := by omega
  have f14 : fget [(2, D.int (n : Nat)), (1, .ref e), (0, .non)] 14 = none := rfl
  have f6 : fget [(2, D.int (n : Nat)), (1, .ref e), (0, .non)] 6 = none := rfl
  have f3 : fget [(2, D.int (n : Nat)), (1, .ref e), (0, .non)] 3 = none := rfl
  have f8 : fget [(2, D.int (n : Nat)), (1, .ref e), (0, .non)] 8 = none := rfl
  have f7 : fget [(2, D.int (n : Nat)), (1, .ref e), (0, .non)] 7 = none := rfl
  have nat_of : ∀ {i : Nat} {x : D}, ((List.range n).map fun k => D.int ((k : Nat) : Int))[i]? = some x → i < n ∧ x = .int (i : Nat) := fun {i x} hx => by
    have hi := (List.getElem?_eq_some_iff.mp hx).1
    rw [List.length_map, List.length_range] at hi
    rw [List.getElem?_map, List.getElem?_range hi] at hx
    exact ⟨hi, by simpa using hx.symm⟩
  rw [C, u21]
  unfold b21
  simp only [wpR_ok, wpR_bind, wpS_stm, wpS_seq, wpS_nx, wpS_rt, wpR_res, wpR_noExc, eConst_ap, eVar_z, eVar_s, eBin_ap, eUn_ap, eAnd_ap, eOr_ap, eIf_ap, eCmp_ap, eChain_ap, eArgs_nil, eArgs_cons, eTup_ap, eLst_wp, eItem_ap, eEnd_none, eEnd_some, toI_int, eSlice_ap, eBF_ap, eCall_ap, eCallK_ap, eIsI_ap, sPass_ap, sExpr_ap, sRet_ap, sRetN_ap, sAsg_ap, sIf_ap, sSeq_ap, tName_ap, tEach_nil, tEach_cons, tTup_ap, tItem_ap, pick_nil, pick_pos, pick_kw, pick_dfl, eAttr_ap, eMth_ap, eMk_ap, tAttr_ap, pF_some, isNon_non, eDicEn_ap, eRev_ap, List.set_cons_zero, List.set_cons_succ, List.length_cons, List.length_nil, truth_bl, truth_non, not_bl, not_non, tst_if, tstS_if, pBl_some, pD_some, add_int, sub_int, neg_int, lt_int, le_int, gt_int, ge_int, eq_int, ne_int, if_true, Bool.not_true, Bool.not_false, Bool.false_eq_true, if_false, and_self, List.getElem?_cons_zero, List.getElem?_cons_succ, Option.getD_some, Option.bind_some, Option.map_some, mcls_ref S.y f8, m8]
  refine count_wp (k := 5) dc5 S ?_
  simp only [wpR_ok, wpR_bind, wpS_stm, wpS_seq, wpS_nx, wpS_rt, wpR_res, wpR_noExc, eConst_ap, eVar_z, eVar_s, eBin_ap, eUn_ap, eAnd_ap, eOr_ap, eIf_ap, eCmp_ap, eChain_ap, eArgs_nil, eArgs_cons, eTup_ap, eLst_wp, eItem_ap, eEnd_none, eEnd_some, toI_int, eSlice_ap, eBF_ap, eCall_ap, eCallK_ap, eIsI_ap, sPass_ap, sExpr_ap, sRet_ap, sRetN_ap, sAsg_ap, sIf_ap, sSeq_ap, tName_ap, tEach_nil, tEach_cons, tTup_ap, tItem_ap, pick_nil, pick_pos, pick_kw, pick_dfl, eAttr_ap, eMth_ap, eMk_ap, tAttr_ap, pF_some, isNon_non, eDicEn_ap, eRev_ap, List.set_cons_zero, List.set_cons_succ, List.length_cons, List.length_nil, truth_bl, truth_non, not_bl, not_non, tst_if, tstS_if, pBl_some, pD_some, add_int, sub_int, neg_int, lt_int, le_int, gt_int, ge_int, eq_int, ne_int, if_true, Bool.not_true, Bool.not_false, Bool.false_eq_true, if_false, and_self, List.getElem?_cons_zero, List.getElem?_cons_succ, Option.getD_some, Option.bind_some, Option.map_some, mcls_ref S.y f3, m3]
  refine cons_wp (k := 5) dc5 S fun b1 h1 e1 fr1 l1 => ?_
  refine alloc_wp fun b2 h2 e2 fr2 l2 => ?_
  refine alloc_wp fun b3 h3 e3 fr3 l3 => ?_
  have f02 := fr1.trans fr2
  have f03 := f02.trans fr3
  have r1 := repr_nes (fr3.get _ _ (by simp) e2) ((fr2.trans fr3).get _ _ (by simp) e1) vE bE n2 (by omega)
  have r2 := repr_nes e3 (f03.get _ _ (by simp) ee) vE bE n2 (by omega)
  refine same (k := 5) r1 r2 ?_
  have S3 := S.fr0 f03
  simp only [wpR_ok, wpR_bind, wpS_stm, wpS_seq, wpS_nx, wpS_rt, wpR_res, wpR_noExc, eConst_ap, eVar_z, eVar_s, eBin_ap, eUn_ap, eAnd_ap, eOr_ap, eIf_ap, eCmp_ap, eChain_ap, eArgs_nil, eArgs_cons, eTup_ap, eLst_wp, eItem_ap, eEnd_none, eEnd_some, toI_int, eSlice_ap, eBF_ap, eCall_ap, eCallK_ap, eIsI_ap, sPass_ap, sExpr_ap, sRet_ap, sRetN_ap, sAsg_ap, sIf_ap, sSeq_ap, tName_ap, tEach_nil, tEach_cons, tTup_ap, tItem_ap, pick_nil, pick_pos, pick_kw, pick_dfl, eAttr_ap, eMth_ap, eMk_ap, tAttr_ap, pF_some, isNon_non, eDicEn_ap, eRev_ap, List.set_cons_zero, List.set_cons_succ, List.length_cons, List.length_nil, truth_bl, truth_non, not_bl, not_non, tst_if, tstS_if, pBl_some, pD_some, add_int, sub_int, neg_int, lt_int, le_int, gt_int, ge_int, eq_int, ne_int, if_true, Bool.not_true, Bool.not_false, Bool.false_eq_true, if_false, and_self, List.getElem?_cons_zero, List.getElem?_cons_succ, Option.getD_some, Option.bind_some, Option.map_some]
  unfold b21_1
  simp only [wpR_ok, wpR_bind, wpS_stm, wpS_seq, wpS_nx, wpS_rt, wpR_res, wpR_noExc, eConst_ap, eVar_z, eVar_s, eBin_ap, eUn_ap, eAnd_ap, eOr_ap, eIf_ap, eCmp_ap, eChain_ap, eArgs_nil, eArgs_cons, eTup_ap, eLst_wp, eItem_ap, eEnd_none, eEnd_some, toI_int, eSlice_ap, eBF_ap, eCall_ap, eCallK_ap, eIsI_ap, sPass_ap, sExpr_ap, sRet_ap, sRetN_ap, sAsg_ap, sIf_ap, sSeq_ap, tName_ap, tEach_nil, tEach_cons, tTup_ap, tItem_ap, pick_nil, pick_pos, pick_kw, pick_dfl, eAttr_ap, eMth_ap, eMk_ap, tAttr_ap, pF_some, isNon_non, eDicEn_ap, eRev_ap, List.set_cons_zero, List.set_cons_succ, List.length_cons, List.length_nil, truth_bl, truth_non, not_bl, not_non, tst_if, tstS_if, pBl_some, pD_some, add_int, sub_int, neg_int, lt_int, le_int, gt_int, ge_int, eq_int, ne_int, if_true, Bool.not_true, Bool.not_false, Bool.false_eq_true, if_false, and_self, List.getElem?_cons_zero, List.getElem?_cons_succ, Option.getD_some, Option.bind_some, Option.map_some, mcls_ref S3.y f7, m7]
  refine ncyc_wp (k := 5) dc.toDcT2 S3 (fun _ => ?_) (fun v c xs _ hc => by cases hc)
  simp only [wpR_ok, wpR_bind, wpS_stm, wpS_seq, wpS_nx, wpS_rt, wpR_res, wpR_noExc, eConst_ap, eVar_z, eVar_s, eBin_ap, eUn_ap, eAnd_ap, eOr_ap, eIf_ap, eCmp_ap, eChain_ap, eArgs_nil, eArgs_cons, eTup_ap, eLst_wp, eItem_ap, eEnd_none, eEnd_some, toI_int, eSlice_ap, eBF_ap, eCall_ap, eCallK_ap, eIsI_ap, sPass_ap, sExpr_ap, sRet_ap, sRetN_ap, sAsg_ap, sIf_ap, sSeq_ap, tName_ap, tEach_nil, tEach_cons, tTup_ap, tItem_ap, pick_nil, pick_pos, pick_kw, pick_dfl, eAttr_ap, eMth_ap, eMk_ap, tAttr_ap, pF_some, isNon_non, eDicEn_ap, eRev_ap, List.set_cons_zero, List.set_cons_succ, List.length_cons, List.length_nil, truth_bl, truth_non, not_bl, not_non, tst_if, tstS_if, pBl_some, pD_some, add_int, sub_int, neg_int, lt_int, le_int, gt_int, ge_int, eq_int, ne_int, if_true, Bool.not_true, Bool.not_false, Bool.false_eq_true, if_false, and_self, List.getElem?_cons_zero, List.getElem?_cons_succ, Option.getD_some, Option.bind_some, Option.map_some, isnot_nn]
  unfold b21_2
  simp only [wpR_ok, wpR_bind, wpS_stm, wpS_seq, wpS_nx, wpS_rt, wpR_res, wpR_noExc, eConst_ap, eVar_z, eVar_s, eBin_ap, eUn_ap, eAnd_ap, eOr_ap, eIf_ap, eCmp_ap, eChain_ap, eArgs_nil, eArgs_cons, eTup_ap, eLst_wp, eItem_ap, eEnd_none, eEnd_some, toI_int, eSlice_ap, eBF_ap, eCall_ap, eCallK_ap, eIsI_ap, sPass_ap, sExpr_ap, sRet_ap, sRetN_ap, sAsg_ap, sIf_ap, sSeq_ap, tName_ap, tEach_nil, tEach_cons, tTup_ap, tItem_ap, pick_nil, pick_pos, pick_kw, pick_dfl, eAttr_ap, eMth_ap, eMk_ap, tAttr_ap, pF_some, isNon_non, eDicEn_ap, eRev_ap, List.set_cons_zero, List.set_cons_succ, List.length_cons, List.length_nil, truth_bl, truth_non, not_bl, not_non, tst_if, tstS_if, pBl_some, pD_some, add_int, sub_int, neg_int, lt_int, le_int, gt_int, ge_int, eq_int, ne_int, if_true, Bool.not_true, Bool.not_false, Bool.false_eq_true, if_false, and_self, List.getElem?_cons_zero, List.getElem?_cons_succ, Option.getD_some, Option.bind_some, Option.map_some]
  refine app_wp ?_
  simp only [wpR_ok, wpR_bind, wpS_stm, wpS_seq, wpS_nx, wpS_rt, wpR_res, wpR_noExc, eConst_ap, eVar_z, eVar_s, eBin_ap, eUn_ap, eAnd_ap, eOr_ap, eIf_ap, eCmp_ap, eChain_ap, eArgs_nil, eArgs_cons, eTup_ap, eLst_wp, eItem_ap, eEnd_none, eEnd_some, toI_int, eSlice_ap, eBF_ap, eCall_ap, eCallK_ap, eIsI_ap, sPass_ap, sExpr_ap, sRet_ap, sRetN_ap, sAsg_ap, sIf_ap, sSeq_ap, tName_ap, tEach_nil, tEach_cons, tTup_ap, tItem_ap, pick_nil, pick_pos, pick_kw, pick_dfl, eAttr_ap, eMth_ap, eMk_ap, tAttr_ap, pF_some, isNon_non, eDicEn_ap, eRev_ap, List.set_cons_zero, List.set_cons_succ, List.length_cons, List.length_nil, truth_bl, truth_non, not_bl, not_non, tst_if, tstS_if, pBl_some, pD_some, add_int, sub_int, neg_int, lt_int, le_int, gt_int, ge_int, eq_int, ne_int, if_true, Bool.not_true, Bool.not_false, Bool.false_eq_true, if_false, and_self, List.getElem?_cons_zero, List.getElem?_cons_succ, Option.getD_some, Option.bind_some, Option.map_some, mcls_ref S3.y f3, m3]
  refine cons_wp (k := 5) dc5 S3 fun b4 h4 e4 fr4 l4 => ?_
  refine ⟨b4, _, rfl, e4, ?_⟩
  refine ⟨E.map edD, e4, by rw [List.length_map, lmE]; omega, ?_⟩
  have fs : Fr [b4] h4 (h4.set b4 (.lst false (E.map edD ++ [.non]))) := Fr.set ..
  generalize h4.set b4 (.lst false (E.map edD ++ [.non])) = h5 at fs ⊢
  have f05 : Fr [] h h5 := f03.then (fr4.nil.trans fs) fun j hj => by simp at hj; exact .inr (by have := f03.len; omega)
  have S5 := S.fr0 f05
  unfold b21_3
  simp only [wpR_ok, wpR_bind, wpS_stm, wpS_seq, wpS_nx, wpS_rt, wpR_res, wpR_noExc, eConst_ap, eVar_z, eVar_s, eBin_ap, eUn_ap, eAnd_ap, eOr_ap, eIf_ap, eCmp_ap, eChain_ap, eArgs_nil, eArgs_cons, eTup_ap, eLst_wp, eItem_ap, eEnd_none, eEnd_some, toI_int, eSlice_ap, eBF_ap, eCall_ap, eCallK_ap, eIsI_ap, sPass_ap, sExpr_ap, sRet_ap, sRetN_ap, sAsg_ap, sIf_ap, sSeq_ap, tName_ap, tEach_nil, tEach_cons, tTup_ap, tItem_ap, pick_nil, pick_pos, pick_kw, pick_dfl, eAttr_ap, eMth_ap, eMk_ap, tAttr_ap, pF_some, isNon_non, eDicEn_ap, eRev_ap, List.set_cons_zero, List.set_cons_succ, List.length_cons, List.length_nil, truth_bl, truth_non, not_bl, not_non, tst_if, tstS_if, pBl_some, pD_some, add_int, sub_int, neg_int, lt_int, le_int, gt_int, ge_int, eq_int, ne_int, if_true, Bool.not_true, Bool.not_false, Bool.false_eq_true, if_false, and_self, List.getElem?_cons_zero, List.getElem?_cons_succ, Option.getD_some, Option.bind_some, Option.map_some]
  refine rev_wp ?_
  simp only [wpR_ok, wpR_bind, wpS_stm, wpS_seq, wpS_nx, wpS_rt, wpR_res, wpR_noExc, eConst_ap, eVar_z, eVar_s, eBin_ap, eUn_ap, eAnd_ap, eOr_ap, eIf_ap, eCmp_ap, eChain_ap, eArgs_nil, eArgs_cons, eTup_ap, eLst_wp, eItem_ap, eEnd_none, eEnd_some, toI_int, eSlice_ap, eBF_ap, eCall_ap, eCallK_ap, eIsI_ap, sPass_ap, sExpr_ap, sRet_ap, sRetN_ap, sAsg_ap, sIf_ap, sSeq_ap, tName_ap, tEach_nil, tEach_cons, tTup_ap, tItem_ap, pick_nil, pick_pos, pick_kw, pick_dfl, eAttr_ap, eMth_ap, eMk_ap, tAttr_ap, pF_some, isNon_non, eDicEn_ap, eRev_ap, List.set_cons_zero, List.set_cons_succ, List.length_cons, List.length_nil, truth_bl, truth_non, not_bl, not_non, tst_if, tstS_if, pBl_some, pD_some, add_int, sub_int, neg_int, lt_int, le_int, gt_int, ge_int, eq_int, ne_int, if_true, Bool.not_true, Bool.not_false, Bool.false_eq_true, if_false, and_self, List.getElem?_cons_zero, List.getElem?_cons_succ, Option.getD_some, Option.bind_some, Option.map_some, mcls_ref S5.y f3, m3]
  refine cons_wp (k := 5) dc5 S5 fun b6 h6 e6 fr6 l6 => ?_
  refine ⟨b6, _, rfl, e6, ?_⟩
  have ft : Fr [b6] h6 (h6.set b6 (.lst false (E.map edD).reverse)) := Fr.set ..
  generalize h6.set b6 (.lst false (E.map edD).reverse) = h7 at ft ⊢
  have f07 : Fr [] h h7 := f05.then (fr6.nil.trans ft) fun j hj => by simp at hj; exact .inr (by have := f05.len; omega)
  have S7 := S.fr0 f07
  have ea7 := f07.get _ _ (by simp) ea
  unfold b21_4
  simp only [wpR_ok, wpR_bind, wpS_stm, wpS_seq, wpS_nx, wpS_rt, wpR_res, wpR_noExc, eConst_ap, eVar_z, eVar_s, eBin_ap, eUn_ap, eAnd_ap, eOr_ap, eIf_ap, eCmp_ap, eChain_ap, eArgs_nil, eArgs_cons, eTup_ap, eLst_wp, eItem_ap, eEnd_none, eEnd_some, toI_int, eSlice_ap, eBF_ap, eCall_ap, eCallK_ap, eIsI_ap, sPass_ap, sExpr_ap, sRet_ap, sRetN_ap, sAsg_ap, sIf_ap, sSeq_ap, tName_ap, tEach_nil, tEach_cons, tTup_ap, tItem_ap, pick_nil, pick_pos, pick_kw, pick_dfl, eAttr_ap, eMth_ap, eMk_ap, tAttr_ap, pF_some, isNon_non, eDicEn_ap, eRev_ap, List.set_cons_zero, List.set_cons_succ, List.length_cons, List.length_nil, truth_bl, truth_non, not_bl, not_non, tst_if, tstS_if, pBl_some, pD_some, add_int, sub_int, neg_int, lt_int, le_int, gt_int, ge_int, eq_int, ne_int, if_true, Bool.not_true, Bool.not_false, Bool.false_eq_true, if_false, and_self, List.getElem?_cons_zero, List.getElem?_cons_succ, Option.getD_some, Option.bind_some, Option.map_some]
  refine sFor_wp ?_
  rw [rng_ap (e := eVar 1) (n := (n : Nat)) (h1 := h7) rfl (by omega) (by omega), e0]
  refine ⟨rfl, ?_⟩
  refine forL_wp (fun i σ h' => ∃ o4 o5 o6 o7 o8, σ = [some (.ref y), some (.int (n : Nat)), some (.ref er), some (.ref a), o4, o5, o6, o7, o8] ∧ Fr [] h7 h') (fun _ _ _ _ => rfl) ?_ ?_ ⟨_, _, _, _, _, rfl, Fr.refl _ _⟩
  · rintro i x σ h8 hx ⟨p4, p5, p6, p7, p8, rfl, fr8⟩
    obtain ⟨hi, rfl⟩ := nat_of hx
    unfold b21_4b
    simp only [wpR_ok, wpR_bind, wpS_stm, wpS_seq, wpS_nx, wpS_rt, wpR_res, wpR_noExc, eConst_ap, eVar_z, eVar_s, eBin_ap, eUn_ap, eAnd_ap, eOr_ap, eIf_ap, eCmp_ap, eChain_ap, eArgs_nil, eArgs_cons, eTup_ap, eLst_wp, eItem_ap, eEnd_none, eEnd_some, toI_int, eSlice_ap, eBF_ap, eCall_ap, eCallK_ap, eIsI_ap, sPass_ap, sExpr_ap, sRet_ap, sRetN_ap, sAsg_ap, sIf_ap, sSeq_ap, tName_ap, tEach_nil, tEach_cons, tTup_ap, tItem_ap, pick_nil, pick_pos, pick_kw, pick_dfl, eAttr_ap, eMth_ap, eMk_ap, tAttr_ap, pF_some, isNon_non, eDicEn_ap, eRev_ap, List.set_cons_zero, List.set_cons_succ, List.length_cons, List.length_nil, truth_bl, truth_non, not_bl, not_non, tst_if, tstS_if, pBl_some, pD_some, add_int, sub_int, neg_int, lt_int, le_int, gt_int, ge_int, eq_int, ne_int, if_true, Bool.not_true, Bool.not_false, Bool.false_eq_true, if_false, and_self, List.getElem?_cons_zero, List.getElem?_cons_succ, Option.getD_some, Option.bind_some, Option.map_some]
    refine sFor_wp ?_
    rw [rng_ap (e := eVar 1) (n := (n : Nat)) (h1 := h8) rfl (by omega) (by omega), e0]
    refine ⟨rfl, ?_⟩
    refine forL_wp (fun j σ h' => ∃ o5 o6 o7 o8, σ = [some (.ref y), some (.int (n : Nat)), some (.ref er), some (.ref a), some (.int (i : Nat)), o5, o6, o7, o8] ∧ Fr [] h7 h') (fun _ _ _ _ => rfl) ?_ ?_ ⟨_, _, _, _, rfl, fr8⟩
    · rintro j x σ h9 hx ⟨p5, p6, p7, p8, rfl, fr9⟩
      obtain ⟨hj, rfl⟩ := nat_of hx
      have S9 := S7.fr0 fr9
      have ea9 := fr9.get _ _ (by simp) ea7
      have g1 := mk.get1 (o := eVar 3) (arg := eTup [(eVar 4), (eVar 5)]) (σ := [some (.ref y), some (.int (n : Nat)), some (.ref er), some (.ref a), some (.int (i : Nat)), some (.int (j : Nat)), p6, p7, p8]) (h := h9) (a := a) (u := i) (v := j) rfl ea9 rfl
      have g2 := mk.get1 (o := eVar 3) (arg := eTup [(eVar 5), (eVar 4)]) (σ := [some (.ref y), some (.int (n : Nat)), some (.ref er), some (.ref a), some (.int (i : Nat)), some (.int (j : Nat)), some (optD (dist1 E n i j)), p7, p8]) (h := h9) (a := a) (u := j) (v := i) rfl ea9 rfl
      rw [fd i j hi] at g1
      rw [fd j i hj] at g2
      unfold b21_4b_0b
      simp only [wpR_ok, wpR_bind, wpS_stm, wpS_seq, wpS_nx, wpS_rt, wpR_res, wpR_noExc, eConst_ap, eVar_z, eVar_s, eBin_ap, eUn_ap, eAnd_ap, eOr_ap, eIf_ap, eCmp_ap, eChain_ap, eArgs_nil, eArgs_cons, eTup_ap, eLst_wp, eItem_ap, eEnd_none, eEnd_some, toI_int, eSlice_ap, eBF_ap, eCall_ap, eCallK_ap, eIsI_ap, sPass_ap, sExpr_ap, sRet_ap, sRetN_ap, sAsg_ap, sIf_ap, sSeq_ap, tName_ap, tEach_nil, tEach_cons, tTup_ap, tItem_ap, pick_nil, pick_pos, pick_kw, pick_dfl, eAttr_ap, eMth_ap, eMk_ap, tAttr_ap, pF_some, isNon_non, eDicEn_ap, eRev_ap, List.set_cons_zero, List.set_cons_succ, List.length_cons, List.length_nil, truth_bl, truth_non, not_bl, not_non, tst_if, tstS_if, pBl_some, pD_some, add_int, sub_int, neg_int, lt_int, le_int, gt_int, ge_int, eq_int, ne_int, if_true, Bool.not_true, Bool.not_false, Bool.false_eq_true, if_false, and_self, List.getElem?_cons_zero, List.getElem?_cons_succ, Option.getD_some, Option.bind_some, Option.map_some, g1]
      unfold b21_4b_0b_1
      simp only [wpR_ok, wpR_bind, wpS_stm, wpS_seq, wpS_nx, wpS_rt, wpR_res, wpR_noExc, eConst_ap, eVar_z, eVar_s, eBin_ap, eUn_ap, eAnd_ap, eOr_ap, eIf_ap, eCmp_ap, eChain_ap, eArgs_nil, eArgs_cons, eTup_ap, eLst_wp, eItem_ap, eEnd_none, eEnd_some, toI_int, eSlice_ap, eBF_ap, eCall_ap, eCallK_ap, eIsI_ap, sPass_ap, sExpr_ap, sRet_ap, sRetN_ap, sAsg_ap, sIf_ap, sSeq_ap, tName_ap, tEach_nil, tEach_cons, tTup_ap, tItem_ap, pick_nil, pick_pos, pick_kw, pick_dfl, eAttr_ap, eMth_ap, eMk_ap, tAttr_ap, pF_some, isNon_non, eDicEn_ap, eRev_ap, List.set_cons_zero, List.set_cons_succ, List.length_cons, List.length_nil, truth_bl, truth_non, not_bl, not_non, tst_if, tstS_if, pBl_some, pD_some, add_int, sub_int, neg_int, lt_int, le_int, gt_int, ge_int, eq_int, ne_int, if_true, Bool.not_true, Bool.not_false, Bool.false_eq_true, if_false, and_self, List.getElem?_cons_zero, List.getElem?_cons_succ, Option.getD_some, Option.bind_some, Option.map_some, g2]
      unfold b21_4b_0b_2
      have ng := neg_o (dist1 E n j i) h9 [some (.ref y), some (.int (n : Nat)), some (.ref er), some (.ref a), some (.int (i : Nat)), some (.int (j : Nat)), some (optD (dist1 E n i j)), some (optD (dist1 E n j i)), p8] 7
      simp only [sSeq_ap, wpS_seq, sAsg_ap, wpS_stm, wpR_bind]
      refine ng _ rfl ?_
      simp only [wpR_ok, wpR_bind, wpS_stm, wpS_seq, wpS_nx, wpS_rt, wpR_res, wpR_noExc, eConst_ap, eVar_z, eVar_s, eBin_ap, eUn_ap, eAnd_ap, eOr_ap, eIf_ap, eCmp_ap, eChain_ap, eArgs_nil, eArgs_cons, eTup_ap, eLst_wp, eItem_ap, eEnd_none, eEnd_some, toI_int, eSlice_ap, eBF_ap, eCall_ap, eCallK_ap, eIsI_ap, sPass_ap, sExpr_ap, sRet_ap, sRetN_ap, sAsg_ap, sIf_ap, sSeq_ap, tName_ap, tEach_nil, tEach_cons, tTup_ap, tItem_ap, pick_nil, pick_pos, pick_kw, pick_dfl, eAttr_ap, eMth_ap, eMk_ap, tAttr_ap, pF_some, isNon_non, eDicEn_ap, eRev_ap, List.set_cons_zero, List.set_cons_succ, List.length_cons, List.length_nil, truth_bl, truth_non, not_bl, not_non, tst_if, tstS_if, pBl_some, pD_some, add_int, sub_int, neg_int, lt_int, le_int, gt_int, ge_int, eq_int, ne_int, if_true, Bool.not_true, Bool.not_false, Bool.false_eq_true, if_false, and_self, List.getElem?_cons_zero, List.getElem?_cons_succ, Option.getD_some, Option.bind_some, Option.map_some]
      unfold b21_4b_0b_3
      simp only [wpR_ok, wpR_bind, wpS_stm, wpS_seq, wpS_nx, wpS_rt, wpR_res, wpR_noExc, eConst_ap, eVar_z, eVar_s, eBin_ap, eUn_ap, eAnd_ap, eOr_ap, eIf_ap, eCmp_ap, eChain_ap, eArgs_nil, eArgs_cons, eTup_ap, eLst_wp, eItem_ap, eEnd_none, eEnd_some, toI_int, eSlice_ap, eBF_ap, eCall_ap, eCallK_ap, eIsI_ap, sPass_ap, sExpr_ap, sRet_ap, sRetN_ap, sAsg_ap, sIf_ap, sSeq_ap, tName_ap, tEach_nil, tEach_cons, tTup_ap, tItem_ap, pick_nil, pick_pos, pick_kw, pick_dfl, eAttr_ap, eMth_ap, eMk_ap, tAttr_ap, pF_some, isNon_non, eDicEn_ap, eRev_ap, List.set_cons_zero, List.set_cons_succ, List.length_cons, List.length_nil, truth_bl, truth_non, not_bl, not_non, tst_if, tstS_if, pBl_some, pD_some, add_int, sub_int, neg_int, lt_int, le_int, gt_int, ge_int, eq_int, ne_int, if_true, Bool.not_true, Bool.not_false, Bool.false_eq_true, if_false, and_self, List.getElem?_cons_zero, List.getElem?_cons_succ, Option.getD_some, Option.bind_some, Option.map_some, mcls_ref S9.y f14, m14]
      refine ub_wp (k := 3) dc.toDcT2 t11 S9 hi hj (by omega) (by omega) fun h10 fr10 => ?_
      have S10 := S9.fr0 fr10
      have b1 : ∀ x, dist1 E n i j = some x → x.natAbs < 10 ^ 60 := dist_bnd bE n2 (by omega) j
      have b2 : ∀ x, (dist1 E n j i).map (- ·) = some x → x.natAbs < 10 ^ 60 := fun x hxx => by
        obtain ⟨z, h1, h2⟩ := Option.map_eq_some_iff.mp hxx
        have := dist_bnd bE n2 (by omega) i z h1
        omega
      refine same (k := 5) (repr_o h10 b1) (repr_o h10 b1) ?_
      simp only [wpR_ok, wpR_bind, wpS_stm, wpS_seq, wpS_nx, wpS_rt, wpR_res, wpR_noExc, eConst_ap, eVar_z, eVar_s, eBin_ap, eUn_ap, eAnd_ap, eOr_ap, eIf_ap, eCmp_ap, eChain_ap, eArgs_nil, eArgs_cons, eTup_ap, eLst_wp, eItem_ap, eEnd_none, eEnd_some, toI_int, eSlice_ap, eBF_ap, eCall_ap, eCallK_ap, eIsI_ap, sPass_ap, sExpr_ap, sRet_ap, sRetN_ap, sAsg_ap, sIf_ap, sSeq_ap, tName_ap, tEach_nil, tEach_cons, tTup_ap, tItem_ap, pick_nil, pick_pos, pick_kw, pick_dfl, eAttr_ap, eMth_ap, eMk_ap, tAttr_ap, pF_some, isNon_non, eDicEn_ap, eRev_ap, List.set_cons_zero, List.set_cons_succ, List.length_cons, List.length_nil, truth_bl, truth_non, not_bl, not_non, tst_if, tstS_if, pBl_some, pD_some, add_int, sub_int, neg_int, lt_int, le_int, gt_int, ge_int, eq_int, ne_int, if_true, Bool.not_true, Bool.not_false, Bool.false_eq_true, if_false, and_self, List.getElem?_cons_zero, List.getElem?_cons_succ, Option.getD_some, Option.bind_some, Option.map_some]
      unfold b21_4b_0b_4
      simp only [wpR_ok, wpR_bind, wpS_stm, wpS_seq, wpS_nx, wpS_rt, wpR_res, wpR_noExc, eConst_ap, eVar_z, eVar_s, eBin_ap, eUn_ap, eAnd_ap, eOr_ap, eIf_ap, eCmp_ap, eChain_ap, eArgs_nil, eArgs_cons, eTup_ap, eLst_wp, eItem_ap, eEnd_none, eEnd_some, toI_int, eSlice_ap, eBF_ap, eCall_ap, eCallK_ap, eIsI_ap, sPass_ap, sExpr_ap, sRet_ap, sRetN_ap, sAsg_ap, sIf_ap, sSeq_ap, tName_ap, tEach_nil, tEach_cons, tTup_ap, tItem_ap, pick_nil, pick_pos, pick_kw, pick_dfl, eAttr_ap, eMth_ap, eMk_ap, tAttr_ap, pF_some, isNon_non, eDicEn_ap, eRev_ap, List.set_cons_zero, List.set_cons_succ, List.length_cons, List.length_nil, truth_bl, truth_non, not_bl, not_non, tst_if, tstS_if, pBl_some, pD_some, add_int, sub_int, neg_int, lt_int, le_int, gt_int, ge_int, eq_int, ne_int, if_true, Bool.not_true, Bool.not_false, Bool.false_eq_true, if_false, and_self, List.getElem?_cons_zero, List.getElem?_cons_succ, Option.getD_some, Option.bind_some, Option.map_some, mcls_ref S10.y f6, m6]
      refine lo_wp (k := 3) dc.toDcT2 t12 S10 hi hj (by omega) (by omega) fun h11 fr11 => ?_
      refine same (k := 5) (repr_o h11 b2) (repr_o h11 b2) ?_
      simp only [wpR_ok, wpR_bind, wpS_stm, wpS_seq, wpS_nx, wpS_rt, wpR_res, wpR_noExc, eConst_ap, eVar_z, eVar_s, eBin_ap, eUn_ap, eAnd_ap, eOr_ap, eIf_ap, eCmp_ap, eChain_ap, eArgs_nil, eArgs_cons, eTup_ap, eLst_wp, eItem_ap, eEnd_none, eEnd_some, toI_int, eSlice_ap, eBF_ap, eCall_ap, eCallK_ap, eIsI_ap, sPass_ap, sExpr_ap, sRet_ap, sRetN_ap, sAsg_ap, sIf_ap, sSeq_ap, tName_ap, tEach_nil, tEach_cons, tTup_ap, tItem_ap, pick_nil, pick_pos, pick_kw, pick_dfl, eAttr_ap, eMth_ap, eMk_ap, tAttr_ap, pF_some, isNon_non, eDicEn_ap, eRev_ap, List.set_cons_zero, List.set_cons_succ, List.length_cons, List.length_nil, truth_bl, truth_non, not_bl, not_non, tst_if, tstS_if, pBl_some, pD_some, add_int, sub_int, neg_int, lt_int, le_int, gt_int, ge_int, eq_int, ne_int, if_true, Bool.not_true, Bool.not_false, Bool.false_eq_true, if_false, and_self, List.getElem?_cons_zero, List.getElem?_cons_succ, Option.getD_some, Option.bind_some, Option.map_some]
      exact ⟨_, _, _, _, rfl, (fr9.trans fr10).trans fr11⟩
    · rintro σ h9 ⟨p5, p6, p7, p8, rfl, fr9⟩
      exact ⟨_, _, _, _, _, rfl, fr9⟩
  · rintro σ h8 ⟨p4, p5, p6, p7, p8, rfl, fr8⟩
    have S8 := S7.fr0 fr8
    have ee8 := (f07.trans fr8).get _ _ (by simp) ee
    unfold b21_5
    simp only [wpR_ok, wpR_bind, wpS_stm, wpS_seq, wpS_nx, wpS_rt, wpR_res, wpR_noExc, eConst_ap, eVar_z, eVar_s, eBin_ap, eUn_ap, eAnd_ap, eOr_ap, eIf_ap, eCmp_ap, eChain_ap, eArgs_nil, eArgs_cons, eTup_ap, eLst_wp, eItem_ap, eEnd_none, eEnd_some, toI_int, eSlice_ap, eBF_ap, eCall_ap, eCallK_ap, eIsI_ap, sPass_ap, sExpr_ap, sRet_ap, sRetN_ap, sAsg_ap, sIf_ap, sSeq_ap, tName_ap, tEach_nil, tEach_cons, tTup_ap, tItem_ap, pick_nil, pick_pos, pick_kw, pick_dfl, eAttr_ap, eMth_ap, eMk_ap, tAttr_ap, pF_some, isNon_non, eDicEn_ap, eRev_ap, List.set_cons_zero, List.set_cons_succ, List.length_cons, List.length_nil, truth_bl, truth_non, not_bl, not_non, tst_if, tstS_if, pBl_some, pD_some, add_int, sub_int, neg_int, lt_int, le_int, gt_int, ge_int, eq_int, ne_int, if_true, Bool.not_true, Bool.not_false, Bool.false_eq_true, if_false, and_self, List.getElem?_cons_zero, List.getElem?_cons_succ, Option.getD_some, Option.bind_some, Option.map_some, mcls_ref S8.y f3, m3]
    refine cons_wp (k := 5) dc5 S8 fun b9 h9 e9 fr9 l9 => ?_
    exact same (k := 5) (repr_es e9 vE bE n2 (by omega)) (repr_es (fr9.get _ _ (by simp) ee8) vE bE n2 (by omega)) (q h9 ((f07.trans fr8).trans fr9))
end K21

set_option maxRecDepth 100000
set_option maxHeartbeats 1000000
namespace K21
open PySem Ev
def chE : List Bf.Edge := (List.range 59).map fun k => (58 - k, 59 - k, 3)
def chX (w : Int) : List Bf.Edge := chE ++ [(59, 0, w)]
theorem ch_mem {e : Bf.Edge} (h : e ∈ chE) : ∃ k, k < 59 ∧ e = (k, k + 1, 3) := by
  obtain ⟨k, hk, rfl⟩ := List.mem_map.mp h
  have hk := List.mem_range.mp hk
  exact ⟨58 - k, by omega, by
    have : 59 - k = 58 - k + 1 := by omega
    rw [this]⟩
theorem mem_ch {k : Nat} (h : k < 59) : (k, k + 1, (3 : Int)) ∈ chE := List.mem_map.mpr ⟨58 - k, List.mem_range.mpr (by omega), by
  have h1 : 58 - (58 - k) = k := by omega
  have h2 : 59 - (58 - k) = k + 1 := by omega
  rw [h1, h2]⟩
theorem chX_mem {w : Int} {e : Bf.Edge} (h : e ∈ chX w) : (∃ k, k < 59 ∧ e = (k, k + 1, 3)) ∨ e = (59, 0, w) := by
  rcases List.mem_append.mp h with h | h
  · exact .inl (ch_mem h)
  · exact .inr (List.mem_singleton.mp h)
theorem ve_ch : VE chE 60 := fun e he => by
  obtain ⟨k, hk, rfl⟩ := ch_mem he
  exact ⟨by show k < 60; omega, by show k + 1 < 60; omega⟩
theorem ve_chX (w : Int) : VE (chX w) 60 := fun e he => by
  rcases chX_mem he with ⟨k, hk, rfl⟩ | rfl
  · exact ⟨by show k < 60; omega, by show k + 1 < 60; omega⟩
  · exact ⟨by show 59 < 60; decide, by show 0 < 60; decide⟩
theorem len_ch : chE.length = 59 := by unfold chE; rw [List.length_map, List.length_range]
theorem len_chX (w : Int) : (chX w).length = 60 := by unfold chX; rw [List.length_append, len_ch]; rfl
theorem ch_walk {E : List Bf.Edge} (hE : ∀ k, k < 59 → (k, k + 1, (3 : Int)) ∈ E) (u : Nat) : ∀ m : Nat, u + m ≤ 59 → ∃ l, Bf.Walk E u (u + m) l ∧ Bf.wt l = 3 * (m : Int)
  | 0, _ => ⟨[], rfl, rfl⟩
  | m + 1, h => by
    obtain ⟨l, w, e⟩ := ch_walk hE u m (by omega)
    refine ⟨l ++ [(u + m, u + m + 1, 3)], w.append ⟨hE _ (by omega), rfl, rfl⟩, ?_⟩
    rw [Bf.wt_append, e]
    show 3 * (m : Int) + (3 + 0) = 3 * ((m + 1 : Nat) : Int)
    omega
theorem pot_walk {E : List Bf.Edge} (p : Nat → Int) (h : ∀ e ∈ E, e.2.2 = p e.2.1 - p e.1) : ∀ (l : List Bf.Edge) (u v : Nat), Bf.Walk E u v l → Bf.wt l = p v - p u
  | [], u, v, w => by
    have : u = v := w
    subst this
    show (0 : Int) = p u - p u
    omega
  | e :: r, u, v, w => by
    obtain ⟨he, hs, w2⟩ := w
    have h1 := h e he
    have h2 := pot_walk p h r _ v w2
    subst hs
    show e.2.2 + Bf.wt r = _
    omega
theorem dist_pot {E : List Bf.Edge} {n s t : Nat} {x : Int} (p : Nat → Int) (h : ∀ e ∈ E, e.2.2 = p e.2.1 - p e.1) (hx : dist1 E n s t = some x) : x = p t - p s := by
  have f : Bf.From E (sst s).d (dist1 E n s) := Bf.relax_from n (sst s) fun v y hy => ⟨v, y, [], hy, rfl, by show y = y + 0; omega⟩
  obtain ⟨u, a, l, ha, w, e⟩ := f t x hx
  have ha : Bf.put (fun _ => none) s (0 : Int) u = some a := ha
  unfold Bf.put at ha
  split at ha
  · rename_i z
    cases ha
    rw [z] at w
    have := pot_walk p h l s t w
    omega
  · cases ha
def p3 (v : Nat) : Int := 3 * (v : Int)
theorem pot_ch : ∀ e ∈ chE, e.2.2 = p3 e.2.1 - p3 e.1 := fun e he => by
  obtain ⟨k, hk, rfl⟩ := ch_mem he
  show (3 : Int) = 3 * ((k + 1 : Nat) : Int) - 3 * (k : Int)
  omega
theorem pot_chX : ∀ e ∈ chX (-177), e.2.2 = p3 e.2.1 - p3 e.1 := fun e he => by
  rcases chX_mem he with ⟨k, hk, rfl⟩ | rfl
  · show (3 : Int) = 3 * ((k + 1 : Nat) : Int) - 3 * (k : Int)
    omega
  · rfl
theorem nn_ch : Bf.NoNeg chE := Bf.noneg_of p3 fun e he => by have := pot_ch e he; omega
theorem nn_chX : Bf.NoNeg (chX (-177)) := Bf.noneg_of p3 fun e he => by have := pot_chX e he; omega
theorem dist_some {E : List Bf.Edge} {n s t : Nat} (vE : VE E n) (nN : Bf.NoNeg E) (hs : s < n) {l : List Bf.Edge} (w : Bf.Walk E s t l) : ∃ x, dist1 E n s t = some x := by
  obtain ⟨y, y1, _⟩ := (dist1_tidy vE nN hs).walk w (dist1_self nN hs)
  exact ⟨y, y1⟩
theorem d_0_59 : dist1 chE 60 0 59 = some 177 := by
  obtain ⟨l, w, _⟩ := ch_walk (E := chE) (fun k hk => mem_ch hk) 0 59 (by decide)
  obtain ⟨x, hx⟩ := dist_some ve_ch nn_ch (by decide) w
  have hx : dist1 chE 60 0 59 = some x := hx
  rw [hx, dist_pot p3 pot_ch hx]
  rfl
theorem d_59_0 : dist1 chE 60 59 0 = none := by
  cases h : dist1 chE 60 59 0 with
  | none => rfl
  | some x =>
    have e1 : x = p3 0 - p3 59 := dist_pot p3 pot_ch h
    have e2 : p3 0 - p3 59 = -177 := rfl
    have f : Bf.From chE (sst 59).d (dist1 chE 60 59) := Bf.relax_from 60 (sst 59) fun v y hy => ⟨v, y, [], hy, rfl, by show y = y + 0; omega⟩
    obtain ⟨u, a, l, ha, w, e⟩ := f 0 x h
    have ha : Bf.put (fun _ => none) 59 (0 : Int) u = some a := ha
    have nn : ∀ (l : List Bf.Edge) (u v : Nat), Bf.Walk chE u v l → 0 ≤ Bf.wt l := fun l => by
      induction l with
      | nil => intro _ _ _; exact Int.le_refl 0
      | cons e r ih =>
        intro u v w
        obtain ⟨k, _, he⟩ := ch_mem w.1
        have := ih _ _ w.2.2
        show 0 ≤ e.2.2 + Bf.wt r
        rw [he]
        show 0 ≤ 3 + Bf.wt r
        omega
    have := nn l u 0 w
    unfold Bf.put at ha
    split at ha
    · cases ha; omega
    · cases ha
theorem d_58_0 : dist1 (chX (-177)) 60 58 0 = some (-174) := by
  have w : Bf.Walk (chX (-177)) 58 0 [(58, 59, 3), (59, 0, -177)] := ⟨List.mem_append.mpr (.inl (mem_ch (k := 58) (by decide))), rfl, List.mem_append.mpr (.inr (List.mem_singleton.mpr rfl)), rfl, rfl⟩
  obtain ⟨x, hx⟩ := dist_some (ve_chX _) nn_chX (by decide) w
  rw [hx, dist_pot p3 pot_chX hx]
  rfl
theorem neg_chX : (Bf.relax (chX (-178)) 60 (zst 60)).c ≠ none := fun hc => by
  have t := Bf.relax_tidy 60 (zst 60) (by decide) hc
  obtain ⟨y, hy⟩ : ∃ y, (Bf.relax (chX (-178)) 60 (zst 60)).d 0 = some y := Option.isSome_iff_exists.mp (Bf.relax_keep (E := chX (-178)) 60 (zst 60) (by rfl))
  obtain ⟨l, w, e⟩ := ch_walk (E := chX (-178)) (fun k hk => List.mem_append.mpr (.inl (mem_ch hk))) 0 59 (by decide)
  have w2 : Bf.Walk (chX (-178)) 0 0 (l ++ [(59, 0, -178)]) := w.append ⟨List.mem_append.mpr (.inr (List.mem_singleton.mpr rfl)), rfl, rfl⟩
  obtain ⟨z, z1, z2⟩ := t.walk w2 hy
  rw [hy] at z1
  cases z1
  rw [Bf.wt_append, e] at z2
  have : Bf.wt [((59, 0, -178) : Bf.Edge)] = -178 := rfl
  rw [this] at z2
  omega
/-! ### the walk -/
theorem ne_ii (i j : Int) (h : Hh) : cmpop .NotEq (.int i) (.int j) h = some (!(i == j)) := rfl
theorem chain {h : Hh} {Q : D → Hh → Prop} (q : ∀ h', Fr [] h h' → Q (.bl true) h') : wpR (C 7 22 [] h) Q := by
  have chD : (List.range 59).map (fun k : Nat => (D.tup [.int (58 + (k : Int) * -1), .int (58 + (k : Int) * -1 + 1), .int 3])) = chE.map edD := by
    unfold chE
    rw [List.map_map]
    refine List.map_congr_left fun k hk => ?_
    have hk := List.mem_range.mp hk
    show _ = D.tup [.int ((58 - k : Nat) : Int), .int ((59 - k : Nat) : Int), .int 3]
    have h1 : 58 + (k : Int) * -1 = ((58 - k : Nat) : Int) := by omega
    have h2 : 58 + (k : Int) * -1 + 1 = ((59 - k : Nat) : Int) := by omega
    rw [h2, h1]
  have sys : ∀ {E : List Bf.Edge} {h : Hh} {a : Nat} {Q' : D → Hh → Prop}, h[a]? = some (.lst false (E.map edD)) → VE E 60 → E.length ≤ 100 → (∀ y e oc h', Sys h' y e oc 60 E → Fr [] h h' → Q' (.ref y) h') → wpR (alloc (.ins 0 []) h) (fun y h1 => wpR (C 6 3 [y, .int 60, .ref a] h1) fun r h2 => wpR (isNon r y h2) Q') := fun {E h a Q'} ea vE lE q' => by
    refine alloc_wp fun y h1 ey fr1 ly => ?_
    refine init_wp (k := 2) (n := 60) dc.toDcT ey (fr1.get _ _ (by simp) ea) (by decide) (by decide) (by omega) vE fun h2 e oc S fr2 le lc => ?_
    simp only [wpR_ok, wpR_bind, wpS_stm, wpS_seq, wpS_nx, wpS_rt, wpR_res, wpR_noExc, eConst_ap, eVar_z, eVar_s, eBin_ap, eUn_ap, eAnd_ap, eOr_ap, eIf_ap, eCmp_ap, eChain_ap, eArgs_nil, eArgs_cons, eTup_ap, eLst_wp, eItem_ap, eEnd_none, eEnd_some, toI_int, eSlice_ap, eBF_ap, eCall_ap, eCallK_ap, eIsI_ap, sPass_ap, sExpr_ap, sRet_ap, sRetN_ap, sAsg_ap, sIf_ap, sSeq_ap, tName_ap, tEach_nil, tEach_cons, tTup_ap, tItem_ap, pick_nil, pick_pos, pick_kw, pick_dfl, eAttr_ap, eMth_ap, eMk_ap, tAttr_ap, pF_some, isNon_non, eDicEn_ap, eRev_ap, List.set_cons_zero, List.set_cons_succ, List.length_cons, List.length_nil, truth_bl, truth_non, not_bl, not_non, tst_if, tstS_if, pBl_some, pD_some, add_int, sub_int, neg_int, lt_int, le_int, gt_int, ge_int, eq_int, ne_int, if_true, Bool.not_true, Bool.not_false, Bool.false_eq_true, if_false, and_self, List.getElem?_cons_zero, List.getElem?_cons_succ, Option.getD_some, Option.bind_some, Option.map_some]
    exact q' y e oc h2 S (fr1.then fr2 fun j hj => by simp at hj; exact .inr (by omega))
  rw [C, u22]
  unfold b22
  simp only [wpR_ok, wpR_bind, wpS_stm, wpS_seq, wpS_nx, wpS_rt, wpR_res, wpR_noExc, eConst_ap, eVar_z, eVar_s, eBin_ap, eUn_ap, eAnd_ap, eOr_ap, eIf_ap, eCmp_ap, eChain_ap, eArgs_nil, eArgs_cons, eTup_ap, eLst_wp, eItem_ap, eEnd_none, eEnd_some, toI_int, eSlice_ap, eBF_ap, eCall_ap, eCallK_ap, eIsI_ap, sPass_ap, sExpr_ap, sRet_ap, sRetN_ap, sAsg_ap, sIf_ap, sSeq_ap, tName_ap, tEach_nil, tEach_cons, tTup_ap, tItem_ap, pick_nil, pick_pos, pick_kw, pick_dfl, eAttr_ap, eMth_ap, eMk_ap, tAttr_ap, pF_some, isNon_non, eDicEn_ap, eRev_ap, List.set_cons_zero, List.set_cons_succ, List.length_cons, List.length_nil, truth_bl, truth_non, not_bl, not_non, tst_if, tstS_if, pBl_some, pD_some, add_int, sub_int, neg_int, lt_int, le_int, gt_int, ge_int, eq_int, ne_int, if_true, Bool.not_true, Bool.not_false, Bool.false_eq_true, if_false, and_self, List.getElem?_cons_zero, List.getElem?_cons_succ, Option.getD_some, Option.bind_some, Option.map_some]
  have rE : iRange [(eConst (.int 58)), (eUn .USub (eConst (.int 1))), (eUn .USub (eConst (.int 1)))] [none, none, none] h = .ok ⟨(List.range 59).map fun k => .int (58 + ((k : Nat) : Int) * -1), none, none⟩ h := rfl
  refine eLc_wp ?_
  rw [rE]
  refine ⟨rfl, by rw [List.length_map, List.length_range, lmE]; decide, ?_⟩
  refine lcLoop_wp (fun i acc h' => acc = ((List.range 59).take i).map (fun k : Nat => (D.tup [.int (58 + (k : Int) * -1), .int (58 + (k : Int) * -1 + 1), .int 3])) ∧ h' = h) (fun _ _ _ _ => rfl) ?_ ?_ ⟨rfl, rfl⟩
  · rintro i x acc h' hx ⟨rfl, rfl⟩
    rw [List.getElem?_map] at hx
    obtain ⟨k, hk, rfl⟩ := Option.map_eq_some_iff.mp hx
    have ew : wipeD [none, none, none] [2] = [none, none, none] := rfl
    rw [ew]
    simp only [wpR_ok, wpR_bind, wpS_stm, wpS_seq, wpS_nx, wpS_rt, wpR_res, wpR_noExc, eConst_ap, eVar_z, eVar_s, eBin_ap, eUn_ap, eAnd_ap, eOr_ap, eIf_ap, eCmp_ap, eChain_ap, eArgs_nil, eArgs_cons, eTup_ap, eLst_wp, eItem_ap, eEnd_none, eEnd_some, toI_int, eSlice_ap, eBF_ap, eCall_ap, eCallK_ap, eIsI_ap, sPass_ap, sExpr_ap, sRet_ap, sRetN_ap, sAsg_ap, sIf_ap, sSeq_ap, tName_ap, tEach_nil, tEach_cons, tTup_ap, tItem_ap, pick_nil, pick_pos, pick_kw, pick_dfl, eAttr_ap, eMth_ap, eMk_ap, tAttr_ap, pF_some, isNon_non, eDicEn_ap, eRev_ap, List.set_cons_zero, List.set_cons_succ, List.length_cons, List.length_nil, truth_bl, truth_non, not_bl, not_non, tst_if, tstS_if, pBl_some, pD_some, add_int, sub_int, neg_int, lt_int, le_int, gt_int, ge_int, eq_int, ne_int, if_true, Bool.not_true, Bool.not_false, Bool.false_eq_true, if_false, and_self, List.getElem?_cons_zero, List.getElem?_cons_succ, Option.getD_some, Option.bind_some, Option.map_some]
    refine ⟨true, rfl, fun _ => ?_, fun z => by cases z⟩
    rw [List.take_add_one, hk, List.map_append]
    exact ⟨rfl, trivial⟩
  · rintro acc h' ⟨rfl, rfl⟩
    rw [List.length_map, List.length_range, List.take_of_length_le (by rw [List.length_range]; decide), chD]
    refine alloc_wp fun b h1 eb fr1 lb => ?_
    unfold b22_1
    simp only [wpR_ok, wpR_bind, wpS_stm, wpS_seq, wpS_nx, wpS_rt, wpR_res, wpR_noExc, eConst_ap, eVar_z, eVar_s, eBin_ap, eUn_ap, eAnd_ap, eOr_ap, eIf_ap, eCmp_ap, eChain_ap, eArgs_nil, eArgs_cons, eTup_ap, eLst_wp, eItem_ap, eEnd_none, eEnd_some, toI_int, eSlice_ap, eBF_ap, eCall_ap, eCallK_ap, eIsI_ap, sPass_ap, sExpr_ap, sRet_ap, sRetN_ap, sAsg_ap, sIf_ap, sSeq_ap, tName_ap, tEach_nil, tEach_cons, tTup_ap, tItem_ap, pick_nil, pick_pos, pick_kw, pick_dfl, eAttr_ap, eMth_ap, eMk_ap, tAttr_ap, pF_some, isNon_non, eDicEn_ap, eRev_ap, List.set_cons_zero, List.set_cons_succ, List.length_cons, List.length_nil, truth_bl, truth_non, not_bl, not_non, tst_if, tstS_if, pBl_some, pD_some, add_int, sub_int, neg_int, lt_int, le_int, gt_int, ge_int, eq_int, ne_int, if_true, Bool.not_true, Bool.not_false, Bool.false_eq_true, if_false, and_self, List.getElem?_cons_zero, List.getElem?_cons_succ, Option.getD_some, Option.bind_some, Option.map_some]
    refine sys eb ve_ch (by rw [len_ch]; decide) fun y e oc h2 S fr2 => ?_
    have ocn : oc = .non := by
      rcases S.cyc with ⟨z, _⟩ | ⟨_, z⟩
      · exact z
      · exact absurd (Bf.conv ve_ch nn_ch (zer_dom 60 _)) z
    subst ocn
    have f14 : fget [(2, D.int ((60 : Nat) : Int)), (1, .ref e), (0, .non)] 14 = none := rfl
    have f6 : fget [(2, D.int ((60 : Nat) : Int)), (1, .ref e), (0, .non)] 6 = none := rfl
    unfold b22_2
    simp only [wpR_ok, wpR_bind, wpS_stm, wpS_seq, wpS_nx, wpS_rt, wpR_res, wpR_noExc, eConst_ap, eVar_z, eVar_s, eBin_ap, eUn_ap, eAnd_ap, eOr_ap, eIf_ap, eCmp_ap, eChain_ap, eArgs_nil, eArgs_cons, eTup_ap, eLst_wp, eItem_ap, eEnd_none, eEnd_some, toI_int, eSlice_ap, eBF_ap, eCall_ap, eCallK_ap, eIsI_ap, sPass_ap, sExpr_ap, sRet_ap, sRetN_ap, sAsg_ap, sIf_ap, sSeq_ap, tName_ap, tEach_nil, tEach_cons, tTup_ap, tItem_ap, pick_nil, pick_pos, pick_kw, pick_dfl, eAttr_ap, eMth_ap, eMk_ap, tAttr_ap, pF_some, isNon_non, eDicEn_ap, eRev_ap, List.set_cons_zero, List.set_cons_succ, List.length_cons, List.length_nil, truth_bl, truth_non, not_bl, not_non, tst_if, tstS_if, pBl_some, pD_some, add_int, sub_int, neg_int, lt_int, le_int, gt_int, ge_int, eq_int, ne_int, if_true, Bool.not_true, Bool.not_false, Bool.false_eq_true, if_false, and_self, List.getElem?_cons_zero, List.getElem?_cons_succ, Option.getD_some, Option.bind_some, Option.map_some, mcls_ref S.y f14, m14]
    refine ub_wp (k := 3) (s := 0) (t := 59) dc.toDcT2 t11 S (by decide) (by decide) (by decide) (by rw [len_ch]; decide) fun h3 fr3 => ?_
    have S3 := S.fr0 fr3
    rw [d_0_59]
    simp only [wpR_ok, wpR_bind, wpS_stm, wpS_seq, wpS_nx, wpS_rt, wpR_res, wpR_noExc, eConst_ap, eVar_z, eVar_s, eBin_ap, eUn_ap, eAnd_ap, eOr_ap, eIf_ap, eCmp_ap, eChain_ap, eArgs_nil, eArgs_cons, eTup_ap, eLst_wp, eItem_ap, eEnd_none, eEnd_some, toI_int, eSlice_ap, eBF_ap, eCall_ap, eCallK_ap, eIsI_ap, sPass_ap, sExpr_ap, sRet_ap, sRetN_ap, sAsg_ap, sIf_ap, sSeq_ap, tName_ap, tEach_nil, tEach_cons, tTup_ap, tItem_ap, pick_nil, pick_pos, pick_kw, pick_dfl, eAttr_ap, eMth_ap, eMk_ap, tAttr_ap, pF_some, isNon_non, eDicEn_ap, eRev_ap, List.set_cons_zero, List.set_cons_succ, List.length_cons, List.length_nil, truth_bl, truth_non, not_bl, not_non, tst_if, tstS_if, pBl_some, pD_some, add_int, sub_int, neg_int, lt_int, le_int, gt_int, ge_int, eq_int, ne_int, if_true, Bool.not_true, Bool.not_false, Bool.false_eq_true, if_false, and_self, List.getElem?_cons_zero, List.getElem?_cons_succ, Option.getD_some, Option.bind_some, Option.map_some, optD]
    have z1 : (!((177 : Int) == 177)) = false := rfl
    have z2 : (!((-177 : Int) == -177)) = false := rfl
    simp only [wpR_ok, wpR_bind, wpS_stm, wpS_seq, wpS_nx, wpS_rt, wpR_res, wpR_noExc, eConst_ap, eVar_z, eVar_s, eBin_ap, eUn_ap, eAnd_ap, eOr_ap, eIf_ap, eCmp_ap, eChain_ap, eArgs_nil, eArgs_cons, eTup_ap, eLst_wp, eItem_ap, eEnd_none, eEnd_some, toI_int, eSlice_ap, eBF_ap, eCall_ap, eCallK_ap, eIsI_ap, sPass_ap, sExpr_ap, sRet_ap, sRetN_ap, sAsg_ap, sIf_ap, sSeq_ap, tName_ap, tEach_nil, tEach_cons, tTup_ap, tItem_ap, pick_nil, pick_pos, pick_kw, pick_dfl, eAttr_ap, eMth_ap, eMk_ap, tAttr_ap, pF_some, isNon_non, eDicEn_ap, eRev_ap, List.set_cons_zero, List.set_cons_succ, List.length_cons, List.length_nil, truth_bl, truth_non, not_bl, not_non, tst_if, tstS_if, pBl_some, pD_some, add_int, sub_int, neg_int, lt_int, le_int, gt_int, ge_int, eq_int, ne_int, if_true, Bool.not_true, Bool.not_false, Bool.false_eq_true, if_false, and_self, List.getElem?_cons_zero, List.getElem?_cons_succ, Option.getD_some, Option.bind_some, Option.map_some, z1, mcls_ref S3.y f6, m6]
    refine lo_wp (k := 3) (s := 59) (t := 0) dc.toDcT2 t12 S3 (by decide) (by decide) (by decide) (by rw [len_ch]; decide) fun h4 fr4 => ?_
    have S4 := S3.fr0 fr4
    rw [d_0_59]
    simp only [wpR_ok, wpR_bind, wpS_stm, wpS_seq, wpS_nx, wpS_rt, wpR_res, wpR_noExc, eConst_ap, eVar_z, eVar_s, eBin_ap, eUn_ap, eAnd_ap, eOr_ap, eIf_ap, eCmp_ap, eChain_ap, eArgs_nil, eArgs_cons, eTup_ap, eLst_wp, eItem_ap, eEnd_none, eEnd_some, toI_int, eSlice_ap, eBF_ap, eCall_ap, eCallK_ap, eIsI_ap, sPass_ap, sExpr_ap, sRet_ap, sRetN_ap, sAsg_ap, sIf_ap, sSeq_ap, tName_ap, tEach_nil, tEach_cons, tTup_ap, tItem_ap, pick_nil, pick_pos, pick_kw, pick_dfl, eAttr_ap, eMth_ap, eMk_ap, tAttr_ap, pF_some, isNon_non, eDicEn_ap, eRev_ap, List.set_cons_zero, List.set_cons_succ, List.length_cons, List.length_nil, truth_bl, truth_non, not_bl, not_non, tst_if, tstS_if, pBl_some, pD_some, add_int, sub_int, neg_int, lt_int, le_int, gt_int, ge_int, eq_int, ne_int, if_true, Bool.not_true, Bool.not_false, Bool.false_eq_true, if_false, and_self, List.getElem?_cons_zero, List.getElem?_cons_succ, Option.getD_some, Option.bind_some, Option.map_some, optD, z2]
    unfold b22_3
    simp only [wpR_ok, wpR_bind, wpS_stm, wpS_seq, wpS_nx, wpS_rt, wpR_res, wpR_noExc, eConst_ap, eVar_z, eVar_s, eBin_ap, eUn_ap, eAnd_ap, eOr_ap, eIf_ap, eCmp_ap, eChain_ap, eArgs_nil, eArgs_cons, eTup_ap, eLst_wp, eItem_ap, eEnd_none, eEnd_some, toI_int, eSlice_ap, eBF_ap, eCall_ap, eCallK_ap, eIsI_ap, sPass_ap, sExpr_ap, sRet_ap, sRetN_ap, sAsg_ap, sIf_ap, sSeq_ap, tName_ap, tEach_nil, tEach_cons, tTup_ap, tItem_ap, pick_nil, pick_pos, pick_kw, pick_dfl, eAttr_ap, eMth_ap, eMk_ap, tAttr_ap, pF_some, isNon_non, eDicEn_ap, eRev_ap, List.set_cons_zero, List.set_cons_succ, List.length_cons, List.length_nil, truth_bl, truth_non, not_bl, not_non, tst_if, tstS_if, pBl_some, pD_some, add_int, sub_int, neg_int, lt_int, le_int, gt_int, ge_int, eq_int, ne_int, if_true, Bool.not_true, Bool.not_false, Bool.false_eq_true, if_false, and_self, List.getElem?_cons_zero, List.getElem?_cons_succ, Option.getD_some, Option.bind_some, Option.map_some, mcls_ref S4.y f14, m14]
    refine ub_wp (k := 3) (s := 59) (t := 0) dc.toDcT2 t11 S4 (by decide) (by decide) (by decide) (by rw [len_ch]; decide) fun h5 fr5 => ?_
    rw [d_59_0]
    simp only [wpR_ok, wpR_bind, wpS_stm, wpS_seq, wpS_nx, wpS_rt, wpR_res, wpR_noExc, eConst_ap, eVar_z, eVar_s, eBin_ap, eUn_ap, eAnd_ap, eOr_ap, eIf_ap, eCmp_ap, eChain_ap, eArgs_nil, eArgs_cons, eTup_ap, eLst_wp, eItem_ap, eEnd_none, eEnd_some, toI_int, eSlice_ap, eBF_ap, eCall_ap, eCallK_ap, eIsI_ap, sPass_ap, sExpr_ap, sRet_ap, sRetN_ap, sAsg_ap, sIf_ap, sSeq_ap, tName_ap, tEach_nil, tEach_cons, tTup_ap, tItem_ap, pick_nil, pick_pos, pick_kw, pick_dfl, eAttr_ap, eMth_ap, eMk_ap, tAttr_ap, pF_some, isNon_non, eDicEn_ap, eRev_ap, List.set_cons_zero, List.set_cons_succ, List.length_cons, List.length_nil, truth_bl, truth_non, not_bl, not_non, tst_if, tstS_if, pBl_some, pD_some, add_int, sub_int, neg_int, lt_int, le_int, gt_int, ge_int, eq_int, ne_int, if_true, Bool.not_true, Bool.not_false, Bool.false_eq_true, if_false, and_self, List.getElem?_cons_zero, List.getElem?_cons_succ, Option.getD_some, Option.bind_some, Option.map_some, optD, isnot_nn]
    have f15 := ((fr2.trans fr3).trans fr4).trans fr5
    have eb5 := f15.get _ _ (by simp) eb
    have one : ∀ (w : Int), chE.map edD ++ [D.tup [.int 59, .int 0, .int w]] = (chX w).map edD := fun w => by unfold chX; rw [List.map_append]; rfl
    unfold b22_4
    simp only [wpR_ok, wpR_bind, wpS_stm, wpS_seq, wpS_nx, wpS_rt, wpR_res, wpR_noExc, eConst_ap, eVar_z, eVar_s, eBin_ap, eUn_ap, eAnd_ap, eOr_ap, eIf_ap, eCmp_ap, eChain_ap, eArgs_nil, eArgs_cons, eTup_ap, eLst_wp, eItem_ap, eEnd_none, eEnd_some, toI_int, eSlice_ap, eBF_ap, eCall_ap, eCallK_ap, eIsI_ap, sPass_ap, sExpr_ap, sRet_ap, sRetN_ap, sAsg_ap, sIf_ap, sSeq_ap, tName_ap, tEach_nil, tEach_cons, tTup_ap, tItem_ap, pick_nil, pick_pos, pick_kw, pick_dfl, eAttr_ap, eMth_ap, eMk_ap, tAttr_ap, pF_some, isNon_non, eDicEn_ap, eRev_ap, List.set_cons_zero, List.set_cons_succ, List.length_cons, List.length_nil, truth_bl, truth_non, not_bl, not_non, tst_if, tstS_if, pBl_some, pD_some, add_int, sub_int, neg_int, lt_int, le_int, gt_int, ge_int, eq_int, ne_int, if_true, Bool.not_true, Bool.not_false, Bool.false_eq_true, if_false, and_self, List.getElem?_cons_zero, List.getElem?_cons_succ, Option.getD_some, Option.bind_some, Option.map_some]
    refine alloc_wp fun c1 h6 e6 fr6 l6 => ?_
    have eb6 := fr6.get _ _ (by simp) eb5
    simp only [wpR_ok, wpR_bind, wpS_stm, wpS_seq, wpS_nx, wpS_rt, wpR_res, wpR_noExc, eConst_ap, eVar_z, eVar_s, eBin_ap, eUn_ap, eAnd_ap, eOr_ap, eIf_ap, eCmp_ap, eChain_ap, eArgs_nil, eArgs_cons, eTup_ap, eLst_wp, eItem_ap, eEnd_none, eEnd_some, toI_int, eSlice_ap, eBF_ap, eCall_ap, eCallK_ap, eIsI_ap, sPass_ap, sExpr_ap, sRet_ap, sRetN_ap, sAsg_ap, sIf_ap, sSeq_ap, tName_ap, tEach_nil, tEach_cons, tTup_ap, tItem_ap, pick_nil, pick_pos, pick_kw, pick_dfl, eAttr_ap, eMth_ap, eMk_ap, tAttr_ap, pF_some, isNon_non, eDicEn_ap, eRev_ap, List.set_cons_zero, List.set_cons_succ, List.length_cons, List.length_nil, truth_bl, truth_non, not_bl, not_non, tst_if, tstS_if, pBl_some, pD_some, add_int, sub_int, neg_int, lt_int, le_int, gt_int, ge_int, eq_int, ne_int, if_true, Bool.not_true, Bool.not_false, Bool.false_eq_true, if_false, and_self, List.getElem?_cons_zero, List.getElem?_cons_succ, Option.getD_some, Option.bind_some, Option.map_some, add_al eb6 e6 (by rw [List.length_map, len_ch, lmE]; decide), one]
    refine alloc_wp fun c2 h7 e7 fr7 l7 => ?_
    refine sys e7 (ve_chX _) (by rw [len_chX]; decide) fun y2 e2 oc2 h8 S8 fr8 => ?_
    have ocn2 : oc2 = .non := by
      rcases S8.cyc with ⟨z, _⟩ | ⟨_, z⟩
      · exact z
      · exact absurd (Bf.conv (ve_chX _) nn_chX (zer_dom 60 _)) z
    subst ocn2
    have g14 : fget [(2, D.int ((60 : Nat) : Int)), (1, .ref e2), (0, .non)] 14 = none := rfl
    simp only [wpR_ok, wpR_bind, wpS_stm, wpS_seq, wpS_nx, wpS_rt, wpR_res, wpR_noExc, eConst_ap, eVar_z, eVar_s, eBin_ap, eUn_ap, eAnd_ap, eOr_ap, eIf_ap, eCmp_ap, eChain_ap, eArgs_nil, eArgs_cons, eTup_ap, eLst_wp, eItem_ap, eEnd_none, eEnd_some, toI_int, eSlice_ap, eBF_ap, eCall_ap, eCallK_ap, eIsI_ap, sPass_ap, sExpr_ap, sRet_ap, sRetN_ap, sAsg_ap, sIf_ap, sSeq_ap, tName_ap, tEach_nil, tEach_cons, tTup_ap, tItem_ap, pick_nil, pick_pos, pick_kw, pick_dfl, eAttr_ap, eMth_ap, eMk_ap, tAttr_ap, pF_some, isNon_non, eDicEn_ap, eRev_ap, List.set_cons_zero, List.set_cons_succ, List.length_cons, List.length_nil, truth_bl, truth_non, not_bl, not_non, tst_if, tstS_if, pBl_some, pD_some, add_int, sub_int, neg_int, lt_int, le_int, gt_int, ge_int, eq_int, ne_int, if_true, Bool.not_true, Bool.not_false, Bool.false_eq_true, if_false, and_self, List.getElem?_cons_zero, List.getElem?_cons_succ, Option.getD_some, Option.bind_some, Option.map_some, mcls_ref S8.y g14, m14]
    refine ub_wp (k := 3) (s := 58) (t := 0) dc.toDcT2 t11 S8 (by decide) (by decide) (by decide) (by rw [len_chX]; decide) fun h9 fr9 => ?_
    rw [d_58_0]
    have z3 : (!((-174 : Int) == -174)) = false := rfl
    simp only [wpR_ok, wpR_bind, wpS_stm, wpS_seq, wpS_nx, wpS_rt, wpR_res, wpR_noExc, eConst_ap, eVar_z, eVar_s, eBin_ap, eUn_ap, eAnd_ap, eOr_ap, eIf_ap, eCmp_ap, eChain_ap, eArgs_nil, eArgs_cons, eTup_ap, eLst_wp, eItem_ap, eEnd_none, eEnd_some, toI_int, eSlice_ap, eBF_ap, eCall_ap, eCallK_ap, eIsI_ap, sPass_ap, sExpr_ap, sRet_ap, sRetN_ap, sAsg_ap, sIf_ap, sSeq_ap, tName_ap, tEach_nil, tEach_cons, tTup_ap, tItem_ap, pick_nil, pick_pos, pick_kw, pick_dfl, eAttr_ap, eMth_ap, eMk_ap, tAttr_ap, pF_some, isNon_non, eDicEn_ap, eRev_ap, List.set_cons_zero, List.set_cons_succ, List.length_cons, List.length_nil, truth_bl, truth_non, not_bl, not_non, tst_if, tstS_if, pBl_some, pD_some, add_int, sub_int, neg_int, lt_int, le_int, gt_int, ge_int, eq_int, ne_int, if_true, Bool.not_true, Bool.not_false, Bool.false_eq_true, if_false, and_self, List.getElem?_cons_zero, List.getElem?_cons_succ, Option.getD_some, Option.bind_some, Option.map_some, optD, z3]
    have f19 := (((f15.trans fr6).trans fr7).trans fr8).trans fr9
    have eb9 := f19.get _ _ (by simp) eb
    unfold b22_5
    simp only [wpR_ok, wpR_bind, wpS_stm, wpS_seq, wpS_nx, wpS_rt, wpR_res, wpR_noExc, eConst_ap, eVar_z, eVar_s, eBin_ap, eUn_ap, eAnd_ap, eOr_ap, eIf_ap, eCmp_ap, eChain_ap, eArgs_nil, eArgs_cons, eTup_ap, eLst_wp, eItem_ap, eEnd_none, eEnd_some, toI_int, eSlice_ap, eBF_ap, eCall_ap, eCallK_ap, eIsI_ap, sPass_ap, sExpr_ap, sRet_ap, sRetN_ap, sAsg_ap, sIf_ap, sSeq_ap, tName_ap, tEach_nil, tEach_cons, tTup_ap, tItem_ap, pick_nil, pick_pos, pick_kw, pick_dfl, eAttr_ap, eMth_ap, eMk_ap, tAttr_ap, pF_some, isNon_non, eDicEn_ap, eRev_ap, List.set_cons_zero, List.set_cons_succ, List.length_cons, List.length_nil, truth_bl, truth_non, not_bl, not_non, tst_if, tstS_if, pBl_some, pD_some, add_int, sub_int, neg_int, lt_int, le_int, gt_int, ge_int, eq_int, ne_int, if_true, Bool.not_true, Bool.not_false, Bool.false_eq_true, if_false, and_self, List.getElem?_cons_zero, List.getElem?_cons_succ, Option.getD_some, Option.bind_some, Option.map_some]
    refine alloc_wp fun c3 h10 e10 fr10 l10 => ?_
    have eb10 := fr10.get _ _ (by simp) eb9
    simp only [wpR_ok, wpR_bind, wpS_stm, wpS_seq, wpS_nx, wpS_rt, wpR_res, wpR_noExc, eConst_ap, eVar_z, eVar_s, eBin_ap, eUn_ap, eAnd_ap, eOr_ap, eIf_ap, eCmp_ap, eChain_ap, eArgs_nil, eArgs_cons, eTup_ap, eLst_wp, eItem_ap, eEnd_none, eEnd_some, toI_int, eSlice_ap, eBF_ap, eCall_ap, eCallK_ap, eIsI_ap, sPass_ap, sExpr_ap, sRet_ap, sRetN_ap, sAsg_ap, sIf_ap, sSeq_ap, tName_ap, tEach_nil, tEach_cons, tTup_ap, tItem_ap, pick_nil, pick_pos, pick_kw, pick_dfl, eAttr_ap, eMth_ap, eMk_ap, tAttr_ap, pF_some, isNon_non, eDicEn_ap, eRev_ap, List.set_cons_zero, List.set_cons_succ, List.length_cons, List.length_nil, truth_bl, truth_non, not_bl, not_non, tst_if, tstS_if, pBl_some, pD_some, add_int, sub_int, neg_int, lt_int, le_int, gt_int, ge_int, eq_int, ne_int, if_true, Bool.not_true, Bool.not_false, Bool.false_eq_true, if_false, and_self, List.getElem?_cons_zero, List.getElem?_cons_succ, Option.getD_some, Option.bind_some, Option.map_some, add_al eb10 e10 (by rw [List.length_map, len_ch, lmE]; decide), one]
    refine alloc_wp fun c4 h11 e11 fr11 l11 => ?_
    refine sys e11 (ve_chX _) (by rw [len_chX]; decide) fun y3 e3 oc3 h12 S12 fr12 => ?_
    have g7 : fget [(2, D.int ((60 : Nat) : Int)), (1, .ref e3), (0, oc3)] 7 = none := rfl
    have ocn3 : oc3 ≠ .non := by
      rcases S12.cyc with ⟨_, z⟩ | ⟨z, _⟩
      · exact absurd z neg_chX
      · exact z
    simp only [wpR_ok, wpR_bind, wpS_stm, wpS_seq, wpS_nx, wpS_rt, wpR_res, wpR_noExc, eConst_ap, eVar_z, eVar_s, eBin_ap, eUn_ap, eAnd_ap, eOr_ap, eIf_ap, eCmp_ap, eChain_ap, eArgs_nil, eArgs_cons, eTup_ap, eLst_wp, eItem_ap, eEnd_none, eEnd_some, toI_int, eSlice_ap, eBF_ap, eCall_ap, eCallK_ap, eIsI_ap, sPass_ap, sExpr_ap, sRet_ap, sRetN_ap, sAsg_ap, sIf_ap, sSeq_ap, tName_ap, tEach_nil, tEach_cons, tTup_ap, tItem_ap, pick_nil, pick_pos, pick_kw, pick_dfl, eAttr_ap, eMth_ap, eMk_ap, tAttr_ap, pF_some, isNon_non, eDicEn_ap, eRev_ap, List.set_cons_zero, List.set_cons_succ, List.length_cons, List.length_nil, truth_bl, truth_non, not_bl, not_non, tst_if, tstS_if, pBl_some, pD_some, add_int, sub_int, neg_int, lt_int, le_int, gt_int, ge_int, eq_int, ne_int, if_true, Bool.not_true, Bool.not_false, Bool.false_eq_true, if_false, and_self, List.getElem?_cons_zero, List.getElem?_cons_succ, Option.getD_some, Option.bind_some, Option.map_some, mcls_ref S12.y g7, m7]
    refine ncyc_wp (k := 5) dc.toDcT2 S12 (fun z => absurd z ocn3) fun v c xs _ _ _ b' h13 _ fr13 _ => ?_
    have d0 : cmpop .IsNot (.ref b') .non h13 = some true := rfl
    simp only [wpR_ok, wpR_bind, wpS_stm, wpS_seq, wpS_nx, wpS_rt, wpR_res, wpR_noExc, eConst_ap, eVar_z, eVar_s, eBin_ap, eUn_ap, eAnd_ap, eOr_ap, eIf_ap, eCmp_ap, eChain_ap, eArgs_nil, eArgs_cons, eTup_ap, eLst_wp, eItem_ap, eEnd_none, eEnd_some, toI_int, eSlice_ap, eBF_ap, eCall_ap, eCallK_ap, eIsI_ap, sPass_ap, sExpr_ap, sRet_ap, sRetN_ap, sAsg_ap, sIf_ap, sSeq_ap, tName_ap, tEach_nil, tEach_cons, tTup_ap, tItem_ap, pick_nil, pick_pos, pick_kw, pick_dfl, eAttr_ap, eMth_ap, eMk_ap, tAttr_ap, pF_some, isNon_non, eDicEn_ap, eRev_ap, List.set_cons_zero, List.set_cons_succ, List.length_cons, List.length_nil, truth_bl, truth_non, not_bl, not_non, tst_if, tstS_if, pBl_some, pD_some, add_int, sub_int, neg_int, lt_int, le_int, gt_int, ge_int, eq_int, ne_int, if_true, Bool.not_true, Bool.not_false, Bool.false_eq_true, if_false, and_self, List.getElem?_cons_zero, List.getElem?_cons_succ, Option.getD_some, Option.bind_some, Option.map_some, d0]
    exact q h13 (((((fr1.trans f19).trans fr10).trans fr11).trans fr12).trans fr13)
end K21

set_option maxRecDepth 100000
set_option maxHeartbeats 1000000
namespace K21
open PySem Ev
abbrev prev (y n er a : Nat) : D := .tup [.ref y, .int (n : Nat), .ref er, .ref a]
/-- one attempt -/
theorem attempt {s n py pn per pa : Nat} {h : Hh} {o2 o5 o6 o7 o8 o9 : Option D} (hs : Src h s) (n1 : 1 ≤ n) (n2 : n ≤ 8) (P : Sy h py pn per pa) {N : Ev.Env → Hh → Prop} {R : D → Hh → Prop}
    (q : ∀ py pn per pa o6 o7 o8 o9 h', Fr [s] h h' → Src h' s → Sy h' py pn per pa → N [some (.ref 0), some (prev py pn per pa), o2, some (.ref s), some (.int (n : Nat)), o5, o6, o7, o8, o9] h') :
    wpS (b23_2b_2b (C 7) [some (.ref 0), some (prev py pn per pa), o2, some (.ref s), some (.int (n : Nat)), o5, o6, o7, o8, o9] h) N R := by
  have sl := hs.lt
  unfold b23_2b_2b
  simp only [wpR_ok, wpR_bind, wpS_stm, wpS_seq, wpS_nx, wpS_rt, wpR_res, wpR_noExc, eConst_ap, eVar_z, eVar_s, eBin_ap, eUn_ap, eAnd_ap, eOr_ap, eIf_ap, eCmp_ap, eChain_ap, eArgs_nil, eArgs_cons, eTup_ap, eLst_wp, eItem_ap, eEnd_none, eEnd_some, toI_int, eSlice_ap, eBF_ap, eCall_ap, eCallK_ap, eIsI_ap, sPass_ap, sExpr_ap, sRet_ap, sRetN_ap, sAsg_ap, sIf_ap, sSeq_ap, tName_ap, tEach_nil, tEach_cons, tTup_ap, tItem_ap, pick_nil, pick_pos, pick_kw, pick_dfl, eAttr_ap, eMth_ap, eMk_ap, tAttr_ap, pF_some, isNon_non, eDicEn_ap, eRev_ap, List.set_cons_zero, List.set_cons_succ, List.length_cons, List.length_nil, truth_bl, truth_non, not_bl, not_non, tst_if, tstS_if, pBl_some, pD_some, add_int, sub_int, neg_int, lt_int, le_int, gt_int, ge_int, eq_int, ne_int, if_true, Bool.not_true, Bool.not_false, Bool.false_eq_true, if_false, and_self, List.getElem?_cons_zero, List.getElem?_cons_succ, Option.getD_some, Option.bind_some, Option.map_some]
  refine alloc_wp fun b1 h1 e1 fr1 lb1 => ?_
  have hs1 := hs.fr fr1 (by simp)
  have P1 := P.fr fr1
  refine draw (k := 6) hs1 (by decide) (by decide) fun r1 h2 a0 a1 fr2 hs2 l2 => ?_
  have P2 := P1.frs hs1 fr2
  have e12 := fr2.get _ _ (by simp; omega) e1
  obtain ⟨L, es, s0, s1⟩ : ∃ L : Int, getItem (.ref b1) (.int r1) h2 = some (.int L) ∧ 0 ≤ L ∧ L ≤ 14 := by
    obtain ⟨d, ed, hd⟩ := atD_in (xs := [.int 7, .int 14]) (r := r1) a0 a1
    rw [item_lst e12, ed]
    simp only [List.mem_cons, List.not_mem_nil, or_false] at hd
    rcases hd with rfl | rfl
    · exact ⟨7, rfl, by decide, by decide⟩
    · exact ⟨14, rfl, by decide, by decide⟩
  simp only [wpR_ok, wpR_bind, wpS_stm, wpS_seq, wpS_nx, wpS_rt, wpR_res, wpR_noExc, eConst_ap, eVar_z, eVar_s, eBin_ap, eUn_ap, eAnd_ap, eOr_ap, eIf_ap, eCmp_ap, eChain_ap, eArgs_nil, eArgs_cons, eTup_ap, eLst_wp, eItem_ap, eEnd_none, eEnd_some, toI_int, eSlice_ap, eBF_ap, eCall_ap, eCallK_ap, eIsI_ap, sPass_ap, sExpr_ap, sRet_ap, sRetN_ap, sAsg_ap, sIf_ap, sSeq_ap, tName_ap, tEach_nil, tEach_cons, tTup_ap, tItem_ap, pick_nil, pick_pos, pick_kw, pick_dfl, eAttr_ap, eMth_ap, eMk_ap, tAttr_ap, pF_some, isNon_non, eDicEn_ap, eRev_ap, List.set_cons_zero, List.set_cons_succ, List.length_cons, List.length_nil, truth_bl, truth_non, not_bl, not_non, tst_if, tstS_if, pBl_some, pD_some, add_int, sub_int, neg_int, lt_int, le_int, gt_int, ge_int, eq_int, ne_int, if_true, Bool.not_true, Bool.not_false, Bool.false_eq_true, if_false, and_self, List.getElem?_cons_zero, List.getElem?_cons_succ, Option.getD_some, Option.bind_some, Option.map_some, es]
  refine edges (k := 5) hs2 n1 n2 s0 s1 fun er E h3 ee vE bE lE fr3 hs3 ler => ?_
  have P3 := P2.frs hs2 fr3
  have f03 : Fr [s] h h3 := (fr1.nil.trans fr2).trans fr3
  unfold b23_2b_2b_1
  simp only [wpR_ok, wpR_bind, wpS_stm, wpS_seq, wpS_nx, wpS_rt, wpR_res, wpR_noExc, eConst_ap, eVar_z, eVar_s, eBin_ap, eUn_ap, eAnd_ap, eOr_ap, eIf_ap, eCmp_ap, eChain_ap, eArgs_nil, eArgs_cons, eTup_ap, eLst_wp, eItem_ap, eEnd_none, eEnd_some, toI_int, eSlice_ap, eBF_ap, eCall_ap, eCallK_ap, eIsI_ap, sPass_ap, sExpr_ap, sRet_ap, sRetN_ap, sAsg_ap, sIf_ap, sSeq_ap, tName_ap, tEach_nil, tEach_cons, tTup_ap, tItem_ap, pick_nil, pick_pos, pick_kw, pick_dfl, eAttr_ap, eMth_ap, eMk_ap, tAttr_ap, pF_some, isNon_non, eDicEn_ap, eRev_ap, List.set_cons_zero, List.set_cons_succ, List.length_cons, List.length_nil, truth_bl, truth_non, not_bl, not_non, tst_if, tstS_if, pBl_some, pD_some, add_int, sub_int, neg_int, lt_int, le_int, gt_int, ge_int, eq_int, ne_int, if_true, Bool.not_true, Bool.not_false, Bool.false_eq_true, if_false, and_self, List.getElem?_cons_zero, List.getElem?_cons_succ, Option.getD_some, Option.bind_some, Option.map_some]
  refine dists (k := 6) ee n1 n2 (by omega) (fun _ h4 fr4 => ?_) fun hd a kvs h4 ea mk fr4 la => ?_
  · have d0 : cmpop .IsNot .non .non h4 = some false := rfl
    unfold b23_2b_2b_2
    simp only [wpR_ok, wpR_bind, wpS_stm, wpS_seq, wpS_nx, wpS_rt, wpR_res, wpR_noExc, eConst_ap, eVar_z, eVar_s, eBin_ap, eUn_ap, eAnd_ap, eOr_ap, eIf_ap, eCmp_ap, eChain_ap, eArgs_nil, eArgs_cons, eTup_ap, eLst_wp, eItem_ap, eEnd_none, eEnd_some, toI_int, eSlice_ap, eBF_ap, eCall_ap, eCallK_ap, eIsI_ap, sPass_ap, sExpr_ap, sRet_ap, sRetN_ap, sAsg_ap, sIf_ap, sSeq_ap, tName_ap, tEach_nil, tEach_cons, tTup_ap, tItem_ap, pick_nil, pick_pos, pick_kw, pick_dfl, eAttr_ap, eMth_ap, eMk_ap, tAttr_ap, pF_some, isNon_non, eDicEn_ap, eRev_ap, List.set_cons_zero, List.set_cons_succ, List.length_cons, List.length_nil, truth_bl, truth_non, not_bl, not_non, tst_if, tstS_if, pBl_some, pD_some, add_int, sub_int, neg_int, lt_int, le_int, gt_int, ge_int, eq_int, ne_int, if_true, Bool.not_true, Bool.not_false, Bool.false_eq_true, if_false, and_self, List.getElem?_cons_zero, List.getElem?_cons_succ, Option.getD_some, Option.bind_some, Option.map_some, d0]
    exact q _ _ _ _ _ _ _ _ h4 (f03.trans fr4.nil) (hs3.fr fr4 (by simp)) (P3.fr fr4)
  · have d0 : cmpop .IsNot (.ref a) .non h4 = some true := rfl
    have hs4 := hs3.fr fr4 (by simp)
    have ee4 := fr4.get _ _ (by simp) ee
    have P4 := P3.fr fr4
    unfold b23_2b_2b_2
    simp only [wpR_ok, wpR_bind, wpS_stm, wpS_seq, wpS_nx, wpS_rt, wpR_res, wpR_noExc, eConst_ap, eVar_z, eVar_s, eBin_ap, eUn_ap, eAnd_ap, eOr_ap, eIf_ap, eCmp_ap, eChain_ap, eArgs_nil, eArgs_cons, eTup_ap, eLst_wp, eItem_ap, eEnd_none, eEnd_some, toI_int, eSlice_ap, eBF_ap, eCall_ap, eCallK_ap, eIsI_ap, sPass_ap, sExpr_ap, sRet_ap, sRetN_ap, sAsg_ap, sIf_ap, sSeq_ap, tName_ap, tEach_nil, tEach_cons, tTup_ap, tItem_ap, pick_nil, pick_pos, pick_kw, pick_dfl, eAttr_ap, eMth_ap, eMk_ap, tAttr_ap, pF_some, isNon_non, eDicEn_ap, eRev_ap, List.set_cons_zero, List.set_cons_succ, List.length_cons, List.length_nil, truth_bl, truth_non, not_bl, not_non, tst_if, tstS_if, pBl_some, pD_some, add_int, sub_int, neg_int, lt_int, le_int, gt_int, ge_int, eq_int, ne_int, if_true, Bool.not_true, Bool.not_false, Bool.false_eq_true, if_false, and_self, List.getElem?_cons_zero, List.getElem?_cons_succ, Option.getD_some, Option.bind_some, Option.map_some, d0]
    unfold b23_2b_2b_2t
    simp only [wpR_ok, wpR_bind, wpS_stm, wpS_seq, wpS_nx, wpS_rt, wpR_res, wpR_noExc, eConst_ap, eVar_z, eVar_s, eBin_ap, eUn_ap, eAnd_ap, eOr_ap, eIf_ap, eCmp_ap, eChain_ap, eArgs_nil, eArgs_cons, eTup_ap, eLst_wp, eItem_ap, eEnd_none, eEnd_some, toI_int, eSlice_ap, eBF_ap, eCall_ap, eCallK_ap, eIsI_ap, sPass_ap, sExpr_ap, sRet_ap, sRetN_ap, sAsg_ap, sIf_ap, sSeq_ap, tName_ap, tEach_nil, tEach_cons, tTup_ap, tItem_ap, pick_nil, pick_pos, pick_kw, pick_dfl, eAttr_ap, eMth_ap, eMk_ap, tAttr_ap, pF_some, isNon_non, eDicEn_ap, eRev_ap, List.set_cons_zero, List.set_cons_succ, List.length_cons, List.length_nil, truth_bl, truth_non, not_bl, not_non, tst_if, tstS_if, pBl_some, pD_some, add_int, sub_int, neg_int, lt_int, le_int, gt_int, ge_int, eq_int, ne_int, if_true, Bool.not_true, Bool.not_false, Bool.false_eq_true, if_false, and_self, List.getElem?_cons_zero, List.getElem?_cons_succ, Option.getD_some, Option.bind_some, Option.map_some, list_ref ee4]
    refine alloc_wp fun ar h5 e5 fr5 l5 => ?_
    unfold b23_2b_2b_2t_1
    simp only [wpR_ok, wpR_bind, wpS_stm, wpS_seq, wpS_nx, wpS_rt, wpR_res, wpR_noExc, eConst_ap, eVar_z, eVar_s, eBin_ap, eUn_ap, eAnd_ap, eOr_ap, eIf_ap, eCmp_ap, eChain_ap, eArgs_nil, eArgs_cons, eTup_ap, eLst_wp, eItem_ap, eEnd_none, eEnd_some, toI_int, eSlice_ap, eBF_ap, eCall_ap, eCallK_ap, eIsI_ap, sPass_ap, sExpr_ap, sRet_ap, sRetN_ap, sAsg_ap, sIf_ap, sSeq_ap, tName_ap, tEach_nil, tEach_cons, tTup_ap, tItem_ap, pick_nil, pick_pos, pick_kw, pick_dfl, eAttr_ap, eMth_ap, eMk_ap, tAttr_ap, pF_some, isNon_non, eDicEn_ap, eRev_ap, List.set_cons_zero, List.set_cons_succ, List.length_cons, List.length_nil, truth_bl, truth_non, not_bl, not_non, tst_if, tstS_if, pBl_some, pD_some, add_int, sub_int, neg_int, lt_int, le_int, gt_int, ge_int, eq_int, ne_int, if_true, Bool.not_true, Bool.not_false, Bool.false_eq_true, if_false, and_self, List.getElem?_cons_zero, List.getElem?_cons_succ, Option.getD_some, Option.bind_some, Option.map_some]
    refine alloc_wp fun y h6 ey fr6 ly => ?_
    have e6 := fr6.get _ _ (by simp) e5
    have hN := Bf.fw_noneg vE hd
    have l56 := fr6.len
    have arl := at_lt e5
    refine init_wp (k := 3) dc.toDcT ey e6 n1 (by omega) (by omega) vE fun h7 e oc S fr7 le lc => ?_
    have ocn : oc = .non := by
      rcases S.cyc with ⟨z, _⟩ | ⟨_, z⟩
      · exact z
      · exact absurd (Bf.conv vE hN (zer_dom n _)) z
    subst ocn
    have f47 : Fr [] h4 h7 := (fr5.trans fr6).then fr7 fun j hj => by simp at hj; exact .inr (by have := fr5.len; omega)
    have e7 := fr7.get _ _ (by simp; omega) e6
    simp only [wpR_ok, wpR_bind, wpS_stm, wpS_seq, wpS_nx, wpS_rt, wpR_res, wpR_noExc, eConst_ap, eVar_z, eVar_s, eBin_ap, eUn_ap, eAnd_ap, eOr_ap, eIf_ap, eCmp_ap, eChain_ap, eArgs_nil, eArgs_cons, eTup_ap, eLst_wp, eItem_ap, eEnd_none, eEnd_some, toI_int, eSlice_ap, eBF_ap, eCall_ap, eCallK_ap, eIsI_ap, sPass_ap, sExpr_ap, sRet_ap, sRetN_ap, sAsg_ap, sIf_ap, sSeq_ap, tName_ap, tEach_nil, tEach_cons, tTup_ap, tItem_ap, pick_nil, pick_pos, pick_kw, pick_dfl, eAttr_ap, eMth_ap, eMk_ap, tAttr_ap, pF_some, isNon_non, eDicEn_ap, eRev_ap, List.set_cons_zero, List.set_cons_succ, List.length_cons, List.length_nil, truth_bl, truth_non, not_bl, not_non, tst_if, tstS_if, pBl_some, pD_some, add_int, sub_int, neg_int, lt_int, le_int, gt_int, ge_int, eq_int, ne_int, if_true, Bool.not_true, Bool.not_false, Bool.false_eq_true, if_false, and_self, List.getElem?_cons_zero, List.getElem?_cons_succ, Option.getD_some, Option.bind_some, Option.map_some]
    unfold b23_2b_2b_2t_2
    have rv := rev_eq (o := eVar 8) (σ := [some (.ref 0), some (prev py pn per pa), o2, some (.ref s), some (.int (n : Nat)), o5, some (.ref er), some (.ref a), some (.ref ar), some (.ref y)]) (h := h7) rfl e7
    simp only [wpR_ok, wpR_bind, wpS_stm, wpS_seq, wpS_nx, wpS_rt, wpR_res, wpR_noExc, eConst_ap, eVar_z, eVar_s, eBin_ap, eUn_ap, eAnd_ap, eOr_ap, eIf_ap, eCmp_ap, eChain_ap, eArgs_nil, eArgs_cons, eTup_ap, eLst_wp, eItem_ap, eEnd_none, eEnd_some, toI_int, eSlice_ap, eBF_ap, eCall_ap, eCallK_ap, eIsI_ap, sPass_ap, sExpr_ap, sRet_ap, sRetN_ap, sAsg_ap, sIf_ap, sSeq_ap, tName_ap, tEach_nil, tEach_cons, tTup_ap, tItem_ap, pick_nil, pick_pos, pick_kw, pick_dfl, eAttr_ap, eMth_ap, eMk_ap, tAttr_ap, pF_some, isNon_non, eDicEn_ap, eRev_ap, List.set_cons_zero, List.set_cons_succ, List.length_cons, List.length_nil, truth_bl, truth_non, not_bl, not_non, tst_if, tstS_if, pBl_some, pD_some, add_int, sub_int, neg_int, lt_int, le_int, gt_int, ge_int, eq_int, ne_int, if_true, Bool.not_true, Bool.not_false, Bool.false_eq_true, if_false, and_self, List.getElem?_cons_zero, List.getElem?_cons_succ, Option.getD_some, Option.bind_some, Option.map_some, rv]
    have fs : Fr [ar] h7 (h7.set ar (.lst false (E.map edD).reverse)) := Fr.set ..
    have e8 : (h7.set ar (.lst false (E.map edD).reverse))[ar]? = some (.lst false (E.map edD).reverse) := List.getElem?_set_self (at_lt e7)
    generalize h7.set ar (.lst false (E.map edD).reverse) = h8 at fs e8 ⊢
    unfold b23_2b_2b_2t_3
    have ap := append_eq (o := eVar 8) (arg := eConst .non) (σ := [some (.ref 0), some (prev py pn per pa), o2, some (.ref s), some (.int (n : Nat)), o5, some (.ref er), some (.ref a), some (.ref ar), some (.ref y)]) (h := h8) (x := .non) rfl e8 rfl (by rw [List.length_reverse, List.length_map, lmE]; omega)
    simp only [sSeq_ap, sExpr_ap, ap, Res.stm_ok, seq_nx, wpS_nx]
    have ft : Fr [ar] h8 (h8.set ar (.lst false ((E.map edD).reverse ++ [.non]))) := Fr.set ..
    generalize h8.set ar (.lst false ((E.map edD).reverse ++ [.non])) = h9 at ft ⊢
    have f79 : Fr [ar] h7 h9 := fs.trans ft
    have f49 : Fr [] h4 h9 := f47.then f79 fun j hj => by simp at hj; exact .inr (by omega)
    have yn : y ≠ ar := by omega
    have en : e ≠ ar := by omega
    have S9 := S.fr f79 (by simp [yn]) (by simp [en]) (fun c hc => by cases hc)
    have Y9 : Sy h9 y n er a := ⟨e, E, kvs, Bf.fw E n, S9, f49.get _ _ (by simp) ee4, f49.get _ _ (by simp) ea, mk, fun s v hs => fw_dist1 vE hd hs, vE, bE, lE, n1, n2⟩
    unfold b23_2b_2b_2t_4
    simp only [wpR_ok, wpR_bind, wpS_stm, wpS_seq, wpS_nx, wpS_rt, wpR_res, wpR_noExc, eConst_ap, eVar_z, eVar_s, eBin_ap, eUn_ap, eAnd_ap, eOr_ap, eIf_ap, eCmp_ap, eChain_ap, eArgs_nil, eArgs_cons, eTup_ap, eLst_wp, eItem_ap, eEnd_none, eEnd_some, toI_int, eSlice_ap, eBF_ap, eCall_ap, eCallK_ap, eIsI_ap, sPass_ap, sExpr_ap, sRet_ap, sRetN_ap, sAsg_ap, sIf_ap, sSeq_ap, tName_ap, tEach_nil, tEach_cons, tTup_ap, tItem_ap, pick_nil, pick_pos, pick_kw, pick_dfl, eAttr_ap, eMth_ap, eMk_ap, tAttr_ap, pF_some, isNon_non, eDicEn_ap, eRev_ap, List.set_cons_zero, List.set_cons_succ, List.length_cons, List.length_nil, truth_bl, truth_non, not_bl, not_non, tst_if, tstS_if, pBl_some, pD_some, add_int, sub_int, neg_int, lt_int, le_int, gt_int, ge_int, eq_int, ne_int, if_true, Bool.not_true, Bool.not_false, Bool.false_eq_true, if_false, and_self, List.getElem?_cons_zero, List.getElem?_cons_succ, Option.getD_some, Option.bind_some, Option.map_some]
    refine check Y9 fun h10 fr10 => ?_
    have Y10 := Y9.fr fr10
    have P10 := (P4.fr f49).fr fr10
    have i0 : getItem (prev py pn per pa) (.int 0) h10 = some (.ref py) := rfl
    have i1 : getItem (prev py pn per pa) (.int 1) h10 = some (.int (pn : Nat)) := rfl
    have i2 : getItem (prev py pn per pa) (.int 2) h10 = some (.ref per) := rfl
    have i3 : getItem (prev py pn per pa) (.int 3) h10 = some (.ref pa) := rfl
    simp only [wpR_ok, wpR_bind, wpS_stm, wpS_seq, wpS_nx, wpS_rt, wpR_res, wpR_noExc, eConst_ap, eVar_z, eVar_s, eBin_ap, eUn_ap, eAnd_ap, eOr_ap, eIf_ap, eCmp_ap, eChain_ap, eArgs_nil, eArgs_cons, eTup_ap, eLst_wp, eItem_ap, eEnd_none, eEnd_some, toI_int, eSlice_ap, eBF_ap, eCall_ap, eCallK_ap, eIsI_ap, sPass_ap, sExpr_ap, sRet_ap, sRetN_ap, sAsg_ap, sIf_ap, sSeq_ap, tName_ap, tEach_nil, tEach_cons, tTup_ap, tItem_ap, pick_nil, pick_pos, pick_kw, pick_dfl, eAttr_ap, eMth_ap, eMk_ap, tAttr_ap, pF_some, isNon_non, eDicEn_ap, eRev_ap, List.set_cons_zero, List.set_cons_succ, List.length_cons, List.length_nil, truth_bl, truth_non, not_bl, not_non, tst_if, tstS_if, pBl_some, pD_some, add_int, sub_int, neg_int, lt_int, le_int, gt_int, ge_int, eq_int, ne_int, if_true, Bool.not_true, Bool.not_false, Bool.false_eq_true, if_false, and_self, List.getElem?_cons_zero, List.getElem?_cons_succ, Option.getD_some, Option.bind_some, Option.map_some]
    unfold b23_2b_2b_2t_5
    simp only [wpR_ok, wpR_bind, wpS_stm, wpS_seq, wpS_nx, wpS_rt, wpR_res, wpR_noExc, eConst_ap, eVar_z, eVar_s, eBin_ap, eUn_ap, eAnd_ap, eOr_ap, eIf_ap, eCmp_ap, eChain_ap, eArgs_nil, eArgs_cons, eTup_ap, eLst_wp, eItem_ap, eEnd_none, eEnd_some, toI_int, eSlice_ap, eBF_ap, eCall_ap, eCallK_ap, eIsI_ap, sPass_ap, sExpr_ap, sRet_ap, sRetN_ap, sAsg_ap, sIf_ap, sSeq_ap, tName_ap, tEach_nil, tEach_cons, tTup_ap, tItem_ap, pick_nil, pick_pos, pick_kw, pick_dfl, eAttr_ap, eMth_ap, eMk_ap, tAttr_ap, pF_some, isNon_non, eDicEn_ap, eRev_ap, List.set_cons_zero, List.set_cons_succ, List.length_cons, List.length_nil, truth_bl, truth_non, not_bl, not_non, tst_if, tstS_if, pBl_some, pD_some, add_int, sub_int, neg_int, lt_int, le_int, gt_int, ge_int, eq_int, ne_int, if_true, Bool.not_true, Bool.not_false, Bool.false_eq_true, if_false, and_self, List.getElem?_cons_zero, List.getElem?_cons_succ, Option.getD_some, Option.bind_some, Option.map_some, i0, i1, i2, i3]
    refine check P10 fun h11 fr11 => ?_
    simp only [wpR_ok, wpR_bind, wpS_stm, wpS_seq, wpS_nx, wpS_rt, wpR_res, wpR_noExc, eConst_ap, eVar_z, eVar_s, eBin_ap, eUn_ap, eAnd_ap, eOr_ap, eIf_ap, eCmp_ap, eChain_ap, eArgs_nil, eArgs_cons, eTup_ap, eLst_wp, eItem_ap, eEnd_none, eEnd_some, toI_int, eSlice_ap, eBF_ap, eCall_ap, eCallK_ap, eIsI_ap, sPass_ap, sExpr_ap, sRet_ap, sRetN_ap, sAsg_ap, sIf_ap, sSeq_ap, tName_ap, tEach_nil, tEach_cons, tTup_ap, tItem_ap, pick_nil, pick_pos, pick_kw, pick_dfl, eAttr_ap, eMth_ap, eMk_ap, tAttr_ap, pF_some, isNon_non, eDicEn_ap, eRev_ap, List.set_cons_zero, List.set_cons_succ, List.length_cons, List.length_nil, truth_bl, truth_non, not_bl, not_non, tst_if, tstS_if, pBl_some, pD_some, add_int, sub_int, neg_int, lt_int, le_int, gt_int, ge_int, eq_int, ne_int, if_true, Bool.not_true, Bool.not_false, Bool.false_eq_true, if_false, and_self, List.getElem?_cons_zero, List.getElem?_cons_succ, Option.getD_some, Option.bind_some, Option.map_some]
    unfold b23_2b_2b_2t_6
    simp only [wpR_ok, wpR_bind, wpS_stm, wpS_seq, wpS_nx, wpS_rt, wpR_res, wpR_noExc, eConst_ap, eVar_z, eVar_s, eBin_ap, eUn_ap, eAnd_ap, eOr_ap, eIf_ap, eCmp_ap, eChain_ap, eArgs_nil, eArgs_cons, eTup_ap, eLst_wp, eItem_ap, eEnd_none, eEnd_some, toI_int, eSlice_ap, eBF_ap, eCall_ap, eCallK_ap, eIsI_ap, sPass_ap, sExpr_ap, sRet_ap, sRetN_ap, sAsg_ap, sIf_ap, sSeq_ap, tName_ap, tEach_nil, tEach_cons, tTup_ap, tItem_ap, pick_nil, pick_pos, pick_kw, pick_dfl, eAttr_ap, eMth_ap, eMk_ap, tAttr_ap, pF_some, isNon_non, eDicEn_ap, eRev_ap, List.set_cons_zero, List.set_cons_succ, List.length_cons, List.length_nil, truth_bl, truth_non, not_bl, not_non, tst_if, tstS_if, pBl_some, pD_some, add_int, sub_int, neg_int, lt_int, le_int, gt_int, ge_int, eq_int, ne_int, if_true, Bool.not_true, Bool.not_false, Bool.false_eq_true, if_false, and_self, List.getElem?_cons_zero, List.getElem?_cons_succ, Option.getD_some, Option.bind_some, Option.map_some]
    have f411 := (f49.trans fr10).trans fr11
    exact q y n er a _ _ _ _ h11 ((f03.trans fr4.nil).trans f411.nil) (hs4.fr f411 (by simp)) (Y10.fr fr11)
/-- one cell -/
theorem cell {ns : List Int} {j : Int} {py pn per pa : Nat} {h : Hh} {o3 o4 o5 o6 o7 o8 o9 : Option D} (e : h[0]? = some (.lst true (ns.map .int))) (P : Sy h py pn per pa) (j0 : 0 ≤ j) (j1 : j ≤ 5) {N : Ev.Env → Hh → Prop} {R : D → Hh → Prop}
    (q : ∀ py pn per pa o3 o4 o5 o6 o7 o8 o9 h', h'[0]? = some (.lst true (ns.map .int)) → Sy h' py pn per pa → N [some (.ref 0), some (prev py pn per pa), some (.int j), o3, o4, o5, o6, o7, o8, o9] h') :
    wpS (b23_2b (C 7) [some (.ref 0), some (prev py pn per pa), some (.int j), o3, o4, o5, o6, o7, o8, o9] h) N R := by
  have hl := at_lt e
  unfold b23_2b
  simp only [wpR_ok, wpR_bind, wpS_stm, wpS_seq, wpS_nx, wpS_rt, wpR_res, wpR_noExc, eConst_ap, eVar_z, eVar_s, eBin_ap, eUn_ap, eAnd_ap, eOr_ap, eIf_ap, eCmp_ap, eChain_ap, eArgs_nil, eArgs_cons, eTup_ap, eLst_wp, eItem_ap, eEnd_none, eEnd_some, toI_int, eSlice_ap, eBF_ap, eCall_ap, eCallK_ap, eIsI_ap, sPass_ap, sExpr_ap, sRet_ap, sRetN_ap, sAsg_ap, sIf_ap, sSeq_ap, tName_ap, tEach_nil, tEach_cons, tTup_ap, tItem_ap, pick_nil, pick_pos, pick_kw, pick_dfl, eAttr_ap, eMth_ap, eMk_ap, tAttr_ap, pF_some, isNon_non, eDicEn_ap, eRev_ap, List.set_cons_zero, List.set_cons_succ, List.length_cons, List.length_nil, truth_bl, truth_non, not_bl, not_non, tst_if, tstS_if, pBl_some, pD_some, add_int, sub_int, neg_int, lt_int, le_int, gt_int, ge_int, eq_int, ne_int, if_true, Bool.not_true, Bool.not_false, Bool.false_eq_true, if_false, and_self, List.getElem?_cons_zero, List.getElem?_cons_succ, Option.getD_some, Option.bind_some, Option.map_some]
  refine rng (k := 6) e j0 j1 fun s h1 hs1 fr1 ls => ?_
  have P1 := P.fr fr1
  have fin : ∀ {h' : Hh}, Fr [s] h1 h' → h'[0]? = some (.lst true (ns.map .int)) := fun f => f.get _ _ (by simp; omega) (fr1.get _ _ (by simp) e)
  unfold b23_2b_1
  simp only [wpR_ok, wpR_bind, wpS_stm, wpS_seq, wpS_nx, wpS_rt, wpR_res, wpR_noExc, eConst_ap, eVar_z, eVar_s, eBin_ap, eUn_ap, eAnd_ap, eOr_ap, eIf_ap, eCmp_ap, eChain_ap, eArgs_nil, eArgs_cons, eTup_ap, eLst_wp, eItem_ap, eEnd_none, eEnd_some, toI_int, eSlice_ap, eBF_ap, eCall_ap, eCallK_ap, eIsI_ap, sPass_ap, sExpr_ap, sRet_ap, sRetN_ap, sAsg_ap, sIf_ap, sSeq_ap, tName_ap, tEach_nil, tEach_cons, tTup_ap, tItem_ap, pick_nil, pick_pos, pick_kw, pick_dfl, eAttr_ap, eMth_ap, eMk_ap, tAttr_ap, pF_some, isNon_non, eDicEn_ap, eRev_ap, List.set_cons_zero, List.set_cons_succ, List.length_cons, List.length_nil, truth_bl, truth_non, not_bl, not_non, tst_if, tstS_if, pBl_some, pD_some, add_int, sub_int, neg_int, lt_int, le_int, gt_int, ge_int, eq_int, ne_int, if_true, Bool.not_true, Bool.not_false, Bool.false_eq_true, if_false, and_self, List.getElem?_cons_zero, List.getElem?_cons_succ, Option.getD_some, Option.bind_some, Option.map_some]
  refine draw (k := 6) hs1 (by decide) (by decide) fun r h2 r0 r1 fr2 hs2 l2 => ?_
  have P2 := P1.frs hs1 fr2
  obtain ⟨m, rfl⟩ := Int.eq_ofNat_of_zero_le r0
  have en : (1 : Int) + (m : Nat) = ((1 + m : Nat) : Int) := by omega
  simp only [wpR_ok, wpR_bind, wpS_stm, wpS_seq, wpS_nx, wpS_rt, wpR_res, wpR_noExc, eConst_ap, eVar_z, eVar_s, eBin_ap, eUn_ap, eAnd_ap, eOr_ap, eIf_ap, eCmp_ap, eChain_ap, eArgs_nil, eArgs_cons, eTup_ap, eLst_wp, eItem_ap, eEnd_none, eEnd_some, toI_int, eSlice_ap, eBF_ap, eCall_ap, eCallK_ap, eIsI_ap, sPass_ap, sExpr_ap, sRet_ap, sRetN_ap, sAsg_ap, sIf_ap, sSeq_ap, tName_ap, tEach_nil, tEach_cons, tTup_ap, tItem_ap, pick_nil, pick_pos, pick_kw, pick_dfl, eAttr_ap, eMth_ap, eMk_ap, tAttr_ap, pF_some, isNon_non, eDicEn_ap, eRev_ap, List.set_cons_zero, List.set_cons_succ, List.length_cons, List.length_nil, truth_bl, truth_non, not_bl, not_non, tst_if, tstS_if, pBl_some, pD_some, add_int, sub_int, neg_int, lt_int, le_int, gt_int, ge_int, eq_int, ne_int, if_true, Bool.not_true, Bool.not_false, Bool.false_eq_true, if_false, and_self, List.getElem?_cons_zero, List.getElem?_cons_succ, Option.getD_some, Option.bind_some, Option.map_some, en]
  generalize hn : 1 + m = n
  have nn : 1 ≤ n ∧ n ≤ 8 := by omega
  unfold b23_2b_2
  simp only [wpR_ok, wpR_bind, wpS_stm, wpS_seq, wpS_nx, wpS_rt, wpR_res, wpR_noExc, eConst_ap, eVar_z, eVar_s, eBin_ap, eUn_ap, eAnd_ap, eOr_ap, eIf_ap, eCmp_ap, eChain_ap, eArgs_nil, eArgs_cons, eTup_ap, eLst_wp, eItem_ap, eEnd_none, eEnd_some, toI_int, eSlice_ap, eBF_ap, eCall_ap, eCallK_ap, eIsI_ap, sPass_ap, sExpr_ap, sRet_ap, sRetN_ap, sAsg_ap, sIf_ap, sSeq_ap, tName_ap, tEach_nil, tEach_cons, tTup_ap, tItem_ap, pick_nil, pick_pos, pick_kw, pick_dfl, eAttr_ap, eMth_ap, eMk_ap, tAttr_ap, pF_some, isNon_non, eDicEn_ap, eRev_ap, List.set_cons_zero, List.set_cons_succ, List.length_cons, List.length_nil, truth_bl, truth_non, not_bl, not_non, tst_if, tstS_if, pBl_some, pD_some, add_int, sub_int, neg_int, lt_int, le_int, gt_int, ge_int, eq_int, ne_int, if_true, Bool.not_true, Bool.not_false, Bool.false_eq_true, if_false, and_self, List.getElem?_cons_zero, List.getElem?_cons_succ, Option.getD_some, Option.bind_some, Option.map_some]
  refine sFor_wp ?_
  rw [rng_ap (e := eConst (.int 2)) (h1 := h2) (n := 2) rfl (by decide) (by decide)]
  refine ⟨rfl, ?_⟩
  refine forL_wp (fun i σ h' => ∃ py pn per pa o5 o6 o7 o8 o9, σ = [some (.ref 0), some (prev py pn per pa), some (.int j), some (.ref s), some (.int (n : Nat)), o5, o6, o7, o8, o9] ∧ Fr [s] h2 h' ∧ Src h' s ∧ Sy h' py pn per pa) (fun _ _ _ _ => rfl) ?_ ?_ ⟨_, _, _, _, _, _, _, _, _, rfl, Fr.refl _ _, hs2, P2⟩
  · rintro i x σ h3 hx ⟨py, pn, per, pa, p5, p6, p7, p8, p9, rfl, fr3, hs3, P3⟩
    simp only [wpR_ok, wpR_bind, wpS_stm, wpS_seq, wpS_nx, wpS_rt, wpR_res, wpR_noExc, eConst_ap, eVar_z, eVar_s, eBin_ap, eUn_ap, eAnd_ap, eOr_ap, eIf_ap, eCmp_ap, eChain_ap, eArgs_nil, eArgs_cons, eTup_ap, eLst_wp, eItem_ap, eEnd_none, eEnd_some, toI_int, eSlice_ap, eBF_ap, eCall_ap, eCallK_ap, eIsI_ap, sPass_ap, sExpr_ap, sRet_ap, sRetN_ap, sAsg_ap, sIf_ap, sSeq_ap, tName_ap, tEach_nil, tEach_cons, tTup_ap, tItem_ap, pick_nil, pick_pos, pick_kw, pick_dfl, eAttr_ap, eMth_ap, eMk_ap, tAttr_ap, pF_some, isNon_non, eDicEn_ap, eRev_ap, List.set_cons_zero, List.set_cons_succ, List.length_cons, List.length_nil, truth_bl, truth_non, not_bl, not_non, tst_if, tstS_if, pBl_some, pD_some, add_int, sub_int, neg_int, lt_int, le_int, gt_int, ge_int, eq_int, ne_int, if_true, Bool.not_true, Bool.not_false, Bool.false_eq_true, if_false, and_self, List.getElem?_cons_zero, List.getElem?_cons_succ, Option.getD_some, Option.bind_some, Option.map_some]
    exact attempt hs3 nn.1 nn.2 P3 fun py pn per pa o6 o7 o8 o9 h4 fr4 hs4 P4 => ⟨_, _, _, _, _, _, _, _, _, rfl, fr3.trans fr4, hs4, P4⟩
  · rintro σ h3 ⟨py, pn, per, pa, p5, p6, p7, p8, p9, rfl, fr3, hs3, P3⟩
    exact q _ _ _ _ _ _ _ _ _ _ _ h3 (fin (fr2.trans fr3)) P3
theorem wpR_end {r : Res D} (key : wpR r fun d _ => d = .bl true) : ∃ h', r = .ok (.bl true) h' := by
  cases r with
  | ok a h => exact ⟨h, by rw [show a = .bl true from key]⟩
  | exc x h => exact key.elim
  | bad => exact key.elim
theorem first (cf : CF) {σ : Ev.Env} {h : Hh} {N : Ev.Env → Hh → Prop} {R : D → Hh → Prop} (hc : ∀ Q : D → Hh → Prop, (∀ h', Fr [] h h' → Q (.bl true) h') → wpR (cf 22 [] h) Q) (q : ∀ h', Fr [] h h' → wpS (b23_1 cf σ h') N R) : wpS (b23 cf σ h) N R := by
  unfold b23
  simp only [wpR_ok, wpR_bind, wpS_stm, wpS_seq, wpS_nx, wpS_rt, wpR_res, wpR_noExc, eConst_ap, eVar_z, eVar_s, eBin_ap, eUn_ap, eAnd_ap, eOr_ap, eIf_ap, eCmp_ap, eChain_ap, eArgs_nil, eArgs_cons, eTup_ap, eLst_wp, eItem_ap, eEnd_none, eEnd_some, toI_int, eSlice_ap, eBF_ap, eCall_ap, eCallK_ap, eIsI_ap, sPass_ap, sExpr_ap, sRet_ap, sRetN_ap, sAsg_ap, sIf_ap, sSeq_ap, tName_ap, tEach_nil, tEach_cons, tTup_ap, tItem_ap, pick_nil, pick_pos, pick_kw, pick_dfl, eAttr_ap, eMth_ap, eMk_ap, tAttr_ap, pF_some, isNon_non, eDicEn_ap, eRev_ap, List.set_cons_zero, List.set_cons_succ, List.length_cons, List.length_nil, truth_bl, truth_non, not_bl, not_non, tst_if, tstS_if, pBl_some, pD_some, add_int, sub_int, neg_int, lt_int, le_int, gt_int, ge_int, eq_int, ne_int, if_true, Bool.not_true, Bool.not_false, Bool.false_eq_true, if_false, and_self, List.getElem?_cons_zero, List.getElem?_cons_succ, Option.getD_some, Option.bind_some, Option.map_some]
  refine hc _ fun h' f => ?_
  simp only [wpR_ok, wpR_bind, wpS_stm, wpS_seq, wpS_nx, wpS_rt, wpR_res, wpR_noExc, eConst_ap, eVar_z, eVar_s, eBin_ap, eUn_ap, eAnd_ap, eOr_ap, eIf_ap, eCmp_ap, eChain_ap, eArgs_nil, eArgs_cons, eTup_ap, eLst_wp, eItem_ap, eEnd_none, eEnd_some, toI_int, eSlice_ap, eBF_ap, eCall_ap, eCallK_ap, eIsI_ap, sPass_ap, sExpr_ap, sRet_ap, sRetN_ap, sAsg_ap, sIf_ap, sSeq_ap, tName_ap, tEach_nil, tEach_cons, tTup_ap, tItem_ap, pick_nil, pick_pos, pick_kw, pick_dfl, eAttr_ap, eMth_ap, eMk_ap, tAttr_ap, pF_some, isNon_non, eDicEn_ap, eRev_ap, List.set_cons_zero, List.set_cons_succ, List.length_cons, List.length_nil, truth_bl, truth_non, not_bl, not_non, tst_if, tstS_if, pBl_some, pD_some, add_int, sub_int, neg_int, lt_int, le_int, gt_int, ge_int, eq_int, ne_int, if_true, Bool.not_true, Bool.not_false, Bool.false_eq_true, if_false, and_self, List.getElem?_cons_zero, List.getElem?_cons_succ, Option.getD_some, Option.bind_some, Option.map_some]
  exact q h' f
theorem dicD_two (h : Hh) : dicD [(.tup [.int 0, .int 0], .int 0)] h = alloc (.dic false [(k2 0 0, .int 0)]) h := rfl
theorem one_map : MapT [(k2 0 0, .int 0)] (fun u v => if u = 0 ∧ v = 0 then some 0 else none) := by
  have := MapT.nil.put 0 0 0
  have e : dput [] (k2 0 0) (.int 0) = [(k2 0 0, .int 0)] := rfl
  rw [e] at this
  exact this
theorem one_dist (v : Nat) : (if (0 : Nat) = 0 ∧ v = 0 then some (0 : Int) else none) = dist1 [] 1 0 v := by
  show _ = Bf.put (fun _ => none) 0 (0 : Int) v
  unfold Bf.put
  by_cases h : v = 0
  · rw [if_pos ⟨rfl, h⟩, if_pos h]
  · rw [if_neg (fun z => h z.2), if_neg h]
theorem keyE (h0 : Hh) (ns : List Int) (hl : ns.length ≤ 63) (e : h0[0]? = some (.lst true (ns.map .int))) : ∃ h', callN (tabOf g T) (7 + 1) 23 [.ref 0] h0 = .ok (.bl true) h' := by
  refine wpR_end ?_
  rw [u23, wpR_res]
  refine first (C 7) (fun Q q => chain q) fun h1 fr1 => ?_
  have e1 := fr1.get _ _ (by simp) e
  unfold b23_1
  simp only [wpR_ok, wpR_bind, wpS_stm, wpS_seq, wpS_nx, wpS_rt, wpR_res, wpR_noExc, eConst_ap, eVar_z, eVar_s, eBin_ap, eUn_ap, eAnd_ap, eOr_ap, eIf_ap, eCmp_ap, eChain_ap, eArgs_nil, eArgs_cons, eTup_ap, eLst_wp, eItem_ap, eEnd_none, eEnd_some, toI_int, eSlice_ap, eBF_ap, eCall_ap, eCallK_ap, eIsI_ap, sPass_ap, sExpr_ap, sRet_ap, sRetN_ap, sAsg_ap, sIf_ap, sSeq_ap, tName_ap, tEach_nil, tEach_cons, tTup_ap, tItem_ap, pick_nil, pick_pos, pick_kw, pick_dfl, eAttr_ap, eMth_ap, eMk_ap, tAttr_ap, pF_some, isNon_non, eDicEn_ap, eRev_ap, List.set_cons_zero, List.set_cons_succ, List.length_cons, List.length_nil, truth_bl, truth_non, not_bl, not_non, tst_if, tstS_if, pBl_some, pD_some, add_int, sub_int, neg_int, lt_int, le_int, gt_int, ge_int, eq_int, ne_int, if_true, Bool.not_true, Bool.not_false, Bool.false_eq_true, if_false, and_self, List.getElem?_cons_zero, List.getElem?_cons_succ, Option.getD_some, Option.bind_some, Option.map_some]
  refine alloc_wp fun b2 h2 eb2 fr2 l2 => ?_
  refine alloc_wp fun y h3 ey fr3 l3 => ?_
  have n0 : VE [] 1 := fun e he => absurd he (by simp)
  refine init_wp (k := 3) (n := 1) (E := []) dc.toDcT ey (fr3.get _ _ (by simp) eb2) (by decide) (by decide) (by decide) n0 fun h4 e' oc S fr4 le lc => ?_
  have ocn : oc = .non := by
    rcases S.cyc with ⟨z, _⟩ | ⟨_, z⟩
    · exact z
    · exact absurd (Bf.conv n0 (fun u l w => by cases l with | nil => exact Int.le_refl 0 | cons e r => exact absurd w.1 (by simp)) (zer_dom 1 _)) z
  subst ocn
  simp only [wpR_ok, wpR_bind, wpS_stm, wpS_seq, wpS_nx, wpS_rt, wpR_res, wpR_noExc, eConst_ap, eVar_z, eVar_s, eBin_ap, eUn_ap, eAnd_ap, eOr_ap, eIf_ap, eCmp_ap, eChain_ap, eArgs_nil, eArgs_cons, eTup_ap, eLst_wp, eItem_ap, eEnd_none, eEnd_some, toI_int, eSlice_ap, eBF_ap, eCall_ap, eCallK_ap, eIsI_ap, sPass_ap, sExpr_ap, sRet_ap, sRetN_ap, sAsg_ap, sIf_ap, sSeq_ap, tName_ap, tEach_nil, tEach_cons, tTup_ap, tItem_ap, pick_nil, pick_pos, pick_kw, pick_dfl, eAttr_ap, eMth_ap, eMk_ap, tAttr_ap, pF_some, isNon_non, eDicEn_ap, eRev_ap, List.set_cons_zero, List.set_cons_succ, List.length_cons, List.length_nil, truth_bl, truth_non, not_bl, not_non, tst_if, tstS_if, pBl_some, pD_some, add_int, sub_int, neg_int, lt_int, le_int, gt_int, ge_int, eq_int, ne_int, if_true, Bool.not_true, Bool.not_false, Bool.false_eq_true, if_false, and_self, List.getElem?_cons_zero, List.getElem?_cons_succ, Option.getD_some, Option.bind_some, Option.map_some]
  refine alloc_wp fun er h5 eer fr5 l5 => ?_
  simp only [wpR_ok, wpR_bind, wpS_stm, wpS_seq, wpS_nx, wpS_rt, wpR_res, wpR_noExc, eConst_ap, eVar_z, eVar_s, eBin_ap, eUn_ap, eAnd_ap, eOr_ap, eIf_ap, eCmp_ap, eChain_ap, eArgs_nil, eArgs_cons, eTup_ap, eLst_wp, eItem_ap, eEnd_none, eEnd_some, toI_int, eSlice_ap, eBF_ap, eCall_ap, eCallK_ap, eIsI_ap, sPass_ap, sExpr_ap, sRet_ap, sRetN_ap, sAsg_ap, sIf_ap, sSeq_ap, tName_ap, tEach_nil, tEach_cons, tTup_ap, tItem_ap, pick_nil, pick_pos, pick_kw, pick_dfl, eAttr_ap, eMth_ap, eMk_ap, tAttr_ap, pF_some, isNon_non, eDicEn_ap, eRev_ap, List.set_cons_zero, List.set_cons_succ, List.length_cons, List.length_nil, truth_bl, truth_non, not_bl, not_non, tst_if, tstS_if, pBl_some, pD_some, add_int, sub_int, neg_int, lt_int, le_int, gt_int, ge_int, eq_int, ne_int, if_true, Bool.not_true, Bool.not_false, Bool.false_eq_true, if_false, and_self, List.getElem?_cons_zero, List.getElem?_cons_succ, Option.getD_some, Option.bind_some, Option.map_some, eDic_ap, eDict_cons, eDict_nil, dicD_two]
  refine alloc_wp fun a h6 ea fr6 l6 => ?_
  have f03 := (fr1.trans fr2).trans fr3
  have f06 : Fr [] h0 h6 := ((f03.then fr4 fun j hj => by simp at hj; exact .inr (by have := (fr1.trans fr2).len; omega)).trans fr5).trans fr6
  have e6 := f06.get _ _ (by simp) e
  have P6 : Sy h6 y 1 er a := ⟨e', [], _, _, S.fr0 (fr5.trans fr6), fr6.get _ _ (by simp) eer, ea, one_map, fun s v hs => by
    have : s = 0 := by omega
    subst this
    exact one_dist v, n0, fun e he => absurd he (by simp), by decide, by decide, by decide⟩
  unfold b23_2
  simp only [wpR_ok, wpR_bind, wpS_stm, wpS_seq, wpS_nx, wpS_rt, wpR_res, wpR_noExc, eConst_ap, eVar_z, eVar_s, eBin_ap, eUn_ap, eAnd_ap, eOr_ap, eIf_ap, eCmp_ap, eChain_ap, eArgs_nil, eArgs_cons, eTup_ap, eLst_wp, eItem_ap, eEnd_none, eEnd_some, toI_int, eSlice_ap, eBF_ap, eCall_ap, eCallK_ap, eIsI_ap, sPass_ap, sExpr_ap, sRet_ap, sRetN_ap, sAsg_ap, sIf_ap, sSeq_ap, tName_ap, tEach_nil, tEach_cons, tTup_ap, tItem_ap, pick_nil, pick_pos, pick_kw, pick_dfl, eAttr_ap, eMth_ap, eMk_ap, tAttr_ap, pF_some, isNon_non, eDicEn_ap, eRev_ap, List.set_cons_zero, List.set_cons_succ, List.length_cons, List.length_nil, truth_bl, truth_non, not_bl, not_non, tst_if, tstS_if, pBl_some, pD_some, add_int, sub_int, neg_int, lt_int, le_int, gt_int, ge_int, eq_int, ne_int, if_true, Bool.not_true, Bool.not_false, Bool.false_eq_true, if_false, and_self, List.getElem?_cons_zero, List.getElem?_cons_succ, Option.getD_some, Option.bind_some, Option.map_some]
  refine sFor_wp ?_
  have ll : (ns.map D.int).length = ns.length := List.length_map ..
  obtain ⟨n, hn⟩ : ∃ n : Int, max 1 (min (ns.length : Int) 5) = n := ⟨_, rfl⟩
  have rE : iRange [(eBF .max2 [(eConst (.int 1)), (eBF .min2 [(eBF .len [(eVar 0)]), (eConst (.int 5))])])] [some (.ref 0), some (prev y 1 er a), none, none, none, none, none, none, none, none] h6 = .ok ⟨(List.range n.toNat).map fun k => .int ((k : Nat) : Int), none, none⟩ h6 := by
    refine rng_ap ?_ (by omega) (by omega)
    simp only [eArgs_cons, eArgs_nil, eBF_ap, eConst_ap, eVar_z, Res.bind_ok, len_ref e6, ll, min_int, max_int, hn]
  have rE' : iRange [(eBF .max2 [(eConst (.int 1)), (eBF .min2 [(eBF .len [(eVar 0)]), (eConst (.int 5))])])] [some (.ref 0), some (.tup [.ref y, .int 1, .ref er, .ref a]), none, none, none, none, none, none, none, none] h6 = .ok ⟨(List.range n.toNat).map fun k => .int ((k : Nat) : Int), none, none⟩ h6 := rE
  rw [rE']
  refine ⟨rfl, ?_⟩
  refine forL_wp (fun i σ h' => ∃ py pn per pa o2 o3 o4 o5 o6 o7 o8 o9, σ = [some (.ref 0), some (prev py pn per pa), o2, o3, o4, o5, o6, o7, o8, o9] ∧ h'[0]? = some (.lst true (ns.map .int)) ∧ Sy h' py pn per pa) (fun _ _ _ _ => rfl) ?_ ?_ ⟨y, 1, er, a, _, _, _, _, _, _, _, _, rfl, e6, P6⟩
  · rintro i x σ h' hx ⟨py, pn, per, pa, o2, o3, o4, o5, o6, o7, o8, o9, rfl, e', P'⟩
    have hi : i < n.toNat := by
      have := (List.getElem?_eq_some_iff.mp hx).1
      rwa [List.length_map, List.length_range] at this
    have ex : x = .int (i : Nat) := by
      rw [List.getElem?_map, List.getElem?_range hi] at hx
      simpa using hx.symm
    subst ex
    simp only [wpR_ok, wpR_bind, wpS_stm, wpS_seq, wpS_nx, wpS_rt, wpR_res, wpR_noExc, eConst_ap, eVar_z, eVar_s, eBin_ap, eUn_ap, eAnd_ap, eOr_ap, eIf_ap, eCmp_ap, eChain_ap, eArgs_nil, eArgs_cons, eTup_ap, eLst_wp, eItem_ap, eEnd_none, eEnd_some, toI_int, eSlice_ap, eBF_ap, eCall_ap, eCallK_ap, eIsI_ap, sPass_ap, sExpr_ap, sRet_ap, sRetN_ap, sAsg_ap, sIf_ap, sSeq_ap, tName_ap, tEach_nil, tEach_cons, tTup_ap, tItem_ap, pick_nil, pick_pos, pick_kw, pick_dfl, eAttr_ap, eMth_ap, eMk_ap, tAttr_ap, pF_some, isNon_non, eDicEn_ap, eRev_ap, List.set_cons_zero, List.set_cons_succ, List.length_cons, List.length_nil, truth_bl, truth_non, not_bl, not_non, tst_if, tstS_if, pBl_some, pD_some, add_int, sub_int, neg_int, lt_int, le_int, gt_int, ge_int, eq_int, ne_int, if_true, Bool.not_true, Bool.not_false, Bool.false_eq_true, if_false, and_self, List.getElem?_cons_zero, List.getElem?_cons_succ, Option.getD_some, Option.bind_some, Option.map_some]
    exact cell e' P' (by omega) (by omega) fun py pn per pa o3 o4 o5 o6 o7 o8 o9 h'' a b => ⟨py, pn, per, pa, _, o3, o4, o5, o6, o7, o8, o9, rfl, a, b⟩
  · rintro σ h' ⟨py, pn, per, pa, o2, o3, o4, o5, o6, o7, o8, o9, rfl, e', P'⟩
    unfold b23_3
    simp only [wpR_ok, wpR_bind, wpS_stm, wpS_seq, wpS_nx, wpS_rt, wpR_res, wpR_noExc, eConst_ap, eVar_z, eVar_s, eBin_ap, eUn_ap, eAnd_ap, eOr_ap, eIf_ap, eCmp_ap, eChain_ap, eArgs_nil, eArgs_cons, eTup_ap, eLst_wp, eItem_ap, eEnd_none, eEnd_some, toI_int, eSlice_ap, eBF_ap, eCall_ap, eCallK_ap, eIsI_ap, sPass_ap, sExpr_ap, sRet_ap, sRetN_ap, sAsg_ap, sIf_ap, sSeq_ap, tName_ap, tEach_nil, tEach_cons, tTup_ap, tItem_ap, pick_nil, pick_pos, pick_kw, pick_dfl, eAttr_ap, eMth_ap, eMk_ap, tAttr_ap, pF_some, isNon_non, eDicEn_ap, eRev_ap, List.set_cons_zero, List.set_cons_succ, List.length_cons, List.length_nil, truth_bl, truth_non, not_bl, not_non, tst_if, tstS_if, pBl_some, pD_some, add_int, sub_int, neg_int, lt_int, le_int, gt_int, ge_int, eq_int, ne_int, if_true, Bool.not_true, Bool.not_false, Bool.false_eq_true, if_false, and_self, List.getElem?_cons_zero, List.getElem?_cons_succ, Option.getD_some, Option.bind_some, Option.map_some]
theorem hlaw (ns : List Int) (hl : ns.length ≤ 63) (hb : ∀ z ∈ ns, Builtin.Int.intBits z ≤ 1048576) : ∃ h', run [.ref 0] [.lst true (ns.map D.int)] = .ok (.bl true) h' := keyE _ ns hl rfl
end K21

set_option maxRecDepth 100000
open PySem PySem.W PyProof.Rows
set_option maxRecDepth 100000 in
set_option maxHeartbeats 0 in
theorem PySem.Challenge.cw_clockbounds_k21_whole_upper_bounds_by_al_holds : PySem.Challenge.rw_clockbounds_k21_whole_upper_bounds_by_al.Holds := by
  w_on; o_law; k_head; (case hw => w_witness2)
  k_fill
  refine K21.walk (l := PySem.Challenge.rw_clockbounds_k21_whole_upper_bounds_by_al) rfl rfl rfl K21.hlaw (fun w h Y => PySem.W.kIn_of Y) ?F
  case F =>
    intro w mg fa h KX G hmg
    refine' K21.all_mk KX G hmg ?C0a ?a0 ?l0 ?c0 ?k0 ?a1 ?l1 ?c1 ?k1 ?a2 ?l2 ?c2 ?k2 ?a3 ?i3 ?l3 ?c3 ?k3 ?a4 ?i4 ?l4 ?c4 ?k4 ?a5 ?i5 ?l5 ?c5 ?k5 ?a6 ?i6 ?l6 ?c6 ?k6 ?a7 ?i7 ?l7 ?c7 ?k7 ?a8 ?i8 ?l8 ?c8 ?k8 ?a9 ?i9 ?l9 ?c9 ?k9 ?a10 ?i10 ?l10 ?c10 ?k10 ?a11 ?i11 ?l11 ?c11 ?k11 ?a12 ?i12 ?l12 ?c12 ?k12 ?a13 ?i13 ?l13 ?c13 ?k13 ?a14 ?i14 ?l14 ?c14 ?k14 ?a15 ?i15 ?l15 ?c15 ?k15 ?a16 ?l16 ?c16 ?k16 ?a17 ?l17 ?c17 ?k17 ?a18 ?l18 ?c18 ?k18 ?a19 ?l19 ?c19 ?k19 ?a20 ?l20 ?c20 ?k20 ?a21 ?l21 ?c21 ?k21 ?a22 ?l22 ?c22 ?k22 ?a23 ?l23 ?c23 ?k23 ?z0 ?z1 ?z2 ?z3 ?z4 ?z5 ?z6 ?z7 ?z8 ?z9 ?z10 ?z11 ?z12 ?z13 ?z14 ?z15 ?z16 ?z17 ?C0pg ?C0hd ?C0po ?C0sa ?C0mk ?C0kc ?C0ic ?C0mr ?C0n0_ ?C0n1_ ?C0n2_ ?C0o0_ ?C0p0_ ?C0r0_ ?C0p1_ ?C0r1_ ?C0p2_ ?C0r2_ ?C0p3_ ?C0r3_ ?C0p4_ ?C0r4_ ?C0p5_ ?C0r5_ ?C0p6_ ?C0r6_ ?xg ?xt ?nl
    (case C0a => k_is); (case a0 => k_is); (case l0 => k_is); (case c0 => k_is); (case k0 => k_is); (case a1 => k_is); (case l1 => k_is); (case c1 => k_is); (case k1 => k_is); (case a2 => k_is); (case l2 => k_is); (case c2 => k_is); (case k2 => k_is); (case a3 => k_is); (case i3 => k_is); (case l3 => k_is); (case c3 => k_is); (case k3 => k_is); (case a4 => k_is); (case i4 => k_is); (case l4 => k_is); (case c4 => k_is); (case k4 => k_is); (case a5 => k_is); (case i5 => k_is); (case l5 => k_is); (case c5 => k_is); (case k5 => k_is); (case a6 => k_is); (case i6 => k_is); (case l6 => k_is); (case c6 => k_is); (case k6 => k_is); (case a7 => k_is); (case i7 => k_is); (case l7 => k_is); (case c7 => k_is); (case k7 => k_is); (case a8 => k_is); (case i8 => k_is); (case l8 => k_is); (case c8 => k_is); (case k8 => k_is); (case a9 => k_is); (case i9 => k_is); (case l9 => k_is); (case c9 => k_is); (case k9 => k_is); (case a10 => k_is); (case i10 => k_is); (case l10 => k_is); (case c10 => k_is); (case k10 => k_is); (case a11 => k_is); (case i11 => k_is); (case l11 => k_is); (case c11 => k_is); (case k11 => k_is); (case a12 => k_is); (case i12 => k_is); (case l12 => k_is); (case c12 => k_is); (case k12 => k_is); (case a13 => k_is); (case i13 => k_is); (case l13 => k_is); (case c13 => k_is); (case k13 => k_is); (case a14 => k_is); (case i14 => k_is); (case l14 => k_is); (case c14 => k_is); (case k14 => k_is); (case a15 => k_is); (case i15 => k_is); (case l15 => k_is); (case c15 => k_is); (case k15 => k_is); (case a16 => k_is); (case l16 => k_is); (case c16 => k_is); (case k16 => k_is); (case a17 => k_is); (case l17 => k_is); (case c17 => k_is); (case k17 => k_is); (case a18 => k_is); (case l18 => k_is); (case c18 => k_is); (case k18 => k_is); (case a19 => k_is); (case l19 => k_is); (case c19 => k_is); (case k19 => k_is); (case a20 => k_is); (case l20 => k_is); (case c20 => k_is); (case k20 => k_is); (case a21 => k_is); (case l21 => k_is); (case c21 => k_is); (case k21 => k_is); (case a22 => k_is); (case l22 => k_is); (case c22 => k_is); (case k22 => k_is); (case a23 => k_is); (case l23 => k_is); (case c23 => k_is); (case k23 => k_is); (case z0 => k_is); (case z1 => k_is); (case z2 => k_is); (case z3 => k_is); (case z4 => k_is); (case z5 => k_is); (case z6 => k_is); (case z7 => k_is); (case z8 => k_is); (case z9 => k_is); (case z10 => k_is); (case z11 => k_is); (case z12 => k_is); (case z13 => k_is); (case z14 => k_is); (case z15 => k_is); (case z16 => k_is); (case z17 => k_is); (case C0pg => k_is); (case C0hd => k_is); (case C0po => k_is); (case C0sa => k_is); (case C0mk => k_is); (case C0kc => k_is); (case C0ic => k_is); (case C0mr => k_is); (case C0n0_ => k_is); (case C0n1_ => k_is); (case C0n2_ => k_is); (case C0o0_ => first | rfl | kernel_rfl); (case C0p0_ => first | rfl | kernel_rfl); (case C0r0_ => first | rfl | kernel_rfl); (case C0p1_ => first | rfl | kernel_rfl); (case C0r1_ => first | rfl | kernel_rfl); (case C0p2_ => first | rfl | kernel_rfl); (case C0r2_ => first | rfl | kernel_rfl); (case C0p3_ => first | rfl | kernel_rfl); (case C0r3_ => first | rfl | kernel_rfl); (case C0p4_ => first | rfl | kernel_rfl); (case C0r4_ => first | rfl | kernel_rfl); (case C0p5_ => first | rfl | kernel_rfl); (case C0r5_ => first | rfl | kernel_rfl); (case C0p6_ => first | rfl | kernel_rfl); (case C0r6_ => first | rfl | kernel_rfl); (case xg => k_is); (case xt => k_is); (case nl => rfl)
