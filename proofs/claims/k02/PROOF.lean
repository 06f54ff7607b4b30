import PyProof.Rows.All
import HandS.ForMost
import HandS.Flow
import HandS.Star
import HandS.IsInst
import HandS.Zip
import HandS.Rev
import HandS.RevRange
import HandS.TupAny
import HandS.TupMul
import HandS.TupLe
import HandS.Wide
import HandS.Walk
import HandS.RaiseMore
import KE.GoesMore
import KE.GoesEnum
import HandS.Conv
import HandS.Style
import HandS.Defaults
import HandS.Head0
import HandS.Head1
import HandS.Head2
import HandS.HeadEnd
import HandS.HeadHook1
import HandS.HeadHook2
import PySem.Challenge.RW_tabletongue_k02_places_and_questions
set_option Elab.async false
set_option linter.all false
set_option maxRecDepth 100000
/-! An evaluator of our own for a part of Python: plain values, a store of cells, own syntax. -/
namespace TT
open PySem L2

/-! ### values, cells, the store -/
inductive Val where
  | non
  | bl (b : Bool)
  | int (i : Int)
  | str (s : Str)
  | tup (vs : List Val)
  | flst (is : List Int)
  | loc (n : Nat)

mutual
def Val.beq : Val → Val → Bool
  | .non, .non => true
  | .bl a, .bl b => a == b
  | .int a, .int b => a == b
  | .str a, .str b => decide (a = b)
  | .tup a, .tup b => Vals.beq a b
  | .flst a, .flst b => a == b
  | .loc a, .loc b => a == b
  | _, _ => false
def Vals.beq : List Val → List Val → Bool
  | [], [] => true
  | x :: xs, y :: ys => x.beq y && Vals.beq xs ys
  | _, _ => false
end
mutual
theorem Val.eq_of_beq : ∀ {a b : Val}, a.beq b = true → a = b
  | .non, b, h => by cases b <;> simp_all [Val.beq]
  | .bl x, b, h => by cases b <;> simp_all [Val.beq]
  | .int x, b, h => by cases b <;> simp_all [Val.beq]
  | .str x, b, h => by cases b <;> simp_all [Val.beq]
  | .tup x, b, h => by
    cases b <;> simp only [Val.beq, Bool.false_eq_true] at h
    rw [Vals.eq_of_beq h]
  | .flst x, b, h => by cases b <;> simp_all [Val.beq]
  | .loc x, b, h => by cases b <;> simp_all [Val.beq]
theorem Vals.eq_of_beq : ∀ {a b : List Val}, Vals.beq a b = true → a = b
  | [], b, h => by cases b <;> simp_all [Vals.beq]
  | x :: xs, b, h => by
    cases b <;> simp only [Vals.beq, Bool.false_eq_true, Bool.and_eq_true] at h
    rw [Val.eq_of_beq h.1, Vals.eq_of_beq h.2]
end
mutual
theorem Val.beq_self : ∀ a : Val, a.beq a = true
  | .non => rfl
  | .bl x => by simp [Val.beq]
  | .int x => by simp [Val.beq]
  | .str x => by simp [Val.beq]
  | .tup x => by simp only [Val.beq]; exact Vals.beq_self x
  | .flst x => by simp [Val.beq]
  | .loc x => by simp [Val.beq]
theorem Vals.beq_self : ∀ a : List Val, Vals.beq a a = true
  | [] => rfl
  | x :: xs => by simp only [Vals.beq, Bool.and_eq_true]; exact ⟨Val.beq_self x, Vals.beq_self xs⟩
end
instance : BEq Val := ⟨Val.beq⟩
instance : LawfulBEq Val where
  eq_of_beq := Val.eq_of_beq
  rfl {a} := Val.beq_self a
instance : DecidableEq Val := fun a b => if h : a.beq b = true then isTrue (Val.eq_of_beq h) else isFalse fun e => h (e ▸ Val.beq_self a)

inductive Cell where
  | lst (xs : List Val)
  | dK (kvs : List (Key × Val))
  deriving DecidableEq
abbrev Sto := List Cell
abbrev VEnv := List (Option Val)

inductive Res (α : Type) where
  | ok (a : α) (st : Sto)
  | exc (c : Nat) (fs : List (Str × Val)) (st : Sto)
  | bad
def Res.bind {α β : Type} (r : Res α) (f : α → Sto → Res β) : Res β :=
  match r with
  | .ok a st => f a st
  | .exc c fs st => .exc c fs st
  | .bad => .bad
@[simp] theorem Res.bind_ok {α β : Type} {a : α} {st : Sto} {f : α → Sto → Res β} : (Res.ok a st).bind f = f a st := rfl
theorem Res.bind_eq {α β : Type} {r : Res α} {f : α → Sto → Res β} {b : β} {st' : Sto} (h : r.bind f = .ok b st') : ∃ a st, r = .ok a st ∧ f a st = .ok b st' := by
  cases r with
  | ok a st => exact ⟨a, st, rfl, h⟩
  | exc c fs st => cases h
  | bad => cases h
theorem Res.bind_assoc {α β γ : Type} (r : Res α) (f : α → Sto → Res β) (g : β → Sto → Res γ) : (r.bind f).bind g = r.bind fun a st => (f a st).bind g := by
  cases r <;> rfl

/-- what a statement does -/
inductive Fl where
  | nx (env : VEnv) (st : Sto)
  | rt (v : Val) (st : Sto)
  | bk (env : VEnv) (st : Sto)
  | ct (env : VEnv) (st : Sto)
  | exc (c : Nat) (fs : List (Str × Val)) (st : Sto)
  | bad

/-! ### own syntax -/
inductive Blt where
  | len | tuple | list | sum | all | any | abs | max | min | int | repr | range | zip | enum | rev | bool | str | sorted
  deriving DecidableEq
inductive E where
  | c (v : Val)
  | v (i : Nat)
  | g (x : Str) (v : Val)
  | nil
  | cons (e es : E)
  | star (e es : E)
  | tup (es : E)
  | lst (es : E)
  | dct
  | bin (op : Operator) (a b : E)
  | neg (a : E)
  | not (a : E)
  | and (a b : E)
  | or (a b : E)
  | cmp (op : CmpOp) (a b : E)
  | chain (o1 o2 : CmpOp) (a b c : E)
  | ite (t a b : E)
  | call (f : Nat) (es : E)
  | bc (b : Blt) (es : E)
  | isi (a : E) (ty : String)
  | idx (a i : E)
  | sl (a lo hi : E)
  | app (o x : E)
  | ext (o x : E)
  | pop (o : E)
  | lc (elt : E) (own : List Nat) (tg : List Nat) (one : Bool) (ib : Option Blt) (it cnd : E)
  | rgl (a : E)
  | rgl2 (a b : E)
  | rvs (a : E)
  | lc2 (elt : E) (own : List Nat) (tg : List Nat) (one : Bool) (ib : Option Blt) (it cnd : E) (own1 tg1 : List Nat) (one1 : Bool) (ib1 : Option Blt) (it1 cnd1 : E)

inductive S where
  | skip
  | seq (a b : S)
  | set (i : Nat) (e : E)
  | asg (is : List Nat) (e : E)
  | par (i j : Nat) (a b : E)
  | store (o i e : E)
  | aug (i : Nat) (op : Operator) (e : E)
  | expr (e : E)
  | ret (e : E)
  | retN
  | iff (c : E) (a b : S)
  | for (tg : List Nat) (one : Bool) (ib : Option Blt) (it : E) (b : S)
  | while (fuel : Nat) (c : E) (b : S)
  | brk
  | cont
  | pass
  | never

/-! ### reading data -/
mutual
def Val.toD (f : Nat → Option PyData) : Val → Option PyData
  | .non => some .none
  | .bl b => some (.bool b)
  | .int i => some (.int i)
  | .str s => some (.str s)
  | .tup vs => (toDs f vs).map PyData.tuple
  | .flst is => some (.list (is.map PyData.int))
  | .loc n => f n
def toDs (f : Nat → Option PyData) : List Val → Option (List PyData)
  | [] => some []
  | v :: vs => match v.toD f, toDs f vs with
    | some d, some ds => some (d :: ds)
    | _, _ => none
end
def locD (st : Sto) : Nat → Nat → Option PyData
  | 0, _ => none
  | k + 1, n => match st[n]? with
    | some (.lst xs) => (toDs (locD st k) xs).map PyData.list
    | _ => none
def rdD (st : Sto) (v : Val) : Option PyData := v.toD (locD st 4)

def alloc (c : Cell) (st : Sto) : Res Val := .ok (.loc st.length) (st ++ [c])
def truthV (st : Sto) : Val → Option Bool
  | .non => some false
  | .bl b => some b
  | .int i => some (i != 0)
  | .str s => if s.length ≤ sizeLine then some ((s.length : Int) != 0) else none
  | .tup vs => some (!vs.isEmpty)
  | .flst is => some (!is.isEmpty)
  | .loc n => match st[n]? with
    | some (.lst xs) => some (!xs.isEmpty)
    | some (.dK kvs) => some (!kvs.isEmpty)
    | none => none
def tyName (st : Sto) : Val → Option String
  | .non => some "NoneType"
  | .bl _ => some "bool"
  | .int _ => some "int"
  | .str _ => some "str"
  | .tup _ => some "tuple"
  | .flst _ => some "list"
  | .loc n => match st[n]? with
    | some (.lst _) => some "list"
    | some (.dK _) => some "dict"
    | none => none
def isiV (t n : String) : Option Bool :=
  if ["int", "bool", "str", "tuple", "list", "dict"].contains t then some (t == n || (t == "int" && n == "bool")) else none

/-! ### operators -/
def mulOk (i j : Int) : Bool := decide (i.natAbs.log2 + j.natAbs.log2 < 1000000)
def liftO {α : Type} (o : Option α) (st : Sto) : Res α := match o with
  | some a => .ok a st
  | none => .bad
def repV (vs : List Val) (k : Int) : List Val := (List.replicate k.toNat vs).flatten
def binV (op : Operator) (x y : Val) (st : Sto) : Res Val :=
  match op, x, y with
  | .Add, .int i, .int j => .ok (.int (i + j)) st
  | .Add, .str i, .str j => if i.length + j.length ≤ sizeLine then .ok (.str (i ++ j)) st else .bad
  | .Add, .tup a, .tup b => if a.length + b.length ≤ sizeLine then .ok (.tup (a ++ b)) st else .bad
  | .Add, .loc m, .loc n => match st[m]?, st[n]? with
    | some (.lst a), some (.lst b) => if a.length + b.length ≤ sizeLine then alloc (.lst (a ++ b)) st else .bad
    | _, _ => .bad
  | .Sub, .int i, .int j => .ok (.int (i - j)) st
  | .Mult, .int i, .int j => if mulOk i j = true then .ok (.int (i * j)) st else .bad
  | .Mult, .tup a, .int k => if a ≠ [] ∧ a.length ≤ 1000 ∧ 1 < k ∧ k ≤ 1000 then .ok (.tup (repV a k)) st else .bad
  | .Mult, .loc m, .int k => match st[m]? with
    | some (.lst a) => if -(2 ^ 63) ≤ k ∧ k < 2 ^ 63 ∧ a.length * k.toNat ≤ sizeLine then alloc (.lst (repV a k)) st else .bad
    | _ => .bad
  | .Mod, .int i, .int j => if 0 < j then .ok (.int (i % j)) st else .bad
  | .FloorDiv, .int i, .int j => if 0 < j ∧ j.natAbs.log2 < 9000 then .ok (.int (i / j)) st else .bad
  | .Pow, .int i, .int j => if 0 ≤ j ∧ (Builtin.Int.intBits i : Int) * j ≤ 2 ^ 27 then .ok (.int (i ^ j.toNat)) st else .bad
  | _, _, _ => .bad
def flatB : Val → Bool
  | .non => true
  | .bl _ => true
  | .int _ => true
  | .str _ => true
  | _ => false
/-- == of flat ones -/
def eqF : Val → Val → Bool
  | .non, .non => true
  | .bl a, .bl b => a == b
  | .bl a, .int j => (if a then 1 else 0) == j
  | .int i, .bl b => i == (if b then 1 else 0)
  | .int i, .int j => i == j
  | .str a, .str b => decide (a = b)
  | _, _ => false
def inF (x : Val) (xs : List Val) : Option Bool := if flatB x = true ∧ xs.all flatB = true then some (xs.any fun y => eqF y x) else none
def seqOf (st : Sto) : Val → Option (List Val)
  | .tup vs => some vs
  | .flst is => some (is.map .int)
  | .loc n => match st[n]? with
    | some (.lst xs) => some xs
    | _ => none
  | _ => none
def eqV (st : Sto) (x y : Val) : Option Bool :=
  match rdD st x, rdD st y with
  | some d, some e => if SeqAt.shaped d = true ∧ SeqAt.shaped e = true then some (PyData.eqv d e) else none
  | _, _ => none
def isN : Val → Bool
  | .non => true
  | _ => false
def cmpV (op : CmpOp) (x y : Val) (st : Sto) : Option Bool :=
  match op with
  | .Eq => eqV st x y
  | .NotEq => (eqV st x y).map (!·)
  | .Lt => match x, y with
    | .int i, .int j => some (decide (i < j))
    | _, _ => none
  | .LtE => match x, y with
    | .int i, .int j => some (decide (i ≤ j))
    | _, _ => none
  | .Gt => match x, y with
    | .int i, .int j => some (decide (j < i))
    | _, _ => none
  | .GtE => match x, y with
    | .int i, .int j => some (decide (j ≤ i))
    | _, _ => none
  | .Is => if isN y = true then some (isN x) else none
  | .IsNot => if isN y = true then some (!isN x) else none
  | .In => (seqOf st y).bind (inF x)
  | .NotIn => ((seqOf st y).bind (inF x)).map (!·)
def cmpR (op : CmpOp) (x y : Val) (st : Sto) : Res Val := liftO ((cmpV op x y st).map .bl) st
def asInt : Val → Option Int
  | .int i => some i
  | _ => none
def asInts : List Val → Option (List Int)
  | [] => some []
  | .int i :: r => (asInts r).map (i :: ·)
  | _ :: _ => none
def asBls : List Val → Option (List Bool)
  | [] => some []
  | .bl i :: r => (asBls r).map (i :: ·)
  | _ :: _ => none
def bltV (b : Blt) (vs : List Val) (st : Sto) : Res Val :=
  match b, vs with
  | .len, [.str s] => if s.length ≤ sizeLine then .ok (.int s.length) st else .bad
  | .len, [x] => match seqOf st x with
    | some xs => .ok (.int xs.length) st
    | none => .bad
  | .tuple, [x] => match seqOf st x with
    | some xs => .ok (.tup xs) st
    | none => .bad
  | .list, [x] => match seqOf st x with
    | some xs => alloc (.lst xs) st
    | none => .bad
  | .sum, [.flst is] => .ok (.int is.sum) st
  | .sum, [.loc n] => match (seqOf st (.loc n)).bind asInts with
    | some is => .ok (.int is.sum) st
    | none => .bad
  | .all, [.loc n] => match (seqOf st (.loc n)).bind asBls with
    | some bs => .ok (.bl (bs.all id)) st
    | none => .bad
  | .any, [.loc n] => match (seqOf st (.loc n)).bind asBls with
    | some bs => .ok (.bl (bs.any id)) st
    | none => .bad
  | .abs, [.int i] => .ok (.int (if i < 0 then -i else i)) st
  | .max, [.int i, .int j] => .ok (.int (if j > i then j else i)) st
  | .min, [.int i, .int j] => .ok (.int (if j < i then j else i)) st
  | .int, [.int i] => .ok (.int i) st
  | .int, [.bl b] => .ok (.int (if b then 1 else 0)) st
  | .repr, [x] => match rdD st x with
    | some d => if d.showable = true ∧ d.hasDict = false ∧ d.depth ≤ 60 ∧ d.shown.length ≤ sizeLine then .ok (.str d.shown) st else .bad
    | none => .bad
  | _, _ => .bad
def ixV (n : Nat) (i : Int) : Option Nat := L2.ixN n i
def idxV (x y : Val) (st : Sto) : Res Val :=
  match x, y with
  | .str z, .int i => if z.length ≤ sizeLine then (match L2.atI z.cps.toList i with
    | some c => .ok (.str ⟨#[c]⟩) st
    | none => .bad) else .bad
  | x, .int i => match (seqOf st x).bind fun xs => L2.atI xs i with
    | some v => .ok v st
    | none => .bad
  | _, _ => .bad
def cutL {α : Type} (xs : List α) (lo hi : Option Int) : List α := (xs.drop (HT.sIx xs.length 0 lo)).take (HT.sIx xs.length xs.length hi - HT.sIx xs.length 0 lo)
def slV (x : Val) (lo hi : Option Int) (st : Sto) : Res Val :=
  match x with
  | .tup vs => .ok (.tup (cutL vs lo hi)) st
  | .flst is => alloc (.lst ((cutL is lo hi).map .int)) st
  | .loc n => match st[n]? with
    | some (.lst xs) => alloc (.lst (cutL xs lo hi)) st
    | _ => .bad
  | _ => .bad
def isL (o : Val) (st : Sto) : Bool := match o with
  | .loc n => match st[n]? with
    | some (.lst _) => true
    | _ => false
  | _ => false
def appV (o x : Val) (st : Sto) : Res Val :=
  match o with
  | .loc n => match st[n]? with
    | some (.lst xs) => if xs.length < sizeLine then .ok .non (st.set n (.lst (xs ++ [x]))) else .bad
    | _ => .bad
  | _ => .bad
def extV (o x : Val) (st : Sto) : Res Val :=
  match o, x with
  | .loc n, .loc m => match st[n]?, st[m]? with
    | some (.lst xs), some (.lst ys) => if xs.length + ys.length ≤ sizeLine then .ok .non (st.set n (.lst (xs ++ ys))) else .bad
    | _, _ => .bad
  | _, _ => .bad
def popV (o : Val) (st : Sto) : Res Val :=
  match o with
  | .loc n => match st[n]? with
    | some (.lst xs) => match xs[xs.length - 1]? with
      | some y => .ok y (st.set n (.lst xs.dropLast))
      | none => .bad
    | _ => .bad
  | _ => .bad
def storeV (o i v : Val) (st : Sto) : Option Sto :=
  match o, i with
  | .loc n, .int k => match st[n]? with
    | some (.lst xs) => match L2.ixN xs.length k with
      | some j => some (st.set n (.lst (xs.set j v)))
      | none => none
    | _ => none
  | _, _ => none

/-! ### what is walked: the items, and the lists that must stay -/
abbrev Watch := List (Nat × List Val)
def wOk (w : Watch) (st : Sto) : Bool := w.all fun p => decide (st[p.1]? = some (Cell.lst p.2))
def itemsOf (st : Sto) : Val → Option (List Val × Watch)
  | .tup vs => some (vs, [])
  | .flst is => some (is.map .int, [])
  | .loc n => match st[n]? with
    | some (.lst xs) => some (xs, [(n, xs)])
    | _ => none
  | _ => none
def rangeL (lo : Int) (n : Nat) : List Val := (List.range n).map fun i => .int (lo + (i : Nat))
def smallI (i : Int) : Bool := decide (-(2 ^ 62) ≤ i ∧ i < 2 ^ 62)
def pairL (xs ys : List Val) : List Val := List.zipWith (fun x y => Val.tup [x, y]) xs ys
def iterV (b : Blt) (vs : List Val) (st : Sto) : Res (List Val × Watch) :=
  match b, vs with
  | .range, [.int n] => if smallI n = true ∧ n.toNat ≤ sizeLine then .ok (rangeL 0 n.toNat, []) st else .bad
  | .range, [.int a, .int b] => if smallI a = true ∧ smallI b = true ∧ (b - a).toNat ≤ sizeLine then .ok (rangeL a (b - a).toNat, []) st else .bad
  | .zip, [x, y] => match itemsOf st x, itemsOf st y with
    | some (xs, w), some (ys, w') => .ok (pairL xs ys, w ++ w') st
    | _, _ => .bad
  | .enum, [x] => match itemsOf st x with
    | some (xs, w) => .ok (pairL (rangeL 0 xs.length) xs, w) st
    | none => .bad
  | .rev, [x] => match itemsOf st x with
    | some (xs, w) => .ok (xs.reverse, w) st
    | none => .bad
  | _, _ => .bad

def setN (i : Nat) (v : Val) (env : VEnv) : VEnv := env.set i (some v)
def setNs : List Nat → List Val → VEnv → Option VEnv
  | [], [], env => some env
  | i :: is, v :: vs, env => setNs is vs (setN i v env)
  | _, _, _ => none
def setTg (tg : List Nat) (one : Bool) (v : Val) (env : VEnv) : Option VEnv :=
  match one, tg, v with
  | true, [i], v => some (setN i v env)
  | false, is, .tup vs => setNs is vs env
  | _, _, _ => none
def wipeV (env : VEnv) : List Nat → VEnv
  | [] => env
  | i :: is => (wipeV env is).set i none

/-! ### the evaluator -/
def lcLoop (w : Watch) (tg : List Nat) (one : Bool) (cnd : VEnv → Sto → Res Bool) (elt : VEnv → Sto → Res Val) : List Val → VEnv → Sto → Res (List Val)
  | [], _, st => if wOk w st = true then .ok [] st else .bad
  | v :: vs, env, st =>
    if wOk w st = true then
      match setTg tg one v env with
      | none => .bad
      | some env' => (cnd env' st).bind fun b st1 =>
        if b = true then (elt env' st1).bind fun y st2 => (lcLoop w tg one cnd elt vs env st2).bind fun ys st3 => .ok (y :: ys) st3
        else lcLoop w tg one cnd elt vs env st1
    else .bad
/-- each turn gives a list of its own -/
def lcLoopL (w : Watch) (tg : List Nat) (one : Bool) (cnd : VEnv → Sto → Res Bool) (inner : VEnv → Sto → Res (List Val)) : List Val → VEnv → Sto → Res (List Val)
  | [], _, st => if wOk w st = true then .ok [] st else .bad
  | v :: vs, env, st =>
    if wOk w st = true then
      match setTg tg one v env with
      | none => .bad
      | some env' => (cnd env' st).bind fun b st1 =>
        if b = true then (inner env' st1).bind fun ys st2 => (lcLoopL w tg one cnd inner vs env st2).bind fun zs st3 => .ok (ys ++ zs) st3
        else lcLoopL w tg one cnd inner vs env st1
    else .bad
/-- list(range(i, j)) -/
def rgL (x y : Val) (st : Sto) : Res Val := match x, y with
  | .int i, .int j => if smallI i = true ∧ smallI j = true ∧ (j - i).toNat ≤ sizeLine then alloc (.lst (rangeL i (j - i).toNat)) st else .bad
  | _, _ => .bad
/-- a list's [::-1] -/
def rvsV (x : Val) (st : Sto) : Res Val := match x with
  | .loc n => match st[n]? with
    | some (.lst xs) => alloc (.lst xs.reverse) st
    | _ => .bad
  | _ => .bad
def allocS (ys : List Val) (st : Sto) : Res Val := if ys.length ≤ sizeLine then alloc (.lst ys) st else .bad
def partV : Val → Option (Option Int)
  | .int i => some (some i)
  | _ => none
/-- an absent part is written .nil -/
def isNil : E → Bool
  | .nil => true
  | _ => false
abbrev CallF := Nat → List Val → Sto → Res Val
def truthR (v : Val) (st : Sto) : Res Bool := liftO (truthV st v) st
def negV (x : Val) (st : Sto) : Res Val := match x with
  | .int i => .ok (.int (-i)) st
  | _ => .bad
def partR (nil : Bool) (f : VEnv → Sto → Res Val) (env : VEnv) (st : Sto) : Res (Option Int) :=
  if nil = true then .ok none st else (f env st).bind fun v st1 => liftO (partV v) st1
def cndR (nil : Bool) (f : VEnv → Sto → Res Val) (env : VEnv) (st : Sto) : Res Bool :=
  if nil = true then .ok true st else (f env st).bind truthR
def iterR (ib : Option Blt) (f : VEnv → Sto → Res Val) (g : VEnv → Sto → Res (List Val)) (env : VEnv) (st : Sto) : Res (List Val × Watch) :=
  match ib with
  | none => (f env st).bind fun v st1 => liftO (itemsOf st1 v) st1
  | some b => (g env st).bind fun vs st1 => iterV b vs st1
mutual
def evE (C : CallF) : E → VEnv → Sto → Res Val
  | .c v, _, st => .ok v st
  | .g _ v, _, st => .ok v st
  | .v i, env, st => match env[i]? with
    | some (some v) => .ok v st
    | _ => .bad
  | .tup es, env, st => (evL C es env st).bind fun vs st1 => if vs.length ≤ sizeLine then .ok (.tup vs) st1 else .bad
  | .lst es, env, st => (evL C es env st).bind fun vs st1 => if vs.length ≤ sizeLine then alloc (.lst vs) st1 else .bad
  | .dct, _, st => alloc (.dK []) st
  | .bin op a b, env, st => (evE C a env st).bind fun x st1 => (evE C b env st1).bind fun y st2 => binV op x y st2
  | .neg a, env, st => (evE C a env st).bind fun x st1 => negV x st1
  | .not a, env, st => (evE C a env st).bind fun x st1 => (truthR x st1).bind fun b st2 => .ok (.bl (!b)) st2
  | .and a b, env, st => (evE C a env st).bind fun x st1 => (truthR x st1).bind fun k st2 => if k = true then evE C b env st2 else .ok x st2
  | .or a b, env, st => (evE C a env st).bind fun x st1 => (truthR x st1).bind fun k st2 => if k = true then .ok x st2 else evE C b env st2
  | .cmp op a b, env, st => (evE C a env st).bind fun x st1 => (evE C b env st1).bind fun y st2 => cmpR op x y st2
  | .chain o1 o2 a b c, env, st => (evE C a env st).bind fun x st1 => (evE C b env st1).bind fun y st2 => (liftO (cmpV o1 x y st2) st2).bind fun k st3 =>
      if k = true then (evE C c env st3).bind fun z st4 => cmpR o2 y z st4 else .ok (.bl false) st3
  | .ite t a b, env, st => (evE C t env st).bind fun x st1 => (truthR x st1).bind fun k st2 => if k = true then evE C a env st2 else evE C b env st2
  | .call f es, env, st => (evL C es env st).bind fun vs st1 => C f vs st1
  | .bc b es, env, st => (evL C es env st).bind fun vs st1 => bltV b vs st1
  | .isi a t, env, st => (evE C a env st).bind fun x st1 => liftO (((tyName st1 x).bind (isiV t)).map .bl) st1
  | .idx a i, env, st => (evE C a env st).bind fun x st1 => (evE C i env st1).bind fun y st2 => idxV x y st2
  | .sl a lo hi, env, st => (evE C a env st).bind fun x st1 => (partR (isNil lo) (evE C lo) env st1).bind fun l st2 => (partR (isNil hi) (evE C hi) env st2).bind fun h st3 => slV x l h st3
  | .app o x, env, st => (evE C o env st).bind fun u st1 => if isL u st1 = true then (evE C x env st1).bind fun y st2 => appV u y st2 else .bad
  | .ext o x, env, st => (evE C o env st).bind fun u st1 => if isL u st1 = true then (evE C x env st1).bind fun y st2 => extV u y st2 else .bad
  | .pop o, env, st => (evE C o env st).bind fun u st1 => popV u st1
  | .lc elt own tg one ib it cnd, env, st => (iterR ib (evE C it) (evL C it) env st).bind fun p st1 =>
      (lcLoop p.2 tg one (cndR (isNil cnd) (evE C cnd)) (evE C elt) p.1 (wipeV env own) st1).bind fun ys st2 => alloc (.lst ys) st2
  | .rgl a, env, st => (evE C a env st).bind fun x st1 => rgL (.int 0) x st1
  | .rgl2 a b, env, st => (evE C a env st).bind fun x st1 => (evE C b env st1).bind fun y st2 => rgL x y st2
  | .rvs a, env, st => (evE C a env st).bind fun x st1 => rvsV x st1
  | .lc2 elt own tg one ib it cnd own1 tg1 one1 ib1 it1 cnd1, env, st => (iterR ib (evE C it) (evL C it) env st).bind fun p st1 =>
      (lcLoopL p.2 tg one (cndR (isNil cnd) (evE C cnd)) (fun env' st2 => (iterR ib1 (evE C it1) (evL C it1) env' st2).bind fun p1 st3 => lcLoop p1.2 tg1 one1 (cndR (isNil cnd1) (evE C cnd1)) (evE C elt) p1.1 (wipeV env' own1) st3) p.1 (wipeV env own) st1).bind fun ys st2 => allocS ys st2
  | .nil, _, _ => .bad
  | .cons _ _, _, _ => .bad
  | .star _ _, _, _ => .bad
/-- a chain -/
def evL (C : CallF) : E → VEnv → Sto → Res (List Val)
  | .nil, _, st => .ok [] st
  | .cons e es, env, st => (evE C e env st).bind fun v st1 => (evL C es env st1).bind fun vs st2 => .ok (v :: vs) st2
  | .star e es, env, st => (evE C e env st).bind fun v st1 => (liftO (seqOf st1 v) st1).bind fun us st2 => (evL C es env st2).bind fun vs st3 => .ok (us ++ vs) st3
  | _, _, _ => .bad
end
/-- what is walked -/
def evI (C : CallF) (ib : Option Blt) (it : E) : VEnv → Sto → Res (List Val × Watch) := iterR ib (evE C it) (evL C it)
def evB (C : CallF) (c : E) (env : VEnv) (st : Sto) : Res Bool := (evE C c env st).bind truthR

/-! ### statements -/
def forLoop (w : Watch) (tg : List Nat) (one : Bool) (body : VEnv → Sto → Fl) : List Val → VEnv → Sto → Fl
  | [], env, st => if wOk w st = true then .nx env st else .bad
  | v :: vs, env, st =>
    if wOk w st = true then
      match setTg tg one v env with
      | none => .bad
      | some env' => match body env' st with
        | .nx env1 st1 => forLoop w tg one body vs env1 st1
        | .ct env1 st1 => forLoop w tg one body vs env1 st1
        | .bk env1 st1 => .nx env1 st1
        | r => r
    else .bad
def whileLoop (c : VEnv → Sto → Res Bool) (body : VEnv → Sto → Fl) : Nat → VEnv → Sto → Fl
  | 0, _, _ => .bad
  | n + 1, env, st => match c env st with
    | .ok true st1 => match body env st1 with
      | .nx env1 st2 => whileLoop c body n env1 st2
      | .ct env1 st2 => whileLoop c body n env1 st2
      | .bk env1 st2 => .nx env1 st2
      | r => r
    | .ok false st1 => .nx env st1
    | .exc k fs st1 => .exc k fs st1
    | .bad => .bad
def Res.fl {α : Type} (r : Res α) (f : α → Sto → Fl) : Fl := match r with
  | .ok a st => f a st
  | .exc c fs st => .exc c fs st
  | .bad => .bad
@[simp] theorem Res.fl_ok {α : Type} {a : α} {st : Sto} {f : α → Sto → Fl} : (Res.ok a st).fl f = f a st := rfl
def optFl {α : Type} (o : Option α) (f : α → Fl) : Fl := match o with
  | some a => f a
  | none => .bad
/-- an int's, a text's, a list's op= (a list is changed in place: not here) -/
def augV (op : Operator) (x y : Val) (st : Sto) : Res Val := match x, y with
  | .int _, .int _ => binV op x y st
  | .str _, .str _ => binV op x y st
  | _, _ => .bad
def evS (C : CallF) : S → VEnv → Sto → Fl
  | .skip, env, st => .nx env st
  | .pass, env, st => .nx env st
  | .seq a b, env, st => match evS C a env st with
    | .nx env1 st1 => evS C b env1 st1
    | r => r
  | .set i e, env, st => (evE C e env st).fl fun v st1 => .nx (setN i v env) st1
  | .asg is e, env, st => (evE C e env st).fl fun v st1 => optFl (setTg is false v env) fun env1 => .nx env1 st1
  | .par i j a b, env, st => (evE C a env st).fl fun v st1 => (evE C b env st1).fl fun w st2 => .nx (setN j w (setN i v env)) st2
  | .store o i e, env, st => (evE C e env st).fl fun v st1 => (evE C o env st1).fl fun u st2 => (evE C i env st2).fl fun k st3 => optFl (storeV u k v st3) fun st4 => .nx env st4
  | .aug i op e, env, st => match env[i]? with
    | some (some x) => (evE C e env st).fl fun y st1 => (augV op x y st1).fl fun z st2 => .nx (setN i z env) st2
    | _ => .bad
  | .expr e, env, st => (evE C e env st).fl fun _ st1 => .nx env st1
  | .ret e, env, st => (evE C e env st).fl fun v st1 => .rt v st1
  | .retN, _, st => .rt .non st
  | .iff c a b, env, st => (evB C c env st).fl fun k st1 => if k = true then evS C a env st1 else evS C b env st1
  | .for tg one ib it b, env, st => (evI C ib it env st).fl fun p st1 => forLoop p.2 tg one (evS C b) p.1 env st1
  | .while n c b, env, st => whileLoop (evB C c) (evS C b) n env st
  | .brk, env, st => .bk env st
  | .cont, env, st => .ct env st
  | .never, _, _ => .bad

/-! ### a def: what it leaves behind is cut back to what is still needed -/
mutual
def Val.blw (n : Nat) : Val → Bool
  | .tup vs => Vals.blw n vs
  | .loc m => decide (m < n)
  | _ => true
def Vals.blw (n : Nat) : List Val → Bool
  | [] => true
  | v :: vs => v.blw n && Vals.blw n vs
end
def Cell.blw (n : Nat) : Cell → Bool
  | .lst xs => Vals.blw n xs
  | .dK kvs => Vals.blw n (kvs.map (·.2))
def keepB (st st' : Sto) : Bool := (List.range st.length).all fun i => decide (st'[i]? = st[i]?) || (match st'[i]? with
  | some c => c.blw st.length
  | none => false)
def cutBack (st : Sto) (v : Val) (st' : Sto) : Val × Sto :=
  if st.length ≤ st'.length ∧ keepB st st' = true then
    if v.blw st.length = true then (v, st'.take st.length)
    else match v with
      | .loc p => match st'[p]? with
        | some (.lst xs) => if Vals.blw st.length xs = true then (.loc st.length, st'.take st.length ++ [.lst xs]) else (v, st')
        | _ => (v, st')
      | _ => (v, st')
  else (v, st')
structure Fn where
  np : Nat
  ns : Nat
  body : S
def entry (ns : Nat) (vs : List Val) : VEnv := vs.map some ++ List.replicate (ns - vs.length) none
def endOf (st : Sto) : Fl → Res Val
  | .rt v st' => .ok (cutBack st v st').1 (cutBack st v st').2
  | .nx _ st' => .ok (cutBack st .non st').1 (cutBack st .non st').2
  | .exc c fs st' => .exc c fs st'
  | _ => .bad
def run (P : List Fn) : Nat → CallF
  | 0, _, _, _ => .bad
  | k + 1, f, vs, st => match P[f]? with
    | some fn => if vs.length = fn.np then endOf st (evS (run P k) fn.body (entry fn.ns vs) st) else .bad
    | none => .bad
example (C : CallF) (v : Val) (env : VEnv) (st : Sto) : evE C (.c v) env st = .ok v st := rfl
example (C : CallF) (a b : E) (env : VEnv) (st : Sto) : evE C (.and a b) env st = (evE C a env st).bind fun x st1 => (truthR x st1).bind fun k st2 => if k = true then evE C b env st2 else .ok x st2 := rfl
end TT
set_option Elab.async false
set_option linter.all false
set_option maxRecDepth 100000
/-! What stands for what: values, cells, slots, over the abstract heap. -/
namespace TT
open PySem L2 PySem.Spec PyProof.Rows

/-! ### values -/
mutual
inductive Rep (K : PySem.W.Frag) (H : Hp) (μ : List Addr) : V → Val → Prop where
  | non : Rep K H μ .non .non
  | bl (b : Bool) : Rep K H μ (.bl b) (.bl b)
  | int (i : Int) : Rep K H μ (.int i) (.int i)
  | str (s : Str) : Rep K H μ (.str s) (.str s)
  | tup {a : Addr} {xs : List V} {vs : List Val} (h : H a = some (.tup xs)) (z : xs.length ≤ sizeLine) (r : Reps K H μ xs vs) : Rep K H μ (.ref a) (.tup vs)
  | flst {a : Addr} {is : List Int} (h : (∃ o, H a = some (.frz o (.lst (is.map V.int)))) ∨ SqL K (fun _ => none) a (is.map V.int)) (z : is.length ≤ sizeLine) : Rep K H μ (.ref a) (.flst is)
  | loc {n : Nat} {a : Addr} (h : μ[n]? = some a) : Rep K H μ (.ref a) (.loc n)
inductive Reps (K : PySem.W.Frag) (H : Hp) (μ : List Addr) : List V → List Val → Prop where
  | nil : Reps K H μ [] []
  | cons {x : V} {xs : List V} {v : Val} {vs : List Val} (r : Rep K H μ x v) (rs : Reps K H μ xs vs) : Reps K H μ (x :: xs) (v :: vs)
end

def CR (K : PySem.W.Frag) (H : Hp) (μ : List Addr) (a : Addr) : Cell → Prop
  | .lst xs => ∃ ys, H a = some (.lst ys) ∧ ys.length ≤ sizeLine ∧ Reps K H μ ys xs
  | .dK kvs => ∃ ws, H a = some (.dK ws) ∧ ws.map (·.1) = kvs.map (·.1) ∧ Reps K H μ (ws.map (·.2)) (kvs.map (·.2))

/-- the store is held -/
structure SR (K : PySem.W.Frag) (H : Hp) (μ : List Addr) (st : Sto) : Prop where
  len : μ.length = st.length
  nd : μ.Nodup
  cell : ∀ (n : Nat) (c : Cell) (a : Addr), st[n]? = some c → μ[n]? = some a → CR K H μ a c

/-- what a step may do -/
structure Ext (H : Hp) (μ : List Addr) (H' : Hp) (μ' : List Addr) : Prop where
  pre : ∃ t, μ' = μ ++ t
  new : ∀ (n : Nat) (a : Addr), μ.length ≤ n → μ'[n]? = some a → H a = none
  tups : ∀ b xs, H b = some (.tup xs) → H' b = some (.tup xs)
  frzs : ∀ b o u, H b = some (.frz o u) → H' b = some (.frz o u)
  frame : ∀ b o, H b = some o → b ∉ μ → H' b = some o
  stay : ∀ b, H' b = none → H b = none

section
variable {K : PySem.W.Frag} {H H' H'' : Hp} {μ μ' μ'' : List Addr} {st st' : Sto}
theorem Ext.refl : Ext H μ H μ where
  pre := ⟨[], by simp⟩
  new := fun n a h e => by
    rw [List.getElem?_eq_none h] at e
    cases e
  tups := fun _ _ h => h
  frzs := fun _ _ _ h => h
  frame := fun _ _ h _ => h
  stay := fun _ h => h
theorem Ext.get (e : Ext H μ H' μ') {n : Nat} {a : Addr} (h : μ[n]? = some a) : μ'[n]? = some a := by
  obtain ⟨t, rfl⟩ := e.pre
  rw [List.getElem?_append_left (List.getElem?_eq_some_iff.mp h).1]
  exact h
theorem Ext.len (e : Ext H μ H' μ') : μ.length ≤ μ'.length := by
  obtain ⟨t, rfl⟩ := e.pre
  simp
theorem Ext.mem (e : Ext H μ H' μ') {b : Addr} {o : HO} (hb : H b = some o) (h : b ∈ μ') : b ∈ μ := by
  obtain ⟨n, hn, rfl⟩ := List.mem_iff_getElem.mp h
  by_cases l : μ.length ≤ n
  · have := e.new n μ'[n] l (by simp [hn])
    rw [hb] at this; cases this
  · obtain ⟨t, rfl⟩ := e.pre
    rw [List.getElem_append_left (by omega)]
    exact List.getElem_mem _
theorem Ext.trans (e : Ext H μ H' μ') (f : Ext H' μ' H'' μ'') : Ext H μ H'' μ'' where
  pre := by
    obtain ⟨t, rfl⟩ := e.pre
    obtain ⟨u, rfl⟩ := f.pre
    exact ⟨t ++ u, by simp⟩
  new := fun n a h q => by
    by_cases l : μ'.length ≤ n
    · exact e.stay a (f.new n a l q)
    · obtain ⟨u, rfl⟩ := f.pre
      rw [List.getElem?_append_left (by omega)] at q
      exact e.new n a h q
  tups := fun b xs h => f.tups b xs (e.tups b xs h)
  frzs := fun b o u h => f.frzs b o u (e.frzs b o u h)
  frame := fun b o h n => f.frame b o (e.frame b o h n) fun q => n (e.mem h q)
  stay := fun b h => e.stay b (f.stay b h)

/-- what values lean on -/
structure Kp (H : Hp) (μ : List Addr) (H' : Hp) (μ' : List Addr) : Prop where
  get : ∀ (n : Nat) (a : Addr), μ[n]? = some a → μ'[n]? = some a
  tups : ∀ b xs, H b = some (.tup xs) → H' b = some (.tup xs)
  frzs : ∀ b o u, H b = some (.frz o u) → H' b = some (.frz o u)
theorem Ext.kp (e : Ext H μ H' μ') : Kp H μ H' μ' := ⟨fun _ _ h => e.get h, e.tups, e.frzs⟩
mutual
theorem Rep.kept (e : Kp H μ H' μ') : ∀ {x : V} {v : Val}, Rep K H μ x v → Rep K H' μ' x v
  | _, _, .non => .non
  | _, _, .bl b => .bl b
  | _, _, .int i => .int i
  | _, _, .str s => .str s
  | _, _, .tup h z r => .tup (e.tups _ _ h) z (Reps.kept e r)
  | _, _, .flst h z => .flst (h.elim (fun ⟨o, q⟩ => .inl ⟨o, e.frzs _ _ _ q⟩) .inr) z
  | _, _, .loc h => .loc (e.get _ _ h)
theorem Reps.kept (e : Kp H μ H' μ') : ∀ {xs : List V} {vs : List Val}, Reps K H μ xs vs → Reps K H' μ' xs vs
  | _, _, .nil => .nil
  | _, _, .cons r rs => .cons (Rep.kept e r) (Reps.kept e rs)
end
theorem Rep.mono (e : Ext H μ H' μ') {x : V} {v : Val} (r : Rep K H μ x v) : Rep K H' μ' x v := r.kept e.kp
theorem Reps.mono (e : Ext H μ H' μ') {xs : List V} {vs : List Val} (r : Reps K H μ xs vs) : Reps K H' μ' xs vs := r.kept e.kp
theorem Reps.length : ∀ {xs : List V} {vs : List Val}, Reps K H μ xs vs → xs.length = vs.length
  | _, _, .nil => rfl
  | _, _, .cons _ rs => by simp [Reps.length rs]
theorem Reps.append : ∀ {xs ys : List V} {vs ws : List Val}, Reps K H μ xs vs → Reps K H μ ys ws → Reps K H μ (xs ++ ys) (vs ++ ws)
  | _, _, _, _, .nil, s => s
  | _, _, _, _, .cons r rs, s => .cons r (Reps.append rs s)
theorem Reps.get : ∀ {xs : List V} {vs : List Val} {i : Nat} {v : Val}, Reps K H μ xs vs → vs[i]? = some v → ∃ x, xs[i]? = some x ∧ Rep K H μ x v
  | _, _, _, _, .nil, h => by simp at h
  | _, _, 0, v, .cons r _, h => by simp at h; subst h; exact ⟨_, rfl, r⟩
  | _, _, i + 1, v, .cons _ rs, h => by
    obtain ⟨x, h1, h2⟩ := Reps.get (i := i) (v := v) rs (by simpa using h)
    exact ⟨x, by simpa using h1, h2⟩
theorem Reps.getV : ∀ {xs : List V} {vs : List Val} {i : Nat} {x : V}, Reps K H μ xs vs → xs[i]? = some x → ∃ v, vs[i]? = some v ∧ Rep K H μ x v
  | _, _, _, _, .nil, h => by simp at h
  | _, _, 0, v, .cons r _, h => by simp at h; subst h; exact ⟨_, rfl, r⟩
  | _, _, i + 1, x, .cons _ rs, h => by
    obtain ⟨v, h1, h2⟩ := Reps.getV (i := i) (x := x) rs (by simpa using h)
    exact ⟨v, by simpa using h1, h2⟩
theorem Reps.set {x : V} {v : Val} (r : Rep K H μ x v) : ∀ {xs : List V} {vs : List Val} (i : Nat), Reps K H μ xs vs → Reps K H μ (xs.set i x) (vs.set i v)
  | _, _, _, .nil => .nil
  | _, _, 0, .cons _ rs => .cons r rs
  | _, _, i + 1, .cons q rs => .cons q (Reps.set r i rs)
theorem Reps.take : ∀ {xs : List V} {vs : List Val} (n : Nat), Reps K H μ xs vs → Reps K H μ (xs.take n) (vs.take n)
  | _, _, 0, _ => .nil
  | _, _, _ + 1, .nil => .nil
  | _, _, n + 1, .cons r rs => .cons r (Reps.take n rs)
theorem Reps.drop : ∀ {xs : List V} {vs : List Val} (n : Nat), Reps K H μ xs vs → Reps K H μ (xs.drop n) (vs.drop n)
  | _, _, 0, r => r
  | _, _, _ + 1, .nil => .nil
  | _, _, n + 1, .cons _ rs => Reps.drop n rs
theorem Reps.dropLast {xs : List V} {vs : List Val} (r : Reps K H μ xs vs) : Reps K H μ xs.dropLast vs.dropLast := by
  rw [List.dropLast_eq_take, List.dropLast_eq_take, r.length]
  exact r.take _
theorem Reps.reverse : ∀ {xs : List V} {vs : List Val}, Reps K H μ xs vs → Reps K H μ xs.reverse vs.reverse
  | _, _, .nil => .nil
  | _, _, .cons r rs => by
    rw [List.reverse_cons, List.reverse_cons]
    exact rs.reverse.append (.cons r .nil)
theorem Reps.ints : ∀ (is : List Int), Reps K H μ (is.map V.int) (is.map Val.int)
  | [] => .nil
  | i :: is => .cons (.int i) (Reps.ints is)
theorem Reps.rep {xs : List V} {vs : List Val} (r : Reps K H μ xs vs) : ∀ k : Nat, Reps K H μ (List.replicate k xs).flatten (List.replicate k vs).flatten
  | 0 => .nil
  | k + 1 => by
    rw [List.replicate_succ, List.replicate_succ, List.flatten_cons, List.flatten_cons]
    exact r.append (r.rep k)

theorem CR.mono (e : Ext H μ H' μ') {a : Addr} {c : Cell} (h : CR K H μ a c) (k : H' a = H a) : CR K H' μ' a c := by
  cases c with
  | lst xs =>
    obtain ⟨ys, h1, h2, h3⟩ := h
    exact ⟨ys, k.trans h1, h2, h3.mono e⟩
  | dK kvs =>
    obtain ⟨ws, h1, h2, h3⟩ := h
    exact ⟨ws, k.trans h1, h2, h3.mono e⟩
theorem CR.kept (e : Kp H μ H' μ') {a : Addr} {c : Cell} (h : CR K H μ a c) (k : H' a = H a) : CR K H' μ' a c := by
  cases c with
  | lst xs =>
    obtain ⟨ys, h1, h2, h3⟩ := h
    exact ⟨ys, k.trans h1, h2, h3.kept e⟩
  | dK kvs =>
    obtain ⟨ws, h1, h2, h3⟩ := h
    exact ⟨ws, k.trans h1, h2, h3.kept e⟩
/-- what stands at a cell's address -/
def Mu : HO → Prop
  | .lst _ => True
  | .dK _ => True
  | _ => False
theorem CR.mu {a : Addr} {c : Cell} (h : CR K H μ a c) : ∃ o, H a = some o ∧ Mu o := by
  cases c with
  | lst xs => obtain ⟨ys, h1, _⟩ := h; exact ⟨_, h1, trivial⟩
  | dK kvs => obtain ⟨ws, h1, _⟩ := h; exact ⟨_, h1, trivial⟩
theorem SR.addr (s : SR K H μ st) {n : Nat} {c : Cell} (h : st[n]? = some c) : ∃ a, μ[n]? = some a ∧ CR K H μ a c := by
  have hn : n < μ.length := by rw [s.len]; exact (List.getElem?_eq_some_iff.mp h).1
  exact ⟨μ[n], by simp [hn], s.cell n c _ h (by simp [hn])⟩
theorem SR.there (s : SR K H μ st) {a : Addr} (h : a ∈ μ) : ∃ o, H a = some o ∧ Mu o := by
  obtain ⟨n, hn, rfl⟩ := List.mem_iff_getElem.mp h
  have hs : n < st.length := by rw [← s.len]; exact hn
  exact (s.cell n st[n] μ[n] (by simp [hs]) (by simp [hn])).mu
theorem SR.fresh (s : SR K H μ st) {p : Addr} (h : H p = none) : p ∉ μ := fun q => by
  obtain ⟨o, e, _⟩ := s.there q
  rw [h] at e; cases e
/-- an untracked address gets an object that is no cell -/
theorem Ext.laid {p : Addr} {o : HO} (h : H p = none) : Ext H μ (upd H p o) μ where
  pre := ⟨[], by simp⟩
  new := fun n a l q => by rw [List.getElem?_eq_none l] at q; cases q
  tups := fun b xs q => by rw [upd_ne (ne_of_none q h)]; exact q
  frzs := fun b ob u q => by rw [upd_ne (ne_of_none q h)]; exact q
  frame := fun b ob q _ => by rw [upd_ne (ne_of_none q h)]; exact q
  stay := fun b q => by
    by_cases e : b = p
    · rw [e]; exact h
    · rw [upd_ne e] at q; exact q
theorem SR.ext (s : SR K H μ st) (e : Ext H μ H' μ) (k : ∀ a ∈ μ, H' a = H a) : SR K H' μ st :=
  ⟨s.len, s.nd, fun n c a h q => (s.cell n c a h q).mono e (k a (List.mem_of_getElem? q))⟩
theorem SR.laid (s : SR K H μ st) {p : Addr} {o : HO} (h : H p = none) : SR K (upd H p o) μ st :=
  s.ext (Ext.laid h) fun a q => upd_ne fun e => s.fresh h (e ▸ q)
/-- .. an object that is a new cell -/
theorem Ext.alloc {p : Addr} {o : HO} (h : H p = none) : Ext H μ (upd H p o) (μ ++ [p]) where
  pre := ⟨[p], rfl⟩
  new := fun n a l q => by
    rw [List.getElem?_append_right l] at q
    have : a = p := by
      cases hn : n - μ.length with
      | zero => rw [hn] at q; simpa using q.symm
      | succ m => rw [hn] at q; simp at q
    rw [this]; exact h
  tups := (Ext.laid (μ := μ) h).tups
  frzs := (Ext.laid (μ := μ) h).frzs
  frame := (Ext.laid (μ := μ) h).frame
  stay := (Ext.laid (μ := μ) (o := o) h).stay
theorem SR.alloc (s : SR K H μ st) {p : Addr} {o : HO} {c : Cell} (h : H p = none) (n : CR K (upd H p o) (μ ++ [p]) p c) : SR K (upd H p o) (μ ++ [p]) (st ++ [c]) := by
  refine ⟨by simp [s.len], ?_, fun m d a h1 h2 => ?_⟩
  · rw [List.nodup_append]
    refine ⟨s.nd, by simp, fun a ha b hb e => ?_⟩
    have : b = p := by simpa using hb
    subst this
    exact s.fresh h (e ▸ ha)
  · by_cases l : m < st.length
    · rw [List.getElem?_append_left l] at h1
      rw [List.getElem?_append_left (by rw [s.len]; exact l)] at h2
      exact (s.cell m d a h1 h2).mono (Ext.alloc h) (upd_ne fun e => s.fresh h (e ▸ List.mem_of_getElem? h2))
    · rw [List.getElem?_append_right (by omega)] at h1
      rw [List.getElem?_append_right (by rw [s.len]; omega)] at h2
      rw [s.len] at h2
      cases hn : m - st.length with
      | zero =>
        rw [hn] at h1 h2
        have e1 : c = d := by simpa using h1
        have e2 : p = a := by simpa using h2
        subst e1 e2
        exact n
      | succ k => rw [hn] at h1; simp at h1
theorem SR.get_new (s : SR K H μ st) {p : Addr} : (μ ++ [p])[st.length]? = some p := by
  rw [← s.len, List.getElem?_append_right (Nat.le_refl _)]
  simp
/-- a cell is written -/
theorem Ext.write {a : Addr} {o u : HO} (ha : H a = some u) (hm : Mu u) (hi : a ∈ μ) : Ext H μ (upd H a o) μ where
  pre := ⟨[], by simp⟩
  new := fun n b l q => by rw [List.getElem?_eq_none l] at q; cases q
  tups := fun b xs q => by
    rw [upd_ne fun e => ?_]
    · exact q
    · subst e; rw [ha] at q; cases q; exact hm
  frzs := fun b ob w q => by
    rw [upd_ne fun e => ?_]
    · exact q
    · subst e; rw [ha] at q; cases q; exact hm
  frame := fun b ob q n => by
    rw [upd_ne fun e => ?_]
    · exact q
    · subst e; exact n hi
  stay := fun b q => by
    by_cases e : b = a
    · subst e; rw [upd_same] at q; cases q
    · rw [upd_ne e] at q; exact q
theorem nodup_inj {μ : List Addr} (h : μ.Nodup) {m n : Nat} {a : Addr} (h1 : μ[m]? = some a) (h2 : μ[n]? = some a) : m = n := by
  obtain ⟨l1, e1⟩ := List.getElem?_eq_some_iff.mp h1
  obtain ⟨l2, e2⟩ := List.getElem?_eq_some_iff.mp h2
  exact (List.getElem_inj h).mp (e1.trans e2.symm)
theorem SR.write (s : SR K H μ st) {a : Addr} {o u : HO} {n : Nat} {c : Cell} (hn : μ[n]? = some a) (ha : H a = some u) (hm : Mu u) (nw : CR K (upd H a o) μ a c) : SR K (upd H a o) μ (st.set n c) := by
  have ext : Ext H μ (upd H a o) μ := Ext.write ha hm (List.mem_of_getElem? hn)
  refine ⟨by simp [s.len], s.nd, fun m d b h1 h2 => ?_⟩
  by_cases e : m = n
  · subst e
    have hl : m < st.length := by rw [← s.len]; exact (List.getElem?_eq_some_iff.mp hn).1
    rw [List.getElem?_set_self hl] at h1
    cases h1
    rw [hn] at h2
    cases h2
    exact nw
  · rw [List.getElem?_set_ne (Ne.symm e)] at h1
    refine (s.cell m d b h1 h2).mono ext (upd_ne fun q => e ?_)
    subst q
    exact nodup_inj s.nd h2 hn

theorem SR.kept (s : SR K H μ st) (e : Kp H μ H' μ) (k : ∀ a ∈ μ, H' a = H a) : SR K H' μ st :=
  ⟨s.len, s.nd, fun n c a h q => (s.cell n c a h q).kept e (k a (List.mem_of_getElem? q))⟩
/-- an object of one's own, beside the store -/
theorem Kp.own {D : Addr} {o : HO} {xs : List V} (hD : H D = some (.lst xs)) : Kp H μ (upd H D o) μ where
  get := fun _ _ h => h
  tups := fun b ys q => by
    rw [upd_ne fun e => ?_]
    · exact q
    · subst e; rw [hD] at q; cases q
  frzs := fun b ob w q => by
    rw [upd_ne fun e => ?_]
    · exact q
    · subst e; rw [hD] at q; cases q
theorem Ext.own {D : Addr} {o : HO} (e : Ext H μ H' μ') (hD : H D = none) (hD' : H' D ≠ none) : Ext H μ (upd H' D o) μ' where
  pre := e.pre
  new := e.new
  tups := fun b xs q => by rw [upd_ne (ne_of_none q hD)]; exact e.tups b xs q
  frzs := fun b ob w q => by rw [upd_ne (ne_of_none q hD)]; exact e.frzs b ob w q
  frame := fun b ob q n => by rw [upd_ne (ne_of_none q hD)]; exact e.frame b ob q n
  stay := fun b q => by
    by_cases h : b = D
    · rw [h]; exact hD
    · rw [upd_ne h] at q; exact e.stay b q
theorem Ext.more {D : Addr} (e : Ext H μ H' μ') (hD : H D = none) : Ext H μ H' (μ' ++ [D]) where
  pre := by
    obtain ⟨t, rfl⟩ := e.pre
    exact ⟨t ++ [D], by simp⟩
  new := fun n a l q => by
    by_cases h : n < μ'.length
    · rw [List.getElem?_append_left h] at q
      exact e.new n a l q
    · rw [List.getElem?_append_right (by omega)] at q
      cases hn : n - μ'.length with
      | zero => rw [hn] at q; have : D = a := by simpa using q
                subst this; exact hD
      | succ m => rw [hn] at q; simp at q
  tups := e.tups
  frzs := e.frzs
  frame := e.frame
  stay := e.stay
theorem Kp.more {D : Addr} : Kp H μ H (μ ++ [D]) where
  get := fun n a h => by
    rw [List.getElem?_append_left (List.getElem?_eq_some_iff.mp h).1]
    exact h
  tups := fun _ _ h => h
  frzs := fun _ _ _ h => h
theorem SR.add (s : SR K H μ st) {D : Addr} {c : Cell} (hD : D ∉ μ) (n : CR K H (μ ++ [D]) D c) : SR K H (μ ++ [D]) (st ++ [c]) := by
  refine ⟨by simp [s.len], ?_, fun m d a h1 h2 => ?_⟩
  · rw [List.nodup_append]
    refine ⟨s.nd, by simp, fun a ha b hb e => ?_⟩
    have : b = D := by simpa using hb
    subst this
    exact hD (e ▸ ha)
  · by_cases l : m < st.length
    · rw [List.getElem?_append_left l] at h1
      rw [List.getElem?_append_left (by rw [s.len]; exact l)] at h2
      exact (s.cell m d a h1 h2).kept Kp.more rfl
    · rw [List.getElem?_append_right (by omega)] at h1
      rw [List.getElem?_append_right (by rw [s.len]; omega)] at h2
      rw [s.len] at h2
      cases hn : m - st.length with
      | zero =>
        rw [hn] at h1 h2
        have e1 : c = d := by simpa using h1
        have e2 : D = a := by simpa using h2
        subst e1 e2
        exact n
      | succ k => rw [hn] at h1; simp at h1

/-! ### slots -/
structure ER (K : PySem.W.Frag) (H : Hp) (μ : List Addr) (σ : L2.St) (env : VEnv) : Prop where
  len : σ.length = env.length
  at_ : ∀ (i : Nat) (v : Val), env[i]? = some (some v) → ∃ x, σ[i]? = some (some x) ∧ Rep K H μ x v
theorem ER.mono {σ : L2.St} {env : VEnv} (r : ER K H μ σ env) (e : Ext H μ H' μ') : ER K H' μ' σ env :=
  ⟨r.len, fun i v h => let ⟨x, h1, h2⟩ := r.at_ i v h; ⟨x, h1, h2.mono e⟩⟩
theorem ER.set {σ : L2.St} {env : VEnv} (r : ER K H μ σ env) {i : Nat} {x : V} {v : Val} (q : Rep K H μ x v) : ER K H μ (σ.set i (some x)) (setN i v env) := by
  unfold setN
  refine ⟨by simp [r.len], fun j w h => ?_⟩
  by_cases e : j = i
  · subst e
    by_cases l : j < env.length
    · rw [List.getElem?_set_self l] at h
      cases h
      exact ⟨x, by rw [List.getElem?_set_self (by rw [r.len]; exact l)], q⟩
    · rw [List.getElem?_eq_none (by simp; omega)] at h; cases h
  · rw [List.getElem?_set_ne (Ne.symm e)] at h
    rw [List.getElem?_set_ne (Ne.symm e)]
    exact r.at_ j w h
theorem ER.wipe1 {σ : L2.St} {env : VEnv} (r : ER K H μ σ env) {i : Nat} : ER K H μ (σ.set i none) (env.set i none) := by
  refine ⟨by simp [r.len], fun j w h => ?_⟩
  by_cases e : j = i
  · subst e
    by_cases l : j < env.length
    · rw [List.getElem?_set_self l] at h
      cases h
    · rw [List.getElem?_eq_none (by simp; omega)] at h; cases h
  · rw [List.getElem?_set_ne (Ne.symm e)] at h
    rw [List.getElem?_set_ne (Ne.symm e)]
    exact r.at_ j w h
theorem ER.wipe {σ : L2.St} {env : VEnv} (r : ER K H μ σ env) : ∀ vs : List Nat, ER K H μ (L2.wipe σ vs) (wipeV env vs)
  | [] => r
  | v :: vs => by
    unfold L2.wipe wipeV
    exact (r.wipe vs).wipe1
end
end TT
set_option Elab.async false
set_option linter.all false
set_option maxRecDepth 100000
set_option maxHeartbeats 4000000
/-! Operators: what the evaluator says is what the rules say. -/
namespace TT
open PySem L2 PySem.Spec PyProof.Rows

section
variable {K : PySem.W.Frag} {H : Hp} {μ : List Addr} {st st' : Sto}
/-- what is wanted behind a step -/
abbrev Aft (K : PySem.W.Frag) (H : Hp) (μ : List Addr) (st' : Sto) (z : Val) (Q : VK) : Prop := ∀ (μ' : List Addr) (H' : Hp) (u : V), Ext H μ H' μ' → SR K H' μ' st' → Rep K H' μ' u z → Q u H'
def R2v (K : PySem.W.Frag) (f : Val → Val → Sto → Res Val) : R2 := fun x y H Q => ∃ (μ : List Addr) (v w : Val) (st : Sto) (z : Val) (st' : Sto), Rep K H μ x v ∧ Rep K H μ y w ∧ SR K H μ st ∧ f v w st = .ok z st' ∧ Aft K H μ st' z Q
def R1v (K : PySem.W.Frag) (f : Val → Sto → Res Val) : V → Hp → VK → Prop := fun x H Q => ∃ (μ : List Addr) (v : Val) (st : Sto) (z : Val) (st' : Sto), Rep K H μ x v ∧ SR K H μ st ∧ f v st = .ok z st' ∧ Aft K H μ st' z Q
/-- the arguments' values -/
def RLv (K : PySem.W.Frag) (f : List Val → Sto → Res Val) : List V → Hp → VK → Prop := fun xs H Q => ∃ (μ : List Addr) (vs : List Val) (st : Sto) (z : Val) (st' : Sto), Reps K H μ xs vs ∧ SR K H μ st ∧ f vs st = .ok z st' ∧ Aft K H μ st' z Q

theorem aft_alloc {Q : VK} {o : HO} {c : Cell} {p : Addr} (s : SR K H μ st) (hq : Aft K H μ (st ++ [c]) (.loc st.length) Q) (h : H p = none) (n : CR K (upd H p o) (μ ++ [p]) p c) : Q (.ref p) (upd H p o) :=
  hq _ _ _ (Ext.alloc h) (s.alloc h n) (.loc s.get_new)
theorem aft_tup {Q : VK} {vs : List Val} {xs : List V} {p : Addr} (s : SR K H μ st) (hq : Aft K H μ st (.tup vs) Q) (h : H p = none) (z : xs.length ≤ sizeLine) (r : Reps K H μ xs vs) : Q (.ref p) (upd H p (.tup xs)) :=
  hq _ _ _ (Ext.laid h) (s.laid h) (.tup upd_same z (r.mono (Ext.laid h)))
theorem aft_same {Q : VK} {z : Val} {u : V} (s : SR K H μ st) (hq : Aft K H μ st z Q) (r : Rep K H μ u z) : Q u H := hq _ _ _ Ext.refl s r
theorem alloc_eq {c : Cell} {z : Val} (h : alloc c st = .ok z st') : z = .loc st.length ∧ st' = st ++ [c] := by
  unfold alloc at h
  cases h
  exact ⟨rfl, rfl⟩
theorem ok_eq {α : Type} {a b : α} (h : Res.ok a st = .ok b st') : a = b ∧ st = st' := by cases h; exact ⟨rfl, rfl⟩
/-- a list in the store, by its address -/
theorem SR.lst (s : SR K H μ st) {n : Nat} {a : Addr} {xs : List Val} (h1 : μ[n]? = some a) (h2 : st[n]? = some (.lst xs)) : ∃ ys, H a = some (.lst ys) ∧ ys.length ≤ sizeLine ∧ Reps K H μ ys xs := s.cell n _ a h2 h1
/-- what seqOf gives is to be read -/
theorem seq_of {v : Val} {x : V} {vs : List Val} (s : SR K H μ st) (r : Rep K H μ x v) (h : seqOf st v = some vs) : ∃ a xs, x = .ref a ∧ (SqL K H a xs ∨ SqT K H a xs) ∧ xs.length ≤ sizeLine ∧ Reps K H μ xs vs := by
  cases r with
  | tup h1 z r => cases h; exact ⟨_, _, rfl, .inr (SqT.of h1), z, r⟩
  | flst h1 z =>
    cases h
    refine ⟨_, _, rfl, .inl ?_, by rw [List.length_map]; exact z, Reps.ints _⟩
    rcases h1 with ⟨o, h1⟩ | h1
    · exact .inl (.inr ⟨o, h1⟩)
    · rcases h1 with (h1 | ⟨o, h1⟩) | h1
      · cases h1
      · cases h1
      · exact .inr h1
  | loc h1 =>
    simp only [seqOf] at h
    split at h
    · cases h
      rename_i e
      obtain ⟨ys, q1, q2, q3⟩ := s.lst h1 e
      exact ⟨_, ys, rfl, .inl (SqL.of q1), q2, q3⟩
    · cases h
  | _ => cases h
end

section
variable {X : Cx}
theorem b_add : OpR X (binaryOp .Add) (R2v X.K (binV .Add)) := by
  intro pins s σ H x y v u Q I rx ry ⟨μ, a, b, st, z, st', ra, rb, sr, hf, hq⟩
  cases ra <;> cases rb <;> simp only [binV, reduceCtorEq] at hf
  case int.int i j =>
    obtain ⟨rfl, rfl⟩ := ok_eq hf
    exact op_add pins s σ H _ _ v u Q I rx ry ⟨i, j, rfl, rfl, aft_same sr hq (.int _)⟩
  case str.str i j =>
    split at hf
    · obtain ⟨rfl, rfl⟩ := ok_eq hf
      rename_i hz
      exact op_add_str pins s σ H _ _ v u Q I rx ry ⟨i, j, rfl, rfl, hz, aft_same sr hq (.str _)⟩
    · cases hf
  case tup.tup a1 xs1 vs1 h1 z1 r1 a2 xs2 vs2 h2 z2 r2 =>
    split at hf
    · obtain ⟨rfl, rfl⟩ := ok_eq hf
      rename_i hz
      refine op_catA pins s σ H _ _ v u Q I rx ry ⟨a1, a2, xs1, xs2, rfl, rfl, SqT.of h1, SqT.of h2, by rw [r1.length, r2.length]; exact hz, fun e => ?_, fun _ e => ?_, fun _ _ p hp => ?_⟩
      · subst e; cases r1
        exact aft_same sr hq (.tup h2 z2 r2)
      · subst e; cases r2
        rw [List.append_nil] at hq
        exact aft_same sr hq (.tup h1 z1 r1)
      · exact aft_tup sr hq hp (by rw [List.length_append, r1.length, r2.length]; exact hz) (r1.append r2)
    · cases hf
  case loc.loc m a1 h1 n a2 h2 =>
    split at hf
    · rename_i e1 e2
      split at hf
      · obtain ⟨rfl, rfl⟩ := alloc_eq hf
        rename_i hz
        obtain ⟨ys1, q1, q2, q3⟩ := sr.lst h1 e1
        obtain ⟨ys2, p1, p2, p3⟩ := sr.lst h2 e2
        have hz' : ys1.length + ys2.length ≤ sizeLine := by rw [q3.length, p3.length]; exact hz
        exact op_cat pins s σ H _ _ v u Q I rx ry ⟨a1, a2, ys1, ys2, rfl, rfl, q1, p1, hz', fun p hp =>
          aft_alloc sr hq hp ⟨_, upd_same, by rw [List.length_append]; exact hz', (q3.append p3).mono (Ext.alloc hp)⟩⟩
      · cases hf
    · cases hf
theorem b_sub : OpR X (binaryOp .Sub) (R2v X.K (binV .Sub)) := by
  intro pins s σ H x y v u Q I rx ry ⟨μ, a, b, st, z, st', ra, rb, sr, hf, hq⟩
  cases ra <;> cases rb <;> simp only [binV, reduceCtorEq] at hf
  case int.int i j =>
    obtain ⟨rfl, rfl⟩ := ok_eq hf
    exact op_sub pins s σ H _ _ v u Q I rx ry ⟨i, j, rfl, rfl, aft_same sr hq (.int _)⟩
theorem repV_len {vs : List Val} {k : Int} : (repV vs k).length = k.toNat * vs.length := by
  unfold repV
  simp [List.length_flatten, List.map_replicate, List.sum_replicate_nat]
theorem b_mul : OpR X (binaryOp .Mult) (R2v X.K (binV .Mult)) := by
  intro pins s σ H x y v u Q I rx ry ⟨μ, a, b, st, z, st', ra, rb, sr, hf, hq⟩
  cases ra <;> cases rb <;> simp only [binV, reduceCtorEq] at hf
  case int.int i j =>
    split at hf
    · obtain ⟨rfl, rfl⟩ := ok_eq hf
      rename_i hm
      exact op_mulW pins s σ H _ _ v u Q I rx ry ⟨i, j, rfl, rfl, (by unfold CMulW; exact of_decide_eq_true hm), aft_same sr hq (.int _)⟩
    · cases hf
  case tup.int a1 xs1 vs1 h1 z1 r1 k =>
    split at hf
    · obtain ⟨rfl, rfl⟩ := ok_eq hf
      rename_i hm
      obtain ⟨m1, m2, m3, m4⟩ := hm
      have hne : xs1 ≠ [] := fun e => by subst e; cases r1; exact m1 rfl
      have hz : xs1.length ≤ 1000 := by rw [r1.length]; exact m2
      refine op_repT pins s σ H _ _ v u Q I rx ry ⟨a1, k, xs1, rfl, rfl, SqT.of h1, hne, by omega, by omega, hz, fun p hp => ?_⟩
      have rr := r1.rep k.toNat
      refine aft_tup sr hq hp ?_ rr
      have e : (repV vs1 k).length = k.toNat * vs1.length := repV_len
      have e2 : (List.replicate k.toNat xs1).flatten.length = (repV vs1 k).length := rr.length
      rw [e2, e]
      have e3 : k.toNat * vs1.length ≤ 1000 * 1000 := Nat.mul_le_mul (by omega) (by omega)
      rw [sizeLine_eq]
      omega
    · cases hf
  case loc.int m a1 h1 k =>
    split at hf
    · rename_i e1
      split at hf
      · obtain ⟨rfl, rfl⟩ := alloc_eq hf
        rename_i hz
        obtain ⟨z1, z2, z3⟩ := hz
        obtain ⟨ys1, q1, q2, q3⟩ := sr.lst h1 e1
        have rr := q3.rep k.toNat
        have hz' : ys1.length * k.toNat ≤ sizeLine := by rw [q3.length]; exact z3
        refine op_rep pins s σ H _ _ v u Q I rx ry ⟨a1, k, ys1, rfl, rfl, q1, z1, z2, hz', fun p hp => ?_⟩
        refine aft_alloc sr hq hp ⟨_, upd_same, ?_, rr.mono (Ext.alloc hp)⟩
        have e2 : (List.replicate k.toNat ys1).flatten.length = k.toNat * ys1.length := by
          rw [PyProof.Rows.lm_len_rep_flat]
        rw [e2, Nat.mul_comm]
        exact hz'
      · cases hf
    · cases hf
theorem b_mod : OpR X (binaryOp .Mod) (R2v X.K (binV .Mod)) := by
  intro pins s σ H x y v u Q I rx ry ⟨μ, a, b, st, z, st', ra, rb, sr, hf, hq⟩
  cases ra <;> cases rb <;> simp only [binV, reduceCtorEq] at hf
  case int.int i j =>
    split at hf
    · obtain ⟨rfl, rfl⟩ := ok_eq hf
      rename_i hm
      exact op_mod pins s σ H _ _ v u Q I rx ry ⟨i, j, rfl, rfl, hm, aft_same sr hq (.int _)⟩
    · cases hf
theorem b_fdiv : OpR X (binaryOp .FloorDiv) (R2v X.K (binV .FloorDiv)) := by
  intro pins s σ H x y v u Q I rx ry ⟨μ, a, b, st, z, st', ra, rb, sr, hf, hq⟩
  cases ra <;> cases rb <;> simp only [binV, reduceCtorEq] at hf
  case int.int i j =>
    split at hf
    · obtain ⟨rfl, rfl⟩ := ok_eq hf
      rename_i hm
      exact op_fdivW pins s σ H _ _ v u Q I rx ry ⟨i, j, rfl, rfl, hm, aft_same sr hq (.int _)⟩
    · cases hf
theorem b_pow : OpR X (binaryOp .Pow) (R2v X.K (binV .Pow)) := by
  intro pins s σ H x y v u Q I rx ry ⟨μ, a, b, st, z, st', ra, rb, sr, hf, hq⟩
  cases ra <;> cases rb <;> simp only [binV, reduceCtorEq] at hf
  case int.int i j =>
    split at hf
    · obtain ⟨rfl, rfl⟩ := ok_eq hf
      rename_i hm
      obtain ⟨t, rfl⟩ := rx
      obtain ⟨t', rfl⟩ := ry
      exact pow_int hm.1 hm.2 ⟨.int _, H, I.tok _, ⟨_, rfl⟩, aft_same sr hq (.int _)⟩
    · cases hf
theorem b_all (op : Operator) (h : [Operator.Add, .Sub, .Mult, .Mod, .FloorDiv, .Pow].contains op = true) : OpR X (binaryOp op) (R2v X.K (binV op)) := by
  cases op <;> first
    | exact b_add
    | exact b_sub
    | exact b_mul
    | exact b_mod
    | exact b_fdiv
    | exact b_pow
    | cases h
end
end TT
set_option Elab.async false
set_option linter.all false
set_option maxRecDepth 100000
set_option maxHeartbeats 4000000
/-! Comparisons, truth, built-ins. -/
namespace TT
open PySem L2 PySem.Spec PyProof.Rows

section
variable {K : PySem.W.Frag} {H : Hp} {μ : List Addr} {st st' : Sto}
/-! ### data -/
theorem dp_ints {K : PySem.W.Frag} {H : Hp} : ∀ is : List Int, DpAll K H (is.map V.int) (is.map PyData.int)
  | [] => .nil
  | i :: is => .cons (.int i) (dp_ints is)
theorem sq_flst {a : Addr} {is : List Int} (h : (∃ o, H a = some (.frz o (.lst (is.map V.int)))) ∨ SqL K (fun _ => none) a (is.map V.int)) : SqL K H a (is.map V.int) := by
  rcases h with ⟨o, h1⟩ | h1
  · exact .inl (.inr ⟨o, h1⟩)
  · rcases h1 with (h1 | ⟨o, h1⟩) | h1
    · cases h1
    · cases h1
    · exact .inr h1
mutual
theorem toD_ok {f : Nat → Option PyData} (hf : ∀ n a d, μ[n]? = some a → f n = some d → Dp K H (.ref a) d) : ∀ (v : Val) (x : V) (d : PyData), Rep K H μ x v → v.toD f = some d → Dp K H x d
  | .non, _, _, r, h => by cases r; cases h; exact .non
  | .bl b, _, _, r, h => by cases r; cases h; exact .bl b
  | .int i, _, _, r, h => by cases r; cases h; exact .int i
  | .str s, _, _, r, h => by cases r; cases h; exact .str s
  | .tup vs, _, _, r, h => by
    cases r with
    | tup h1 z r =>
      simp only [Val.toD, Option.map_eq_some_iff] at h
      obtain ⟨ds, h2, rfl⟩ := h
      exact .tup (SqT.of h1) (toDs_ok hf vs _ ds r h2)
  | .flst is, _, _, r, h => by
    cases r with
    | flst h1 z =>
      cases h
      exact .lst (sq_flst h1) (dp_ints is)
  | .loc n, _, _, r, h => by
    cases r with
    | loc h1 => exact hf n _ _ h1 h
theorem toDs_ok {f : Nat → Option PyData} (hf : ∀ n a d, μ[n]? = some a → f n = some d → Dp K H (.ref a) d) : ∀ (vs : List Val) (xs : List V) (ds : List PyData), Reps K H μ xs vs → toDs f vs = some ds → DpAll K H xs ds
  | [], _, _, r, h => by cases r; cases h; exact .nil
  | v :: vs, _, _, r, h => by
    cases r with
    | cons r rs =>
      simp only [toDs] at h
      split at h
      · rename_i d ds h1 h2
        cases h
        exact .cons (toD_ok hf v _ d r h1) (toDs_ok hf vs _ ds rs h2)
      · cases h
end
theorem locD_ok (s : SR K H μ st) : ∀ (k n : Nat) (a : Addr) (d : PyData), μ[n]? = some a → locD st k n = some d → Dp K H (.ref a) d
  | 0, _, _, _, _, h => by cases h
  | k + 1, n, a, d, h1, h => by
    simp only [locD] at h
    split at h
    · rename_i xs e
      simp only [Option.map_eq_some_iff] at h
      obtain ⟨ds, h2, rfl⟩ := h
      obtain ⟨ys, q1, q2, q3⟩ := s.lst h1 e
      exact .lst (SqL.of q1) (toDs_ok (fun n a d => locD_ok s k n a d) xs _ ds q3 h2)
    · cases h
theorem rdD_ok (s : SR K H μ st) {v : Val} {x : V} {d : PyData} (r : Rep K H μ x v) (h : rdD st v = some d) : Dp K H x d := toD_ok (fun n a d => locD_ok s _ n a d) v x d r h

theorem flat_ok {x : V} {v : Val} (r : Rep K H μ x v) (h : flatB v = true) : flatV x = true := by
  cases r <;> first | rfl | cases h
theorem flats_ok : ∀ {xs : List V} {vs : List Val}, Reps K H μ xs vs → vs.all flatB = true → xs.all flatV = true
  | _, _, .nil, _ => rfl
  | _, _, .cons r rs, h => by
    rw [List.all_cons, Bool.and_eq_true] at h ⊢
    exact ⟨flat_ok r h.1, flats_ok rs h.2⟩
theorem eqF_ok {x y : V} {v w : Val} (r : Rep K H μ x v) (q : Rep K H μ y w) (h : flatB v = true) (h' : flatB w = true) : L2.eqV x y = eqF v w := by
  cases r <;> first | (cases h; done) | (cases q <;> first | (cases h'; done) | (simp [L2.eqV, eqF]; done) | (simp only [L2.eqV, eqF]; rfl))
theorem inF_ok {x : V} {v : Val} (r : Rep K H μ x v) (h : flatB v = true) : ∀ {ys : List V} {ws : List Val}, Reps K H μ ys ws → ws.all flatB = true → inV x ys = ws.any fun y => eqF y v
  | _, _, .nil, _ => rfl
  | _, _, .cons q rs, h' => by
    rw [List.all_cons, Bool.and_eq_true] at h'
    have ih := inF_ok r h rs h'.2
    unfold inV at ih ⊢
    rw [List.any_cons, List.any_cons, ih, eqF_ok q r h'.1 h]
end

section
variable {X : Cx}
/-- a comparison -/
theorem cmpR_eq {op : CmpOp} {x y z : Val} {st st' : Sto} (h : cmpR op x y st = .ok z st') : ∃ b, cmpV op x y st = some b ∧ z = .bl b ∧ st' = st := by
  unfold cmpR liftO at h
  cases e : cmpV op x y st with
  | none => rw [e] at h; cases h
  | some b => rw [e] at h; cases h; exact ⟨b, rfl, rfl, rfl⟩
def CmpGood (op : CmpOp) : Bool := match op with
  | .Eq | .NotEq | .Lt | .LtE | .Gt | .GtE | .Is | .IsNot | .In | .NotIn => true
theorem eqV_some {st : Sto} {x y : Val} {b : Bool} (h : TT.eqV st x y = some b) : ∃ d e, rdD st x = some d ∧ rdD st y = some e ∧ SeqAt.shaped d = true ∧ SeqAt.shaped e = true ∧ b = PyData.eqv d e := by
  unfold TT.eqV at h
  split at h
  · rename_i d e h1 h2
    split at h
    · rename_i h3
      cases h
      exact ⟨d, e, h1, h2, h3.1, h3.2, rfl⟩
    · cases h
  · cases h
theorem inF_some {x : Val} {xs : List Val} {b : Bool} (h : inF x xs = some b) : flatB x = true ∧ xs.all flatB = true ∧ b = xs.any fun y => eqF y x := by
  unfold inF at h
  split at h
  · rename_i h3
    cases h
    exact ⟨h3.1, h3.2, rfl⟩
  · cases h
theorem isN_ok {K : PySem.W.Frag} {H : Hp} {μ : List Addr} {x : V} {v : Val} (r : Rep K H μ x v) : decide (x = .non) = isN v := by
  cases r <;> first | rfl | exact decide_eq_false (fun e => nomatch e)
theorem c_all (hu : X.A.units + 64 < cLine) (op : CmpOp) : OpR X (compareOp op) (R2v X.K (cmpR op)) := by
  intro pins s σ H x y v u Q I rx ry ⟨μ, a, b, st, z, st', ra, rb, sr, hf, hq⟩
  obtain ⟨k, hk, rfl, rfl⟩ := cmpR_eq hf
  have fin : ∀ k', k' = k → Q (.bl k') H := fun k' e => by subst e; exact aft_same sr hq (.bl _)
  cases op with
  | Eq =>
    obtain ⟨d, e, h1, h2, h3, h4, rfl⟩ := eqV_some hk
    exact op_eqD hu pins s σ H x y v u Q I rx ry ⟨d, e, rdD_ok sr ra h1, rdD_ok sr rb h2, h3, h4, fin _ rfl⟩
  | NotEq =>
    simp only [cmpV, Option.map_eq_some_iff] at hk
    obtain ⟨k', hk, rfl⟩ := hk
    obtain ⟨d, e, h1, h2, h3, h4, rfl⟩ := eqV_some hk
    exact op_neD hu pins s σ H x y v u Q I rx ry ⟨d, e, rdD_ok sr ra h1, rdD_ok sr rb h2, h3, h4, fin _ rfl⟩
  | Lt =>
    cases ra <;> cases rb <;> simp only [cmpV, reduceCtorEq] at hk
    cases hk
    exact op_lt pins s σ H _ _ v u Q I rx ry ⟨_, _, rfl, rfl, fin _ rfl⟩
  | LtE =>
    cases ra <;> cases rb <;> simp only [cmpV, reduceCtorEq] at hk
    cases hk
    exact op_le pins s σ H _ _ v u Q I rx ry ⟨_, _, rfl, rfl, fin _ rfl⟩
  | Gt =>
    cases ra <;> cases rb <;> simp only [cmpV, reduceCtorEq] at hk
    cases hk
    exact op_gt pins s σ H _ _ v u Q I rx ry ⟨_, _, rfl, rfl, fin _ rfl⟩
  | GtE =>
    cases ra <;> cases rb <;> simp only [cmpV, reduceCtorEq] at hk
    cases hk
    exact op_ge pins s σ H _ _ v u Q I rx ry ⟨_, _, rfl, rfl, fin _ rfl⟩
  | Is =>
    simp only [cmpV] at hk
    split at hk
    · rename_i hn
      cases hk
      rw [← isN_ok rb] at hn
      exact op_isN pins s σ H x y v u Q I rx ry ⟨of_decide_eq_true hn, fin _ (isN_ok ra)⟩
    · cases hk
  | IsNot =>
    simp only [cmpV] at hk
    split at hk
    · rename_i hn
      cases hk
      rw [← isN_ok rb] at hn
      exact op_notN pins s σ H x y v u Q I rx ry ⟨of_decide_eq_true hn, fin _ (by rw [isN_ok ra])⟩
    · cases hk
  | In =>
    simp only [cmpV, Option.bind_eq_some_iff] at hk
    obtain ⟨vs, h1, h2⟩ := hk
    obtain ⟨e1, e2, rfl⟩ := inF_some h2
    obtain ⟨p, xs, rfl, h3, h4, h5⟩ := seq_of sr rb h1
    exact op_in_seq pins s σ H x _ v u Q I rx ry ⟨p, xs, rfl, h3, flat_ok ra e1, flats_ok h5 e2, fin _ (inF_ok ra e1 h5 e2)⟩
  | NotIn =>
    simp only [cmpV, Option.map_eq_some_iff, Option.bind_eq_some_iff] at hk
    obtain ⟨k', ⟨vs, h1, h2⟩, rfl⟩ := hk
    obtain ⟨e1, e2, rfl⟩ := inF_some h2
    obtain ⟨p, xs, rfl, h3, h4, h5⟩ := seq_of sr rb h1
    exact op_notIn_seq pins s σ H x _ v u Q I rx ry ⟨p, xs, rfl, h3, flat_ok ra e1, flats_ok h5 e2, fin _ (by rw [inF_ok ra e1 h5 e2]; rfl)⟩

/-! ### truth -/
theorem tru_of {H : Hp} {μ : List Addr} {st : Sto} {x : V} {v : Val} {k : Bool} (sr : SR X.K H μ st) (r : Rep X.K H μ x v) (h : truthV st v = some k) : TruV X.K x H k := by
  cases r with
  | non => cases h; exact rfl
  | bl b => cases h; exact rfl
  | int i => cases h; exact rfl
  | str s =>
    simp only [truthV] at h
    split at h
    · cases h
      rename_i hz
      exact ⟨hz, rfl⟩
    · cases h
  | tup h1 z r =>
    cases h
    refine .inr (.inl ⟨_, SqT.of h1, ?_⟩)
    cases r <;> rfl
  | flst h1 z =>
    cases h
    refine .inl ⟨_, sq_flst h1, ?_⟩
    rename_i is
    cases is <;> rfl
  | loc h1 =>
    simp only [truthV] at h
    split at h
    · rename_i xs e
      cases h
      obtain ⟨ys, q1, q2, q3⟩ := sr.lst h1 e
      refine .inl ⟨ys, SqL.of q1, ?_⟩
      cases q3 <;> rfl
    · rename_i kvs e
      cases h
      obtain ⟨ws, q1, q2, q3⟩ := sr.cell _ _ _ e h1
      refine .inr (.inr ⟨ws, q1, ?_⟩)
      have := congrArg List.length q2
      simp only [List.length_map] at this
      cases ws <;> cases kvs <;> first | rfl | (simp at this)
    · cases h
theorem truthR_eq {v : Val} {st st' : Sto} {k : Bool} (h : truthR v st = .ok k st') : truthV st v = some k ∧ st' = st := by
  unfold truthR liftO at h
  cases e : truthV st v with
  | none => rw [e] at h; cases h
  | some b => rw [e] at h; cases h; exact ⟨rfl, rfl⟩

/-! ### isinstance -/
theorem isi_ok {H : Hp} {μ : List Addr} {st : Sto} {x : V} {v : Val} {n t : String} {b : Bool} (sr : SR X.K H μ st) (r : Rep X.K H μ x v) (h1 : tyName st v = some n) (h2 : isiV t n = some b) : ∃ T, TyX X.K H x T ∧ PySem.W.kitOne X.K T (.type t) = some b := by
  have ht : t = "int" ∨ t = "bool" ∨ t = "str" ∨ t = "tuple" ∨ t = "list" ∨ t = "dict" := by
    unfold isiV at h2
    split at h2
    · rename_i h
      simpa using h
    · cases h2
  have key : ∀ m : String, m = "NoneType" ∨ m = "bool" ∨ m = "int" ∨ m = "str" ∨ m = "tuple" ∨ m = "list" ∨ m = "dict" → isiV t m = some b → PySem.W.kitOne X.K (.type m) (.type t) = some b := by
    intro m hm hb
    refine kit_ty ?_
    rw [← hb]
    rcases ht with rfl | rfl | rfl | rfl | rfl | rfl <;> rcases hm with rfl | rfl | rfl | rfl | rfl | rfl | rfl <;> decide +kernel
  cases r with
  | non => cases h1; exact ⟨_, .base .non, key _ (by simp) h2⟩
  | bl b => cases h1; exact ⟨_, .base (.bl b), key _ (by simp) h2⟩
  | int i => cases h1; exact ⟨_, .base (.int i), key _ (by simp) h2⟩
  | str s => cases h1; exact ⟨_, .base (.str s), key _ (by simp) h2⟩
  | tup q1 z r => cases h1; exact ⟨_, .base (.tup q1), key _ (by simp) h2⟩
  | flst q1 z =>
    cases h1
    rcases q1 with ⟨o, q1⟩ | q1
    · exact ⟨_, .base (.frz q1), key _ (by simp) h2⟩
    · rcases q1 with (q1 | ⟨o, q1⟩) | ⟨o, its, m, e1, e2, _⟩
      · cases q1
      · cases q1
      · exact ⟨_, .kList e1 e2, key _ (by simp) h2⟩
  | loc q =>
    simp only [tyName] at h1
    split at h1
    · rename_i xs e
      cases h1
      obtain ⟨ys, q1, q2, q3⟩ := sr.lst q e
      exact ⟨_, .base (.lst q1), key _ (by simp) h2⟩
    · rename_i kvs e
      cases h1
      obtain ⟨ws, q1, q2, q3⟩ := sr.cell _ _ _ e q
      exact ⟨_, .base (.dK q1), key _ (by simp) h2⟩
    · cases h1
end
end TT
set_option Elab.async false
set_option linter.all false
set_option maxRecDepth 100000
set_option maxHeartbeats 4000000
/-! Built-ins, items, slices, methods. -/
namespace TT
open PySem L2 PySem.Spec PyProof.Rows

section
variable {prog : Program} {w : World} {A : Around} {E : Value → Shared → Prop} {s : Shared}
/-- repr of data -/
theorem repr_reads : ∀ {v : Value} {d : PyData} {as : List Addr} {Q : Value → Shared → Prop}, Reads s.heap v d as → d.showable = true → d.hasDict = false → d.shown.length ≤ sizeLine → A.guards = some [] → A.units + 1 + d.depth < cLine →
    (∀ h' u tk, (∀ b o, s.heap.get? b = some o → h'.get? b = some o) → Q (.str d.shown u) { s with heap := h', toks := tk }) → wpAny (model prog w) A (call (.builtin "repr") [v]) Q E s
  | _, _, _, Q, .none, _, _, _, _, _, q => P.repr_of_none (q s.heap _ _ fun _ _ e => e)
  | _, _, _, Q, .bool b, _, _, _, _, _, q => P.repr_of_bool (q s.heap _ _ fun _ _ e => e)
  | _, _, _, Q, .int i t, hs, _, _, _, _, q => P.repr_of_int (by simpa [PyData.showable] using hs) (q s.heap _ _ fun _ _ e => e)
  | _, _, _, Q, .str x t, _, _, hz, _, _, q => P.repr_of_str (q s.heap _ _ fun _ _ e => e) (by simpa only [PyData.shown] using hz)
  | _, _, _, Q, .list (a := a) (vs := vs) (xs := xs) h1 h2 h3 h4, hs, hn, hz, hg, hu, q => by
    have zl : (listText (PyData.shownAll xs)).length ≤ sizeLine := by simpa only [PyData.shown] using hz
    have hx : PyData.hasDictAll xs = false := by simpa [PyData.hasDict] using hn
    obtain ⟨bs, hb, hk⟩ := ReprAllK.of_readsAll (prog := prog) (w := w) h4 (by simpa [PyData.showable] using hs) (fun z => by rw [hx] at z; cases z) fun t ht => Nat.le_trans (listText_mem_le ht) zl
    have me : Reads s.heap (.ref a) (.list xs) _ := .list h1 h2 h3 h4
    have na : a ∉ bs := not_mem_of_deeper me (by simp only [PyData.depth]; omega) hb
    simp only [PyData.depth] at hu
    simp only [PyData.shown] at q
    refine call_repr_slot (by omega) (T := "list") ⟨_, h1, h2⟩ F.slot_list_repr.toG ?_
    obtain ⟨l⟩ := vs
    cases l with
    | nil =>
      have h5 : ReadsAll s.heap [] xs _ := h4
      cases h5
      simp only [PyData.shownAll, listText_nil] at q
      exact call_list_repr_empty ⟨_, h1, h2⟩ h1 h3 ⟨_, _, rfl, q s.heap _ _ fun _ _ e => e⟩
    | cons y l =>
      exact call_list_reprK h1 h2 h3 na (by simpa using hk.length_eq) (fun i z e => hk.item i z (by simpa using e)) (g := []) hg (fun b _ => Clear.nil b) (by show A.units + 1 + _ < _; omega) (fun _ _ e => e) (fun h' u tk k => ⟨_, _, rfl, q h' u tk k⟩) zl
  | _, _, _, Q, .tuple (a := a) (xs := xs) h1 h2 h3 h4, hs, hn, hz, hg, hu, q => by
    have zl : (tupleText (PyData.shownAll xs)).length ≤ sizeLine := by simpa only [PyData.shown] using hz
    have hx : PyData.hasDictAll xs = false := by simpa [PyData.hasDict] using hn
    obtain ⟨bs, hb, hk⟩ := ReprAllK.of_readsAll (prog := prog) (w := w) h4 (by simpa [PyData.showable] using hs) (fun z => by rw [hx] at z; cases z) fun t ht => Nat.le_trans (tupleText_mem_le ht) zl
    have me : Reads s.heap (.ref a) (.tuple xs) _ := .tuple h1 h2 h3 h4
    have na : a ∉ bs := not_mem_of_deeper me (by simp only [PyData.depth]; omega) hb
    simp only [PyData.depth] at hu
    simp only [PyData.shown] at q
    refine call_repr_slot (by omega) (T := "tuple") ⟨_, h1, h2⟩ F.slot_tuple_repr ?_
    exact call_tuple_reprK h1 h2 h3 na hk (g := []) hg (fun b _ => Clear.nil b) (by show A.units + 1 + _ < _; omega) (fun _ _ e => e) (fun h' u tk k => ⟨_, _, rfl, q h' u tk k⟩) zl
  | _, _, _, Q, .dict _ _ _ _ _, _, hn, _, _, _, _ => by simp [PyData.hasDict] at hn
end

section
variable {X : Cx}
theorem reps1 {K : PySem.W.Frag} {H : Hp} {μ : List Addr} {xs : List V} {v : Val} (r : Reps K H μ xs [v]) : ∃ x, xs = [x] ∧ Rep K H μ x v := by
  cases r with
  | cons r rs => cases rs; exact ⟨_, rfl, r⟩
theorem reps2 {K : PySem.W.Frag} {H : Hp} {μ : List Addr} {xs : List V} {v w : Val} (r : Reps K H μ xs [v, w]) : ∃ x y, xs = [x, y] ∧ Rep K H μ x v ∧ Rep K H μ y w := by
  cases r with
  | cons r rs =>
    cases rs with
    | cons r2 rs => cases rs; exact ⟨_, _, rfl, r, r2⟩
theorem asInts_ok {K : PySem.W.Frag} {H : Hp} {μ : List Addr} : ∀ {vs : List Val} {xs : List V} {is : List Int}, Reps K H μ xs vs → asInts vs = some is → xs = is.map V.int
  | [], _, _, .nil, h => by cases h; rfl
  | v :: vs, _, is, .cons r rs, h => by
    cases r <;> simp only [asInts, reduceCtorEq, Option.map_eq_some_iff] at h
    obtain ⟨js, h1, rfl⟩ := h
    rw [asInts_ok rs h1]
    rfl
theorem asBls_ok {K : PySem.W.Frag} {H : Hp} {μ : List Addr} : ∀ {vs : List Val} {xs : List V} {is : List Bool}, Reps K H μ xs vs → asBls vs = some is → xs = is.map V.bl
  | [], _, _, .nil, h => by cases h; rfl
  | v :: vs, _, is, .cons r rs, h => by
    cases r <;> simp only [asBls, reduceCtorEq, Option.map_eq_some_iff] at h
    obtain ⟨js, h1, rfl⟩ := h
    rw [asBls_ok rs h1]
    rfl
/-- which built-in it is -/
def bltId : Blt → Option (String × Bool)
  | .len => some ("len", false)
  | .tuple => some ("tuple", true)
  | .list => some ("list", true)
  | .sum => some ("sum", false)
  | .all => some ("all", false)
  | .any => some ("any", false)
  | .abs => some ("abs", false)
  | .max => some ("max", false)
  | .min => some ("min", false)
  | .int => some ("int", true)
  | .repr => some ("repr", false)
  | _ => none
def bltF (p : String × Bool) : Value := if p.2 = true then .type p.1 else .builtin p.1
theorem bl_len : CallR X (.builtin "len") (RLv X.K (bltV .len)) := by
  intro pins s σ H xs us Q I r ⟨μ, vs, st, z, st', rp, sr, hf, hq⟩
  match vs, hf with
  | [.str y], hf =>
    simp only [bltV] at hf
    split at hf
    · rename_i hz
      obtain ⟨rfl, rfl⟩ := ok_eq hf
      obtain ⟨x, rfl, rx⟩ := reps1 rp
      cases rx
      exact call_len pins s σ H _ us Q I r ⟨_, _, rfl, ⟨hz, rfl⟩, aft_same sr hq (.int _)⟩
    · cases hf
  | [.non], hf => simp [bltV, seqOf] at hf
  | [.bl _], hf => simp [bltV, seqOf] at hf
  | [.int _], hf => simp [bltV, seqOf] at hf
  | [.tup ws], hf =>
    simp only [bltV, seqOf] at hf
    obtain ⟨rfl, rfl⟩ := ok_eq hf
    obtain ⟨x, rfl, rx⟩ := reps1 rp
    cases rx with
    | tup h1 hz r1 => exact call_len pins s σ H _ us Q I r ⟨_, _, rfl, .inr ⟨_, SqT.of h1, rfl⟩, aft_same sr hq (by rw [r1.length]; exact .int _)⟩
  | [.flst is], hf =>
    simp only [bltV, seqOf] at hf
    obtain ⟨rfl, rfl⟩ := ok_eq hf
    obtain ⟨x, rfl, rx⟩ := reps1 rp
    cases rx with
    | flst h1 hz => exact call_len pins s σ H _ us Q I r ⟨_, _, rfl, .inl ⟨_, sq_flst h1, rfl⟩, aft_same sr hq (by rw [List.length_map, List.length_map]; exact .int _)⟩
  | [.loc n], hf =>
    simp only [bltV] at hf
    split at hf
    · rename_i ys e
      obtain ⟨rfl, rfl⟩ := ok_eq hf
      obtain ⟨x, rfl, rx⟩ := reps1 rp
      obtain ⟨a, zs, rfl, h3, h4, h5⟩ := seq_of sr rx e
      refine call_len pins s σ H _ us Q I r ⟨_, zs.length, rfl, ?_, aft_same sr hq (by rw [h5.length]; exact .int _)⟩
      rcases h3 with h3 | h3
      · exact .inl ⟨_, h3, rfl⟩
      · exact .inr ⟨_, h3, rfl⟩
    · cases hf
  | [], hf => simp [bltV] at hf
  | _ :: _ :: _, hf => simp [bltV] at hf
theorem bl_tuple : CallR X (.type "tuple") (RLv X.K (bltV .tuple)) := by
  intro pins s σ H xs us Q I r ⟨μ, vs, st, z, st', rp, sr, hf, hq⟩
  match vs, hf with
  | [v], hf =>
    simp only [bltV] at hf
    split at hf
    · rename_i ws e
      obtain ⟨rfl, rfl⟩ := ok_eq hf
      obtain ⟨x, rfl, rx⟩ := reps1 rp
      obtain ⟨a, zs, rfl, h3, h4, h5⟩ := seq_of sr rx e
      refine call_tuple_of pins s σ H _ us Q I r ⟨a, zs, rfl, ?_⟩
      rcases h3 with h3 | h3
      · exact .inl ⟨h3, fun l hl => aft_tup sr hq hl h4 h5⟩
      · refine .inr ⟨h3, ?_⟩
        cases rx with
        | tup q1 qz q2 =>
          cases e
          exact aft_same sr hq (.tup q1 qz q2)
        | flst q1 qz =>
          exfalso
          obtain ⟨its, _, ⟨o, ho, hc, _⟩, _⟩ := I.tuple h3
          obtain ⟨jts, _, ⟨o2, n2, ho2, hc2, _⟩, _⟩ := I.list (sq_flst q1)
          rw [ho] at ho2; cases ho2
          rw [hc] at hc2
          exact absurd hc2 (by decide)
        | loc q1 =>
          exfalso
          simp only [seqOf] at e
          split at e
          · rename_i ws' e'
            obtain ⟨ys, q2, _⟩ := sr.lst q1 e'
            obtain ⟨its, _, ⟨o, ho, hc, _⟩, _⟩ := I.tuple h3
            obtain ⟨jts, _, ⟨o2, n2, ho2, hc2, _⟩, _⟩ := I.list (SqL.of q2 : SqL X.K H a ys)
            rw [ho] at ho2; cases ho2
            rw [hc] at hc2
            exact absurd hc2 (by decide)
          · cases e
        | _ => cases e
    · cases hf
  | [], hf => simp [bltV] at hf
  | _ :: _ :: _, hf => simp [bltV] at hf
theorem bl_list : CallR X (.type "list") (RLv X.K (bltV .list)) := by
  intro pins s σ H xs us Q I r ⟨μ, vs, st, z, st', rp, sr, hf, hq⟩
  match vs, hf with
  | [v], hf =>
    simp only [bltV] at hf
    split at hf
    · rename_i ws e
      obtain ⟨rfl, rfl⟩ := alloc_eq hf
      obtain ⟨x, rfl, rx⟩ := reps1 rp
      obtain ⟨a, zs, rfl, h3, h4, h5⟩ := seq_of sr rx e
      exact call_list_of pins s σ H _ us Q I r ⟨a, zs, rfl, h3, fun l hl => aft_alloc sr hq hl ⟨_, upd_same, h4, h5.mono (Ext.alloc hl)⟩⟩
    · cases hf
  | [], hf => simp [bltV] at hf
  | _ :: _ :: _, hf => simp [bltV] at hf
theorem bl_sum (hc : X.calm = true) : CallR X (.builtin "sum") (RLv X.K (bltV .sum)) := by
  intro pins s σ H xs us Q I r ⟨μ, vs, st, z, st', rp, sr, hf, hq⟩
  match vs, hf with
  | [.flst is], hf =>
    simp only [bltV] at hf
    obtain ⟨rfl, rfl⟩ := ok_eq hf
    obtain ⟨x, rfl, rx⟩ := reps1 rp
    cases rx with
    | flst h1 hz => exact cr_sum hc pins s σ H _ us Q I r ⟨_, is, rfl, sq_flst h1, aft_same sr hq (.int _)⟩
  | [.loc n], hf =>
    simp only [bltV] at hf
    split at hf
    · rename_i is e
      obtain ⟨rfl, rfl⟩ := ok_eq hf
      obtain ⟨x, rfl, rx⟩ := reps1 rp
      rw [Option.bind_eq_some_iff] at e
      obtain ⟨ys, e1, e2⟩ := e
      simp only [seqOf] at e1
      split at e1
      · rename_i ys' e3
        cases e1
        cases rx with
        | loc q1 =>
          obtain ⟨zs, q2, q3, q4⟩ := sr.lst q1 e3
          have := asInts_ok q4 e2
          subst this
          exact cr_sum hc pins s σ H _ us Q I r ⟨_, is, rfl, SqL.of q2, aft_same sr hq (.int _)⟩
      · cases e1
    · cases hf
  | [.str _], hf => simp [bltV] at hf
  | [.non], hf => simp [bltV] at hf
  | [.bl _], hf => simp [bltV] at hf
  | [.int _], hf => simp [bltV] at hf
  | [.tup ws], hf => simp [bltV] at hf
  | [], hf => simp [bltV] at hf
  | _ :: _ :: _, hf => simp [bltV] at hf
theorem bl_all (hc : X.calm = true) : CallR X (.builtin "all") (RLv X.K (bltV .all)) := by
  intro pins s σ H xs us Q I r ⟨μ, vs, st, z, st', rp, sr, hf, hq⟩
  match vs, hf with
  | [.loc n], hf =>
    simp only [bltV] at hf
    split at hf
    · rename_i is e
      obtain ⟨rfl, rfl⟩ := ok_eq hf
      obtain ⟨x, rfl, rx⟩ := reps1 rp
      rw [Option.bind_eq_some_iff] at e
      obtain ⟨ys, e1, e2⟩ := e
      simp only [seqOf] at e1
      split at e1
      · rename_i ys' e3
        cases e1
        cases rx with
        | loc q1 =>
          obtain ⟨zs, q2, q3, q4⟩ := sr.lst q1 e3
          have := asBls_ok q4 e2
          subst this
          exact cr_all hc pins s σ H _ us Q I r ⟨_, is, rfl, SqL.of q2, aft_same sr hq (.bl _)⟩
      · cases e1
    · cases hf
  | [.str _], hf => simp [bltV] at hf
  | [.non], hf => simp [bltV] at hf
  | [.bl _], hf => simp [bltV] at hf
  | [.int _], hf => simp [bltV] at hf
  | [.tup ws], hf => simp [bltV] at hf
  | [.flst ws], hf => simp [bltV] at hf
  | [], hf => simp [bltV] at hf
  | _ :: _ :: _, hf => simp [bltV] at hf
theorem bl_any (hc : X.calm = true) : CallR X (.builtin "any") (RLv X.K (bltV .any)) := by
  intro pins s σ H xs us Q I r ⟨μ, vs, st, z, st', rp, sr, hf, hq⟩
  match vs, hf with
  | [.loc n], hf =>
    simp only [bltV] at hf
    split at hf
    · rename_i is e
      obtain ⟨rfl, rfl⟩ := ok_eq hf
      obtain ⟨x, rfl, rx⟩ := reps1 rp
      rw [Option.bind_eq_some_iff] at e
      obtain ⟨ys, e1, e2⟩ := e
      simp only [seqOf] at e1
      split at e1
      · rename_i ys' e3
        cases e1
        cases rx with
        | loc q1 =>
          obtain ⟨zs, q2, q3, q4⟩ := sr.lst q1 e3
          have := asBls_ok q4 e2
          subst this
          exact cr_any hc pins s σ H _ us Q I r ⟨_, is, rfl, SqL.of q2, aft_same sr hq (.bl _)⟩
      · cases e1
    · cases hf
  | [.str _], hf => simp [bltV] at hf
  | [.non], hf => simp [bltV] at hf
  | [.bl _], hf => simp [bltV] at hf
  | [.int _], hf => simp [bltV] at hf
  | [.tup ws], hf => simp [bltV] at hf
  | [.flst ws], hf => simp [bltV] at hf
  | [], hf => simp [bltV] at hf
  | _ :: _ :: _, hf => simp [bltV] at hf
theorem bl_abs : CallR X (.builtin "abs") (RLv X.K (bltV .abs)) := by
  intro pins s σ H xs us Q I r ⟨μ, vs, st, z, st', rp, sr, hf, hq⟩
  match vs, hf with
  | [.int i], hf =>
    simp only [bltV] at hf
    obtain ⟨rfl, rfl⟩ := ok_eq hf
    obtain ⟨x, rfl, rx⟩ := reps1 rp
    cases rx
    exact call_abs pins s σ H _ us Q I r ⟨i, rfl, aft_same sr hq (.int _)⟩
  | [.str _], hf => simp [bltV] at hf
  | [.non], hf => simp [bltV] at hf
  | [.bl _], hf => simp [bltV] at hf
  | [.loc _], hf => simp [bltV] at hf
  | [.tup ws], hf => simp [bltV] at hf
  | [.flst ws], hf => simp [bltV] at hf
  | [], hf => simp [bltV] at hf
  | _ :: _ :: _, hf => simp [bltV] at hf
theorem two_ints {f : Int → Int → Val} {vs : List Val} {st st' : Sto} {z : Val} {b : Blt} (hb : bltV b = fun vs st => match vs with
    | [.int i, .int j] => .ok (f i j) st
    | _ => .bad) (hf : bltV b vs st = .ok z st') : ∃ i j, vs = [.int i, .int j] ∧ z = f i j ∧ st = st' := by
  rw [hb] at hf
  simp only at hf
  split at hf
  · obtain ⟨rfl, rfl⟩ := ok_eq hf
    exact ⟨_, _, rfl, rfl, rfl⟩
  · cases hf
theorem bl_max (hc : X.calm = true) : CallR X (.builtin "max") (RLv X.K (bltV .max)) := by
  intro pins s σ H xs us Q I r ⟨μ, vs, st, z, st', rp, sr, hf, hq⟩
  obtain ⟨i, j, rfl, rfl, rfl⟩ := two_ints (f := fun i j => .int (if j > i then j else i)) (by
    funext vs st
    simp only [bltV]
    split <;> simp_all) hf
  obtain ⟨x, y, rfl, rx, ry⟩ := reps2 rp
  cases rx; cases ry
  exact call_max2 hc pins s σ H _ us Q I r ⟨i, j, rfl, aft_same sr hq (.int _)⟩
theorem bl_min (hc : X.calm = true) : CallR X (.builtin "min") (RLv X.K (bltV .min)) := by
  intro pins s σ H xs us Q I r ⟨μ, vs, st, z, st', rp, sr, hf, hq⟩
  obtain ⟨i, j, rfl, rfl, rfl⟩ := two_ints (f := fun i j => .int (if j < i then j else i)) (by
    funext vs st
    simp only [bltV]
    split <;> simp_all) hf
  obtain ⟨x, y, rfl, rx, ry⟩ := reps2 rp
  cases rx; cases ry
  exact call_min2 hc pins s σ H _ us Q I r ⟨i, j, rfl, aft_same sr hq (.int _)⟩
theorem bl_int : CallR X (.type "int") (RLv X.K (bltV .int)) := by
  intro pins s σ H xs us Q I r ⟨μ, vs, st, z, st', rp, sr, hf, hq⟩
  match vs, hf with
  | [.int i], hf =>
    simp only [bltV] at hf
    obtain ⟨rfl, rfl⟩ := ok_eq hf
    obtain ⟨x, rfl, rx⟩ := reps1 rp
    cases rx
    exact call_int1 pins s σ H _ us Q I r (.inl ⟨i, rfl, aft_same sr hq (.int _)⟩)
  | [.bl b], hf =>
    simp only [bltV] at hf
    obtain ⟨rfl, rfl⟩ := ok_eq hf
    obtain ⟨x, rfl, rx⟩ := reps1 rp
    cases rx
    exact call_int1 pins s σ H _ us Q I r (.inr ⟨b, rfl, aft_same sr hq (.int _)⟩)
  | [.str _], hf => simp [bltV] at hf
  | [.non], hf => simp [bltV] at hf
  | [.loc _], hf => simp [bltV] at hf
  | [.tup ws], hf => simp [bltV] at hf
  | [.flst ws], hf => simp [bltV] at hf
  | [], hf => simp [bltV] at hf
  | _ :: _ :: _, hf => simp [bltV] at hf
theorem bl_repr (hg : X.A.guards = some []) (hu : X.A.units + 100 < cLine) : CallR X (.builtin "repr") (RLv X.K (bltV .repr)) := by
  intro pins s σ H xs us Q I r ⟨μ, vs, st, z, st', rp, sr, hf, hq⟩
  match vs, hf with
  | [v], hf =>
    simp only [bltV] at hf
    split at hf
    · rename_i d e
      split at hf
      · rename_i hd
        obtain ⟨rfl, rfl⟩ := ok_eq hf
        obtain ⟨x, rfl, rx⟩ := reps1 rp
        obtain ⟨u, rfl, ru⟩ := vals1 r
        obtain ⟨as, hr⟩ := Dp.reads I d x u (rdD_ok sr rx e) ru
        refine repr_reads hr hd.1 hd.2.1 hd.2.2.2 hg (by omega) fun h' u tk k => ?_
        exact ⟨.str d.shown, H, I.kept k, ⟨_, rfl⟩, aft_same sr hq (.str _)⟩
      · cases hf
    · cases hf
  | [], hf => simp [bltV] at hf
  | _ :: _ :: _, hf => simp [bltV] at hf
theorem bl_ok (hc : X.calm = true) (hg : X.A.guards = some []) (hu : X.A.units + 100 < cLine) {b : Blt} {p : String × Bool} (h : bltId b = some p) : CallR X (bltF p) (RLv X.K (bltV b)) := by
  cases b <;> simp only [bltId, reduceCtorEq, Option.some.injEq] at h <;> subst h
  · exact bl_len
  · exact bl_tuple
  · exact bl_list
  · exact bl_sum hc
  · exact bl_all hc
  · exact bl_any hc
  · exact bl_abs
  · exact bl_max hc
  · exact bl_min hc
  · exact bl_int
  · exact bl_repr hg hu
end
end TT
set_option Elab.async false
set_option linter.all false
set_option maxRecDepth 100000
set_option maxHeartbeats 4000000
/-! Items, slices, methods, stores. -/
namespace TT
open PySem L2 PySem.Spec PyProof.Rows

section
variable {X : Cx}
theorem Reps.atI {K : PySem.W.Frag} {H : Hp} {μ : List Addr} {xs : List V} {vs : List Val} (r : Reps K H μ xs vs) {i : Int} {v : Val} (h : L2.atI vs i = some v) : ∃ x, L2.atI xs i = some x ∧ Rep K H μ x v := by
  unfold L2.atI at h ⊢
  rw [Option.bind_eq_some_iff] at h
  obtain ⟨j, h1, h2⟩ := h
  obtain ⟨x, h3, h4⟩ := r.get h2
  exact ⟨x, by rw [r.length, h1]; exact h3, h4⟩
theorem x_idx : IxR X (R2v X.K idxV) := by
  intro value slice pins s σ H x y v u Q I rx ry ⟨μ, a, b, st, z, st', ra, rb, sr, hf, hq⟩ hs
  have gen : ∀ (i : Int), b = .int i → (seqOf st a).bind (fun xs => L2.atI xs i) = some z → st = st' → wpAny (model X.prog X.w) X.A (subscriptTail value slice v u) (EP X pins σ Q) X.xe s := by
    intro i hb he hst
    subst hb hst
    rw [Option.bind_eq_some_iff] at he
    obtain ⟨vs, h1, h2⟩ := he
    obtain ⟨p, xs, rfl, h3, h4, h5⟩ := seq_of sr ra h1
    obtain ⟨w, h6, h7⟩ := h5.atI h2
    cases rb
    rcases h3 with h3 | h3
    · exact ix_list value slice pins s σ H _ _ v u Q I rx ry ⟨p, xs, i, w, rfl, rfl, h3, h6, aft_same sr hq h7⟩ hs
    · exact ix_tup value slice pins s σ H _ _ v u Q I rx ry ⟨p, xs, i, w, rfl, rfl, h3, h6, aft_same sr hq h7⟩ hs
  unfold idxV at hf
  split at hf
  · rename_i t i
    split at hf
    · rename_i hz
      split at hf
      · rename_i c hc
        obtain ⟨rfl, rfl⟩ := ok_eq hf
        cases ra; cases rb
        exact ix_str value slice pins s σ H _ _ v u Q I rx ry ⟨t, i, c, rfl, rfl, hz, hc, aft_same sr hq (.str _)⟩ hs
      · cases hf
    · cases hf
  · rename_i i _
    split at hf
    · rename_i w e
      obtain ⟨rfl, rfl⟩ := ok_eq hf
      exact gen i rfl e rfl
    · cases hf
  · cases hf

/-! ### slices -/
def RSv (K : PySem.W.Frag) (f : Val → Option Int → Option Int → Sto → Res Val) : V → Option Int → Option Int → Hp → VK → Prop := fun x lo hi H Q =>
  ∃ (μ : List Addr) (v : Val) (st : Sto) (z : Val) (st' : Sto), Rep K H μ x v ∧ SR K H μ st ∧ f v lo hi st = .ok z st' ∧ Aft K H μ st' z Q
theorem cutL_len {α : Type} (xs : List α) (lo hi : Option Int) : (cutL xs lo hi).length ≤ xs.length := by
  unfold cutL
  rw [List.length_take, List.length_drop]
  omega
theorem Reps.cut {K : PySem.W.Frag} {H : Hp} {μ : List Addr} {xs : List V} {vs : List Val} (r : Reps K H μ xs vs) (lo hi : Option Int) : Reps K H μ (cutV xs lo hi) (cutL vs lo hi) := by
  unfold cutV cutL
  rw [r.length]
  exact (r.drop _).take _
theorem cutV_len (xs : List V) (lo hi : Option Int) : (cutV xs lo hi).length ≤ xs.length := by
  unfold cutV
  rw [List.length_take, List.length_drop]
  omega
theorem cut_map (is : List Int) (lo hi : Option Int) : cutV (is.map V.int) lo hi = (cutL is lo hi).map V.int := by
  unfold cutV cutL
  rw [List.length_map, List.map_take, List.map_drop]
theorem x_sl : SlR X (RSv X.K slV) := by
  intro pins s σ H x v vl vu lo hi sl Q I rx hs pl pu ⟨μ, a, st, z, st', ra, sr, hf, hq⟩
  cases ra <;> simp only [slV, reduceCtorEq] at hf
  case tup p xs vs h1 hz r1 =>
    obtain ⟨rfl, rfl⟩ := ok_eq hf
    refine sl_tupA pins s σ H _ v vl vu lo hi sl Q I rx hs pl pu ⟨p, xs, rfl, SqT.of h1, fun hw => ?_, fun _ q hn => ?_⟩
    · have e : cutL vs lo hi = vs := by
        unfold cutL
        rw [← r1.length, hw.1, hw.2]
        rw [List.drop_zero, r1.length]
        exact List.take_of_length_le (by omega)
      rw [e] at hq
      exact aft_same sr hq (.tup h1 hz r1)
    · exact aft_tup sr hq hn (Nat.le_trans (cutV_len _ _ _) hz) (r1.cut lo hi)
  case flst p is h1 hz =>
    obtain ⟨rfl, rfl⟩ := alloc_eq hf
    refine sl_list pins s σ H _ v vl vu lo hi sl Q I rx hs pl pu ⟨p, is.map V.int, rfl, sq_flst h1, fun q hn => ?_⟩
    refine aft_alloc sr hq hn ⟨_, upd_same, ?_, ?_⟩
    · refine Nat.le_trans (cutV_len _ _ _) (by rw [List.length_map]; exact hz)
    · rw [cut_map]
      exact Reps.ints _
  case loc n p h1 =>
    split at hf
    · rename_i xs e
      obtain ⟨rfl, rfl⟩ := alloc_eq hf
      obtain ⟨ys, q1, q2, q3⟩ := sr.lst h1 e
      refine sl_list pins s σ H _ v vl vu lo hi sl Q I rx hs pl pu ⟨p, ys, rfl, SqL.of q1, fun q hn => ?_⟩
      exact aft_alloc sr hq hn ⟨_, upd_same, Nat.le_trans (cutV_len _ _ _) q2, (q3.cut lo hi).mono (Ext.alloc hn)⟩
    · cases hf

/-! ### methods -/
def RMv (K : PySem.W.Frag) (f : Val → Val → Sto → Res Val) : V → List V → Hp → VK → Prop := fun x ys H Q => ∃ y, ys = [y] ∧ R2v K f x y H Q
def RM0v (K : PySem.W.Frag) (f : Val → Sto → Res Val) : V → List V → Hp → VK → Prop := fun x ys H Q => ys = [] ∧ R1v K f x H Q
theorem aft_write {K : PySem.W.Frag} {H : Hp} {μ : List Addr} {st : Sto} {Q : VK} {z : Val} {u : V} {a : Addr} {n : Nat} {ys zs : List V} {ws : List Val} (sr : SR K H μ st) (hn : μ[n]? = some a) (ha : H a = some (.lst ys))
    (hq : Aft K H μ (st.set n (.lst ws)) z Q) (hz : zs.length ≤ sizeLine) (r : Reps K H μ zs ws) (ru : Rep K H μ u z) : Q u (upd H a (.lst zs)) := by
  have ext : Ext H μ (upd H a (.lst zs)) μ := Ext.write ha trivial (List.mem_of_getElem? hn)
  exact hq _ _ _ ext (sr.write hn ha trivial ⟨zs, upd_same, hz, r.mono ext⟩) (ru.mono ext)
theorem m_app : MtR X "list.append" (RMv X.K appV) := by
  intro pins s σ H x xs v us Q I rx rs h
  obtain ⟨y, rfl, μ, a, b, st, z, st', ra, rb, sr, hf, hq⟩ := h
  cases ra <;> simp only [appV, reduceCtorEq] at hf
  case loc n p h1 =>
    split at hf
    · rename_i ws e
      split at hf
      · rename_i hz
        obtain ⟨rfl, rfl⟩ := ok_eq hf
        obtain ⟨ys, q1, q2, q3⟩ := sr.lst h1 e
        refine mt_append pins s σ H _ _ v us Q I rx rs ⟨p, ys, y, rfl, rfl, q1, by rw [q3.length]; exact hz, ?_⟩
        exact aft_write sr h1 q1 hq (by rw [List.length_append, q3.length]; exact hz) (q3.append (.cons rb .nil)) .non
      · cases hf
    · cases hf
theorem m_ext : MtR X "list.extend" (RMv X.K extV) := by
  intro pins s σ H x xs v us Q I rx rs h
  obtain ⟨y, rfl, μ, a, b, st, z, st', ra, rb, sr, hf, hq⟩ := h
  cases ra <;> cases rb <;> simp only [extV, reduceCtorEq] at hf
  case loc.loc n p h1 m q h2 =>
    split at hf
    · rename_i ws ws2 e e2
      split at hf
      · rename_i hz
        obtain ⟨rfl, rfl⟩ := ok_eq hf
        obtain ⟨ys, q1, q2, q3⟩ := sr.lst h1 e
        obtain ⟨ys2, p1, p2, p3⟩ := sr.lst h2 e2
        have hz' : ys.length + ys2.length ≤ sizeLine := by rw [q3.length, p3.length]; exact hz
        refine mt_extend pins s σ H _ _ v us Q I rx rs ⟨p, q, ys, ys2, rfl, rfl, q1, p1, hz', ?_⟩
        exact aft_write sr h1 q1 hq (by rw [List.length_append]; exact hz') (q3.append p3) .non
      · cases hf
    · cases hf
theorem m_pop : MtR X "list.pop" (RM0v X.K popV) := by
  intro pins s σ H x xs v us Q I rx rs h
  obtain ⟨rfl, μ, a, st, z, st', ra, sr, hf, hq⟩ := h
  cases ra <;> simp only [popV, reduceCtorEq] at hf
  case loc n p h1 =>
    split at hf
    · rename_i ws e
      split at hf
      · rename_i w hw
        obtain ⟨rfl, rfl⟩ := ok_eq hf
        obtain ⟨ys, q1, q2, q3⟩ := sr.lst h1 e
        obtain ⟨y, h3, h4⟩ := q3.get hw
        refine mt_pop pins s σ H _ _ v us Q I rx rs ⟨p, ys, y, rfl, rfl, q1, by rw [q3.length]; exact h3, ?_⟩
        exact aft_write sr h1 q1 hq (by rw [List.length_dropLast]; omega) q3.dropLast h4
      · cases hf
    · cases hf

/-! ### o[i] = v -/
def RStv (K : PySem.W.Frag) (f : Val → Val → Val → Sto → Option Sto) : V → V → V → Hp → (Hp → Prop) → Prop := fun o i v H Q =>
  ∃ (μ : List Addr) (a b c : Val) (st st' : Sto), Rep K H μ o a ∧ Rep K H μ i b ∧ Rep K H μ v c ∧ SR K H μ st ∧ f a b c st = some st' ∧ ∀ (μ' : List Addr) (H' : Hp), Ext H μ H' μ' → SR K H' μ' st' → Q H'
theorem x_store : PSet X (RStv X.K storeV) := by
  intro pins s σ H o i v ov iv u Q I ro ri rv ⟨μ, a, b, c, st, st', ra, rb, rc, sr, hf, hq⟩
  cases ra <;> cases rb <;> simp only [storeV, reduceCtorEq] at hf
  case loc.int n p h1 k =>
    split at hf
    · rename_i ws e
      split at hf
      · rename_i j hj
        cases hf
        obtain ⟨ys, q1, q2, q3⟩ := sr.lst h1 e
        refine set_list pins s σ H _ _ _ ov iv u Q I ro ri rv ⟨p, ys, k, j, rfl, rfl, q1, by rw [q3.length]; exact hj, ?_⟩
        have ext : Ext H μ (upd H p (.lst (ys.set j v))) μ := Ext.write q1 trivial (List.mem_of_getElem? h1)
        exact hq _ _ ext (sr.write h1 q1 trivial ⟨_, upd_same, by rw [List.length_set]; exact q2, (Reps.set rc j q3).mono ext⟩)
      · cases hf
    · cases hf
end
end TT
set_option Elab.async false
set_option linter.all false
set_option maxRecDepth 100000
set_option maxHeartbeats 4000000
/-! Readings by the evaluator; the context; defs. -/
namespace TT
open PySem L2 PySem.Spec PyProof.Rows

/-! ### readings -/
section
variable (K : PySem.W.Frag)
def TEv (f : VEnv → Sto → Res Val) : TE := fun σ H Q => ∃ (μ : List Addr) (env : VEnv) (st : Sto) (v : Val) (st' : Sto), ER K H μ σ env ∧ SR K H μ st ∧ f env st = .ok v st' ∧ Aft K H μ st' v Q
def TTv (f : VEnv → Sto → Res Bool) : TT := fun σ H Q => ∃ (μ : List Addr) (env : VEnv) (st : Sto) (b : Bool) (st' : Sto), ER K H μ σ env ∧ SR K H μ st ∧ f env st = .ok b st' ∧ ∀ (μ' : List Addr) (H' : Hp), Ext H μ H' μ' → SR K H' μ' st' → Q b H'
def TAv (f : VEnv → Sto → Res (List Val)) : TA := fun σ H Q => ∃ (μ : List Addr) (env : VEnv) (st : Sto) (vs : List Val) (st' : Sto), ER K H μ σ env ∧ SR K H μ st ∧ f env st = .ok vs st' ∧ ∀ (μ' : List Addr) (H' : Hp) (xs : List V), Ext H μ H' μ' → SR K H' μ' st' → Reps K H' μ' xs vs → Q xs H'
def TOv (f : VEnv → Sto → Res (Option Int)) : TO := fun σ H Q => ∃ (μ : List Addr) (env : VEnv) (st : Sto) (o : Option Int) (st' : Sto), ER K H μ σ env ∧ SR K H μ st ∧ f env st = .ok o st' ∧ ∀ (μ' : List Addr) (H' : Hp), Ext H μ H' μ' → SR K H' μ' st' → Q o H'
end
theorem _root_.L2.PE.ti {X : Cx} {e : Expr} {t t' : TE} (h : PE X e t) (i : ∀ σ H Q, t' σ H Q → t σ H Q) : PE X e t' := ⟨fun pins s σ H Q I q => h.run pins s σ H Q I (i σ H Q q)⟩
theorem _root_.L2.PT.ti {X : Cx} {e : Expr} {t t' : TT} (h : PT X e t) (i : ∀ σ H Q, t' σ H Q → t σ H Q) : PT X e t' := ⟨fun pins s σ H Q I q => h.run pins s σ H Q I (i σ H Q q)⟩
theorem _root_.L2.PW.ti {X : Cx} {e : Expr} {t t' : TT} (h : PW X e t) (i : ∀ σ H Q, t' σ H Q → t σ H Q) : PW X e t' := ⟨fun wh pins s σ H Q I q => h.run wh pins s σ H Q I (i σ H Q q)⟩
theorem _root_.L2.PA.ti {X : Cx} {es : List Expr} {t t' : TA} (h : PA X es t) (i : ∀ σ H Q, t' σ H Q → t σ H Q) : PA X es t' := ⟨fun pos pins s σ H Q I q => h.run pos pins s σ H Q I (i σ H Q q)⟩
theorem _root_.L2.PO.ti {X : Cx} {e : Option Expr} {t t' : TO} (h : PO X e t) (i : ∀ σ H Q, t' σ H Q → t σ H Q) : PO X e t' := ⟨fun pins s σ H Q I q => h.run pins s σ H Q I (i σ H Q q)⟩
abbrev DE (X : Cx) (e : Expr) (f : VEnv → Sto → Res Val) : Prop := PE X e (TEv X.K f)
abbrev DT (X : Cx) (e : Expr) (f : VEnv → Sto → Res Bool) : Prop := PT X e (TTv X.K f)
abbrev DW (X : Cx) (e : Expr) (f : VEnv → Sto → Res Bool) : Prop := PW X e (TTv X.K f)
abbrev DA (X : Cx) (es : List Expr) (f : VEnv → Sto → Res (List Val)) : Prop := PA X es (TAv X.K f)

/-! ### what a def promises, where nothing is under way -/
abbrev SpV := List V → Hp → VK → Prop
structure FnG (P : Program) (w : World) (K : PySem.W.Frag) (mg : Str → Option Value) (base : Heap) (k : Nat) (f : Addr) (fd : FuncData) (ps : List Str) (sp : SpV) : Prop where
  len : ∀ vs H Q, sp vs H Q → vs.length = ps.length
  run : ∀ (A : Around) (outer : List PySem.Env) (s : Shared) (H : Hp) (args : Args) (us : List Value) (vs : List V) (Q : VK), Room k A → A.guards = some [] → Env0 P w K mg base A outer s H → BindsTo s fd args (ps.zip us) → Vals vs us → sp vs H Q →
    codeAny (model P w) A (.call (.ref f) args) (L2.CR CX0 outer P w H s Q E0) s
def spOf (K : PySem.W.Frag) (n : Nat) (C : List Val → Sto → Res Val) : SpV := fun xs H Q => xs.length = n ∧ RLv K C xs H Q

section
variable {X : Cx}
theorem run_fnG {k : Nat} {f : Addr} {fd : FuncData} {ps : List Str} {sp : SpV} {pins : List (Addr × Obj)} {σ : L2.St} {H : Hp} {s : Shared} {Q : VK} {us : List Value} {vs : List V} (F : FnG X.prog X.w X.K X.mg X.base k f fd ps sp) (hr : Room k X.A) (hg : X.A.guards = some [])
    (hb : Binds X.K fd ps []) (I : Inv X pins σ H s) (r : Vals vs us) (h : sp vs H Q) : wpAny (model X.prog X.w) X.A (PySem.call (.ref f) us) (EP X pins σ Q) X.xe s := by
  have hl : us.length = ps.length := by rw [← r.length]; exact F.len _ _ _ h
  have hbb := hb s us I.kIn (by rw [List.append_nil]; exact hl)
  rw [List.append_nil] at hbb
  refine wpAny_call (codeAny_mono (F.run X.A X.stack s H ⟨us, []⟩ us vs Q hr hg I.env0 hbb r h) fun res s' hq => ?_)
  match res, hq with
  | .error e, hq => exact False.elim hq
  | .ok (.ret u), hq => exact I.after hq
  | .ok .next, hq => exact False.elim hq
  | .ok .brk, hq => exact False.elim hq
  | .ok .cont, hq => exact False.elim hq
theorem pe_callG {k : Nat} {f : Addr} {fd : FuncData} {ps : List Str} {sp : SpV} {x : Str} {p pos : Pos} {e : Expr} {es : List Expr} {t : TA} (F : FnG X.prog X.w X.K X.mg X.base k f fd ps sp) (hr : Room k X.A) (hgd : X.A.guards = some []) (hg : Gl X x) (hm : X.mg x = some (.ref f))
    (hk : PySem.W.keepIn X.K (.ref f) = true) (hb : Binds X.K fd ps []) (ha : PA X (e :: es) t) (hdb : (x == ("__debug__" : Str)) = false) (he : starEach (e :: es) X.env = (false, eval e X.env) :: starEach es X.env)
    (hpl : (backTo pos (starEach es X.env)).any (·.1) = false) : PE X (.Call (.Name x p) (e :: es) [] pos) (fun σ H Q => t σ H fun vs H1 => sp vs H1 Q) := by
  constructor
  intro pins s σ H Q I h
  refine wpAny_Call_Name_kw (ld_glob I hg hm ?_ hdb)
  exact PySem.W.callWith_K (h₀ := X.base) I.ok.mod.kin hk (thn (ha.run pos pins s σ H _ I h) fun us s1 ⟨vs, H1, I1, r1, q1⟩ => ⟨I1.kIn, run_fnG F hr hgd hb I1 r1 q1⟩) he hpl
theorem pe_callG0 {k : Nat} {f : Addr} {fd : FuncData} {ps : List Str} {sp : SpV} {x : Str} {p pos : Pos} (F : FnG X.prog X.w X.K X.mg X.base k f fd ps sp) (hr : Room k X.A) (hgd : X.A.guards = some []) (hg : Gl X x) (hm : X.mg x = some (.ref f))
    (hk : PySem.W.keepIn X.K (.ref f) = true) (hb : Binds X.K fd ps []) (hdb : (x == ("__debug__" : Str)) = false) : PE X (.Call (.Name x p) [] [] pos) (fun σ H Q => sp [] H Q) := by
  constructor
  intro pins s σ H Q I h
  refine wpAny_Call_Name_kw (ld_glob I hg hm ?_ hdb)
  exact PySem.W.callWith_K0 I.kIn hk (run_fnG (us := []) F hr hgd hb I .nil h)
end

/-- a def of the text, by its body -/
theorem fn_ofG {P : Program} {w : World} {K : PySem.W.Frag} {mg : Str → Option Value} {base : Heap} {k : Nat} {f : Addr} {name qual : Str} {params : Arguments} {body : List Stmt} {scope : Scope} {dV kV doc pm cdv ct oc : Value} {an od : Option Addr}
    {osl : Array (Option Value)} {N ps : List Str} {sp : SpV} (lk : K.lookup f = some ⟨oc, od, .func (PySem.W.fnOf name qual params body scope dV kV doc pm an cdv ct), osl⟩) (hcd : PySem.W.codeIn K cdv qual = true) (S : FnScope N ps scope)
    (len : ∀ vs H Q, sp vs H Q → vs.length = ps.length)
    (hbody : ∀ (A : Around) (outer : List PySem.Env) (s : Shared) (H : Hp) (vs : List V) (Q : VK), Room k (A.deeper (envOfC qual scope s.heap.objs.size f cdv)) → (A.deeper (envOfC qual scope s.heap.objs.size f cdv)).guards = some [] → sp vs H Q →
      ∃ t, PSs (cxOf CX0 P w K mg base N qual scope f cdv A outer s H E0).nox body t ∧ t { nx := fun _ H' => Q .non H', rt := Q } (start N vs) H) :
    FnG P w K mg base (k + 1) f (PySem.W.fnOf name qual params body scope dV kV doc pm an cdv ct) ps sp := by
  constructor
  · exact len
  intro A outer s H args us vs Q hr hgd e0 hb r hsp
  have hl := len _ _ _ hsp
  have inK : K.In s.heap := e0.mod.kin.keeps fun b o e => (e0.bs b o e).1
  have lim : s.heap.NoLimit := e0.mod.nolimit.keeps fun b o e => (e0.bs b o e).1
  have kinds : ∀ y ∈ ps.zip us, scope.names.lookup y.1 = some .local ∨ (scope.names.lookup y.1 = some .cell ∧ ((cellsFrom (s.heap.objs.size + 1) scope.names []).lookup y.1).isSome = true) := by
    rintro ⟨n, v⟩ hy
    rcases S.par n (List.of_mem_zip hy).1 with q | q
    · exact .inl q
    · exact .inr ⟨q, PySem.W.cellsFrom_some _ _ _ (.inl q)⟩
  refine codeAny_call_function hr.depth (inK _ _ lk) rfl S.co S.gen rfl (PySem.W.codeRec_of inK hcd) (hb _ _ _ _ ?_)
  refine wpAny_newFunctionEnv_cells S.kind kinds fun env he s1 x => ?_
  subst he
  refine ⟨lim.keeps x.toInCall.keep, codeAny_func ?_⟩
  obtain ⟨t, ht, hq⟩ := hbody A outer s H vs Q (hr.deeper _) hgd hsp
  have I0 : Inv (cxOf CX0 P w K mg base N qual scope f cdv A outer s H E0) [] (start N vs) H s1 := inv_start S hr.hd e0 hl r x
  refine wpAny_mono (ht.nox.run [] s1 (start N vs) H _ I0 hq) (fun fl s' hs => ?_) fun e s' hs => hs
  have fin : ∀ {σ' : L2.St} {H' : Hp} {v : V} {u : Value}, Inv (cxOf CX0 P w K mg base N qual scope f cdv A outer s H E0) [] σ' H' s' → RelV v u → Q v H' → CE outer P w H s Q u s' := by
    intro σ' H' v u J rv q
    exact ⟨v, H', J.os, J.bare, J.base, J.hok, rv, q⟩
  match fl, hs with
  | .ret u, hs => obtain ⟨v, σ', H', J, rv, q⟩ := hs; exact fin J rv q
  | .next, hs => obtain ⟨σ', H', J, q⟩ := hs; exact fin (v := V.non) (u := Value.none) J rfl q
  | .brk, hs => obtain ⟨_, _, _, q⟩ := hs; exact False.elim q
  | .cont, hs => obtain ⟨_, _, _, q⟩ := hs; exact False.elim q
end TT
set_option Elab.async false
set_option linter.all false
set_option maxRecDepth 100000
set_option maxHeartbeats 4000000
/-! Own syntax against the text's. -/
namespace TT
open PySem L2 PySem.Spec PyProof.Rows

structure Gm where
  names : List Str
  consts : List (Str × Val)
  frees : List Str
def glB (sc : Scope) (x : Str) : Bool := decide (sc.names.lookup x = some .globalImplicit) && !(x == ("__debug__" : Str)) && decide (x ≠ ("__name__" : Str))
def visB (sc : Scope) (x : Str) : Bool := (match sc.names.lookup x with
  | some .local => true
  | some .cell => true
  | some .free => true
  | _ => false) && !(x == ("__debug__" : Str)) && !(x == ("__classdict__" : Str))
def constV : Const → Option Val
  | .none => some .non
  | .bool b => some (.bl b)
  | .int i => some (.int i)
  | .str s => some (.str s)
  | _ => none
def baseB : Expr → Bool
  | .Call (.Name _ _) [] [] _ => false
  | _ => true
def plainSl : Expr → Bool
  | .Slice _ _ _ _ => false
  | _ => true
def bltName (b : Blt) : Option Str := (bltId b).map fun p => Str.ofString p.1
def okOps : List Operator := [.Add, .Sub, .Mult, .Mod, .FloorDiv, .Pow]
def tyStr (t : String) : Str := Str.ofString t
/-- a target's name in the def or a block; top: any name of one's own -/
def tgN (top : Bool) (sc : Scope) (N : List Str) (i : Nat) : Expr → Bool
  | .Name x _ => decide (N[i]? = some x) && (decide (sc.names.lookup x = some .local) || (top && decide (sc.names.lookup x = some .cell)))
  | _ => false
def tgNs (top : Bool) (sc : Scope) (N : List Str) : List Nat → List Expr → Bool
  | [], [] => true
  | i :: is, e :: es => tgN top sc N i e && tgNs top sc N is es
  | _, _ => false
def mtTg (top : Bool) (sc : Scope) (N : List Str) (tg : List Nat) (one : Bool) (e : Expr) : Bool :=
  match one, tg, e with
  | true, [i], e => tgN top sc N i e
  | false, is, .Tuple es _ _ => tgNs top sc N is es
  | _, _, _ => false
def ownL (N : List Str) (own : List Nat) : List (Str × Nat) := own.filterMap fun i => (N[i]?).map fun x => (x, i)
def iterName : Blt → Option Str
  | .range => some (Str.ofString "range")
  | .zip => some (Str.ofString "zip")
  | .enum => some (Str.ofString "enumerate")
  | .rev => some (Str.ofString "reversed")
  | _ => none
def iterAr (tup : Bool) (b : Blt) (n : Nat) : Bool := match b with
  | .range => n == 1 || n == 2
  | .zip => n == 2 && tup
  | .enum => n == 1 && tup
  | .rev => n == 1
  | _ => false
def tupE : Expr → Bool
  | .Tuple _ _ _ => true
  | _ => false
def cndM (me : Expr → Bool) (nil : Bool) : List Expr → Bool
  | [] => nil
  | [c] => !nil && me c
  | _ => false
def iterM (me : Expr → Bool) (mp : List Expr → Bool) (G : Gm) (sc : Scope) (ib : Option Blt) (it' tgE : Expr) : Bool :=
  match ib with
  | none => me it'
  | some b => match it' with
    | .Call (.Name x _) l [] _ => decide (iterName b = some x) && glB sc x && decide (x ∈ G.frees) && iterAr (tupE tgE) b l.length && mp l
    | _ => false
mutual
def mtE (G : Gm) (sc : Scope) (N : List Str) : E → Expr → Bool
  | .c v, .Constant c _ _ => decide (constV c = some v)
  | .v i, .Name x _ => decide (N[i]? = some x) && visB sc x
  | .g x v, .Name y _ => decide (y = x) && glB sc y && decide ((x, v) ∈ G.consts) && flatB v
  | .tup es, .Tuple l _ _ => mtL G sc N es l
  | .lst es, .List l _ => mtL G sc N es l
  | .dct, .Dict [] [] _ => true
  | .bin op a b, .BinOp l o r _ => decide (o = op) && okOps.contains op && mtE G sc N a l && mtE G sc N b r
  | .neg a, .UnaryOp .USub l _ => mtE G sc N a l
  | .not a, .UnaryOp .Not l _ => mtE G sc N a l
  | .and a b, .BoolOp .And (x :: y :: rest) pos => mtE G sc N a x && (match rest with
    | [] => mtE G sc N b y
    | _ => mtE G sc N b (.BoolOp .And (y :: rest) pos))
  | .or a b, .BoolOp .Or (x :: y :: rest) pos => mtE G sc N a x && (match rest with
    | [] => mtE G sc N b y
    | _ => mtE G sc N b (.BoolOp .Or (y :: rest) pos))
  | .cmp op a b, .Compare l [o] [r] _ => decide (o = op) && !behindInMarks op r && mtE G sc N a l && mtE G sc N b r
  | .chain o1 o2 a b c, .Compare l [p1, p2] [r1, r2] _ => decide (p1 = o1) && decide (p2 = o2) && !lastMarks [o1, o2] [r1, r2] && mtE G sc N a l && mtE G sc N b r1 && mtE G sc N c r2
  | .ite t a b, .IfExp t' a' b' _ => mtE G sc N t t' && mtE G sc N a a' && mtE G sc N b b'
  | .call f es, .Call (.Name x _) l [] _ => decide (G.names[f]? = some x) && glB sc x && mtP G sc N es l
  | .bc b es, .Call (.Name x _) l [] _ => decide (bltName b = some x) && glB sc x && decide (x ∈ G.frees) && !l.isEmpty && mtP G sc N es l
  | .isi a t, .Call (.Name x _) [l, .Name y _] [] _ => decide (x = tyStr "isinstance") && decide (y = tyStr t) && glB sc x && glB sc y && decide (x ∈ G.frees) && decide (y ∈ G.frees) && ["int", "bool", "str", "tuple", "list", "dict"].contains t && mtE G sc N a l
  | .idx a i, .Subscript l r _ => plainSl r && mtE G sc N a l && mtE G sc N i r
  | .sl a lo hi, .Subscript l (.Slice p q none _) _ => mtE G sc N a l && (match p with
    | none => isNil lo
    | some p => !isNil lo && mtE G sc N lo p) && (match q with
    | none => isNil hi
    | some q => !isNil hi && mtE G sc N hi q)
  | .app o x, .Call (.Attribute l m apos) [r] [] cpos => decide (m = tyStr "append") && baseB l && (apos.endLine == cpos.line) && mtE G sc N o l && mtE G sc N x r
  | .ext o x, .Call (.Attribute l m apos) [r] [] cpos => decide (m = tyStr "extend") && baseB l && (apos.endLine == cpos.line) && mtE G sc N o l && mtE G sc N x r
  | .pop o, .Call (.Attribute l m apos) [] [] cpos => decide (m = tyStr "pop") && baseB l && (apos.endLine == cpos.line) && mtE G sc N o l
  | .lc elt own tg one ib it cnd, .ListComp elt' [⟨t', it', ifs, as⟩] scope _ => decide (as = 0) && blkC N sc scope (ownL N own) && decide ((ownL N own).map (·.2) = own) && mtTg false (relS scope sc) N tg one t' && tg.all own.contains &&
      iterM (mtE G sc N it) (mtP G sc N it) G sc ib it' t' &&
      cndM (mtE G (relS scope sc) N cnd) (isNil cnd) ifs && mtE G (relS scope sc) N elt elt'
  | .rgl a, .Call (.Name x _) [.Call (.Name y _) [l] [] _] [] _ => decide (x = tyStr "list") && decide (y = tyStr "range") && glB sc x && glB sc y && decide (x ∈ G.frees) && decide (y ∈ G.frees) && mtE G sc N a l
  | .rgl2 a b, .Call (.Name x _) [.Call (.Name y _) [l, r] [] _] [] _ => decide (x = tyStr "list") && decide (y = tyStr "range") && glB sc x && glB sc y && decide (x ∈ G.frees) && decide (y ∈ G.frees) && mtE G sc N a l && mtE G sc N b r
  | .rvs a, .Subscript l (.Slice none none (some (.UnaryOp .USub (.Constant (.int 1) _ _) _)) _) _ => mtE G sc N a l
  | .lc2 elt own tg one ib it cnd own1 tg1 one1 ib1 it1 cnd1, .ListComp elt' [⟨t', it', ifs, as⟩, ⟨t1, it1', ifs1, as1⟩] scope _ => decide (as = 0) && decide (as1 = 0) && blkC N sc scope (ownL N own) && decide ((ownL N own).map (·.2) = own) &&
      (mtTg false (relS scope sc) N tg one t' && tg.all own.contains && iterM (mtE G sc N it) (mtP G sc N it) G sc ib it' t' && cndM (mtE G (relS scope sc) N cnd) (isNil cnd) ifs) &&
      (mtTg false (relS scope sc) N tg1 one1 t1 && tg1.all own1.contains && own1.all own.contains && iterM (mtE G (relS scope sc) N it1) (mtP G (relS scope sc) N it1) G (relS scope sc) ib1 it1' t1 && cndM (mtE G (relS scope sc) N cnd1) (isNil cnd1) ifs1) && mtE G (relS scope sc) N elt elt'
  | _, _ => false
/-- a chain, stars within -/
def mtL (G : Gm) (sc : Scope) (N : List Str) : E → List Expr → Bool
  | .nil, [] => true
  | .cons e es, p :: ps => mtE G sc N e p && mtL G sc N es ps
  | .star e es, .Starred p _ :: ps => mtE G sc N e p && mtL G sc N es ps
  | _, _ => false
/-- a chain without stars -/
def mtP (G : Gm) (sc : Scope) (N : List Str) : E → List Expr → Bool
  | .nil, [] => true
  | .cons e es, p :: ps => mtE G sc N e p && mtP G sc N es ps
  | _, _ => false
end
end TT
set_option Elab.async false
set_option linter.all false
set_option maxRecDepth 100000
set_option maxHeartbeats 4000000
/-! Each construct's reading by the evaluator. -/
namespace TT
open PySem L2 PySem.Spec PyProof.Rows

structure Lnk (G : Gm) (P : Program) (w : World) (K : PySem.W.Frag) (mg : Str → Option Value) (base : Heap) (lv : Nat) (C : CallF) : Prop where
  fn : ∀ (i : Nat) (x : Str), G.names[i]? = some x → ∃ (f : Addr) (fd : FuncData) (ps : List Str), mg x = some (.ref f) ∧ PySem.W.keepIn K (.ref f) = true ∧ Binds K fd ps [] ∧ FnG P w K mg base lv f fd ps (spOf K ps.length (C i)) ∧
    ∀ vs st v st', C i vs st = .ok v st' → vs.length = ps.length
  const : ∀ (x : Str) (v : Val), (x, v) ∈ G.consts → ∃ (u : Value) (y : V), mg x = some u ∧ RelV y u ∧ ∀ (H : Hp) (μ : List Addr), Rep K H μ y v
  free : ∀ x ∈ G.frees, mg x = none
structure Cxt (lv : Nat) (X : Cx) (sc : Scope) (N : List Str) (top : Bool) : Prop where
  hsc : X.env.scope = sc
  hN : X.N = N
  nd : N.Nodup
  calm : X.calm = true
  gd : X.A.guards = some []
  room : Room lv X.A
  xe : X.xe = fun _ _ => False
  top : top = true → ∀ x, X.fn x = true
  kind : sc.kind = .function

section
variable {X : Cx} {pos : Pos}
theorem Cxt.u64 {lv : Nat} {sc : Scope} {N : List Str} {top : Bool} (c : Cxt lv X sc N top) : X.A.units + 64 < cLine := c.room.units
theorem Cxt.u100 {lv : Nat} {sc : Scope} {N : List Str} {top : Bool} (c : Cxt lv X sc N top) : X.A.units + 100 < cLine := by have := c.room.un; omega
theorem Cxt.gl {lv : Nat} {sc : Scope} {N : List Str} {top : Bool} (c : Cxt lv X sc N top) {x : Str} (h : glB sc x = true) : Gl X x ∧ (x == ("__debug__" : Str)) = false ∧ x ≠ ("__name__" : Str) := by
  unfold glB at h
  simp only [Bool.and_eq_true, decide_eq_true_eq, Bool.not_eq_true'] at h
  refine ⟨?_, h.1.2, h.2⟩
  show X.env.scope.names.lookup x = _
  rw [c.hsc]
  exact h.1.1

/-! ### atoms -/
theorem d_const {c : Const} {k : Nat} {v : Val} (h : constV c = some v) : DE X (.Constant c k pos) (fun _ st => .ok v st) := by
  cases c <;> simp only [constV, reduceCtorEq, Option.some.injEq] at h <;> subst h
  · exact pe_non.ti fun σ H Q ⟨μ, env, st, v, st', e, s, f, q⟩ => by obtain ⟨rfl, rfl⟩ := ok_eq f; exact aft_same s q .non
  · exact pe_bl.ti fun σ H Q ⟨μ, env, st, v, st', e, s, f, q⟩ => by obtain ⟨rfl, rfl⟩ := ok_eq f; exact aft_same s q (.bl _)
  · exact pe_int.ti fun σ H Q ⟨μ, env, st, v, st', e, s, f, q⟩ => by obtain ⟨rfl, rfl⟩ := ok_eq f; exact aft_same s q (.int _)
  · exact pe_str.ti fun σ H Q ⟨μ, env, st, v, st', e, s, f, q⟩ => by obtain ⟨rfl, rfl⟩ := ok_eq f; exact aft_same s q (.str _)
def getV (i : Nat) (env : VEnv) (st : Sto) : Res Val := match env[i]? with
  | some (some v) => .ok v st
  | _ => .bad
theorem d_var {x : Str} {i : Nat} (hN : X.N[i]? = some x) (hv : Vis X.env.scope x) (hd : (x == ("__debug__" : Str)) = false) (hcd : (x == ("__classdict__" : Str)) = false) : DE X (.Name x pos) (getV i) :=
  (pe_var hN hv hd hcd).ti fun σ H Q ⟨μ, env, st, v, st', e, s, f, q⟩ => by
    unfold getV at f
    split at f
    · rename_i w hw
      obtain ⟨rfl, rfl⟩ := ok_eq f
      obtain ⟨y, h1, h2⟩ := e.at_ i _ hw
      exact ⟨y, h1, aft_same s q h2⟩
    · cases f
theorem d_glob {x : Str} {v : Val} {u : Value} {y : V} (hg : Gl X x) (hm : X.mg x = some u) (r : RelV y u) (hr : ∀ (H : Hp) (μ : List Addr), Rep X.K H μ y v) (hd : (x == ("__debug__" : Str)) = false) : DE X (.Name x pos) (fun _ st => .ok v st) :=
  (pe_glob hg hm r hd).ti fun σ H Q ⟨μ, env, st, w, st', e, s, f, q⟩ => by
    obtain ⟨rfl, rfl⟩ := ok_eq f
    exact aft_same s q (hr H μ)

/-! ### lists of expressions -/
theorem a_nil : DA X [] (fun _ st => .ok [] st) := pa_nil.ti fun σ H Q ⟨μ, env, st, v, st', e, s, f, q⟩ => by
  obtain ⟨rfl, rfl⟩ := ok_eq f
  exact q _ _ _ Ext.refl s .nil
theorem a_cons {p : Expr} {ps : List Expr} {f : VEnv → Sto → Res Val} {g : VEnv → Sto → Res (List Val)} (h1 : DE X p f) (h2 : DA X ps g) (hs : starEach (p :: ps) X.env = (false, eval p X.env) :: starEach ps X.env) :
    DA X (p :: ps) (fun env st => (f env st).bind fun v st1 => (g env st1).bind fun vs st2 => .ok (v :: vs) st2) :=
  (pa_cons h1 h2 hs).ti fun σ H Q ⟨μ, env, st, v, st', e, s, h, q⟩ => by
    obtain ⟨v1, st1, h3, h⟩ := Res.bind_eq h
    obtain ⟨v2, st2, h4, h⟩ := Res.bind_eq h
    obtain ⟨rfl, rfl⟩ := ok_eq h
    refine ⟨μ, env, st, v1, st1, e, s, h3, fun μ1 H1 x e1 s1 r1 => ?_⟩
    refine ⟨μ1, env, st1, v2, st2, e.mono e1, s1, h4, fun μ2 H2 xs e2 s2 r2 => ?_⟩
    exact q _ _ _ (e1.trans e2) s2 (.cons (r1.mono e2) r2)
theorem a_star {p : Expr} {ps : List Expr} {f : VEnv → Sto → Res Val} {g : VEnv → Sto → Res (List Val)} {sp : Pos} (h1 : DE X p f) (h2 : DA X ps g) :
    DA X (.Starred p sp :: ps) (fun env st => (f env st).bind fun v st1 => (liftO (seqOf st1 v) st1).bind fun us st2 => (g env st2).bind fun vs st3 => .ok (us ++ vs) st3) :=
  (StX.pa_star h1 h2).ti fun σ H Q ⟨μ, env, st, v, st', e, s, h, q⟩ => by
    obtain ⟨v1, st1, h3, h⟩ := Res.bind_eq h
    obtain ⟨us, st2, h4, h⟩ := Res.bind_eq h
    obtain ⟨v2, st3, h5, h⟩ := Res.bind_eq h
    obtain ⟨rfl, rfl⟩ := ok_eq h
    refine ⟨μ, env, st, v1, st1, e, s, h3, fun μ1 H1 x e1 s1 r1 => ?_⟩
    have hseq : seqOf st1 v1 = some us ∧ st1 = st2 := by
      unfold liftO at h4
      split at h4
      · rename_i us' e'
        obtain ⟨rfl, rfl⟩ := ok_eq h4
        exact ⟨e', rfl⟩
      · cases h4
    obtain ⟨h6, rfl⟩ := hseq
    obtain ⟨a, xs, rfl, h7, h8, h9⟩ := seq_of s1 r1 h6
    refine ⟨a, xs, rfl, h7.symm, μ1, env, st1, v2, st3, e.mono e1, s1, h5, fun μ2 H2 ys e2 s2 r2 => ?_⟩
    exact q _ _ _ (e1.trans e2) s2 ((h9.mono e2).append r2)

/-! ### displays -/
theorem d_tup {ps : List Expr} {k : Nat} {g : VEnv → Sto → Res (List Val)} (h : DA X ps g) : DE X (.Tuple ps k pos) (fun env st => (g env st).bind fun vs st1 => if vs.length ≤ sizeLine then .ok (.tup vs) st1 else .bad) :=
  (pe_tup h).ti fun σ H Q ⟨μ, env, st, v, st', e, s, h, q⟩ => by
    obtain ⟨vs, st1, h1, h⟩ := Res.bind_eq h
    split at h
    · rename_i hz
      obtain ⟨rfl, rfl⟩ := ok_eq h
      refine ⟨μ, env, st, vs, st1, e, s, h1, fun μ1 H1 xs e1 s1 r1 => ?_⟩
      have hz' : xs.length ≤ sizeLine := by rw [r1.length]; exact hz
      refine ⟨hz', fun p hp => ?_⟩
      exact aft_tup s1 (fun μ2 H2 u e2 s2 r2 => q _ _ _ (e1.trans e2) s2 r2) hp hz' r1
    · cases h
theorem d_lst {ps : List Expr} {g : VEnv → Sto → Res (List Val)} (h : DA X ps g) : DE X (.List ps pos) (fun env st => (g env st).bind fun vs st1 => if vs.length ≤ sizeLine then alloc (.lst vs) st1 else .bad) :=
  (pe_lst h).ti fun σ H Q ⟨μ, env, st, v, st', e, s, h, q⟩ => by
    obtain ⟨vs, st1, h1, h⟩ := Res.bind_eq h
    split at h
    · rename_i hz
      obtain ⟨rfl, rfl⟩ := alloc_eq h
      refine ⟨μ, env, st, vs, st1, e, s, h1, fun μ1 H1 xs e1 s1 r1 => ?_⟩
      have hz' : xs.length ≤ sizeLine := by rw [r1.length]; exact hz
      refine ⟨hz', fun p hp => ?_⟩
      exact aft_alloc s1 (fun μ2 H2 u e2 s2 r2 => q _ _ _ (e1.trans e2) s2 r2) hp ⟨_, upd_same, hz', r1.mono (Ext.alloc hp)⟩
    · cases h
theorem d_dct : DE X (.Dict [] [] pos) (fun _ st => alloc (.dK []) st) :=
  pe_dnewK.ti fun σ H Q ⟨μ, env, st, v, st', e, s, h, q⟩ => by
    obtain ⟨rfl, rfl⟩ := alloc_eq h
    intro p hp
    exact aft_alloc s q hp ⟨[], upd_same, rfl, .nil⟩

/-! ### operators -/
theorem d_op2 {p r : Expr} {f g : VEnv → Sto → Res Val} {h : Val → Val → Sto → Res Val} {rr : TE} (hr : PE X pos' rr) (hi : ∀ σ H Q, TEv X.K f σ H (fun x H1 => TEv X.K g σ H1 fun y H2 => R2v X.K h x y H2 Q) → rr σ H Q) :
    DE X pos' (fun env st => (f env st).bind fun x st1 => (g env st1).bind fun y st2 => h x y st2) :=
  hr.ti fun σ H Q ⟨μ, env, st, v, st', e, s, hh, q⟩ => by
    obtain ⟨v1, st1, h1, hh⟩ := Res.bind_eq hh
    obtain ⟨v2, st2, h2, hh⟩ := Res.bind_eq hh
    refine hi _ _ _ ⟨μ, env, st, v1, st1, e, s, h1, fun μ1 H1 x e1 s1 r1 => ?_⟩
    refine ⟨μ1, env, st1, v2, st2, e.mono e1, s1, h2, fun μ2 H2 y e2 s2 r2 => ?_⟩
    exact ⟨μ2, v1, v2, st2, v, st', r1.mono e2, r2, s2, hh, fun μ3 H3 u e3 s3 r3 => q _ _ _ ((e1.trans e2).trans e3) s3 r3⟩
theorem d_bin {op : Operator} {a b : Expr} {f g : VEnv → Sto → Res Val} (ho : OpR X (binaryOp op) (R2v X.K (binV op))) (ha : DE X a f) (hb : DE X b g) :
    DE X (.BinOp a op b pos) (fun env st => (f env st).bind fun x st1 => (g env st1).bind fun y st2 => binV op x y st2) := d_op2 (p := a) (r := b) (pe_op ho ha hb) fun _ _ _ h => h
theorem d_cmp {op : CmpOp} {a b : Expr} {f g : VEnv → Sto → Res Val} (ho : OpR X (compareOp op) (R2v X.K (cmpR op))) (ha : DE X a f) (hb : DE X b g) (hm : behindInMarks op b = false) :
    DE X (.Compare a [op] [b] pos) (fun env st => (f env st).bind fun x st1 => (g env st1).bind fun y st2 => cmpR op x y st2) := d_op2 (p := a) (r := b) (pe_cmpR ho ha hb hm) fun _ _ _ h => h
theorem d_idx {a b : Expr} {f g : VEnv → Sto → Res Val} (ha : DE X a f) (hb : DE X b g) (hp : PlainIx b) :
    DE X (.Subscript a b pos) (fun env st => (f env st).bind fun x st1 => (g env st1).bind fun y st2 => idxV x y st2) := d_op2 (p := a) (r := b) (pe_ix x_idx ha hb hp) fun _ _ _ h => h
theorem d_neg {a : Expr} {f : VEnv → Sto → Res Val} (ha : DE X a f) : DE X (.UnaryOp .USub a pos) (fun env st => (f env st).bind fun x st1 => negV x st1) :=
  (pe_un un_neg ha).ti fun σ H Q ⟨μ, env, st, v, st', e, s, h, q⟩ => by
    obtain ⟨v1, st1, h1, h⟩ := Res.bind_eq h
    refine ⟨μ, env, st, v1, st1, e, s, h1, fun μ1 H1 x e1 s1 r1 => ?_⟩
    cases r1 <;> simp only [negV, reduceCtorEq] at h
    obtain ⟨rfl, rfl⟩ := ok_eq h
    exact ⟨_, rfl, q _ _ _ e1 s1 (.int _)⟩
theorem d_not {a : Expr} {f : VEnv → Sto → Res Val} (ha : DE X a f) : DE X (.UnaryOp .Not a pos) (fun env st => (f env st).bind fun x st1 => (truthR x st1).bind fun b st2 => .ok (.bl (!b)) st2) :=
  (pe_notT ha).ti fun σ H Q ⟨μ, env, st, v, st', e, s, h, q⟩ => by
    obtain ⟨v1, st1, h1, h⟩ := Res.bind_eq h
    obtain ⟨b, st2, h2, h5⟩ := Res.bind_eq h
    obtain ⟨h3, rfl⟩ := truthR_eq h2
    obtain ⟨rfl, rfl⟩ := ok_eq h5
    refine ⟨μ, env, st, v1, st2, e, s, h1, fun μ1 H1 x e1 s1 r1 => ?_⟩
    exact ⟨b, tru_of s1 r1 h3, q _ _ _ e1 s1 (.bl _)⟩
theorem d_and {a b : Expr} {rest : List Expr} {f g : VEnv → Sto → Res Val} (ha : DE X a f) (hb : DE X (.BoolOp .And (b :: rest) pos) g) :
    DE X (.BoolOp .And (a :: b :: rest) pos) (fun env st => (f env st).bind fun x st1 => (truthR x st1).bind fun k st2 => if k = true then g env st2 else .ok x st2) :=
  (pe_andT ha hb).ti fun σ H Q ⟨μ, env, st, v, st', e, s, h, q⟩ => by
    obtain ⟨v1, st1, h1, h⟩ := Res.bind_eq h
    obtain ⟨k, st2, h2, h⟩ := Res.bind_eq h
    obtain ⟨h3, rfl⟩ := truthR_eq h2
    refine ⟨μ, env, st, v1, st2, e, s, h1, fun μ1 H1 x e1 s1 r1 => ⟨k, tru_of s1 r1 h3, ?_⟩⟩
    cases k with
    | true => exact iteT ⟨μ1, env, st2, v, st', e.mono e1, s1, h, fun μ2 H2 u e2 s2 r2 => q _ _ _ (e1.trans e2) s2 r2⟩
    | false =>
      obtain ⟨rfl, rfl⟩ := ok_eq h
      exact iteF (q _ _ _ e1 s1 r1)
theorem d_or {a b : Expr} {rest : List Expr} {f g : VEnv → Sto → Res Val} (ha : DE X a f) (hb : DE X (.BoolOp .Or (b :: rest) pos) g) :
    DE X (.BoolOp .Or (a :: b :: rest) pos) (fun env st => (f env st).bind fun x st1 => (truthR x st1).bind fun k st2 => if k = true then .ok x st2 else g env st2) :=
  (pe_orT ha hb).ti fun σ H Q ⟨μ, env, st, v, st', e, s, h, q⟩ => by
    obtain ⟨v1, st1, h1, h⟩ := Res.bind_eq h
    obtain ⟨k, st2, h2, h⟩ := Res.bind_eq h
    obtain ⟨h3, rfl⟩ := truthR_eq h2
    refine ⟨μ, env, st, v1, st2, e, s, h1, fun μ1 H1 x e1 s1 r1 => ⟨k, tru_of s1 r1 h3, ?_⟩⟩
    cases k with
    | false => exact iteF ⟨μ1, env, st2, v, st', e.mono e1, s1, h, fun μ2 H2 u e2 s2 r2 => q _ _ _ (e1.trans e2) s2 r2⟩
    | true =>
      obtain ⟨rfl, rfl⟩ := ok_eq h
      exact iteT (q _ _ _ e1 s1 r1)
theorem liftO_eq {α : Type} {o : Option α} {st st' : Sto} {a : α} (h : liftO o st = .ok a st') : o = some a ∧ st = st' := by
  unfold liftO at h
  split at h
  · obtain ⟨rfl, rfl⟩ := ok_eq h
    exact ⟨rfl, rfl⟩
  · cases h
theorem chain_imp {op op' : CmpOp} {f g k : VEnv → Sto → Res Val} {σ : L2.St} {H : Hp} {Q : VK} (h : TEv X.K (fun env st => (f env st).bind fun x st1 => (g env st1).bind fun y st2 => (liftO (cmpV op x y st2) st2).bind fun k' st3 =>
      if k' = true then (k env st3).bind fun z st4 => cmpR op' y z st4 else .ok (.bl false) st3) σ H Q) : tChain (R2v X.K (cmpR op)) (R2v X.K (cmpR op')) (TEv X.K f) (TEv X.K g) (TEv X.K k) σ H Q := by
  obtain ⟨μ, env, st, v, st', e, s, h, q⟩ := h
  obtain ⟨v1, st1, h1, h⟩ := Res.bind_eq h
  obtain ⟨v2, st2, h2, h⟩ := Res.bind_eq h
  obtain ⟨b, st3, h3, h⟩ := Res.bind_eq h
  obtain ⟨h4, rfl⟩ := liftO_eq h3
  refine ⟨μ, env, st, v1, st1, e, s, h1, fun μ1 H1 x e1 s1 r1 => ?_⟩
  refine ⟨μ1, env, st1, v2, st2, e.mono e1, s1, h2, fun μ2 H2 y e2 s2 r2 => ?_⟩
  refine ⟨μ2, v1, v2, st2, .bl b, st2, r1.mono e2, r2, s2, by unfold cmpR; rw [h4]; rfl, fun μ3 H3 u e3 s3 r3 => ?_⟩
  cases r3
  refine ⟨b, rfl, ?_⟩
  cases b with
  | true =>
    refine iteT ?_
    rw [if_pos rfl] at h
    obtain ⟨v4, st4, h5, h⟩ := Res.bind_eq h
    refine ⟨μ3, env, st2, v4, st4, (e.mono e1).mono (e2.trans e3), s3, h5, fun μ4 H4 z e4 s4 r4 => ?_⟩
    exact ⟨μ4, v2, v4, st4, v, st', r2.mono (e3.trans e4), r4, s4, h, fun μ5 H5 u e5 s5 r5 => q _ _ _ ((((e1.trans e2).trans e3).trans e4).trans e5) s5 r5⟩
  | false =>
    rw [if_neg Bool.false_ne_true] at h
    obtain ⟨rfl, rfl⟩ := ok_eq h
    exact iteF (q _ _ _ ((e1.trans e2).trans e3) s3 (.bl _))
theorem d_chain {op op' : CmpOp} {a b c : Expr} {f g k : VEnv → Sto → Res Val} (ho : OpR X (compareOp op) (R2v X.K (cmpR op))) (ho' : OpR X (compareOp op') (R2v X.K (cmpR op'))) (ha : DE X a f) (hb : DE X b g) (hc : DE X c k) (hm : lastMarks [op, op'] [b, c] = false) :
    DE X (.Compare a [op, op'] [b, c] pos) (fun env st => (f env st).bind fun x st1 => (g env st1).bind fun y st2 => (liftO (cmpV op x y st2) st2).bind fun k' st3 =>
      if k' = true then (k env st3).bind fun z st4 => cmpR op' y z st4 else .ok (.bl false) st3) := (pe_chain ho ho' ha hb hc hm).ti fun _ _ _ h => chain_imp h
theorem d_ite {t a b : Expr} {f g k : VEnv → Sto → Res Val} (ht : DT X t (fun env st => (f env st).bind truthR)) (ha : DE X a g) (hb : DE X b k) :
    DE X (.IfExp t a b pos) (fun env st => (f env st).bind fun x st1 => (truthR x st1).bind fun k' st2 => if k' = true then g env st2 else k env st2) :=
  (pe_ifExp ht ha hb).ti fun σ H Q ⟨μ, env, st, v, st', e, s, h, q⟩ => by
    obtain ⟨v1, st1, h1, h⟩ := Res.bind_eq h
    obtain ⟨b, st2, h2, h⟩ := Res.bind_eq h
    refine ⟨μ, env, st, b, st2, e, s, by show (f env st).bind truthR = _; rw [h1]; exact h2, fun μ1 H1 e1 s1 => ?_⟩
    cases b with
    | true => exact iteT ⟨μ1, env, st2, v, st', e.mono e1, s1, h, fun μ2 H2 u e2 s2 r2 => q _ _ _ (e1.trans e2) s2 r2⟩
    | false => exact iteF ⟨μ1, env, st2, v, st', e.mono e1, s1, h, fun μ2 H2 u e2 s2 r2 => q _ _ _ (e1.trans e2) s2 r2⟩

/-! ### calls -/
theorem list_imp {f : VEnv → Sto → Res (List Val)} {h : List Val → Sto → Res Val} {σ : L2.St} {H : Hp} {Q : VK} (q : TEv X.K (fun env st => (f env st).bind fun vs st1 => h vs st1) σ H Q) : TAv X.K f σ H fun xs H1 => RLv X.K h xs H1 Q := by
  obtain ⟨μ, env, st, v, st', e, s, hh, q⟩ := q
  obtain ⟨vs, st1, h1, hh⟩ := Res.bind_eq hh
  refine ⟨μ, env, st, vs, st1, e, s, h1, fun μ1 H1 xs e1 s1 r1 => ?_⟩
  exact ⟨μ1, vs, st1, v, st', r1, s1, hh, fun μ2 H2 u e2 s2 r2 => q _ _ _ (e1.trans e2) s2 r2⟩
theorem d_call {lv : Nat} {f : Addr} {fd : FuncData} {ps : List Str} {C : List Val → Sto → Res Val} {x : Str} {p : Pos} {es : List Expr} {g : VEnv → Sto → Res (List Val)} (F : FnG X.prog X.w X.K X.mg X.base lv f fd ps (spOf X.K ps.length C)) (hl : ∀ vs st v st', C vs st = .ok v st' → vs.length = ps.length)
    (hr : Room lv X.A) (hgd : X.A.guards = some []) (hg : Gl X x) (hm : X.mg x = some (.ref f)) (hk : PySem.W.keepIn X.K (.ref f) = true) (hb : Binds X.K fd ps []) (ha : DA X es g) (hdb : (x == ("__debug__" : Str)) = false)
    (hs : ∀ e r, es = e :: r → starEach es X.env = (false, eval e X.env) :: starEach r X.env ∧ (backTo pos (starEach r X.env)).any (·.1) = false) (hn : es = [] → ∀ env st, g env st = .ok [] st) :
    DE X (.Call (.Name x p) es [] pos) (fun env st => (g env st).bind fun vs st1 => C vs st1) := by
  cases es with
  | nil =>
    refine (pe_callG0 F hr hgd hg hm hk hb hdb).ti fun σ H Q q => ?_
    obtain ⟨μ, env, st, v, st', e, s, hh, q⟩ := q
    have hh : (g env st).bind (fun vs st1 => C vs st1) = .ok v st' := hh
    rw [hn rfl] at hh
    exact ⟨(hl _ _ _ _ hh), μ, [], st, v, st', .nil, s, hh, q⟩
  | cons e r =>
    obtain ⟨h1, h2⟩ := hs e r rfl
    refine (pe_callG F hr hgd hg hm hk hb ha hdb h1 h2).ti fun σ H Q q => ?_
    obtain ⟨μ, env, st, vs, st1, e', s, h3, q⟩ := list_imp q
    refine ⟨μ, env, st, vs, st1, e', s, h3, fun μ1 H1 xs e1 s1 r1 => ?_⟩
    have q1 := q μ1 H1 xs e1 s1 r1
    refine ⟨?_, q1⟩
    obtain ⟨μ2, vs2, st2, z, st', r2, s2, hh, _⟩ := q1
    rw [r2.length]
    exact hl _ _ _ _ hh
theorem d_blt {b : Blt} {i : String × Bool} {x : Str} {p : Pos} {e : Expr} {es : List Expr} {g : VEnv → Sto → Res (List Val)} (hb : bltId b = some i) (hc : CallR X (bltF i) (RLv X.K (bltV b))) (hx : x = Str.ofString i.1) (hg : Gl X x) (hm : X.mg x = none) (ha : DA X (e :: es) g)
    (hn : x ≠ ("__name__" : Str)) (hdb : (x == ("__debug__" : Str)) = false) (hs : starEach (e :: es) X.env = (false, eval e X.env) :: starEach es X.env) (hpl : (backTo pos (starEach es X.env)).any (·.1) = false) :
    DE X (.Call (.Name x p) (e :: es) [] pos) (fun env st => (g env st).bind fun vs st1 => bltV b vs st1) := by
  cases b <;> simp only [bltId, reduceCtorEq, Option.some.injEq] at hb <;> subst hb <;> subst hx
  all_goals first
    | exact (pe_callB hc hg hm (by decide +kernel) ha hn hdb hs hpl).ti fun σ H Q q => list_imp q
    | exact (pe_callTy hc hg hm (by decide +kernel) ha hn hdb hs hpl).ti fun σ H Q q => list_imp q
end
end TT
set_option Elab.async false
set_option linter.all false
set_option maxRecDepth 100000
set_option maxHeartbeats 4000000
/-! isinstance, slices, methods, tests. -/
namespace TT
open PySem L2 PySem.Spec PyProof.Rows

section
variable {X : Cx} {pos : Pos}
theorem d_isi {x y : Str} {t : String} {a : Expr} {p p2 : Pos} {f : VEnv → Sto → Res Val} (hx : x = tyStr "isinstance") (hy : y = tyStr t) (ht : ["int", "bool", "str", "tuple", "list", "dict"].contains t = true) (hg : Gl X x) (hg2 : Gl X y) (hm : X.mg x = none) (hm2 : X.mg y = none)
    (ha : DE X a f) (hs : starEach [a, .Name y p2] X.env = (false, eval a X.env) :: starEach [.Name y p2] X.env) :
    DE X (.Call (.Name x p) [a, .Name y p2] [] pos) (fun env st => (f env st).bind fun v st1 => liftO (((tyName st1 v).bind (isiV t)).map .bl) st1) := by
  subst hx hy
  have hb : bootBuiltins (tyStr t) = some (.type t) ∧ (tyStr t == ("__debug__" : Str)) = false ∧ tyStr t ≠ ("__name__" : Str) := by
    simp only [List.contains_eq_mem, List.mem_cons, List.not_mem_nil, or_false, decide_eq_true_eq] at ht
    rcases ht with rfl | rfl | rfl | rfl | rfl | rfl <;> decide +kernel
  refine (pe_callB (es := [.Name (tyStr t) p2]) call_isi hg hm (by decide +kernel) (pa_cons ha (pa_cons (pe_bltn (v := .ty t) hg2 hm2 hb.1 rfl hb.2.2 hb.2.1) pa_nil) hs) (by decide +kernel) (by decide +kernel) hs rfl).ti fun σ H Q ⟨μ, env, st, v, st', e, s, h, q⟩ => ?_
  obtain ⟨v1, st1, h1, h⟩ := Res.bind_eq h
  obtain ⟨h2, rfl⟩ := liftO_eq h
  simp only [Option.map_eq_some_iff, Option.bind_eq_some_iff] at h2
  obtain ⟨b, ⟨n, h3, h4⟩, rfl⟩ := h2
  refine ⟨μ, env, st, v1, st1, e, s, h1, fun μ1 H1 z e1 s1 r1 => ?_⟩
  obtain ⟨T, h5, h6⟩ := isi_ok s1 r1 h3 h4
  exact ⟨z, .ty t, T, .type t, b, rfl, .ty t, h5, h6, q _ _ _ e1 s1 (.bl b)⟩

/-! ### slices -/
theorem o_none : PO X none (TOv X.K fun env st => partR true (fun _ _ => .bad) env st) := po_none.ti fun σ H Q ⟨μ, env, st, v, st', e, s, h, q⟩ => by
  obtain ⟨rfl, rfl⟩ := ok_eq (show Res.ok none st = .ok v st' from h)
  exact q _ _ Ext.refl s
theorem o_some {p : Expr} {f : VEnv → Sto → Res Val} (hp : DE X p f) : PO X (some p) (TOv X.K (partR false f)) := (po_some hp).ti fun σ H Q ⟨μ, env, st, v, st', e, s, h, q⟩ => by
  have h : ((f env st).bind fun v st1 => liftO (partV v) st1) = .ok v st' := h
  obtain ⟨v1, st1, h1, h⟩ := Res.bind_eq h
  obtain ⟨h2, rfl⟩ := liftO_eq h
  refine ⟨μ, env, st, v1, st1, e, s, h1, fun μ1 H1 z e1 s1 r1 => ?_⟩
  cases r1 <;> simp only [partV, reduceCtorEq] at h2
  cases h2
  exact ⟨_, rfl, q _ _ e1 s1⟩
theorem d_sl {a : Expr} {lo hi : Option Expr} {p2 : Pos} {f : VEnv → Sto → Res Val} {g k : VEnv → Sto → Res (Option Int)} (ha : DE X a f) (hl : PO X lo (TOv X.K g)) (hh : PO X hi (TOv X.K k)) :
    DE X (.Subscript a (.Slice lo hi none p2) pos) (fun env st => (f env st).bind fun x st1 => (g env st1).bind fun l st2 => (k env st2).bind fun h st3 => slV x l h st3) :=
  (pe_slice x_sl ha hl hh).ti fun σ H Q ⟨μ, env, st, v, st', e, s, h, q⟩ => by
    obtain ⟨v1, st1, h1, h⟩ := Res.bind_eq h
    obtain ⟨v2, st2, h2, h⟩ := Res.bind_eq h
    obtain ⟨v3, st3, h3, h⟩ := Res.bind_eq h
    refine ⟨μ, env, st, v1, st1, e, s, h1, fun μ1 H1 x e1 s1 r1 => ?_⟩
    refine ⟨μ1, env, st1, v2, st2, e.mono e1, s1, h2, fun μ2 H2 e2 s2 => ?_⟩
    refine ⟨μ2, env, st2, v3, st3, (e.mono e1).mono e2, s2, h3, fun μ3 H3 e3 s3 => ?_⟩
    exact ⟨μ3, v1, st3, v, st', r1.mono (e2.trans e3), s3, h, fun μ4 H4 u e4 s4 r4 => q _ _ _ (((e1.trans e2).trans e3).trans e4) s4 r4⟩

/-! ### methods -/
theorem base_ok {o : Expr} {m : Str} {env : PySem.Env} {wh : Sem Value} (h : baseB o = true) : attributeBase o m env wh = wh := by
  unfold baseB at h
  split at h
  · cases h
  · rename_i hne
    unfold attributeBase
    split
    · rename_i x p pos'
      exact absurd rfl (hne x p pos')
    · rfl
theorem isL_ok {K : PySem.W.Frag} {H : Hp} {μ : List Addr} {st : Sto} {x : V} {v : Val} (s : SR K H μ st) (r : Rep K H μ x v) (h : isL v st = true) : tyV K "list" x H := by
  cases r with
  | loc hn =>
    simp only [isL] at h
    split at h
    · rename_i ys hy
      obtain ⟨zs, q1, _⟩ := s.lst hn hy
      exact .inl ⟨rfl, zs, SqL.of q1⟩
    · cases h
  | _ => cases h
theorem d_m1 {o r : Expr} {m : Str} {id : String} {apos : Pos} {f g : VEnv → Sto → Res Val} {F : Val → Val → Sto → Res Val} (slot : Slot "list" m id) (hty : typeOf (.builtin id) = pure (.type "method_descriptor")) (hm : MtR X id (RMv X.K F)) (ho : DE X o f) (ha : DE X r g) (hb : baseB o = true)
    (hline : (apos.endLine == pos.line) = true) (hs : ∀ es, starEach (r :: es) X.env = (false, eval r X.env) :: starEach es X.env) :
    DE X (.Call (.Attribute o m apos) [r] [] pos) (fun env st => (f env st).bind fun u st1 => if isL u st1 = true then (g env st1).bind fun y st2 => F u y st2 else .bad) := by
  refine (pe_bm PySem.F.plainAttrs_list slot hty hm ho (pa_cons ha pa_nil (hs [])) (base_ok hb) (by rw [hs []]; rfl) hline (hs []) rfl).ti fun σ H Q ⟨μ, env, st, v, st', e, s, h, q⟩ => ?_
  obtain ⟨v1, st1, h1, h⟩ := Res.bind_eq h
  split at h
  · rename_i hl
    obtain ⟨v2, st2, h2, h⟩ := Res.bind_eq h
    refine ⟨μ, env, st, v1, st1, e, s, h1, fun μ1 H1 x e1 s1 r1 => ⟨isL_ok s1 r1 hl, ?_⟩⟩
    refine ⟨μ1, env, st1, v2, st2, e.mono e1, s1, h2, fun μ2 H2 y e2 s2 r2 => ?_⟩
    exact ⟨y, rfl, μ2, v1, v2, st2, v, st', r1.mono e2, r2, s2, h, fun μ3 H3 u e3 s3 r3 => q _ _ _ ((e1.trans e2).trans e3) s3 r3⟩
  · cases h
theorem d_m0 {o : Expr} {m : Str} {id : String} {apos : Pos} {f : VEnv → Sto → Res Val} {F : Val → Sto → Res Val} (slot : Slot "list" m id) (hty : typeOf (.builtin id) = pure (.type "method_descriptor")) (hm : MtR X id (RM0v X.K F)) (ho : DE X o f) (hb : baseB o = true)
    (hline : (apos.endLine == pos.line) = true) (hF : ∀ u st z st', F u st = .ok z st' → isL u st = true) :
    DE X (.Call (.Attribute o m apos) [] [] pos) (fun env st => (f env st).bind fun u st1 => F u st1) := by
  refine (pe_bm0 PySem.F.plainAttrs_list slot hty hm ho (base_ok hb) hline).ti fun σ H Q ⟨μ, env, st, v, st', e, s, h, q⟩ => ?_
  obtain ⟨v1, st1, h1, h⟩ := Res.bind_eq h
  refine ⟨μ, env, st, v1, st1, e, s, h1, fun μ1 H1 x e1 s1 r1 => ⟨isL_ok s1 r1 (hF _ _ _ _ h), rfl, ?_⟩⟩
  exact ⟨μ1, v1, st1, v, st', r1, s1, h, fun μ3 H3 u e3 s3 r3 => q _ _ _ (e1.trans e3) s3 r3⟩
theorem pop_isL {u : Val} {st st' : Sto} {z : Val} (h : popV u st = .ok z st') : isL u st = true := by
  cases u <;> simp only [popV, reduceCtorEq] at h
  split at h
  · rename_i e
    simp only [isL, e]
  · cases h

/-! ### tests -/
def evT (f : VEnv → Sto → Res Val) : VEnv → Sto → Res Bool := fun env st => (f env st).bind truthR
def plainT : Expr → Bool
  | .UnaryOp .Not _ _ => false
  | .BoolOp _ _ _ => false
  | .IfExp _ _ _ _ => false
  | .Compare _ _ _ _ => false
  | _ => true
theorem plainT_ok {p : Expr} {env : PySem.Env} (h : plainT p = true) (whole : Sem Value) : isTrue p env whole = (do let v ← whole; standAt p.pos; holding [v] (truthy v)) := by
  cases p with
  | UnaryOp op a pos => cases op <;> first | rfl | cases h
  | BoolOp => cases h
  | IfExp => cases h
  | Compare => cases h
  | _ => rfl
theorem t_plain {p : Expr} {f : VEnv → Sto → Res Val} (ha : DE X p f) (hp : plainT p = true) : DT X p (evT f) :=
  (pt_truth ha (plainT_ok hp)).ti fun σ H Q ⟨μ, env, st, b, st', e, s, h, q⟩ => by
    obtain ⟨v1, st1, h1, h⟩ := Res.bind_eq (show (f env st).bind truthR = _ from h)
    obtain ⟨h3, rfl⟩ := truthR_eq h
    exact ⟨μ, env, st, v1, st', e, s, h1, fun μ1 H1 x e1 s1 r1 => ⟨b, tru_of s1 r1 h3, q _ _ e1 s1⟩⟩
theorem truthR_bl {b : Bool} {st : Sto} : truthR (.bl b) st = .ok b st := rfl
theorem t_not {a : Expr} {f : VEnv → Sto → Res Val} (ha : DT X a (evT f)) : DT X (.UnaryOp .Not a pos) (evT fun env st => (f env st).bind fun x st1 => (truthR x st1).bind fun b st2 => .ok (.bl (!b)) st2) :=
  (pt_not ha).ti fun σ H Q ⟨μ, env, st, b, st', e, s, h, q⟩ => by
    obtain ⟨v1, st1, h1, h⟩ := Res.bind_eq (show Res.bind _ truthR = _ from h)
    obtain ⟨v2, st2, h2, h1⟩ := Res.bind_eq h1
    obtain ⟨b3, st3, h3, h1⟩ := Res.bind_eq h1
    obtain ⟨rfl, rfl⟩ := ok_eq h1
    rw [truthR_bl] at h
    obtain ⟨rfl, rfl⟩ := ok_eq h
    exact ⟨μ, env, st, b3, st3, e, s, by show (f env st).bind truthR = _; rw [h2]; exact h3, fun μ1 H1 e1 s1 => q _ _ e1 s1⟩
theorem w_one_and {a : Expr} {f : VEnv → Sto → Res Val} (ha : DT X a (evT f)) : DW X (.BoolOp .And [a] pos) (evT f) := pw_and1 ha
theorem w_one_or {a : Expr} {f : VEnv → Sto → Res Val} (ha : DT X a (evT f)) : DW X (.BoolOp .Or [a] pos) (evT f) := pw_or1 ha
theorem w_and {a b : Expr} {rest : List Expr} {f g : VEnv → Sto → Res Val} (ha : DT X a (evT f)) (hb : DW X (.BoolOp .And (b :: rest) pos) (evT g)) :
    DW X (.BoolOp .And (a :: b :: rest) pos) (evT fun env st => (f env st).bind fun x st1 => (truthR x st1).bind fun k st2 => if k = true then g env st2 else .ok x st2) :=
  (pw_and ha hb).ti fun σ H Q ⟨μ, env, st, b, st', e, s, h, q⟩ => by
    obtain ⟨v1, st1, h1, h⟩ := Res.bind_eq (show Res.bind _ truthR = _ from h)
    obtain ⟨v2, st2, h2, h1⟩ := Res.bind_eq h1
    obtain ⟨k, st3, h3, h1⟩ := Res.bind_eq h1
    refine ⟨μ, env, st, k, st3, e, s, by show (f env st).bind truthR = _; rw [h2]; exact h3, fun μ1 H1 e1 s1 => ?_⟩
    obtain ⟨h4, rfl⟩ := truthR_eq h3
    cases k with
    | true => exact iteT ⟨μ1, env, st3, b, st', e.mono e1, s1, by show (g env st3).bind truthR = _; rw [show g env st3 = _ from h1]; exact h, fun μ2 H2 e2 s2 => q _ _ (e1.trans e2) s2⟩
    | false =>
      obtain ⟨rfl, rfl⟩ := ok_eq h1
      obtain ⟨h5, rfl⟩ := truthR_eq h
      rw [h4] at h5; cases h5
      exact iteF (q _ _ e1 s1)
theorem w_or {a b : Expr} {rest : List Expr} {f g : VEnv → Sto → Res Val} (ha : DT X a (evT f)) (hb : DW X (.BoolOp .Or (b :: rest) pos) (evT g)) :
    DW X (.BoolOp .Or (a :: b :: rest) pos) (evT fun env st => (f env st).bind fun x st1 => (truthR x st1).bind fun k st2 => if k = true then .ok x st2 else g env st2) :=
  (pw_or ha hb).ti fun σ H Q ⟨μ, env, st, b, st', e, s, h, q⟩ => by
    obtain ⟨v1, st1, h1, h⟩ := Res.bind_eq (show Res.bind _ truthR = _ from h)
    obtain ⟨v2, st2, h2, h1⟩ := Res.bind_eq h1
    obtain ⟨k, st3, h3, h1⟩ := Res.bind_eq h1
    refine ⟨μ, env, st, k, st3, e, s, by show (f env st).bind truthR = _; rw [h2]; exact h3, fun μ1 H1 e1 s1 => ?_⟩
    obtain ⟨h4, rfl⟩ := truthR_eq h3
    cases k with
    | false => exact iteF ⟨μ1, env, st3, b, st', e.mono e1, s1, by show (g env st3).bind truthR = _; rw [show g env st3 = _ from h1]; exact h, fun μ2 H2 e2 s2 => q _ _ (e1.trans e2) s2⟩
    | true =>
      obtain ⟨rfl, rfl⟩ := ok_eq h1
      obtain ⟨h5, rfl⟩ := truthR_eq h
      rw [h4] at h5; cases h5
      exact iteT (q _ _ e1 s1)
theorem cmpR_bl {op : CmpOp} {x y z : Val} {st st' : Sto} (h : cmpR op x y st = .ok z st') : ∃ b, z = .bl b := by
  obtain ⟨b, _, rfl, _⟩ := cmpR_eq h
  exact ⟨b, rfl⟩
/-- a test whose value is always a bool -/
theorem test_imp {f : VEnv → Sto → Res Val} {t : TE} (hi : ∀ σ H Q, TEv X.K f σ H Q → t σ H Q) (hb : ∀ env st v st', f env st = .ok v st' → ∃ b, v = .bl b) (σ : L2.St) (H : Hp) (Q : Bool → Hp → Prop) (h : TTv X.K (evT f) σ H Q) : tTest t σ H Q := by
  obtain ⟨μ, env, st, b, st', e, s, h, q⟩ := h
  obtain ⟨v1, st1, h1, h⟩ := Res.bind_eq (show (f env st).bind truthR = _ from h)
  obtain ⟨b1, rfl⟩ := hb _ _ _ _ h1
  rw [truthR_bl] at h
  obtain ⟨rfl, rfl⟩ := ok_eq h
  refine hi _ _ _ ⟨μ, env, st, .bl b1, st1, e, s, h1, fun μ1 H1 x e1 s1 r1 => ?_⟩
  cases r1
  exact ⟨b1, rfl, q _ _ e1 s1⟩
theorem t_cmp {op : CmpOp} {a b : Expr} {f g : VEnv → Sto → Res Val} (ho : OpR X (compareOp op) (R2v X.K (cmpR op))) (ha : DE X a f) (hb : DE X b g) (hm : behindInMarks op b = false) :
    DT X (.Compare a [op] [b] pos) (evT fun env st => (f env st).bind fun x st1 => (g env st1).bind fun y st2 => cmpR op x y st2) := by
  refine (pt_cmpR ho ha hb hm).ti (test_imp (fun σ H Q ⟨μ, env, st, v, st', e, s, hh, q⟩ => ?_) fun env st v st' h => ?_)
  · obtain ⟨v1, st1, h1, hh⟩ := Res.bind_eq hh
    obtain ⟨v2, st2, h2, hh⟩ := Res.bind_eq hh
    refine ⟨μ, env, st, v1, st1, e, s, h1, fun μ1 H1 x e1 s1 r1 => ?_⟩
    refine ⟨μ1, env, st1, v2, st2, e.mono e1, s1, h2, fun μ2 H2 y e2 s2 r2 => ?_⟩
    exact ⟨μ2, v1, v2, st2, v, st', r1.mono e2, r2, s2, hh, fun μ3 H3 u e3 s3 r3 => q _ _ _ ((e1.trans e2).trans e3) s3 r3⟩
  · obtain ⟨v1, st1, h1, h⟩ := Res.bind_eq h
    obtain ⟨v2, st2, h2, h⟩ := Res.bind_eq h
    exact cmpR_bl h
theorem t_chain {op op' : CmpOp} {a b c : Expr} {f g k : VEnv → Sto → Res Val} (ho : OpR X (compareOp op) (R2v X.K (cmpR op))) (ho' : OpR X (compareOp op') (R2v X.K (cmpR op'))) (ha : DE X a f) (hb : DE X b g) (hc : DE X c k) (hm : lastMarks [op, op'] [b, c] = false) :
    DT X (.Compare a [op, op'] [b, c] pos) (evT fun env st => (f env st).bind fun x st1 => (g env st1).bind fun y st2 => (liftO (cmpV op x y st2) st2).bind fun k' st3 =>
      if k' = true then (k env st3).bind fun z st4 => cmpR op' y z st4 else .ok (.bl false) st3) := by
  refine (pt_chain ho ho' ha hb hc hm).ti (test_imp (fun σ H Q h => chain_imp h) fun env st v st' h => ?_)
  obtain ⟨v1, st1, h1, h⟩ := Res.bind_eq h
  obtain ⟨v2, st2, h2, h⟩ := Res.bind_eq h
  obtain ⟨v3, st3, h3, h⟩ := Res.bind_eq h
  split at h
  · obtain ⟨v4, st4, h4, h⟩ := Res.bind_eq h
    exact cmpR_bl h
  · obtain ⟨rfl, rfl⟩ := ok_eq h
    exact ⟨_, rfl⟩
theorem t_ite {t a b : Expr} {f g k : VEnv → Sto → Res Val} (ht : DT X t (evT f)) (ha : DT X a (evT g)) (hb : DT X b (evT k)) :
    DT X (.IfExp t a b pos) (evT fun env st => (f env st).bind fun x st1 => (truthR x st1).bind fun k' st2 => if k' = true then g env st2 else k env st2) := by
  constructor
  intro pins s σ H Q I ⟨μ, env, st, b', st', e, sr, h, q⟩
  obtain ⟨v1, st1, h1, h⟩ := Res.bind_eq (show Res.bind _ truthR = _ from h)
  obtain ⟨v2, st2, h2, h1⟩ := Res.bind_eq h1
  obtain ⟨c, st3, h3, h1⟩ := Res.bind_eq h1
  show wpAny _ _ (do if ← isTrue t X.env (eval t X.env) then isTrue a X.env (eval a X.env) else isTrue b X.env (eval b X.env)) _ _ _
  refine wpAny_bind (thn (ht.run pins s σ H (fun c H1 => if c = true then TTv X.K (evT g) σ H1 Q else TTv X.K (evT k) σ H1 Q) I ⟨μ, env, st, c, st3, e, sr, by show (f env st).bind truthR = _; rw [h2]; exact h3, fun μ1 H1 e1 s1 => ?_⟩) fun d s1 ⟨H1, I1, q1⟩ => ?_)
  · cases c with
    | true => exact iteT ⟨μ1, env, st3, b', st', e.mono e1, s1, by show (g env st3).bind truthR = _; rw [show g env st3 = _ from h1]; exact h, fun μ2 H2 e2 s2 => q _ _ (e1.trans e2) s2⟩
    | false => exact iteF ⟨μ1, env, st3, b', st', e.mono e1, s1, by show (k env st3).bind truthR = _; rw [show k env st3 = _ from h1]; exact h, fun μ2 H2 e2 s2 => q _ _ (e1.trans e2) s2⟩
  · cases d with
    | true => exact ha.run pins s1 σ H1 Q I1 q1
    | false => exact hb.run pins s1 σ H1 Q I1 q1
end
end TT
set_option Elab.async false
set_option linter.all false
set_option maxRecDepth 100000
set_option maxHeartbeats 4000000
/-! Targets, what is walked, comprehensions. -/
namespace TT
open PySem L2 PySem.Spec PyProof.Rows

/-! ### targets -/
structure Chg (tg : List Nat) (σ σ' : L2.St) : Prop where
  len : σ'.length = σ.length
  same : ∀ i, i ∉ tg → σ'[i]? = σ[i]?
theorem Chg.trans {tg tg' : List Nat} {σ σ1 σ2 : L2.St} (a : Chg tg σ σ1) (b : Chg tg' σ1 σ2) : Chg (tg ++ tg') σ σ2 :=
  ⟨b.len.trans a.len, fun i h => (b.same i fun q => h (List.mem_append_right _ q)).trans (a.same i fun q => h (List.mem_append_left _ q))⟩
theorem wipe_get {σ : L2.St} : ∀ (vs : List Nat) (i : Nat), (L2.wipe σ vs)[i]? = if i ∈ vs then (σ[i]?).map fun _ => none else σ[i]?
  | [], i => by simp [L2.wipe]
  | v :: vs, i => by
    unfold L2.wipe
    by_cases h : v = i
    · subst h
      rw [if_pos List.mem_cons_self]
      by_cases l : v < σ.length
      · rw [List.getElem?_set_self (by rw [wipe_length]; exact l)]
        simp [l]
      · rw [List.getElem?_eq_none (by simp [wipe_length]; omega)]
        simp [l]
    · rw [List.getElem?_set_ne h, wipe_get vs i]
      simp only [List.mem_cons, Ne.symm h, false_or, show ¬ i = v from fun e => h e.symm]
theorem Chg.wipe {tg vs : List Nat} {σ σ' : L2.St} (c : Chg tg (L2.wipe σ vs) σ') (h : ∀ i ∈ tg, i ∈ vs) : L2.wipe σ' vs = L2.wipe σ vs := by
  refine List.ext_getElem? fun i => ?_
  have hl : σ'.length = σ.length := by rw [c.len, wipe_length]
  rw [wipe_get, wipe_get]
  by_cases hi : i ∈ vs
  · rw [if_pos hi, if_pos hi]
    by_cases l : i < σ.length
    · simp [l, hl]
    · simp [l, hl]
  · rw [if_neg hi, if_neg hi, c.same i fun q => hi (h i q), wipe_get, if_neg hi]
section
variable (K : PySem.W.Frag)
def TGv (tg : List Nat) (f : Val → VEnv → Option VEnv) : TG := fun x σ H Q => ∃ (μ : List Addr) (v : Val) (env env' : VEnv), Rep K H μ x v ∧ ER K H μ σ env ∧ f v env = some env' ∧ ∀ σ', ER K H μ σ' env' → Chg tg σ σ' → Q σ' H
def TGsv (tg : List Nat) : TGs := fun xs σ H Q => ∃ (μ : List Addr) (vs : List Val) (env env' : VEnv), Reps K H μ xs vs ∧ ER K H μ σ env ∧ setNs tg vs env = some env' ∧ ∀ σ', ER K H μ σ' env' → Chg tg σ σ' → Q σ' H
end
theorem _root_.L2.PG.ti {X : Cx} {e : Expr} {t t' : TG} (h : PG X e t) (i : ∀ x σ H Q, t' x σ H Q → t x σ H Q) : PG X e t' := ⟨fun pins s σ H v u Q I r q => h.run pins s σ H v u Q I r (i v σ H Q q)⟩
theorem _root_.L2.PGs.ti {X : Cx} {e : List Expr} {t t' : TGs} (h : PGs X e t) (i : ∀ x σ H Q, t' x σ H Q → t x σ H Q) : PGs X e t' := ⟨fun pins s σ H v u Q I r q => h.run pins s σ H v u Q I r (i v σ H Q q)⟩
section
variable {X : Cx} {pos : Pos}
theorem g_name {i : Nat} {x : Str} (hN : X.N.Nodup) (hi : X.N[i]? = some x) (hx : Loc X.env.scope x) (hf : X.fn x = true ∨ X.env.scope.names.lookup x = some .local) : PG X (.Name x pos) (TGv X.K [i] fun v env => some (setN i v env)) :=
  (pg_name hN hi hx hf).ti fun x σ H Q ⟨μ, v, env, env', r, e, h, q⟩ => by
    cases h
    refine q _ (e.set r) ⟨by simp, fun j hj => ?_⟩
    rw [List.getElem?_set_ne (fun z => hj (by simp [z]))]
theorem TGv.one {i : Nat} : TGv X.K [i] (setTg [i] true) = TGv X.K [i] fun v env => some (setN i v env) := by
  funext x σ H Q
  unfold TGv
  simp only [setTg]
theorem tgN_ok {top : Bool} {lv : Nat} {sc : Scope} {N : List Str} {i : Nat} {e : Expr} (c : Cxt lv X sc N top) (h : tgN top sc N i e = true) : ∃ x p, e = .Name x p ∧ X.N[i]? = some x ∧ Loc X.env.scope x ∧ (X.fn x = true ∨ X.env.scope.names.lookup x = some .local) := by
  unfold tgN at h
  split at h
  · rename_i x p
    simp only [Bool.and_eq_true, Bool.or_eq_true, decide_eq_true_eq] at h
    rw [c.hN, c.hsc]
    rcases h.2 with q | ⟨q1, q2⟩
    · exact ⟨x, p, rfl, h.1, .inl q, .inr q⟩
    · exact ⟨x, p, rfl, h.1, .inr q2, .inl (c.top q1 x)⟩
  · cases h
theorem gs_ok {top : Bool} {lv : Nat} {sc : Scope} {N : List Str} (c : Cxt lv X sc N top) : ∀ {is : List Nat} {es : List Expr}, tgNs top sc N is es = true → PGs X es (TGsv X.K is) ∧ (assignEach es X.env).length = es.length ∧ (assignEach es X.env).findIdx? (·.1) = none ∧ is.length = es.length
  | [], [], _ => by
    refine ⟨pgs_nil.ti fun xs σ H Q ⟨μ, vs, env, env', r, e, h, q⟩ => ?_, rfl, rfl, rfl⟩
    cases vs with
    | nil =>
      cases r
      cases h
      exact ⟨rfl, q σ e ⟨rfl, fun _ _ => rfl⟩⟩
    | cons v vs => cases h
  | i :: is, e :: es, h => by
    simp only [tgNs, Bool.and_eq_true] at h
    obtain ⟨x, p, rfl, h1, h2, h3⟩ := tgN_ok c h.1
    obtain ⟨g1, g2, g3, g4⟩ := gs_ok c h.2
    refine ⟨(pgs_cons (g_name (by rw [c.hN]; exact c.nd) h1 h2 h3) g1 rfl).ti fun xs σ H Q ⟨μ, vs, env, env', r, e, h, q⟩ => ?_, ?_, ?_, ?_⟩
    · cases vs with
      | nil => cases h
      | cons v vs =>
        cases r with
        | cons r rs =>
          refine ⟨_, _, rfl, μ, v, env, setN i v env, r, e, rfl, fun σ1 e1 c1 => ?_⟩
          exact ⟨μ, vs, setN i v env, env', rs, e1, h, fun σ2 e2 c2 => q σ2 e2 (c1.trans c2)⟩
    · show (assignEach es X.env).length + 1 = es.length + 1
      rw [g2]
    · show (((false, assign (Expr.Name x p) X.env) :: assignEach es X.env).findIdx? (·.1)) = none
      rw [List.findIdx?_cons, g3]
      rfl
    · simp [g4]
  | [], _ :: _, h => by cases h
  | _ :: _, [], h => by cases h
theorem g_ok {top : Bool} {lv : Nat} {sc : Scope} {N : List Str} (c : Cxt lv X sc N top) {tg : List Nat} {one : Bool} {e : Expr} (h : mtTg top sc N tg one e = true) : PG X e (TGv X.K tg (setTg tg one)) := by
  unfold mtTg at h
  split at h
  · rename_i i e'
    obtain ⟨x, p, rfl, h1, h2, h3⟩ := tgN_ok c h
    rw [TGv.one]
    exact g_name (by rw [c.hN]; exact c.nd) h1 h2 h3
  · rename_i is es k p
    obtain ⟨g1, g2, g3, g4⟩ := gs_ok c h
    refine (pg_tup c.calm g1 g2 g3).ti fun x σ H Q ⟨μ, v, env, env', r, e, hf, q⟩ => ?_
    simp only [setTg] at hf
    cases r with
    | tup r1 z r2 =>
      have hl : ∀ {is : List Nat} {vs : List Val} {env env' : VEnv}, setNs is vs env = some env' → is.length = vs.length := by
        intro is
        induction is with
        | nil => intro vs env env' h; cases vs <;> first | rfl | cases h
        | cons i is ih => intro vs env env' h; cases vs with
          | nil => cases h
          | cons v vs => simp only [setNs] at h; simp [ih h]
      exact ⟨_, _, rfl, SqT.of r1, by rw [r2.length, ← hl hf, g4], μ, _, env, env', r2, e, hf, q⟩
    | _ => cases hf
  · cases h

/-! ### what is walked -/
structure WalkV (K : PySem.W.Frag) (H1 : Hp) (μ1 : List Addr) (items : List Val) (w : Watch) (J : It) : Prop where
  ex : ∃ (G : Hp → Prop) (Y : Nat → Hp → V → Hp → Prop), Walk J items.length G Y ∧ (∀ H2 μ2 st2, Kp H1 μ1 H2 μ2 → SR K H2 μ2 st2 → wOk w st2 = true → G H2) ∧
    ∀ i H2 μ2 st2 x H3, i < items.length → Kp H1 μ1 H2 μ2 → SR K H2 μ2 st2 → wOk w st2 = true → Y i H2 x H3 → (H3 = H2 ∨ ∃ T a b, H2 T = none ∧ H3 = upd H2 T (.tup [a, b])) ∧ ∃ v, items[i]? = some v ∧ Rep K H3 μ2 x v
  len : items.length ≤ sizeLine
def TIv (K : PySem.W.Frag) (f : VEnv → Sto → Res (List Val × Watch)) : TI := fun σ H R => ∃ (μ : List Addr) (env : VEnv) (st : Sto) (items : List Val) (w : Watch) (st' : Sto), ER K H μ σ env ∧ SR K H μ st ∧ f env st = .ok (items, w) st' ∧
  ∀ (μ' : List Addr) (H' : Hp) (J : It), Ext H μ H' μ' → SR K H' μ' st' → WalkV K H' μ' items w J → R J H'
theorem _root_.L2.PI.ti {X : Cx} {tg e : Expr} {t t' : TI} (h : PI X tg e t) (i : ∀ σ H Q, t' σ H Q → t σ H Q) : PI X tg e t' := ⟨fun pins s σ H Q I q => h.run pins s σ H Q I (i σ H Q q)⟩
/-- a list that may be written meanwhile -/
theorem walk_dyn {K : PySem.W.Frag} {a : Addr} {n : Nat} : Walk (Itl K a) n (fun H => ∃ ys, SqL K H a ys ∧ ys.length = n) (fun i H x H' => H' = H ∧ ∀ ys, SqL K H a ys → ys[i]? = some x) :=
  ⟨fun i H hi ⟨ys, h1, h2⟩ => ⟨ys, ys[i]'(by omega), h1, by simp [h2, hi]⟩, fun H ⟨ys, h1, h2⟩ => ⟨ys, h1, by omega⟩, fun i H x H' _ _ y => y⟩
theorem wOk_one {n : Nat} {xs : List Val} {st : Sto} (h : wOk [(n, xs)] st = true) : st[n]? = some (.lst xs) := by
  unfold wOk at h
  simp only [List.all_cons, List.all_nil, Bool.and_true, decide_eq_true_eq] at h
  exact h
theorem walkV_of {K : PySem.W.Frag} {H : Hp} {μ : List Addr} {st : Sto} {x : V} {v : Val} {items : List Val} {w : Watch} (s : SR K H μ st) (r : Rep K H μ x v) (h : itemsOf st v = some (items, w)) :
    ∃ a, x = .ref a ∧ (((∃ xs, SqL K H a xs) ∧ WalkV K H μ items w (Itl K a)) ∨ ((∃ xs, SqT K H a xs) ∧ WalkV K H μ items w (Itt K a))) := by
  cases r with
  | tup h1 z r =>
    cases h
    rename_i a xs
    refine ⟨a, rfl, .inr ⟨⟨xs, SqT.of h1⟩, ?_, by rw [← r.length]; exact z⟩⟩
    refine ⟨fun H => SqT K H a xs, YAt xs, by rw [← r.length]; exact walk_tup, fun H2 μ2 st2 e s2 _ => SqT.of (e.tups _ _ h1), fun i H2 μ2 st2 y H3 hi e s2 _ hy => ?_⟩
    obtain ⟨rfl, hy⟩ := hy
    obtain ⟨v, q1, q2⟩ := r.getV hy
    exact ⟨.inl rfl, v, q1, q2.kept e⟩
  | flst h1 z =>
    cases h
    rename_i a is
    refine ⟨a, rfl, .inl ⟨⟨_, sq_flst h1⟩, ?_, by rw [List.length_map]; exact z⟩⟩
    have keep : ∀ {H2 : Hp} {μ2 : List Addr}, Kp H μ H2 μ2 → SqL K H2 a (is.map V.int) := fun e => sq_flst (h1.elim (fun ⟨o, q⟩ => .inl ⟨o, e.frzs _ _ _ q⟩) .inr)
    refine ⟨_, _, walk_dyn, fun H2 μ2 st2 e s2 _ => ⟨_, keep e, by simp⟩, fun i H2 μ2 st2 y H3 hi e s2 _ hy => ?_⟩
    obtain ⟨rfl, hy⟩ := hy
    obtain ⟨v, q1, q2⟩ := (Reps.ints (K := K) (H := H3) (μ := μ2) is).getV (hy _ (keep e))
    exact ⟨.inl rfl, v, q1, q2⟩
  | loc h1 =>
    rename_i n a
    simp only [itemsOf] at h
    split at h
    · rename_i xs hx
      cases h
      obtain ⟨ys, q1, q2, q3⟩ := s.lst h1 hx
      refine ⟨a, rfl, .inl ⟨⟨ys, SqL.of q1⟩, ?_, by rw [← q3.length]; exact q2⟩⟩
      refine ⟨_, _, walk_dyn, fun H2 μ2 st2 e s2 hw => ?_, fun i H2 μ2 st2 y H3 hi e s2 hw hy => ?_⟩
      · obtain ⟨zs, p1, p2, p3⟩ := s2.lst (e.get _ _ h1) (wOk_one hw)
        exact ⟨zs, SqL.of p1, p3.length⟩
      · obtain ⟨rfl, hy⟩ := hy
        obtain ⟨zs, p1, p2, p3⟩ := s2.lst (e.get _ _ h1) (wOk_one hw)
        obtain ⟨v, r1, r2⟩ := p3.getV (hy _ (SqL.of p1))
        exact ⟨.inl rfl, v, r1, r2⟩
    · cases h
  | _ => cases h
theorem i_val {tg l : Expr} {f : VEnv → Sto → Res Val} (hl : DE X l f) : PI X tg l (TIv X.K fun env st => (f env st).bind fun v st1 => liftO (itemsOf st1 v) st1) := by
  constructor
  intro pins s σ H R I ⟨μ, env, st, items, w, st', e, sr, h, q⟩
  obtain ⟨v1, st1, h1, h⟩ := Res.bind_eq h
  obtain ⟨h2, rfl⟩ := liftO_eq h
  refine thn (hl.run pins s σ H (fun x H1 => ∃ a, x = .ref a ∧ (((∃ xs, SqL X.K H1 a xs) ∧ R (Itl X.K a) H1) ∨ ((∃ xs, SqT X.K H1 a xs) ∧ R (Itt X.K a) H1))) I ⟨μ, env, st, v1, st1, e, sr, h1, fun μ1 H1 x e1 s1 r1 => ?_⟩) fun v s1 hv => ?_
  · obtain ⟨a, rfl, h3⟩ := walkV_of s1 r1 h2
    refine ⟨a, rfl, ?_⟩
    rcases h3 with ⟨h3, h4⟩ | ⟨h3, h4⟩
    · exact .inl ⟨h3, q _ _ _ e1 s1 h4⟩
    · exact .inr ⟨h3, q _ _ _ e1 s1 h4⟩
  · obtain ⟨x, H1, I1, r1, a, rfl, hq⟩ := hv
    cases r1
    have new : FpOk X pins H1 s1.heap.objs.size := I1.fpOk (Nat.le_refl _) (I1.hok.fresh (Nat.le_refl _))
    have one : ∀ b ∈ [s1.heap.objs.size], FpOk X pins H1 b := fun b hb => by
      rw [List.mem_singleton] at hb
      subst hb
      exact new
    rcases hq with ⟨⟨xs, hq⟩, hR⟩ | ⟨⟨xs, hq⟩, hR⟩
    · obtain ⟨its, rv, pl, _⟩ := I1.list hq
      refine wpAny_pyIter_list pl.isList ⟨_, [s1.heap.objs.size], _, _, H1, rfl, ?_, turn_list a _, ⟨_, Heap.get?_push_size _ rfl, rfl, rfl⟩, one, hR⟩
      exact I1.kept (t' := s1.toks) fun b o e => Heap.get?_push_of_some _ e
    · obtain ⟨its, rv, pt, _⟩ := I1.tuple hq
      refine wpAny_pyIter_tuple (show s1.heap.IsTuple a its.toArray from pt) ⟨_, [s1.heap.objs.size], _, _, H1, rfl, ?_, turn_tuple a _, ⟨_, Heap.get?_push_size _ rfl, rfl, rfl⟩, one, hR⟩
      exact I1.kept (t' := s1.toks) fun b o e => Heap.get?_push_of_some _ e
theorem rangeL_get {lo : Int} {n i : Nat} (h : i < n) : (rangeL lo n)[i]? = some (.int (lo + (i : Nat))) := by
  unfold rangeL
  rw [List.getElem?_map, List.getElem?_range h]
  rfl
theorem rangeL_len {lo : Int} {n : Nat} : (rangeL lo n).length = n := by unfold rangeL; simp
theorem walkV_range {K : PySem.W.Frag} {H : Hp} {μ : List Addr} {lo : Int} {n : Nat} (h : n ≤ sizeLine) : WalkV K H μ (rangeL lo n) [] (Itr lo n) := by
  refine ⟨⟨_, _, by rw [rangeL_len]; exact walk_range, fun _ _ _ _ _ _ => trivial, fun i H2 μ2 st2 x H3 hi e s2 _ hy => ?_⟩, by rw [rangeL_len]; exact h⟩
  obtain ⟨rfl, rfl⟩ := hy
  rw [rangeL_len] at hi
  exact ⟨.inl rfl, _, rangeL_get hi, .int _⟩
theorem smallI_ok {i : Int} (h : smallI i = true) : -(2 ^ 62) ≤ i ∧ i < 2 ^ 62 := of_decide_eq_true h
theorem i_range1 {tg a : Expr} {p : Pos} {x : Str} {g : VEnv → Sto → Res (List Val)} (hx : x = Str.ofString "range") (hg : Gl X x) (hm : X.mg x = none) (ha : DA X [a] g) (hs : starEach [a] X.env = [(false, eval a X.env)]) (h1 : ∀ env st vs st', g env st = .ok vs st' → vs.length = 1) :
    PI X tg (.Call (.Name x p) [a] [] pos) (TIv X.K fun env st => (g env st).bind fun vs st1 => iterV .range vs st1) := by
  subst hx
  refine (pi_range1 hg hm ha hs).ti fun σ H R ⟨μ, env, st, items, w, st', e, s, h, q⟩ => ?_
  obtain ⟨vs, st1, h2, h⟩ := Res.bind_eq h
  refine ⟨μ, env, st, vs, st1, e, s, h2, fun μ1 H1 xs e1 s1 r1 => ?_⟩
  have hl := h1 _ _ _ _ h2
  match vs, hl with
  | [v], _ =>
    obtain ⟨y, rfl, r2⟩ := reps1 r1
    cases r2 <;> simp only [iterV, reduceCtorEq] at h
    split at h
    · rename_i hi
      obtain ⟨hp, rfl⟩ := ok_eq h
      cases hp
      obtain ⟨b1, b2⟩ := smallI_ok hi.1
      exact ⟨_, rfl, b1, b2, q _ _ _ e1 s1 (walkV_range hi.2)⟩
    · cases h
theorem i_range2 {tg a b : Expr} {p : Pos} {x : Str} {g : VEnv → Sto → Res (List Val)} (hx : x = Str.ofString "range") (hg : Gl X x) (hm : X.mg x = none) (ha : DA X [a, b] g) (hs : starEach [a, b] X.env = [(false, eval a X.env), (false, eval b X.env)]) (hs2 : starEach [b] X.env = [(false, eval b X.env)])
    (h1 : ∀ env st vs st', g env st = .ok vs st' → vs.length = 2) : PI X tg (.Call (.Name x p) [a, b] [] pos) (TIv X.K fun env st => (g env st).bind fun vs st1 => iterV .range vs st1) := by
  subst hx
  refine (pi_range2 hg hm ha hs hs2).ti fun σ H R ⟨μ, env, st, items, w, st', e, s, h, q⟩ => ?_
  obtain ⟨vs, st1, h2, h⟩ := Res.bind_eq h
  refine ⟨μ, env, st, vs, st1, e, s, h2, fun μ1 H1 xs e1 s1 r1 => ?_⟩
  have hl := h1 _ _ _ _ h2
  match vs, hl with
  | [v, v'], _ =>
    obtain ⟨y, y', rfl, r2, r3⟩ := reps2 r1
    cases r2 <;> cases r3 <;> simp only [iterV, reduceCtorEq] at h
    split at h
    · rename_i hi
      obtain ⟨hp, rfl⟩ := ok_eq h
      cases hp
      obtain ⟨b1, b2⟩ := smallI_ok hi.1
      obtain ⟨b3, b4⟩ := smallI_ok hi.2.1
      exact ⟨_, _, rfl, ⟨b1, b2, b3, b4⟩, q _ _ _ e1 s1 (walkV_range hi.2.2)⟩
    · cases h

/-! ### list comprehensions -/
theorem lcLoop_wOk {w : Watch} {tg : List Nat} {one : Bool} {fb : VEnv → Sto → Res Bool} {fe : VEnv → Sto → Res Val} {vs : List Val} {env : VEnv} {st : Sto} {zs : List Val} {st' : Sto} (h : lcLoop w tg one fb fe vs env st = .ok zs st') : wOk w st = true := by
  cases vs with
  | nil =>
    simp only [lcLoop] at h
    split at h
    · assumption
    · cases h
  | cons v vs =>
    simp only [lcLoop] at h
    split at h
    · assumption
    · cases h
theorem laid_all {K : PySem.W.Frag} {H2 H3 : Hp} {μ : List Addr} {st : Sto} (s : SR K H2 μ st) (h : H3 = H2 ∨ ∃ T a b, H2 T = none ∧ H3 = upd H2 T (.tup [a, b])) : Ext H2 μ H3 μ ∧ SR K H3 μ st := by
  rcases h with rfl | ⟨T, a, b, hT, rfl⟩
  · exact ⟨Ext.refl, s⟩
  · exact ⟨Ext.laid hT, s.laid hT⟩
theorem d_lc {lv : Nat} {sc : Scope} {N : List Str} {top : Bool} (c : Cxt lv X sc N top) {elt t' it' : Expr} {ifs : List Expr} {scope : Scope} {own tg : List Nat} {one : Bool} {fi : VEnv → Sto → Res (List Val × Watch)} {fb : VEnv → Sto → Res Bool} {fe : VEnv → Sto → Res Val}
    (hi : PI X t' it' (TIv X.K fi)) (ok : BlkOk X.N X.env.scope scope (ownL N own)) (how : (ownL N own).map (·.2) = own)
    (hg : ∀ (s : Shared) (H : Hp) (C : Addr) (cl : List (Str × Addr)) (fp : List Addr), PG (X.blk s H scope (compEnvC scope cl C X.env) fp) t' (TGv X.K tg (setTg tg one)))
    (ht : ∀ (s : Shared) (H : Hp) (C : Addr) (cl : List (Str × Addr)) (fp : List Addr), PTs (X.blk s H scope (compEnvC scope cl C X.env) fp) ifs (TTv X.K fb))
    (he : ∀ (s : Shared) (H : Hp) (C : Addr) (cl : List (Str × Addr)) (fp : List Addr), PE (X.blk s H scope (compEnvC scope cl C X.env) fp) elt (TEv X.K fe)) (hs : ∀ x, foldedSetIterable it' X.env x = pure x) (hsub : ∀ i ∈ tg, i ∈ own) (σ : L2.St) (H : Hp) (Q : VK)
    (h : TEv X.K (fun env st => (fi env st).bind fun p st1 => (lcLoop p.2 tg one fb fe p.1 (wipeV env own) st1).bind fun ys st2 => alloc (.lst ys) st2) σ H Q) : tLc (TIv X.K fi) (TGv X.K tg (setTg tg one)) (TTv X.K fb) (TEv X.K fe) ((ownL N own).map (·.2)) σ H Q := by
  rw [how]
  obtain ⟨μ, env, st, v, st', er, sr, h, q⟩ := h
  obtain ⟨⟨items, w⟩, st1, h1, h⟩ := Res.bind_eq h
  obtain ⟨zs, st2, h2, h⟩ := Res.bind_eq h
  obtain ⟨rfl, rfl⟩ := alloc_eq h
  refine ⟨μ, env, st, items, w, st1, er, sr, h1, fun μ1 H1 J e1 s1 wv => ?_⟩
  intro D hD
  obtain ⟨⟨G, Y, wk, hG, hY⟩, hlen⟩ := wv
  have er1 : ER X.K H1 μ1 (L2.wipe σ own) (wipeV env own) := (er.mono e1).wipe own
  refine lc_it wk (fun i H2 => ∃ (μ2 : List Addr) (st2' : Sto) (acc : List V) (ys : List Val), Ext H1 μ1 H2 μ2 ∧ SR X.K H2 μ2 st2' ∧ H2 D = some (.lst acc) ∧ D ∉ μ2 ∧ Reps X.K H2 μ2 acc ys ∧ acc.length ≤ i ∧
    (lcLoop w tg one fb fe (items.drop i) (wipeV env own) st2').bind (fun rest st3 => Res.ok (ys ++ rest) st3) = .ok zs st2) ?_ ?_ ?_ ?_
  · refine ⟨μ1, st1, [], [], Ext.laid hD, s1.laid hD, upd_same, s1.fresh hD, .nil, Nat.le_refl _, ?_⟩
    rw [List.drop_zero, show lcLoop w tg one fb fe items (wipeV env own) st1 = _ from h2]
    rfl
  · rintro i H2 hi ⟨μ2, st2', acc, ys, p1, p2, p3, p4, p5, p6, p7⟩
    obtain ⟨rest, st3, p8, _⟩ := Res.bind_eq p7
    exact hG H2 μ2 st2' p1.kp p2 (lcLoop_wOk p8)
  · rintro i x H2 H3 hlt ⟨μ2, st2', acc, ys, p1, p2, p3, p4, p5, p6, p7⟩ hy
    obtain ⟨rest, st3, p8, p9⟩ := Res.bind_eq p7
    obtain ⟨n1, v, n2, n3⟩ := hY i H2 μ2 st2' x H3 hlt p1.kp p2 (lcLoop_wOk p8) hy
    obtain ⟨e3, s3⟩ := laid_all p2 n1
    have hD3 : H3 D = some (.lst acc) := e3.frame D _ p3 p4
    have hdrop : items.drop i = v :: items.drop (i + 1) := by
      rw [List.drop_eq_getElem_cons hlt]
      rw [List.getElem?_eq_getElem hlt] at n2
      cases n2
      rfl
    rw [hdrop] at p8
    simp only [lcLoop] at p8
    rw [if_pos (by
      split at p8
      · assumption
      · cases p8)] at p8
    split at p8
    · cases p8
    · rename_i env2 hset
      obtain ⟨b, st4, p10, p8⟩ := Res.bind_eq p8
      refine ⟨μ2, v, wipeV env own, env2, n3, (er1.mono p1).mono e3, hset, fun σ' er' chg => ⟨chg.wipe hsub, ?_⟩⟩
      refine ⟨μ2, env2, st2', b, st4, er', s3, p10, fun μ5 H5 e5 s5 => ?_⟩
      have hD5 : H5 D = some (.lst acc) := e5.frame D _ hD3 p4
      have nD5 : D ∉ μ5 := fun z => p4 (e5.mem hD3 z)
      cases b with
      | true =>
        rw [if_pos rfl] at p8
        obtain ⟨y, st5, p11, p8⟩ := Res.bind_eq p8
        obtain ⟨ys', st6, p12, p8⟩ := Res.bind_eq p8
        obtain ⟨rfl, rfl⟩ := ok_eq p8
        refine iteT ⟨μ5, env2, st4, y, st5, er'.mono e5, s5, p11, fun μ6 H6 u e6 s6 r6 => ?_⟩
        have hD6 : H6 D = some (.lst acc) := e6.frame D _ hD5 nD5
        have nD6 : D ∉ μ6 := fun z => nD5 (e6.mem hD5 z)
        refine ⟨acc, hD6, by omega, μ6, st5, acc ++ [u], ys ++ [y], ?_, ?_, upd_same, nD6, ?_, ?_, ?_⟩
        · exact ((((p1.trans e3).trans e5).trans e6).own hD (by rw [hD6]; exact fun z => by cases z))
        · exact s6.kept (Kp.own hD6) fun a ha => upd_ne fun z => nD6 (z ▸ ha)
        · exact ((p5.mono ((e3.trans e5).trans e6)).append (.cons r6 .nil)).kept (Kp.own hD6)
        · rw [List.length_append]
          simp only [List.length_cons, List.length_nil]
          omega
        · rw [p12]
          have : ys ++ [y] ++ ys' = ys ++ (y :: ys') := by simp
          rw [Res.bind_ok, this]
          exact p9
      | false =>
        rw [if_neg Bool.false_ne_true] at p8
        refine iteF ⟨μ5, st4, acc, ys, (p1.trans e3).trans e5, s5, hD5, nD5, p5.mono (e3.trans e5), by omega, ?_⟩
        rw [p8]
        exact p9
  · rintro H2 ⟨μ2, st2', acc, ys, p1, p2, p3, p4, p5, p6, p7⟩
    rw [List.drop_length] at p7
    obtain ⟨rest, st3, p8, p9⟩ := Res.bind_eq p7
    simp only [lcLoop] at p8
    split at p8
    · obtain ⟨rfl, rfl⟩ := ok_eq p8
      obtain ⟨p10, rfl⟩ := ok_eq p9
      rw [List.append_nil] at p10
      subst p10
      refine q (μ2 ++ [D]) H2 _ (e1.trans (p1.more hD)) (p2.add p4 ⟨acc, p3, by omega, p5.kept Kp.more⟩) (.loc ?_)
      rw [← p2.len, List.getElem?_append_right (Nat.le_refl _)]
      simp
    · cases p8
end
end TT
set_option Elab.async false
set_option linter.all false
set_option maxRecDepth 100000
set_option maxHeartbeats 4000000
/-! zip and enumerate over lists and tuples, mixed; reversed. -/
namespace TT
open PySem L2 PySem.Spec PyProof.Rows

/-- a list or a tuple -/
inductive Sk where
  | l
  | t
def Sk.sq (K : PySem.W.Frag) (H : Hp) (a : Addr) (xs : List V) : Sk → Prop
  | .l => SqL K H a xs
  | .t => SqT K H a xs
def Sk.iter (h : Heap) (j a : Addr) (i : Nat) : Sk → Prop
  | .l => h.IsListIter j a i
  | .t => h.IsTupleIter j a i
def Sk.has (h : Heap) (a : Addr) (vs : Array Value) : Sk → Prop
  | .l => h.IsList a vs
  | .t => h.IsTuple a vs
def Sk.obj (a : Addr) : Sk → Obj
  | .l => { cls := .type "list_iterator", data := .fields #[.ref a, .int 0 0] }
  | .t => { cls := .type "tuple_iterator", data := .fields #[.ref a, .int 0 0] }
theorem Sk.draws (k : Sk) {P : Program} {w : World} {A : Around} (hh : A.handled = none) (j a : Addr) (hne : a ≠ j) (vs : Array Value) :
    Draws P w A j [j, a] vs.size (fun i v => vs[i]? = some v) (fun i h => k.iter h j a i ∧ k.has h a vs) := by
  cases k
  · exact Draws.list hh j a hne vs
  · exact Draws.tuple hh j a hne vs
theorem Sk.begins (k : Sk) (a : Addr) (vs : Array Value) : Begins (.ref a) (k.obj a) (fun h => k.has h a vs) := by
  cases k
  · exact begins_list a vs
  · exact begins_tuple a vs
theorem Sk.start (k : Sk) {h : Heap} {j a : Addr} (e : h.get? j = some (k.obj a)) : k.iter h j a 0 := by
  cases k
  · exact ⟨_, e, rfl, rfl⟩
  · exact ⟨_, e, rfl, rfl⟩
theorem Sk.held (k : Sk) {h : Heap} {j a : Addr} {i : Nat} (e : k.iter h j a i) : ∃ o, h.get? j = some o ∧ ∀ v, o.data ≠ .cell v := by
  cases k
  · obtain ⟨o, e1, _, e3⟩ := e
    exact ⟨o, e1, fun v z => by rw [e3] at z; cases z⟩
  · obtain ⟨o, e1, _, e3⟩ := e
    exact ⟨o, e1, fun v z => by rw [e3] at z; cases z⟩
theorem Sk.at (k : Sk) {h h' : Heap} {j a : Addr} {i : Nat} (e : k.iter h j a i) (f : ∀ o, h.get? j = some o → h'.get? j = some o) : k.iter h' j a i := by
  cases k
  · exact Heap.IsListIter.at e f
  · exact Heap.IsTupleIter.at e f
theorem Sk.inv (k : Sk) {X : Cx} {pins : List (Addr × Obj)} {σ : L2.St} {H : Hp} {s : Shared} {a : Addr} {xs : List V} (I : Inv X pins σ H s) (h : k.sq X.K H a xs) :
    ∃ its : List Value, Vals xs its ∧ k.has s.heap a its.toArray ∧ xs.length ≤ sizeLine ∧ a < s.heap.objs.size := by
  cases k
  · obtain ⟨its, rv, p, hz⟩ := I.list h
    exact ⟨its, rv, p.isList, hz, p.lt⟩
  · obtain ⟨its, rv, p, hz⟩ := I.tuple h
    obtain ⟨o, ho, _⟩ := id p
    exact ⟨its, rv, p, hz, Heap.lt_size ho⟩
theorem Sk.inj (k : Sk) {X : Cx} {pins : List (Addr × Obj)} {σ : L2.St} {H : Hp} {s : Shared} {a : Addr} {xs ys : List V} (I : Inv X pins σ H s) (h : k.sq X.K H a xs) (g : k.sq X.K H a ys) : xs = ys := by
  cases k
  · exact I.list_inj h g
  · exact I.tuple_inj h g
theorem in1_handled {A : Around} (h : A.handled = none) : A.in1.handled = none := h
/-- items in new pairs, of what stands at a and at b at each turn -/
def ItP (K : PySem.W.Frag) (k1 k2 : Sk) (a b : Addr) : It :=
  ⟨fun i H => ∃ (xs ys : List V) (x y : V), k1.sq K H a xs ∧ k2.sq K H b ys ∧ xs[i]? = some x ∧ ys[i]? = some y,
    fun i H v H' => ∃ T x y, v = .ref T ∧ H T = none ∧ H' = upd H T (.tup [x, y]) ∧ (∀ xs, k1.sq K H a xs → xs[i]? = some x) ∧ ∀ ys, k2.sq K H b ys → ys[i]? = some y,
    fun i H => ∃ xs ys : List V, k1.sq K H a xs ∧ k2.sq K H b ys ∧ i ≤ xs.length ∧ i ≤ ys.length ∧ (i = xs.length ∨ i = ys.length)⟩
theorem turn_P {P : Program} {w : World} {K : PySem.W.Frag} {elts : List Expr} {kk : Nat} {tpos : Pos} {k1 k2 : Sk} {a b z TI TO i1 i2 : Addr} (D : ZipSep2 z TI TO i1 i2 [i1, a] [i2, b]) (ha : a ≠ i1) (hb : b ≠ i2) :
    Turn P w K (.Tuple elts kk tpos) (ItP K k1 k2 a b) [z, TI, TO, i1, i2] z (fun i h => IsZip h z TI TO .none ∧ IsTupOf2 h TI (.ref i1) (.ref i2) ∧ (∃ x y, IsTupOf2 h TO x y) ∧ k1.iter h i1 a i ∧ k2.iter h i2 b i) where
  mem := List.mem_cons_self
  obj := fun i h st c hc => by
    obtain ⟨p1, p2, ⟨x, y, p3⟩, p4, p5⟩ := st
    simp only [List.mem_cons, List.not_mem_nil, or_false] at hc
    rcases hc with rfl | rfl | rfl | rfl | rfl
    · exact ⟨_, p1, fun v q => nomatch q⟩
    · exact ⟨_, p2, fun v q => nomatch q⟩
    · exact ⟨_, p3, fun v q => nomatch q⟩
    · exact k1.held p4
    · exact k2.held p5
  keep := fun i h h' st f => by
    obtain ⟨p1, p2, ⟨x, y, p3⟩, p4, p5⟩ := st
    exact ⟨f z (by simp) _ p1, f TI (by simp) _ p2, ⟨x, y, f TO (by simp) _ p3⟩, k1.at p4 (f i1 (by simp)), k2.at p5 (f i2 (by simp))⟩
  item := by
    intro X eP ew eK hcalm i pins s σ H E I hfp st hgo
    subst eP ew eK
    obtain ⟨p1, p2, ⟨x0, y0, p3⟩, p4, p5⟩ := st
    obtain ⟨xs, ys, x, y, q1, q2, hx, hy⟩ := hgo
    obtain ⟨its1, rv1, m1, _, _⟩ := k1.inv I q1
    obtain ⟨its2, rv2, m2, _, _⟩ := k2.inv I q2
    obtain ⟨u1, hu1, ru1⟩ := rv1.get hx
    obtain ⟨u2, hu2, ru2⟩ := rv2.get hy
    have lt1 : i < its1.toArray.size := by rw [List.size_toArray]; exact (List.getElem?_eq_some_iff.mp hu1).1
    have lt2 : i < its2.toArray.size := by rw [List.size_toArray]; exact (List.getElem?_eq_some_iff.mp hu2).1
    have hzl : z < s.heap.objs.size := Heap.lt_size p1
    have hnd := in1_handled (I.ok.hd hcalm)
    refine wpAny_pyNext_zipD2_item D (k1.draws hnd i1 a ha its1.toArray) (k2.draws hnd i2 b hb its2.toArray) p1 p2 p3 ⟨p4, m1⟩ ⟨p5, m2⟩ lt1 lt2 fun v1 v2 h1 tk w1 w2 n1 n2 n3 n4 n5 n6 n7 => ?_
    have e1 : v1 = u1 := by
      have w1 : its1.toArray[i]? = some v1 := w1
      simp only [List.getElem?_toArray, hu1, Option.some.injEq] at w1
      exact w1.symm
    have e2 : v2 = u2 := by
      have w2 : its2.toArray[i]? = some v2 := w2
      simp only [List.getElem?_toArray, hu2, Option.some.injEq] at w2
      exact w2.symm
    subst e1 e2
    refine ⟨_, rfl, wpAny_letOwnedTupleGo_zip (s := { s with heap := h1, toks := tk }) n1 fun h2 z2 sb => ?_⟩
    have hT2 : h2.get? s.heap.objs.size = some { cls := .type "tuple", data := .seq #[v1, v2] } := (sb.2 _ (Nat.ne_of_gt hzl)).trans n5
    have new : ObjOk X.prog X.w (upd H s.heap.objs.size (.tup [x, y])) h2 s.heap.objs.size (.tup [x, y]) :=
      ⟨by show 2 ≤ sizeLine; decide, [v1, v2], .cons ru1 (.cons ru2 .nil), ⟨_, hT2, rfl, _, rfl⟩⟩
    have I1 : Inv X pins σ (upd H s.heap.objs.size (.tup [x, y])) { s with heap := h2, toks := tk } :=
      I.turnedNew (t' := tk) (ch := [z, TI, TO, i1, i2]) (fun c o hc q => (sb.2 c (fun q' => hc (by simp [q']))).trans (n7 c o (fun q' => hc (by simp [q'])) (fun q' => hc (by simp [q'])) (fun q' => hc (by simp [q'])) (fun q' => hc (by simp [q'])) q)) hfp (Nat.le_refl _) new
    refine ⟨.ref s.heap.objs.size, _, I1, rfl, ⟨_, x, y, rfl, I.hok.fresh (Nat.le_refl _), rfl, fun l hl => by rw [k1.inj I hl q1]; exact hx, fun l hl => by rw [k2.inj I hl q2]; exact hy⟩, ⟨z2, ?_, ⟨v1, v2, ?_⟩, ?_, ?_⟩, fun c hcm => ?_⟩
    · exact (sb.2 _ D.TIz).trans (n7 _ _ D.TIz D.TITO D.TIi1 D.TIi2 p2)
    · exact (sb.2 _ D.TOz).trans n2
    · exact k1.at n3.1 fun o q => (sb.2 _ D.zi1.symm).trans q
    · exact k2.at n4.1 fun o q => (sb.2 _ D.zi2.symm).trans q
    · have hlt : c < s.heap.objs.size := by
        simp only [List.mem_cons, List.not_mem_nil, or_false] at hcm
        rcases hcm with rfl | rfl | rfl | rfl | rfl
        · exact hzl
        · exact Heap.lt_size p2
        · exact Heap.lt_size p3
        · obtain ⟨_, e1, _⟩ := k1.held p4; exact Heap.lt_size e1
        · obtain ⟨_, e1, _⟩ := k2.held p5; exact Heap.lt_size e1
      rw [upd_ne (Nat.ne_of_lt hlt)]
      exact (hfp c hcm).1
  done := by
    intro X eP ew eK hcalm i pins s σ H E I hfp st hgo
    subst eP ew eK
    obtain ⟨p1, p2, ⟨x0, y0, p3⟩, p4, p5⟩ := st
    obtain ⟨xs, ys, q1, q2, l1, l2, hend⟩ := hgo
    obtain ⟨its1, rv1, m1, _, _⟩ := k1.inv I q1
    obtain ⟨its2, rv2, m2, _, _⟩ := k2.inv I q2
    have r1 := rv1.length
    have r2 := rv2.length
    have hnd := in1_handled (I.ok.hd hcalm)
    have s1 : its1.toArray.size = xs.length := by rw [List.size_toArray]; exact r1.symm
    have s2 : its2.toArray.size = ys.length := by rw [List.size_toArray]; exact r2.symm
    refine wpAny_pyNext_zipD2_end D (k1.draws hnd i1 a ha its1.toArray) (k2.draws hnd i2 b hb its2.toArray) p1 p2 p3 ⟨p4, m1⟩ ⟨p5, m2⟩ (by omega) (by omega) (by omega) fun h1 tk n7 => ⟨rfl, ?_⟩
    exact I.turnedL (t' := tk) (ch := [z, TI, TO, i1, i2]) (fun c o hc q => n7 c o (fun q' => hc (by simp [q'])) (fun q' => hc (by simp [q'])) (fun q' => hc (by simp [q'])) (fun q' => hc (by simp [q'])) q) hfp
  self := fun A i s Q E st h => wpAny_pyIter_zip st.1 h
def iP (K : PySem.W.Frag) (ta : TA) : TI := fun σ H R => ta σ H fun vs H1 => ∃ (k1 k2 : Sk) (a b : Addr) (xs ys : List V), vs = [.ref a, .ref b] ∧ k1.sq K H1 a xs ∧ k2.sq K H1 b ys ∧ R (ItP K k1 k2 a b) H1
theorem pi_P {X : Cx} {e e2 : Expr} {ta : TA} {p pos tpos : Pos} {elts : List Expr} {kk : Nat} (hg : Gl X "zip") (hm : X.mg "zip" = none) (ha : PA X [e, e2] ta)
    (hs : starEach [e, e2] X.env = (false, eval e X.env) :: starEach [e2] X.env) (hpl : (backTo pos (starEach [e2] X.env)).any (·.1) = false) :
    PI X (.Tuple elts kk tpos) (.Call (.Name "zip" p) [e, e2] [] pos) (iP X.K ta) := by
  constructor
  intro pins s σ H R I h
  refine Call_ (ld_blt I hg hm boot_zip (callWith_type1 (thn (ha.run pos pins s σ H _ I h) fun us s1 hv => ?_) hs hpl))
  obtain ⟨vs, H1, I1, r1, k1, k2, a, b, xs, ys, ex, q1, q2, hR⟩ := hv
  subst ex
  cases r1 with
  | cons ra rr =>
    cases rr with
    | cons rb rr =>
      cases rr
      cases ra
      cases rb
      obtain ⟨its1, rv1, m1, _, l1⟩ := k1.inv I1 q1
      obtain ⟨its2, rv2, m2, _, l2⟩ := k2.inv I1 q2
      refine zip_begins2 (k1.begins a its1.toArray) (k2.begins b its2.toArray) m1 m2 fun h' z1 z2 z3 z4 z5 z6 z7 => wpAny_pyIter_zip z1 ?_
      have I2 : Inv X pins σ H1 { s1 with heap := h' } := I1.kept (t' := s1.toks) z7
      refine ⟨s1.heap.objs.size + 4, _, _, _, H1, rfl, I2, turn_P (k1 := k1) (k2 := k2) (a := a) (b := b) (zip_sep2 (N := s1.heap.objs.size) (fp1 := [a]) (fp2 := [b]) (by simpa using l1) (by simpa using l2)) (Nat.ne_of_lt l1) (Nat.ne_of_lt (Nat.lt_succ_of_lt l2)), ⟨z1, z2, ⟨_, _, z3⟩, k1.start z4, k2.start z5⟩, fun c hc => ?_, hR⟩
      have hle : s1.heap.objs.size ≤ c := by
        simp only [List.mem_cons, List.not_mem_nil, or_false] at hc
        rcases hc with rfl | rfl | rfl | rfl | rfl
        · exact Nat.le_add_right _ _
        · exact Nat.le_add_right _ _
        · exact Nat.le_add_right _ _
        · exact Nat.le_refl _
        · exact Nat.le_add_right _ _
      exact I1.fpOk hle (I1.hok.fresh hle)
/-! ### enumerate -/
def ItE (K : PySem.W.Frag) (k : Sk) (a : Addr) : It :=
  ⟨fun i H => ∃ (xs : List V) (x : V), k.sq K H a xs ∧ xs[i]? = some x, fun i H v H' => ∃ T x, v = .ref T ∧ H T = none ∧ H' = upd H T (.tup [.int (i : Nat), x]) ∧ ∀ xs, k.sq K H a xs → xs[i]? = some x, fun i H => ∃ xs : List V, k.sq K H a xs ∧ xs.length = i⟩
theorem turn_E {P : Program} {w : World} {K : PySem.W.Frag} {elts : List Expr} {kk : Nat} {tpos : Pos} {k : Sk} {a e j : Addr} (hej : e ≠ j) (hea : e ≠ a) (haj : a ≠ j) :
    Turn P w K (.Tuple elts kk tpos) (ItE K k a) [e, j] e (fun i h => (∃ old, IsEnum h e j ((i : Nat) : Int) old) ∧ k.iter h j a i) where
  mem := List.mem_cons_self
  obj := fun i h st c hc => by
    obtain ⟨⟨old, p1⟩, p2⟩ := st
    simp only [List.mem_cons, List.not_mem_nil, or_false] at hc
    rcases hc with rfl | rfl
    · exact ⟨_, p1, fun v q => nomatch q⟩
    · exact k.held p2
  keep := fun i h h' st f => by
    obtain ⟨⟨old, p1⟩, p2⟩ := st
    exact ⟨⟨old, f e (by simp) _ p1⟩, k.at p2 (f j (by simp))⟩
  item := by
    intro X eP ew eK hcalm i pins s σ H E I hfp st hgo
    subst eP ew eK
    obtain ⟨⟨old, p1⟩, p2⟩ := st
    obtain ⟨xs, x, q1, hx⟩ := hgo
    obtain ⟨its, rv, m1, _, _⟩ := k.inv I q1
    obtain ⟨u, hu, ru⟩ := rv.get hx
    have lt1 : i < its.toArray.size := by rw [List.size_toArray]; exact (List.getElem?_eq_some_iff.mp hu).1
    have hel : e < s.heap.objs.size := Heap.lt_size p1
    have hnd := in1_handled (I.ok.hd hcalm)
    refine wpAny_pyNext_enum_itemD (k.draws hnd j a haj its.toArray) p1 ⟨p2, m1⟩ lt1 hej (by simp [hej, hea]) fun v h1 tk w1 n1 n2 n3 n4 n5 => ?_
    have e1 : v = u := by
      have w1 : its.toArray[i]? = some v := w1
      simp only [List.getElem?_toArray, hu, Option.some.injEq] at w1
      exact w1.symm
    subst e1
    refine ⟨_, rfl, wpAny_letOwnedTupleGo_enum (s := { s with heap := h1, toks := tk + 1 }) n1 fun h2 z2 sb => ?_⟩
    have hT2 : h2.get? s.heap.objs.size = some { cls := .type "tuple", data := .seq #[.int i tk, v] } := (sb.2 _ (Nat.ne_of_gt hel)).trans n3
    have new : ObjOk X.prog X.w (upd H s.heap.objs.size (.tup [.int (i : Nat), x])) h2 s.heap.objs.size (.tup [.int (i : Nat), x]) :=
      ⟨by show 2 ≤ sizeLine; decide, [.int i tk, v], .cons ⟨_, rfl⟩ (.cons ru .nil), ⟨_, hT2, rfl, _, rfl⟩⟩
    have I1 : Inv X pins σ (upd H s.heap.objs.size (.tup [.int (i : Nat), x])) { s with heap := h2, toks := tk + 1 } :=
      I.turnedNew (t' := tk + 1) (ch := [e, j]) (fun c o hc q => (sb.2 c (fun q' => hc (by simp [q']))).trans (n5 c o (fun q' => hc (by simp [q'])) (fun q' => hc (by simp [q'])) q)) hfp (Nat.le_refl _) new
    refine ⟨.ref s.heap.objs.size, _, I1, rfl, ⟨_, x, rfl, I.hok.fresh (Nat.le_refl _), rfl, fun l hl => by rw [k.inj I hl q1]; exact hx⟩, ⟨⟨v, ?_⟩, ?_⟩, fun c hcm => ?_⟩
    · have e2 : ((i + 1 : Nat) : Int) = (i : Int) + 1 := by omega
      rw [e2]
      exact z2
    · exact k.at n2.1 fun o q => (sb.2 _ hej.symm).trans q
    · have hlt : c < s.heap.objs.size := by
        simp only [List.mem_cons, List.not_mem_nil, or_false] at hcm
        rcases hcm with rfl | rfl
        · exact hel
        · obtain ⟨_, e1, _⟩ := k.held p2; exact Heap.lt_size e1
      rw [upd_ne (Nat.ne_of_lt hlt)]
      exact (hfp c hcm).1
  done := by
    intro X eP ew eK hcalm i pins s σ H E I hfp st hgo
    subst eP ew eK
    obtain ⟨⟨old, p1⟩, p2⟩ := st
    obtain ⟨xs, q1, hl⟩ := hgo
    obtain ⟨its, rv, m1, _, _⟩ := k.inv I q1
    have r1 := rv.length
    have hnd := in1_handled (I.ok.hd hcalm)
    have s1 : its.toArray.size = i := by rw [List.size_toArray]; omega
    obtain ⟨f0, f1, f2, f3, f4, f5⟩ := hfp j (by simp)
    refine wpAny_pyNext_enum_endD (k.draws hnd j a haj its.toArray) p1 (by rw [s1]; exact ⟨p2, m1⟩) fun h1 eb => ⟨rfl, I.turned (t' := s.toks) (fun b o hb q => eb b o hb q) f0 f1 f3 f4 f5⟩
  self := fun A i s Q E st h => by
    obtain ⟨⟨_, p1⟩, _⟩ := st
    exact wpAny_pyIter_enum p1 h
theorem enum_new1 {v : Value} {o : Obj} {HH : Heap → Prop} (B : Begins v o HH) :
    Meets (Builtin.«enumerate.__new__» ⟨[.type "enumerate", v], []⟩) (fun _ R s => HH s.heap ∧
      R (.ok (.ret (.ref (s.heap.push o).objs.size))) { s with heap := (s.heap.push o).push { cls := .type "enumerate", data := .fields #[.none, .bool false, .ref s.heap.objs.size, rawInt 0, .none, .none] } }) :=
  .of_wp fun prog w A R s h => by
    obtain ⟨hp, gn, dd, tk, os⟩ := s
    obtain ⟨hh, h⟩ := h
    have subE := sub_enumerate
    have it : ∀ {A' : Around} {E : Value → Shared → Prop} {Q : Value → Shared → Prop}, Q (.ref hp.objs.size) ⟨hp.push o, gn, dd, tk, os⟩ → wpAny (model prog w) A' (pyIter v) Q E ⟨hp, gn, dd, tk, os⟩ :=
      fun q => B.iter prog w _ _ ⟨hp, gn, dd, tk, os⟩ _ hh q
    wp_walk using it
    refine wpAny_stack_any fun st => wpAny_pure ?_
    split
    · rename_i c _ _ _ _ _
      cases (c == Value.type "enumerate") <;> (wp_walk using it; exact ⟨_, rfl, h⟩)
    · wp_walk using it
      exact ⟨_, rfl, h⟩
theorem call_enum1 {prog : Program} {w : World} {A : Around} {E : Value → Shared → Prop} {s : Shared} {v : Value} {o : Obj} {HH : Heap → Prop} {Q : Value → Shared → Prop} (B : Begins v o HH) (hh : HH s.heap)
    (h : ∀ h', IsEnum h' (s.heap.objs.size + 1) s.heap.objs.size 0 .none → h'.get? s.heap.objs.size = some o → (∀ b o, s.heap.get? b = some o → h'.get? b = some o) → Q (.ref (s.heap.objs.size + 1)) { s with heap := h' }) :
    wpAny (model prog w) A (call (.type "enumerate") [v]) Q E s := by
  refine callType_new F.called_enumerate (by decide) (F.typeCall_enumerate_1 _) (F.newCall_enumerate_1 _) (fun obj => F.args_object_init_2 obj _) F.entry_enumerate_new (enum_new1 B) ⟨hh, ?_⟩
  have hz : (s.heap.push o).objs.size = s.heap.objs.size + 1 := Heap.size_push ..
  show _ ∧ _
  rw [hz]
  have en : ((s.heap.push o).push { cls := .type "enumerate", data := .fields #[.none, .bool false, .ref s.heap.objs.size, rawInt 0, .none, .none] }).get? (s.heap.objs.size + 1) = some { cls := .type "enumerate", data := .fields #[.none, .bool false, .ref s.heap.objs.size, rawInt 0, .none, .none] } := by
    rw [← hz]
    exact Heap.get?_push_size _ rfl
  exact ⟨⟨_, en, rfl⟩, h _ en (Heap.get?_push_of_some _ (Heap.get?_push_size _ B.free)) fun b ob x => Heap.get?_push_of_some _ (Heap.get?_push_of_some _ x)⟩
def iE (K : PySem.W.Frag) (ta : TA) : TI := fun σ H R => ta σ H fun vs H1 => ∃ (k : Sk) (a : Addr) (xs : List V), vs = [.ref a] ∧ k.sq K H1 a xs ∧ R (ItE K k a) H1
theorem pi_E {X : Cx} {e : Expr} {ta : TA} {p pos tpos : Pos} {elts : List Expr} {kk : Nat} (hg : Gl X "enumerate") (hm : X.mg "enumerate" = none) (ha : PA X [e] ta) (hs : starEach [e] X.env = [(false, eval e X.env)]) :
    PI X (.Tuple elts kk tpos) (.Call (.Name "enumerate" p) [e] [] pos) (iE X.K ta) := by
  constructor
  intro pins s σ H R I h
  refine Call_ (ld_blt I hg hm boot_enumerate (callWith_type1 (thn (ha.run pos pins s σ H _ I h) fun us s1 hv => ?_) hs rfl))
  obtain ⟨vs, H1, I1, r1, k, a, xs, ex, q1, hR⟩ := hv
  subst ex
  cases r1 with
  | cons ra rr =>
    cases rr
    cases ra
    obtain ⟨its, rv, m1, _, l1⟩ := k.inv I1 q1
    refine call_enum1 (k.begins a its.toArray) m1 fun h' z1 z2 z3 => wpAny_pyIter_enum z1 ?_
    have I2 : Inv X pins σ H1 { s1 with heap := h' } := I1.kept (t' := s1.toks) z3
    have d1 : s1.heap.objs.size + 1 ≠ a := Nat.ne_of_gt (Nat.lt_succ_of_lt l1)
    refine ⟨s1.heap.objs.size + 1, _, _, _, H1, rfl, I2, turn_E (k := k) (a := a) (e := s1.heap.objs.size + 1) (j := s1.heap.objs.size) (Nat.succ_ne_self _) d1 (Nat.ne_of_lt l1), ⟨⟨.none, z1⟩, k.start z2⟩, fun c hc => ?_, hR⟩
    have hle : s1.heap.objs.size ≤ c := by
      simp only [List.mem_cons, List.not_mem_nil, or_false] at hc
      rcases hc with rfl | rfl
      · exact Nat.le_add_right _ _
      · exact Nat.le_refl _
    exact I1.fpOk hle (I1.hok.fresh hle)
end TT
set_option Elab.async false
set_option linter.all false
set_option maxRecDepth 100000
set_option maxHeartbeats 4000000
/-! What is walked: zip, enumerate, reversed. -/
namespace TT
open PySem L2 PySem.Spec PyProof.Rows
section
variable {K : PySem.W.Frag} {H : Hp} {μ : List Addr} {st : Sto}
/-- a list's or a tuple's own items, as long as what is watched stands -/
structure SrcV (K : PySem.W.Frag) (H : Hp) (μ : List Addr) (k : Sk) (a : Addr) (items : List Val) (w : Watch) : Prop where
  now : ∃ xs, k.sq K H a xs ∧ xs.length = items.length
  at_ : ∀ H2 μ2 st2, Kp H μ H2 μ2 → SR K H2 μ2 st2 → wOk w st2 = true → ∃ xs, k.sq K H2 a xs ∧ Reps K H2 μ2 xs items
  len : items.length ≤ sizeLine
theorem srcV_of {x : V} {v : Val} {items : List Val} {w : Watch} (s : SR K H μ st) (r : Rep K H μ x v) (h : itemsOf st v = some (items, w)) : ∃ k a, x = .ref a ∧ SrcV K H μ k a items w := by
  cases r with
  | tup h1 z r =>
    cases h
    rename_i a xs
    exact ⟨.t, a, rfl, ⟨⟨xs, SqT.of h1, r.length⟩, fun H2 μ2 st2 e s2 _ => ⟨xs, SqT.of (e.tups _ _ h1), r.kept e⟩, by rw [← r.length]; exact z⟩⟩
  | flst h1 z =>
    cases h
    rename_i a is
    refine ⟨.l, a, rfl, ⟨⟨_, sq_flst h1, by simp⟩, fun H2 μ2 st2 e s2 _ => ⟨is.map V.int, ?_, Reps.ints is⟩, by rw [List.length_map]; exact z⟩⟩
    exact sq_flst (h1.elim (fun ⟨o, q⟩ => .inl ⟨o, e.frzs _ _ _ q⟩) .inr)
  | loc h1 =>
    rename_i n a
    simp only [itemsOf] at h
    split at h
    · rename_i xs hx
      cases h
      obtain ⟨ys, q1, q2, q3⟩ := s.lst h1 hx
      refine ⟨.l, a, rfl, ⟨⟨ys, SqL.of q1, q3.length⟩, fun H2 μ2 st2 e s2 hw => ?_, by rw [← q3.length]; exact q2⟩⟩
      obtain ⟨zs, p1, p2, p3⟩ := s2.lst (e.get _ _ h1) (wOk_one hw)
      exact ⟨zs, SqL.of p1, p3⟩
    · cases h
  | _ => cases h
theorem wOk_app {w w2 : Watch} : wOk (w ++ w2) st = true ↔ wOk w st = true ∧ wOk w2 st = true := by
  unfold wOk
  rw [List.all_append, Bool.and_eq_true]
theorem pairL_len (xs ys : List Val) : (pairL xs ys).length = min xs.length ys.length := by simp [pairL]
theorem pairL_get {xs ys : List Val} {i : Nat} {u v : Val} (h1 : xs[i]? = some u) (h2 : ys[i]? = some v) : (pairL xs ys)[i]? = some (.tup [u, v]) := by
  simp [pairL, List.getElem?_zipWith, h1, h2]
theorem rep_pair {H2 : Hp} {μ2 : List Addr} {T : Addr} {x y : V} {u v : Val} (hT : H2 T = none) (r1 : Rep K H2 μ2 x u) (r2 : Rep K H2 μ2 y v) : Rep K (upd H2 T (.tup [x, y])) μ2 (.ref T) (.tup [u, v]) :=
  .tup upd_same (by show 2 ≤ sizeLine; decide) (.cons (r1.mono (Ext.laid hT)) (.cons (r2.mono (Ext.laid hT)) .nil))
theorem walkV_P {k1 k2 : Sk} {a b : Addr} {xs ys : List Val} {w w2 : Watch} (s1 : SrcV K H μ k1 a xs w) (s2 : SrcV K H μ k2 b ys w2) : WalkV K H μ (pairL xs ys) (w ++ w2) (ItP K k1 k2 a b) := by
  refine ⟨⟨fun H => ∃ us vs, k1.sq K H a us ∧ k2.sq K H b vs ∧ us.length = xs.length ∧ vs.length = ys.length, (ItP K k1 k2 a b).yld, ⟨?_, ?_, fun _ _ _ _ _ _ y => y⟩, ?_, ?_⟩, ?_⟩
  · rintro i H hi ⟨us, vs, q1, q2, l1, l2⟩
    rw [pairL_len] at hi
    exact ⟨us, vs, us[i]'(by omega), vs[i]'(by omega), q1, q2, List.getElem?_eq_getElem _, List.getElem?_eq_getElem _⟩
  · rintro H ⟨us, vs, q1, q2, l1, l2⟩
    rw [pairL_len]
    exact ⟨us, vs, q1, q2, by omega, by omega, by omega⟩
  · intro H2 μ2 st2 e sr hw
    rw [wOk_app] at hw
    obtain ⟨us, q1, r1⟩ := s1.at_ H2 μ2 st2 e sr hw.1
    obtain ⟨vs, q2, r2⟩ := s2.at_ H2 μ2 st2 e sr hw.2
    exact ⟨us, vs, q1, q2, r1.length, r2.length⟩
  · rintro i H2 μ2 st2 z H3 hi e sr hw ⟨T, x, y, rfl, hT, rfl, y1, y2⟩
    rw [wOk_app] at hw
    obtain ⟨us, q1, r1⟩ := s1.at_ H2 μ2 st2 e sr hw.1
    obtain ⟨vs, q2, r2⟩ := s2.at_ H2 μ2 st2 e sr hw.2
    obtain ⟨u, g1, t1⟩ := r1.getV (y1 us q1)
    obtain ⟨v, g2, t2⟩ := r2.getV (y2 vs q2)
    exact ⟨.inr ⟨T, x, y, hT, rfl⟩, _, pairL_get g1 g2, rep_pair hT t1 t2⟩
  · rw [pairL_len]
    have := s1.len
    omega
theorem walkV_E {k : Sk} {a : Addr} {xs : List Val} {w : Watch} (s1 : SrcV K H μ k a xs w) : WalkV K H μ (pairL (rangeL 0 xs.length) xs) w (ItE K k a) := by
  have pl : (pairL (rangeL 0 xs.length) xs).length = xs.length := by rw [pairL_len, rangeL_len]; omega
  refine ⟨⟨fun H => ∃ us, k.sq K H a us ∧ us.length = xs.length, (ItE K k a).yld, ⟨?_, ?_, fun _ _ _ _ _ _ y => y⟩, ?_, ?_⟩, ?_⟩
  · rintro i H hi ⟨us, q1, l1⟩
    rw [pl] at hi
    exact ⟨us, us[i]'(by omega), q1, List.getElem?_eq_getElem _⟩
  · rintro H ⟨us, q1, l1⟩
    rw [pl]
    exact ⟨us, q1, l1⟩
  · intro H2 μ2 st2 e sr hw
    obtain ⟨us, q1, r1⟩ := s1.at_ H2 μ2 st2 e sr hw
    exact ⟨us, q1, r1.length⟩
  · rintro i H2 μ2 st2 z H3 hi e sr hw ⟨T, x, rfl, hT, rfl, y1⟩
    rw [pl] at hi
    obtain ⟨us, q1, r1⟩ := s1.at_ H2 μ2 st2 e sr hw
    obtain ⟨u, g1, t1⟩ := r1.getV (y1 us q1)
    refine ⟨.inr ⟨T, _, x, hT, rfl⟩, _, pairL_get (rangeL_get hi) g1, rep_pair hT ?_ t1⟩
    rw [Int.zero_add]
    exact .int _
  · rw [pl]
    exact s1.len
theorem walkV_R {k : Sk} {a : Addr} {xs : List Val} {w : Watch} (s1 : SrcV K H μ k a xs w) : WalkV K H μ xs.reverse w (match k with
  | .l => Itv K a xs.length
  | .t => RT.ItvT K a xs.length) := by
  have get : ∀ {i : Nat} {u : Val}, i < xs.length → xs[xs.length - 1 - i]? = some u → xs.reverse[i]? = some u := fun {i u} hi h => by
    rw [List.getElem?_reverse hi]
    exact h
  cases k
  · refine ⟨⟨fun H => ∃ us, SqL K H a us ∧ us.length = xs.length, (Itv K a xs.length).yld, ⟨?_, ?_, fun _ _ _ _ _ _ y => y⟩, ?_, ?_⟩, ?_⟩
    · rintro i H hi ⟨us, q1, l1⟩
      rw [List.length_reverse] at hi
      exact ⟨hi, us, us[xs.length - 1 - i]'(by omega), q1, List.getElem?_eq_getElem _⟩
    · rintro H ⟨us, q1, l1⟩
      rw [List.length_reverse]
      exact Nat.le_refl _
    · intro H2 μ2 st2 e sr hw
      obtain ⟨us, q1, r1⟩ := s1.at_ H2 μ2 st2 e sr hw
      exact ⟨us, q1, r1.length⟩
    · rintro i H2 μ2 st2 z H3 hi e sr hw ⟨rfl, y1⟩
      rw [List.length_reverse] at hi
      obtain ⟨us, q1, r1⟩ := s1.at_ _ μ2 st2 e sr hw
      obtain ⟨u, g1, t1⟩ := r1.getV (y1 us q1)
      exact ⟨.inl rfl, u, get hi g1, t1⟩
    · rw [List.length_reverse]
      exact s1.len
  · refine ⟨⟨fun H => ∃ us, SqT K H a us ∧ us.length = xs.length, (RT.ItvT K a xs.length).yld, ⟨?_, ?_, fun _ _ _ _ _ _ y => y⟩, ?_, ?_⟩, ?_⟩
    · rintro i H hi ⟨us, q1, l1⟩
      rw [List.length_reverse] at hi
      exact ⟨hi, us, us[xs.length - 1 - i]'(by omega), q1, List.getElem?_eq_getElem _⟩
    · rintro H ⟨us, q1, l1⟩
      rw [List.length_reverse]
      exact Nat.le_refl _
    · intro H2 μ2 st2 e sr hw
      obtain ⟨us, q1, r1⟩ := s1.at_ H2 μ2 st2 e sr hw
      exact ⟨us, q1, r1.length⟩
    · rintro i H2 μ2 st2 z H3 hi e sr hw ⟨rfl, y1⟩
      rw [List.length_reverse] at hi
      obtain ⟨us, q1, r1⟩ := s1.at_ _ μ2 st2 e sr hw
      obtain ⟨u, g1, t1⟩ := r1.getV (y1 us q1)
      exact ⟨.inl rfl, u, get hi g1, t1⟩
    · rw [List.length_reverse]
      exact s1.len
end
section
variable {X : Cx} {pos : Pos}
theorem i_zip {e e2 : Expr} {p tpos : Pos} {elts : List Expr} {kk : Nat} {x : Str} {g : VEnv → Sto → Res (List Val)} (hx : x = Str.ofString "zip") (hg : Gl X x) (hm : X.mg x = none) (ha : DA X [e, e2] g)
    (hs : starEach [e, e2] X.env = (false, eval e X.env) :: starEach [e2] X.env) (hpl : (backTo pos (starEach [e2] X.env)).any (·.1) = false) (h1 : ∀ env st vs st', g env st = .ok vs st' → vs.length = 2) :
    PI X (.Tuple elts kk tpos) (.Call (.Name x p) [e, e2] [] pos) (TIv X.K fun env st => (g env st).bind fun vs st1 => iterV .zip vs st1) := by
  subst hx
  refine (pi_P hg hm ha hs hpl).ti fun σ H R ⟨μ, env, st, items, w, st', er, s, h, q⟩ => ?_
  obtain ⟨vs, st1, h2, h⟩ := Res.bind_eq h
  refine ⟨μ, env, st, vs, st1, er, s, h2, fun μ1 H1 xs e1 s1 r1 => ?_⟩
  have hl := h1 _ _ _ _ h2
  match vs, hl with
  | [v, v'], _ =>
    obtain ⟨y, y', rfl, r2, r3⟩ := reps2 r1
    simp only [iterV] at h
    split at h
    · rename_i xs w1 ys w2 i1 i2
      obtain ⟨hp, rfl⟩ := ok_eq h
      cases hp
      obtain ⟨k1, a, rfl, c1⟩ := srcV_of s1 r2 i1
      obtain ⟨k2, b, rfl, c2⟩ := srcV_of s1 r3 i2
      obtain ⟨us, n1, hl1⟩ := c1.now
      obtain ⟨ws, n2, hl2⟩ := c2.now
      exact ⟨k1, k2, a, b, us, ws, rfl, n1, n2, q _ _ _ e1 s1 (walkV_P c1 c2)⟩
    · cases h
theorem i_enum {e : Expr} {p tpos : Pos} {elts : List Expr} {kk : Nat} {x : Str} {g : VEnv → Sto → Res (List Val)} (hx : x = Str.ofString "enumerate") (hg : Gl X x) (hm : X.mg x = none) (ha : DA X [e] g)
    (hs : starEach [e] X.env = [(false, eval e X.env)]) (h1 : ∀ env st vs st', g env st = .ok vs st' → vs.length = 1) :
    PI X (.Tuple elts kk tpos) (.Call (.Name x p) [e] [] pos) (TIv X.K fun env st => (g env st).bind fun vs st1 => iterV .enum vs st1) := by
  subst hx
  refine (pi_E hg hm ha hs).ti fun σ H R ⟨μ, env, st, items, w, st', er, s, h, q⟩ => ?_
  obtain ⟨vs, st1, h2, h⟩ := Res.bind_eq h
  refine ⟨μ, env, st, vs, st1, er, s, h2, fun μ1 H1 xs e1 s1 r1 => ?_⟩
  have hl := h1 _ _ _ _ h2
  match vs, hl with
  | [v], _ =>
    obtain ⟨y, rfl, r2⟩ := reps1 r1
    simp only [iterV] at h
    split at h
    · rename_i xs w1 i1
      obtain ⟨hp, rfl⟩ := ok_eq h
      cases hp
      obtain ⟨k1, a, rfl, c1⟩ := srcV_of s1 r2 i1
      obtain ⟨us, n1, hl1⟩ := c1.now
      exact ⟨k1, a, us, rfl, n1, q _ _ _ e1 s1 (walkV_E c1)⟩
    · cases h
theorem i_rev {tg e : Expr} {p : Pos} {x : Str} {C : CallF} {it : E} (hx : x = Str.ofString "reversed") (hg : Gl X x) (hm : X.mg x = none) (ha : DE X e (evE C it)) (hs : starEach [e] X.env = (false, eval e X.env) :: starEach [] X.env) :
    PI X tg (.Call (.Name x p) [e] [] pos) (TIv X.K fun env st => (evL C (.cons it .nil) env st).bind fun vs st1 => iterV .rev vs st1) := by
  subst hx
  refine (RT.pi_revA hg hm ha hs).ti fun σ H R ⟨μ, env, st, items, w, st', er, s, h, q⟩ => ?_
  obtain ⟨vs, st1, h2, h⟩ := Res.bind_eq h
  simp only [evL] at h2
  obtain ⟨v, st2, h3, h2⟩ := Res.bind_eq h2
  simp only [Res.bind_ok] at h2
  obtain ⟨rfl, rfl⟩ := ok_eq h2
  refine ⟨μ, env, st, v, st2, er, s, h3, fun μ1 H1 y e1 s1 r1 => ?_⟩
  simp only [iterV] at h
  split at h
  · rename_i xs w1 i1
    obtain ⟨hp, rfl⟩ := ok_eq h
    cases hp
    obtain ⟨k1, a, rfl, c1⟩ := srcV_of s1 r1 i1
    obtain ⟨us, n1, hl1⟩ := c1.now
    have wk := q _ _ _ e1 s1 (walkV_R c1)
    refine ⟨a, us, rfl, ?_⟩
    rw [hl1]
    cases k1
    · exact .inl ⟨n1, wk⟩
    · exact .inr ⟨n1, wk⟩
  · cases h
end
end TT
set_option Elab.async false
set_option linter.all false
set_option maxRecDepth 100000
set_option maxHeartbeats 4000000
/-! Comprehensions of two clauses. -/
namespace TT
open PySem L2 PySem.Spec PyProof.Rows
theorem ER.kept {K : PySem.W.Frag} {H H' : Hp} {μ μ' : List Addr} {σ : L2.St} {env : VEnv} (r : ER K H μ σ env) (e : Kp H μ H' μ') : ER K H' μ' σ env :=
  ⟨r.len, fun i v h => let ⟨x, h1, h2⟩ := r.at_ i v h; ⟨x, h1, h2.kept e⟩⟩
theorem kpT {H H' H'' : Hp} {μ μ' μ'' : List Addr} (a : Kp H μ H' μ') (b : Kp H' μ' H'' μ'') : Kp H μ H'' μ'' := ⟨fun n x h => b.get n x (a.get n x h), fun x xs h => b.tups x xs (a.tups x xs h), fun x o u h => b.frzs x o u (a.frzs x o u h)⟩
theorem lcLoopL_wOk {w : Watch} {tg : List Nat} {one : Bool} {fb : VEnv → Sto → Res Bool} {fe : VEnv → Sto → Res (List Val)} {vs : List Val} {env : VEnv} {st : Sto} {zs : List Val} {st' : Sto} (h : lcLoopL w tg one fb fe vs env st = .ok zs st') : wOk w st = true := by
  cases vs with
  | nil =>
    simp only [lcLoopL] at h
    split at h
    · assumption
    · cases h
  | cons v vs =>
    simp only [lcLoopL] at h
    split at h
    · assumption
    · cases h
section
variable {X : Cx} {pos : Pos}
theorem d_lc2 {own own1 tg tg1 : List Nat} {one one1 : Bool} {fi fi1 : VEnv → Sto → Res (List Val × Watch)} {fb fb1 : VEnv → Sto → Res Bool} {fe : VEnv → Sto → Res Val} (hsub : ∀ i ∈ tg, i ∈ own) (hsub1 : ∀ i ∈ tg1, i ∈ own1) (σ : L2.St) (H : Hp) (Q : VK)
    (h : TEv X.K (fun env st => (fi env st).bind fun p st1 => (lcLoopL p.2 tg one fb (fun env' st2 => (fi1 env' st2).bind fun p1 st3 => lcLoop p1.2 tg1 one1 fb1 fe p1.1 (wipeV env' own1) st3) p.1 (wipeV env own) st1).bind fun ys st2 => allocS ys st2) σ H Q) :
    tLc2 (TIv X.K fi) (TGv X.K tg (setTg tg one)) (TTv X.K fb) (TIv X.K fi1) (TGv X.K tg1 (setTg tg1 one1)) (TTv X.K fb1) (TEv X.K fe) own own1 σ H Q := by
  obtain ⟨μ, env, st, v, st', er, sr, h, q⟩ := h
  obtain ⟨⟨items, w⟩, st1, h1, h⟩ := Res.bind_eq h
  obtain ⟨zs, st2, h2, h⟩ := Res.bind_eq h
  unfold allocS at h
  split at h
  case isFalse => cases h
  rename_i hzl
  obtain ⟨rfl, rfl⟩ := alloc_eq h
  refine ⟨μ, env, st, items, w, st1, er, sr, h1, fun μ1 H1 J e1 s1 wv => ?_⟩
  intro D hD
  obtain ⟨⟨G, Y, wk, hG, hY⟩, hlen⟩ := wv
  have er1 : ER X.K H1 μ1 (L2.wipe σ own) (wipeV env own) := (er.mono e1).wipe own
  generalize hin : (fun env' st2 => (fi1 env' st2).bind fun p1 st3 => lcLoop p1.2 tg1 one1 fb1 fe p1.1 (wipeV env' own1) st3) = inner at h2
  -- what stands at the outer turn i
  let Pv : Nat → Hp → Prop := fun i H2 => ∃ (μ2 : List Addr) (st2' : Sto) (acc : List V) (ys : List Val), Ext H1 μ1 H2 μ2 ∧ SR X.K H2 μ2 st2' ∧ H2 D = some (.lst acc) ∧ D ∉ μ2 ∧ Reps X.K H2 μ2 acc ys ∧
    (lcLoopL w tg one fb inner (items.drop i) (wipeV env own) st2').bind (fun rest st3 => Res.ok (ys ++ rest) st3) = .ok zs st2
  refine ⟨fun i m H2 => m = items.length - i ∧ i ≤ items.length ∧ Pv i H2, ⟨items.length, rfl, Nat.zero_le _, μ1, st1, [], [], Ext.laid hD, s1.laid hD, upd_same, s1.fresh hD, .nil, ?_⟩, ?_⟩
  · rw [List.drop_zero, show lcLoopL w tg one fb inner items (wipeV env own) st1 = _ from h2]
    rfl
  rintro i m H2 ⟨rfl, hi, μ2, st2', acc, ys, p1, p2, p3, p4, p5, p7⟩
  obtain ⟨rest, st3, p8, p9⟩ := Res.bind_eq p7
  have hGH := hG H2 μ2 st2' p1.kp p2 (lcLoopL_wOk p8)
  by_cases hlt : i < items.length
  · refine .inr ⟨wk.goes i H2 hlt hGH, Pv (i + 1), fun H' p' => ⟨items.length - (i + 1), by omega, rfl, hlt, p'⟩, fun x H3 hy => ?_⟩
    obtain ⟨n1, v, n2, n3⟩ := hY i H2 μ2 st2' x H3 hlt p1.kp p2 (lcLoopL_wOk p8) (wk.yields i H2 x H3 hlt hGH hy)
    obtain ⟨e3, s3⟩ := laid_all p2 n1
    have hD3 : H3 D = some (.lst acc) := e3.frame D _ p3 p4
    have hdrop : items.drop i = v :: items.drop (i + 1) := by
      rw [List.drop_eq_getElem_cons hlt]
      rw [List.getElem?_eq_getElem hlt] at n2
      cases n2
      rfl
    rw [hdrop] at p8
    simp only [lcLoopL] at p8
    rw [if_pos (by
      split at p8
      · assumption
      · cases p8)] at p8
    split at p8
    · cases p8
    rename_i env2 hset
    obtain ⟨b, st4, p10, p8⟩ := Res.bind_eq p8
    refine ⟨μ2, v, wipeV env own, env2, n3, (er1.mono p1).mono e3, hset, fun σ' er' chg => ⟨chg.wipe hsub, ?_⟩⟩
    refine ⟨μ2, env2, st2', b, st4, er', s3, p10, fun μ5 H5 e5 s5 => ?_⟩
    have hD5 : H5 D = some (.lst acc) := e5.frame D _ hD3 p4
    have nD5 : D ∉ μ5 := fun z => p4 (e5.mem hD3 z)
    cases b with
    | false =>
      rw [if_neg Bool.false_ne_true] at p8
      refine iteF ⟨μ5, st4, acc, ys, (p1.trans e3).trans e5, s5, hD5, nD5, p5.mono (e3.trans e5), ?_⟩
      rw [p8]
      exact p9
    | true =>
      rw [if_pos rfl] at p8
      obtain ⟨ys1, st5, p11, p8⟩ := Res.bind_eq p8
      obtain ⟨zs1, st6, p12, p8⟩ := Res.bind_eq p8
      obtain ⟨rfl, rfl⟩ := ok_eq p8
      obtain ⟨rfl, rfl⟩ := ok_eq p9
      rw [← hin] at p11
      obtain ⟨⟨items1, w1⟩, st7, q1, q2⟩ := Res.bind_eq p11
      refine iteT ⟨μ5, env2, st4, items1, w1, st7, er'.mono e5, s5, q1, fun μ6 H6 J1 e6 s6 wv1 => ?_⟩
      obtain ⟨⟨G1, Y1, wk1, hG1, hY1⟩, hlen1⟩ := wv1
      have er6 : ER X.K H6 μ6 (L2.wipe σ' own1) (wipeV env2 own1) := ((er'.mono e5).mono e6).wipe own1
      have hD6 : H6 D = some (.lst acc) := e6.frame D _ hD5 nD5
      have nD6 : D ∉ μ6 := fun z => nD5 (e6.mem hD5 z)
      have base6 : Ext H1 μ1 H6 μ6 := ((p1.trans e3).trans e5).trans e6
      let Pv1 : Nat → Hp → Prop := fun j H2 => ∃ (μ2 : List Addr) (st2' : Sto) (acc1 : List V) (us : List Val), Kp H6 μ6 H2 μ2 ∧ Ext H1 μ1 H2 μ2 ∧ SR X.K H2 μ2 st2' ∧ H2 D = some (.lst acc1) ∧ D ∉ μ2 ∧ Reps X.K H2 μ2 acc1 (ys ++ us) ∧
        (lcLoop w1 tg1 one1 fb1 fe (items1.drop j) (wipeV env2 own1) st2').bind (fun rest st3 => Res.ok (us ++ rest) st3) = .ok ys1 st5
      refine ⟨fun j k H2 => k = items1.length - j ∧ j ≤ items1.length ∧ Pv1 j H2, ⟨items1.length, rfl, Nat.zero_le _, μ6, st7, acc, [], Ext.refl.kp, base6, s6, hD6, nD6, by rw [List.append_nil]; exact p5.mono ((e3.trans e5).trans e6), ?_⟩, ?_⟩
      · rw [List.drop_zero, show lcLoop w1 tg1 one1 fb1 fe items1 (wipeV env2 own1) st7 = _ from q2]
        rfl
      rintro j k H7 ⟨rfl, hj, μ7, st8, acc1, us, o0, o1, o2, o3, o4, o5, o7⟩
      obtain ⟨rest1, st9, o8, o9⟩ := Res.bind_eq o7
      have hGH1 := hG1 H7 μ7 st8 o0 o2 (lcLoop_wOk o8)
      by_cases hlt1 : j < items1.length
      · refine .inr ⟨wk1.goes j H7 hlt1 hGH1, Pv1 (j + 1), fun H' p' => ⟨items1.length - (j + 1), by omega, rfl, hlt1, p'⟩, fun x1 H8 hy1 => ?_⟩
        obtain ⟨m1, v1, m2, m3⟩ := hY1 j H7 μ7 st8 x1 H8 hlt1 o0 o2 (lcLoop_wOk o8) (wk1.yields j H7 x1 H8 hlt1 hGH1 hy1)
        obtain ⟨e8, s8⟩ := laid_all o2 m1
        have hD8 : H8 D = some (.lst acc1) := e8.frame D _ o3 o4
        have hdrop1 : items1.drop j = v1 :: items1.drop (j + 1) := by
          rw [List.drop_eq_getElem_cons hlt1]
          rw [List.getElem?_eq_getElem hlt1] at m2
          cases m2
          rfl
        rw [hdrop1] at o8
        simp only [lcLoop] at o8
        rw [if_pos (by
          split at o8
          · assumption
          · cases o8)] at o8
        split at o8
        · cases o8
        rename_i env3 hset1
        obtain ⟨b1, st10, o10, o8⟩ := Res.bind_eq o8
        refine ⟨μ7, v1, wipeV env2 own1, env3, m3, (er6.kept o0).mono e8, hset1, fun σ3 er3 chg1 => ⟨chg1.wipe hsub1, ?_⟩⟩
        refine ⟨μ7, env3, st8, b1, st10, er3, s8, o10, fun μ9 H9 e9 s9 => ?_⟩
        have hD9 : H9 D = some (.lst acc1) := e9.frame D _ hD8 o4
        have nD9 : D ∉ μ9 := fun z => o4 (e9.mem hD8 z)
        cases b1 with
        | false =>
          rw [if_neg Bool.false_ne_true] at o8
          refine iteF ⟨μ9, st10, acc1, us, kpT (kpT o0 e8.kp) e9.kp, (o1.trans e8).trans e9, s9, hD9, nD9, o5.mono (e8.trans e9), ?_⟩
          rw [o8]
          exact o9
        | true =>
          rw [if_pos rfl] at o8
          obtain ⟨y, st11, o11, o8⟩ := Res.bind_eq o8
          obtain ⟨ys2, st12, o12, o8⟩ := Res.bind_eq o8
          obtain ⟨rfl, rfl⟩ := ok_eq o8
          obtain ⟨o13, rfl⟩ := ok_eq o9
          refine iteT ⟨μ9, env3, st10, y, st11, er3.mono e9, s9, o11, fun μ10 H10 u e10 s10 r10 => ?_⟩
          have hD10 : H10 D = some (.lst acc1) := e10.frame D _ hD9 nD9
          have nD10 : D ∉ μ10 := fun z => nD9 (e10.mem hD9 z)
          have al : acc1.length < sizeLine := by
            have l1 := o5.length
            have l2 : ys1.length = us.length + (ys2.length + 1) := by
              rw [← o13]
              simp
            simp only [List.length_append] at l1 hzl
            omega
          refine ⟨acc1, hD10, al, μ10, st11, acc1 ++ [u], us ++ [y], ?_, ?_, ?_, upd_same, nD10, ?_, ?_⟩
          · exact kpT (kpT (kpT (kpT o0 e8.kp) e9.kp) e10.kp) (Kp.own hD10)
          · exact (((o1.trans e8).trans e9).trans e10).own hD (by rw [hD10]; exact fun z => by cases z)
          · exact s10.kept (Kp.own hD10) fun a ha => upd_ne fun z => nD10 (z ▸ ha)
          · rw [← List.append_assoc]
            exact ((o5.mono ((e8.trans e9).trans e10)).append (.cons r10 .nil)).kept (Kp.own hD10)
          · rw [o12]
            have : us ++ [y] ++ ys2 = us ++ (y :: ys2) := by simp
            rw [Res.bind_ok, this, o13]
      · have ej : j = items1.length := by omega
        subst ej
        rw [List.drop_length] at o8
        simp only [lcLoop] at o8
        split at o8
        · obtain ⟨rfl, rfl⟩ := ok_eq o8
          obtain ⟨o10, rfl⟩ := ok_eq o9
          rw [List.append_nil] at o10
          subst o10
          refine .inl ⟨wk1.stops H7 hGH1, μ7, st8, acc1, ys ++ us, o1, o2, o3, o4, o5, ?_⟩
          rw [p12, Res.bind_ok, List.append_assoc]
        · cases o8
  · have ei : i = items.length := by omega
    subst ei
    rw [List.drop_length] at p8
    simp only [lcLoopL] at p8
    split at p8
    · obtain ⟨rfl, rfl⟩ := ok_eq p8
      obtain ⟨p10, rfl⟩ := ok_eq p9
      rw [List.append_nil] at p10
      subst p10
      refine .inl ⟨wk.stops H2 hGH, q (μ2 ++ [D]) H2 _ (e1.trans (p1.more hD)) (p2.add p4 ⟨acc, p3, by rw [p5.length]; exact hzl, p5.kept Kp.more⟩) (.loc ?_)⟩
      rw [← p2.len, List.getElem?_append_right (Nat.le_refl _)]
      simp
    · cases p8
end
end TT
set_option Elab.async false
set_option linter.all false
set_option maxRecDepth 100000
set_option maxHeartbeats 4000000
/-! list(range(..)), [::-1]. -/
namespace TT
open PySem L2 PySem.Spec PyProof.Rows
section
variable {X : Cx} {pos : Pos}
theorem reps_rg {K : PySem.W.Frag} {H : Hp} {μ : List Addr} (i j : Int) : Reps K H μ (rgV i j) (rangeL i (j - i).toNat) := by
  unfold rgV rangeL
  have : ∀ l : List Nat, Reps K H μ (l.map fun k => V.int (i + (k : Nat))) (l.map fun k => Val.int (i + (k : Nat))) := by
    intro l
    induction l with
    | nil => exact .nil
    | cons a l ih => exact .cons (.int _) ih
  exact this _
theorem rgL_ok {x y v : Val} {st st' : Sto} (h : rgL x y st = .ok v st') : ∃ i j, x = .int i ∧ y = .int j ∧ RgOk i j ∧ v = .loc st.length ∧ st' = st ++ [.lst (rangeL i (j - i).toNat)] := by
  unfold rgL at h
  split at h
  · rename_i i j
    split at h
    · rename_i hh
      obtain ⟨h1, h2, h3⟩ := hh
      obtain ⟨b1, b2⟩ := smallI_ok h1
      obtain ⟨b3, b4⟩ := smallI_ok h2
      obtain ⟨e1, e2⟩ := alloc_eq h
      exact ⟨i, j, rfl, rfl, ⟨b1, b2, b3, b4, by rw [sizeLine_eq] at h3; omega⟩, e1, e2⟩
    · cases h
  · cases h
theorem rg_aft {H1 : Hp} {μ1 : List Addr} {st : Sto} {i j : Int} {Q : VK} (s : SR X.K H1 μ1 st) (ok : RgOk i j)
    (q : ∀ μ2 H2 u, Ext H1 μ1 H2 μ2 → SR X.K H2 μ2 (st ++ [.lst (rangeL i (j - i).toNat)]) → Rep X.K H2 μ2 u (.loc st.length) → Q u H2) : RgOk i j ∧ ∀ p, H1 p = none → Q (.ref p) (upd H1 p (.lst (rgV i j))) := by
  refine ⟨ok, fun p hp => ?_⟩
  have hz : (rgV i j).length ≤ sizeLine := by
    rw [rgV_length, sizeLine_eq]
    have := ok.2.2.2.2
    omega
  exact aft_alloc s (fun μ2 H2 u e2 s2 r2 => q _ _ _ e2 s2 r2) hp ⟨_, upd_same, hz, reps_rg i j⟩
theorem d_rgl {a : Expr} {x y : Str} {p p2 pos2 : Pos} {f : VEnv → Sto → Res Val} (hx : x = tyStr "list") (hy : y = tyStr "range") (hg : Gl X x) (hm : X.mg x = none) (hg2 : Gl X y) (hm2 : X.mg y = none) (hc : X.calm = true) (ha : DE X a f)
    (na : starEach [a] X.env = (false, eval a X.env) :: starEach [] X.env) : DE X (.Call (.Name x p) [.Call (.Name y p2) [a] [] pos2] [] pos) (fun env st => (f env st).bind fun x st1 => rgL (.int 0) x st1) := by
  subst hx hy
  refine (pe_listRg hc hg hm (prg_1 hg2 hm2 ha na)).ti fun σ H Q ⟨μ, env, st, v, st', e, s, h, q⟩ => ?_
  obtain ⟨u, st1, h1, h⟩ := Res.bind_eq h
  obtain ⟨i, j, e1, rfl, ok, rfl, rfl⟩ := rgL_ok h
  cases e1
  refine ⟨μ, env, st, _, st1, e, s, h1, fun μ1 H1 z e2 s1 r1 => ?_⟩
  cases r1
  exact ⟨j, rfl, rg_aft s1 ok fun μ2 H2 u e3 s2 r2 => q _ _ _ (e2.trans e3) s2 r2⟩
theorem d_rgl2 {a b : Expr} {x y : Str} {p p2 pos2 : Pos} {f g : VEnv → Sto → Res Val} (hx : x = tyStr "list") (hy : y = tyStr "range") (hg : Gl X x) (hm : X.mg x = none) (hg2 : Gl X y) (hm2 : X.mg y = none) (hc : X.calm = true) (ha : DE X a f) (hb : DE X b g)
    (na : starEach [a, b] X.env = (false, eval a X.env) :: starEach [b] X.env) (nb : starEach [b] X.env = (false, eval b X.env) :: starEach [] X.env) (hp : (backTo pos2 (starEach [b] X.env)).any (·.1) = false) :
    DE X (.Call (.Name x p) [.Call (.Name y p2) [a, b] [] pos2] [] pos) (fun env st => (f env st).bind fun x st1 => (g env st1).bind fun y st2 => rgL x y st2) := by
  subst hx hy
  refine (pe_listRg hc hg hm (prg_2 hg2 hm2 ha hb na nb hp)).ti fun σ H Q ⟨μ, env, st, v, st', e, s, h, q⟩ => ?_
  obtain ⟨u, st1, h1, h⟩ := Res.bind_eq h
  obtain ⟨w, st2, h2, h⟩ := Res.bind_eq h
  obtain ⟨i, j, rfl, rfl, ok, rfl, rfl⟩ := rgL_ok h
  refine ⟨μ, env, st, _, st1, e, s, h1, fun μ1 H1 z e2 s1 r1 => ?_⟩
  refine ⟨μ1, env, st1, _, st2, e.mono e2, s1, h2, fun μ2 H2 z2 e3 s2 r2 => ?_⟩
  cases r1
  cases r2
  exact ⟨i, j, rfl, rfl, rg_aft s2 ok fun μ3 H3 u e4 s3 r3 => q _ _ _ ((e2.trans e3).trans e4) s3 r3⟩
theorem reps_rev {K : PySem.W.Frag} {H : Hp} {μ : List Addr} : ∀ {xs : List V} {vs : List Val}, Reps K H μ xs vs → Reps K H μ xs.reverse vs.reverse
  | _, _, .nil => .nil
  | _, _, .cons r rs => by
    rw [List.reverse_cons, List.reverse_cons]
    exact (reps_rev rs).append (.cons r .nil)
theorem d_rvs {a : Expr} {k : Nat} {p1 p2 p3 : Pos} {f : VEnv → Sto → Res Val} (ha : DE X a f) : DE X (.Subscript a (.Slice none none (some (.UnaryOp .USub (.Constant (.int 1) k p1) p2)) p3) pos) (fun env st => (f env st).bind fun x st1 => rvsV x st1) := by
  refine (pe_revL ha).ti fun σ H Q ⟨μ, env, st, v, st', e, s, h, q⟩ => ?_
  obtain ⟨u, st1, h1, h⟩ := Res.bind_eq h
  refine ⟨μ, env, st, _, st1, e, s, h1, fun μ1 H1 z e2 s1 r1 => ?_⟩
  unfold rvsV at h
  split at h
  · rename_i n
    split at h
    · rename_i xs hx
      obtain ⟨rfl, rfl⟩ := alloc_eq h
      cases r1 with
      | loc hl =>
        obtain ⟨ys, g1, g2, g3⟩ := s1.lst hl hx
        refine ⟨_, ys, rfl, SqL.of g1, fun p hp => ?_⟩
        exact aft_alloc s1 (fun μ2 H2 u e3 s2 r2 => q _ _ _ (e2.trans e3) s2 r2) hp ⟨_, upd_same, by rw [List.length_reverse]; exact g2, (reps_rev g3).mono (Ext.alloc hp)⟩
    · cases h
  · cases h
end
end TT
set_option Elab.async false
set_option linter.all false
set_option maxRecDepth 100000
set_option maxHeartbeats 4000000
/-! Statements. -/
namespace TT
open PySem L2 PySem.Spec PyProof.Rows

section
variable (K : PySem.W.Frag)
def FlP (H : Hp) (μ : List Addr) (D : Ends) : Fl → Prop
  | .nx env st => ∀ (μ' : List Addr) (H' : Hp) (σ' : L2.St), Ext H μ H' μ' → ER K H' μ' σ' env → SR K H' μ' st → D.nx σ' H'
  | .bk env st => ∀ (μ' : List Addr) (H' : Hp) (σ' : L2.St), Ext H μ H' μ' → ER K H' μ' σ' env → SR K H' μ' st → D.bk σ' H'
  | .ct env st => ∀ (μ' : List Addr) (H' : Hp) (σ' : L2.St), Ext H μ H' μ' → ER K H' μ' σ' env → SR K H' μ' st → D.ct σ' H'
  | .rt v st => Aft K H μ st v D.rt
  | .exc _ _ _ => False
  | .bad => False
def TSv (g : VEnv → Sto → Fl) : TS := fun D σ H => ∃ (μ : List Addr) (env : VEnv) (st : Sto), ER K H μ σ env ∧ SR K H μ st ∧ FlP K H μ D (g env st)
end
theorem _root_.L2.PS.ti {X : Cx} {e : Stmt} {t t' : TS} (h : PS X e t) (i : ∀ D σ H, t' D σ H → t D σ H) : PS X e t' := ⟨fun pins s σ H D I q => h.run pins s σ H D I (i D σ H q)⟩
theorem _root_.L2.PSs.ti {X : Cx} {e : List Stmt} {t t' : TS} (h : PSs X e t) (i : ∀ D σ H, t' D σ H → t D σ H) : PSs X e t' := ⟨fun pins s σ H D I q => h.run pins s σ H D I (i D σ H q)⟩
abbrev DS (X : Cx) (e : Stmt) (f : VEnv → Sto → Fl) : Prop := PS X e (TSv X.K f)
abbrev DSs (X : Cx) (e : List Stmt) (f : VEnv → Sto → Fl) : Prop := PSs X e (TSv X.K f)
section
variable {K : PySem.W.Frag} {H H1 : Hp} {μ μ1 : List Addr} {D : Ends}
theorem FlP.mono {r : Fl} (h : FlP K H μ D r) (e : Ext H μ H1 μ1) : FlP K H1 μ1 D r := by
  cases r with
  | nx env st => exact fun μ' H' σ' e' => h μ' H' σ' (e.trans e')
  | bk env st => exact fun μ' H' σ' e' => h μ' H' σ' (e.trans e')
  | ct env st => exact fun μ' H' σ' e' => h μ' H' σ' (e.trans e')
  | rt v st => exact fun μ' H' x e' => h μ' H' x (e.trans e')
  | exc _ _ _ => exact h
  | bad => exact h
theorem fl_ok {α : Type} {r : Res α} {f : α → Sto → Fl} (h : FlP K H μ D (r.fl f)) : ∃ a st, r = .ok a st ∧ FlP K H μ D (f a st) := by
  cases r with
  | ok a st => exact ⟨a, st, rfl, h⟩
  | exc _ _ _ => exact h.elim
  | bad => exact h.elim
theorem optFl_ok {α : Type} {r : Option α} {f : α → Fl} (h : FlP K H μ D (optFl r f)) : ∃ a, r = some a ∧ FlP K H μ D (f a) := by
  cases r with
  | some a => exact ⟨a, rfl, h⟩
  | none => exact h.elim
end

section
variable {X : Cx} {pos : Pos}
theorem s_next {p : Stmt} (h : PS X p tNext) : DS X p (fun env st => .nx env st) := h.ti fun D σ H ⟨μ, env, st, e, s, q⟩ => q μ H σ Ext.refl e s
theorem s_never {p : Stmt} : DS X p (fun _ _ => .bad) := ps_never.ti fun D σ H ⟨μ, env, st, e, s, q⟩ => q
theorem ss_nil : DSs X [] (fun env st => .nx env st) := pss_nil.ti fun D σ H ⟨μ, env, st, e, s, q⟩ => q μ H σ Ext.refl e s
theorem ss_cons {p : Stmt} {ps : List Stmt} {f g : VEnv → Sto → Fl} (h1 : DS X p f) (h2 : DSs X ps g) : DSs X (p :: ps) (fun env st => match f env st with
    | .nx env1 st1 => g env1 st1
    | r => r) := (pss_cons h1 h2).ti fun D σ H ⟨μ, env, st, e, s, q⟩ => by
  refine ⟨μ, env, st, e, s, ?_⟩
  cases hf : f env st with
  | nx env1 st1 =>
    simp only [hf] at q
    exact fun μ' H' σ' e' er sr => ⟨μ', env1, st1, er, sr, q.mono e'⟩
  | bk env1 st1 => simp only [hf] at q; exact q
  | ct env1 st1 => simp only [hf] at q; exact q
  | rt v st1 => simp only [hf] at q; exact q
  | exc _ _ _ => simp only [hf] at q; exact q
  | bad => simp only [hf] at q; exact q
theorem s_brk : DS X (.Break pos) (fun env st => .bk env st) := ps_break.ti fun D σ H ⟨μ, env, st, e, s, q⟩ => q μ H σ Ext.refl e s
theorem s_cont : DS X (.Continue pos) (fun env st => .ct env st) := ps_continue.ti fun D σ H ⟨μ, env, st, e, s, q⟩ => q μ H σ Ext.refl e s
theorem s_ret {p : Expr} {f : VEnv → Sto → Res Val} (h : DE X p f) : DS X (.Return (some p) pos) (fun env st => (f env st).fl fun v st1 => .rt v st1) := (ps_ret h).ti fun D σ H ⟨μ, env, st, e, s, q⟩ => by
  obtain ⟨v, st1, h1, q⟩ := fl_ok q
  exact ⟨μ, env, st, v, st1, e, s, h1, q⟩
theorem s_retN : DS X (.Return none pos) (fun _ st => .rt .non st) := ps_retN.ti fun D σ H ⟨μ, env, st, e, s, q⟩ => q μ H .non Ext.refl s .non
theorem s_expr {p : Expr} {f : VEnv → Sto → Res Val} (h : DE X p f) (hs : swapsWith p none pos.line X.env = pure false) : DS X (.Expr p pos) (fun env st => (f env st).fl fun _ st1 => .nx env st1) := (ps_expr h hs).ti fun D σ H ⟨μ, env, st, e, s, q⟩ => by
  obtain ⟨v, st1, h1, q⟩ := fl_ok q
  exact ⟨μ, env, st, v, st1, e, s, h1, fun μ1 H1 x e1 s1 _ => q μ1 H1 σ e1 (e.mono e1) s1⟩
theorem s_if {p : Expr} {a b : List Stmt} {fc : VEnv → Sto → Res Bool} {f g : VEnv → Sto → Fl} (hc : DT X p fc) (ha : DSs X a f) (hb : DSs X b g) : DS X (.If p a b pos) (fun env st => (fc env st).fl fun k st1 => if k = true then f env st1 else g env st1) :=
  (ps_if hc ha hb).ti fun D σ H ⟨μ, env, st, e, s, q⟩ => by
    obtain ⟨k, st1, h1, q⟩ := fl_ok q
    refine ⟨μ, env, st, k, st1, e, s, h1, fun μ1 H1 e1 s1 => ?_⟩
    cases k with
    | true => exact iteT ⟨μ1, env, st1, e.mono e1, s1, q.mono e1⟩
    | false => exact iteF ⟨μ1, env, st1, e.mono e1, s1, q.mono e1⟩
theorem asg_imp {f : VEnv → Sto → Res Val} {tg : List Nat} {t : Val → VEnv → Option VEnv} {te : TE} {D : Ends} {σ : L2.St} {H : Hp} (hi : ∀ Q, TEv X.K f σ H Q → te σ H Q) (h : TSv X.K (fun env st => (f env st).fl fun v st1 => optFl (t v env) fun env1 => .nx env1 st1) D σ H) : tAsg te (TGv X.K tg t) D σ H := by
  obtain ⟨μ, env, st, e, s, q⟩ := h
  obtain ⟨v, st1, h1, q⟩ := fl_ok q
  obtain ⟨env1, h2, q⟩ := optFl_ok q
  refine hi _ ⟨μ, env, st, v, st1, e, s, h1, fun μ1 H1 x e1 s1 r1 => ?_⟩
  exact ⟨μ1, v, env, env1, r1, e.mono e1, h2, fun σ' er _ => q μ1 H1 σ' e1 er s1⟩
theorem s_asg {tg p : Expr} {is : List Nat} {t : Val → VEnv → Option VEnv} {f : VEnv → Sto → Res Val} (hg : PG X tg (TGv X.K is t)) (h : DE X p f) (hs : swapsWithSole [tg] p pos.line X.env = pure false) (hw : swappedStores [tg] p X.env = pure none)
    (h1 : (assignEach [tg] X.env).map (·.2) = [assign tg X.env]) : DS X (.Assign [tg] p pos) (fun env st => (f env st).fl fun v st1 => optFl (t v env) fun env1 => .nx env1 st1) :=
  (ps_asg h hg hs hw h1).ti fun D σ H q => asg_imp (fun _ z => z) q
theorem s_par {i j : Nat} {x y : Str} {a b : Expr} {px py pt : Pos} {kt k2 : Nat} {pt2 : Pos} {f g : VEnv → Sto → Res Val} (hc : X.calm = true) (hN : X.N.Nodup) (hi : X.N[i]? = some x) (hj : X.N[j]? = some y) (hij : i ≠ j)
    (hx : X.env.scope.names.lookup x = some .local) (hy : X.env.scope.names.lookup y = some .local) (ha : DE X a f) (hb : DE X b g) (hsa : starEach [a, b] X.env = (false, eval a X.env) :: starEach [b] X.env) (hsb : starEach [b] X.env = (false, eval b X.env) :: starEach [] X.env)
    (hw : swappedStores [.Tuple [.Name x px, .Name y py] kt pt] (.Tuple [a, b] k2 pt2) X.env = pure (some [x, y])) (hs : swapsWithSole [.Tuple [.Name x px, .Name y py] kt pt] (.Tuple [a, b] k2 pt2) pos.line X.env = pure false) :
    DS X (.Assign [.Tuple [.Name x px, .Name y py] kt pt] (.Tuple [a, b] k2 pt2) pos) (fun env st => (f env st).fl fun v st1 => (g env st1).fl fun w st2 => .nx (setN j w (setN i v env)) st2) :=
  (ps_par hc hN hi hj hij hx hy (pa_cons ha (pa_cons hb pa_nil hsb) hsa) hw hs).ti fun D σ H ⟨μ, env, st, e, s, q⟩ => by
    obtain ⟨v, st1, h1, q⟩ := fl_ok q
    obtain ⟨w, st2, h2, q⟩ := fl_ok q
    refine ⟨μ, env, st, v, st1, e, s, h1, fun μ1 H1 x1 e1 s1 r1 => ?_⟩
    refine ⟨μ1, env, st1, w, st2, e.mono e1, s1, h2, fun μ2 H2 x2 e2 s2 r2 => ?_⟩
    exact ⟨x1, x2, rfl, q μ2 H2 _ (e1.trans e2) ((((e.mono e1).mono e2).set (r1.mono e2)).set r2) s2⟩
theorem asg_sub {o i : Expr} {env : PySem.Env} {p2 : Pos} (h : plainSl i = true) (v : Value) : assign (.Subscript o i p2) env v = (do
      let ov ← holding [v] (eval o env)
      let iv ← holding [v, ov] (eval i env)
      standAt p2
      holding [v, ov, iv] (setItem ov iv v)
      release [v, ov, iv] []) := by
  cases i <;> first | rfl | cases h
theorem s_store {o i p : Expr} {p2 : Pos} {f g k : VEnv → Sto → Res Val} (hpl : plainSl i = true) (ho : DE X o f) (hi : DE X i g) (h : DE X p k) (hs : swapsWithSole [.Subscript o i p2] p pos.line X.env = pure false) (hw : swappedStores [.Subscript o i p2] p X.env = pure none) :
    DS X (.Assign [.Subscript o i p2] p pos) (fun env st => (k env st).fl fun v st1 => (f env st1).fl fun u st2 => (g env st2).fl fun n st3 => optFl (storeV u n v st3) fun st4 => .nx env st4) :=
  (ps_asg h (pg_sub ho hi x_store (asg_sub hpl)) hs hw).ti fun D σ H ⟨μ, env, st, e, s, q⟩ => by
    obtain ⟨v, st1, h1, q⟩ := fl_ok q
    obtain ⟨u, st2, h2, q⟩ := fl_ok q
    obtain ⟨n, st3, h3, q⟩ := fl_ok q
    obtain ⟨st4, h4, q⟩ := optFl_ok q
    refine ⟨μ, env, st, v, st1, e, s, h1, fun μ1 H1 x1 e1 s1 r1 => ?_⟩
    refine ⟨μ1, env, st1, u, st2, e.mono e1, s1, h2, fun μ2 H2 x2 e2 s2 r2 => ?_⟩
    refine ⟨μ2, env, st2, n, st3, (e.mono e1).mono e2, s2, h3, fun μ3 H3 x3 e3 s3 r3 => ?_⟩
    exact ⟨μ3, u, n, v, st3, st4, r2.mono e3, r3, r1.mono (e2.trans e3), s3, h4, fun μ4 H4 e4 s4 => q μ4 H4 σ (((e1.trans e2).trans e3).trans e4) ((((e.mono e1).mono e2).mono e3).mono e4) s4⟩
theorem ip_ok (op : Operator) (h : [Operator.Add, .Sub].contains op = true) : PIp X op (R2v X.K (augV op)) := by
  intro pins s σ H x y v u Q I rx ry ⟨μ, a, b, st, z, st', ra, rb, sr, hf, hq⟩
  cases op <;> first | (cases h; done) | skip
  · cases ra <;> cases rb <;> simp only [augV, binV, reduceCtorEq] at hf
    · obtain ⟨rfl, rfl⟩ := ok_eq hf
      exact iop_add pins s σ H _ _ v u Q I rx ry ⟨_, _, rfl, rfl, aft_same sr hq (.int _)⟩
    · split at hf
      · rename_i hz
        obtain ⟨rfl, rfl⟩ := ok_eq hf
        exact iop_add_str pins s σ H _ _ v u Q I rx ry ⟨_, _, rfl, rfl, hz, aft_same sr hq (.str _)⟩
      · cases hf
  · cases ra <;> cases rb <;> simp only [augV, binV, reduceCtorEq] at hf
    · obtain ⟨rfl, rfl⟩ := ok_eq hf
      exact iop_sub pins s σ H _ _ v u Q I rx ry ⟨_, _, rfl, rfl, aft_same sr hq (.int _)⟩
theorem s_aug {i : Nat} {x : Str} {p : Expr} {op : Operator} {p2 : Pos} {f : VEnv → Sto → Res Val} (hN : X.N.Nodup) (hi : X.N[i]? = some x) (hx : Loc X.env.scope x) (hf : X.fn x = true ∨ X.env.scope.names.lookup x = some .local) (h : DE X p f) (ho : [Operator.Add, .Sub].contains op = true) :
    DS X (.AugAssign (.Name x p2) op p pos) (fun env st => match env[i]? with
      | some (some x) => (f env st).fl fun y st1 => (augV op x y st1).fl fun z st2 => .nx (setN i z env) st2
      | _ => .bad) :=
  (ps_aug hN hi hx h (ip_ok op ho) hf).ti fun D σ H ⟨μ, env, st, e, s, q⟩ => by
    dsimp only at q
    split at q
    · rename_i v hv
      obtain ⟨y, st1, h1, q⟩ := fl_ok q
      obtain ⟨z, st2, h2, q⟩ := fl_ok q
      obtain ⟨x1, h3, h4⟩ := e.at_ i v hv
      refine ⟨x1, h3, μ, env, st, y, st1, e, s, h1, fun μ1 H1 x2 e1 s1 r1 => ?_⟩
      exact ⟨μ1, v, y, st1, z, st2, h4.mono e1, r1, s1, h2, fun μ2 H2 x3 e2 s2 r2 => q μ2 H2 _ (e1.trans e2) (((e.mono e1).mono e2).set r2) s2⟩
    · exact q.elim

/-! ### loops -/
theorem forLoop_wOk {K : PySem.W.Frag} {H : Hp} {μ : List Addr} {D : Ends} {w : Watch} {tg : List Nat} {one : Bool} {fb : VEnv → Sto → Fl} {vs : List Val} {env : VEnv} {st : Sto} (h : FlP K H μ D (forLoop w tg one fb vs env st)) : wOk w st = true := by
  cases vs with
  | nil =>
    simp only [forLoop] at h
    split at h
    · assumption
    · exact h.elim
  | cons v vs =>
    simp only [forLoop] at h
    split at h
    · assumption
    · exact h.elim
theorem s_for {tgE it' : Expr} {body : List Stmt} {tg : List Nat} {one : Bool} {fi : VEnv → Sto → Res (List Val × Watch)} {fb : VEnv → Sto → Fl} (hx : X.xe = fun _ _ => False) (hc : X.calm = true) (hi : PI X tgE it' (TIv X.K fi)) (hg : PG X tgE (TGv X.K tg (setTg tg one))) (hb : DSs X body fb)
    (hs : ∀ x, foldedSetIterable it' X.env x = pure x) : DS X (.For tgE it' body [] pos) (fun env st => (fi env st).fl fun p st1 => forLoop p.2 tg one fb p.1 env st1) :=
  (ps_for (by rw [hx]; exact PassesOwn.never) hc hi hg hb hs).ti fun D σ H ⟨μ, env, st, er, s, q⟩ => by
    obtain ⟨⟨items, w⟩, st1, h1, q⟩ := fl_ok q
    refine ⟨μ, env, st, items, w, st1, er, s, h1, fun μ1 H1 J e1 s1 wv => ?_⟩
    obtain ⟨⟨G, Y, wk, hG, hY⟩, hlen⟩ := wv
    refine for_it wk (fun i σ2 H2 => ∃ (μ2 : List Addr) (env2 : VEnv) (st2 : Sto), Ext H1 μ1 H2 μ2 ∧ ER X.K H2 μ2 σ2 env2 ∧ SR X.K H2 μ2 st2 ∧ FlP X.K H2 μ2 D (forLoop w tg one fb (items.drop i) env2 st2)) ?_ ?_ ?_ ?_
    · exact ⟨μ1, env, st1, Ext.refl, er.mono e1, s1, q.mono e1⟩
    · rintro i σ2 H2 hi ⟨μ2, env2, st2, p1, p2, p3, p4⟩
      exact hG H2 μ2 st2 p1.kp p3 (forLoop_wOk p4)
    · rintro i x σ2 H2 H3 hlt ⟨μ2, env2, st2, p1, p2, p3, p4⟩ hy
      obtain ⟨n1, v, n2, n3⟩ := hY i H2 μ2 st2 x H3 hlt p1.kp p3 (forLoop_wOk p4) hy
      obtain ⟨e3, s3⟩ := laid_all p3 n1
      have hdrop : items.drop i = v :: items.drop (i + 1) := by
        rw [List.drop_eq_getElem_cons hlt]
        rw [List.getElem?_eq_getElem hlt] at n2
        cases n2
        rfl
      have hw := forLoop_wOk p4
      rw [hdrop] at p4
      simp only [forLoop] at p4
      rw [if_pos hw] at p4
      split at p4
      · exact p4.elim
      · rename_i env3 hset
        refine ⟨μ2, v, env2, env3, n3, p2.mono e3, hset, fun σ' er' _ => ?_⟩
        refine ⟨μ2, env3, st2, er', s3, ?_⟩
        cases hf : fb env3 st2 with
        | nx env4 st4 =>
          simp only [hf] at p4
          exact fun μ5 H5 σ5 e5 er5 s5 => ⟨μ5, env4, st4, (p1.trans e3).trans e5, er5, s5, p4.mono (e3.trans e5)⟩
        | ct env4 st4 =>
          simp only [hf] at p4
          exact fun μ5 H5 σ5 e5 er5 s5 => ⟨μ5, env4, st4, (p1.trans e3).trans e5, er5, s5, p4.mono (e3.trans e5)⟩
        | bk env4 st4 =>
          simp only [hf] at p4
          exact fun μ5 H5 σ5 e5 er5 s5 => p4 μ5 H5 σ5 (e3.trans e5) er5 s5
        | rt v st4 =>
          simp only [hf] at p4
          exact fun μ5 H5 u5 e5 s5 r5 => p4 μ5 H5 u5 (e3.trans e5) s5 r5
        | exc _ _ _ => simp only [hf] at p4; exact p4
        | bad => simp only [hf] at p4; exact p4
    · rintro σ2 H2 ⟨μ2, env2, st2, p1, p2, p3, p4⟩
      rw [List.drop_length] at p4
      simp only [forLoop] at p4
      split at p4
      · exact p4 μ2 H2 σ2 Ext.refl p2 p3
      · exact p4.elim
theorem s_while {n : Nat} {p : Expr} {body : List Stmt} {fc : VEnv → Sto → Res Bool} {fb : VEnv → Sto → Fl} (hx : X.xe = fun _ _ => False) (hc : DT X p fc) (hb : DSs X body fb) : DS X (.While p body [] pos) (fun env st => whileLoop fc fb n env st) :=
  (ps_while (by rw [hx]; exact PassesOwn.never) hc hb).ti fun D σ H ⟨μ, env, st, er, s, q⟩ => by
    refine ⟨fun m σ2 H2 => ∃ (μ2 : List Addr) (env2 : VEnv) (st2 : Sto), ER X.K H2 μ2 σ2 env2 ∧ SR X.K H2 μ2 st2 ∧ FlP X.K H2 μ2 D (whileLoop fc fb m env2 st2), ⟨n, μ, env, st, er, s, q⟩, ?_⟩
    rintro m σ2 H2 ⟨μ2, env2, st2, p2, p3, p4⟩
    cases m with
    | zero => exact p4.elim
    | succ m =>
      simp only [whileLoop] at p4
      split at p4
      · rename_i st3 hfc
        refine ⟨μ2, env2, st2, true, st3, p2, p3, hfc, fun μ3 H3 e3 s3 => iteT ?_⟩
        refine ⟨fun σ4 H4 => ∃ (μ4 : List Addr) (env4 : VEnv) (st4 : Sto), ER X.K H4 μ4 σ4 env4 ∧ SR X.K H4 μ4 st4 ∧ FlP X.K H4 μ4 D (whileLoop fc fb m env4 st4), fun σ4 H4 q4 => ⟨m, Nat.lt_succ_self m, q4⟩, ?_⟩
        refine ⟨μ3, env2, st3, p2.mono e3, s3, ?_⟩
        cases hf : fb env2 st3 with
        | nx env4 st4 =>
          simp only [hf] at p4
          exact fun μ5 H5 σ5 e5 er5 s5 => ⟨μ5, env4, st4, er5, s5, p4.mono (e3.trans e5)⟩
        | ct env4 st4 =>
          simp only [hf] at p4
          exact fun μ5 H5 σ5 e5 er5 s5 => ⟨μ5, env4, st4, er5, s5, p4.mono (e3.trans e5)⟩
        | bk env4 st4 =>
          simp only [hf] at p4
          exact fun μ5 H5 σ5 e5 er5 s5 => p4 μ5 H5 σ5 (e3.trans e5) er5 s5
        | rt v st4 =>
          simp only [hf] at p4
          exact fun μ5 H5 u5 e5 s5 r5 => p4 μ5 H5 u5 (e3.trans e5) s5 r5
        | exc _ _ _ => simp only [hf] at p4; exact p4
        | bad => simp only [hf] at p4; exact p4
      · rename_i st3 hfc
        exact ⟨μ2, env2, st2, false, st3, p2, p3, hfc, fun μ3 H3 e3 s3 => iteF (p4 μ3 H3 σ2 e3 (p2.mono e3) s3)⟩
      · exact p4.elim
      · exact p4.elim
end
end TT
set_option Elab.async false
set_option linter.all false
set_option maxRecDepth 100000
set_option maxHeartbeats 8000000
/-! All expressions. -/
namespace TT
open PySem L2 PySem.Spec PyProof.Rows

def isBO : Expr → Bool
  | .BoolOp _ _ _ => true
  | _ => false
def isLC : Expr → Bool
  | .ListComp _ _ _ _ => true
  | _ => false
section
variable {G : Gm} {sc : Scope} {N : List Str}
theorem mtE_starred {e : E} {p : Expr} {pos : Pos} : mtE G sc N e (.Starred p pos) = false := by
  cases e <;> rfl
theorem star_plain {e : E} {p : Expr} (h : mtE G sc N e p = true) (ps : List Expr) (env : PySem.Env) : starEach (p :: ps) env = (false, eval p env) :: starEach ps env := by
  cases p <;> first
    | rfl
    | (rw [mtE_starred] at h; cases h)
theorem mtE_set {e : E} {l : List Expr} {k : Nat} {pos : Pos} : mtE G sc N e (.Set l k pos) = false := by
  cases e <;> rfl
theorem fold_plain {e : E} {p : Expr} (h : mtE G sc N e p = true) (env : PySem.Env) (x : Value) : foldedSetIterable p env x = pure x := by
  cases p <;> first
    | rfl
    | (rw [mtE_set] at h; cases h)
theorem mtP_plain (env : PySem.Env) (pos : Pos) : ∀ {e : E} {ps : List Expr}, mtP G sc N e ps = true → (backTo pos (starEach ps env)).any (·.1) = false
  | .nil, [], _ => rfl
  | .cons e es, p :: ps, h => by
    simp only [mtP, Bool.and_eq_true] at h
    rw [star_plain h.1]
    show (false || (backTo pos (starEach ps env)).any (·.1)) = false
    rw [mtP_plain env pos h.2]
    rfl
  | .cons _ _, [], h => by cases h
  | .nil, _ :: _, h => by cases h
  | .star _ _, ps, h => by cases ps <;> cases h
  | .c _, ps, h => by cases ps <;> cases h
  | .v _, ps, h => by cases ps <;> cases h
  | .g _ _, ps, h => by cases ps <;> cases h
  | .tup _, ps, h => by cases ps <;> cases h
  | .lst _, ps, h => by cases ps <;> cases h
  | .dct, ps, h => by cases ps <;> cases h
  | .bin _ _ _, ps, h => by cases ps <;> cases h
  | .neg _, ps, h => by cases ps <;> cases h
  | .not _, ps, h => by cases ps <;> cases h
  | .and _ _, ps, h => by cases ps <;> cases h
  | .or _ _, ps, h => by cases ps <;> cases h
  | .cmp _ _ _, ps, h => by cases ps <;> cases h
  | .chain _ _ _ _ _, ps, h => by cases ps <;> cases h
  | .ite _ _ _, ps, h => by cases ps <;> cases h
  | .call _ _, ps, h => by cases ps <;> cases h
  | .bc _ _, ps, h => by cases ps <;> cases h
  | .isi _ _, ps, h => by cases ps <;> cases h
  | .idx _ _, ps, h => by cases ps <;> cases h
  | .sl _ _ _, ps, h => by cases ps <;> cases h
  | .app _ _, ps, h => by cases ps <;> cases h
  | .ext _ _, ps, h => by cases ps <;> cases h
  | .pop _, ps, h => by cases ps <;> cases h
  | .lc _ _ _ _ _ _ _, ps, h => by cases ps <;> cases h
theorem mtP_nil {e : E} (h : mtP G sc N e [] = true) : e = .nil := by
  cases e <;> first | rfl | cases h
theorem mtP_one {e : E} {p : Expr} (h : mtP G sc N e [p] = true) : ∃ a, e = .cons a .nil ∧ mtE G sc N a p = true := by
  cases e <;> first | (cases h; done) | skip
  simp only [mtP, Bool.and_eq_true] at h
  exact ⟨_, by rw [mtP_nil h.2], h.1⟩
theorem mtP_two {e : E} {p q : Expr} (h : mtP G sc N e [p, q] = true) : ∃ a b, e = .cons a (.cons b .nil) ∧ mtE G sc N a p = true ∧ mtE G sc N b q = true := by
  cases e <;> first | (cases h; done) | skip
  simp only [mtP, Bool.and_eq_true] at h
  obtain ⟨b, rfl, h2⟩ := mtP_one h.2
  exact ⟨_, b, rfl, h.1, h2⟩
end

section
variable (G : Gm) (lv : Nat) (C : CallF)
structure Good (X : Cx) (p : Expr) (f : VEnv → Sto → Res Val) : Prop where
  e : DE X p f
  t : DT X p (evT f)
  w : isBO p = true → DW X p (evT f)
  a : isLC p = true → ∀ (i : Nat) (y : Str) (py spos : Pos), X.N[i]? = some y → X.env.scope.names.lookup y = some .local → swapsWith p (some (.Name y py)) spos.line X.env = pure true → DS X (.Assign [.Name y py] p spos) (fun env st => (f env st).fl fun v st1 => .nx (setN i v env) st1)
structure Cl (e : E) : Prop where
  one : ∀ (X : Cx) (sc : Scope) (N : List Str) (top : Bool) (p : Expr), Lnk G X.prog X.w X.K X.mg X.base lv C → Cxt lv X sc N top → mtE G sc N e p = true → Good X p (evE C e)
  many : ∀ (X : Cx) (sc : Scope) (N : List Str) (top : Bool) (ps : List Expr), Lnk G X.prog X.w X.K X.mg X.base lv C → Cxt lv X sc N top → mtL G sc N e ps = true → DA X ps (evL C e)
  plain : ∀ (X : Cx) (sc : Scope) (N : List Str) (top : Bool) (ps : List Expr), Lnk G X.prog X.w X.K X.mg X.base lv C → Cxt lv X sc N top → mtP G sc N e ps = true → DA X ps (evL C e)
  head : ∀ a b, e = .cons a b → ∀ (X : Cx) (sc : Scope) (N : List Str) (top : Bool) (p : Expr), Lnk G X.prog X.w X.K X.mg X.base lv C → Cxt lv X sc N top → mtE G sc N a p = true → Good X p (evE C a)
end
section
variable {G : Gm} {lv : Nat} {C : CallF}
theorem Good.plain {X : Cx} {p : Expr} {f : VEnv → Sto → Res Val} (h : DE X p f) (hp : plainT p = true) (hl : isLC p = false) : Good X p f :=
  ⟨h, t_plain h hp, fun z => (by cases p <;> first | (cases z; done) | cases hp), fun z => (by rw [hl] at z; cases z)⟩
theorem Good.test {X : Cx} {p : Expr} {f : VEnv → Sto → Res Val} (h : DE X p f) (t : DT X p (evT f)) (hb : isBO p = false) (hl : isLC p = false) : Good X p f :=
  ⟨h, t, fun z => (by rw [hb] at z; cases z), fun z => (by rw [hl] at z; cases z)⟩
theorem Cl.of {e : E} (h : ∀ (X : Cx) (sc : Scope) (N : List Str) (top : Bool) (p : Expr), Lnk G X.prog X.w X.K X.mg X.base lv C → Cxt lv X sc N top → mtE G sc N e p = true → Good X p (evE C e))
    (h2 : ∀ sc N ps, mtL G sc N e ps = false) (h3 : ∀ sc N ps, mtP G sc N e ps = false) (h4 : ∀ a b, e ≠ .cons a b := by intro _ _ z; cases z) : Cl G lv C e :=
  ⟨h, fun X sc N top ps _ _ q => (by rw [h2] at q; cases q), fun X sc N top ps _ _ q => (by rw [h3] at q; cases q), fun a b z => absurd z (h4 a b)⟩
theorem blk_cxt {X : Cx} {sc : Scope} {N : List Str} {top : Bool} (c : Cxt lv X sc N top) {scope : Scope} (hk : scope.kind = .function) (s : Shared) (H : Hp) (C : Addr) (cl : List (Str × Addr)) (fp : List Addr) :
    Cxt lv (X.blk s H scope (compEnvC scope cl C X.env) fp) (relS scope sc) N false := by
  refine ⟨?_, c.hN, c.nd, c.calm, c.gd, c.room, rfl, fun z => (by cases z), hk⟩
  rw [← c.hsc]
  rfl
theorem evL_one {a : E} {env : VEnv} {st st' : Sto} {vs : List Val} (h : evL C (.cons a .nil) env st = .ok vs st') : vs.length = 1 := by
  simp only [evL] at h
  obtain ⟨v, st1, _, h⟩ := Res.bind_eq h
  obtain ⟨vs2, st2, h2, h⟩ := Res.bind_eq h
  obtain ⟨rfl, rfl⟩ := ok_eq h2
  obtain ⟨rfl, rfl⟩ := ok_eq h
  rfl
theorem evL_two {a b : E} {env : VEnv} {st st' : Sto} {vs : List Val} (h : evL C (.cons a (.cons b .nil)) env st = .ok vs st') : vs.length = 2 := by
  rw [evL] at h
  obtain ⟨v, st1, _, h⟩ := Res.bind_eq h
  obtain ⟨vs2, st2, h2, h⟩ := Res.bind_eq h
  have := evL_one h2
  obtain ⟨rfl, rfl⟩ := ok_eq h
  simp [this]
theorem iter_ok {X : Cx} {sc : Scope} {N : List Str} {top : Bool} {tgE : Expr} {ib : Option Blt} {it : E} {it' : Expr} (L : Lnk G X.prog X.w X.K X.mg X.base lv C) (c : Cxt lv X sc N top) (cl : Cl G lv C it)
    (h : iterM (mtE G sc N it) (mtP G sc N it) G sc ib it' tgE = true) : PI X tgE it' (TIv X.K (iterR ib (evE C it) (evL C it))) ∧ ∀ env x, foldedSetIterable it' env x = pure x := by
  unfold iterM at h
  cases ib with
  | none => exact ⟨i_val (cl.one X sc N top it' L c h).e, fun env => fold_plain h _⟩
  | some b =>
    simp only at h
    split at h
    · rename_i x px l pos
      simp only [Bool.and_eq_true, decide_eq_true_eq] at h
      obtain ⟨⟨⟨⟨q1, q2⟩, q3⟩, q5⟩, q4⟩ := h
      have dl := cl.plain X sc N top l L c q4
      refine ⟨?_, fun _ _ => rfl⟩
      cases b <;> simp only [iterName, reduceCtorEq, Option.some.injEq] at q1
      case range =>
        match l, q5 with
        | [a], _ =>
          obtain ⟨e, rfl, q6⟩ := mtP_one q4
          exact i_range1 q1.symm (c.gl q2).1 (L.free _ q3) dl (star_plain q6 _ _) fun env st vs st' => evL_one
        | [a, b], _ =>
          obtain ⟨e, e', rfl, q6, q7⟩ := mtP_two q4
          exact i_range2 q1.symm (c.gl q2).1 (L.free _ q3) dl (by rw [star_plain q6, star_plain q7]; rfl) (star_plain q7 _ _) fun env st vs st' => evL_two
        | [], q5 => simp [iterAr] at q5
        | _ :: _ :: _ :: _, q5 => simp [iterAr] at q5
      case zip =>
        simp only [iterAr, Bool.and_eq_true] at q5
        match l, q5.1 with
        | [a, b], _ =>
          obtain ⟨e, e', rfl, q6, q7⟩ := mtP_two q4
          cases tgE with
          | Tuple elts kk tpos =>
            exact i_zip q1.symm (c.gl q2).1 (L.free _ q3) dl (star_plain q6 _ _) (by rw [star_plain q7]; rfl) fun env st vs st' => evL_two
          | _ => cases q5.2
        | [], q5 => simp at q5
        | [_], q5 => simp at q5
        | _ :: _ :: _ :: _, q5 => simp at q5
      case enum =>
        simp only [iterAr, Bool.and_eq_true] at q5
        match l, q5.1 with
        | [a], _ =>
          obtain ⟨e, rfl, q6⟩ := mtP_one q4
          cases tgE with
          | Tuple elts kk tpos =>
            exact i_enum q1.symm (c.gl q2).1 (L.free _ q3) dl (star_plain q6 _ _) fun env st vs st' => evL_one
          | _ => cases q5.2
        | [], q5 => simp at q5
        | _ :: _ :: _, q5 => simp at q5
      case rev =>
        match l, q5 with
        | [a], _ =>
          obtain ⟨e, rfl, q6⟩ := mtP_one q4
          exact i_rev q1.symm (c.gl q2).1 (L.free _ q3) (cl.head _ _ rfl X sc N top a L c q6).e (star_plain q6 _ _)
        | [], q5 => simp [iterAr] at q5
        | _ :: _ :: _, q5 => simp [iterAr] at q5
    · cases h
theorem iter_fold {sc : Scope} {N : List Str} {tgE : Expr} {ib : Option Blt} {it : E} {it' : Expr} {mp : List Expr → Bool} (h : iterM (mtE G sc N it) mp G sc ib it' tgE = true) : ∀ env x, foldedSetIterable it' env x = pure x := by
  unfold iterM at h
  cases ib with
  | none => exact fun env => fold_plain h _
  | some b =>
    simp only at h
    split at h
    · exact fun _ _ => rfl
    · cases h
theorem cnd_ok {X : Cx} {sc : Scope} {N : List Str} {top : Bool} {cnd : E} {ifs : List Expr} (L : Lnk G X.prog X.w X.K X.mg X.base lv C) (c : Cxt lv X sc N top) (cl : Cl G lv C cnd) (h : cndM (mtE G sc N cnd) (isNil cnd) ifs = true) : PTs X ifs (TTv X.K (cndR (isNil cnd) (evE C cnd))) := by
  match ifs, h with
  | [], h7 =>
    have h7 : isNil cnd = true := h7
    rw [h7]
    exact ⟨fun pins s σ H Q I ⟨μ, env, st, b, st', e, sr, hh, q⟩ => by
      obtain ⟨rfl, rfl⟩ := ok_eq (show Res.ok true st = .ok b st' from hh)
      exact pts_nil.run pins s σ H Q I (q μ H Ext.refl sr)⟩
  | [g], h7 =>
    simp only [cndM, Bool.and_eq_true, Bool.not_eq_true'] at h7
    rw [h7.1]
    exact pts_one (cl.one X sc N top g L c h7.2).t
  | _ :: _ :: _, h7 => cases h7
theorem rgl_form {sc : Scope} {N : List Str} {a : E} {p : Expr} (h : mtE G sc N (.rgl a) p = true) : ∃ x px y py l pos2 pos, p = .Call (.Name x px) [.Call (.Name y py) [l] [] pos2] [] pos ∧
    (decide (x = tyStr "list") && decide (y = tyStr "range") && glB sc x && glB sc y && decide (x ∈ G.frees) && decide (y ∈ G.frees) && mtE G sc N a l) = true := by
  unfold mtE at h
  split at h <;> first
    | contradiction
    | (rename_i heq; cases heq; exact ⟨_, _, _, _, _, _, _, rfl, h⟩)
theorem rgl2_form {sc : Scope} {N : List Str} {a b : E} {p : Expr} (h : mtE G sc N (.rgl2 a b) p = true) : ∃ x px y py l r pos2 pos, p = .Call (.Name x px) [.Call (.Name y py) [l, r] [] pos2] [] pos ∧
    (decide (x = tyStr "list") && decide (y = tyStr "range") && glB sc x && glB sc y && decide (x ∈ G.frees) && decide (y ∈ G.frees) && mtE G sc N a l && mtE G sc N b r) = true := by
  unfold mtE at h
  split at h <;> first
    | contradiction
    | (rename_i heq; cases heq; exact ⟨_, _, _, _, _, _, _, _, rfl, h⟩)
theorem rvs_form {sc : Scope} {N : List Str} {a : E} {p : Expr} (h : mtE G sc N (.rvs a) p = true) : ∃ l k p1 p2 p3 pos, p = .Subscript l (.Slice none none (some (.UnaryOp .USub (.Constant (.int 1) k p1) p2)) p3) pos ∧ mtE G sc N a l = true := by
  unfold mtE at h
  split at h <;> first
    | contradiction
    | (rename_i heq; cases heq; exact ⟨_, _, _, _, _, _, rfl, h⟩)
theorem all_ok : ∀ e : E, Cl G lv C e
  | .c v => .of (fun X sc N top p L c h => by
      cases p with
      | Constant k n pos =>
        exact .plain (d_const (of_decide_eq_true h)) rfl rfl
      | _ => cases h) (fun _ _ ps => by cases ps <;> rfl) (fun _ _ ps => by cases ps <;> rfl)
  | .v i => .of (fun X sc N top p L c h => by
      cases p with
      | Name x pos =>
        simp only [mtE, visB, Bool.and_eq_true, decide_eq_true_eq, Bool.not_eq_true'] at h
        obtain ⟨h1, ⟨h2, h3⟩, h4⟩ := h
        refine .plain (d_var (by rw [c.hN]; exact h1) ?_ h3 h4) rfl rfl
        unfold Vis
        rw [c.hsc]
        split at h2 <;> first | exact .inl (by assumption) | exact .inr (.inl (by assumption)) | exact .inr (.inr (by assumption)) | cases h2
      | _ => cases h) (fun _ _ ps => by cases ps <;> rfl) (fun _ _ ps => by cases ps <;> rfl)
  | .g x v => .of (fun X sc N top p L c h => by
      cases p with
      | Name y pos =>
        simp only [mtE, Bool.and_eq_true, decide_eq_true_eq] at h
        obtain ⟨⟨⟨rfl, h2⟩, h3⟩, _⟩ := h
        obtain ⟨g1, g2, g3⟩ := c.gl h2
        obtain ⟨u, y', m1, m2, m3⟩ := L.const _ v h3
        exact .plain (d_glob g1 m1 m2 m3 g2) rfl rfl
      | _ => cases h) (fun _ _ ps => by cases ps <;> rfl) (fun _ _ ps => by cases ps <;> rfl)
  | .nil => by
      refine ⟨fun X sc N top p L c h => ?_, fun X sc N top ps L c h => ?_, fun X sc N top ps L c h => ?_, fun a b z => by cases z⟩
      · cases p <;> cases h
      · cases ps with
        | nil => exact a_nil
        | cons _ _ => cases h
      · cases ps with
        | nil => exact a_nil
        | cons _ _ => cases h
  | .cons a b => by
      refine ⟨fun X sc N top p L c h => ?_, fun X sc N top ps L c h => ?_, fun X sc N top ps L c h => ?_, fun a' b' z => by cases z; exact (all_ok a).one⟩
      · cases p <;> cases h
      · cases ps with
        | nil => cases h
        | cons p ps =>
          simp only [mtL, Bool.and_eq_true] at h
          exact a_cons ((all_ok a).one X sc N top p L c h.1).e ((all_ok b).many X sc N top ps L c h.2) (star_plain h.1 _ _)
      · cases ps with
        | nil => cases h
        | cons p ps =>
          simp only [mtP, Bool.and_eq_true] at h
          exact a_cons ((all_ok a).one X sc N top p L c h.1).e ((all_ok b).plain X sc N top ps L c h.2) (star_plain h.1 _ _)
  | .star a b => by
      refine ⟨fun X sc N top p L c h => ?_, fun X sc N top ps L c h => ?_, fun X sc N top ps L c h => ?_, fun a b z => by cases z⟩
      · cases p <;> cases h
      · cases ps with
        | nil => cases h
        | cons p ps =>
          cases p with
          | Starred p pos =>
            simp only [mtL, Bool.and_eq_true] at h
            exact a_star ((all_ok a).one X sc N top p L c h.1).e ((all_ok b).many X sc N top ps L c h.2)
          | _ => cases h
      · cases ps <;> cases h
  | .tup a => .of (fun X sc N top p L c h => by
      cases p with
      | Tuple l k pos => exact .plain (d_tup ((all_ok a).many X sc N top l L c h)) rfl rfl
      | _ => cases h) (fun _ _ ps => by cases ps <;> rfl) (fun _ _ ps => by cases ps <;> rfl)
  | .lst a => .of (fun X sc N top p L c h => by
      cases p with
      | List l pos => exact .plain (d_lst ((all_ok a).many X sc N top l L c h)) rfl rfl
      | _ => cases h) (fun _ _ ps => by cases ps <;> rfl) (fun _ _ ps => by cases ps <;> rfl)
  | .dct => .of (fun X sc N top p L c h => by
      cases p with
      | Dict l r pos =>
        cases l with
        | nil => cases r with
          | nil => exact .plain d_dct rfl rfl
          | cons _ _ => cases h
        | cons _ _ => cases h
      | _ => cases h) (fun _ _ ps => by cases ps <;> rfl) (fun _ _ ps => by cases ps <;> rfl)
  | .bin op a b => .of (fun X sc N top p L c h => by
      cases p with
      | BinOp l o r pos =>
        simp only [mtE, Bool.and_eq_true, decide_eq_true_eq] at h
        obtain ⟨⟨⟨rfl, h2⟩, h3⟩, h4⟩ := h
        exact .plain (d_bin (b_all _ h2) ((all_ok a).one X sc N top l L c h3).e ((all_ok b).one X sc N top r L c h4).e) rfl rfl
      | _ => cases h) (fun _ _ ps => by cases ps <;> rfl) (fun _ _ ps => by cases ps <;> rfl)
  | .neg a => .of (fun X sc N top p L c h => by
      cases p with
      | UnaryOp o l pos =>
        cases o with
        | USub => exact .plain (d_neg ((all_ok a).one X sc N top l L c h).e) rfl rfl
        | _ => cases h
      | _ => cases h) (fun _ _ ps => by cases ps <;> rfl) (fun _ _ ps => by cases ps <;> rfl)
  | .not a => .of (fun X sc N top p L c h => by
      cases p with
      | UnaryOp o l pos =>
        cases o with
        | Not =>
          have g := (all_ok a).one X sc N top l L c h
          exact .test (d_not g.e) (t_not g.t) rfl rfl
        | _ => cases h
      | _ => cases h) (fun _ _ ps => by cases ps <;> rfl) (fun _ _ ps => by cases ps <;> rfl)
  | .and a b => .of (fun X sc N top p L c h => by
      cases p with
      | BoolOp o l pos =>
        cases o with
        | Or => cases l with
          | nil => cases h
          | cons x l => cases l <;> cases h
        | And =>
          cases l with
          | nil => cases h
          | cons x l => cases l with
            | nil => cases h
            | cons y rest =>
              simp only [mtE, Bool.and_eq_true] at h
              have g := (all_ok a).one X sc N top x L c h.1
              have tail : DE X (.BoolOp .And (y :: rest) pos) (evE C b) ∧ DW X (.BoolOp .And (y :: rest) pos) (evT (evE C b)) := by
                cases rest with
                | nil =>
                  have g2 := (all_ok b).one X sc N top y L c h.2
                  exact ⟨pe_one g2.e, w_one_and g2.t⟩
                | cons z rest =>
                  have g2 := (all_ok b).one X sc N top _ L c h.2
                  exact ⟨g2.e, g2.w rfl⟩
              have w := w_and g.t tail.2
              exact ⟨d_and g.e tail.1, w.pt, fun _ => w, fun z => (by cases z)⟩
      | _ => cases h) (fun _ _ ps => by cases ps <;> rfl) (fun _ _ ps => by cases ps <;> rfl)
  | .or a b => .of (fun X sc N top p L c h => by
      cases p with
      | BoolOp o l pos =>
        cases o with
        | And => cases l with
          | nil => cases h
          | cons x l => cases l <;> cases h
        | Or =>
          cases l with
          | nil => cases h
          | cons x l => cases l with
            | nil => cases h
            | cons y rest =>
              simp only [mtE, Bool.and_eq_true] at h
              have g := (all_ok a).one X sc N top x L c h.1
              have tail : DE X (.BoolOp .Or (y :: rest) pos) (evE C b) ∧ DW X (.BoolOp .Or (y :: rest) pos) (evT (evE C b)) := by
                cases rest with
                | nil =>
                  have g2 := (all_ok b).one X sc N top y L c h.2
                  exact ⟨pe_one g2.e, w_one_or g2.t⟩
                | cons z rest =>
                  have g2 := (all_ok b).one X sc N top _ L c h.2
                  exact ⟨g2.e, g2.w rfl⟩
              have w := w_or g.t tail.2
              exact ⟨d_or g.e tail.1, w.pt, fun _ => w, fun z => (by cases z)⟩
      | _ => cases h) (fun _ _ ps => by cases ps <;> rfl) (fun _ _ ps => by cases ps <;> rfl)
  | .cmp op a b => .of (fun X sc N top p L c h => by
      cases p with
      | Compare l ops rs pos =>
        match ops, rs, h with
        | [o], [r], h =>
          simp only [mtE, Bool.and_eq_true, decide_eq_true_eq, Bool.not_eq_true'] at h
          obtain ⟨⟨⟨rfl, h2⟩, h3⟩, h4⟩ := h
          have g1 := (all_ok a).one X sc N top l L c h3
          have g2 := (all_ok b).one X sc N top r L c h4
          exact .test (d_cmp (c_all c.u64 _) g1.e g2.e h2) (t_cmp (c_all c.u64 _) g1.e g2.e h2) rfl rfl
        | [], _, h => cases h
        | _ :: _ :: _, _, h => cases h
        | [_], [], h => cases h
        | [_], _ :: _ :: _, h => cases h
      | _ => cases h) (fun _ _ ps => by cases ps <;> rfl) (fun _ _ ps => by cases ps <;> rfl)
  | .chain o1 o2 a b d => .of (fun X sc N top p L c h => by
      cases p with
      | Compare l ops rs pos =>
        match ops, rs, h with
        | [p1, p2], [r1, r2], h =>
          simp only [mtE, Bool.and_eq_true, decide_eq_true_eq, Bool.not_eq_true'] at h
          obtain ⟨⟨⟨⟨⟨rfl, rfl⟩, h2⟩, h3⟩, h4⟩, h5⟩ := h
          have g1 := (all_ok a).one X sc N top l L c h3
          have g2 := (all_ok b).one X sc N top r1 L c h4
          have g3 := (all_ok d).one X sc N top r2 L c h5
          exact .test (d_chain (c_all c.u64 _) (c_all c.u64 _) g1.e g2.e g3.e h2) (t_chain (c_all c.u64 _) (c_all c.u64 _) g1.e g2.e g3.e h2) rfl rfl
        | [], _, h => cases h
        | [_], _, h => cases h
        | _ :: _ :: _ :: _, _, h => cases h
        | [_, _], [], h => cases h
        | [_, _], [_], h => cases h
        | [_, _], _ :: _ :: _ :: _, h => cases h
      | _ => cases h) (fun _ _ ps => by cases ps <;> rfl) (fun _ _ ps => by cases ps <;> rfl)
  | .ite t a b => .of (fun X sc N top p L c h => by
      cases p with
      | IfExp t' a' b' pos =>
        simp only [mtE, Bool.and_eq_true] at h
        have g0 := (all_ok t).one X sc N top t' L c h.1.1
        have g1 := (all_ok a).one X sc N top a' L c h.1.2
        have g2 := (all_ok b).one X sc N top b' L c h.2
        exact .test (d_ite g0.t g1.e g2.e) (t_ite g0.t g1.t g2.t) rfl rfl
      | _ => cases h) (fun _ _ ps => by cases ps <;> rfl) (fun _ _ ps => by cases ps <;> rfl)
  | .call f es => .of (fun X sc N top p L c h => by
      cases p with
      | Call fn l kw pos =>
        cases fn with
        | Name x px =>
          cases kw with
          | cons _ _ => cases h
          | nil =>
            simp only [mtE, Bool.and_eq_true, decide_eq_true_eq] at h
            obtain ⟨⟨h1, h2⟩, h3⟩ := h
            obtain ⟨g1, g2, g3⟩ := c.gl h2
            obtain ⟨fa, fd, ps, m1, m2, m3, m4, m5⟩ := L.fn _ _ h1
            refine .plain (d_call m4 m5 c.room c.gd g1 m1 m2 m3 ((all_ok es).plain X sc N top l L c h3) g2 (fun e r hr => ?_) fun hr env st => ?_) rfl rfl
            · subst hr
              have h3' := h3
              cases es <;> first | (cases h3; done) | skip
              simp only [mtP, Bool.and_eq_true] at h3
              exact ⟨star_plain h3.1 _ _, mtP_plain _ _ h3.2⟩
            · subst hr
              rw [mtP_nil h3]
              rfl
        | _ => cases h
      | _ => cases h) (fun _ _ ps => by cases ps <;> rfl) (fun _ _ ps => by cases ps <;> rfl)
  | .bc b es => .of (fun X sc N top p L c h => by
      cases p with
      | Call fn l kw pos =>
        cases fn with
        | Name x px =>
          cases kw with
          | cons _ _ => cases h
          | nil =>
            simp only [mtE, Bool.and_eq_true, decide_eq_true_eq, Bool.not_eq_true'] at h
            obtain ⟨⟨⟨⟨h1, h2⟩, h3⟩, h4⟩, h5⟩ := h
            obtain ⟨g1, g2, g3⟩ := c.gl h2
            unfold bltName at h1
            rw [Option.map_eq_some_iff] at h1
            obtain ⟨i, h1, h6⟩ := h1
            cases l with
            | nil => cases h4
            | cons e r =>
              cases es <;> first | (cases h5; done) | skip
              have h5' := h5
              simp only [mtP, Bool.and_eq_true] at h5
              exact .plain (d_blt h1 (bl_ok c.calm c.gd c.u100 h1) h6.symm g1 (L.free _ h3) ((all_ok (.cons _ _)).plain X sc N top _ L c h5') g3 g2 (star_plain h5.1 _ _) (mtP_plain _ _ h5.2)) rfl rfl
        | _ => cases h
      | _ => cases h) (fun _ _ ps => by cases ps <;> rfl) (fun _ _ ps => by cases ps <;> rfl)
  | .isi a t => .of (fun X sc N top p L c h => by
      cases p with
      | Call fn l kw pos =>
        cases fn with
        | Name x px =>
          cases kw with
          | cons _ _ => cases l <;> first | (cases h; done) | (rename_i q l; cases l <;> first | (cases h; done) | (rename_i q l; cases l <;> cases q <;> cases h))
          | nil =>
            cases l with
            | nil => cases h
            | cons l r => cases r with
              | nil => cases h
              | cons q r => cases r with
                | cons _ _ => cases q <;> cases h
                | nil =>
                  cases q <;> first | (cases h; done) | skip
                  simp only [mtE, Bool.and_eq_true, decide_eq_true_eq] at h
                  obtain ⟨⟨⟨⟨⟨⟨⟨h1, h2⟩, h3⟩, h4⟩, h5⟩, h6⟩, h7⟩, h8⟩ := h
                  exact .plain (d_isi h1 h2 h7 (c.gl h3).1 (c.gl h4).1 (L.free _ h5) (L.free _ h6) ((all_ok a).one X sc N top l L c h8).e (star_plain h8 _ _)) rfl rfl
        | _ => cases h
      | _ => cases h) (fun _ _ ps => by cases ps <;> rfl) (fun _ _ ps => by cases ps <;> rfl)
  | .idx a i => .of (fun X sc N top p L c h => by
      cases p with
      | Subscript l r pos =>
        simp only [mtE, Bool.and_eq_true] at h
        obtain ⟨⟨h1, h2⟩, h3⟩ := h
        refine .plain (d_idx ((all_ok a).one X sc N top l L c h2).e ((all_ok i).one X sc N top r L c h3).e fun o j => ?_) rfl rfl
        cases r <;> first | rfl | cases h1
      | _ => cases h) (fun _ _ ps => by cases ps <;> rfl) (fun _ _ ps => by cases ps <;> rfl)
  | .sl a lo hi => .of (fun X sc N top p L c h => by
      cases p with
      | Subscript l r pos =>
        cases r with
        | Slice pl ph ps p2 =>
          cases ps with
          | some _ => cases h
          | none =>
            simp only [mtE, Bool.and_eq_true] at h
            obtain ⟨⟨h1, h2⟩, h3⟩ := h
            refine .plain (d_sl ((all_ok a).one X sc N top l L c h1).e (g := partR (isNil lo) (evE C lo)) (k := partR (isNil hi) (evE C hi)) ?_ ?_) rfl rfl
            · cases pl with
              | none =>
                simp only at h2
                rw [h2]
                exact o_none
              | some q =>
                simp only [Bool.and_eq_true, Bool.not_eq_true'] at h2
                rw [h2.1]
                exact o_some ((all_ok lo).one X sc N top q L c h2.2).e
            · cases ph with
              | none =>
                simp only at h3
                rw [h3]
                exact o_none
              | some q =>
                simp only [Bool.and_eq_true, Bool.not_eq_true'] at h3
                rw [h3.1]
                exact o_some ((all_ok hi).one X sc N top q L c h3.2).e
        | _ => cases h
      | _ => cases h) (fun _ _ ps => by cases ps <;> rfl) (fun _ _ ps => by cases ps <;> rfl)
  | .app o x => .of (fun X sc N top p L c h => by
      cases p with
      | Call fn l kw pos =>
        cases fn with
        | Attribute q m apos =>
          match l, kw, h with
          | [r], [], h =>
            simp only [mtE, Bool.and_eq_true, decide_eq_true_eq] at h
            obtain ⟨⟨⟨⟨rfl, h2⟩, h3⟩, h4⟩, h5⟩ := h
            exact .plain (d_m1 PySem.F.slot_list_append PySem.F.type_list_append m_app ((all_ok o).one X sc N top q L c h4).e ((all_ok x).one X sc N top r L c h5).e h2 h3 fun es => star_plain h5 _ _) rfl rfl
          | [], _, h => cases h
          | [_], _ :: _, h => cases h
          | _ :: _ :: _, _, h => cases h
        | _ => cases h
      | _ => cases h) (fun _ _ ps => by cases ps <;> rfl) (fun _ _ ps => by cases ps <;> rfl)
  | .ext o x => .of (fun X sc N top p L c h => by
      cases p with
      | Call fn l kw pos =>
        cases fn with
        | Attribute q m apos =>
          match l, kw, h with
          | [r], [], h =>
            simp only [mtE, Bool.and_eq_true, decide_eq_true_eq] at h
            obtain ⟨⟨⟨⟨rfl, h2⟩, h3⟩, h4⟩, h5⟩ := h
            exact .plain (d_m1 PySem.F.slot_list_extend PySem.F.type_list_extend m_ext ((all_ok o).one X sc N top q L c h4).e ((all_ok x).one X sc N top r L c h5).e h2 h3 fun es => star_plain h5 _ _) rfl rfl
          | [], _, h => cases h
          | [_], _ :: _, h => cases h
          | _ :: _ :: _, _, h => cases h
        | _ => cases h
      | _ => cases h) (fun _ _ ps => by cases ps <;> rfl) (fun _ _ ps => by cases ps <;> rfl)
  | .pop o => .of (fun X sc N top p L c h => by
      cases p with
      | Call fn l kw pos =>
        cases fn with
        | Attribute q m apos =>
          match l, kw, h with
          | [], [], h =>
            simp only [mtE, Bool.and_eq_true, decide_eq_true_eq] at h
            obtain ⟨⟨⟨rfl, h2⟩, h3⟩, h4⟩ := h
            exact .plain (d_m0 PySem.F.slot_list_pop PySem.F.type_list_pop m_pop ((all_ok o).one X sc N top q L c h4).e h2 h3 fun u st z st' => pop_isL) rfl rfl
          | [], _ :: _, h => cases h
          | _ :: _, _, h => cases h
        | _ => cases h
      | _ => cases h) (fun _ _ ps => by cases ps <;> rfl) (fun _ _ ps => by cases ps <;> rfl)
  | .lc elt own tg one ib it cnd => .of (fun X sc N top p L c h => by
      cases p with
      | ListComp elt' gs scope pos =>
        cases gs with
        | nil => cases h
        | cons g0 gr =>
        obtain ⟨t', it', ifs, as⟩ := g0
        cases gr with
        | cons _ _ => cases h
        | nil =>
          simp only [mtE, Bool.and_eq_true, decide_eq_true_eq] at h
          obtain ⟨⟨⟨⟨⟨⟨⟨h1, h2⟩, h3⟩, h4⟩, h5⟩, h6⟩, h7⟩, h8⟩ := h
          subst h1
          have okB : BlkOk X.N X.env.scope scope (ownL N own) := by
            rw [c.hN, c.hsc]
            exact blkOk_by h2
          have cb := fun s H Ca cl fp => blk_cxt c okB.kind s H Ca cl fp
          have hsub : ∀ i ∈ tg, i ∈ own := fun i hi => by
            have := List.all_eq_true.mp h5 i hi
            simpa using this
          have hi := iter_ok (tgE := t') L c (all_ok it) h6
          have hg : ∀ s H Ca cl fp, PG (X.blk s H scope (compEnvC scope cl Ca X.env) fp) t' (TGv X.K tg (setTg tg one)) := fun s H Ca cl fp => g_ok (cb s H Ca cl fp) h4
          have he : ∀ s H Ca cl fp, PE (X.blk s H scope (compEnvC scope cl Ca X.env) fp) elt' (TEv X.K (evE C elt)) := fun s H Ca cl fp => ((all_ok elt).one (X.blk s H scope (compEnvC scope cl Ca X.env) fp) _ _ _ elt' L (cb s H Ca cl fp) h8).e
          have ht : ∀ s H Ca cl fp, PTs (X.blk s H scope (compEnvC scope cl Ca X.env) fp) ifs (TTv X.K (cndR (isNil cnd) (evE C cnd))) := fun s H Ca cl fp => cnd_ok L (cb s H Ca cl fp) (all_ok cnd) h7
          have hN : X.N.Nodup := by rw [c.hN]; exact c.nd
          have imp := d_lc c hi.1 okB h3 hg ht he (hi.2 _) hsub
          have de : DE X (.ListComp elt' [⟨t', it', ifs, 0⟩] scope pos) (evE C (.lc elt own tg one ib it cnd)) := (pe_lc c.calm hN hi.1 okB hg ht he (hi.2 _)).ti imp
          refine ⟨de, t_plain de rfl, fun z => (by cases z), fun _ i y py spos hy hyl hsw => ?_⟩
          refine (ps_setLc c.calm hN hy hyl hsw hi.1 okB hg ht he (hi.2 _)).ti fun D σ H q => ?_
          obtain ⟨μ, env, st, er, sr, q⟩ := q
          obtain ⟨v, st1, h9, q⟩ := fl_ok q
          exact imp σ H _ ⟨μ, env, st, v, st1, er, sr, h9, fun μ1 H1 x e1 s1 r1 => q μ1 H1 _ e1 ((er.mono e1).set r1) s1⟩
      | _ => cases h) (fun _ _ ps => by cases ps <;> rfl) (fun _ _ ps => by cases ps <;> rfl)
  | .rgl a => .of (fun X sc N top p L c h => by
      obtain ⟨x, px, y, py, l, pos2, pos, rfl, hh⟩ := rgl_form h
      simp only [Bool.and_eq_true, decide_eq_true_eq] at hh
      obtain ⟨⟨⟨⟨⟨⟨h1, h2⟩, h3⟩, h4⟩, h5⟩, h6⟩, h7⟩ := hh
      exact .plain (d_rgl h1 h2 (c.gl h3).1 (L.free _ h5) (c.gl h4).1 (L.free _ h6) c.calm ((all_ok a).one X sc N top l L c h7).e (star_plain h7 _ _)) rfl rfl) (fun _ _ ps => by cases ps <;> rfl) (fun _ _ ps => by cases ps <;> rfl)
  | .rgl2 a b => .of (fun X sc N top p L c h => by
      obtain ⟨x, px, y, py, l, r, pos2, pos, rfl, hh⟩ := rgl2_form h
      simp only [Bool.and_eq_true, decide_eq_true_eq] at hh
      obtain ⟨⟨⟨⟨⟨⟨⟨h1, h2⟩, h3⟩, h4⟩, h5⟩, h6⟩, h7⟩, h8⟩ := hh
      exact .plain (d_rgl2 h1 h2 (c.gl h3).1 (L.free _ h5) (c.gl h4).1 (L.free _ h6) c.calm ((all_ok a).one X sc N top l L c h7).e ((all_ok b).one X sc N top r L c h8).e (star_plain h7 _ _) (star_plain h8 _ _) (by rw [star_plain h8]; rfl)) rfl rfl) (fun _ _ ps => by cases ps <;> rfl) (fun _ _ ps => by cases ps <;> rfl)
  | .rvs a => .of (fun X sc N top p L c h => by
      obtain ⟨l, k, p1, p2, p3, pos, rfl, hh⟩ := rvs_form h
      exact .plain (d_rvs ((all_ok a).one X sc N top l L c hh).e) rfl rfl) (fun _ _ ps => by cases ps <;> rfl) (fun _ _ ps => by cases ps <;> rfl)
  | .lc2 elt own tg one ib it cnd own1 tg1 one1 ib1 it1 cnd1 => .of (fun X sc N top p L c h => by
      cases p with
      | ListComp elt' gs scope pos =>
        match gs, h with
        | [], h => cases h
        | [⟨_, _, _, _⟩], h => exact absurd h (by simp [mtE])
        | ⟨_, _, _, _⟩ :: ⟨_, _, _, _⟩ :: _ :: _, h => exact absurd h (by simp [mtE])
        | [⟨t', it', ifs, as⟩, ⟨t1, it1', ifs1, as1⟩], h =>
          simp only [mtE, Bool.and_eq_true, decide_eq_true_eq] at h
          obtain ⟨⟨⟨⟨⟨⟨z1, z2⟩, h2⟩, h3⟩, ⟨⟨⟨h4, h5⟩, h6⟩, h7⟩⟩, ⟨⟨⟨⟨k4, k5⟩, k9⟩, k6⟩, k7⟩⟩, h8⟩ := h
          subst z1 z2
          have okB : BlkOk X.N X.env.scope scope (ownL N own) := by
            rw [c.hN, c.hsc]
            exact blkOk_by h2
          have cb := fun s H Ca cl fp => blk_cxt c okB.kind s H Ca cl fp
          have mem : ∀ {a b : List Nat}, a.all b.contains = true → ∀ i ∈ a, i ∈ b := fun {a b} z i hi => by
            have := List.all_eq_true.mp z i hi
            simpa using this
          have hi := iter_ok (tgE := t') L c (all_ok it) h6
          have hg : ∀ s H Ca cl fp, PG (X.blk s H scope (compEnvC scope cl Ca X.env) fp) t' (TGv X.K tg (setTg tg one)) := fun s H Ca cl fp => g_ok (cb s H Ca cl fp) h4
          have he : ∀ s H Ca cl fp, PE (X.blk s H scope (compEnvC scope cl Ca X.env) fp) elt' (TEv X.K (evE C elt)) := fun s H Ca cl fp => ((all_ok elt).one (X.blk s H scope (compEnvC scope cl Ca X.env) fp) _ _ _ elt' L (cb s H Ca cl fp) h8).e
          have ht : ∀ s H Ca cl fp, PTs (X.blk s H scope (compEnvC scope cl Ca X.env) fp) ifs (TTv X.K (cndR (isNil cnd) (evE C cnd))) := fun s H Ca cl fp => cnd_ok L (cb s H Ca cl fp) (all_ok cnd) h7
          have hi1 : ∀ s H Ca cl fp, PI (X.blk s H scope (compEnvC scope cl Ca X.env) fp) t1 it1' (TIv X.K (iterR ib1 (evE C it1) (evL C it1))) := fun s H Ca cl fp => (iter_ok (X := X.blk s H scope (compEnvC scope cl Ca X.env) fp) (tgE := t1) L (cb s H Ca cl fp) (all_ok it1) k6).1
          have hs1 : ∀ env x, foldedSetIterable it1' env x = pure x := iter_fold k6
          have hg1 : ∀ s H Ca cl fp, PG (X.blk s H scope (compEnvC scope cl Ca X.env) fp) t1 (TGv X.K tg1 (setTg tg1 one1)) := fun s H Ca cl fp => g_ok (cb s H Ca cl fp) k4
          have ht1 : ∀ s H Ca cl fp, PTs (X.blk s H scope (compEnvC scope cl Ca X.env) fp) ifs1 (TTv X.K (cndR (isNil cnd1) (evE C cnd1))) := fun s H Ca cl fp => cnd_ok L (cb s H Ca cl fp) (all_ok cnd1) k7
          have hN : X.N.Nodup := by rw [c.hN]; exact c.nd
          have hv : ∀ i ∈ own1, i ∈ (ownL N own).map (·.2) := by rw [h3]; exact mem k9
          have imp := fun σ H Q => d_lc2 (X := X) (own := own) (own1 := own1) (tg := tg) (tg1 := tg1) (one := one) (one1 := one1) (fi := iterR ib (evE C it) (evL C it)) (fi1 := iterR ib1 (evE C it1) (evL C it1)) (fb := cndR (isNil cnd) (evE C cnd)) (fb1 := cndR (isNil cnd1) (evE C cnd1)) (fe := evE C elt) (mem h5) (mem k5) σ H Q
          have pl := pe_lc2 (vs1 := own1) (pos := pos) c.calm hN hi.1 okB hv hg ht hi1 hg1 ht1 he (hi.2 _) hs1
          rw [h3] at pl
          have de : DE X (.ListComp elt' [⟨t', it', ifs, 0⟩, ⟨t1, it1', ifs1, 0⟩] scope pos) (evE C (.lc2 elt own tg one ib it cnd own1 tg1 one1 ib1 it1 cnd1)) := pl.ti imp
          refine ⟨de, t_plain de rfl, fun z => (by cases z), fun _ i y py spos hy hyl hsw => ?_⟩
          have ps := ps_setLc2 (vs1 := own1) c.calm hN hy hyl hsw hi.1 okB hv hg ht hi1 hg1 ht1 he (hi.2 _) hs1
          rw [h3] at ps
          refine ps.ti fun D σ H q => ?_
          obtain ⟨μ, env, st, er, sr, q⟩ := q
          obtain ⟨v, st1, h9, q⟩ := fl_ok q
          exact imp σ H _ ⟨μ, env, st, v, st1, er, sr, h9, fun μ1 H1 x e1 s1 r1 => q μ1 H1 _ e1 ((er.mono e1).set r1) s1⟩
      | _ => cases h) (fun _ _ ps => by cases ps <;> rfl) (fun _ _ ps => by cases ps <;> rfl)
end
end TT
set_option Elab.async false
set_option linter.all false
set_option maxRecDepth 100000
set_option maxHeartbeats 8000000
/-! All statements; defs. -/
namespace TT
open PySem L2 PySem.Spec PyProof.Rows

def isComp : Expr → Bool
  | .ListComp _ _ _ _ => true
  | .SetComp _ _ _ _ => true
  | .DictComp _ _ _ _ _ => true
  | _ => false
def isTup : Expr → Bool
  | .Tuple _ _ _ => true
  | .List _ _ => true
  | _ => false
/-- a tuple of constants, stored by way of a tuple -/
def foldTup : Expr → Bool
  | .Tuple vs _ _ => vs.all (foldedForSure 8) && !vs.any fun | .Starred .. => true | _ => false
  | e => !isTup e
def parB (sc : Scope) (N : List Str) (i j : Nat) (x y : Str) (px py : Pos) (a b : Expr) : Bool :=
  decide (N[i]? = some x) && decide (N[j]? = some y) && decide (i ≠ j) && decide (x ≠ y) && decide (sc.names.lookup x = some .local) && decide (sc.names.lookup y = some .local) && (px.line == py.line) &&
    !(foldedForSure 8 a && foldedForSure 8 b) && !(constantsAlone 8 a && constantsAlone 8 b)
section
variable (G : Gm) (sc : Scope) (N : List Str)
mutual
def mtS : S → Stmt → Bool
  | .pass, .Pass _ => true
  | .set i e, .Assign [t] p _ => (match t with | .Name _ _ => true | _ => false) && tgN true sc N i t && mtE G sc N e p
  | .asg is e, .Assign [.Tuple es _ _] p _ => tgNs true sc N is es && foldTup p && mtE G sc N e p
  | .par i j a b, .Assign [.Tuple [.Name x px, .Name y py] _ _] (.Tuple [a', b'] _ _) _ => parB sc N i j x y px py a' b' && mtE G sc N a a' && mtE G sc N b b'
  | .store o i e, .Assign [.Subscript o' i' _] p _ => plainSl i' && mtE G sc N o o' && mtE G sc N i i' && mtE G sc N e p
  | .aug i op e, .AugAssign t o p _ => (match t with | .Name _ _ => true | _ => false) && decide (o = op) && tgN true sc N i t && [Operator.Add, .Sub].contains op && mtE G sc N e p
  | .expr e, .Expr p _ => !isComp p && mtE G sc N e p
  | .ret e, .Return (some p) _ => mtE G sc N e p
  | .retN, .Return none _ => true
  | .iff c a b, .If p x y _ => mtE G sc N c p && mtB a x && mtB b y
  | .for tg one ib it b, .For t it' body [] _ => mtTg true sc N tg one t && iterM (mtE G sc N it) (mtP G sc N it) G sc ib it' t && mtB b body
  | .while _ c b, .While p body [] _ => mtE G sc N c p && mtB b body
  | .brk, .Break _ => true
  | .cont, .Continue _ => true
  | .never, _ => true
  | _, _ => false
def mtB : S → List Stmt → Bool
  | .skip, [] => true
  | .seq a b, p :: ps => mtS a p && mtB b ps
  | _, _ => false
end
end
theorem sw_plain {p : Expr} {t : Option Expr} {l : Nat} {env : PySem.Env} (h : isComp p = false) : swapsWith p t l env = pure false := by
  cases p <;> first | rfl | cases h
theorem sw_target {p t : Expr} {l : Nat} {env : PySem.Env} (h : (match t with | .Name _ _ => false | _ => true) = true) : swapsWithSole [t] p l env = pure false := by
  show swapsWith p (some t) l env = pure false
  cases t <;> first | (cases h; done) | (cases p <;> rfl)
theorem sw_lc {elt : Expr} {gs : List Comprehension} {s : Scope} {pos px : Pos} {x : Str} {l : Nat} {env : PySem.Env} :
    swapsWith (.ListComp elt gs s pos) (some (.Name x px)) l env = pure (env.blockKind == .function && env.kindOf x == some .local && px.line == pos.line && !(s.names.any fun (n, k) => n == x && (k == .local || k == .cell))) := rfl
theorem sw_store {ts : List Expr} {p : Expr} {env : PySem.Env} (h : isTup p = false) : swappedStores ts p env = pure none := by
  unfold swappedStores
  cases p <;> first | (cases h; done) | (cases ts with
    | nil => rfl
    | cons t ts => cases ts with
      | nil => cases t <;> rfl
      | cons _ _ => cases t <;> rfl)
theorem sw_store_sub {o i p : Expr} {p2 : Pos} {env : PySem.Env} : swappedStores [.Subscript o i p2] p env = pure none := by
  unfold swappedStores
  cases p <;> rfl
theorem sw_fold {es vs : List Expr} {k k2 : Nat} {p p2 : Pos} {env : PySem.Env} (h : vs.all (foldedForSure 8) = true) (hs : (vs.any fun | .Starred .. => true | _ => false) = false) : swappedStores [.Tuple es k p] (.Tuple vs k2 p2) env = pure none := by
  unfold swappedStores
  simp only [h, hs]
  split
  · rfl
  · simp only [Bool.false_eq_true, if_false, if_true]
    split
    · rfl
    · split <;> rfl
def isStar : Expr → Bool
  | .Starred _ _ => true
  | _ => false
theorem sw_par {x y : Str} {px py pt pt2 : Pos} {kt k2 : Nat} {a b : Expr} {env : PySem.Env} (hk : env.scope.kind = .function) (hx : env.scope.names.lookup x = some .local) (hy : env.scope.names.lookup y = some .local) (hl : (px.line == py.line) = true) (hne : x ≠ y)
    (h1 : (foldedForSure 8 a && foldedForSure 8 b) = false) (h2 : (constantsAlone 8 a && constantsAlone 8 b) = false) (hsa : isStar a = false) (hsb : isStar b = false) :
    swappedStores [.Tuple [.Name x px, .Name y py] kt pt] (.Tuple [a, b] k2 pt2) env = pure (some [x, y]) := by
  have hb : env.blockKind = .function := by unfold Env.blockKind; rw [hk]; rfl
  have kx : env.kindOf x = some .local := hx
  have ky : env.kindOf y = some .local := hy
  have hl' : (py.line == px.line) = true := by rw [beq_iff_eq] at hl ⊢; exact hl.symm
  have ha : ([a, b] : List Expr).all (foldedForSure 8) = false := by simpa using h1
  have hc : ([a, b] : List Expr).all (constantsAlone 8) = false := by simpa using h2
  have hne' : (y == x) = false := beq_eq_false_iff_ne.mpr (Ne.symm hne)
  unfold swappedStores
  simp only [hb, List.any_cons, List.any_nil, Bool.or_false, ha, hc, List.length_cons, List.length_nil, List.filterMap_cons, List.filterMap_nil, kx, ky, List.head?_cons, Option.map_some, Option.getD_some, Expr.pos, hl', beq_self_eq_true, Bool.and_self, if_true]
  simp [List.eraseDups_cons, hne', List.filter]
  intro z
  exfalso
  rcases z with z | z
  · cases a <;> first | (cases z; done) | cases hsa
  · cases b <;> first | (cases z; done) | cases hsb

theorem mt_nostar {G : Gm} {sc : Scope} {N : List Str} {e : E} {p : Expr} (h : mtE G sc N e p = true) : isStar p = false := by
  cases p <;> first
    | rfl
    | (rw [mtE_starred] at h; cases h)
section
variable {G : Gm} {lv : Nat} {C : CallF}
theorem s_set {X : Cx} {sc : Scope} {N : List Str} {t p : Expr} {i : Nat} {e : E} {pos : Pos} (L : Lnk G X.prog X.w X.K X.mg X.base lv C) (c : Cxt lv X sc N true) (ht : (match t with | .Name _ _ => true | _ => false) = true) (hg : tgN true sc N i t = true) (h : mtE G sc N e p = true) :
    DS X (.Assign [t] p pos) (fun env st => (evE C e env st).fl fun v st1 => .nx (setN i v env) st1) := by
  have g := (all_ok (C := C) e).one X sc N true p L c h
  obtain ⟨x, px, rfl, h1, h2, h3⟩ := tgN_ok c hg
  have hN : X.N.Nodup := by rw [c.hN]; exact c.nd
  have plainly : swapsWith p (some (.Name x px)) pos.line X.env = pure false → DS X (.Assign [.Name x px] p pos) (fun env st => (evE C e env st).fl fun v st1 => .nx (setN i v env) st1) := fun hs =>
    (ps_set hN h1 h2 g.e hs h3).ti fun D σ H ⟨μ, env, st, er, s, q⟩ => by
      obtain ⟨v, st1, h4, q⟩ := fl_ok q
      exact ⟨μ, env, st, v, st1, er, s, h4, fun μ1 H1 x e1 s1 r1 => q μ1 H1 _ e1 ((er.mono e1).set r1) s1⟩
  cases p with
  | ListComp elt gs s ppos =>
    by_cases hb : (X.env.blockKind == .function && X.env.kindOf x == some .local && px.line == ppos.line && !(s.names.any fun (n, k) => n == x && (k == .local || k == .cell))) = true
    · have hl : X.env.scope.names.lookup x = some .local := by
        simp only [Bool.and_eq_true, beq_iff_eq] at hb
        exact hb.1.1.2
      exact g.a rfl i x px pos h1 hl (by rw [sw_lc, hb])
    · exact plainly (by rw [sw_lc, Bool.eq_false_iff.mpr hb])
  | SetComp _ _ _ _ => cases e <;> cases h
  | DictComp _ _ _ _ _ => cases e <;> cases h
  | _ => exact plainly (sw_plain rfl)
theorem block_kind {X : Cx} {sc : Scope} {N : List Str} {top : Bool} (c : Cxt lv X sc N top) : X.env.scope.kind = .function := by rw [c.hsc]; exact c.kind
structure ClS (G : Gm) (lv : Nat) (C : CallF) (s : S) : Prop where
  one : ∀ (X : Cx) (sc : Scope) (N : List Str) (p : Stmt), Lnk G X.prog X.w X.K X.mg X.base lv C → Cxt lv X sc N true → mtS G sc N s p = true → DS X p (evS C s)
  many : ∀ (X : Cx) (sc : Scope) (N : List Str) (ps : List Stmt), Lnk G X.prog X.w X.K X.mg X.base lv C → Cxt lv X sc N true → mtB G sc N s ps = true → DSs X ps (evS C s)
theorem ClS.of {s : S} (h : ∀ (X : Cx) (sc : Scope) (N : List Str) (p : Stmt), Lnk G X.prog X.w X.K X.mg X.base lv C → Cxt lv X sc N true → mtS G sc N s p = true → DS X p (evS C s)) (h2 : ∀ sc N ps, mtB G sc N s ps = false) : ClS G lv C s :=
  ⟨h, fun X sc N ps _ _ q => (by rw [h2] at q; cases q)⟩
theorem par_form {sc : Scope} {N : List Str} {i j : Nat} {a b : E} {p : Stmt} (h : mtS G sc N (.par i j a b) p = true) : ∃ (x y : Str) (px py : Pos) (k : Nat) (tp : Pos) (a' b' : Expr) (k2 : Nat) (tp2 pos : Pos), p = .Assign [.Tuple [.Name x px, .Name y py] k tp] (.Tuple [a', b'] k2 tp2) pos ∧
    (parB sc N i j x y px py a' b' && mtE G sc N a a' && mtE G sc N b b') = true := by
  unfold mtS at h
  split at h <;> first
    | (cases h; done)
    | (rename_i heq; cases heq; done)
    | (rename_i heq; cases heq; exact ⟨_, _, _, _, _, _, _, _, _, _, _, rfl, h⟩)
theorem all_okS : ∀ s : S, ClS G lv C s
  | .skip => ⟨fun X sc N p L c h => (by cases p <;> cases h), fun X sc N ps L c h => (by
      cases ps with
      | nil => exact ss_nil
      | cons _ _ => cases h)⟩
  | .seq a b => ⟨fun X sc N p L c h => (by cases p <;> cases h), fun X sc N ps L c h => (by
      cases ps with
      | nil => cases h
      | cons p ps =>
        simp only [mtB, Bool.and_eq_true] at h
        exact ss_cons ((all_okS a).one X sc N p L c h.1) ((all_okS b).many X sc N ps L c h.2))⟩
  | .pass => .of (fun X sc N p L c h => by
      cases p with
      | Pass pos => exact s_next ps_pass
      | _ => cases h) fun _ _ ps => by cases ps <;> rfl
  | .set i e => .of (fun X sc N p L c h => by
      cases p with
      | Assign ts p pos =>
        cases ts with
        | nil => cases h
        | cons t ts => cases ts with
          | cons _ _ => cases h
          | nil =>
            simp only [mtS, Bool.and_eq_true] at h
            exact s_set L c h.1.1 h.1.2 h.2
      | _ => cases h) fun _ _ ps => by cases ps <;> rfl
  | .asg is e => .of (fun X sc N p L c h => by
      cases p with
      | Assign ts p pos =>
        cases ts with
        | nil => cases h
        | cons t ts => cases ts with
          | cons _ _ => cases t <;> cases h
          | nil =>
            cases t <;> first | (cases h; done) | skip
            simp only [mtS, Bool.and_eq_true] at h
            obtain ⟨⟨h1, h2⟩, h3⟩ := h
            have g := (all_ok (C := C) e).one X sc N true p L c h3
            refine s_asg (t := setTg is false) (g_ok (one := false) c (by unfold mtTg; exact h1)) g.e (sw_target rfl) ?_ rfl
            unfold foldTup at h2
            split at h2
            · simp only [Bool.and_eq_true, Bool.not_eq_true'] at h2
              exact sw_fold h2.1 h2.2
            · exact sw_store (by simpa using h2)
      | _ => cases h) fun _ _ ps => by cases ps <;> rfl
  | .par i j a b => .of (fun X sc N p L c h => by
      obtain ⟨x, y, px, py, k, tp, v1, v2, k2, tp2, pos, rfl, hp⟩ := par_form h
      simp only [parB, Bool.and_eq_true, decide_eq_true_eq, Bool.not_eq_true'] at hp
      obtain ⟨⟨⟨⟨⟨⟨⟨⟨⟨⟨h1, h2⟩, h3⟩, h4⟩, h5⟩, h6⟩, h7⟩, h8⟩, h9⟩, h10⟩, h11⟩ := hp
      have g1 := (all_ok (C := C) a).one X sc N true v1 L c h10
      have g2 := (all_ok (C := C) b).one X sc N true v2 L c h11
      rw [← c.hsc] at h5 h6
      rw [← c.hN] at h1 h2
      exact s_par c.calm (by rw [c.hN]; exact c.nd) h1 h2 h3 h5 h6 g1.e g2.e (star_plain h10 _ _) (star_plain h11 _ _)
        (sw_par (block_kind c) h5 h6 h7 h4 h8 h9 (mt_nostar h10) (mt_nostar h11)) (sw_target rfl)) fun _ _ ps => by cases ps <;> rfl
  | .store o i e => .of (fun X sc N p L c h => by
      cases p with
      | Assign ts p pos =>
        cases ts with
        | nil => cases h
        | cons t ts => cases ts with
          | cons _ _ => cases t <;> cases h
          | nil =>
            cases t <;> first | (cases h; done) | skip
            simp only [mtS, Bool.and_eq_true] at h
            obtain ⟨⟨⟨h1, h2⟩, h3⟩, h4⟩ := h
            exact s_store h1 ((all_ok (C := C) o).one X sc N true _ L c h2).e ((all_ok (C := C) i).one X sc N true _ L c h3).e ((all_ok (C := C) e).one X sc N true p L c h4).e (sw_target rfl) sw_store_sub
      | _ => cases h) fun _ _ ps => by cases ps <;> rfl
  | .aug i op e => .of (fun X sc N p L c h => by
      cases p with
      | AugAssign t o p pos =>
        simp only [mtS, Bool.and_eq_true, decide_eq_true_eq] at h
        obtain ⟨⟨⟨⟨h1, rfl⟩, h3⟩, h4⟩, h5⟩ := h
        obtain ⟨x, px, rfl, q1, q2, q3⟩ := tgN_ok c h3
        exact s_aug (by rw [c.hN]; exact c.nd) q1 q2 q3 ((all_ok (C := C) e).one X sc N true p L c h5).e h4
      | _ => cases h) fun _ _ ps => by cases ps <;> rfl
  | .expr e => .of (fun X sc N p L c h => by
      cases p with
      | Expr p pos =>
        simp only [mtS, Bool.and_eq_true, Bool.not_eq_true'] at h
        exact s_expr ((all_ok (C := C) e).one X sc N true p L c h.2).e (sw_plain h.1)
      | _ => cases h) fun _ _ ps => by cases ps <;> rfl
  | .ret e => .of (fun X sc N p L c h => by
      cases p with
      | Return v pos =>
        cases v with
        | none => cases h
        | some p => exact s_ret ((all_ok (C := C) e).one X sc N true p L c h).e
      | _ => cases h) fun _ _ ps => by cases ps <;> rfl
  | .retN => .of (fun X sc N p L c h => by
      cases p with
      | Return v pos =>
        cases v with
        | none => exact s_retN
        | some p => cases h
      | _ => cases h) fun _ _ ps => by cases ps <;> rfl
  | .iff e a b => .of (fun X sc N p L c h => by
      cases p with
      | If p x y pos =>
        simp only [mtS, Bool.and_eq_true] at h
        exact s_if ((all_ok (C := C) e).one X sc N true p L c h.1.1).t ((all_okS a).many X sc N x L c h.1.2) ((all_okS b).many X sc N y L c h.2)
      | _ => cases h) fun _ _ ps => by cases ps <;> rfl
  | .for tg one ib it b => .of (fun X sc N p L c h => by
      cases p with
      | For t it' body els pos =>
        cases els with
        | cons _ _ => cases h
        | nil =>
          simp only [mtS, Bool.and_eq_true] at h
          obtain ⟨⟨h1, h2⟩, h3⟩ := h
          have hi := iter_ok (tgE := t) L c (all_ok (C := C) it) h2
          exact s_for c.xe c.calm hi.1 (g_ok c h1) ((all_okS b).many X sc N body L c h3) (hi.2 _)
      | _ => cases h) fun _ _ ps => by cases ps <;> rfl
  | .while n e b => .of (fun X sc N p L c h => by
      cases p with
      | While p body els pos =>
        cases els with
        | cons _ _ => cases h
        | nil =>
          simp only [mtS, Bool.and_eq_true] at h
          exact s_while c.xe ((all_ok (C := C) e).one X sc N true p L c h.1).t ((all_okS b).many X sc N body L c h.2)
      | _ => cases h) fun _ _ ps => by cases ps <;> rfl
  | .brk => .of (fun X sc N p L c h => by
      cases p with
      | Break pos => exact s_brk
      | _ => cases h) fun _ _ ps => by cases ps <;> rfl
  | .cont => .of (fun X sc N p L c h => by
      cases p with
      | Continue pos => exact s_cont
      | _ => cases h) fun _ _ ps => by cases ps <;> rfl
  | .never => .of (fun X sc N p L c h => s_never) fun _ _ ps => by cases ps <;> rfl
end
end TT
set_option Elab.async false
set_option linter.all false
set_option maxRecDepth 100000
set_option maxHeartbeats 8000000
/-! Defs, the table of a program, the law's call. -/
namespace TT
open PySem L2 PySem.Spec PyProof.Rows

/-! ### what a def leaves behind is cut back -/
section
variable {K : PySem.W.Frag} {H H' : Hp} {μ μ' : List Addr} {st st' : Sto}
mutual
theorem rep_blw : ∀ {x : V} {v : Val}, Rep K H μ x v → v.blw μ.length = true
  | _, _, .non => rfl
  | _, _, .bl b => rfl
  | _, _, .int i => rfl
  | _, _, .str s => rfl
  | _, _, .tup h z r => by simp only [Val.blw]; exact reps_blw r
  | _, _, .flst h z => rfl
  | _, _, .loc h => by simp only [Val.blw, decide_eq_true_eq]; exact (List.getElem?_eq_some_iff.mp h).1
theorem reps_blw : ∀ {xs : List V} {vs : List Val}, Reps K H μ xs vs → Vals.blw μ.length vs = true
  | _, _, .nil => rfl
  | _, _, .cons r rs => by simp only [Vals.blw, Bool.and_eq_true]; exact ⟨rep_blw r, reps_blw rs⟩
end
mutual
theorem rep_cut {t : List Addr} : ∀ {x : V} {v : Val}, Rep K H (μ ++ t) x v → v.blw μ.length = true → Rep K H μ x v
  | _, _, .non, _ => .non
  | _, _, .bl b, _ => .bl b
  | _, _, .int i, _ => .int i
  | _, _, .str s, _ => .str s
  | _, _, .tup h z r, hb => .tup h z (reps_cut r (by simpa only [Val.blw] using hb))
  | _, _, .flst h z, _ => .flst h z
  | _, _, .loc h, hb => .loc (by
      simp only [Val.blw, decide_eq_true_eq] at hb
      rw [List.getElem?_append_left hb] at h
      exact h)
theorem reps_cut {t : List Addr} : ∀ {xs : List V} {vs : List Val}, Reps K H (μ ++ t) xs vs → Vals.blw μ.length vs = true → Reps K H μ xs vs
  | _, _, .nil, _ => .nil
  | _, _, .cons r rs, hb => by
    simp only [Vals.blw, Bool.and_eq_true] at hb
    exact .cons (rep_cut r hb.1) (reps_cut rs hb.2)
end
theorem cr_blw {a : Addr} {c : Cell} (h : CR K H μ a c) : c.blw μ.length = true := by
  cases c with
  | lst xs => obtain ⟨ys, _, _, r⟩ := h; exact reps_blw r
  | dK kvs => obtain ⟨ws, _, _, r⟩ := h; exact reps_blw r
theorem cr_cut {t : List Addr} {a : Addr} {c : Cell} (h : CR K H (μ ++ t) a c) (hb : c.blw μ.length = true) : CR K H μ a c := by
  cases c with
  | lst xs => obtain ⟨ys, q1, q2, r⟩ := h; exact ⟨ys, q1, q2, reps_cut r hb⟩
  | dK kvs => obtain ⟨ws, q1, q2, r⟩ := h; exact ⟨ws, q1, q2, reps_cut r hb⟩
theorem keepB_at (h : keepB st st' = true) {i : Nat} (hi : i < st.length) : st'[i]? = st[i]? ∨ ∃ c, st'[i]? = some c ∧ c.blw st.length = true := by
  unfold keepB at h
  have := List.all_eq_true.mp h i (List.mem_range.mpr hi)
  simp only [Bool.or_eq_true, decide_eq_true_eq] at this
  rcases this with q | q
  · exact .inl q
  · split at q
    · rename_i c e
      exact .inr ⟨c, e, q⟩
    · cases q
theorem Ext.back (e : Ext H μ H' μ') : Ext H μ H' μ where
  pre := ⟨[], by simp⟩
  new := fun n a l q => by rw [List.getElem?_eq_none l] at q; cases q
  tups := e.tups
  frzs := e.frzs
  frame := e.frame
  stay := e.stay
theorem SR.back (s0 : SR K H μ st) (e : Ext H μ H' μ') (s : SR K H' μ' st') (hl : st.length ≤ st'.length) (hk : keepB st st' = true) : SR K H' μ (st'.take st.length) := by
  obtain ⟨t, rfl⟩ := e.pre
  refine ⟨by rw [s0.len, List.length_take]; omega, s0.nd, fun n c a h1 h2 => ?_⟩
  have hn : n < st.length := by
    by_cases q : n < st.length
    · exact q
    · rw [List.getElem?_eq_none (by rw [List.length_take]; omega)] at h1; cases h1
  rw [List.getElem?_take_of_lt hn] at h1
  have cr := s.cell n c a h1 (by rw [List.getElem?_append_left (by rw [s0.len]; exact hn)]; exact h2)
  refine cr_cut cr ?_
  rcases keepB_at hk hn with q | ⟨c', q1, q2⟩
  · rw [h1] at q
    exact cr_blw (s0.cell n c a q.symm h2)
  · rw [h1] at q1
    cases q1
    rw [s0.len]
    exact q2
theorem cut_ok {x : V} {v : Val} (s0 : SR K H μ st) (e : Ext H μ H' μ') (s : SR K H' μ' st') (r : Rep K H' μ' x v) : ∃ μ2, Ext H μ H' μ2 ∧ SR K H' μ2 (cutBack st v st').2 ∧ Rep K H' μ2 x (cutBack st v st').1 := by
  unfold cutBack
  split
  · rename_i hc
    obtain ⟨hl, hk⟩ := hc
    have sb := s0.back e s hl hk
    obtain ⟨t, rfl⟩ := e.pre
    split
    · rename_i hb
      rw [← s0.len] at hb
      exact ⟨μ, e.back, sb, rep_cut r hb⟩
    · rename_i hb
      split
      · rename_i p
        split
        · rename_i xs hp
          split
          · rename_i hx
            cases r with
            | loc hpa =>
              rename_i a
              have hge : μ.length ≤ p := by
                simp only [Val.blw, decide_eq_true_eq] at hb
                rw [s0.len]
                omega
              have cr := s.cell p _ a hp hpa
              rw [← s0.len] at hx
              have nin : a ∉ μ := fun z => by
                obtain ⟨m, hm, em⟩ := List.mem_iff_getElem.mp z
                have h2 : (μ ++ t)[m]? = some a := by rw [List.getElem?_append_left hm, List.getElem?_eq_getElem hm, em]
                have := nodup_inj s.nd h2 hpa
                omega
              refine ⟨μ ++ [a], e.back.more (e.new p a hge hpa), sb.add nin ((cr_cut (c := .lst xs) cr hx).kept Kp.more rfl), .loc ?_⟩
              rw [← s0.len, List.getElem?_append_right (Nat.le_refl _)]
              simp
          · exact ⟨μ ++ t, e, s, r⟩
        · exact ⟨μ ++ t, e, s, r⟩
      · exact ⟨μ ++ t, e, s, r⟩
  · exact ⟨μ', e, s, r⟩
theorem entry_ok {N : List Str} {xs : List V} {vs : List Val} (r : Reps K H μ xs vs) : ER K H μ (L2.start N xs) (entry N.length vs) := by
  unfold L2.start entry
  have hl := r.length
  refine ⟨by simp [hl], fun i v h => ?_⟩
  by_cases q : i < vs.length
  · rw [List.getElem?_append_left (by simpa using q), List.getElem?_map] at h
    cases hv : vs[i]? with
    | none => rw [hv] at h; cases h
    | some w =>
      rw [hv] at h
      cases h
      obtain ⟨x, h1, h2⟩ := r.get hv
      exact ⟨x, by rw [List.getElem?_append_left (by simp [hl]; exact q), List.getElem?_map, h1]; rfl, h2⟩
  · rw [List.getElem?_append_right (by simp; omega), List.getElem?_replicate] at h
    split at h <;> cases h
end

/-! ### a program's table -/
structure Dn where
  st : Stmt
  name : Str
  ps : List Str
  N : List Str
  body : S
def Dn.fn (d : Dn) : Fn := ⟨d.ps.length, d.N.length, d.body⟩
def Dn.defD (d : Dn) : He.DefD := ⟨(d.name, none), d.name, d.name, defArgs d.st, defBody d.st, defScope d.st, [], []⟩
structure Dn.Ok (G : Gm) (d : Dn) : Prop where
  sc : FnScope d.N d.ps (defScope d.st)
  mt : mtB G (defScope d.st) d.N d.body (defBody d.st) = true
  bd : ∀ (kV doc pm : Value) (an : Option Addr) (cdv ct : Value) (us : List Value), us.length = d.ps.length → bindArgs (PySem.W.fnOf d.name d.name (defArgs d.st) (defBody d.st) (defScope d.st) .none kV doc pm an cdv ct) ⟨us, []⟩ = pure (d.ps.zip us)
structure Tb where
  defs : List Dn
  nums : List (Str × Int)
  txts : List (Str × Str)
  frees : List Str
def Tb.gm (T : Tb) : Gm := ⟨T.defs.map (·.name), T.nums.map (fun p => (p.1, Val.int p.2)) ++ T.txts.map (fun p => (p.1, Val.str p.2)), T.frees⟩
def Tb.fns (T : Tb) : List Fn := T.defs.map Dn.fn
def Tb.facts (T : Tb) : List He.Fa := T.defs.map (fun d => He.Fa.glo d.name) ++ (T.nums.map (fun p => He.Fa.int p.1 p.2) ++ (T.txts.map (fun p => He.Fa.str p.1 p.2) ++ T.frees.map He.Fa.free))
def Tb.defDs (T : Tb) : List He.DefD := T.defs.map Dn.defD
section
variable {T : Tb} {P : Program} {w : World} {K : PySem.W.Frag} {mg : Str → Option Value} {base h : Heap}
theorem says_fact {fa : List He.Fa} {fn : List He.DefD} (c : He.SaysD fa fn K) {f : He.Fa} (hf : f ∈ fa) : f.ok K = true := by
  obtain ⟨i, hi, rfl⟩ := List.mem_iff_getElem.mp hf
  exact c.fact i (by simp [hi])
theorem run_len {P : List Fn} {k i : Nat} {vs : List Val} {st st' : Sto} {v : Val} (h : run P k i vs st = .ok v st') : ∃ fn, P[i]? = some fn ∧ vs.length = fn.np := by
  cases k with
  | zero => cases h
  | succ k =>
    simp only [run] at h
    split at h
    · rename_i fn e
      split at h
      · exact ⟨fn, e, by assumption⟩
      · cases h
    · cases h
theorem table_ok (X : K.In h) (Gn : h.Ns mainGlobals mg) (c : He.SaysD T.facts T.defDs K) (ok : ∀ d ∈ T.defs, Dn.Ok T.gm d) :
    ∀ (lv i : Nat) (d : Dn), T.defs[i]? = some d → ∃ fd, FunD K d.name d.name (defArgs d.st) (defBody d.st) (defScope d.st) [] [] (He.ga K d.name) fd ∧ FnG P w K mg base lv (He.ga K d.name) fd d.ps (spOf K d.ps.length (run T.fns lv i)) := by
  have fun_of : ∀ (i : Nat) (d : Dn), T.defs[i]? = some d → ∃ fd, FunD K d.name d.name (defArgs d.st) (defBody d.st) (defScope d.st) [] [] (He.ga K d.name) fd := fun i d hd =>
    c.def_ i (d := d.defD) (by unfold Tb.defDs; rw [List.getElem?_map, hd]; rfl)
  have glo : ∀ (i : Nat) (d : Dn), T.defs[i]? = some d → mg d.name = some (.ref (He.ga K d.name)) := fun i d hd =>
    He.glo_ok X Gn (says_fact c (List.mem_append_left _ (List.mem_map.mpr ⟨d, List.mem_of_getElem? hd, rfl⟩)))
  intro lv
  induction lv with
  | zero =>
    intro i d hd
    obtain ⟨fd, F⟩ := fun_of i d hd
    exact ⟨fd, F, ⟨fun vs H Q q => q.1, fun A outer s H args us vs Q _ _ _ _ _ q => by
      obtain ⟨_, μ, ws, st, z, st', _, _, hr, _⟩ := q
      cases hr⟩⟩
  | succ lv ih =>
    intro i d hd
    obtain ⟨fd, F⟩ := fun_of i d hd
    obtain ⟨oc, od, dV, kV, doc, pm, an, cdv, ct, osl, rfl, lk, hcd, hD, hK⟩ := id F.ex
    have hk := ok d (List.mem_of_getElem? hd)
    refine ⟨_, F, fn_ofG lk hcd hk.sc (fun vs H Q q => q.1) fun A outer s H xs Q hr hgd hsp => ?_⟩
    refine ⟨TSv K (evS (run T.fns lv) d.body), ?_, ?_⟩
    · refine (all_okS (G := T.gm) (lv := lv) (C := run T.fns lv) d.body).many _ (defScope d.st) d.N (defBody d.st) ?_ ?_ hk.mt
      · refine ⟨fun j x hx => ?_, fun x v hx => ?_, fun x hx => ?_⟩
        · have hx' : (T.defs.map (·.name))[j]? = some x := hx
          rw [List.getElem?_map, Option.map_eq_some_iff] at hx'
          obtain ⟨d', h1, rfl⟩ := hx'
          obtain ⟨fd', F', G'⟩ := ih j d' h1
          refine ⟨_, fd', d'.ps, glo j d' h1, F'.kp, F'.bindsN (ok d' (List.mem_of_getElem? h1)).bd, G', fun vs st v st' hrun => ?_⟩
          obtain ⟨fn, e1, e2⟩ := run_len hrun
          unfold Tb.fns at e1
          rw [List.getElem?_map, h1] at e1
          cases e1
          exact e2
        · have hx' : (x, v) ∈ T.nums.map (fun p => (p.1, Val.int p.2)) ++ T.txts.map (fun p => (p.1, Val.str p.2)) := hx
          rcases List.mem_append.mp hx' with q | q
          · obtain ⟨p, hp, e⟩ := List.mem_map.mp q
            cases e
            obtain ⟨t, ht⟩ := He.int_ok X Gn (says_fact c (List.mem_append_right _ (List.mem_append_left _ (List.mem_map.mpr ⟨p, hp, rfl⟩))))
            exact ⟨_, .int p.2, ht, ⟨t, rfl⟩, fun _ _ => .int _⟩
          · obtain ⟨p, hp, e⟩ := List.mem_map.mp q
            cases e
            obtain ⟨t, ht⟩ := He.str_ok X Gn (says_fact c (List.mem_append_right _ (List.mem_append_right _ (List.mem_append_left _ (List.mem_map.mpr ⟨p, hp, rfl⟩)))))
            exact ⟨_, .str p.2, ht, ⟨t, rfl⟩, fun _ _ => .str _⟩
        · exact He.free_ok X Gn (says_fact c (List.mem_append_right _ (List.mem_append_right _ (List.mem_append_right _ (List.mem_map.mpr ⟨x, hx, rfl⟩)))))
      · exact ⟨rfl, rfl, hk.sc.nd, rfl, hgd, hr, rfl, fun _ _ => rfl, hk.sc.kind⟩
    · obtain ⟨hlen, μ, vs, st, z, st', rp, sr, hrun, hq⟩ := hsp
      refine ⟨μ, entry d.N.length vs, st, entry_ok rp, sr, ?_⟩
      simp only [run] at hrun
      have e1 : T.fns[i]? = some d.fn := by unfold Tb.fns; rw [List.getElem?_map, hd]; rfl
      rw [e1] at hrun
      simp only at hrun
      split at hrun
      · have hrun : endOf st (evS (run T.fns lv) d.body (entry d.N.length vs) st) = .ok z st' := hrun
        cases hb : evS (run T.fns lv) d.body (entry d.N.length vs) st with
        | rt v st2 =>
          rw [hb] at hrun
          simp only [endOf] at hrun
          obtain ⟨rfl, rfl⟩ : (cutBack st v st2).1 = z ∧ (cutBack st v st2).2 = st' := by cases hrun; exact ⟨rfl, rfl⟩
          intro μ2 H2 x e2 s2 r2
          obtain ⟨μ3, e3, s3, r3⟩ := cut_ok sr e2 s2 r2
          exact hq μ3 H2 x e3 s3 r3
        | nx env st2 =>
          rw [hb] at hrun
          simp only [endOf] at hrun
          obtain ⟨rfl, rfl⟩ : (cutBack st .non st2).1 = z ∧ (cutBack st .non st2).2 = st' := by cases hrun; exact ⟨rfl, rfl⟩
          intro μ2 H2 σ2 e2 er2 s2
          obtain ⟨μ3, e3, s3, r3⟩ := cut_ok (x := .non) (v := .non) sr e2 s2 .non
          exact hq μ3 H2 .non e3 s3 r3
        | bk _ _ => rw [hb] at hrun; cases hrun
        | ct _ _ => rw [hb] at hrun; cases hrun
        | exc _ _ _ => rw [hb] at hrun; cases hrun
        | bad => rw [hb] at hrun; cases hrun
      · cases hrun
end
end TT
set_option Elab.async false
set_option linter.all false
set_option maxRecDepth 100000
set_option maxHeartbeats 8000000
/-! The law's call, by the evaluator. -/
namespace TT
open PySem L2 PySem.Spec PyProof.Rows

section
variable {P : Program} {w : World} {K : PySem.W.Frag} {mg mb : Str → Option Value} {k : Nat} {fa a : Addr} {fd : FuncData} {x : Str} {sp : SpV} {s1 : Shared} {vs : List Value} {ns : List Int}
/-- the call from an abstract heap that tracks at most the script -/
theorem call_core (inK : K.In s1.heap) (hns : s1.heap.Ns mainGlobals mg) (hb : s1.heap.Ns builtinsNs mb) (hbb : ∀ x : Str, x ≠ "__name__" → mb x = bootBuiltins x) (hlim : s1.heap.NoLimit) (hg : s1.gens = #[])
    (ha : s1.heap.get? a = some { cls := .type "list", data := .seq vs.toArray }) (hr : Room k callerA) (F : ∀ base : Heap, K.In base → base.Ns mainGlobals mg → FnG P w K mg base k fa fd [x] sp) (hbind : ∀ (s : Shared) (u : Value), BindsTo s fd ⟨[u], []⟩ [(x, u)])
    {H : Hp} (hO : Only H) (hok : HOk P w H s1.heap) (hA : ∀ b, H b ≠ none → b = a) (hK : H a ≠ none → K.lookup a = none) (hsp : sp [.ref a] H (fun v _ => v = .bl true)) :
    codeAny (model P w) callerA (.call (.ref fa) ⟨[.ref a], []⟩) (fun r s' => r = .ok (.ret (.bool true)) ∧ PySem.OldK s1.heap s'.heap ∧ s'.os = s1.os ∧ AllBare s'.gens) s1 := by
  have only_a : ∀ {b : Addr} {u : HO}, H b = some u → b = a := fun {b u} q => hA b (by rw [q]; simp)
  have noA : ∀ {b : Addr} {o : Obj} {es : Array DictEntry} {ep : Nat}, s1.heap.get? b = some o → o.data = .dict es ep → H b = none := by
    intro b o es ep e d
    cases q : H b with
    | none => rfl
    | some u =>
      obtain rfl := only_a q
      rw [ha] at e
      cases e
      have z : Data.seq vs.toArray _ = Data.dict es ep := d
      cases z
  have hid : ∀ {b : Addr} {m : Str → Option Value}, s1.heap.Ns b m → (hidT s1.heap H).Ns b m := by
    rintro b m ⟨o, es, ep, e, d, r⟩
    exact ⟨o, es, ep, hidT_get e (noA e d), d, r⟩
  have inB : K.In (hidT s1.heap H) := by
    intro b o e
    refine hidT_get (inK b o e) ?_
    cases q : H b with
    | none => rfl
    | some u =>
      obtain rfl := only_a q
      rw [hK (by rw [q]; simp)] at e
      cases e
  obtain ⟨mc, l1, l2⟩ := hlim
  have md : Mod K mg (hidT s1.heap H) := ⟨inB, hid hns, ⟨mb, hid hb, hbb⟩, ⟨mc, hid l1, l2⟩⟩
  have e0 : Env0 P w K mg (hidT s1.heap H) callerA [] s1 H :=
    ⟨rfl, md, fun b o e => of_hidT e, Nat.le_of_eq (hidT_size _ _), trivial, fun b z => (by cases (show b ∈ ([] : List Addr) from z)), hok, .of_eq hg⟩
  refine codeAny_mono ((F _ inB (hid hns)).run callerA [] s1 H ⟨[.ref a], []⟩ [.ref a] [.ref a] _ hr rfl e0 (hbind s1 (.ref a)) (.cons rfl .nil) hsp) fun r s' h => ?_
  match r, h with
  | .error e, h => exact False.elim h
  | .ok .next, h => exact False.elim h
  | .ok .brk, h => exact False.elim h
  | .ok .cont, h => exact False.elim h
  | .ok (.ret u), h =>
    obtain ⟨v, H', os, bare, un, hok', r', q⟩ := h
    have q : v = .bl true := q
    subst q
    obtain rfl : u = Value.bool true := r'
    refine ⟨rfl, PySem.OldK.of_keep fun b o e => ?_, os, bare⟩
    rcases hO b with z | ⟨ob, xs, z⟩
    · exact un.keep b o e z (fun y => by cases (show b ∈ ([] : List Addr) from y)) (by simp)
    · obtain ⟨e1, _⟩ := hok b _ z
      obtain ⟨e2, _⟩ := hok' b _ (un.frzs b ob _ z)
      rw [e] at e1
      cases e1
      exact e2
theorem law_callG (inK : K.In s1.heap) (hns : s1.heap.Ns mainGlobals mg) (hb : s1.heap.Ns builtinsNs mb) (hbb : ∀ x : Str, x ≠ "__name__" → mb x = bootBuiltins x) (hlim : s1.heap.NoLimit) (hg : s1.gens = #[])
    (ha : s1.heap.get? a = some { cls := .type "list", data := .seq vs.toArray }) (hi : IntsAre vs ns) (hl : ns.length ≤ sizeLine) (hr : Room k callerA) (F : ∀ base : Heap, K.In base → base.Ns mainGlobals mg → FnG P w K mg base k fa fd [x] sp)
    (hbind : ∀ (s : Shared) (u : Value), BindsTo s fd ⟨[u], []⟩ [(x, u)]) (hsp : ∀ H : Hp, Only H → SqL K H a (ns.map V.int) → sp [.ref a] H (fun v _ => v = .bl true)) :
    codeAny (model P w) callerA (.call (.ref fa) ⟨[.ref a], []⟩) (fun r s' => r = .ok (.ret (.bool true)) ∧ PySem.OldK s1.heap s'.heap ∧ s'.os = s1.os ∧ AllBare s'.gens) s1 := by
  have rv := vals_ints hi
  have ln := hi.length
  cases hk : K.lookup a with
  | some o =>
    have e := inK a o hk
    rw [ha] at e
    cases e
    have only : Only (fun _ => none) := fun _ => .inl rfl
    have ls : SqL K (fun _ => none) a (ns.map V.int) := .inr ⟨_, vs.toArray, _, hk, rfl, rfl, rfl, by rw [List.size_toArray, ln]; exact hl, by simpa using rv⟩
    refine call_core inK hns hb hbb hlim hg ha hr F hbind only (fun b u z => ?_) (fun b z => absurd rfl z) (fun z => absurd rfl z) (hsp _ only ls)
    have z : (none : Option HO) = some u := z
    cases z
  | none =>
    let ob : Obj := { cls := .type "list", data := .seq vs.toArray }
    have at_a : (fun b : Addr => if b = a then some (HO.frz ob (.lst (ns.map V.int))) else none) a = some (HO.frz ob (.lst (ns.map V.int))) := if_pos rfl
    have only : Only (fun b : Addr => if b = a then some (HO.frz ob (.lst (ns.map V.int))) else none) := by
      intro b
      by_cases q : b = a
      · exact .inr ⟨_, _, if_pos q⟩
      · exact .inl (if_neg q)
    refine call_core inK hns hb hbb hlim hg ha hr F hbind only (fun b u z => ?_) (fun b z => ?_) (fun _ => hk) (hsp _ only (.inl (.inr ⟨ob, at_a⟩)))
    · by_cases q : b = a
      · subst q
        have z := at_a.symm.trans z
        cases z
        exact ⟨ha, by rw [List.length_map]; exact hl, vs, _, rv, ha⟩
      · have z := (if_neg q).symm.trans z
        cases z
    · by_cases q : b = a
      · exact q
      · exact absurd (if_neg q) z
end
/-- the goal that the head leaves, from the evaluator's answer -/
theorem walk_ofG {l : PySem.W.OpenLaw} {n m lv j : Nat} {q : Program} {loose : List Str} {XP : (Str → Option Value) → Heap → Prop} {d : DefRec} {x : Str} {T : Tb} {dn : Dn} (hn : l.most = some n) (hn2 : n ≤ sizeLine) (hdf : d.params.defaults = []) (hr : Room lv callerA)
    (ok : ∀ d ∈ T.defs, Dn.Ok T.gm d) (hj : T.defs[j]? = some dn) (hname : d.name = dn.name) (hps : dn.ps = [x]) (law : ∀ ns : List Int, ns.length ≤ n → ∃ st', run T.fns lv j [.flst ns] [] = .ok (.bl true) st') :
    PySem.W.WalkO q loose XP (He.hookD m T.facts T.defDs).says l.row.toRowW d [] (fun f vs => PySem.call f vs) := by
  refine Att.attach_call hn hdf fun w s₀ s1 mg mb fa o pm cd doc a vs ns G Y ho hd hcd hmg hobj hints hlen hg => ?_
  obtain ⟨K, inK, c⟩ := Y
  have Gn := G.T.g
  have glo : mg dn.name = some (.ref (He.ga K dn.name)) := He.glo_ok inK Gn (says_fact c (List.mem_append_left _ (List.mem_map.mpr ⟨dn, List.mem_of_getElem? hj, rfl⟩)))
  rw [hname, glo] at hmg
  cases hmg
  have tb := fun (base : Heap) (hb : K.In base) (hn : base.Ns mainGlobals mg) => table_ok (P := l.prog) (w := w) (base := base) hb hn c ok lv j dn hj
  obtain ⟨fd, F, _⟩ := tb _ inK Gn
  have uniq : ∀ {fd' : FuncData}, FunD K dn.name dn.name (defArgs dn.st) (defBody dn.st) (defScope dn.st) [] [] (He.ga K dn.name) fd' → fd' = fd := by
    intro fd' F'
    obtain ⟨_, _, _, _, _, _, _, _, _, _, _, l1, _⟩ := F.ex
    obtain ⟨_, _, _, _, _, _, _, _, _, _, _, l2, _⟩ := F'.ex
    rw [l1] at l2
    injection l2 with e
    injection e with _ _ e _
    injection e with e
    exact e.symm
  refine law_callG (x := x) (fd := fd) (sp := spOf K dn.ps.length (run T.fns lv j)) inK Gn G.T.b G.T.builtins G.T.nolimit hg hobj hints (Nat.le_trans hlen hn2) hr (fun base hb hn => ?_) (fun s u => ?_) fun H hO hS => ?_
  · obtain ⟨fd', F', R⟩ := tb base hb hn
    obtain rfl := uniq F'
    rw [hps] at R ⊢
    exact R
  · have := F.bindsA (ps := dn.ps) (ok dn (List.mem_of_getElem? hj)).bd s [u] (by rw [hps]; rfl)
    rw [hps] at this
    exact this
  · obtain ⟨st', hrun⟩ := law ns hlen
    refine ⟨by rw [hps]; rfl, [], [.flst ns], [], .bl true, st', .cons (.flst ?_ (Nat.le_trans hlen hn2)) .nil, ⟨rfl, .nil, fun n c a h => by simp at h⟩, hrun, fun μ' H' u _ _ r => ?_⟩
    · rcases hS with (z | z) | z
      · rcases hO a with y | ⟨_, _, y⟩
        · rw [y] at z; cases z
        · rw [y] at z; cases z
      · exact .inl z
      · exact .inr (.inr z)
    · cases r
      rfl
end TT
set_option Elab.async false
set_option linter.all false
set_option maxRecDepth 100000
set_option maxHeartbeats 8000000
namespace TT.K02
open PySem L2 PySem.Spec PyProof.Rows
-- not of the part: need_kind line 128: Raise
-- not of the part: need_place line 131: Raise
def top (i : Nat) : Stmt := PySem.Challenge.pw_tabletongue_k02_places_and_questions.main.body.getD i (.Pass ⟨0, 0, 0, 0⟩)
abbrev fuel : Nat := 100000
def s_TWO : Str := ⟨#[84, 87, 79]⟩
def s_LOT : Str := ⟨#[76, 79, 84]⟩
def s_lot : Str := ⟨#[108, 111, 116]⟩
def s_LOTS : Str := ⟨#[76, 79, 84, 83]⟩
def s_ROW : Str := ⟨#[82, 79, 87]⟩
def s_row : Str := ⟨#[114, 111, 119]⟩
def s_ROWS : Str := ⟨#[82, 79, 87, 83]⟩
def s_THREE : Str := ⟨#[84, 72, 82, 69, 69]⟩
def s_FUN : Str := ⟨#[70, 85, 78]⟩
def s_fun : Str := ⟨#[102, 117, 110]⟩
def s_PLACES : Str := ⟨#[80, 76, 65, 67, 69, 83]⟩
def s_VALUES : Str := ⟨#[86, 65, 76, 85, 69, 83]⟩
def s_DEEP : Str := ⟨#[68, 69, 69, 80]⟩
def s_MOST_DEEP : Str := ⟨#[77, 79, 83, 84, 95, 68, 69, 69, 80]⟩
def s_e : Str := ⟨#[]⟩
def s_0 : Str := ⟨#[48]⟩
abbrev i_is_whole : Nat := 0
abbrev i_is_within : Nat := 1
abbrev i_is_tuple_of : Nat := 2
abbrev i_is_lot : Nat := 3
abbrev i_is_row : Nat := 4
abbrev i_measured : Nat := 5
abbrev i_measured_row : Nat := 6
abbrev i_measured_fun : Nat := 7
abbrev i_is_sort : Nat := 8
abbrev i_size_in : Nat := 9
abbrev i_lots_in : Nat := 10
abbrev i_places_in : Nat := 11
abbrev i_asked_in : Nat := 12
abbrev i_built : Nat := 13
abbrev i_value_by_digits : Nat := 14
abbrev i_values_in : Nat := 15
abbrev i_is_value_in : Nat := 16
abbrev i_step_in : Nat := 17
abbrev i_kind_behind : Nat := 18
abbrev i_is_place_in : Nat := 19
abbrev i_lot_in : Nat := 20
abbrev i_need_kind : Nat := 21
abbrev i_need_place : Nat := 22
abbrev i_place_count : Nat := 23
abbrev i_places_of : Nat := 24
abbrev i_asked_places : Nat := 25
abbrev i_is_place : Nat := 26
abbrev i_lot_at : Nat := 27
abbrev i__law_jar : Nat := 28
abbrev i__law_pull : Nat := 29
abbrev i__law_one_of : Nat := 30
abbrev i__law_size : Nat := 31
abbrev i__law_count : Nat := 32
abbrev i__law_fits : Nat := 33
abbrev i__law_kind : Nat := 34
abbrev i__law_kind_to : Nat := 35
abbrev i__law_members : Nat := 36
abbrev i__law_values : Nat := 37
abbrev i__law_number : Nat := 38
abbrev i__law_nth : Nat := 39
abbrev i__law_places : Nat := 40
abbrev i__law_behind : Nat := 41
abbrev i__law_digit : Nat := 42
abbrev i__law_asked : Nat := 43
abbrev i__law_is_value : Nat := 44
abbrev i__law_is_place : Nat := 45
abbrev i__law_near : Nat := 46
abbrev i__law_right : Nat := 47
abbrev i_law : Nat := 48
def b_is_whole : S :=
  .seq (.ret (.and (.isi (.v 0) "int") (.not (.isi (.v 0) "bool"))))
  (.skip)
def d_is_whole : Dn := ⟨top 5, "is_whole", ["value"], ["value"], b_is_whole⟩
def b_is_within : S :=
  .seq (.ret (.and (.call i_is_whole (.cons (.v 0) .nil)) (.chain .LtE .LtE (.v 1) (.v 0) (.v 2))))
  (.skip)
def d_is_within : Dn := ⟨top 6, "is_within", ["value", "low", "high"], ["value", "low", "high"], b_is_within⟩
def b_is_tuple_of : S :=
  .seq (.ret (.and (.isi (.v 0) "tuple") (.cmp .Eq (.bc .len (.cons (.v 0) .nil)) (.v 1))))
  (.skip)
def d_is_tuple_of : Dn := ⟨top 7, "is_tuple_of", ["value", "size"], ["value", "size"], b_is_tuple_of⟩
def b_is_lot : S :=
  .seq (.ret (.and (.call i_is_tuple_of (.cons (.v 0) (.cons (.g s_TWO (.int 2)) .nil))) (.and (.cmp .Eq (.idx (.v 0) (.c (.int 0))) (.g s_LOT (.str s_lot))) (.call i_is_within (.cons (.idx (.v 0) (.c (.int 1))) (.cons (.c (.int 1)) (.cons (.g s_LOTS (.int 8)) .nil)))))))
  (.skip)
def d_is_lot : Dn := ⟨top 19, "is_lot", ["value"], ["value"], b_is_lot⟩
def b_is_row : S :=
  .seq (.iff (.or (.not (.call i_is_tuple_of (.cons (.v 0) (.cons (.g s_TWO (.int 2)) .nil)))) (.cmp .NotEq (.idx (.v 0) (.c (.int 0))) (.g s_ROW (.str s_row))))
  (.seq (.ret (.c (.bl false)))
  (.skip))
  (.skip))
  (.seq (.ret (.and (.isi (.idx (.v 0) (.c (.int 1))) "tuple") (.chain .LtE .LtE (.g s_TWO (.int 2)) (.bc .len (.cons (.idx (.v 0) (.c (.int 1))) .nil)) (.g s_ROWS (.int 4)))))
  (.skip))
def d_is_row : Dn := ⟨top 20, "is_row", ["value"], ["value"], b_is_row⟩
def b_measured : S :=
  .seq (.iff (.call i_is_lot (.cons (.v 0) .nil))
  (.seq (.ret (.ite (.cmp .Gt (.v 1) (.c (.int 0))) (.tup (.cons (.c (.int 1)) (.cons (.idx (.v 0) (.c (.int 1))) .nil))) (.c .non)))
  (.skip))
  (.skip))
  (.seq (.iff (.cmp .Lt (.v 1) (.g s_TWO (.int 2)))
  (.seq (.ret (.c .non))
  (.skip))
  (.skip))
  (.seq (.iff (.call i_is_row (.cons (.v 0) .nil))
  (.seq (.ret (.call i_measured_row (.cons (.idx (.v 0) (.c (.int 1))) (.cons (.bin .Sub (.v 1) (.c (.int 1))) .nil))))
  (.skip))
  (.skip))
  (.seq (.iff (.and (.call i_is_tuple_of (.cons (.v 0) (.cons (.g s_THREE (.int 3)) .nil))) (.cmp .Eq (.idx (.v 0) (.c (.int 0))) (.g s_FUN (.str s_fun))))
  (.seq (.ret (.call i_measured_fun (.cons (.call i_measured (.cons (.idx (.v 0) (.c (.int 1))) (.cons (.bin .Sub (.v 1) (.c (.int 1))) .nil))) (.cons (.call i_measured (.cons (.idx (.v 0) (.c (.int 2))) (.cons (.bin .Sub (.v 1) (.c (.int 1))) .nil))) .nil))))
  (.skip))
  (.skip))
  (.seq (.ret (.c .non))
  (.skip)))))
def d_measured : Dn := ⟨top 21, "measured", ["value", "deep"], ["value", "deep"], b_measured⟩
def l_measured_row_0 : S :=
  .seq (.set 5 (.call i_measured (.cons (.v 4) (.cons (.v 1) .nil))))
  (.seq (.iff (.cmp .Is (.v 5) (.c .non))
  (.seq (.ret (.c .non))
  (.skip))
  (.skip))
  (.seq (.par 2 3 (.bin .Add (.v 2) (.idx (.v 5) (.c (.int 0)))) (.bin .Mult (.v 3) (.idx (.v 5) (.c (.int 1)))))
  (.skip)))
def b_measured_row : S :=
  .seq (.asg [2, 3] (.tup (.cons (.c (.int 0)) (.cons (.c (.int 1)) .nil))))
  (.seq (.for [4] true none (.v 0) l_measured_row_0)
  (.seq (.ret (.ite (.cmp .LtE (.v 2) (.g s_PLACES (.int 256))) (.tup (.cons (.v 2) (.cons (.v 3) .nil))) (.c .non)))
  (.skip)))
def d_measured_row : Dn := ⟨top 22, "measured_row", ["kinds", "deep"], ["kinds", "deep", "places", "size", "kind", "told"], b_measured_row⟩
def l_measured_fun_0 : S :=
  .seq (.set 2 (.bin .Mult (.v 2) (.idx (.v 1) (.c (.int 1)))))
  (.skip)
def b_measured_fun : S :=
  .seq (.iff (.or (.cmp .Is (.v 0) (.c .non)) (.or (.cmp .Is (.v 1) (.c .non)) (.or (.cmp .Gt (.idx (.v 0) (.c (.int 1))) (.g s_VALUES (.int 64))) (.cmp .Gt (.bin .Mult (.idx (.v 0) (.c (.int 1))) (.idx (.v 1) (.c (.int 0)))) (.g s_PLACES (.int 256))))))
  (.seq (.ret (.c .non))
  (.skip))
  (.skip))
  (.seq (.set 2 (.c (.int 1)))
  (.seq (.for [3] true (some .range) (.cons (.idx (.v 0) (.c (.int 1))) .nil) l_measured_fun_0)
  (.seq (.ret (.tup (.cons (.bin .Mult (.idx (.v 0) (.c (.int 1))) (.idx (.v 1) (.c (.int 0)))) (.cons (.v 2) .nil))))
  (.skip))))
def d_measured_fun : Dn := ⟨top 23, "measured_fun", ["one", "other"], ["one", "other", "size", "turn"], b_measured_fun⟩
def b_is_sort : S :=
  .seq (.ret (.cmp .IsNot (.call i_measured (.cons (.v 0) (.cons (.g s_DEEP (.int 5)) .nil))) (.c .non)))
  (.skip)
def d_is_sort : Dn := ⟨top 24, "is_sort", ["value"], ["value"], b_is_sort⟩
def b_size_in : S :=
  .seq (.ret (.idx (.call i_measured (.cons (.v 0) (.cons (.g s_DEEP (.int 5)) .nil))) (.c (.int 1))))
  (.skip)
def d_size_in : Dn := ⟨top 25, "size_in", ["kind"], ["kind"], b_size_in⟩
def l_lots_in_0 : S :=
  .seq (.expr (.ext (.v 1) (.call i_lots_in (.cons (.v 2) .nil))))
  (.skip)
def b_lots_in : S :=
  .seq (.iff (.cmp .Eq (.idx (.v 0) (.c (.int 0))) (.g s_LOT (.str s_lot)))
  (.seq (.ret (.lst (.cons (.idx (.v 0) (.c (.int 1))) .nil)))
  (.skip))
  (.skip))
  (.seq (.iff (.cmp .Eq (.idx (.v 0) (.c (.int 0))) (.g s_FUN (.str s_fun)))
  (.seq (.ret (.bin .Mult (.call i_lots_in (.cons (.idx (.v 0) (.c (.int 2))) .nil)) (.call i_size_in (.cons (.idx (.v 0) (.c (.int 1))) .nil))))
  (.skip))
  (.skip))
  (.seq (.set 1 (.lst .nil))
  (.seq (.for [2] true none (.idx (.v 0) (.c (.int 1))) l_lots_in_0)
  (.seq (.ret (.v 1))
  (.skip)))))
def d_lots_in : Dn := ⟨top 26, "lots_in", ["kind"], ["kind", "found", "one"], b_lots_in⟩
def j_places_in_1 : E :=
  (.call i_places_in (.cons (.v 5) .nil))
def e_places_in_1 : E :=
  (.tup (.cons (.v 4) (.star (.v 3) .nil)))
def j_places_in_0 : E :=
  (.v 1)
def e_places_in_0 : E :=
  (.tup (.cons (.v 2) (.star (.v 3) .nil)))
def b_places_in : S :=
  .seq (.iff (.cmp .Eq (.idx (.v 0) (.c (.int 0))) (.g s_LOT (.str s_lot)))
  (.seq (.ret (.lst (.cons (.tup .nil) .nil)))
  (.skip))
  (.skip))
  (.seq (.iff (.cmp .Eq (.idx (.v 0) (.c (.int 0))) (.g s_FUN (.str s_fun)))
  (.seq (.set 1 (.call i_places_in (.cons (.idx (.v 0) (.c (.int 2))) .nil)))
  (.seq (.ret (.lc2 e_places_in_0 [2, 3] [2] true none (.call i_values_in (.cons (.idx (.v 0) (.c (.int 1))) .nil)) .nil [3] [3] true none j_places_in_0 .nil))
  (.skip)))
  (.skip))
  (.seq (.ret (.lc2 e_places_in_1 [4, 5, 3] [4, 5] false (some .enum) (.cons (.idx (.v 0) (.c (.int 1))) .nil) .nil [3] [3] true none j_places_in_1 .nil))
  (.skip)))
def d_places_in : Dn := ⟨top 27, "places_in", ["kind"], ["kind", "rest", "value", "place", "at", "one"], b_places_in⟩
def e_asked_in_0 : E :=
  (.v 1)
def k_asked_in_0 : E :=
  (.cmp .Gt (.v 2) (.c (.int 1)))
def b_asked_in : S :=
  .seq (.ret (.lc e_asked_in_0 [1, 2] [1, 2] false (some .zip) (.cons (.call i_places_in (.cons (.v 0) .nil)) (.cons (.call i_lots_in (.cons (.v 0) .nil)) .nil)) k_asked_in_0))
  (.skip)
def d_asked_in : Dn := ⟨top 28, "asked_in", ["kind"], ["kind", "place", "lot"], b_asked_in⟩
def l_built_0 : S :=
  .seq (.asg [6, 2] (.call i_built (.cons (.v 5) (.cons (.v 1) (.cons (.v 2) .nil)))))
  (.seq (.expr (.app (.v 4) (.v 6)))
  (.skip))
def b_built : S :=
  .seq (.iff (.cmp .Eq (.idx (.v 0) (.c (.int 0))) (.g s_LOT (.str s_lot)))
  (.seq (.ret (.tup (.cons (.idx (.v 1) (.v 2)) (.cons (.bin .Add (.v 2) (.c (.int 1))) .nil))))
  (.skip))
  (.skip))
  (.seq (.set 3 (.ite (.cmp .Eq (.idx (.v 0) (.c (.int 0))) (.g s_ROW (.str s_row))) (.bc .list (.cons (.idx (.v 0) (.c (.int 1))) .nil)) (.bin .Mult (.lst (.cons (.idx (.v 0) (.c (.int 2))) .nil)) (.call i_size_in (.cons (.idx (.v 0) (.c (.int 1))) .nil)))))
  (.seq (.set 4 (.lst .nil))
  (.seq (.for [5] true none (.v 3) l_built_0)
  (.seq (.ret (.tup (.cons (.bc .tuple (.cons (.v 4) .nil)) (.cons (.v 2) .nil))))
  (.skip)))))
def d_built : Dn := ⟨top 29, "built", ["kind", "digits", "at"], ["kind", "digits", "at", "members", "found", "one", "value"], b_built⟩
def b_value_by_digits : S :=
  .seq (.ret (.idx (.call i_built (.cons (.v 0) (.cons (.v 1) (.cons (.c (.int 0)) .nil)))) (.c (.int 0))))
  (.skip)
def d_value_by_digits : Dn := ⟨top 30, "value_by_digits", ["kind", "digits"], ["kind", "digits"], b_value_by_digits⟩
def e_values_in_2 : E :=
  (.call i_value_by_digits (.cons (.v 0) (.cons (.v 4) .nil)))
def j_values_in_1 : E :=
  (.cons (.v 3) .nil)
def e_values_in_1 : E :=
  (.tup (.star (.v 4) (.cons (.v 5) .nil)))
def l_values_in_0 : S :=
  .seq (.set 2 (.lc2 e_values_in_1 [4, 5] [4] true none (.v 2) .nil [5] [5] true (some .range) j_values_in_1 .nil))
  (.skip)
def b_values_in : S :=
  .seq (.par 1 2 (.call i_lots_in (.cons (.v 0) .nil)) (.lst (.cons (.tup .nil) .nil)))
  (.seq (.for [3] true none (.v 1) l_values_in_0)
  (.seq (.ret (.lc e_values_in_2 [4] [4] true none (.v 2) .nil))
  (.skip)))
def d_values_in : Dn := ⟨top 31, "values_in", ["kind"], ["kind", "lots", "rows", "lot", "row", "digit"], b_values_in⟩
def l_is_value_in_0 : S :=
  .seq (.iff (.not (.call i_is_value_in (.cons (.v 3) (.cons (.v 4) .nil))))
  (.seq (.ret (.c (.bl false)))
  (.skip))
  (.skip))
  (.skip)
def b_is_value_in : S :=
  .seq (.iff (.cmp .Eq (.idx (.v 0) (.c (.int 0))) (.g s_LOT (.str s_lot)))
  (.seq (.ret (.call i_is_within (.cons (.v 1) (.cons (.c (.int 0)) (.cons (.bin .Sub (.idx (.v 0) (.c (.int 1))) (.c (.int 1))) .nil)))))
  (.skip))
  (.skip))
  (.seq (.set 2 (.ite (.cmp .Eq (.idx (.v 0) (.c (.int 0))) (.g s_ROW (.str s_row))) (.bc .list (.cons (.idx (.v 0) (.c (.int 1))) .nil)) (.bin .Mult (.lst (.cons (.idx (.v 0) (.c (.int 2))) .nil)) (.call i_size_in (.cons (.idx (.v 0) (.c (.int 1))) .nil)))))
  (.seq (.iff (.not (.call i_is_tuple_of (.cons (.v 1) (.cons (.bc .len (.cons (.v 2) .nil)) .nil))))
  (.seq (.ret (.c (.bl false)))
  (.skip))
  (.skip))
  (.seq (.for [3, 4] false (some .zip) (.cons (.v 2) (.cons (.v 1) .nil)) l_is_value_in_0)
  (.seq (.ret (.c (.bl true)))
  (.skip)))))
def d_is_value_in : Dn := ⟨top 32, "is_value_in", ["kind", "value"], ["kind", "value", "members", "one", "member"], b_is_value_in⟩
def b_step_in : S :=
  .seq (.iff (.cmp .Eq (.idx (.v 0) (.c (.int 0))) (.g s_ROW (.str s_row)))
  (.seq (.ret (.ite (.call i_is_within (.cons (.v 1) (.cons (.c (.int 0)) (.cons (.bin .Sub (.bc .len (.cons (.idx (.v 0) (.c (.int 1))) .nil)) (.c (.int 1))) .nil)))) (.idx (.idx (.v 0) (.c (.int 1))) (.v 1)) (.c .non)))
  (.skip))
  (.skip))
  (.seq (.iff (.cmp .Eq (.idx (.v 0) (.c (.int 0))) (.g s_FUN (.str s_fun)))
  (.seq (.ret (.ite (.call i_is_value_in (.cons (.idx (.v 0) (.c (.int 1))) (.cons (.v 1) .nil))) (.idx (.v 0) (.c (.int 2))) (.c .non)))
  (.skip))
  (.skip))
  (.seq (.ret (.c .non))
  (.skip)))
def d_step_in : Dn := ⟨top 33, "step_in", ["kind", "step"], ["kind", "step"], b_step_in⟩
def l_kind_behind_0 : S :=
  .seq (.set 2 (.call i_step_in (.cons (.v 2) (.cons (.v 3) .nil))))
  (.seq (.iff (.cmp .Is (.v 2) (.c .non))
  (.seq (.ret (.c .non))
  (.skip))
  (.skip))
  (.skip))
def b_kind_behind : S :=
  .seq (.iff (.not (.isi (.v 1) "tuple"))
  (.seq (.ret (.c .non))
  (.skip))
  (.skip))
  (.seq (.set 2 (.v 0))
  (.seq (.for [3] true none (.v 1) l_kind_behind_0)
  (.seq (.ret (.v 2))
  (.skip))))
def d_kind_behind : Dn := ⟨top 34, "kind_behind", ["kind", "value"], ["kind", "value", "here", "step"], b_kind_behind⟩
def b_is_place_in : S :=
  .seq (.set 2 (.call i_kind_behind (.cons (.v 0) (.cons (.v 1) .nil))))
  (.seq (.ret (.and (.cmp .IsNot (.v 2) (.c .non)) (.cmp .Eq (.idx (.v 2) (.c (.int 0))) (.g s_LOT (.str s_lot)))))
  (.skip))
def d_is_place_in : Dn := ⟨top 35, "is_place_in", ["kind", "value"], ["kind", "value", "here"], b_is_place_in⟩
def b_lot_in : S :=
  .seq (.ret (.idx (.call i_kind_behind (.cons (.v 0) (.cons (.v 1) .nil))) (.c (.int 1))))
  (.skip)
def d_lot_in : Dn := ⟨top 36, "lot_in", ["kind", "place"], ["kind", "place"], b_lot_in⟩
def b_need_kind : S :=
  .seq (.iff (.not (.call i_is_sort (.cons (.v 0) .nil)))
  (.seq (.never)
  (.skip))
  (.skip))
  (.skip)
def d_need_kind : Dn := ⟨top 38, "need_kind", ["value"], ["value"], b_need_kind⟩
def b_need_place : S :=
  .seq (.iff (.not (.call i_is_place_in (.cons (.v 0) (.cons (.v 1) .nil))))
  (.seq (.never)
  (.skip))
  (.skip))
  (.skip)
def d_need_place : Dn := ⟨top 39, "need_place", ["kind", "value"], ["kind", "value"], b_need_place⟩
def b_place_count : S :=
  .seq (.expr (.call i_need_kind (.cons (.v 0) .nil)))
  (.seq (.ret (.idx (.call i_measured (.cons (.v 0) (.cons (.g s_MOST_DEEP (.int 5)) .nil))) (.c (.int 0))))
  (.skip))
def d_place_count : Dn := ⟨top 42, "place_count", ["kind"], ["kind"], b_place_count⟩
def b_places_of : S :=
  .seq (.expr (.call i_need_kind (.cons (.v 0) .nil)))
  (.seq (.ret (.bc .tuple (.cons (.call i_places_in (.cons (.v 0) .nil)) .nil)))
  (.skip))
def d_places_of : Dn := ⟨top 43, "places_of", ["kind"], ["kind"], b_places_of⟩
def b_asked_places : S :=
  .seq (.expr (.call i_need_kind (.cons (.v 0) .nil)))
  (.seq (.ret (.bc .tuple (.cons (.call i_asked_in (.cons (.v 0) .nil)) .nil)))
  (.skip))
def d_asked_places : Dn := ⟨top 44, "asked_places", ["kind"], ["kind"], b_asked_places⟩
def b_is_place : S :=
  .seq (.expr (.call i_need_kind (.cons (.v 0) .nil)))
  (.seq (.ret (.call i_is_place_in (.cons (.v 0) (.cons (.v 1) .nil))))
  (.skip))
def d_is_place : Dn := ⟨top 45, "is_place", ["kind", "value"], ["kind", "value"], b_is_place⟩
def b_lot_at : S :=
  .seq (.expr (.call i_need_kind (.cons (.v 0) .nil)))
  (.seq (.expr (.call i_need_place (.cons (.v 0) (.cons (.v 1) .nil))))
  (.seq (.ret (.call i_lot_in (.cons (.v 0) (.cons (.v 1) .nil))))
  (.skip)))
def d_lot_at : Dn := ⟨top 46, "lot_at", ["kind", "place"], ["kind", "place"], b_lot_at⟩
def b__law_jar : S :=
  .seq (.set 2 (.ite (.cmp .Lt (.v 1) (.bc .len (.cons (.v 0) .nil))) (.bc .int (.cons (.idx (.v 0) (.v 1)) .nil)) (.bin .Add (.bin .Add (.bin .Mult (.c (.int 4219)) (.v 1)) (.c (.int 57))) (.bin .Mod (.bc .int (.cons (.bc .sum (.cons (.sl (.v 0) .nil (.c (.int 1))) .nil)) .nil)) (.c (.int 1000003))))))
  (.seq (.set 3 (.bin .Mod (.bc .int (.cons (.bc .abs (.cons (.v 2) .nil)) .nil)) (.bin .Pow (.bin .Pow (.c (.int 10)) (.c (.int 59))) (.c (.int 6)))))
  (.seq (.ret (.lst (.cons (.bc .max (.cons (.c (.int 0)) (.cons (.bin .Sub (.v 3) (.bin .Pow (.c (.int 10)) (.c (.int 15)))) .nil))) (.cons (.bin .Add (.bin .Add (.bin .Add (.bin .Mult (.bin .Mod (.v 3) (.c (.int 2147483629))) (.c (.int 389))) (.bin .Mult (.c (.int 601)) (.v 1))) (.bin .Mult (.c (.int 31)) (.bc .int (.cons (.cmp .Lt (.v 2) (.c (.int 0))) .nil)))) (.c (.int 13))) (.cons (.c (.int 0)) .nil)))))
  (.skip)))
def d__law_jar : Dn := ⟨top 48, "_law_jar", ["script", "spot"], ["script", "spot", "cell", "great"], b__law_jar⟩
def b__law_pull : S :=
  .seq (.iff (.cmp .Gt (.idx (.v 0) (.c (.int 0))) (.c (.int 0)))
  (.seq (.set 2 (.bin .Mod (.bc .int (.cons (.idx (.v 0) (.c (.int 0))) .nil)) (.v 1)))
  (.seq (.store (.v 0) (.c (.int 0)) (.bin .FloorDiv (.idx (.v 0) (.c (.int 0))) (.v 1)))
  (.seq (.ret (.v 2))
  (.skip))))
  (.skip))
  (.seq (.store (.v 0) (.c (.int 2)) (.bin .Add (.idx (.v 0) (.c (.int 2))) (.c (.int 1))))
  (.seq (.set 3 (.bin .Mod (.bc .int (.cons (.bin .Add (.idx (.v 0) (.c (.int 1))) (.bin .Mult (.c (.int 9700417)) (.idx (.v 0) (.c (.int 2))))) .nil)) (.c (.int 2305843009213693951))))
  (.seq (.set 4 (.bin .Add (.bin .Mult (.bin .Mod (.bc .int (.cons (.bin .Add (.bin .Mult (.v 3) (.v 3)) (.bin .Mult (.c (.int 521)) (.idx (.v 0) (.c (.int 2))))) .nil)) (.c (.int 2305843009213693921))) (.c (.int 5800079))) (.v 3)))
  (.seq (.ret (.bin .Mod (.bc .int (.cons (.bin .FloorDiv (.v 4) (.c (.int 65537))) .nil)) (.v 1)))
  (.skip)))))
def d__law_pull : Dn := ⟨top 49, "_law_pull", ["jar", "total"], ["jar", "total", "found", "one", "two"], b__law_pull⟩
def b__law_one_of : S :=
  .seq (.ret (.idx (.v 1) (.call i__law_pull (.cons (.v 0) (.cons (.bc .len (.cons (.v 1) .nil)) .nil)))))
  (.skip)
def d__law_one_of : Dn := ⟨top 50, "_law_one_of", ["jar", "items"], ["jar", "items"], b__law_one_of⟩
def l__law_size_1 : S :=
  .seq (.set 1 (.bin .Mult (.v 1) (.v 3)))
  (.skip)
def l__law_size_0 : S :=
  .seq (.set 1 (.bin .Mult (.v 1) (.call i__law_size (.cons (.v 2) .nil))))
  (.skip)
def b__law_size : S :=
  .seq (.iff (.cmp .Eq (.idx (.v 0) (.c (.int 0))) (.c (.str s_lot)))
  (.seq (.ret (.idx (.v 0) (.c (.int 1))))
  (.skip))
  (.skip))
  (.seq (.set 1 (.c (.int 1)))
  (.seq (.iff (.cmp .Eq (.idx (.v 0) (.c (.int 0))) (.c (.str s_row)))
  (.seq (.for [2] true none (.idx (.v 0) (.c (.int 1))) l__law_size_0)
  (.seq (.ret (.v 1))
  (.skip)))
  (.skip))
  (.seq (.set 3 (.call i__law_size (.cons (.idx (.v 0) (.c (.int 2))) .nil)))
  (.seq (.for [4] true (some .range) (.cons (.call i__law_size (.cons (.idx (.v 0) (.c (.int 1))) .nil)) .nil) l__law_size_1)
  (.seq (.ret (.v 1))
  (.skip))))))
def d__law_size : Dn := ⟨top 51, "_law_size", ["kind"], ["kind", "found", "one", "base", "turn"], b__law_size⟩
def e__law_count_0 : E :=
  (.call i__law_count (.cons (.v 1) .nil))
def b__law_count : S :=
  .seq (.iff (.cmp .Eq (.idx (.v 0) (.c (.int 0))) (.c (.str s_lot)))
  (.seq (.ret (.c (.int 1)))
  (.skip))
  (.skip))
  (.seq (.iff (.cmp .Eq (.idx (.v 0) (.c (.int 0))) (.c (.str s_row)))
  (.seq (.ret (.bc .sum (.cons (.lc e__law_count_0 [1] [1] true none (.idx (.v 0) (.c (.int 1))) .nil) .nil)))
  (.skip))
  (.skip))
  (.seq (.ret (.bin .Mult (.call i__law_size (.cons (.idx (.v 0) (.c (.int 1))) .nil)) (.call i__law_count (.cons (.idx (.v 0) (.c (.int 2))) .nil))))
  (.skip)))
def d__law_count : Dn := ⟨top 52, "_law_count", ["kind"], ["kind", "one"], b__law_count⟩
def e__law_fits_0 : E :=
  (.call i__law_fits (.cons (.v 2) (.cons (.bin .Sub (.v 1) (.c (.int 1))) .nil)))
def b__law_fits : S :=
  .seq (.iff (.cmp .Lt (.v 1) (.c (.int 1)))
  (.seq (.ret (.c (.bl false)))
  (.skip))
  (.skip))
  (.seq (.iff (.cmp .Eq (.idx (.v 0) (.c (.int 0))) (.c (.str s_lot)))
  (.seq (.ret (.c (.bl true)))
  (.skip))
  (.skip))
  (.seq (.iff (.cmp .Eq (.idx (.v 0) (.c (.int 0))) (.c (.str s_row)))
  (.seq (.ret (.and (.bc .all (.cons (.lc e__law_fits_0 [2] [2] true none (.idx (.v 0) (.c (.int 1))) .nil) .nil)) (.cmp .LtE (.call i__law_count (.cons (.v 0) .nil)) (.c (.int 256)))))
  (.skip))
  (.skip))
  (.seq (.iff (.or (.not (.call i__law_fits (.cons (.idx (.v 0) (.c (.int 1))) (.cons (.bin .Sub (.v 1) (.c (.int 1))) .nil)))) (.or (.not (.call i__law_fits (.cons (.idx (.v 0) (.c (.int 2))) (.cons (.bin .Sub (.v 1) (.c (.int 1))) .nil)))) (.cmp .Gt (.call i__law_size (.cons (.idx (.v 0) (.c (.int 1))) .nil)) (.c (.int 64)))))
  (.seq (.ret (.c (.bl false)))
  (.skip))
  (.skip))
  (.seq (.ret (.cmp .LtE (.call i__law_count (.cons (.v 0) .nil)) (.c (.int 256))))
  (.skip)))))
def d__law_fits : Dn := ⟨top 53, "_law_fits", ["kind", "deep"], ["kind", "deep", "one"], b__law_fits⟩
def e__law_kind_0 : E :=
  (.call i__law_kind (.cons (.v 0) (.cons (.bin .Sub (.v 1) (.c (.int 1))) .nil)))
def b__law_kind : S :=
  .seq (.set 2 (.call i__law_pull (.cons (.v 0) (.cons (.c (.int 6)) .nil))))
  (.seq (.iff (.or (.cmp .Lt (.v 1) (.c (.int 2))) (.cmp .Lt (.v 2) (.c (.int 2))))
  (.seq (.ret (.tup (.cons (.c (.str s_lot)) (.cons (.call i__law_one_of (.cons (.v 0) (.cons (.lst (.cons (.c (.int 2)) (.cons (.c (.int 2)) (.cons (.c (.int 3)) (.cons (.c (.int 1)) (.cons (.c (.int 2)) (.cons (.c (.int 4)) .nil))))))) .nil))) .nil))))
  (.skip))
  (.skip))
  (.seq (.iff (.cmp .Lt (.v 2) (.c (.int 4)))
  (.seq (.ret (.tup (.cons (.c (.str s_row)) (.cons (.bc .tuple (.cons (.lc e__law_kind_0 [3] [3] true (some .range) (.cons (.bin .Add (.c (.int 2)) (.call i__law_pull (.cons (.v 0) (.cons (.c (.int 2)) .nil)))) .nil) .nil) .nil)) .nil))))
  (.skip))
  (.skip))
  (.seq (.ret (.tup (.cons (.c (.str s_fun)) (.cons (.call i__law_kind (.cons (.v 0) (.cons (.bin .Sub (.v 1) (.c (.int 2))) .nil))) (.cons (.call i__law_kind (.cons (.v 0) (.cons (.bin .Sub (.v 1) (.c (.int 1))) .nil))) .nil)))))
  (.skip))))
def d__law_kind : Dn := ⟨top 54, "_law_kind", ["jar", "deep"], ["jar", "deep", "way", "turn"], b__law_kind⟩
def l__law_kind_to_0 : S :=
  .seq (.set 4 (.call i__law_kind (.cons (.v 0) (.cons (.v 1) .nil))))
  (.seq (.iff (.and (.call i__law_fits (.cons (.v 4) (.cons (.c (.int 5)) .nil))) (.cmp .LtE (.call i__law_size (.cons (.v 4) .nil)) (.v 2)))
  (.seq (.ret (.v 4))
  (.skip))
  (.skip))
  (.skip))
def b__law_kind_to : S :=
  .seq (.for [3] true (some .range) (.cons (.c (.int 12)) .nil) l__law_kind_to_0)
  (.seq (.ret (.tup (.cons (.c (.str s_lot)) (.cons (.c (.int 2)) .nil))))
  (.skip))
def d__law_kind_to : Dn := ⟨top 55, "_law_kind_to", ["jar", "deep", "most"], ["jar", "deep", "most", "turn", "kind"], b__law_kind_to⟩
def b__law_members : S :=
  .seq (.ret (.ite (.cmp .Eq (.idx (.v 0) (.c (.int 0))) (.c (.str s_row))) (.bc .list (.cons (.idx (.v 0) (.c (.int 1))) .nil)) (.bin .Mult (.lst (.cons (.idx (.v 0) (.c (.int 2))) .nil)) (.call i__law_size (.cons (.idx (.v 0) (.c (.int 1))) .nil)))))
  (.skip)
def d__law_members : Dn := ⟨top 56, "_law_members", ["kind"], ["kind"], b__law_members⟩
def e__law_values_2 : E :=
  (.bin .Add (.v 5) (.tup (.cons (.v 6) .nil)))
def l__law_values_1 : S :=
  .seq (.expr (.ext (.v 3) (.lc e__law_values_2 [6] [6] true none (.v 4) .nil)))
  (.skip)
def l__law_values_0 : S :=
  .seq (.par 3 4 (.lst .nil) (.call i__law_values (.cons (.v 2) .nil)))
  (.seq (.for [5] true none (.bc .list (.cons (.v 1) .nil)) l__law_values_1)
  (.seq (.set 1 (.v 3))
  (.skip)))
def b__law_values : S :=
  .seq (.iff (.cmp .Eq (.idx (.v 0) (.c (.int 0))) (.c (.str s_lot)))
  (.seq (.ret (.rgl (.idx (.v 0) (.c (.int 1)))))
  (.skip))
  (.skip))
  (.seq (.set 1 (.lst (.cons (.tup .nil) .nil)))
  (.seq (.for [2] true none (.call i__law_members (.cons (.v 0) .nil)) l__law_values_0)
  (.seq (.ret (.v 1))
  (.skip))))
def d__law_values : Dn := ⟨top 57, "_law_values", ["kind"], ["kind", "rows", "one", "more", "told", "row", "value"], b__law_values⟩
def l__law_number_0 : S :=
  .seq (.set 2 (.bin .Add (.bin .Mult (.v 2) (.call i__law_size (.cons (.v 3) .nil))) (.call i__law_number (.cons (.v 3) (.cons (.v 4) .nil)))))
  (.skip)
def b__law_number : S :=
  .seq (.iff (.cmp .Eq (.idx (.v 0) (.c (.int 0))) (.c (.str s_lot)))
  (.seq (.ret (.v 1))
  (.skip))
  (.skip))
  (.seq (.set 2 (.c (.int 0)))
  (.seq (.for [3, 4] false (some .zip) (.cons (.call i__law_members (.cons (.v 0) .nil)) (.cons (.v 1) .nil)) l__law_number_0)
  (.seq (.ret (.v 2))
  (.skip))))
def d__law_number : Dn := ⟨top 58, "_law_number", ["kind", "value"], ["kind", "value", "number", "one", "member"], b__law_number⟩
def l__law_nth_0 : S :=
  .seq (.set 2 (.bin .Add (.tup (.cons (.call i__law_nth (.cons (.v 3) (.cons (.bin .Mod (.bc .int (.cons (.v 1) .nil)) (.call i__law_size (.cons (.v 3) .nil))) .nil))) .nil)) (.v 2)))
  (.seq (.set 1 (.bin .FloorDiv (.v 1) (.call i__law_size (.cons (.v 3) .nil))))
  (.skip))
def b__law_nth : S :=
  .seq (.iff (.cmp .Eq (.idx (.v 0) (.c (.int 0))) (.c (.str s_lot)))
  (.seq (.ret (.v 1))
  (.skip))
  (.skip))
  (.seq (.set 2 (.tup .nil))
  (.seq (.for [3] true (some .rev) (.cons (.call i__law_members (.cons (.v 0) .nil)) .nil) l__law_nth_0)
  (.seq (.ret (.v 2))
  (.skip))))
def d__law_nth : Dn := ⟨top 59, "_law_nth", ["kind", "number"], ["kind", "number", "found", "one"], b__law_nth⟩
def e__law_places_3 : E :=
  (.bin .Add (.tup (.cons (.v 4) .nil)) (.v 5))
def l__law_places_2 : S :=
  .seq (.expr (.ext (.v 1) (.lc e__law_places_3 [5] [5] true none (.call i__law_places (.cons (.idx (.v 0) (.c (.int 2))) .nil)) .nil)))
  (.skip)
def e__law_places_1 : E :=
  (.bin .Add (.tup (.cons (.v 2) .nil)) (.v 5))
def l__law_places_0 : S :=
  .seq (.expr (.ext (.v 1) (.lc e__law_places_1 [5] [5] true none (.call i__law_places (.cons (.v 3) .nil)) .nil)))
  (.skip)
def b__law_places : S :=
  .seq (.iff (.cmp .Eq (.idx (.v 0) (.c (.int 0))) (.c (.str s_lot)))
  (.seq (.ret (.lst (.cons (.tup .nil) .nil)))
  (.skip))
  (.skip))
  (.seq (.set 1 (.lst .nil))
  (.seq (.iff (.cmp .Eq (.idx (.v 0) (.c (.int 0))) (.c (.str s_row)))
  (.seq (.for [2, 3] false (some .enum) (.cons (.idx (.v 0) (.c (.int 1))) .nil) l__law_places_0)
  (.seq (.ret (.v 1))
  (.skip)))
  (.skip))
  (.seq (.for [4] true none (.call i__law_values (.cons (.idx (.v 0) (.c (.int 1))) .nil)) l__law_places_2)
  (.seq (.ret (.v 1))
  (.skip)))))
def d__law_places : Dn := ⟨top 60, "_law_places", ["kind"], ["kind", "found", "at", "one", "value", "place"], b__law_places⟩
def l__law_behind_0 : S :=
  .seq (.set 0 (.ite (.cmp .Eq (.idx (.v 0) (.c (.int 0))) (.c (.str s_row))) (.idx (.idx (.v 0) (.c (.int 1))) (.v 2)) (.idx (.v 0) (.c (.int 2)))))
  (.skip)
def b__law_behind : S :=
  .seq (.for [2] true none (.v 1) l__law_behind_0)
  (.seq (.ret (.v 0))
  (.skip))
def d__law_behind : Dn := ⟨top 61, "_law_behind", ["kind", "place"], ["kind", "place", "step"], b__law_behind⟩
def l__law_digit_0 : S :=
  .seq (.iff (.cmp .Eq (.idx (.v 0) (.c (.int 0))) (.c (.str s_row)))
  (.seq (.par 1 0 (.idx (.v 1) (.v 3)) (.idx (.idx (.v 0) (.c (.int 1))) (.v 3)))
  (.skip))
  (.seq (.par 1 0 (.idx (.v 1) (.call i__law_number (.cons (.idx (.v 0) (.c (.int 1))) (.cons (.v 3) .nil)))) (.idx (.v 0) (.c (.int 2))))
  (.skip)))
  (.skip)
def b__law_digit : S :=
  .seq (.for [3] true none (.v 2) l__law_digit_0)
  (.seq (.ret (.v 1))
  (.skip))
def d__law_digit : Dn := ⟨top 62, "_law_digit", ["kind", "value", "place"], ["kind", "value", "place", "step"], b__law_digit⟩
def e__law_asked_0 : E :=
  (.v 1)
def k__law_asked_0 : E :=
  (.cmp .Gt (.idx (.call i__law_behind (.cons (.v 0) (.cons (.v 1) .nil))) (.c (.int 1))) (.c (.int 1)))
def b__law_asked : S :=
  .seq (.ret (.lc e__law_asked_0 [1] [1] true none (.call i__law_places (.cons (.v 0) .nil)) k__law_asked_0))
  (.skip)
def d__law_asked : Dn := ⟨top 63, "_law_asked", ["kind"], ["kind", "place"], b__law_asked⟩
def e__law_is_value_0 : E :=
  (.call i__law_is_value (.cons (.v 3) (.cons (.v 4) .nil)))
def b__law_is_value : S :=
  .seq (.iff (.cmp .Eq (.idx (.v 0) (.c (.int 0))) (.c (.str s_lot)))
  (.seq (.ret (.and (.isi (.v 1) "int") (.and (.not (.isi (.v 1) "bool")) (.and (.cmp .GtE (.v 1) (.c (.int 0))) (.cmp .Lt (.v 1) (.idx (.v 0) (.c (.int 1))))))))
  (.skip))
  (.skip))
  (.seq (.set 2 (.call i__law_members (.cons (.v 0) .nil)))
  (.seq (.iff (.or (.not (.isi (.v 1) "tuple")) (.cmp .NotEq (.bc .len (.cons (.v 1) .nil)) (.bc .len (.cons (.v 2) .nil))))
  (.seq (.ret (.c (.bl false)))
  (.skip))
  (.skip))
  (.seq (.ret (.bc .all (.cons (.lc e__law_is_value_0 [3, 4] [3, 4] false (some .zip) (.cons (.v 2) (.cons (.v 1) .nil)) .nil) .nil)))
  (.skip))))
def d__law_is_value : Dn := ⟨top 64, "_law_is_value", ["kind", "value"], ["kind", "value", "some", "one", "member"], b__law_is_value⟩
def l__law_is_place_0 : S :=
  .seq (.iff (.cmp .Eq (.idx (.v 0) (.c (.int 0))) (.c (.str s_lot)))
  (.seq (.ret (.c (.bl false)))
  (.skip))
  (.skip))
  (.seq (.iff (.cmp .Eq (.idx (.v 0) (.c (.int 0))) (.c (.str s_fun)))
  (.seq (.iff (.not (.call i__law_is_value (.cons (.idx (.v 0) (.c (.int 1))) (.cons (.v 2) .nil))))
  (.seq (.ret (.c (.bl false)))
  (.skip))
  (.skip))
  (.seq (.set 0 (.idx (.v 0) (.c (.int 2))))
  (.skip)))
  (.seq (.iff (.or (.not (.isi (.v 2) "int")) (.or (.isi (.v 2) "bool") (.or (.cmp .Lt (.v 2) (.c (.int 0))) (.cmp .GtE (.v 2) (.bc .len (.cons (.idx (.v 0) (.c (.int 1))) .nil))))))
  (.seq (.ret (.c (.bl false)))
  (.skip))
  (.skip))
  (.seq (.set 0 (.idx (.idx (.v 0) (.c (.int 1))) (.v 2)))
  (.skip))))
  (.skip))
def b__law_is_place : S :=
  .seq (.iff (.not (.isi (.v 1) "tuple"))
  (.seq (.ret (.c (.bl false)))
  (.skip))
  (.skip))
  (.seq (.for [2] true none (.v 1) l__law_is_place_0)
  (.seq (.ret (.cmp .Eq (.idx (.v 0) (.c (.int 0))) (.c (.str s_lot))))
  (.skip)))
def d__law_is_place : Dn := ⟨top 65, "_law_is_place", ["kind", "value"], ["kind", "value", "step"], b__law_is_place⟩
def l__law_near_0 : S :=
  .seq (.expr (.app (.v 3) (.bin .Add (.bin .Add (.sl (.v 2) .nil (.v 4)) (.tup (.cons (.v 5) .nil))) (.sl (.v 2) (.bin .Add (.v 4) (.c (.int 1))) .nil))))
  (.skip)
def t__law_near_0 : S :=
  .set 2 (.call i__law_one_of (.cons (.v 0) (.cons (.v 1) .nil)))
def t__law_near_1 : S :=
  .set 3 (.lst (.cons (.v 2) (.cons (.bc .list (.cons (.v 2) .nil)) (.cons (.bin .Add (.v 2) (.tup (.cons (.c (.int 0)) .nil))) (.cons (.sl (.v 2) .nil (.neg (.c (.int 1)))) (.cons (.sl (.v 2) (.c (.int 1)) .nil) (.cons (.bin .Add (.v 2) (.v 2)) (.cons (.c .non) (.cons (.c (.int 0)) (.cons .dct (.cons (.c (.str s_e)) (.cons (.tup (.cons (.c .non) .nil)) (.cons (.tup (.cons (.tup .nil) .nil)) .nil)))))))))))))
def t__law_near_2 : S :=
  .iff (.cmp .NotEq (.v 2) (.tup .nil))
  (.seq (.set 4 (.call i__law_pull (.cons (.v 0) (.cons (.bc .len (.cons (.v 2) .nil)) .nil))))
  (.seq (.for [5] true none (.tup (.cons (.c (.int 0)) (.cons (.c (.int 1)) (.cons (.c (.int 2)) (.cons (.c (.int 7)) (.cons (.bin .Sub (.c (.int 0)) (.c (.int 1))) (.cons (.c (.bl true)) (.cons (.c (.bl false)) (.cons (.c .non) (.cons (.c (.str s_0)) (.cons (.tup .nil) (.cons (.tup (.cons (.c (.int 0)) .nil)) (.cons (.tup (.cons (.c (.int 0)) (.cons (.c (.int 1)) .nil))) (.cons (.tup (.cons (.c (.int 1)) (.cons (.c (.int 0)) (.cons (.c (.int 1)) .nil)))) (.cons (.tup (.cons (.idx (.v 2) (.v 4)) .nil)) (.cons (.lst (.cons (.idx (.v 2) (.v 4)) .nil)) .nil)))))))))))))))) l__law_near_0)
  (.seq (.expr (.app (.v 3) (.bin .Add (.sl (.v 2) .nil (.v 4)) (.sl (.v 2) (.bin .Add (.v 4) (.c (.int 1))) .nil))))
  (.skip))))
  (.skip)
def t__law_near_3 : S :=
  .ret (.v 3)
def b__law_near : S :=
  .seq t__law_near_0 (.seq t__law_near_1 (.seq t__law_near_2 (.seq t__law_near_3 (.skip))))
def d__law_near : Dn := ⟨top 66, "_law_near", ["jar", "places"], ["jar", "places", "place", "found", "at", "other"], b__law_near⟩
def l__law_right_4 : S :=
  .seq (.iff (.cmp .NotEq (.bc .repr (.cons (.call i_is_place (.cons (.v 1) (.cons (.v 5) .nil))) .nil)) (.bc .repr (.cons (.call i__law_is_place (.cons (.v 1) (.cons (.v 5) .nil))) .nil)))
  (.seq (.ret (.c (.bl false)))
  (.skip))
  (.skip))
  (.skip)
def l__law_right_3 : S :=
  .seq (.for [5] true none (.call i__law_near (.cons (.v 0) (.cons (.v 2) .nil))) l__law_right_4)
  (.skip)
def e__law_right_2 : E :=
  (.idx (.call i__law_behind (.cons (.v 1) (.cons (.v 6) .nil))) (.c (.int 1)))
def e__law_right_1 : E :=
  (.call i_lot_at (.cons (.v 1) (.cons (.v 6) .nil)))
def e__law_right_0 : E :=
  (.v 6)
def k__law_right_0 : E :=
  (.cmp .Gt (.idx (.call i__law_behind (.cons (.v 1) (.cons (.v 6) .nil))) (.c (.int 1))) (.c (.int 1)))
def t__law_right_0 : S :=
  .set 2 (.call i__law_places (.cons (.v 1) .nil))
def t__law_right_1 : S :=
  .iff (.or (.cmp .NotEq (.bc .repr (.cons (.call i_places_of (.cons (.v 1) .nil)) .nil)) (.bc .repr (.cons (.bc .tuple (.cons (.v 2) .nil)) .nil))) (.cmp .NotEq (.call i_place_count (.cons (.v 1) .nil)) (.bc .len (.cons (.v 2) .nil))))
  (.seq (.ret (.c (.bl false)))
  (.skip))
  (.skip)
def t__law_right_2 : S :=
  .set 3 (.lc e__law_right_0 [6] [6] true none (.v 2) k__law_right_0)
def t__law_right_3 : S :=
  .iff (.cmp .NotEq (.bc .repr (.cons (.call i_asked_places (.cons (.v 1) .nil)) .nil)) (.bc .repr (.cons (.bc .tuple (.cons (.v 3) .nil)) .nil)))
  (.seq (.ret (.c (.bl false)))
  (.skip))
  (.skip)
def t__law_right_4 : S :=
  .iff (.cmp .NotEq (.bc .repr (.cons (.lc e__law_right_1 [6] [6] true none (.v 2) .nil) .nil)) (.bc .repr (.cons (.lc e__law_right_2 [6] [6] true none (.v 2) .nil) .nil)))
  (.seq (.ret (.c (.bl false)))
  (.skip))
  (.skip)
def t__law_right_5 : S :=
  .for [4] true (some .range) (.cons (.c (.int 4)) .nil) l__law_right_3
def t__law_right_6 : S :=
  .ret (.c (.bl true))
def b__law_right : S :=
  .seq t__law_right_0 (.seq t__law_right_1 (.seq t__law_right_2 (.seq t__law_right_3 (.seq t__law_right_4 (.seq t__law_right_5 (.seq t__law_right_6 (.skip)))))))
def d__law_right : Dn := ⟨top 67, "_law_right", ["jar", "kind"], ["jar", "kind", "places", "asked", "turn", "value", "place"], b__law_right⟩
def l_law_1 : S :=
  .seq (.iff (.not (.call i__law_right (.cons (.v 2) (.cons (.call i__law_kind_to (.cons (.v 2) (.cons (.bin .Add (.c (.int 1)) (.call i__law_pull (.cons (.v 2) (.cons (.c (.int 5)) .nil)))) (.cons (.bin .Pow (.c (.int 10)) (.c (.int 25))) .nil)))) .nil))))
  (.seq (.ret (.c (.bl false)))
  (.skip))
  (.skip))
  (.skip)
def l_law_0 : S :=
  .seq (.set 2 (.call i__law_jar (.cons (.v 0) (.cons (.v 1) .nil))))
  (.seq (.for [3] true (some .range) (.cons (.c (.int 8)) .nil) l_law_1)
  (.seq (.set 4 (.call i__law_kind_to (.cons (.v 2) (.cons (.c (.int 3)) (.cons (.c (.int 64)) .nil)))))
  (.seq (.iff (.not (.call i__law_right (.cons (.v 2) (.cons (.tup (.cons (.c (.str s_fun)) (.cons (.v 4) (.cons (.tup (.cons (.c (.str s_row)) (.cons (.tup (.cons (.tup (.cons (.c (.str s_lot)) (.cons (.c (.int 1)) .nil))) (.cons (.tup (.cons (.c (.str s_lot)) (.cons (.c (.int 2)) .nil))) .nil))) .nil))) .nil)))) .nil))))
  (.seq (.ret (.c (.bl false)))
  (.skip))
  (.skip))
  (.skip))))
def t_law_0 : S :=
  .for [1] true (some .range) (.cons (.bc .max (.cons (.c (.int 1)) (.cons (.bc .min (.cons (.c (.int 3)) (.cons (.bc .len (.cons (.v 0) .nil)) .nil))) .nil))) .nil) l_law_0
def t_law_1 : S :=
  .set 5 (.tup (.cons (.c (.str s_fun)) (.cons (.tup (.cons (.c (.str s_row)) (.cons (.tup (.cons (.tup (.cons (.c (.str s_lot)) (.cons (.c (.int 8)) .nil))) (.cons (.tup (.cons (.c (.str s_lot)) (.cons (.c (.int 8)) .nil))) .nil))) .nil))) (.cons (.tup (.cons (.c (.str s_row)) (.cons (.tup (.cons (.tup (.cons (.c (.str s_lot)) (.cons (.c (.int 2)) .nil))) (.cons (.tup (.cons (.c (.str s_lot)) (.cons (.c (.int 1)) .nil))) (.cons (.tup (.cons (.c (.str s_lot)) (.cons (.c (.int 3)) .nil))) (.cons (.tup (.cons (.c (.str s_lot)) (.cons (.c (.int 8)) .nil))) .nil))))) .nil))) .nil))))
def t_law_2 : S :=
  .set 6 (.call i_places_of (.cons (.v 5) .nil))
def t_law_3 : S :=
  .ret (.and (.cmp .Eq (.bc .len (.cons (.v 6) .nil)) (.c (.int 256))) (.and (.cmp .Eq (.idx (.v 6) (.c (.int 255))) (.tup (.cons (.tup (.cons (.c (.int 7)) (.cons (.c (.int 7)) .nil))) (.cons (.c (.int 3)) .nil)))) (.and (.cmp .Eq (.idx (.v 6) (.c (.int 1))) (.tup (.cons (.tup (.cons (.c (.int 0)) (.cons (.c (.int 0)) .nil))) (.cons (.c (.int 1)) .nil)))) (.cmp .Eq (.bc .len (.cons (.call i_asked_places (.cons (.v 5) .nil)) .nil)) (.c (.int 192))))))
def b_law : S :=
  .seq t_law_0 (.seq t_law_1 (.seq t_law_2 (.seq t_law_3 (.skip))))
def d_law : Dn := ⟨top 68, "law", ["script"], ["script", "spot", "jar", "turn", "inner", "big", "told"], b_law⟩
def T : Tb := ⟨[d_is_whole, d_is_within, d_is_tuple_of, d_is_lot, d_is_row, d_measured, d_measured_row, d_measured_fun, d_is_sort, d_size_in, d_lots_in, d_places_in, d_asked_in, d_built, d_value_by_digits, d_values_in, d_is_value_in, d_step_in, d_kind_behind, d_is_place_in, d_lot_in, d_need_kind, d_need_place, d_place_count, d_places_of, d_asked_places, d_is_place, d_lot_at, d__law_jar, d__law_pull, d__law_one_of, d__law_size, d__law_count, d__law_fits, d__law_kind, d__law_kind_to, d__law_members, d__law_values, d__law_number, d__law_nth, d__law_places, d__law_behind, d__law_digit, d__law_asked, d__law_is_value, d__law_is_place, d__law_near, d__law_right, d_law],
  [(s_LOTS, 8), (s_ROWS, 4), (s_DEEP, 5), (s_VALUES, 64), (s_PLACES, 256), (s_TWO, 2), (s_THREE, 3), (s_MOST_DEEP, 5)],
  [(s_LOT, s_lot), (s_ROW, s_row), (s_FUN, s_fun)],
  ["abs", "all", "bool", "enumerate", "int", "isinstance", "len", "list", "max", "min", "range", "repr", "reversed", "sum", "tuple", "zip"]⟩
theorem ok_is_whole : Dn.Ok T.gm d_is_whole := ⟨⟨rfl, rfl, rfl, by decide +kernel, rfl, by decide +kernel, by decide +kernel⟩, by decide +kernel, fun _ _ _ _ _ _ us hl => match us, hl with | [_], _ => rfl⟩
theorem ok_is_within : Dn.Ok T.gm d_is_within := ⟨⟨rfl, rfl, rfl, by decide +kernel, rfl, by decide +kernel, by decide +kernel⟩, by decide +kernel, fun _ _ _ _ _ _ us hl => match us, hl with | [_, _, _], _ => rfl⟩
theorem ok_is_tuple_of : Dn.Ok T.gm d_is_tuple_of := ⟨⟨rfl, rfl, rfl, by decide +kernel, rfl, by decide +kernel, by decide +kernel⟩, by decide +kernel, fun _ _ _ _ _ _ us hl => match us, hl with | [_, _], _ => rfl⟩
theorem ok_is_lot : Dn.Ok T.gm d_is_lot := ⟨⟨rfl, rfl, rfl, by decide +kernel, rfl, by decide +kernel, by decide +kernel⟩, by decide +kernel, fun _ _ _ _ _ _ us hl => match us, hl with | [_], _ => rfl⟩
theorem ok_is_row : Dn.Ok T.gm d_is_row := ⟨⟨rfl, rfl, rfl, by decide +kernel, rfl, by decide +kernel, by decide +kernel⟩, by decide +kernel, fun _ _ _ _ _ _ us hl => match us, hl with | [_], _ => rfl⟩
theorem ok_measured : Dn.Ok T.gm d_measured := ⟨⟨rfl, rfl, rfl, by decide +kernel, rfl, by decide +kernel, by decide +kernel⟩, by decide +kernel, fun _ _ _ _ _ _ us hl => match us, hl with | [_, _], _ => rfl⟩
theorem ok_measured_row : Dn.Ok T.gm d_measured_row := ⟨⟨rfl, rfl, rfl, by decide +kernel, rfl, by decide +kernel, by decide +kernel⟩, by decide +kernel, fun _ _ _ _ _ _ us hl => match us, hl with | [_, _], _ => rfl⟩
theorem ok_measured_fun : Dn.Ok T.gm d_measured_fun := ⟨⟨rfl, rfl, rfl, by decide +kernel, rfl, by decide +kernel, by decide +kernel⟩, by decide +kernel, fun _ _ _ _ _ _ us hl => match us, hl with | [_, _], _ => rfl⟩
theorem ok_is_sort : Dn.Ok T.gm d_is_sort := ⟨⟨rfl, rfl, rfl, by decide +kernel, rfl, by decide +kernel, by decide +kernel⟩, by decide +kernel, fun _ _ _ _ _ _ us hl => match us, hl with | [_], _ => rfl⟩
theorem ok_size_in : Dn.Ok T.gm d_size_in := ⟨⟨rfl, rfl, rfl, by decide +kernel, rfl, by decide +kernel, by decide +kernel⟩, by decide +kernel, fun _ _ _ _ _ _ us hl => match us, hl with | [_], _ => rfl⟩
theorem ok_lots_in : Dn.Ok T.gm d_lots_in := ⟨⟨rfl, rfl, rfl, by decide +kernel, rfl, by decide +kernel, by decide +kernel⟩, by decide +kernel, fun _ _ _ _ _ _ us hl => match us, hl with | [_], _ => rfl⟩
theorem ok_places_in : Dn.Ok T.gm d_places_in := ⟨⟨rfl, rfl, rfl, by decide +kernel, rfl, by decide +kernel, by decide +kernel⟩, by decide +kernel, fun _ _ _ _ _ _ us hl => match us, hl with | [_], _ => rfl⟩
theorem ok_asked_in : Dn.Ok T.gm d_asked_in := ⟨⟨rfl, rfl, rfl, by decide +kernel, rfl, by decide +kernel, by decide +kernel⟩, by decide +kernel, fun _ _ _ _ _ _ us hl => match us, hl with | [_], _ => rfl⟩
theorem ok_built : Dn.Ok T.gm d_built := ⟨⟨rfl, rfl, rfl, by decide +kernel, rfl, by decide +kernel, by decide +kernel⟩, by decide +kernel, fun _ _ _ _ _ _ us hl => match us, hl with | [_, _, _], _ => rfl⟩
theorem ok_value_by_digits : Dn.Ok T.gm d_value_by_digits := ⟨⟨rfl, rfl, rfl, by decide +kernel, rfl, by decide +kernel, by decide +kernel⟩, by decide +kernel, fun _ _ _ _ _ _ us hl => match us, hl with | [_, _], _ => rfl⟩
theorem ok_values_in : Dn.Ok T.gm d_values_in := ⟨⟨rfl, rfl, rfl, by decide +kernel, rfl, by decide +kernel, by decide +kernel⟩, by decide +kernel, fun _ _ _ _ _ _ us hl => match us, hl with | [_], _ => rfl⟩
theorem ok_is_value_in : Dn.Ok T.gm d_is_value_in := ⟨⟨rfl, rfl, rfl, by decide +kernel, rfl, by decide +kernel, by decide +kernel⟩, by decide +kernel, fun _ _ _ _ _ _ us hl => match us, hl with | [_, _], _ => rfl⟩
theorem ok_step_in : Dn.Ok T.gm d_step_in := ⟨⟨rfl, rfl, rfl, by decide +kernel, rfl, by decide +kernel, by decide +kernel⟩, by decide +kernel, fun _ _ _ _ _ _ us hl => match us, hl with | [_, _], _ => rfl⟩
theorem ok_kind_behind : Dn.Ok T.gm d_kind_behind := ⟨⟨rfl, rfl, rfl, by decide +kernel, rfl, by decide +kernel, by decide +kernel⟩, by decide +kernel, fun _ _ _ _ _ _ us hl => match us, hl with | [_, _], _ => rfl⟩
theorem ok_is_place_in : Dn.Ok T.gm d_is_place_in := ⟨⟨rfl, rfl, rfl, by decide +kernel, rfl, by decide +kernel, by decide +kernel⟩, by decide +kernel, fun _ _ _ _ _ _ us hl => match us, hl with | [_, _], _ => rfl⟩
theorem ok_lot_in : Dn.Ok T.gm d_lot_in := ⟨⟨rfl, rfl, rfl, by decide +kernel, rfl, by decide +kernel, by decide +kernel⟩, by decide +kernel, fun _ _ _ _ _ _ us hl => match us, hl with | [_, _], _ => rfl⟩
theorem ok_need_kind : Dn.Ok T.gm d_need_kind := ⟨⟨rfl, rfl, rfl, by decide +kernel, rfl, by decide +kernel, by decide +kernel⟩, by decide +kernel, fun _ _ _ _ _ _ us hl => match us, hl with | [_], _ => rfl⟩
theorem ok_need_place : Dn.Ok T.gm d_need_place := ⟨⟨rfl, rfl, rfl, by decide +kernel, rfl, by decide +kernel, by decide +kernel⟩, by decide +kernel, fun _ _ _ _ _ _ us hl => match us, hl with | [_, _], _ => rfl⟩
theorem ok_place_count : Dn.Ok T.gm d_place_count := ⟨⟨rfl, rfl, rfl, by decide +kernel, rfl, by decide +kernel, by decide +kernel⟩, by decide +kernel, fun _ _ _ _ _ _ us hl => match us, hl with | [_], _ => rfl⟩
theorem ok_places_of : Dn.Ok T.gm d_places_of := ⟨⟨rfl, rfl, rfl, by decide +kernel, rfl, by decide +kernel, by decide +kernel⟩, by decide +kernel, fun _ _ _ _ _ _ us hl => match us, hl with | [_], _ => rfl⟩
theorem ok_asked_places : Dn.Ok T.gm d_asked_places := ⟨⟨rfl, rfl, rfl, by decide +kernel, rfl, by decide +kernel, by decide +kernel⟩, by decide +kernel, fun _ _ _ _ _ _ us hl => match us, hl with | [_], _ => rfl⟩
theorem ok_is_place : Dn.Ok T.gm d_is_place := ⟨⟨rfl, rfl, rfl, by decide +kernel, rfl, by decide +kernel, by decide +kernel⟩, by decide +kernel, fun _ _ _ _ _ _ us hl => match us, hl with | [_, _], _ => rfl⟩
theorem ok_lot_at : Dn.Ok T.gm d_lot_at := ⟨⟨rfl, rfl, rfl, by decide +kernel, rfl, by decide +kernel, by decide +kernel⟩, by decide +kernel, fun _ _ _ _ _ _ us hl => match us, hl with | [_, _], _ => rfl⟩
theorem ok__law_jar : Dn.Ok T.gm d__law_jar := ⟨⟨rfl, rfl, rfl, by decide +kernel, rfl, by decide +kernel, by decide +kernel⟩, by decide +kernel, fun _ _ _ _ _ _ us hl => match us, hl with | [_, _], _ => rfl⟩
theorem ok__law_pull : Dn.Ok T.gm d__law_pull := ⟨⟨rfl, rfl, rfl, by decide +kernel, rfl, by decide +kernel, by decide +kernel⟩, by decide +kernel, fun _ _ _ _ _ _ us hl => match us, hl with | [_, _], _ => rfl⟩
theorem ok__law_one_of : Dn.Ok T.gm d__law_one_of := ⟨⟨rfl, rfl, rfl, by decide +kernel, rfl, by decide +kernel, by decide +kernel⟩, by decide +kernel, fun _ _ _ _ _ _ us hl => match us, hl with | [_, _], _ => rfl⟩
theorem ok__law_size : Dn.Ok T.gm d__law_size := ⟨⟨rfl, rfl, rfl, by decide +kernel, rfl, by decide +kernel, by decide +kernel⟩, by decide +kernel, fun _ _ _ _ _ _ us hl => match us, hl with | [_], _ => rfl⟩
theorem ok__law_count : Dn.Ok T.gm d__law_count := ⟨⟨rfl, rfl, rfl, by decide +kernel, rfl, by decide +kernel, by decide +kernel⟩, by decide +kernel, fun _ _ _ _ _ _ us hl => match us, hl with | [_], _ => rfl⟩
theorem ok__law_fits : Dn.Ok T.gm d__law_fits := ⟨⟨rfl, rfl, rfl, by decide +kernel, rfl, by decide +kernel, by decide +kernel⟩, by decide +kernel, fun _ _ _ _ _ _ us hl => match us, hl with | [_, _], _ => rfl⟩
theorem ok__law_kind : Dn.Ok T.gm d__law_kind := ⟨⟨rfl, rfl, rfl, by decide +kernel, rfl, by decide +kernel, by decide +kernel⟩, by decide +kernel, fun _ _ _ _ _ _ us hl => match us, hl with | [_, _], _ => rfl⟩
theorem ok__law_kind_to : Dn.Ok T.gm d__law_kind_to := ⟨⟨rfl, rfl, rfl, by decide +kernel, rfl, by decide +kernel, by decide +kernel⟩, by decide +kernel, fun _ _ _ _ _ _ us hl => match us, hl with | [_, _, _], _ => rfl⟩
theorem ok__law_members : Dn.Ok T.gm d__law_members := ⟨⟨rfl, rfl, rfl, by decide +kernel, rfl, by decide +kernel, by decide +kernel⟩, by decide +kernel, fun _ _ _ _ _ _ us hl => match us, hl with | [_], _ => rfl⟩
theorem ok__law_values : Dn.Ok T.gm d__law_values := ⟨⟨rfl, rfl, rfl, by decide +kernel, rfl, by decide +kernel, by decide +kernel⟩, by decide +kernel, fun _ _ _ _ _ _ us hl => match us, hl with | [_], _ => rfl⟩
theorem ok__law_number : Dn.Ok T.gm d__law_number := ⟨⟨rfl, rfl, rfl, by decide +kernel, rfl, by decide +kernel, by decide +kernel⟩, by decide +kernel, fun _ _ _ _ _ _ us hl => match us, hl with | [_, _], _ => rfl⟩
theorem ok__law_nth : Dn.Ok T.gm d__law_nth := ⟨⟨rfl, rfl, rfl, by decide +kernel, rfl, by decide +kernel, by decide +kernel⟩, by decide +kernel, fun _ _ _ _ _ _ us hl => match us, hl with | [_, _], _ => rfl⟩
theorem ok__law_places : Dn.Ok T.gm d__law_places := ⟨⟨rfl, rfl, rfl, by decide +kernel, rfl, by decide +kernel, by decide +kernel⟩, by decide +kernel, fun _ _ _ _ _ _ us hl => match us, hl with | [_], _ => rfl⟩
theorem ok__law_behind : Dn.Ok T.gm d__law_behind := ⟨⟨rfl, rfl, rfl, by decide +kernel, rfl, by decide +kernel, by decide +kernel⟩, by decide +kernel, fun _ _ _ _ _ _ us hl => match us, hl with | [_, _], _ => rfl⟩
theorem ok__law_digit : Dn.Ok T.gm d__law_digit := ⟨⟨rfl, rfl, rfl, by decide +kernel, rfl, by decide +kernel, by decide +kernel⟩, by decide +kernel, fun _ _ _ _ _ _ us hl => match us, hl with | [_, _, _], _ => rfl⟩
theorem ok__law_asked : Dn.Ok T.gm d__law_asked := ⟨⟨rfl, rfl, rfl, by decide +kernel, rfl, by decide +kernel, by decide +kernel⟩, by decide +kernel, fun _ _ _ _ _ _ us hl => match us, hl with | [_], _ => rfl⟩
theorem ok__law_is_value : Dn.Ok T.gm d__law_is_value := ⟨⟨rfl, rfl, rfl, by decide +kernel, rfl, by decide +kernel, by decide +kernel⟩, by decide +kernel, fun _ _ _ _ _ _ us hl => match us, hl with | [_, _], _ => rfl⟩
theorem ok__law_is_place : Dn.Ok T.gm d__law_is_place := ⟨⟨rfl, rfl, rfl, by decide +kernel, rfl, by decide +kernel, by decide +kernel⟩, by decide +kernel, fun _ _ _ _ _ _ us hl => match us, hl with | [_, _], _ => rfl⟩
theorem ok__law_near : Dn.Ok T.gm d__law_near := ⟨⟨rfl, rfl, rfl, by decide +kernel, rfl, by decide +kernel, by decide +kernel⟩, by decide +kernel, fun _ _ _ _ _ _ us hl => match us, hl with | [_, _], _ => rfl⟩
theorem ok__law_right : Dn.Ok T.gm d__law_right := ⟨⟨rfl, rfl, rfl, by decide +kernel, rfl, by decide +kernel, by decide +kernel⟩, by decide +kernel, fun _ _ _ _ _ _ us hl => match us, hl with | [_, _], _ => rfl⟩
theorem ok_law : Dn.Ok T.gm d_law := ⟨⟨rfl, rfl, rfl, by decide +kernel, rfl, by decide +kernel, by decide +kernel⟩, by decide +kernel, fun _ _ _ _ _ _ us hl => match us, hl with | [_], _ => rfl⟩
theorem ok_all : ∀ d ∈ T.defs, Dn.Ok T.gm d := by
  intro d h
  simp only [T, List.mem_cons, List.not_mem_nil, or_false] at h
  rcases h with rfl | rfl | rfl | rfl | rfl | rfl | rfl | rfl | rfl | rfl | rfl | rfl | rfl | rfl | rfl | rfl | rfl | rfl | rfl | rfl | rfl | rfl | rfl | rfl | rfl | rfl | rfl | rfl | rfl | rfl | rfl | rfl | rfl | rfl | rfl | rfl | rfl | rfl | rfl | rfl | rfl | rfl | rfl | rfl | rfl | rfl | rfl | rfl | rfl
  · exact ok_is_whole
  · exact ok_is_within
  · exact ok_is_tuple_of
  · exact ok_is_lot
  · exact ok_is_row
  · exact ok_measured
  · exact ok_measured_row
  · exact ok_measured_fun
  · exact ok_is_sort
  · exact ok_size_in
  · exact ok_lots_in
  · exact ok_places_in
  · exact ok_asked_in
  · exact ok_built
  · exact ok_value_by_digits
  · exact ok_values_in
  · exact ok_is_value_in
  · exact ok_step_in
  · exact ok_kind_behind
  · exact ok_is_place_in
  · exact ok_lot_in
  · exact ok_need_kind
  · exact ok_need_place
  · exact ok_place_count
  · exact ok_places_of
  · exact ok_asked_places
  · exact ok_is_place
  · exact ok_lot_at
  · exact ok__law_jar
  · exact ok__law_pull
  · exact ok__law_one_of
  · exact ok__law_size
  · exact ok__law_count
  · exact ok__law_fits
  · exact ok__law_kind
  · exact ok__law_kind_to
  · exact ok__law_members
  · exact ok__law_values
  · exact ok__law_number
  · exact ok__law_nth
  · exact ok__law_places
  · exact ok__law_behind
  · exact ok__law_digit
  · exact ok__law_asked
  · exact ok__law_is_value
  · exact ok__law_is_place
  · exact ok__law_near
  · exact ok__law_right
  · exact ok_law
-- law at 68; names ["TongueError", "InvalidKind", "InvalidPlace", "is_whole", "is_within", "is_tuple_of", "LOT", "ROW", "FUN", "LOTS", "ROWS", "DEEP", "VALUES", "PLACES", "TWO", "THREE", "is_lot", "is_row", "measured", "measured_row", "measured_fun", "is_sort", "size_in", "lots_in", "places_in", "asked_in", "built", "value_by_digits", "values_in", "is_value_in", "step_in", "kind_behind", "is_place_in", "lot_in", "need_kind", "need_place", "MOST_DEEP", "place_count", "places_of", "asked_places", "is_place", "lot_at", "_law_jar", "_law_pull", "_law_one_of", "_law_size", "_law_count", "_law_fits", "_law_kind", "_law_kind_to", "_law_members", "_law_values", "_law_number", "_law_nth", "_law_places", "_law_behind", "_law_digit", "_law_asked", "_law_is_value", "_law_is_place", "_law_near", "_law_right"]
end TT.K02
set_option linter.all false
set_option maxRecDepth 100000
/-! What the evaluator answers: general lemmas. -/
namespace TT
open PySem L2

theorem run_succ {P : List Fn} {k f : Nat} {vs : List Val} {st : Sto} {fn : Fn} (h : P[f]? = some fn) (hl : vs.length = fn.np) : run P (k + 1) f vs st = endOf st (evS (run P k) fn.body (entry fn.ns vs) st) := by
  simp only [run, h, if_pos hl]
theorem keepB_app (st g : Sto) : keepB st (st ++ g) = true := by
  unfold keepB
  rw [List.all_eq_true]
  intro i hi
  rw [List.mem_range] at hi
  simp only [Bool.or_eq_true, decide_eq_true_eq]
  exact .inl (List.getElem?_append_left hi)
theorem cutBack_same (st : Sto) (v : Val) : cutBack st v st = (v, st) := by
  unfold cutBack
  split
  · split
    · rw [List.take_length]
    · split
      · rename_i p h
        split
        · rename_i xs hx
          exfalso
          simp only [Val.blw, decide_eq_true_eq] at h
          exact h (List.getElem?_eq_some_iff.mp hx).1
        · rfl
      · rfl
  · rfl
theorem endOf_same (st : Sto) (v : Val) : endOf st (.rt v st) = .ok v st := by simp only [endOf, cutBack_same]
theorem endOf_nx (st : Sto) (env : VEnv) : endOf st (.nx env st) = .ok .non st := by simp only [endOf, cutBack_same]
theorem endOf_gb (st g : Sto) (v : Val) (h : v.blw st.length = true) : endOf st (.rt v (st ++ g)) = .ok v st := by
  have : cutBack st v (st ++ g) = (v, st) := by
    unfold cutBack
    rw [if_pos ⟨by simp, keepB_app st g⟩, if_pos h, List.take_left']
    rfl
  simp only [endOf, this]
theorem endOf_loc (st g : Sto) (p : Nat) (xs : List Val) (hp : st.length ≤ p) (hx : (st ++ g)[p]? = some (.lst xs)) (h : Vals.blw st.length xs = true) : endOf st (.rt (.loc p) (st ++ g)) = .ok (.loc st.length) (st ++ [.lst xs]) := by
  have : cutBack st (.loc p) (st ++ g) = (.loc st.length, st ++ [.lst xs]) := by
    unfold cutBack
    rw [if_pos ⟨by simp, keepB_app st g⟩, if_neg (by simp only [Val.blw, decide_eq_true_eq]; omega)]
    simp only [hx, if_pos h, List.take_left']
  simp only [endOf, this]
/-- a store in which one cell has changed, and more behind -/
theorem keepB_set (st g : Sto) (n : Nat) (c : Cell) (hc : c.blw st.length = true) : keepB st (st.set n c ++ g) = true := by
  unfold keepB
  rw [List.all_eq_true]
  intro i hi
  rw [List.mem_range] at hi
  simp only [Bool.or_eq_true, decide_eq_true_eq]
  rw [List.getElem?_append_left (by simpa using hi)]
  by_cases e : n = i
  · subst e
    rw [List.getElem?_set_self hi]
    exact .inr hc
  · rw [List.getElem?_set_ne e]
    exact .inl rfl
theorem endOf_set (st g : Sto) (n : Nat) (c : Cell) (v : Val) (hc : c.blw st.length = true) (h : v.blw st.length = true) : endOf st (.rt v (st.set n c ++ g)) = .ok v (st.set n c) := by
  have : cutBack st v (st.set n c ++ g) = (v, st.set n c) := by
    unfold cutBack
    rw [if_pos ⟨by simp, keepB_set st g n c hc⟩, if_pos h, List.take_left']
    simp
  simp only [endOf, this]
theorem endOf_set0 (st : Sto) (n : Nat) (c : Cell) (v : Val) (hc : c.blw st.length = true) (h : v.blw st.length = true) : endOf st (.rt v (st.set n c)) = .ok v (st.set n c) := by
  have := endOf_set st [] n c v hc h
  rwa [List.append_nil] at this
theorem endOf_set_loc (st g : Sto) (n p : Nat) (c : Cell) (xs : List Val) (hc : c.blw st.length = true) (hp : st.length ≤ p) (hx : (st.set n c ++ g)[p]? = some (.lst xs)) (h : Vals.blw st.length xs = true) :
    endOf st (.rt (.loc p) (st.set n c ++ g)) = .ok (.loc st.length) (st.set n c ++ [.lst xs]) := by
  have : cutBack st (.loc p) (st.set n c ++ g) = (.loc st.length, st.set n c ++ [.lst xs]) := by
    unfold cutBack
    rw [if_pos ⟨by simp, keepB_set st g n c hc⟩, if_neg (by simp only [Val.blw, decide_eq_true_eq]; omega)]
    simp only [hx, if_pos h]
    rw [List.take_left' (by simp)]
  simp only [endOf, this]
/-! ### ints -/
theorem mulOk_of {i j : Int} {a b : Nat} (hi : i.natAbs < 2 ^ a) (hj : j.natAbs < 2 ^ b) (h : a + b ≤ 900000) (ha : 0 < a) (hb : 0 < b) : mulOk i j = true := by
  have l : ∀ (x : Int) (n : Nat), x.natAbs < 2 ^ n → 0 < n → x.natAbs.log2 < n := fun x n h hn => by
    by_cases z : x.natAbs = 0
    · rw [z]
      show Nat.log2 0 < n
      simpa using hn
    · exact (Nat.log2_lt z).mpr h
  unfold mulOk
  rw [decide_eq_true_eq]
  have h1 := l i a hi ha
  have h2 := l j b hj hb
  omega
end TT
namespace TT
open PySem L2
/-! ### small answers -/
@[simp] theorem liftO_some {α : Type} (a : α) (st : Sto) : liftO (some a) st = .ok a st := rfl
@[simp] theorem truthR_b (b : Bool) (st : Sto) : truthR (.bl b) st = .ok b st := rfl
@[simp] theorem binV_add (i j : Int) (st : Sto) : binV .Add (.int i) (.int j) st = .ok (.int (i + j)) st := rfl
@[simp] theorem binV_sub (i j : Int) (st : Sto) : binV .Sub (.int i) (.int j) st = .ok (.int (i - j)) st := rfl
theorem binV_mul (i j : Int) (st : Sto) (h : mulOk i j = true) : binV .Mult (.int i) (.int j) st = .ok (.int (i * j)) st := by simp only [binV, h, if_true]
theorem binV_mod (i j : Int) (st : Sto) (h : 0 < j) : binV .Mod (.int i) (.int j) st = .ok (.int (i % j)) st := by simp only [binV, h, if_true]
theorem binV_fdiv (i j : Int) (st : Sto) (h : 0 < j) (h2 : j.natAbs.log2 < 9000) : binV .FloorDiv (.int i) (.int j) st = .ok (.int (i / j)) st := by simp only [binV, h, h2, and_self, if_true]
@[simp] theorem rdD_int (st : Sto) (i : Int) : rdD st (.int i) = some (.int i) := rfl
@[simp] theorem rdD_str (st : Sto) (s : Str) : rdD st (.str s) = some (.str s) := rfl
@[simp] theorem rdD_bl (st : Sto) (b : Bool) : rdD st (.bl b) = some (.bool b) := rfl
@[simp] theorem rdD_non (st : Sto) : rdD st .non = some .none := rfl
theorem shaped_int (i : Int) : SeqAt.shaped (.int i) = true := rfl
theorem shaped_bool (b : Bool) : SeqAt.shaped (.bool b) = true := rfl
theorem shaped_none : SeqAt.shaped .none = true := rfl
@[simp] theorem eqV_int (st : Sto) (i j : Int) : TT.eqV st (.int i) (.int j) = some (i == j) := rfl
@[simp] theorem cmpR_eqI (i j : Int) (st : Sto) : cmpR .Eq (.int i) (.int j) st = .ok (.bl (i == j)) st := rfl
@[simp] theorem cmpR_neI (i j : Int) (st : Sto) : cmpR .NotEq (.int i) (.int j) st = .ok (.bl (!(i == j))) st := rfl
@[simp] theorem cmpR_lt (i j : Int) (st : Sto) : cmpR .Lt (.int i) (.int j) st = .ok (.bl (decide (i < j))) st := rfl
@[simp] theorem cmpR_le (i j : Int) (st : Sto) : cmpR .LtE (.int i) (.int j) st = .ok (.bl (decide (i ≤ j))) st := rfl
@[simp] theorem cmpR_gt (i j : Int) (st : Sto) : cmpR .Gt (.int i) (.int j) st = .ok (.bl (decide (j < i))) st := rfl
@[simp] theorem cmpR_ge (i j : Int) (st : Sto) : cmpR .GtE (.int i) (.int j) st = .ok (.bl (decide (j ≤ i))) st := rfl
@[simp] theorem cmpV_lt (i j : Int) (st : Sto) : cmpV .Lt (.int i) (.int j) st = some (decide (i < j)) := rfl
@[simp] theorem cmpV_le (i j : Int) (st : Sto) : cmpV .LtE (.int i) (.int j) st = some (decide (i ≤ j)) := rfl
@[simp] theorem cmpR_isN (v : Val) (st : Sto) : cmpR .Is v .non st = .ok (.bl (isN v)) st := rfl
@[simp] theorem cmpR_notN (v : Val) (st : Sto) : cmpR .IsNot v .non st = .ok (.bl (!isN v)) st := rfl
@[simp] theorem idx0 (a : Val) (r : List Val) (st : Sto) : idxV (.tup (a :: r)) (.int 0) st = .ok a st := by
  simp [idxV, seqOf, L2.atI, L2.ixN]
@[simp] theorem idx1 (a b : Val) (r : List Val) (st : Sto) : idxV (.tup (a :: b :: r)) (.int 1) st = .ok b st := by
  have : (1 : Int) < (r.length : Int) + 1 + 1 := by omega
  simp [idxV, seqOf, L2.atI, L2.ixN, this]
@[simp] theorem idx2 (a b c : Val) (r : List Val) (st : Sto) : idxV (.tup (a :: b :: c :: r)) (.int 2) st = .ok c st := by
  have : (2 : Int) < (r.length : Int) + 1 + 1 + 1 := by omega
  simp [idxV, seqOf, L2.atI, L2.ixN, this]
@[simp] theorem len_tup (vs : List Val) (st : Sto) : bltV .len [.tup vs] st = .ok (.int vs.length) st := rfl
@[simp] theorem int_int (i : Int) (st : Sto) : bltV .int [.int i] st = .ok (.int i) st := rfl
@[simp] theorem int_bl (b : Bool) (st : Sto) : bltV .int [.bl b] st = .ok (.int (if b then 1 else 0)) st := rfl
@[simp] theorem abs_int (i : Int) (st : Sto) : bltV .abs [.int i] st = .ok (.int (if i < 0 then -i else i)) st := rfl
@[simp] theorem max_int (i j : Int) (st : Sto) : bltV .max [.int i, .int j] st = .ok (.int (if j > i then j else i)) st := rfl
@[simp] theorem min_int (i j : Int) (st : Sto) : bltV .min [.int i, .int j] st = .ok (.int (if j < i then j else i)) st := rfl
/-! ### loops -/
theorem forLoop_inv {w : Watch} {tg : List Nat} {one : Bool} {body : VEnv → Sto → Fl} (I : VEnv → Sto → Prop) : ∀ (vs : List Val), (∀ v ∈ vs, ∀ env st, I env st → wOk w st = true ∧ ∃ env' env1 st1, setTg tg one v env = some env' ∧ body env' st = .nx env1 st1 ∧ I env1 st1) →
    (∀ env st, I env st → wOk w st = true) → ∀ env st, I env st → ∃ env1 st1, forLoop w tg one body vs env st = .nx env1 st1 ∧ I env1 st1
  | [], _, hw, env, st, hI => ⟨env, st, by simp only [forLoop, hw env st hI, if_true], hI⟩
  | v :: vs, h, hw, env, st, hI => by
    obtain ⟨w1, env', env1, st1, e1, e2, e3⟩ := h v List.mem_cons_self env st hI
    obtain ⟨env2, st2, e4, e5⟩ := forLoop_inv I vs (fun u hu => h u (List.mem_cons_of_mem _ hu)) hw env1 st1 e3
    exact ⟨env2, st2, by simp only [forLoop, w1, if_true, e1, e2, e4], e5⟩
@[simp] theorem wOk_nil (st : Sto) : wOk [] st = true := rfl
@[simp] theorem setTg_one (i : Nat) (v : Val) (env : VEnv) : setTg [i] true v env = some (setN i v env) := rfl
@[simp] theorem items_tup (vs : List Val) (st : Sto) : itemsOf st (.tup vs) = some (vs, []) := rfl
@[simp] theorem range1_ok (n : Int) (st : Sto) (h0 : -(2 ^ 62) ≤ n ∧ n ≤ 1000000) : iterV .range [.int n] st = .ok (rangeL 0 n.toNat, []) st := by
  have h1 : smallI n = true := by
    unfold smallI
    rw [decide_eq_true_eq]
    omega
  have h2 : n.toNat ≤ sizeLine := by
    rw [show (sizeLine : Nat) = 16777216 from rfl]
    omega
  simp only [iterV, h1, h2, true_and, if_true]
/-- isinstance -/
def isiR (x : Val) (t : String) (st : Sto) : Res Val := liftO (((tyName st x).bind (isiV t)).map .bl) st
theorem isiR_def (x : Val) (t : String) (st : Sto) : liftO (((tyName st x).bind (isiV t)).map .bl) st = isiR x t st := rfl
@[simp] theorem sizeLine_eq : (sizeLine : Nat) = 16777216 := by decide +kernel
@[simp] theorem optFl_some {α : Type} (a : α) (f : α → Fl) : optFl (some a) f = f a := rfl
@[simp] theorem setTg_many (is : List Nat) (vs : List Val) (env : VEnv) : setTg is false (.tup vs) env = setNs is vs env := by
  unfold setTg
  split <;> simp_all
/-- one more turn -/
theorem forLoop_cons {w : Watch} {tg : List Nat} {one : Bool} {body : VEnv → Sto → Fl} {v : Val} {vs : List Val} {env env' env1 : VEnv} {st st1 : Sto} (hw : wOk w st = true) (h1 : setTg tg one v env = some env') (h2 : body env' st = .nx env1 st1) :
    forLoop w tg one body (v :: vs) env st = forLoop w tg one body vs env1 st1 := by
  simp only [forLoop, hw, if_true, h1, h2]
theorem forLoop_out {w : Watch} {tg : List Nat} {one : Bool} {body : VEnv → Sto → Fl} {v u : Val} {vs : List Val} {env env' : VEnv} {st st1 : Sto} (hw : wOk w st = true) (h1 : setTg tg one v env = some env') (h2 : body env' st = .rt u st1) :
    forLoop w tg one body (v :: vs) env st = .rt u st1 := by
  simp only [forLoop, hw, if_true, h1, h2]
theorem forLoop_nil {w : Watch} {tg : List Nat} {one : Bool} {body : VEnv → Sto → Fl} {env : VEnv} {st : Sto} (hw : wOk w st = true) :
    forLoop w tg one body [] env st = .nx env st := by
  simp only [forLoop, hw, if_true]
theorem rangeL_succ (lo : Int) (n : Nat) : rangeL lo (n + 1) = .int lo :: rangeL (lo + 1) n := by
  unfold rangeL
  rw [List.range_succ_eq_map]
  simp only [List.map_cons, List.map_map, Int.natCast_zero, Int.add_zero, List.cons.injEq, true_and]
  apply List.map_congr_left
  intro i _
  simp only [Function.comp, Val.int.injEq]
  push_cast
  omega
/-- a loop with a promise over what is left -/
theorem forLoop_rest {w : Watch} {tg : List Nat} {one : Bool} {body : VEnv → Sto → Fl} (I : List Val → VEnv → Sto → Prop) (hw : ∀ vs env st, I vs env st → wOk w st = true)
    (step : ∀ v vs env st, I (v :: vs) env st → ∃ env' env1 st1, setTg tg one v env = some env' ∧ body env' st = .nx env1 st1 ∧ I vs env1 st1) :
    ∀ vs env st, I vs env st → ∃ env1 st1, forLoop w tg one body vs env st = .nx env1 st1 ∧ I [] env1 st1
  | [], env, st, h => ⟨env, st, forLoop_nil (hw _ _ _ h), h⟩
  | v :: vs, env, st, h => by
    obtain ⟨env', env1, st1, e1, e2, e3⟩ := step v vs env st h
    obtain ⟨env2, st2, e4, e5⟩ := forLoop_rest I hw step vs env1 st1 e3
    exact ⟨env2, st2, by rw [forLoop_cons (hw _ _ _ h) e1 e2, e4], e5⟩
/-- a comprehension whose parts leave the store alone -/
theorem lcLoop_map {tg : List Nat} {one : Bool} {c : VEnv → Sto → Res Val} {elt : VEnv → Sto → Res Val} {env : VEnv} {st : Sto} (f : Val → Val) : ∀ (vs : List Val), (∀ v ∈ vs, ∃ env', setTg tg one v env = some env' ∧ elt env' st = .ok (f v) st) →
    lcLoop [] tg one (cndR true c) elt vs env st = .ok (vs.map f) st
  | [], _ => by simp [lcLoop]
  | v :: vs, h => by
    obtain ⟨env', e1, e2⟩ := h v List.mem_cons_self
    have := lcLoop_map (tg := tg) (one := one) (c := c) f vs fun u hu => h u (List.mem_cons_of_mem _ hu)
    simp [lcLoop, e1, e2, cndR, this]
@[simp] theorem isNil_nil : isNil .nil = true := rfl
@[simp] theorem alloc_ok (c : Cell) (st : Sto) : alloc c st = .ok (.loc st.length) (st ++ [c]) := rfl
theorem asInts_map : ∀ is : List Int, asInts (is.map .int) = some is
  | [] => rfl
  | i :: is => by simp [asInts, asInts_map is]
theorem asBls_map : ∀ is : List Bool, asBls (is.map .bl) = some is
  | [] => rfl
  | i :: is => by simp [asBls, asBls_map is]
theorem seqOf_last (st : Sto) (xs : List Val) : seqOf (st ++ [.lst xs]) (.loc st.length) = some xs := by simp [seqOf]
theorem sum_last (st : Sto) (is : List Int) : bltV .sum [.loc st.length] (st ++ [.lst (is.map .int)]) = .ok (.int is.sum) (st ++ [.lst (is.map .int)]) := by
  simp only [bltV, seqOf_last, Option.bind_some, asInts_map]
theorem all_last (st : Sto) (bs : List Bool) : bltV .all [.loc st.length] (st ++ [.lst (bs.map .bl)]) = .ok (.bl (bs.all id)) (st ++ [.lst (bs.map .bl)]) := by
  simp only [bltV, seqOf_last, Option.bind_some, asBls_map]
@[simp] theorem endOf_gI (st g : Sto) (i : Int) : endOf st (.rt (.int i) (st ++ g)) = .ok (.int i) st := endOf_gb st g _ rfl
@[simp] theorem endOf_gB (st g : Sto) (i : Bool) : endOf st (.rt (.bl i) (st ++ g)) = .ok (.bl i) st := endOf_gb st g _ rfl
@[simp] theorem endOf_gS (st g : Sto) (i : Str) : endOf st (.rt (.str i) (st ++ g)) = .ok (.str i) st := endOf_gb st g _ rfl
@[simp] theorem endOf_gN (st g : Sto) : endOf st (.rt .non (st ++ g)) = .ok .non st := endOf_gb st g _ rfl
/-! ### the jar of draws: one cell in the midst of the store -/
def jc (a b c : Int) : Cell := .lst [.int a, .int b, .int c]
def JS (p : Sto) (a b c : Int) (g : Sto) : Sto := p ++ (jc a b c :: g)
def JB (N : Nat) (a b c : Int) : Prop := 0 ≤ a ∧ a.natAbs < 2 ^ 1200 ∧ 0 ≤ b ∧ b.natAbs < 2 ^ 60 ∧ 0 ≤ c ∧ c ≤ N
theorem JB.mono {N M : Nat} {a b c : Int} (h : JB N a b c) (hm : N ≤ M) : JB M a b c := ⟨h.1, h.2.1, h.2.2.1, h.2.2.2.1, h.2.2.2.2.1, by have := h.2.2.2.2.2; omega⟩
theorem JS_get (p : Sto) (a b c : Int) (g : Sto) : (JS p a b c g)[p.length]? = some (.lst [.int a, .int b, .int c]) := by simp [JS, jc]
theorem JS_len (p : Sto) (a b c : Int) (g : Sto) : (JS p a b c g).length = p.length + 1 + g.length := by simp [JS]; omega
theorem JS_app (p : Sto) (a b c : Int) (g h : Sto) : JS p a b c g ++ h = JS p a b c (g ++ h) := by simp [JS]
theorem JS_set (p : Sto) (a b c a' b' c' : Int) (g : Sto) : (JS p a b c g).set p.length (jc a' b' c') = JS p a' b' c' g := by simp [JS, List.set_append]
theorem JS_i0 (p : Sto) (a b c : Int) (g : Sto) : idxV (.loc p.length) (.int 0) (JS p a b c g) = .ok (.int a) (JS p a b c g) := by
  simp [idxV, seqOf, JS_get, L2.atI, L2.ixN]
theorem JS_i1 (p : Sto) (a b c : Int) (g : Sto) : idxV (.loc p.length) (.int 1) (JS p a b c g) = .ok (.int b) (JS p a b c g) := by
  simp [idxV, seqOf, JS_get, L2.atI, L2.ixN]
theorem JS_i2 (p : Sto) (a b c : Int) (g : Sto) : idxV (.loc p.length) (.int 2) (JS p a b c g) = .ok (.int c) (JS p a b c g) := by
  simp [idxV, seqOf, JS_get, L2.atI, L2.ixN]
theorem JS_s0 (p : Sto) (a b c x : Int) (g : Sto) : storeV (.loc p.length) (.int 0) (.int x) (JS p a b c g) = some (JS p x b c g) := by
  have := JS_set p a b c x b c g
  simp only [jc] at this
  simp [storeV, JS_get, L2.ixN, this]
theorem JS_s2 (p : Sto) (a b c x : Int) (g : Sto) : storeV (.loc p.length) (.int 2) (.int x) (JS p a b c g) = some (JS p a b x g) := by
  have := JS_set p a b c a b x g
  simp only [jc] at this
  simp [storeV, JS_get, L2.ixN, this]
theorem JS_end (p : Sto) (a b c a' b' c' : Int) (g h : Sto) (v : Val) (hv : v.blw (p.length + 1 + g.length) = true) : endOf (JS p a b c g) (.rt v (JS p a' b' c' (g ++ h))) = .ok v (JS p a' b' c' g) := by
  have := endOf_set (JS p a b c g) h p.length (jc a' b' c') v rfl (by rw [JS_len]; exact hv)
  rwa [JS_set, JS_app] at this
theorem JS_end0 (p : Sto) (a b c a' b' c' : Int) (g : Sto) (v : Val) (hv : v.blw (p.length + 1 + g.length) = true) : endOf (JS p a b c g) (.rt v (JS p a' b' c' g)) = .ok v (JS p a' b' c' g) := by
  have := JS_end p a b c a' b' c' g [] v hv
  rwa [List.append_nil] at this
theorem JS_endI (p : Sto) (a b c a' b' c' : Int) (g : Sto) (i : Int) : endOf (JS p a b c g) (.rt (.int i) (JS p a' b' c' g)) = .ok (.int i) (JS p a' b' c' g) := JS_end0 p a b c a' b' c' g _ rfl
theorem mod_bd {x m : Int} {n : Nat} (hm : 0 < m) (h : m.natAbs ≤ 2 ^ n) : (x % m).natAbs < 2 ^ n ∧ 0 ≤ x % m := by
  have h1 := Int.emod_nonneg x (show m ≠ 0 by omega)
  have h2 := Int.emod_lt_of_pos x hm
  generalize 2 ^ n = q at *
  omega
theorem JS_last (p : Sto) (a b c : Int) (g : Sto) (x : Cell) : (JS p a b c (g ++ [x]))[p.length + 1 + g.length]? = some x := by
  rw [← JS_app, ← JS_len p a b c g]
  simp
@[simp] theorem lcLoop_nil (tg : List Nat) (one : Bool) (cnd : VEnv → Sto → Res Bool) (elt : VEnv → Sto → Res Val) (env : VEnv) (st : Sto) : lcLoop [] tg one cnd elt [] env st = .ok [] st := rfl
theorem lcLoop_cons {tg : List Nat} {one : Bool} {cc : VEnv → Sto → Res Val} {elt : VEnv → Sto → Res Val} {v y : Val} {vs : List Val} {env env' : VEnv} {st st1 : Sto} (h1 : setTg tg one v env = some env') (h2 : elt env' st = .ok y st1) :
    lcLoop [] tg one (cndR true cc) elt (v :: vs) env st = (lcLoop [] tg one (cndR true cc) elt vs env st1).bind fun ys st3 => .ok (y :: ys) st3 := by
  simp only [lcLoop, wOk_nil, if_true, h1, cndR, Res.bind_ok, h2]
theorem tuple_last (p : Sto) (a b c : Int) (g : Sto) (ys : List Val) : bltV .tuple [.loc (p.length + 1 + g.length)] (JS p a b c (g ++ [.lst ys])) = .ok (.tup ys) (JS p a b c (g ++ [.lst ys])) := by
  simp [bltV, seqOf, JS_last]
theorem at_end (G h : Sto) (i : Nat) : (G ++ h)[G.length + i]? = h[i]? := by
  rw [List.getElem?_append_right (by omega), Nat.add_sub_cancel_left]
theorem at_end0 (G h : Sto) : (G ++ h)[G.length]? = h[0]? := at_end G h 0
theorem seq_nx {C : CallF} {a b : S} {env env1 : VEnv} {st st1 : Sto} (h : evS C a env st = .nx env1 st1) : evS C (.seq a b) env st = evS C b env1 st1 := by
  simp only [evS, h]
theorem seq_rt {C : CallF} {a b : S} {env : VEnv} {st st1 : Sto} {v : Val} (h : evS C a env st = .rt v st1) : evS C (.seq a b) env st = .rt v st1 := by
  simp only [evS, h]
theorem set_end (G h : Sto) (i : Nat) (x : Cell) : (G ++ h).set (G.length + i) x = G ++ h.set i x := by
  rw [List.set_append_right _ _ (by omega), Nat.add_sub_cancel_left]
theorem endOf_uncut {st st' : Sto} {q : Nat} {xs : List Val} (h1 : st.length ≤ q) (h2 : st'[q]? = some (.lst xs)) (h3 : Vals.blw st.length xs = false) : endOf st (.rt (.loc q) st') = .ok (.loc q) st' := by
  have : cutBack st (.loc q) st' = (.loc q, st') := by
    unfold cutBack
    split
    · rw [if_neg (by simp only [Val.blw, decide_eq_true_eq]; omega)]
      simp [h2, h3]
    · rfl
  simp only [endOf, this]
theorem cutL_to (xs : List Val) (i : Int) (h0 : 0 ≤ i) (h1 : i ≤ xs.length) : cutL xs none (some i) = xs.take i.toNat := by
  have e : HT.sIx xs.length xs.length (some i) = i.toNat := by
    simp only [HT.sIx]
    split <;> omega
  have e2 : HT.sIx xs.length 0 none = 0 := rfl
  simp only [cutL, e, e2, List.drop_zero, Nat.sub_zero]
theorem cutL_from (xs : List Val) (i : Int) (h0 : 0 ≤ i) (h1 : i ≤ xs.length) : cutL xs (some i) none = xs.drop i.toNat := by
  have e : HT.sIx xs.length 0 (some i) = i.toNat := by
    simp only [HT.sIx]
    split <;> omega
  have e2 : HT.sIx xs.length xs.length none = xs.length := rfl
  simp only [cutL, e, e2]
  rw [List.take_of_length_le]
  simp
/-! ### texts -/
theorem strOk_ofString (s : String) : PyData.strOk (Str.ofString s) = true := by
  rw [Str.ofString_eq_toList]
  unfold PyData.strOk
  rw [← Array.all_toList]
  simp only [List.all_map, List.all_eq_true, Function.comp, decide_eq_true_eq]
  intro c _
  have := c.valid
  simp only [UInt32.isValidChar, Nat.isValidChar] at this
  simp only [Char.toNat]
  omega
theorem strOk_append {x y : Str} (h1 : PyData.strOk x = true) (h2 : PyData.strOk y = true) : PyData.strOk (x ++ y) = true := by
  show PyData.strOk (Str.append x y) = true
  unfold PyData.strOk Str.append at *
  simp only [Array.all_append, h1, h2, Bool.and_self]
theorem shaped_str {t : Str} (h : PyData.strOk t = true) : SeqAt.shaped (.str t) = true := by
  unfold SeqAt.shaped
  simp only [PyData.canLay0, h, Bool.true_and, decide_eq_true_eq]
  exact Nat.zero_le _
theorem cmpNe_str {t u : Str} (h : PyData.strOk t = true) (g : PyData.strOk u = true) (st : Sto) : cmpR .NotEq (.str t) (.str u) st = .ok (.bl (!decide (t = u))) st := by
  have e : TT.eqV st (.str t) (.str u) = some (decide (t = u)) := by
    unfold TT.eqV
    simp only [rdD_str, shaped_str h, shaped_str g, and_self, if_true, PyData.eqv]
    congr 1
  simp only [cmpR, cmpV, e, Option.map_some, liftO_some]
def bT (b : Bool) : Str := if b then "True" else "False"
theorem strOk_bT (b : Bool) : PyData.strOk (bT b) = true := by cases b <;> decide +kernel
@[simp] theorem repr_bl (b : Bool) (st : Sto) : bltV .repr [.bl b] st = .ok (.str (bT b)) st := by
  cases b <;> (simp only [bltV, rdD_bl]; rw [if_pos (by decide +kernel)]; rfl)
theorem bT_inj (a b : Bool) : (bT a = bT b) = (a = b) := by
  cases a <;> cases b <;> simp <;> decide +kernel
@[simp] theorem cmpNe_bT (a b : Bool) (st : Sto) : cmpR .NotEq (.str (bT a)) (.str (bT b)) st = .ok (.bl (!(a == b))) st := by
  rw [cmpNe_str (strOk_bT a) (strOk_bT b)]
  cases a <;> cases b <;> simp [bT_inj]
theorem strOk_int (i : Int) : PyData.strOk (PyData.shown (.int i)) = true := strOk_ofString _
theorem len_int {i : Int} (h : i.natAbs < 10 ^ 1000) : (PyData.shown (.int i)).length ≤ 1001 := by
  have e := int_text_length_le10 (k := 1000) (by decide) h
  show (Str.ofString (toString i)).length ≤ 1001
  rw [ofString_length]
  exact e
/-- repr of a pair of ints -/
theorem repr_II {i j : Int} (hi : i.natAbs < 2 ^ 1900) (hj : j.natAbs < 2 ^ 1900) (st : Sto) : ∃ t, bltV .repr [.tup [.int i, .int j]] st = .ok (.str t) st ∧ PyData.strOk t = true := by
  have big : (2 : Nat) ^ 1900 ≤ 10 ^ 1000 := by decide +kernel
  have lg : ∀ x : Int, x.natAbs < 2 ^ 1900 → x.natAbs.log2 < 1920 := fun x h => by
    by_cases z : x.natAbs = 0
    · rw [z]; decide
    · have := (Nat.log2_lt z).mpr h
      omega
  have e : rdD st (.tup [.int i, .int j]) = some (.tuple [.int i, .int j]) := rfl
  refine ⟨(PyData.tuple [.int i, .int j]).shown, ?_, ?_⟩
  · simp only [bltV, e]
    rw [if_pos]
    refine ⟨?_, rfl, by simp [PyData.depth, PyData.depthAll], ?_⟩
    · simp only [PyData.showable, PyData.showableAll, lg i hi, lg j hj, decide_true, Bool.and_self]
    · have := tupleText_len_le (PyData.shownAll [.int i, .int j])
      have h1 := len_int (Nat.lt_of_lt_of_le hi big)
      have h2 := len_int (Nat.lt_of_lt_of_le hj big)
      simp only [PyData.shownAll, List.map_cons, List.map_nil, List.sum_cons, List.sum_nil, List.length_cons, List.length_nil] at this
      show (tupleText (PyData.shownAll [.int i, .int j])).length ≤ _
      rw [sizeLine_eq]
      simp only [PyData.shownAll]
      omega
  · show PyData.strOk (tupleText (PyData.shownAll [.int i, .int j])) = true
    simp only [PyData.shownAll, tupleText]
    refine strOk_append (strOk_append (strOk_ofString _) ?_) (strOk_ofString _)
    exact strOk_append (strOk_append (strOk_int i) (strOk_ofString _)) (strOk_int j)
end TT
set_option linter.all false
set_option maxHeartbeats 1000000
namespace TT.K02
open PySem L2
def isInt : Val → Bool
  | .int _ => true
  | _ => false
def inB (lo hi : Int) : Val → Bool
  | .int i => decide (lo ≤ i) && decide (i ≤ hi)
  | _ => false
def tupN (n : Int) : Val → Bool
  | .tup vs => (vs.length : Int) == n
  | _ => false
def isTup : Val → Bool
  | .tup _ => true
  | _ => false
def isBl : Val → Bool
  | .bl _ => true
  | _ => false
def okT (st : Sto) (v : Val) : Prop := ∃ n, tyName st v = some n ∧ (n == "int") = isInt v ∧ (n == "tuple") = isTup v ∧ (isInt v = true → n = "int") ∧ (n = "bool" → isInt v = false)
/-- plain values: small ints, few strings, no lists -/
def words : List Str := [s_lot, s_row, s_fun, s_lot, s_row, s_fun]
mutual
def gd : Nat → Val → Bool
  | _, .non => true
  | _, .bl _ => true
  | _, .int i => decide (-1 ≤ i ∧ i ≤ 9)
  | _, .str s => words.contains s
  | 0, .tup _ => false
  | d + 1, .tup vs => decide (vs.length ≤ 5) && gds d vs
  | _, _ => false
def gds : Nat → List Val → Bool
  | _, [] => true
  | d, v :: vs => gd d v && gds d vs
end
theorem okT_int (st : Sto) (i : Int) : okT st (.int i) := ⟨_, rfl, rfl, rfl, fun _ => rfl, fun h => by simp at h⟩
theorem okT_tup (st : Sto) (vs : List Val) : okT st (.tup vs) := ⟨_, rfl, rfl, rfl, fun h => by simp [isInt] at h, fun h => by simp at h⟩
theorem okT_str (st : Sto) (s : Str) : okT st (.str s) := ⟨_, rfl, rfl, rfl, fun h => by simp [isInt] at h, fun h => by simp at h⟩
theorem okT_non (st : Sto) : okT st .non := ⟨_, rfl, rfl, rfl, fun h => by simp [isInt] at h, fun h => by simp at h⟩
theorem okT_bl (st : Sto) (b : Bool) : okT st (.bl b) := ⟨_, rfl, rfl, rfl, fun h => by simp [isInt] at h, fun h => rfl⟩
theorem okT_loc (st : Sto) (n : Nat) (h : n < st.length) : okT st (.loc n) := by
  have : st[n]? = some st[n] := by simp [h]
  unfold okT
  simp only [tyName, this]
  cases st[n] <;> exact ⟨_, rfl, rfl, rfl, fun h => by simp [isInt] at h, fun h => by simp at h⟩
theorem okT_gd (st : Sto) {d : Nat} {v : Val} (h : gd d v = true) : okT st v := by
  cases v with
  | non => exact okT_non st
  | bl b => exact okT_bl st b
  | int i => exact okT_int st i
  | str s => exact okT_str st s
  | tup vs => exact okT_tup st vs
  | flst is => cases d <;> simp [gd] at h
  | loc n => cases d <;> simp [gd] at h
theorem isi_int (st : Sto) {v : Val} (h : okT st v) : isiR v "int" st = .ok (.bl (isInt v || isBl v)) st := by
  suffices e : (tyName st v).bind (isiV "int") = some (isInt v || isBl v) by
    simp only [isiR, e, Option.map_some, liftO]
  obtain ⟨n, h1, h2, h3, h4, h5⟩ := h
  cases v <;> first
    | rfl
    | (simp only [tyName] at h1 ⊢; split <;> first | rfl | simp_all)
theorem isi_bool (st : Sto) {v : Val} (h : okT st v) : isiR v "bool" st = .ok (.bl (isBl v)) st := by
  suffices e : (tyName st v).bind (isiV "bool") = some (isBl v) by
    simp only [isiR, e, Option.map_some, liftO]
  obtain ⟨n, h1, h2, h3, h4, h5⟩ := h
  cases v <;> first
    | rfl
    | (simp only [tyName] at h1 ⊢; split <;> first | rfl | simp_all)
theorem isi_tup (st : Sto) {v : Val} (h : okT st v) : isiR v "tuple" st = .ok (.bl (isTup v)) st := by
  suffices e : (tyName st v).bind (isiV "tuple") = some (isTup v) by
    simp only [isiR, e, Option.map_some, liftO]
  obtain ⟨n, h1, h2, h3, h4, h5⟩ := h
  cases v <;> first
    | rfl
    | (simp only [tyName] at h1 ⊢; split <;> first | rfl | simp_all)
theorem run_is_whole (k : Nat) (v : Val) (st : Sto) (h : okT st v) : run T.fns (k + 1) i_is_whole [v] st = .ok (.bl (isInt v)) st := by
  rw [run_succ (fn := d_is_whole.fn) rfl rfl]
  show endOf st (evS (run T.fns k) b_is_whole [some v] st) = _
  simp only [b_is_whole, evS, evE, isiR_def]
  simp [isi_int st h, isi_bool st h]
  cases v <;> simp [isInt, isBl, endOf_same]
theorem run_is_within (k : Nat) (v : Val) (lo hi : Int) (st : Sto) (h : okT st v) : run T.fns (k + 2) i_is_within [v, .int lo, .int hi] st = .ok (.bl (inB lo hi v)) st := by
  rw [run_succ (fn := d_is_within.fn) rfl rfl]
  show endOf st (evS (run T.fns (k + 1)) b_is_within [some v, some (.int lo), some (.int hi)] st) = _
  simp only [b_is_within, evS, evE, evL, isiR_def]
  simp [run_is_whole k v st h]
  cases v <;> simp [isInt, endOf_same, inB]
  rename_i i
  by_cases q : lo ≤ i <;> simp [q, endOf_same]
theorem run_is_tuple_of (k : Nat) (v : Val) (n : Int) (st : Sto) (h : okT st v) : run T.fns (k + 1) i_is_tuple_of [v, .int n] st = .ok (.bl (tupN n v)) st := by
  rw [run_succ (fn := d_is_tuple_of.fn) rfl rfl]
  show endOf st (evS (run T.fns k) b_is_tuple_of [some v, some (.int n)] st) = _
  simp only [b_is_tuple_of, evS, evE, evL, isiR_def]
  simp [isi_tup st h]
  cases v <;> simp [isTup, endOf_same, tupN]
/-! ### == with a word -/
def isW (s : Str) : Val → Bool
  | .str t => decide (t = s)
  | _ => false
mutual
theorem gd_data : ∀ {d : Nat} {v : Val}, gd d v = true → ∀ f, ∃ p, v.toD f = some p ∧ p.canLay0 = true ∧ p.depth ≤ d ∧ ((∀ t, p ≠ .str t) ∨ ∃ t, v = .str t ∧ p = .str t)
  | d, .non, _, f => ⟨.none, rfl, rfl, Nat.zero_le _, .inl fun _ => by simp⟩
  | d, .bl b, _, f => ⟨.bool b, rfl, rfl, Nat.zero_le _, .inl fun _ => by simp⟩
  | d, .int i, _, f => ⟨.int i, rfl, rfl, Nat.zero_le _, .inl fun _ => by simp⟩
  | d, .str s, h, f => by
    refine ⟨.str s, rfl, ?_, Nat.zero_le _, .inr ⟨s, rfl, rfl⟩⟩
    have h : words.contains s = true := by cases d <;> simpa [gd] using h
    simp only [words, List.contains_eq_mem, List.mem_cons, List.not_mem_nil, or_false, decide_eq_true_eq] at h
    rcases h with rfl | rfl | rfl | rfl | rfl | rfl <;> decide +kernel
  | 0, .tup vs, h, f => by simp [gd] at h
  | d + 1, .tup vs, h, f => by
    simp only [gd, Bool.and_eq_true] at h
    obtain ⟨ps, h1, h2, h3⟩ := gds_data h.2 f
    refine ⟨.tuple ps, by simp only [Val.toD, h1, Option.map_some], ?_, ?_, .inl fun _ => by simp⟩
    · simp only [PyData.canLay0]; exact h2
    · simp only [PyData.depth]; omega
  | d, .flst is, h, f => by cases d <;> simp [gd] at h
  | d, .loc n, h, f => by cases d <;> simp [gd] at h
theorem gds_data : ∀ {d : Nat} {vs : List Val}, gds d vs = true → ∀ f, ∃ ps, toDs f vs = some ps ∧ PyData.canLayAll0 ps = true ∧ PyData.depthAll ps ≤ d
  | d, [], _, f => ⟨[], rfl, rfl, Nat.zero_le _⟩
  | d, v :: vs, h, f => by
    have h : gd d v = true ∧ gds d vs = true := by cases d <;> simpa [gds] using h
    obtain ⟨p, h1, h2, h3, _⟩ := gd_data h.1 f
    obtain ⟨ps, g1, g2, g3⟩ := gds_data h.2 f
    refine ⟨p :: ps, by simp only [toDs, h1, g1], ?_, ?_⟩
    · simp only [PyData.canLayAll0, h2, g2, Bool.and_self]
    · simp only [PyData.depthAll]; omega
end
theorem eqV_word {d : Nat} {v : Val} (h : gd d v = true) (hd : d ≤ 64) (st : Sto) (s : Str) (hs : s ∈ words) : TT.eqV st v (.str s) = some (isW s v) := by
  obtain ⟨p, h1, h2, h3, h4⟩ := gd_data h (locD st 4)
  have e1 : rdD st v = some p := h1
  have sp : SeqAt.shaped p = true := by
    unfold SeqAt.shaped
    simp only [h2, Bool.true_and, decide_eq_true_eq]
    omega
  have ss : SeqAt.shaped (.str s) = true := by
    simp only [words, List.mem_cons, List.not_mem_nil, or_false] at hs
    rcases hs with rfl | rfl | rfl | rfl | rfl | rfl <;> decide +kernel
  unfold TT.eqV
  rw [e1, rdD_str]
  simp only [sp, ss, and_self, if_true]
  rcases h4 with h4 | ⟨t, rfl, rfl⟩
  · have n1 : PyData.eqv p (.str s) = false := by
      cases p <;> first | (simp [PyData.eqv]; done) | exact absurd rfl (h4 _)
    rw [n1]
    cases v <;> first
      | rfl
      | (simp [Val.toD] at h1; subst h1; exact absurd rfl (h4 _))
  · simp only [PyData.eqv, isW]
    congr 1
end TT.K02
set_option linter.all false
set_option maxHeartbeats 1000000
namespace TT.K02
open PySem L2
/-! ### the kinds' views -/
def lotN : Val → Option Int
  | .tup [.str s, .int n] => if s = s_lot ∧ 1 ≤ n ∧ n ≤ 8 then some n else none
  | _ => none
def rowL : Val → Option (List Val)
  | .tup [.str s, .tup ks] => if s = s_row ∧ 2 ≤ ks.length ∧ ks.length ≤ 4 then some ks else none
  | _ => none
def funP : Val → Option (Val × Val)
  | .tup [.str s, a, b] => if s = s_fun then some (a, b) else none
  | _ => none
theorem gd_tup {d : Nat} {vs : List Val} (h : gd d (.tup vs) = true) : ∃ e, d = e + 1 ∧ vs.length ≤ 5 ∧ gds e vs = true := by
  cases d with
  | zero => simp [gd] at h
  | succ e => exact ⟨e, rfl, by simpa [gd] using h⟩
theorem gds_cons {d : Nat} {v : Val} {vs : List Val} : gds d (v :: vs) = true ↔ gd d v = true ∧ gds d vs = true := by
  cases d <;> simp [gds]
theorem gds_mem {d : Nat} : ∀ {vs : List Val}, gds d vs = true → ∀ v ∈ vs, gd d v = true
  | [], _, v, hv => by simp at hv
  | u :: vs, h, v, hv => by
    rw [gds_cons] at h
    rcases List.mem_cons.mp hv with rfl | hv
    · exact h.1
    · exact gds_mem h.2 v hv
@[simp] theorem cmpR_w {d : Nat} {v : Val} (h : gd d v = true) (hd : d ≤ 64) (st : Sto) (s : Str) (hs : s ∈ words) : cmpR .Eq v (.str s) st = .ok (.bl (isW s v)) st := by
  simp [cmpR, cmpV, eqV_word h hd st s hs]
@[simp] theorem cmpR_nw {d : Nat} {v : Val} (h : gd d v = true) (hd : d ≤ 64) (st : Sto) (s : Str) (hs : s ∈ words) : cmpR .NotEq v (.str s) st = .ok (.bl (!isW s v)) st := by
  simp [cmpR, cmpV, eqV_word h hd st s hs]
theorem w_lot : s_lot ∈ words := by simp [words]
theorem w_row : s_row ∈ words := by simp [words]
theorem w_fun : s_fun ∈ words := by simp [words]
theorem ne_lr : s_lot ≠ s_row := by decide +kernel
theorem ne_lf : s_lot ≠ s_fun := by decide +kernel
theorem ne_rf : s_row ≠ s_fun := by decide +kernel
theorem run_is_lot (k : Nat) (v : Val) (st : Sto) {d : Nat} (h : gd d v = true) (hd : d ≤ 60) : run T.fns (k + 3) i_is_lot [v] st = .ok (.bl (lotN v).isSome) st := by
  rw [run_succ (fn := d_is_lot.fn) rfl rfl]
  show endOf st (evS (run T.fns (k + 2)) b_is_lot [some v] st) = _
  simp only [b_is_lot, evS, evE, evL, isiR_def]
  simp [run_is_tuple_of (k + 1) v 2 st (okT_gd st h)]
  cases v with
  | tup vs =>
    obtain ⟨e, rfl, hl, hg⟩ := gd_tup h
    match vs, hg with
    | [], _ => simp [tupN, endOf_same, lotN]
    | [_], _ => simp [tupN, endOf_same, lotN]
    | _ :: _ :: _ :: r, _ =>
      have : ¬ ((r.length : Int) + 1 + 1 + 1 = 2) := by omega
      simp [tupN, endOf_same, lotN, this]
    | [x, y], hg =>
      simp only [gds_cons] at hg
      simp [tupN, cmpR_w hg.1 (by omega) st _ w_lot, run_is_within k y 1 8 st (okT_gd st hg.2.1)]
      cases x <;> simp [isW, endOf_same, lotN]
      rename_i t
      by_cases q : t = s_lot <;> simp [q, endOf_same]
      · cases y <;> simp [inB, lotN]
        rename_i n
        by_cases q1 : 1 ≤ n <;> by_cases q2 : n ≤ 8 <;> simp [q1, q2]
      · cases y <;> simp [lotN, q]
  | _ => simp [tupN, endOf_same, lotN]
theorem run_is_row (k : Nat) (v : Val) (st : Sto) {d : Nat} (h : gd d v = true) (hd : d ≤ 60) : run T.fns (k + 2) i_is_row [v] st = .ok (.bl (rowL v).isSome) st := by
  rw [run_succ (fn := d_is_row.fn) rfl rfl]
  show endOf st (evS (run T.fns (k + 1)) b_is_row [some v] st) = _
  simp only [b_is_row, evS, evE, evL, evB, isiR_def]
  simp [run_is_tuple_of k v 2 st (okT_gd st h)]
  cases v with
  | tup vs =>
    obtain ⟨e, rfl, hl, hg⟩ := gd_tup h
    match vs, hg with
    | [], _ => simp [tupN, endOf_same, rowL]
    | [_], _ => simp [tupN, endOf_same, rowL]
    | _ :: _ :: _ :: r, _ =>
      have : ¬ ((r.length : Int) + 1 + 1 + 1 = 2) := by omega
      simp [tupN, endOf_same, rowL, this]
    | [x, y], hg =>
      simp only [gds_cons] at hg
      simp [tupN, cmpR_nw hg.1 (by omega) st _ w_row, isi_tup st (okT_gd st hg.2.1)]
      cases x <;> simp [isW, endOf_same, rowL]
      rename_i t
      by_cases q : t = s_row <;> simp [q, endOf_same, isi_tup st (okT_gd st hg.2.1)]
      · cases y <;> simp [isTup, rowL, endOf_same]
        rename_i kx
        by_cases q1 : 2 ≤ kx.length
        · have : (2 : Int) ≤ (kx.length : Int) := by omega
          by_cases q2 : kx.length ≤ 4
          · have : (kx.length : Int) ≤ 4 := by omega
            simp [*, endOf_same]
          · have : ¬ (kx.length : Int) ≤ 4 := by omega
            simp [*, endOf_same]
        · have : ¬ (2 : Int) ≤ (kx.length : Int) := by omega
          simp [*, endOf_same]
      · cases y <;> simp [rowL, q]
  | _ => simp [tupN, endOf_same, rowL]
/-! ### measured -/
def rowAcc (p s : Int) : List (Option (Int × Int)) → Option (Int × Int)
  | [] => if p ≤ 256 then some (p, s) else none
  | none :: _ => none
  | some (a, b) :: r => rowAcc (p + a) (s * b) r
def rowM (l : List (Option (Int × Int))) : Option (Int × Int) := rowAcc 0 1 l
def funM : Option (Int × Int) → Option (Int × Int) → Option (Int × Int)
  | some (p, s), some (q, t) => if s > 64 ∨ s * q > 256 then none else some (s * q, t ^ s.toNat)
  | _, _ => none
def fm : Nat → Val → Option (Int × Int)
  | 0, _ => none
  | D + 1, v => match lotN v with
    | some n => some (1, n)
    | none => match rowL v with
      | some ks => rowM (ks.map (fm D))
      | none => match funP v with
        | some (a, b) => funM (fm D a) (fm D b)
        | none => none
def ofM : Option (Int × Int) → Val
  | none => .non
  | some (p, s) => .tup [.int p, .int s]
def okM (o : Option (Int × Int)) : Prop := ∀ p s, o = some (p, s) → 1 ≤ p ∧ p ≤ 256 ∧ 1 ≤ s ∧ s ≤ 8 ^ p.toNat
theorem pow_mul_le {s b : Int} {p a : Nat} (h1 : 1 ≤ s) (h2 : s ≤ 8 ^ p) (h3 : 1 ≤ b) (h4 : b ≤ 8 ^ a) : 1 ≤ s * b ∧ s * b ≤ 8 ^ (p + a) := by
  constructor
  · have := Int.mul_le_mul h1 h3 (by omega) (by omega)
    simpa using this
  · rw [Int.pow_add]
    exact Int.mul_le_mul h2 h4 (by omega) (by omega)
theorem okM_rowAcc : ∀ (l : List (Option (Int × Int))) (p s : Int), (∀ o ∈ l, okM o) → 0 ≤ p → 1 ≤ s → s ≤ 8 ^ p.toNat → (0 < p ∨ l ≠ []) → okM (rowAcc p s l)
  | [], p, s, h, hp, h1, h2, h3 => by
    intro a b e
    unfold rowAcc at e
    split at e
    · simp only [Option.some.injEq, Prod.mk.injEq] at e
      obtain ⟨rfl, rfl⟩ := e
      have : 0 < p := by simpa using h3
      exact ⟨by omega, by assumption, h1, h2⟩
    · simp at e
  | none :: r, p, s, h, hp, h1, h2, h3 => by
    intro a b e
    simp [rowAcc] at e
  | some (a, b) :: r, p, s, h, hp, h1, h2, h3 => by
    obtain ⟨g1, g2, g3, g4⟩ := h _ List.mem_cons_self a b rfl
    have m := pow_mul_le h1 h2 g3 g4
    rw [show p.toNat + a.toNat = (p + a).toNat by omega] at m
    exact okM_rowAcc r (p + a) (s * b) (fun o ho => h o (List.mem_cons_of_mem _ ho)) (by omega) m.1 m.2 (.inl (by omega))
theorem pow_bd {t : Int} {q n : Nat} (h1 : 1 ≤ t) (h2 : t ≤ 8 ^ q) : 1 ≤ t ^ n ∧ t ^ n ≤ 8 ^ (q * n) := by
  induction n with
  | zero => simp
  | succ n ih =>
    have := pow_mul_le ih.1 ih.2 h1 h2
    rw [Int.pow_succ, Nat.mul_succ]
    exact this
theorem okM_funM {x y : Option (Int × Int)} (hx : okM x) (hy : okM y) : okM (funM x y) := by
  intro a b e
  match x, y with
  | some (p, s), some (q, t) =>
    simp only [funM] at e
    split at e
    · simp at e
    · rename_i n
      simp only [Option.some.injEq, Prod.mk.injEq] at e
      obtain ⟨rfl, rfl⟩ := e
      obtain ⟨a1, a2, a3, a4⟩ := hx p s rfl
      obtain ⟨b1, b2, b3, b4⟩ := hy q t rfl
      have m := pow_bd (n := s.toNat) b3 b4
      have : q.toNat * s.toNat = (s * q).toNat := by
        rw [Int.mul_comm, Int.toNat_mul (by omega) (by omega)]
      rw [this] at m
      have := Int.mul_le_mul a3 b1 (by omega) (by omega)
      exact ⟨by omega, by omega, m.1, m.2⟩
  | none, some _ => simp [funM] at e
  | none, none => simp [funM] at e
  | some _, none => simp [funM] at e
theorem rowL_len {v : Val} {ks : List Val} (h : rowL v = some ks) : v = .tup [.str s_row, .tup ks] ∧ 2 ≤ ks.length ∧ ks.length ≤ 4 := by
  unfold rowL at h
  split at h
  · split at h
    · rename_i g
      obtain ⟨rfl, g⟩ := g
      cases h
      exact ⟨rfl, g⟩
    · cases h
  · cases h
theorem lotN_eq {v : Val} {n : Int} (h : lotN v = some n) : v = .tup [.str s_lot, .int n] ∧ 1 ≤ n ∧ n ≤ 8 := by
  unfold lotN at h
  split at h
  · split at h
    · rename_i g
      obtain ⟨rfl, g⟩ := g
      cases h
      exact ⟨rfl, g⟩
    · cases h
  · cases h
theorem funP_eq {v : Val} {p : Val × Val} (h : funP v = some p) : v = .tup [.str s_fun, p.1, p.2] := by
  unfold funP at h
  split at h
  · split at h
    · rename_i g
      cases h
      rw [g]
    · cases h
  · cases h
theorem okM_fm : ∀ (D : Nat) (v : Val), okM (fm D v)
  | 0, v => by
    intro a b e
    simp [fm] at e
  | D + 1, v => by
    unfold fm
    cases h : lotN v with
    | some n =>
      obtain ⟨_, h1, h2⟩ := lotN_eq h
      intro a b e
      simp only [Option.some.injEq, Prod.mk.injEq] at e
      obtain ⟨rfl, rfl⟩ := e
      exact ⟨by decide, by decide, h1, by simpa using h2⟩
    | none =>
      simp only
      cases h : rowL v with
      | some ks =>
        obtain ⟨_, h1, h2⟩ := rowL_len h
        refine okM_rowAcc _ 0 1 (fun o ho => ?_) (by omega) (by omega) (by decide) (.inr ?_)
        · obtain ⟨x, _, rfl⟩ := List.mem_map.mp ho
          exact okM_fm D x
        · intro e
          rw [List.map_eq_nil_iff] at e
          rw [e] at h1
          simp at h1
      | none =>
        simp only
        cases h : funP v with
        | some p => exact okM_funM (okM_fm D p.1) (okM_fm D p.2)
        | none =>
          intro a b e
          simp at e
end TT.K02
set_option linter.all false
set_option maxHeartbeats 1000000
set_option maxRecDepth 100000
namespace TT.K02
open PySem L2
theorem lt_pow {x : Int} {n : Nat} (h1 : 0 ≤ x) (h2 : x ≤ 8 ^ n) : x.natAbs < 2 ^ (3 * n + 1) := by
  have e : (8 : Nat) ^ n = 2 ^ (3 * n) := by rw [Nat.pow_mul]
  have : x.natAbs ≤ 8 ^ n := by
    have h2 : (x.natAbs : Int) ≤ ((8 ^ n : Nat) : Int) := by
      rw [Int.natCast_pow]
      have : (x.natAbs : Int) = x := by omega
      rw [this]
      exact h2
    exact_mod_cast h2
  rw [e] at this
  rw [Nat.pow_succ]
  have := Nat.two_pow_pos (3 * n)
  omega
theorem mul_pow {s b : Int} {p a : Nat} (h1 : 1 ≤ s) (h2 : s ≤ 8 ^ p) (h3 : 1 ≤ b) (h4 : b ≤ 8 ^ a) (h : p + a ≤ 100000) : mulOk s b = true :=
  mulOk_of (lt_pow (by omega) h2) (lt_pow (by omega) h4) (by omega) (by omega) (by omega)
theorem loop_row (k : Nat) (D : Nat) (al : Val) (st : Sto) : ∀ (ks : List Val), (∀ v ∈ ks, run T.fns k i_measured [v, .int D] st = .ok (ofM (fm D v)) st) → ∀ (p s : Int) (e4 e5 : Option Val), 0 ≤ p → 1 ≤ s → s ≤ 8 ^ p.toNat → p + 256 * ks.length ≤ 20000 →
    (forLoop [] [4] true (evS (run T.fns k) l_measured_row_0) ks [some al, some (.int D), some (.int p), some (.int s), e4, e5] st = .rt .non st ∧ rowAcc p s (ks.map (fm D)) = none) ∨
    ∃ p' s' x4 x5, forLoop [] [4] true (evS (run T.fns k) l_measured_row_0) ks [some al, some (.int D), some (.int p), some (.int s), e4, e5] st = .nx [some al, some (.int D), some (.int p'), some (.int s'), x4, x5] st ∧ rowAcc p s (ks.map (fm D)) = if p' ≤ 256 then some (p', s') else none
  | [], hm, p, s, e4, e5, h0, h1, h2, h3 => .inr ⟨p, s, e4, e5, forLoop_nil rfl, rfl⟩
  | v :: ks, hm, p, s, e4, e5, h0, h1, h2, h3 => by
    have hv := hm v List.mem_cons_self
    cases hf : fm D v with
    | none =>
      left
      rw [hf] at hv
      refine ⟨forLoop_out rfl rfl ?_, by simp [hf, rowAcc]⟩
      simp only [l_measured_row_0, evS, evE, evL, evB]
      simp [hv, setN, ofM, isN]
    | some q =>
      obtain ⟨a, c⟩ := q
      obtain ⟨g1, g2, g3, g4⟩ := okM_fm D v a c hf
      have m := pow_mul_le h1 h2 g3 g4
      simp only [List.length_cons] at h3
      have mo := mul_pow h1 h2 g3 g4 (by omega)
      rw [show p.toNat + a.toNat = (p + a).toNat by omega] at m
      rw [hf] at hv
      rw [forLoop_cons (env1 := [some al, some (.int D), some (.int (p + a)), some (.int (s * c)), some v, some (ofM (some (a, c)))]) (st1 := st) rfl rfl ?_]
      · have := loop_row k D al st ks (fun u hu => hm u (List.mem_cons_of_mem _ hu)) (p + a) (s * c) (some v) (some (ofM (some (a, c)))) (by omega) m.1 m.2 (by omega)
        simpa [hf, rowAcc] using this
      · simp only [l_measured_row_0, evS, evE, evL, evB]
        simp [hv, setN, ofM, isN, binV_mul _ _ _ mo]
theorem run_measured_row (k D : Nat) (ks : List Val) (st : Sto) (hl : ks.length ≤ 4) (hm : ∀ v ∈ ks, run T.fns k i_measured [v, .int D] st = .ok (ofM (fm D v)) st) :
    run T.fns (k + 1) i_measured_row [.tup ks, .int D] st = .ok (ofM (rowM (ks.map (fm D)))) st := by
  rw [run_succ (fn := d_measured_row.fn) rfl rfl]
  show endOf st (evS (run T.fns k) b_measured_row [some (.tup ks), some (.int D), none, none, none, none] st) = _
  have l := loop_row k D (.tup ks) st ks hm 0 1 none none (by omega) (by omega) (by decide) (by omega)
  simp only [b_measured_row, evS, evE, evL, evB, evI, iterR]
  simp [setNs, setN]
  rcases l with ⟨l, l2⟩ | ⟨p, s, e4, e5, l, l2⟩
  · rw [l]
    simp [rowM, l2, ofM, endOf_same]
  · rw [l]
    simp only [rowM, l2]
    by_cases q : p ≤ 256 <;> simp [q, ofM, endOf_same]
theorem pow8_le {a b : Nat} (h : a ≤ b) : (8 : Int) ^ a ≤ 8 ^ b := by
  have : (8 : Nat) ^ a ≤ 8 ^ b := Nat.pow_le_pow_right (by omega) h
  exact_mod_cast this
theorem fm_lot {D : Nat} {v : Val} {n : Int} (h : lotN v = some n) : fm (D + 1) v = some (1, n) := by simp only [fm, h]
theorem fm_row {D : Nat} {v : Val} {ks : List Val} (h : lotN v = none) (h2 : rowL v = some ks) : fm (D + 1) v = rowM (ks.map (fm D)) := by simp only [fm, h, h2]
theorem fm_fun {D : Nat} {v a b : Val} (h : lotN v = none) (h2 : rowL v = none) (h3 : funP v = some (a, b)) : fm (D + 1) v = funM (fm D a) (fm D b) := by simp only [fm, h, h2, h3]
theorem fm_no {D : Nat} {v : Val} (h : lotN v = none) (h2 : rowL v = none) (h3 : funP v = none) : fm (D + 1) v = none := by simp only [fm, h, h2, h3]
theorem loop_fun (k : Nat) (x : Val) (q t : Int) (st : Sto) (h1 : 1 ≤ t) (h2 : t ≤ 8 ^ 256) : ∀ (n : Nat) (lo : Int) (s : Int) (e3 : Option Val) (m : Nat), 1 ≤ s → s ≤ 8 ^ m → m + 256 * n ≤ 50000 →
    ∃ e3', forLoop [] [3] true (evS (run T.fns k) l_measured_fun_0) (rangeL lo n) [some x, some (.tup [.int q, .int t]), some (.int s), e3] st = .nx [some x, some (.tup [.int q, .int t]), some (.int (s * t ^ n)), e3'] st
  | 0, lo, s, e3, m, a, b, c => ⟨e3, by simp [rangeL, forLoop]⟩
  | n + 1, lo, s, e3, m, a, b, c => by
    have m1 := pow_mul_le a b h1 h2
    obtain ⟨e, he⟩ := loop_fun k x q t st h1 h2 n (lo + 1) (s * t) (some (.int lo)) (m + 256) m1.1 m1.2 (by omega)
    refine ⟨e, ?_⟩
    rw [rangeL_succ, forLoop_cons (env1 := [some x, some (.tup [.int q, .int t]), some (.int (s * t)), some (.int lo)]) (st1 := st) rfl rfl ?_, he, Int.pow_succ, Int.mul_assoc, Int.mul_comm t]
    simp only [l_measured_fun_0, evS, evE, evL, evB]
    simp [setN, binV_mul _ _ _ (mul_pow a b h1 h2 (by omega))]
theorem run_measured_fun (k : Nat) (x y : Option (Int × Int)) (st : Sto) (hx : okM x) (hy : okM y) :
    run T.fns (k + 1) i_measured_fun [ofM x, ofM y] st = .ok (ofM (funM x y)) st := by
  rw [run_succ (fn := d_measured_fun.fn) rfl rfl]
  show endOf st (evS (run T.fns k) b_measured_fun [some (ofM x), some (ofM y), none, none] st) = _
  simp only [b_measured_fun, evS, evE, evL, evB, evI, iterR]
  match x, y with
  | none, none => simp [ofM, isN, endOf_same, funM]
  | none, some (q, t) => simp [ofM, isN, endOf_same, funM]
  | some (p, s), none => simp [ofM, isN, endOf_same, funM]
  | some (p, s), some (q, t) =>
    obtain ⟨a1, a2, a3, a4⟩ := hx p s rfl
    obtain ⟨b1, b2, b3, b4⟩ := hy q t rfl
    by_cases w : 64 < s
    · simp [ofM, isN, endOf_same, funM, w]
    · have w' : ¬ s > 64 := w
      have mo : mulOk s q = true := mulOk_of (a := 7) (b := 9) (by omega) (by omega) (by omega) (by omega) (by omega)
      by_cases z : 256 < s * q
      · simp [ofM, isN, endOf_same, funM, w, z, binV_mul _ _ _ mo]
      · have b4' : t ≤ 8 ^ 256 := by
          refine Int.le_trans b4 ?_
          exact pow8_le (by omega)
        obtain ⟨e, he⟩ := loop_fun k (.tup [.int p, .int s]) q t st b3 b4' s.toNat 0 1 none 0 (by omega) (by decide) (by omega)
        rw [Int.one_mul] at he
        simp [ofM, isN, endOf_same, funM, w, z, binV_mul _ _ _ mo, setN, range1_ok s st (by omega), he]
theorem run_measured : ∀ (D L : Nat) (v : Val) (st : Sto) (d : Nat), 2 * D + 4 ≤ L → gd d v = true → d ≤ 60 → run T.fns L i_measured [v, .int D] st = .ok (ofM (fm D v)) st
  | D, L + 4, v, st, d, hL, hg, hd => by
    rw [run_succ (fn := d_measured.fn) rfl rfl]
    show endOf st (evS (run T.fns (L + 3)) b_measured [some v, some (.int D)] st) = _
    simp only [b_measured, evS, evE, evL, evB]
    simp [run_is_lot L v st hg hd]
    cases hl : lotN v with
    | some n =>
      obtain ⟨rfl, h1, h2⟩ := lotN_eq hl
      cases D with
      | zero => simp [fm, ofM, endOf_same]
      | succ D =>
        have : (0 : Int) < (D : Int) + 1 := by omega
        simp [fm, hl, ofM, endOf_same, this]
    | none =>
      simp
      by_cases q : (D : Int) < 2
      · simp [q, endOf_same]
        match D, q with
        | 0, _ => rfl
        | 1, _ =>
          simp only [fm, hl]
          cases hr : rowL v with
          | some ks =>
            obtain ⟨_, h1, h2⟩ := rowL_len hr
            match ks, h1 with
            | _ :: _ :: _, _ => simp [rowM, rowAcc, fm, ofM]
          | none =>
            cases hf : funP v with
            | some p => simp [fm, funM, ofM]
            | none => simp [ofM]
        | D + 2, q => omega
      · obtain ⟨E, rfl⟩ : ∃ E, D = E + 2 := ⟨D - 2, by omega⟩
        have q' : ¬ ((E : Int) + 2 < 2) := by omega
        have ed : ((E + 1 : Nat) : Int) = (E : Int) + 1 := by omega
        have ed2 : (E : Int) + 2 - 1 = (E : Int) + 1 := by omega
        simp [q', run_is_row (L + 1) v st hg hd]
        cases hr : rowL v with
        | some ks =>
          obtain ⟨rfl, h1, h2⟩ := rowL_len hr
          obtain ⟨e, rfl, _, hg'⟩ := gd_tup hg
          simp only [gds_cons] at hg'
          obtain ⟨e, rfl, _, hg'⟩ := gd_tup hg'.2.1
          have := run_measured_row (L + 2) (E + 1) ks st h2 (fun u hu => run_measured (E + 1) (L + 2) u st e (by omega) (gds_mem hg' u hu) (by omega))
          rw [ed] at this
          rw [fm_row hl hr]
          simp [ed2, this, endOf_same]
        | none =>
          simp [run_is_tuple_of (L + 2) v 3 st (okT_gd st hg)]
          cases hf : funP v with
          | some p =>
            have ev := funP_eq hf
            obtain ⟨a, b⟩ := p
            subst ev
            obtain ⟨e, rfl, _, hg'⟩ := gd_tup hg
            simp only [gds_cons] at hg'
            have m1 := run_measured (E + 1) (L + 3) a st e (by omega) hg'.2.1 (by omega)
            have m2 := run_measured (E + 1) (L + 3) b st e (by omega) hg'.2.2.1 (by omega)
            have m3 := run_measured_fun (L + 2) (fm (E + 1) a) (fm (E + 1) b) st (okM_fm _ _) (okM_fm _ _)
            rw [ed] at m1 m2
            rw [fm_fun hl hr hf]
            simp [tupN, cmpR_w hg'.1 (by omega) st _ w_fun, isW, ed2, m1, m2, m3, endOf_same]
          | none =>
            rw [fm_no hl hr hf]
            cases v with
            | tup vs =>
              obtain ⟨e, rfl, h5, hg'⟩ := gd_tup hg
              match vs, hg' with
              | [], _ => simp [tupN, endOf_same, ofM]
              | [_], _ => simp [tupN, endOf_same, ofM]
              | [_, _], _ => simp [tupN, endOf_same, ofM]
              | _ :: _ :: _ :: _ :: r, _ =>
                have : ¬ ((r.length : Int) + 1 + 1 + 1 + 1 = 3) := by omega
                simp [tupN, endOf_same, ofM, this]
              | [x, y, z], hg' =>
                simp only [gds_cons] at hg'
                simp [tupN, cmpR_w hg'.1 (by omega) st _ w_fun]
                cases x <;> simp [isW, endOf_same, ofM]
                rename_i t
                have tt : ¬ t = s_fun := fun e => by simp [funP, e] at hf
                simp [tt, endOf_same]
            | _ => simp [tupN, endOf_same, ofM]
end TT.K02
set_option linter.all false
set_option maxHeartbeats 1000000
set_option maxRecDepth 100000
namespace TT.K02
open PySem L2
theorem run_is_sort (L : Nat) (v : Val) (st : Sto) {d : Nat} (h : gd d v = true) (hd : d ≤ 60) : run T.fns (L + 15) i_is_sort [v] st = .ok (.bl (fm 5 v).isSome) st := by
  rw [run_succ (fn := d_is_sort.fn) rfl rfl]
  show endOf st (evS (run T.fns (L + 14)) b_is_sort [some v] st) = _
  simp only [b_is_sort, evS, evE, evL, evB]
  have := run_measured 5 (L + 14) v st d (by omega) h hd
  simp only [Int.cast_ofNat_Int] at this
  simp [this]
  cases fm 5 v <;> simp [ofM, isN, endOf_same]
theorem run_size_in (L : Nat) (v : Val) (st : Sto) {d : Nat} (h : gd d v = true) (hd : d ≤ 60) {p s : Int} (hf : fm 5 v = some (p, s)) : run T.fns (L + 15) i_size_in [v] st = .ok (.int s) st := by
  rw [run_succ (fn := d_size_in.fn) rfl rfl]
  show endOf st (evS (run T.fns (L + 14)) b_size_in [some v] st) = _
  simp only [b_size_in, evS, evE, evL, evB]
  have := run_measured 5 (L + 14) v st d (by omega) h hd
  simp only [Int.cast_ofNat_Int] at this
  simp [this, hf, ofM, endOf_same]
theorem run_need_kind (L : Nat) (v : Val) (st : Sto) {d : Nat} (h : gd d v = true) (hd : d ≤ 60) {p s : Int} (hf : fm 5 v = some (p, s)) : run T.fns (L + 16) i_need_kind [v] st = .ok .non st := by
  rw [run_succ (fn := d_need_kind.fn) rfl rfl]
  show endOf st (evS (run T.fns (L + 15)) b_need_kind [some v] st) = _
  simp only [b_need_kind, evS, evE, evL, evB]
  simp [run_is_sort L v st h hd, hf, endOf_nx]
theorem run_place_count (L : Nat) (v : Val) (st : Sto) {d : Nat} (h : gd d v = true) (hd : d ≤ 60) {p s : Int} (hf : fm 5 v = some (p, s)) : run T.fns (L + 17) i_place_count [v] st = .ok (.int p) st := by
  rw [run_succ (fn := d_place_count.fn) rfl rfl]
  show endOf st (evS (run T.fns (L + 16)) b_place_count [some v] st) = _
  simp only [b_place_count, evS, evE, evL, evB]
  have := run_measured 5 (L + 16) v st d (by omega) h hd
  simp only [Int.cast_ofNat_Int] at this
  simp [run_need_kind L v st h hd hf, this, hf, ofM, endOf_same]
/-! ### the law's own reckoning -/
theorem cmpW (s t : Str) (hs : s ∈ words) (ht : t ∈ words) (st : Sto) : cmpR .Eq (.str s) (.str t) st = .ok (.bl (decide (s = t))) st := by
  have g : gd 0 (.str s) = true := by simpa [gd] using hs
  rw [cmpR_w g (by omega) st t ht]
  rfl
@[simp] theorem cmp_ll (st : Sto) : cmpR .Eq (.str s_lot) (.str s_lot) st = .ok (.bl true) st := by simp [cmpW _ _ w_lot w_lot]
@[simp] theorem cmp_rl (st : Sto) : cmpR .Eq (.str s_row) (.str s_lot) st = .ok (.bl false) st := by simp [cmpW _ _ w_row w_lot, ne_lr.symm]
@[simp] theorem cmp_fl (st : Sto) : cmpR .Eq (.str s_fun) (.str s_lot) st = .ok (.bl false) st := by simp [cmpW _ _ w_fun w_lot, ne_lf.symm]
@[simp] theorem cmp_rr (st : Sto) : cmpR .Eq (.str s_row) (.str s_row) st = .ok (.bl true) st := by simp [cmpW _ _ w_row w_row]
@[simp] theorem cmp_fr (st : Sto) : cmpR .Eq (.str s_fun) (.str s_row) st = .ok (.bl false) st := by simp [cmpW _ _ w_fun w_row, ne_rf.symm]
@[simp] theorem cmp_lr (st : Sto) : cmpR .Eq (.str s_lot) (.str s_row) st = .ok (.bl false) st := by simp [cmpW _ _ w_lot w_row, ne_lr]
@[simp] theorem cmp_lf (st : Sto) : cmpR .Eq (.str s_lot) (.str s_fun) st = .ok (.bl false) st := by simp [cmpW _ _ w_lot w_fun, ne_lf]
@[simp] theorem cmp_rf (st : Sto) : cmpR .Eq (.str s_row) (.str s_fun) st = .ok (.bl false) st := by simp [cmpW _ _ w_row w_fun, ne_rf]
@[simp] theorem cmp_ff (st : Sto) : cmpR .Eq (.str s_fun) (.str s_fun) st = .ok (.bl true) st := by simp [cmpW _ _ w_fun w_fun]
/-- the sums of places, the product of sizes -/
def sumP (f : Val → Option (Int × Int)) (ks : List Val) : Int := (ks.map fun u => ((f u).getD (0, 1)).1).sum
def prdS (f : Val → Option (Int × Int)) : List Val → Int
  | [] => 1
  | u :: ks => ((f u).getD (0, 1)).2 * prdS f ks
theorem rowAcc_some (f : Val → Option (Int × Int)) : ∀ (ks : List Val) (p s : Int), (∀ u ∈ ks, (f u).isSome = true) → rowAcc p s (ks.map f) = if p + sumP f ks ≤ 256 then some (p + sumP f ks, s * prdS f ks) else none
  | [], p, s, h => by simp [rowAcc, sumP, prdS]
  | u :: ks, p, s, h => by
    have hu := h u List.mem_cons_self
    cases e : f u with
    | none => rw [e] at hu; cases hu
    | some q =>
      obtain ⟨a, b⟩ := q
      rw [List.map_cons, e, rowAcc, rowAcc_some f ks _ _ fun x hx => h x (List.mem_cons_of_mem _ hx)]
      have e1 : p + a + sumP f ks = p + sumP f (u :: ks) := by simp [sumP, e]; omega
      have e2 : s * b * prdS f ks = s * prdS f (u :: ks) := by simp [prdS, e, Int.mul_assoc]
      rw [e1, e2]
theorem rowAcc_none (f : Val → Option (Int × Int)) : ∀ (ks : List Val) (p s : Int), (∃ u ∈ ks, f u = none) → rowAcc p s (ks.map f) = none
  | [], p, s, h => by simp at h
  | u :: ks, p, s, h => by
    cases e : f u with
    | none => rw [List.map_cons, e, rowAcc]
    | some q =>
      obtain ⟨x, hx, hx2⟩ := h
      rw [List.map_cons, e, rowAcc]
      refine rowAcc_none f ks _ _ ⟨x, ?_, hx2⟩
      rcases List.mem_cons.mp hx with rfl | hx
      · rw [e] at hx2; cases hx2
      · exact hx
end TT.K02
set_option linter.all false
set_option maxHeartbeats 1000000
set_option maxRecDepth 100000
namespace TT.K02
open PySem L2
/-- what fm tells of v, and of its parts -/
theorem fm_cases {D : Nat} {v : Val} {p s : Int} (h : fm (D + 1) v = some (p, s)) :
    (∃ n, v = .tup [.str s_lot, .int n] ∧ 1 ≤ n ∧ n ≤ 8 ∧ p = 1 ∧ s = n) ∨
    (∃ ks, v = .tup [.str s_row, .tup ks] ∧ 2 ≤ ks.length ∧ ks.length ≤ 4 ∧ (∀ u ∈ ks, (fm D u).isSome = true) ∧ p = sumP (fm D) ks ∧ s = prdS (fm D) ks) ∨
    ∃ a b q1 s1 q2 s2, v = .tup [.str s_fun, a, b] ∧ fm D a = some (q1, s1) ∧ fm D b = some (q2, s2) ∧ s1 ≤ 64 ∧ p = s1 * q2 ∧ s = s2 ^ s1.toNat := by
  cases hl : lotN v with
  | some n =>
    obtain ⟨e, h1, h2⟩ := lotN_eq hl
    rw [fm_lot hl] at h
    cases h
    exact .inl ⟨_, e, h1, h2, rfl, rfl⟩
  | none =>
    right
    cases hr : rowL v with
    | some ks =>
      left
      obtain ⟨e, h1, h2⟩ := rowL_len hr
      rw [fm_row hl hr, rowM] at h
      have al : ∀ u ∈ ks, (fm D u).isSome = true := by
        intro u hu
        cases e : fm D u with
        | some _ => rfl
        | none =>
          rw [rowAcc_none (fm D) ks 0 1 ⟨u, hu, e⟩] at h
          cases h
      rw [rowAcc_some _ _ _ _ al] at h
      split at h
      · simp only [Option.some.injEq, Prod.mk.injEq, Int.zero_add, Int.one_mul] at h
        exact ⟨ks, e, h1, h2, al, h.1.symm, h.2.symm⟩
      · cases h
    | none =>
      right
      cases hf : funP v with
      | none => rw [fm_no hl hr hf] at h; cases h
      | some q =>
        obtain ⟨a, b⟩ := q
        rw [fm_fun hl hr hf] at h
        have e := funP_eq hf
        cases ha : fm D a with
        | none => rw [ha] at h; simp [funM] at h
        | some x =>
          cases hb : fm D b with
          | none => rw [ha, hb] at h; simp [funM] at h
          | some y =>
            obtain ⟨q1, s1⟩ := x
            obtain ⟨q2, s2⟩ := y
            rw [ha, hb] at h
            simp only [funM] at h
            split at h
            · cases h
            · cases h
              exact ⟨a, b, q1, s1, q2, s2, e, ha, hb, by omega, rfl, rfl⟩
theorem gd_row {d : Nat} {ks : List Val} (h : gd d (.tup [.str s_row, .tup ks]) = true) : ∃ e, d = e + 2 ∧ ∀ u ∈ ks, gd e u = true := by
  obtain ⟨e, rfl, _, hg'⟩ := gd_tup h
  simp only [gds_cons] at hg'
  obtain ⟨e, rfl, _, hg'⟩ := gd_tup hg'.2.1
  exact ⟨e, rfl, gds_mem hg'⟩
theorem gd_fun {d : Nat} {a b : Val} (h : gd d (.tup [.str s_fun, a, b]) = true) : ∃ e, d = e + 1 ∧ gd e a = true ∧ gd e b = true := by
  obtain ⟨e, rfl, _, hg'⟩ := gd_tup h
  simp only [gds_cons] at hg'
  exact ⟨e, rfl, hg'.2.1, hg'.2.2.1⟩
theorem some_getD {o : Option (Int × Int)} (h : o.isSome = true) : o = some ((o.getD (0, 1)).1, (o.getD (0, 1)).2) := by
  cases o with
  | none => cases h
  | some x => rfl
theorem run_size : ∀ (D L : Nat) (v : Val) (st : Sto) (d : Nat) (p s : Int), D + 1 ≤ L → gd d v = true → d ≤ 60 → fm D v = some (p, s) → run T.fns L i__law_size [v] st = .ok (.int s) st
  | 0, L, v, st, d, p, s, hL, hg, hd, hf => by cases hf
  | D + 1, L + 1, v, st, d, p, s, hL, hg, hd, hf => by
    rw [run_succ (fn := d__law_size.fn) rfl rfl]
    show endOf st (evS (run T.fns L) b__law_size [some v, none, none, none, none] st) = _
    simp only [b__law_size, evS, evE, evL, evB, evI, iterR]
    rcases fm_cases hf with ⟨n, rfl, h1, h2, rfl, rfl⟩ | ⟨ks, rfl, h1, h2, al, rfl, rfl⟩ | ⟨a, b, q1, s1, q2, s2, rfl, ha, hb, h64, rfl, rfl⟩
    · simp [endOf_same]
    · obtain ⟨e, rfl, hk⟩ := gd_row hg
      obtain ⟨env1, st1, e1, e2⟩ := forLoop_rest (w := []) (tg := [2]) (one := true) (body := evS (run T.fns L) l__law_size_0)
        (fun rest env st' => st' = st ∧ (∀ u ∈ rest, u ∈ ks) ∧ ∃ e2 s m, env = [some (.tup [.str s_row, .tup ks]), some (.int s), e2, none, none] ∧ 1 ≤ s ∧ s ≤ 8 ^ m ∧ m + 256 * rest.length ≤ 2000 ∧ s * prdS (fm D) rest = prdS (fm D) ks)
        (fun _ _ _ _ => rfl)
        (by
          rintro u rest env st' ⟨rfl, hm, e2, s, m, rfl, a1, a2, a3, a4⟩
          have hu := hm u List.mem_cons_self
          have hs := some_getD (al u hu)
          obtain ⟨b1, b2, b3, b4⟩ := okM_fm D u _ _ hs
          have b4' := Int.le_trans b4 (pow8_le (b := 256) (by omega))
          have mm := pow_mul_le a1 a2 b3 b4'
          have r := run_size D L u st' e _ _ (by omega) (hk u hu) (by omega) hs
          simp only [List.length_cons] at a3
          refine ⟨_, [some (.tup [.str s_row, .tup ks]), some (.int (s * ((fm D u).getD (0, 1)).2)), some u, none, none], st', rfl, ?_, rfl, fun x hx => hm x (List.mem_cons_of_mem _ hx), some u, _, m + 256, rfl, mm.1, mm.2, by omega, ?_⟩
          · simp only [l__law_size_0, evS, evE, evL]
            simp [setN, r, binV_mul _ _ _ (mul_pow a1 a2 b3 b4' (by omega))]
          · rw [Int.mul_assoc]
            exact a4)
        ks [some (.tup [.str s_row, .tup ks]), some (.int 1), none, none, none] st ⟨rfl, fun _ h => h, none, 1, 0, rfl, by omega, by decide, by omega, by simp⟩
      obtain ⟨rfl, _, e2, s, m, rfl, _, _, _, e3⟩ := e2
      simp only [prdS, Int.mul_one] at e3
      subst e3
      simp [setN, e1, endOf_same]
    · obtain ⟨e, rfl, ga, gb⟩ := gd_fun hg
      have ra := run_size D L a st e _ _ (by omega) ga (by omega) ha
      have rb := run_size D L b st e _ _ (by omega) gb (by omega) hb
      obtain ⟨a1, a2, a3, a4⟩ := okM_fm D a _ _ ha
      obtain ⟨b1, b2, b3, b4⟩ := okM_fm D b _ _ hb
      have b4' := Int.le_trans b4 (pow8_le (b := 256) (by omega))
      obtain ⟨env1, st1, e1, e2⟩ := forLoop_rest (w := []) (tg := [4]) (one := true) (body := evS (run T.fns L) l__law_size_1)
        (fun rest env st' => st' = st ∧ ∃ e4 s m n lo, rest = rangeL lo n ∧ env = [some (.tup [.str s_fun, a, b]), some (.int s), none, some (.int s2), e4] ∧ 1 ≤ s ∧ s ≤ 8 ^ m ∧ m + 256 * n ≤ 20000 ∧ s * s2 ^ n = s2 ^ s1.toNat)
        (fun _ _ _ _ => rfl)
        (by
          rintro u rest env st' ⟨rfl, e4, s, m, n, lo, hr, rfl, c1, c2, c3, c4⟩
          cases n with
          | zero => simp [rangeL] at hr
          | succ n =>
            rw [rangeL_succ] at hr
            cases hr
            have mm := pow_mul_le c1 c2 b3 b4'
            refine ⟨_, [some (.tup [.str s_fun, a, b]), some (.int (s * s2)), none, some (.int s2), some (.int lo)], st', rfl, ?_, rfl, some (.int lo), s * s2, m + 256, n, lo + 1, rfl, rfl, mm.1, mm.2, by omega, ?_⟩
            · simp only [l__law_size_1, evS, evE, evL]
              simp [setN, binV_mul _ _ _ (mul_pow c1 c2 b3 b4' (by omega))]
            · rw [← c4, Int.pow_succ, Int.mul_assoc, Int.mul_comm s2])
        (rangeL 0 s1.toNat) [some (.tup [.str s_fun, a, b]), some (.int 1), none, some (.int s2), none] st ⟨rfl, none, 1, 0, s1.toNat, 0, rfl, rfl, by omega, by decide, by omega, by simp⟩
      obtain ⟨rfl, e4, s, m, n, lo, hr, rfl, _, _, _, e3⟩ := e2
      have : n = 0 := by
        cases n with
        | zero => rfl
        | succ n => rw [rangeL_succ] at hr; cases hr
      subst this
      simp only [Int.pow_zero, Int.mul_one] at e3
      subst e3
      simp [setN, ra, rb, range1_ok s1 st1 (by omega), e1, endOf_same]
end TT.K02
set_option linter.all false
set_option maxHeartbeats 1000000
set_option maxRecDepth 100000
namespace TT.K02
open PySem L2
/-! ### counts -/
theorem run_count_lot (L : Nat) (n : Int) (st : Sto) : run T.fns (L + 1) i__law_count [.tup [.str s_lot, .int n]] st = .ok (.int 1) st := by
  rw [run_succ (fn := d__law_count.fn) rfl rfl]
  show endOf st (evS (run T.fns L) b__law_count [some (.tup [.str s_lot, .int n]), none] st) = _
  simp only [b__law_count, evS, evE, evL, evB, evI, iterR]
  simp [endOf_same]
theorem run_count_row (L : Nat) (f : Val → Option (Int × Int)) (ks : List Val) (st : Sto) (hl : ks.length ≤ 16777216) (h : ∀ u ∈ ks, run T.fns L i__law_count [u] st = .ok (.int ((f u).getD (0, 1)).1) st) :
    run T.fns (L + 1) i__law_count [.tup [.str s_row, .tup ks]] st = .ok (.int (sumP f ks)) st := by
  rw [run_succ (fn := d__law_count.fn) rfl rfl]
  show endOf st (evS (run T.fns L) b__law_count [some (.tup [.str s_row, .tup ks]), none] st) = _
  simp only [b__law_count, evS, evE, evL, evB, evI, iterR]
  have := fun c => lcLoop_map (tg := [1]) (one := true) (c := c) (elt := evE (run T.fns L) e__law_count_0) (env := [some (.tup [.str s_row, .tup ks]), none]) (st := st) (fun u => .int ((f u).getD (0, 1)).1) ks (fun v hv => ⟨_, rfl, by
    simp only [e__law_count_0, evE, evL]
    simp [setN, h v hv]⟩)
  have sl := sum_last st (ks.map fun u => ((f u).getD (0, 1)).1)
  rw [List.map_map] at sl
  simp only [Function.comp_def] at sl
  simp [wipeV, this, sl, endOf_gb, Val.blw, sumP]
theorem run_count_fun (L : Nat) (a b : Val) (s1 q2 : Int) (st : Sto) (h1 : run T.fns L i__law_size [a] st = .ok (.int s1) st) (h2 : run T.fns L i__law_count [b] st = .ok (.int q2) st) (m : mulOk s1 q2 = true) :
    run T.fns (L + 1) i__law_count [.tup [.str s_fun, a, b]] st = .ok (.int (s1 * q2)) st := by
  rw [run_succ (fn := d__law_count.fn) rfl rfl]
  show endOf st (evS (run T.fns L) b__law_count [some (.tup [.str s_fun, a, b]), none] st) = _
  simp only [b__law_count, evS, evE, evL, evB, evI, iterR]
  simp [h1, h2, binV_mul _ _ _ m, endOf_same]
theorem run_count : ∀ (D L : Nat) (v : Val) (st : Sto) (d : Nat) (p s : Int), D + 2 ≤ L → gd d v = true → d ≤ 60 → fm D v = some (p, s) → run T.fns L i__law_count [v] st = .ok (.int p) st
  | 0, L, v, st, d, p, s, hL, hg, hd, hf => by cases hf
  | D + 1, L + 1, v, st, d, p, s, hL, hg, hd, hf => by
    rcases fm_cases hf with ⟨n, rfl, h1, h2, rfl, rfl⟩ | ⟨ks, rfl, h1, h2, al, rfl, rfl⟩ | ⟨a, b, q1, s1, q2, s2, rfl, ha, hb, h64, rfl, rfl⟩
    · exact run_count_lot L _ st
    · obtain ⟨e, rfl, hk⟩ := gd_row hg
      exact run_count_row L (fm D) ks st (by omega) fun u hu => run_count D L u st e _ _ (by omega) (hk u hu) (by omega) (some_getD (al u hu))
    · obtain ⟨e, rfl, ga, gb⟩ := gd_fun hg
      obtain ⟨a1, a2, a3, a4⟩ := okM_fm D a _ _ ha
      obtain ⟨b1, b2, b3, b4⟩ := okM_fm D b _ _ hb
      exact run_count_fun L a b s1 q2 st (run_size D L a st e _ _ (by omega) ga (by omega) ha) (run_count D L b st e _ _ (by omega) gb (by omega) hb) (mulOk_of (a := 7) (b := 9) (by omega) (by omega) (by omega) (by omega) (by omega))
/-! ### shaped ones -/
def shp : Nat → Val → Bool
  | 0, _ => false
  | d + 1, v => match lotN v with
    | some _ => true
    | none => match rowL v with
      | some ks => ks.all (shp d)
      | none => match funP v with
        | some (a, b) => shp d a && shp d b
        | none => false
theorem shp_lot {D : Nat} {v : Val} {n : Int} (h : lotN v = some n) : shp (D + 1) v = true := by simp only [shp, h]
theorem shp_row {D : Nat} {v : Val} {ks : List Val} (h : lotN v = none) (h2 : rowL v = some ks) : shp (D + 1) v = ks.all (shp D) := by simp only [shp, h, h2]
theorem shp_fun {D : Nat} {v a b : Val} (h : lotN v = none) (h2 : rowL v = none) (h3 : funP v = some (a, b)) : shp (D + 1) v = (shp D a && shp D b) := by simp only [shp, h, h2, h3]
theorem shp_no {D : Nat} {v : Val} (h : lotN v = none) (h2 : rowL v = none) (h3 : funP v = none) : shp (D + 1) v = false := by simp only [shp, h, h2, h3]
theorem fm_shp : ∀ (D : Nat) (v : Val) (f : Nat), D ≤ f → (fm D v).isSome = true → shp f v = true
  | 0, v, f, h, e => by simp [fm] at e
  | D + 1, v, f + 1, h, e => by
    cases hl : lotN v with
    | some n => exact shp_lot hl
    | none =>
      cases hr : rowL v with
      | some ks =>
        rw [shp_row hl hr, List.all_eq_true]
        intro u hu
        refine fm_shp D u f (by omega) ?_
        cases e2 : fm D u with
        | some _ => rfl
        | none =>
          rw [fm_row hl hr, rowM, rowAcc_none (fm D) ks 0 1 ⟨u, hu, e2⟩] at e
          cases e
      | none =>
        cases hf : funP v with
        | none => rw [fm_no hl hr hf] at e; cases e
        | some q =>
          obtain ⟨a, b⟩ := q
          rw [fm_fun hl hr hf] at e
          rw [shp_fun hl hr hf, Bool.and_eq_true]
          constructor
          · refine fm_shp D a f (by omega) ?_
            cases ha : fm D a with
            | some _ => rfl
            | none => rw [ha] at e; cases e
          · refine fm_shp D b f (by omega) ?_
            cases hb : fm D b with
            | some _ => rfl
            | none => rw [hb] at e; cases ha : fm D a <;> rw [ha] at e <;> cases e
theorem run_fits : ∀ (D L : Nat) (v : Val) (st : Sto) (d f : Nat), 2 * D + 4 ≤ L → gd d v = true → d ≤ 60 → shp f v = true → run T.fns L i__law_fits [v, .int D] st = .ok (.bl (fm D v).isSome) st
  | D, L, v, st, d, 0, hL, hg, hd, hs => by cases hs
  | 0, L + 1, v, st, d, f + 1, hL, hg, hd, hs => by
    rw [run_succ (fn := d__law_fits.fn) rfl rfl]
    show endOf st (evS (run T.fns L) b__law_fits [some v, some (.int 0), none] st) = _
    simp only [b__law_fits, evS, evE, evL, evB, evI, iterR]
    simp [fm, endOf_same]
  | D + 1, L + 1, v, st, d, f + 1, hL, hg, hd, hs => by
    rw [run_succ (fn := d__law_fits.fn) rfl rfl]
    show endOf st (evS (run T.fns L) b__law_fits [some v, some (.int (D + 1 : Nat)), none] st) = _
    simp only [b__law_fits, evS, evE, evL, evB, evI, iterR]
    have ed : ((D + 1 : Nat) : Int) = (D : Int) + 1 := by omega
    have e1 : ¬ ((D : Int) + 1 < 1) := by omega
    have e2 : (D : Int) + 1 - 1 = D := by omega
    rw [ed]
    cases hl : lotN v with
    | some n =>
      obtain ⟨rfl, h1, h2⟩ := lotN_eq hl
      rw [fm_lot hl]
      simp [e1, endOf_same]
    | none =>
      cases hr : rowL v with
      | some ks =>
        rw [shp_row hl hr, List.all_eq_true] at hs
        obtain ⟨rfl, h1, h2⟩ := rowL_len hr
        obtain ⟨e, rfl, hk⟩ := gd_row hg
        have := fun c => lcLoop_map (tg := [2]) (one := true) (c := c) (elt := evE (run T.fns L) e__law_fits_0) (env := [some (.tup [.str s_row, .tup ks]), some (.int ((D : Int) + 1)), none]) (st := st) (fun u => .bl (fm D u).isSome) ks (fun u hu => ⟨_, rfl, by
          simp only [e__law_fits_0, evE, evL]
          simp [setN, e2, run_fits D L u st e f (by omega) (hk u hu) (by omega) (hs u hu)]⟩)
        have sl := all_last st (ks.map fun u => (fm D u).isSome)
        rw [List.map_map] at sl
        simp only [Function.comp_def] at sl
        rw [fm_row hl hr, rowM]
        by_cases al : ∀ u ∈ ks, (fm D u).isSome = true
        · have tt : (ks.map fun u => (fm D u).isSome).all id = true := by simpa using al
          rw [tt] at sl
          have rc := fun g => run_count_row (L - 1) (fm D) ks (st ++ [Cell.lst g]) (by omega) fun u hu => run_count D (L - 1) u _ e _ _ (by omega) (hk u hu) (by omega) (some_getD (al u hu))
          rw [show L - 1 + 1 = L by omega] at rc
          rw [rowAcc_some _ _ _ _ al]
          simp [e1, wipeV, this, sl, rc, endOf_gb, Val.blw]
          try (split <;> simp [*])
        · have tt : (ks.map fun u => (fm D u).isSome).all id = false := by
            rw [Bool.eq_false_iff]
            simpa using al
          rw [tt] at sl
          rw [rowAcc_none]
          · simp [e1, wipeV, this, sl, endOf_gb, Val.blw]
          · simp only [Classical.not_forall] at al
            obtain ⟨u, hu, hn⟩ := al
            exact ⟨u, hu, by simpa using hn⟩
      | none =>
        cases hf : funP v with
        | none => rw [shp_no hl hr hf] at hs; cases hs
        | some q =>
          obtain ⟨a, b⟩ := q
          rw [shp_fun hl hr hf, Bool.and_eq_true] at hs
          have ev := funP_eq hf
          subst ev
          obtain ⟨e, rfl, ga, gb⟩ := gd_fun hg
          have fa := run_fits D L a st e f (by omega) ga (by omega) hs.1
          have fb := run_fits D L b st e f (by omega) gb (by omega) hs.2
          rw [fm_fun hl hr hf]
          cases ha : fm D a with
          | none =>
            rw [ha] at fa
            simp [e1, e2, fa, endOf_same, funM]
          | some x =>
            rw [ha] at fa
            cases hb : fm D b with
            | none =>
              rw [hb] at fb
              simp [e1, e2, fa, fb, endOf_same, funM]
            | some y =>
              rw [hb] at fb
              obtain ⟨q1, s1⟩ := x
              obtain ⟨q2, s2⟩ := y
              obtain ⟨a1, a2, a3, a4⟩ := okM_fm D a _ _ ha
              obtain ⟨b1, b2, b3, b4⟩ := okM_fm D b _ _ hb
              have sa := run_size D L a st e _ _ (by omega) ga (by omega) ha
              by_cases w : 64 < s1
              · simp [e1, e2, fa, fb, sa, endOf_same, funM, w]
              · have sa' := run_size D (L - 1) a st e _ _ (by omega) ga (by omega) ha
                have cb := run_count D (L - 1) b st e _ _ (by omega) gb (by omega) hb
                have cf := run_count_fun (L - 1) a b s1 q2 st sa' cb (mulOk_of (a := 7) (b := 9) (by omega) (by omega) (by omega) (by omega) (by omega))
                rw [show L - 1 + 1 = L by omega] at cf
                simp [e1, e2, fa, fb, sa, cf, endOf_same, funM, w]
                by_cases z : 256 < s1 * q2
                · have z' : ¬ s1 * q2 ≤ 256 := by omega
                  simp [z, z']
                · have z' : s1 * q2 ≤ 256 := by omega
                  simp [z, z']
end TT.K02
set_option linter.all false
set_option maxHeartbeats 1000000
set_option maxRecDepth 100000
namespace TT.K02
open PySem L2
mutual
def wt : Val → Nat
  | .tup vs => wts vs
  | .str s => s.cps.size
  | .int _ => 4
  | _ => 0
def wts : List Val → Nat
  | [] => 0
  | v :: vs => wt v + 1 + wts vs
end
theorem small_cases {i : Int} (h : -1 ≤ i ∧ i ≤ 9) : i = -1 ∨ i = 0 ∨ i = 1 ∨ i = 2 ∨ i = 3 ∨ i = 4 ∨ i = 5 ∨ i = 6 ∨ i = 7 ∨ i = 8 ∨ i = 9 := by omega
theorem tupleText_first (ts : List Str) : (tupleText ts).cps[0]? = some 40 := by
  unfold tupleText
  show ((Str.append (Str.append ("(" : Str) _) _).cps)[0]? = _
  unfold Str.append
  have e : (("(" : String) : Str).cps = #[40] := by decide +kernel
  simp [e]
  rw [Array.getElem?_append_left (by simp)]
  rfl
/-- what a text that is not a word's begins with -/
def noQ (p : PyData) : Prop := p.shown.cps[0]? ≠ some 39
mutual
theorem gd_more : ∀ {d : Nat} {v : Val}, gd d v = true → ∀ f, ∃ p, v.toD f = some p ∧ p.canLay0 = true ∧ p.depth ≤ d ∧ p.leavesShort 13 = true ∧ p.weight ≤ wt v ∧ p.showable = true ∧ (noQ p ∨ ∃ t, v = .str t ∧ p = .str t)
  | d, .non, _, f => ⟨.none, rfl, rfl, Nat.zero_le _, rfl, Nat.le_refl _, rfl, .inl (by unfold noQ; decide +kernel)⟩
  | d, .bl b, _, f => ⟨.bool b, rfl, rfl, Nat.zero_le _, rfl, Nat.le_refl _, rfl, .inl (by unfold noQ; cases b <;> decide +kernel)⟩
  | d, .int i, h, f => by
    have h : -1 ≤ i ∧ i ≤ 9 := by cases d <;> simpa [gd] using h
    refine ⟨.int i, rfl, rfl, Nat.zero_le _, ?_, ?_, ?_, .inl ?_⟩
    · rcases small_cases h with rfl | rfl | rfl | rfl | rfl | rfl | rfl | rfl | rfl | rfl | rfl <;> decide +kernel
    · rcases small_cases h with rfl | rfl | rfl | rfl | rfl | rfl | rfl | rfl | rfl | rfl | rfl <;> decide +kernel
    · rcases small_cases h with rfl | rfl | rfl | rfl | rfl | rfl | rfl | rfl | rfl | rfl | rfl <;> decide +kernel
    · unfold noQ
      rcases small_cases h with rfl | rfl | rfl | rfl | rfl | rfl | rfl | rfl | rfl | rfl | rfl <;> decide +kernel
  | d, .str s, h, f => by
    refine ⟨.str s, rfl, ?_, Nat.zero_le _, ?_, ?_, rfl, .inr ⟨s, rfl, rfl⟩⟩
    all_goals
      have h : words.contains s = true := by cases d <;> simpa [gd] using h
      simp only [words, List.contains_eq_mem, List.mem_cons, List.not_mem_nil, or_false, decide_eq_true_eq] at h
    · rcases h with rfl | rfl | rfl | rfl | rfl | rfl <;> decide +kernel
    · rcases h with rfl | rfl | rfl | rfl | rfl | rfl <;> decide +kernel
    · rcases h with rfl | rfl | rfl | rfl | rfl | rfl <;> decide +kernel
  | 0, .tup vs, h, f => by simp [gd] at h
  | d + 1, .tup vs, h, f => by
    simp only [gd, Bool.and_eq_true] at h
    obtain ⟨ps, h1, h2, h3, h4, h5, h6⟩ := gds_more h.2 f
    refine ⟨.tuple ps, by simp only [Val.toD, h1, Option.map_some], ?_, ?_, ?_, ?_, ?_, .inl ?_⟩
    · simp only [PyData.canLay0]; exact h2
    · simp only [PyData.depth]; omega
    · simp only [PyData.leavesShort]; exact h4
    · simp only [PyData.weight, wt]; exact h5
    · simp only [PyData.showable]; exact h6
    · unfold noQ
      simp only [PyData.shown, tupleText_first]
      decide
  | d, .flst is, h, f => by cases d <;> simp [gd] at h
  | d, .loc n, h, f => by cases d <;> simp [gd] at h
theorem gds_more : ∀ {d : Nat} {vs : List Val}, gds d vs = true → ∀ f, ∃ ps, toDs f vs = some ps ∧ PyData.canLayAll0 ps = true ∧ PyData.depthAll ps ≤ d ∧ PyData.leavesShortAll 13 ps = true ∧ PyData.weightAll ps ≤ wts vs ∧ PyData.showableAll ps = true
  | d, [], _, f => ⟨[], rfl, rfl, Nat.zero_le _, rfl, Nat.le_refl _, rfl⟩
  | d, v :: vs, h, f => by
    have h : gd d v = true ∧ gds d vs = true := by cases d <;> simpa [gds] using h
    obtain ⟨p, h1, h2, h3, h4, h5, h6, _⟩ := gd_more h.1 f
    obtain ⟨ps, g1, g2, g3, g4, g5, g6⟩ := gds_more h.2 f
    refine ⟨p :: ps, by simp only [toDs, h1, g1], ?_, ?_, ?_, ?_, ?_⟩
    · simp only [PyData.canLayAll0, h2, g2, Bool.and_self]
    · simp only [PyData.depthAll]; omega
    · simp only [PyData.leavesShortAll, h4, g4, Bool.and_self]
    · simp only [PyData.weightAll, wts]; omega
    · simp only [PyData.showableAll, h6, g6, Bool.and_self]
end
end TT.K02
set_option linter.all false
set_option maxHeartbeats 1000000
set_option maxRecDepth 100000
namespace TT.K02
open PySem L2
theorem run_pull (L : Nat) (p : Sto) (a b c : Int) (g : Sto) (N : Nat) (t : Int) (hj : JB N a b c) (hN : N ≤ 2 ^ 50) (h1 : 1 ≤ t) (h2 : t ≤ 1000) :
    ∃ r a' c', run T.fns (L + 1) i__law_pull [.loc p.length, .int t] (JS p a b c g) = .ok (.int r) (JS p a' b c' g) ∧ 0 ≤ r ∧ r < t ∧ JB (N + 1) a' b c' := by
  obtain ⟨j1, j2, j3, j4, j5, j6⟩ := hj
  rw [run_succ (fn := d__law_pull.fn) rfl rfl]
  have e : ∀ Q, endOf (JS p a b c g) (evS (run T.fns L) b__law_pull [some (.loc p.length), some (.int t), none, none, none] (JS p a b c g)) = Q → endOf (JS p a b c g) (evS (run T.fns L) d__law_pull.fn.body (entry d__law_pull.fn.ns [.loc p.length, .int t]) (JS p a b c g)) = Q := fun Q h => h
  have ht : 0 < t := by omega
  have hfd : ∀ x y, binV .FloorDiv (.int x) (.int t) y = .ok (.int (x / t)) y := fun x y => binV_fdiv x t y ht (by
    have : t.natAbs.log2 < 10 := (Nat.log2_lt (by omega)).mpr (by omega)
    omega)
  by_cases q : 0 < a
  · refine ⟨a % t, a / t, c, e _ ?_, Int.emod_nonneg _ (by omega), Int.emod_lt_of_pos _ ht, Int.ediv_nonneg j1 (by omega), ?_, j3, j4, j5, by omega⟩
    · simp only [b__law_pull, evS, evE, evL, evB]
      simp [JS_i0, q, setN, hfd, JS_s0, JS_endI, binV_mod _ _ _ ht]
    · have := Int.ediv_le_self t j1
      have := Int.ediv_nonneg (b := t) j1 (by omega)
      omega
  · have a0 : a = 0 := by omega
    subst a0
    have m1 : mulOk 9700417 (c + 1) = true := mulOk_of (a := 24) (b := 60) (by decide) (by omega) (by decide) (by decide) (by decide)
    have m3 : mulOk 521 (c + 1) = true := mulOk_of (a := 24) (b := 60) (by decide) (by omega) (by decide) (by decide) (by decide)
    obtain ⟨o1, o2⟩ := mod_bd (x := b + 9700417 * (c + 1)) (m := 2305843009213693951) (n := 61) (by decide) (by decide)
    generalize ho : (b + 9700417 * (c + 1)) % 2305843009213693951 = one at o1 o2
    have m2 : mulOk one one = true := mulOk_of (a := 61) (b := 61) o1 o1 (by decide) (by decide) (by decide)
    obtain ⟨w1, w2⟩ := mod_bd (x := one * one + 521 * (c + 1)) (m := 2305843009213693921) (n := 61) (by decide) (by decide)
    generalize hw : (one * one + 521 * (c + 1)) % 2305843009213693921 = two at w1 w2
    have m4 : mulOk two 5800079 = true := mulOk_of (a := 61) (b := 24) w1 (by decide) (by decide) (by decide) (by decide)
    refine ⟨((two * 5800079 + one) / 65537) % t, 0, c + 1, e _ ?_, Int.emod_nonneg _ (by omega), Int.emod_lt_of_pos _ ht, by omega, by decide, j3, j4, by omega, by omega⟩
    simp only [b__law_pull, evS, evE, evL, evB]
    simp [JS_i0, JS_i1, JS_i2, setN, JS_s2, JS_endI, binV_mod _ _ _ ht, binV_mul _ _ _ m1, binV_mul _ _ _ m2, binV_mul _ _ _ m3, binV_mul _ _ _ m4, binV_mod _ 2305843009213693951 _ (by decide), binV_mod _ 2305843009213693921 _ (by decide), binV_fdiv _ 65537 _ (by decide) (by decide), ho, hw]
theorem run_one_of (L : Nat) (p : Sto) (a b c : Int) (g : Sto) (N : Nat) (q : Nat) (xs : List Val) (hj : JB N a b c) (hN : N ≤ 2 ^ 50) (hq : ∀ a c, (JS p a b c g)[q]? = some (.lst xs)) (hx : 0 < xs.length) (hx2 : xs.length ≤ 1000) (hb : ∀ x ∈ xs, x.blw (p.length + 1 + g.length) = true) :
    ∃ x a' c', run T.fns (L + 2) i__law_one_of [.loc p.length, .loc q] (JS p a b c g) = .ok x (JS p a' b c' g) ∧ x ∈ xs ∧ JB (N + 1) a' b c' := by
  rw [run_succ (fn := d__law_one_of.fn) rfl rfl]
  have e : ∀ Q, endOf (JS p a b c g) (evS (run T.fns (L + 1)) b__law_one_of [some (.loc p.length), some (.loc q)] (JS p a b c g)) = Q → endOf (JS p a b c g) (evS (run T.fns (L + 1)) d__law_one_of.fn.body (entry d__law_one_of.fn.ns [.loc p.length, .loc q]) (JS p a b c g)) = Q := fun Q h => h
  obtain ⟨r, a', c', h1, h2, h3, h4⟩ := run_pull L p a b c g N xs.length hj hN (by omega) (by omega)
  have hr : r.toNat < xs.length := by omega
  refine ⟨xs[r.toNat], a', c', e _ ?_, List.getElem_mem hr, h4⟩
  have ln : ∀ a c, bltV .len [.loc q] (JS p a b c g) = .ok (.int xs.length) (JS p a b c g) := fun a c => by simp [bltV, seqOf, hq a c]
  have ix : idxV (.loc q) (.int r) (JS p a' b c' g) = .ok xs[r.toNat] (JS p a' b c' g) := by
    simp [idxV, seqOf, hq, L2.atI, L2.ixN, h2, h3, hr]
  simp only [b__law_one_of, evS, evE, evL, evB]
  simp [ln, h1, ix]
  exact JS_end0 _ _ _ _ _ _ _ _ _ (hb _ (List.getElem_mem hr))
end TT.K02
set_option linter.all false
set_option maxHeartbeats 1000000
set_option maxRecDepth 100000
namespace TT.K02
open PySem L2
mutual
theorem gd_blw : ∀ {d : Nat} {v : Val} (n : Nat), gd d v = true → v.blw n = true
  | d, .non, n, _ => rfl
  | d, .bl _, n, _ => rfl
  | d, .int _, n, _ => rfl
  | d, .str _, n, _ => rfl
  | 0, .tup vs, n, h => by simp [gd] at h
  | d + 1, .tup vs, n, h => by
    simp only [gd, Bool.and_eq_true] at h
    simp only [Val.blw]
    exact gds_blw n h.2
  | d, .flst is, n, h => rfl
  | d, .loc m, n, h => by cases d <;> simp [gd] at h
theorem gds_blw : ∀ {d : Nat} {vs : List Val} (n : Nat), gds d vs = true → Vals.blw n vs = true
  | d, [], n, _ => rfl
  | d, v :: vs, n, h => by
    rw [gds_cons] at h
    simp only [Vals.blw, gd_blw n h.1, gds_blw n h.2, Bool.and_self]
end
def W : Nat → Nat
  | 0 => 9
  | d + 1 => 3 * W d + 9
def K : Nat → Nat
  | 0 => 2
  | d + 1 => 3 * K d + 2
/-- a drawn kind -/
def kd (D : Nat) (v : Val) : Prop := gd (2 * D + 1) v = true ∧ shp (D + 1) v = true ∧ wt v ≤ W D
mutual
theorem gd_mono : ∀ {d e : Nat} {v : Val}, gd d v = true → d ≤ e → gd e v = true
  | d, e, .non, _, _ => by cases e <;> rfl
  | d, e, .bl _, _, _ => by cases e <;> rfl
  | d, e, .int i, h, _ => by
    have h : -1 ≤ i ∧ i ≤ 9 := by cases d <;> simpa [gd] using h
    cases e <;> simpa [gd] using h
  | d, e, .str s, h, _ => by
    have h : words.contains s = true := by cases d <;> simpa only [gd] using h
    cases e <;> simpa only [gd] using h
  | 0, e, .tup vs, h, _ => by simp [gd] at h
  | d + 1, e + 1, .tup vs, h, g => by
    simp only [gd, Bool.and_eq_true] at h ⊢
    exact ⟨h.1, gds_mono h.2 (by omega)⟩
  | d + 1, 0, .tup vs, h, g => by omega
  | d, e, .flst is, h, _ => by cases d <;> simp [gd] at h
  | d, e, .loc m, h, _ => by cases d <;> simp [gd] at h
theorem gds_mono : ∀ {d e : Nat} {vs : List Val}, gds d vs = true → d ≤ e → gds e vs = true
  | d, e, [], _, _ => by cases e <;> rfl
  | d, e, v :: vs, h, g => by
    rw [gds_cons] at h ⊢
    exact ⟨gd_mono h.1 g, gds_mono h.2 g⟩
end
theorem shp_mono : ∀ {f g : Nat} {v : Val}, shp f v = true → f ≤ g → shp g v = true
  | 0, g, v, h, _ => by cases h
  | f + 1, 0, v, h, hg => by omega
  | f + 1, g + 1, v, h, hg => by
    cases hl : lotN v with
    | some n => exact shp_lot hl
    | none =>
      cases hr : rowL v with
      | some ks =>
        rw [shp_row hl hr, List.all_eq_true] at *
        exact fun u hu => shp_mono (h u hu) (by omega)
      | none =>
        cases hf : funP v with
        | none => rw [shp_no hl hr hf] at h; cases h
        | some q =>
          obtain ⟨a, b⟩ := q
          rw [shp_fun hl hr hf, Bool.and_eq_true] at *
          exact ⟨shp_mono h.1 (by omega), shp_mono h.2 (by omega)⟩
theorem W_mono : ∀ {d e : Nat}, d ≤ e → W d ≤ W e
  | d, 0, h => by rw [show d = 0 by omega]; exact Nat.le_refl _
  | d, e + 1, h => by
    rcases Nat.lt_or_ge d (e + 1) with g | g
    · have := W_mono (show d ≤ e by omega)
      simp only [W]; omega
    · rw [show d = e + 1 by omega]; exact Nat.le_refl _
theorem K_mono : ∀ {d e : Nat}, d ≤ e → K d ≤ K e
  | d, 0, h => by rw [show d = 0 by omega]; exact Nat.le_refl _
  | d, e + 1, h => by
    rcases Nat.lt_or_ge d (e + 1) with g | g
    · have := K_mono (show d ≤ e by omega)
      simp only [K]; omega
    · rw [show d = e + 1 by omega]; exact Nat.le_refl _
theorem kd_mono {d e : Nat} {v : Val} (h : kd d v) (g : d ≤ e) : kd e v := ⟨gd_mono h.1 (by omega), shp_mono h.2.1 (by omega), Nat.le_trans h.2.2 (W_mono g)⟩
theorem kd_lot {n : Int} (h1 : 1 ≤ n) (h2 : n ≤ 8) (D : Nat) : kd D (.tup [.str s_lot, .int n]) := by
  have l : lotN (.tup [.str s_lot, .int n]) = some n := by simp [lotN]; omega
  refine kd_mono (d := 0) ⟨?_, shp_lot l, ?_⟩ (Nat.zero_le _)
  · simp [gd, gds, words]; omega
  · simp [wt, wts, W]; decide
theorem gds_of {d : Nat} : ∀ {vs : List Val}, (∀ v ∈ vs, gd d v = true) → gds d vs = true
  | [], _ => by cases d <;> rfl
  | v :: vs, h => by
    rw [gds_cons]
    exact ⟨h v List.mem_cons_self, gds_of fun u hu => h u (List.mem_cons_of_mem _ hu)⟩
theorem wts_le {B : Nat} : ∀ {vs : List Val}, (∀ v ∈ vs, wt v ≤ B) → wts vs ≤ vs.length * (B + 1)
  | [], _ => by simp [wts]
  | v :: vs, h => by
    have h1 := h v List.mem_cons_self
    have h2 := wts_le fun u hu => h u (List.mem_cons_of_mem _ hu)
    simp only [wts, List.length_cons, Nat.add_mul]
    omega
theorem gd_w {s : Str} (h : s ∈ words) (d : Nat) : gd d (.str s) = true := by
  have : words.contains s = true := by simpa using h
  cases d <;> simpa only [gd] using this
theorem wt_w {s : Str} (h : s ∈ words) : wt (.str s) ≤ 4 := by
  simp only [words, List.mem_cons, List.not_mem_nil, or_false] at h
  rcases h with rfl | rfl | rfl | rfl | rfl | rfl <;> decide
theorem kd_row {D : Nat} {ks : List Val} (h1 : 2 ≤ ks.length) (h2 : ks.length ≤ 3) (h : ∀ u ∈ ks, kd D u) : kd (D + 1) (.tup [.str s_row, .tup ks]) := by
  have r : rowL (.tup [.str s_row, .tup ks]) = some ks := by simp [rowL]; omega
  have l : lotN (.tup [.str s_row, .tup ks]) = none := by simp [lotN]
  refine ⟨?_, ?_, ?_⟩
  · show gd (2 * D + 1 + 1 + 1) _ = true
    have g2 : gd (2 * D + 1 + 1) (.tup ks) = true := by
      rw [gd, Bool.and_eq_true, decide_eq_true_eq]
      exact ⟨by omega, gds_of fun u hu => (h u hu).1⟩
    rw [gd]
    simp only [gds_cons, Bool.and_eq_true, decide_eq_true_eq]
    exact ⟨by simp, gd_w w_row _, g2, by cases D <;> rfl⟩
  · rw [shp_row l r, List.all_eq_true]
    exact fun u hu => (h u hu).2.1
  · have := wts_le (B := W D) fun u hu => (h u hu).2.2
    have := wt_w w_row
    have : ks.length * (W D + 1) ≤ 3 * (W D + 1) := Nat.mul_le_mul_right _ h2
    simp only [wt, wts, W] at *
    omega
theorem kd_fun {D : Nat} {x y : Val} (h1 : kd D x) (h2 : kd D y) : kd (D + 1) (.tup [.str s_fun, x, y]) := by
  have f : funP (.tup [.str s_fun, x, y]) = some (x, y) := by simp [funP]
  have r : rowL (.tup [.str s_fun, x, y]) = none := by simp [rowL]
  have l : lotN (.tup [.str s_fun, x, y]) = none := by simp [lotN]
  refine ⟨?_, ?_, ?_⟩
  · show gd (2 * D + 1 + 1 + 1) _ = true
    rw [gd]
    simp only [gds_cons, Bool.and_eq_true, decide_eq_true_eq]
    exact ⟨by simp, gd_w w_fun _, gd_mono h1.1 (by omega), gd_mono h2.1 (by omega), by cases D <;> rfl⟩
  · rw [shp_fun l r f, h1.2.1, h2.2.1]
    rfl
  · have := wt_w w_fun
    have := h1.2.2
    have := h2.2.2
    simp only [wt, wts, W] at *
    omega
end TT.K02
set_option linter.all false
set_option maxHeartbeats 1000000
set_option maxRecDepth 100000
namespace TT.K02
open PySem L2
theorem kd_blw {D : Nat} {v : Val} (n : Nat) (h : kd D v) : v.blw n = true := gd_blw n h.1
theorem kinds_loop (L : Nat) (p : Sto) (b : Int) (g : Sto) (D : Nat) (deep : Int) (w x : Option Val) (cc : VEnv → Sto → Res Val)
    (ih : ∀ (a c : Int) (N : Nat), JB N a b c → N + K D ≤ 2 ^ 50 → ∃ v a' c', run T.fns L i__law_kind [.loc p.length, .int (deep - 1)] (JS p a b c g) = .ok v (JS p a' b c' g) ∧ kd D v ∧ JB (N + K D) a' b c') :
    ∀ (m : Nat) (lo a c : Int) (N : Nat), JB N a b c → N + m * K D ≤ 2 ^ 50 → ∃ ys a' c', lcLoop [] [3] true (cndR true cc) (evE (run T.fns L) e__law_kind_0) (rangeL lo m) [some (.loc p.length), some (.int deep), w, x] (JS p a b c g) = .ok ys (JS p a' b c' g) ∧ ys.length = m ∧ (∀ y ∈ ys, kd D y) ∧ JB (N + m * K D) a' b c'
  | 0, lo, a, c, N, hj, hN => ⟨[], a, c, rfl, rfl, by simp, by simpa using hj⟩
  | m + 1, lo, a, c, N, hj, hN => by
    rw [Nat.succ_mul] at hN
    obtain ⟨v, a1, c1, h1, h2, h3⟩ := ih a c N hj (by omega)
    obtain ⟨ys, a2, c2, h4, h5, h6, h7⟩ := kinds_loop L p b g D deep w x cc ih m (lo + 1) a1 c1 (N + K D) h3 (by omega)
    refine ⟨v :: ys, a2, c2, ?_, by simp [h5], ?_, h7.mono (by rw [Nat.succ_mul]; omega)⟩
    · rw [rangeL_succ, lcLoop_cons (y := v) (st1 := JS p a1 b c1 g) rfl ?_, h4]
      · rfl
      · simp only [e__law_kind_0, evE, evL]
        simp [setN, h1]
    · intro y hy
      rcases List.mem_cons.mp hy with rfl | hy
      · exact h2
      · exact h6 y hy
theorem run_kind : ∀ (D L : Nat) (deep : Int) (p : Sto) (a b c : Int) (g : Sto) (N : Nat), deep ≤ D + 1 → JB N a b c → N + K D ≤ 2 ^ 50 → D + 4 ≤ L →
    ∃ v a' c', run T.fns L i__law_kind [.loc p.length, .int deep] (JS p a b c g) = .ok v (JS p a' b c' g) ∧ kd D v ∧ JB (N + K D) a' b c'
  | D, L + 1, deep, p, a, b, c, g, N, hd, hj, hN, hL => by
    rw [run_succ (fn := d__law_kind.fn) rfl rfl]
    have e : ∀ Q, endOf (JS p a b c g) (evS (run T.fns L) b__law_kind [some (.loc p.length), some (.int deep), none, none] (JS p a b c g)) = Q → endOf (JS p a b c g) (evS (run T.fns L) d__law_kind.fn.body (entry d__law_kind.fn.ns [.loc p.length, .int deep]) (JS p a b c g)) = Q := fun Q h => h
    have k2 : 2 ≤ K D := K_mono (d := 0) (Nat.zero_le _)
    obtain ⟨L, rfl⟩ : ∃ L', L = L' + 2 := ⟨L - 2, by omega⟩
    obtain ⟨way, a1, c1, w1, w2, w3, w4⟩ := run_pull (L + 1) p a b c g N 6 hj (by omega) (by decide) (by decide)
    by_cases q : deep < 2 ∨ way < 2
    · obtain ⟨x, a2, c2, o1, o2, o3⟩ := run_one_of L p a1 b c1 (g ++ [.lst [.int 2, .int 2, .int 3, .int 1, .int 2, .int 4]]) (N + 1) (p.length + 1 + g.length) [.int 2, .int 2, .int 3, .int 1, .int 2, .int 4] w4 (by omega) (fun a c => JS_last p a b c g _) (by decide) (by decide) (by
        intro x hx
        simp only [List.mem_cons, List.not_mem_nil, or_false] at hx
        rcases hx with rfl | rfl | rfl | rfl | rfl | rfl <;> rfl)
      have hx : ∃ n, x = .int n ∧ 1 ≤ n ∧ n ≤ 8 := by
        simp only [List.mem_cons, List.not_mem_nil, or_false] at o2
        rcases o2 with rfl | rfl | rfl | rfl | rfl | rfl <;> exact ⟨_, rfl, by decide, by decide⟩
      obtain ⟨n, rfl, n1, n2⟩ := hx
      have kk := kd_lot n1 n2 D
      refine ⟨_, a2, c2, e _ ?_, kk, o3.mono (by omega)⟩
      have en := JS_end p a b c a2 b c2 g [.lst [.int 2, .int 2, .int 3, .int 1, .int 2, .int 4]] _ (kd_blw (p.length + 1 + g.length) kk)
      simp only [b__law_kind, evS, evE, evL, evB, evI, iterR]
      by_cases q1 : deep < 2
      · simp [w1, setN, q1, JS_app, JS_len, o1, en]
      · have q2 : way < 2 := by omega
        simp [w1, setN, q1, q2, JS_app, JS_len, o1, en]
    · have q1 : ¬ deep < 2 := by omega
      have q2 : ¬ way < 2 := by omega
      obtain ⟨D, rfl⟩ : ∃ D', D = D' + 1 := ⟨D - 1, by omega⟩
      simp only [K] at hN
      have ih := fun (d : Int) (hd : d ≤ D + 1) (g : Sto) (a c : Int) (N : Nat) (hj : JB N a b c) (hN : N + K D ≤ 2 ^ 50) => run_kind D (L + 2) d p a b c g N hd hj hN (by omega)
      by_cases q3 : way < 4
      · obtain ⟨r, a2, c2, r1, r2, r3, r4⟩ := run_pull (L + 1) p a1 b c1 g (N + 1) 2 w4 (by omega) (by decide) (by decide)
        have hm : (2 + r).toNat * K D ≤ 3 * K D := Nat.mul_le_mul_right _ (by omega)
        have lp := fun cc => kinds_loop (L + 2) p b g D deep (some (.int way)) none cc (ih (deep - 1) (by omega) g) (2 + r).toNat 0 a2 c2 (N + 1 + 1) r4 (by omega)
        obtain ⟨ys, a3, c3, l1, l2, l3, l4⟩ := lp fun _ _ => .bad
        have kk := kd_row (D := D) (ks := ys) (by omega) (by omega) l3
        refine ⟨_, a3, c3, e _ ?_, kk, l4.mono (by simp only [K]; omega)⟩
        have en := JS_end p a b c a3 b c3 g [.lst ys] _ (kd_blw (p.length + 1 + g.length) kk)
        simp only [b__law_kind, evS, evE, evL, evB, evI, iterR]
        simp [w1, setN, q1, q2, q3, r1, range1_ok (2 + r) _ (by omega), wipeV]
        simp [l1, JS_app, JS_len, tuple_last, en]
      · obtain ⟨x, a2, c2, x1, x2, x3⟩ := ih (deep - 2) (by omega) g a1 c1 (N + 1) w4 (by omega)
        obtain ⟨y, a3, c3, y1, y2, y3⟩ := ih (deep - 1) (by omega) g a2 c2 (N + 1 + K D) x3 (by omega)
        have kk := kd_fun x2 y2
        refine ⟨_, a3, c3, e _ ?_, kk, y3.mono (by simp only [K]; omega)⟩
        have en := JS_end0 p a b c a3 b c3 g _ (kd_blw (p.length + 1 + g.length) kk)
        simp only [b__law_kind, evS, evE, evL, evB, evI, iterR]
        simp [w1, setN, q1, q2, q3, x1, y1, en]
end TT.K02
set_option linter.all false
set_option maxHeartbeats 1000000
set_option maxRecDepth 100000
namespace TT.K02
open PySem L2
theorem fits5 (L : Nat) (v : Val) (st : Sto) {d f : Nat} (hL : 14 ≤ L) (h : gd d v = true) (hd : d ≤ 60) (hs : shp f v = true) : run T.fns L i__law_fits [v, .int 5] st = .ok (.bl (fm 5 v).isSome) st := by
  have := run_fits 5 L v st d f (by omega) h hd hs
  simpa only [Int.cast_ofNat_Int] using this
theorem kto_loop (L : Nat) (hL : 20 ≤ L) (p : Sto) (b : Int) (g : Sto) (deep most : Int) (hd : deep ≤ 6) :
    ∀ (m : Nat) (lo a c : Int) (N : Nat) (e3 e4 : Option Val), JB N a b c → N + m * K 5 ≤ 2 ^ 50 →
    (∃ v a' c', forLoop [] [3] true (evS (run T.fns L) l__law_kind_to_0) (rangeL lo m) [some (.loc p.length), some (.int deep), some (.int most), e3, e4] (JS p a b c g) = .rt v (JS p a' b c' g) ∧ kd 5 v ∧ (fm 5 v).isSome = true ∧ JB (N + m * K 5) a' b c') ∨
    ∃ env a' c', forLoop [] [3] true (evS (run T.fns L) l__law_kind_to_0) (rangeL lo m) [some (.loc p.length), some (.int deep), some (.int most), e3, e4] (JS p a b c g) = .nx env (JS p a' b c' g) ∧ JB (N + m * K 5) a' b c'
  | 0, lo, a, c, N, e3, e4, hj, hN => .inr ⟨_, a, c, forLoop_nil rfl, by simpa using hj⟩
  | m + 1, lo, a, c, N, e3, e4, hj, hN => by
    rw [Nat.succ_mul] at hN ⊢
    obtain ⟨v, a1, c1, r1, r2, r3⟩ := run_kind 5 L deep p a b c g N (by omega) hj (by omega) (by omega)
    have ft := fits5 L v (JS p a1 b c1 g) (by omega) r2.1 (by decide) r2.2.1
    have go : ∀ (h : evS (run T.fns L) l__law_kind_to_0 [some (.loc p.length), some (.int deep), some (.int most), some (.int lo), e4] (JS p a b c g) = .nx [some (.loc p.length), some (.int deep), some (.int most), some (.int lo), some v] (JS p a1 b c1 g)), (∃ v a' c', forLoop [] [3] true (evS (run T.fns L) l__law_kind_to_0) (rangeL lo (m + 1)) [some (.loc p.length), some (.int deep), some (.int most), e3, e4] (JS p a b c g) = .rt v (JS p a' b c' g) ∧ kd 5 v ∧ (fm 5 v).isSome = true ∧ JB (N + (m * K 5 + K 5)) a' b c') ∨
      ∃ env a' c', forLoop [] [3] true (evS (run T.fns L) l__law_kind_to_0) (rangeL lo (m + 1)) [some (.loc p.length), some (.int deep), some (.int most), e3, e4] (JS p a b c g) = .nx env (JS p a' b c' g) ∧ JB (N + (m * K 5 + K 5)) a' b c' := by
      intro h
      have e := kto_loop L hL p b g deep most hd m (lo + 1) a1 c1 (N + K 5) (some (.int lo)) (some v) r3 (by omega)
      rw [rangeL_succ, forLoop_cons rfl rfl h, show N + (m * K 5 + K 5) = N + K 5 + m * K 5 by omega]
      exact e
    cases hf : fm 5 v with
    | none =>
      rw [hf] at ft
      refine go ?_
      simp only [l__law_kind_to_0, evS, evE, evL, evB]
      simp [setN, r1, ft]
    | some q =>
      obtain ⟨pp, s⟩ := q
      rw [hf] at ft
      have sz := run_size 5 L v (JS p a1 b c1 g) 11 pp s (by omega) r2.1 (by decide) hf
      by_cases hs : s ≤ most
      · refine .inl ⟨v, a1, c1, ?_, r2, by rw [hf]; rfl, r3.mono (by omega)⟩
        rw [rangeL_succ, forLoop_out rfl rfl ?_]
        simp only [l__law_kind_to_0, evS, evE, evL, evB]
        simp [setN, r1, ft, sz, hs]
      · refine go ?_
        simp only [l__law_kind_to_0, evS, evE, evL, evB]
        simp [setN, r1, ft, sz, hs]
theorem run_kind_to (L : Nat) (hL : 20 ≤ L) (p : Sto) (a b c : Int) (g : Sto) (deep most : Int) (hd : deep ≤ 6) (N : Nat) (hj : JB N a b c) (hN : N + 12 * K 5 ≤ 2 ^ 50) :
    ∃ v a' c', run T.fns (L + 1) i__law_kind_to [.loc p.length, .int deep, .int most] (JS p a b c g) = .ok v (JS p a' b c' g) ∧ kd 5 v ∧ (fm 5 v).isSome = true ∧ JB (N + 12 * K 5) a' b c' := by
  rw [run_succ (fn := d__law_kind_to.fn) rfl rfl]
  have e : ∀ Q, endOf (JS p a b c g) (evS (run T.fns L) b__law_kind_to [some (.loc p.length), some (.int deep), some (.int most), none, none] (JS p a b c g)) = Q → endOf (JS p a b c g) (evS (run T.fns L) d__law_kind_to.fn.body (entry d__law_kind_to.fn.ns [.loc p.length, .int deep, .int most]) (JS p a b c g)) = Q := fun Q h => h
  rcases kto_loop L hL p b g deep most hd 12 0 a c N none none hj hN with ⟨v, a', c', h1, h2, h3, h4⟩ | ⟨env, a', c', h1, h2⟩
  · refine ⟨v, a', c', e _ ?_, h2, h3, h4⟩
    simp only [b__law_kind_to, evS, evE, evL, evB, evI, iterR]
    simp [range1_ok 12 _ (by omega), h1, JS_end0 _ _ _ _ _ _ _ _ _ (kd_blw _ h2)]
  · have kk : kd 5 (.tup [.str s_lot, .int 2]) := kd_lot (by decide) (by decide) 5
    refine ⟨_, a', c', e _ ?_, kk, by decide +kernel, h2⟩
    simp only [b__law_kind_to, evS, evE, evL, evB, evI, iterR]
    simp [range1_ok 12 _ (by omega), h1, JS_end0 _ _ _ _ _ _ _ _ _ (kd_blw _ kk)]
end TT.K02
set_option linter.all false
set_option maxHeartbeats 1000000
set_option maxRecDepth 100000
namespace TT.K02
open PySem L2
theorem fm_mono : ∀ {D E : Nat} {v : Val} {x : Int × Int}, fm D v = some x → D ≤ E → fm E v = some x
  | 0, E, v, x, h, _ => by cases h
  | D + 1, 0, v, x, h, g => by omega
  | D + 1, E + 1, v, x, h, g => by
    cases hl : lotN v with
    | some n => rw [fm_lot hl] at h ⊢; exact h
    | none =>
      cases hr : rowL v with
      | some ks =>
        rw [fm_row hl hr] at h ⊢
        have al : ∀ u ∈ ks, (fm D u).isSome = true := by
          intro u hu
          cases e : fm D u with
          | some _ => rfl
          | none =>
            rw [rowM, rowAcc_none (fm D) ks 0 1 ⟨u, hu, e⟩] at h
            cases h
        have : ks.map (fm E) = ks.map (fm D) := by
          apply List.map_congr_left
          intro u hu
          have hs := some_getD (al u hu)
          rw [hs]
          exact fm_mono hs (by omega)
        rw [this]
        exact h
      | none =>
        cases hf : funP v with
        | none => rw [fm_no hl hr hf] at h; cases h
        | some q =>
          obtain ⟨a, b⟩ := q
          rw [fm_fun hl hr hf] at h ⊢
          cases ha : fm D a with
          | none => rw [ha] at h; simp [funM] at h
          | some xa =>
            cases hb : fm D b with
            | none => rw [ha, hb] at h; simp [funM] at h
            | some xb =>
              rw [fm_mono ha (by omega), fm_mono hb (by omega), ← ha, ← hb]
              exact h
def memb (D : Nat) (v : Val) : List Val := match rowL v with
  | some ks => ks
  | none => match funP v with
    | some (a, b) => List.replicate ((fm D a).getD (0, 1)).2.toNat b
    | none => []
def lots : Nat → Val → List Int
  | 0, _ => []
  | D + 1, v => match lotN v with
    | some n => [n]
    | none => (memb D v).flatMap (lots D)
theorem lots_lot {D : Nat} {n : Int} (h1 : 1 ≤ n) (h2 : n ≤ 8) : lots (D + 1) (.tup [.str s_lot, .int n]) = [n] := by
  have : lotN (.tup [.str s_lot, .int n]) = some n := by simp [lotN]; omega
  simp only [lots, this]
theorem memb_row {D : Nat} {ks : List Val} (h1 : 2 ≤ ks.length) (h2 : ks.length ≤ 4) : memb D (.tup [.str s_row, .tup ks]) = ks := by
  have : rowL (.tup [.str s_row, .tup ks]) = some ks := by simp [rowL]; omega
  simp only [memb, this]
theorem lots_row {D : Nat} {ks : List Val} (h1 : 2 ≤ ks.length) (h2 : ks.length ≤ 4) : lots (D + 1) (.tup [.str s_row, .tup ks]) = ks.flatMap (lots D) := by
  have : lotN (.tup [.str s_row, .tup ks]) = none := by simp [lotN]
  simp only [lots, this, memb_row h1 h2]
theorem memb_fun {D : Nat} {a b : Val} {q s : Int} (h : fm D a = some (q, s)) : memb D (.tup [.str s_fun, a, b]) = List.replicate s.toNat b := by
  have h1 : rowL (.tup [.str s_fun, a, b]) = none := by simp [rowL]
  have h2 : funP (.tup [.str s_fun, a, b]) = some (a, b) := by simp [funP]
  simp only [memb, h1, h2, h, Option.getD_some]
theorem lots_fun {D : Nat} {a b : Val} {q s : Int} (h : fm D a = some (q, s)) : lots (D + 1) (.tup [.str s_fun, a, b]) = (List.replicate s.toNat b).flatMap (lots D) := by
  have : lotN (.tup [.str s_fun, a, b]) = none := by simp [lotN]
  simp only [lots, this, memb_fun h]
theorem lots_len : ∀ {D : Nat} {v : Val} {p s : Int}, fm D v = some (p, s) → ((lots D v).length : Int) = p
  | 0, v, p, s, h => by cases h
  | D + 1, v, p, s, h => by
    rcases fm_cases h with ⟨n, rfl, h1, h2, rfl, rfl⟩ | ⟨ks, rfl, h1, h2, al, rfl, rfl⟩ | ⟨a, b, q1, s1, q2, s2, rfl, ha, hb, h64, rfl, rfl⟩
    · rw [lots_lot h1 h2]; rfl
    · rw [lots_row h1 h2]
      clear h h1 h2
      induction ks with
      | nil => rfl
      | cons u ks ih =>
        have hu := lots_len (some_getD (al u List.mem_cons_self))
        have := ih fun x hx => al x (List.mem_cons_of_mem _ hx)
        simp only [List.flatMap_cons, List.length_append, sumP, List.map_cons, List.sum_cons] at *
        omega
    · rw [lots_fun ha]
      have hu := lots_len hb
      have a3 := (okM_fm D a _ _ ha).2.2.1
      have : ∀ n : Nat, ((((List.replicate n b).flatMap (lots D)).length : Nat) : Int) = n * q2 := by
        intro n
        induction n with
        | zero => simp
        | succ n ih =>
          rw [List.replicate_succ, List.flatMap_cons, List.length_append, Int.natCast_add, ih, hu]
          push_cast
          rw [Int.add_mul]
          omega
      rw [this]
      congr 1
      omega
theorem ext_last {st g : Sto} {a b : List Val} {m : Nat} (h : (st ++ (.lst a :: g))[m]? = some (.lst b)) (hl : a.length + b.length ≤ 16777216) : extV (.loc st.length) (.loc m) (st ++ (.lst a :: g)) = .ok .non (st ++ (.lst (a ++ b) :: g)) := by
  have e : (st ++ (.lst a :: g))[st.length]? = some (.lst a) := by simp
  simp only [extV, e, h]
  rw [if_pos (by rw [sizeLine_eq]; exact hl)]
  simp [List.set_append]
theorem blwI (n : Nat) (l : List Int) : Vals.blw n (l.map .int) = true := by
  induction l with
  | nil => rfl
  | cons a l ih => simp only [List.map_cons, Vals.blw, ih, Bool.and_true]; rfl
theorem repV_lots (l : List Int) (b : Val) (f : Val → List Int) (h : f b = l) (k : Int) : repV (l.map .int) k = ((List.replicate k.toNat b).flatMap f).map .int := by
  unfold repV
  generalize k.toNat = n
  induction n with
  | zero => rfl
  | succ n ih =>
    rw [List.replicate_succ, List.flatten_cons, ih, List.replicate_succ, List.flatMap_cons, List.map_append, h]
theorem run_lots_in : ∀ (D L : Nat) (v : Val) (st : Sto) (d : Nat) (p s : Int), D ≤ 5 → D + 20 ≤ L → gd d v = true → d ≤ 60 → fm D v = some (p, s) → run T.fns L i_lots_in [v] st = .ok (.loc st.length) (st ++ [.lst ((lots D v).map .int)])
  | 0, L, v, st, d, p, s, hD, hL, hg, hd, hf => by cases hf
  | D + 1, L + 1, v, st, d, p, s, hD, hL, hg, hd, hf => by
    obtain ⟨L, rfl⟩ : ∃ L', L = L' + 15 := ⟨L - 15, by omega⟩
    rw [run_succ (fn := d_lots_in.fn) rfl rfl]
    show endOf st (evS (run T.fns (L + 15)) b_lots_in [some v, none, none] st) = _
    simp only [b_lots_in, evS, evE, evL, evB, evI, iterR]
    have plen := lots_len hf
    have pm := okM_fm _ _ _ _ hf
    rcases fm_cases hf with ⟨n, rfl, h1, h2, rfl, rfl⟩ | ⟨ks, rfl, h1, h2, al, rfl, rfl⟩ | ⟨a, b, q1, s1, q2, s2, rfl, ha, hb, h64, rfl, rfl⟩
    · rw [lots_lot h1 h2]
      have := endOf_loc st [.lst [.int s]] st.length [.int s] (Nat.le_refl _) (by simp) rfl
      simp [this]
    · rw [lots_row h1 h2] at plen ⊢
      obtain ⟨e, rfl, hk⟩ := gd_row hg
      obtain ⟨env1, st1, e1, g, e2, acc, ha, hacc, rfl, rfl⟩ := forLoop_rest (w := []) (tg := [2]) (one := true) (body := evS (run T.fns (L + 15)) l_lots_in_0)
        (fun rest env st' => ∃ g e2 acc, (∀ u ∈ rest, u ∈ ks) ∧ acc ++ rest.flatMap (lots D) = ks.flatMap (lots D) ∧ env = [some (.tup [.str s_row, .tup ks]), some (.loc st.length), e2] ∧ st' = st ++ (.lst (acc.map .int) :: g))
        (fun _ _ _ _ => rfl)
        (by
          rintro u rest env st' ⟨g, e2, acc, hm, hacc, rfl, rfl⟩
          have hu := hm u List.mem_cons_self
          have r := run_lots_in D (L + 15) u (st ++ (.lst (acc.map .int) :: g)) e _ _ (by omega) (by omega) (hk u hu) (by omega) (some_getD (al u hu))
          have tl : acc.length + (lots D u).length ≤ 16777216 := by
            have := congrArg List.length hacc
            simp only [List.flatMap_cons, List.length_append] at this
            omega
          have x := ext_last (st := st) (g := g ++ [.lst ((lots D u).map .int)]) (a := acc.map .int) (b := (lots D u).map .int) (m := (st ++ (.lst (acc.map .int) :: g)).length) (by
            rw [← List.cons_append, ← List.append_assoc]
            simp) (by simpa using tl)
          refine ⟨_, [some (.tup [.str s_row, .tup ks]), some (.loc st.length), some u], st ++ (.lst ((acc ++ lots D u).map .int) :: (g ++ [.lst ((lots D u).map .int)])), rfl, ?_, _, some u, acc ++ lots D u, fun y hy => hm y (List.mem_cons_of_mem _ hy), ?_, rfl, rfl⟩
          · simp only [l_lots_in_0, evS, evE, evL]
            have il : isL (.loc st.length) (st ++ (.lst (acc.map .int) :: g)) = true := by simp [isL]
            have r' : run T.fns (L + 15) i_lots_in [u] (st ++ (.lst (acc.map .int) :: g)) = .ok (.loc (st ++ (.lst (acc.map .int) :: g)).length) (st ++ (.lst (acc.map .int) :: (g ++ [.lst ((lots D u).map .int)]))) := by
              rw [r]
              simp
            simp only [setN, List.set_cons_succ, List.set_cons_zero, List.getElem?_cons_succ, List.getElem?_cons_zero, Res.bind_ok, il, if_true, r', x, Res.fl_ok, List.map_append]
          · rw [← hacc]
            simp)
        ks [some (.tup [.str s_row, .tup ks]), some (.loc st.length), none] (st ++ [.lst []]) ⟨[], none, [], fun _ h => h, rfl, rfl, rfl⟩
      simp only [List.flatMap_nil, List.append_nil] at hacc
      subst hacc
      have en := endOf_loc st (.lst ((ks.flatMap (lots D)).map .int) :: g) st.length ((ks.flatMap (lots D)).map .int) (Nat.le_refl _) (by simp) (blwI _ _)
      simp [setN, e1]
      simpa using en
    · rw [lots_fun ha] at plen ⊢
      obtain ⟨e, rfl, ga, gb⟩ := gd_fun hg
      have r := run_lots_in D (L + 15) b st e _ _ (by omega) (by omega) gb (by omega) hb
      have sz := fun st => run_size_in L a st ga (by omega) (fm_mono ha (show D ≤ 5 by omega))
      have lb := lots_len hb
      have bb := okM_fm _ _ _ _ hb
      have a3 := (okM_fm D a _ _ ha).2.2.1
      have mu : binV .Mult (.loc st.length) (.int s1) (st ++ [.lst ((lots D b).map .int)]) = .ok (.loc (st.length + 1)) (st ++ [.lst ((lots D b).map .int)] ++ [.lst (((List.replicate s1.toNat b).flatMap (lots D)).map .int)]) := by
        have ge : (st ++ [.lst ((lots D b).map .int)])[st.length]? = some (.lst ((lots D b).map .int)) := by simp
        have hz : (lots D b).length * s1.toNat ≤ 256 * 64 := Nat.mul_le_mul (by omega) (by omega)
        simp only [binV, ge]
        rw [if_pos ⟨by omega, by omega, by rw [sizeLine_eq, List.length_map]; omega⟩, repV_lots (lots D b) b (lots D) rfl]
        simp [alloc]
      have en := endOf_loc st ([.lst ((lots D b).map .int)] ++ [.lst (((List.replicate s1.toNat b).flatMap (lots D)).map .int)]) (st.length + 1) _ (by omega) (by rw [at_end]; rfl) (blwI st.length ((List.replicate s1.toNat b).flatMap (lots D)))
      rw [← List.append_assoc] at en
      simp only [List.getElem?_cons_zero, Res.bind_ok, idx0, idx1, idx2, cmp_fl, cmp_ff, truthR_b, Res.fl_ok, Bool.false_eq_true, if_false, if_true, r, sz, mu, en]
end TT.K02
set_option linter.all false
set_option maxHeartbeats 1000000
set_option maxRecDepth 100000
namespace TT.K02
open PySem L2
/-! ### products -/
def prodV {α : Type} : List (List α) → List (List α)
  | [] => [[]]
  | xs :: r => xs.flatMap fun x => (prodV r).map (x :: ·)
theorem prodV_append {α : Type} : ∀ (A B : List (List α)), prodV (A ++ B) = (prodV A).flatMap fun a => (prodV B).map (a ++ ·)
  | [], B => by simp [prodV]
  | xs :: r, B => by
    simp only [List.cons_append, prodV, prodV_append r B, List.flatMap_assoc, List.map_flatMap, List.flatMap_map, List.map_map]
    rfl
/-- rows made by putting digits behind -/
theorem foldl_prod {α β : Type} (f : β → List α) : ∀ (ls : List β) (rows : List (List α)), ls.foldl (fun rows l => rows.flatMap fun r => (f l).map fun d => r ++ [d]) rows = rows.flatMap fun r => (prodV (ls.map f)).map (r ++ ·)
  | [], rows => by simp [prodV]
  | l :: ls, rows => by
    rw [List.foldl_cons, foldl_prod f ls]
    simp only [List.map_cons, prodV, List.flatMap_assoc, List.map_flatMap, List.flatMap_map, List.map_map]
    congr 1
    funext r
    congr 1
    funext d
    apply List.map_congr_left
    intro x _
    simp
theorem prodV_flat {α β : Type} (f : β → List (List α)) : ∀ ms : List β, prodV (ms.flatMap f) = (prodV (ms.map fun m => prodV (f m))).map List.flatten
  | [] => by simp [prodV]
  | m :: ms => by
    rw [List.flatMap_cons, prodV_append, prodV_flat f ms, List.map_cons]
    simp only [prodV, List.map_flatMap, List.map_map]
    rfl
theorem prodV_zip {α β γ : Type} (g : β → α → γ) (R : β → List α) : ∀ ms : List β, (prodV (ms.map R)).map (fun ps => List.zipWith g ms ps) = prodV (ms.map fun m => (R m).map (g m))
  | [] => by simp [prodV]
  | m :: ms => by
    simp only [List.map_cons, prodV, List.map_flatMap, List.map_map, List.flatMap_map]
    congr 1
    funext x
    rw [← prodV_zip g R ms, List.map_map]
    rfl
theorem prodV_mem {α β : Type} {R : β → List α} : ∀ {ms : List β} {ps : List α}, ps ∈ prodV (ms.map R) → ps.length = ms.length ∧ ∀ q ∈ List.zip ms ps, q.2 ∈ R q.1
  | [], ps, h => by
    simp only [List.map_nil, prodV, List.mem_singleton] at h
    subst h
    simp
  | m :: ms, ps, h => by
    simp only [List.map_cons, prodV, List.mem_flatMap, List.mem_map] at h
    obtain ⟨x, hx, r, hr, rfl⟩ := h
    obtain ⟨h1, h2⟩ := prodV_mem hr
    refine ⟨by simp [h1], ?_⟩
    intro q hq
    rw [List.zip_cons_cons] at hq
    rcases List.mem_cons.mp hq with rfl | hq
    · exact hx
    · exact h2 q hq
/-! ### values by digits -/
def rg (n : Int) : List Int := (List.range n.toNat).map fun (i : Nat) => (i : Int)
def bldM (f : Val → List Int → Val) (len : Val → Nat) : List Val → List Int → List Val
  | [], _ => []
  | m :: ms, ds => f m (ds.take (len m)) :: bldM f len ms (ds.drop (len m))
def bld : Nat → Val → List Int → Val
  | 0, _, _ => .non
  | D + 1, v, ds => match lotN v with
    | some _ => .int (ds.headD 0)
    | none => .tup (bldM (bld D) (fun m => (lots D m).length) (memb D v) ds)
def rowsOf (D : Nat) (v : Val) : List (List Int) := prodV ((lots D v).map rg)
def vals (D : Nat) (v : Val) : List Val := (rowsOf D v).map (bld D v)
theorem bldM_flat (f : Val → List Int → Val) (len : Val → Nat) : ∀ (ms : List Val) (ps : List (List Int)), ps.length = ms.length → (∀ q ∈ List.zip ms ps, q.2.length = len q.1) → bldM f len ms ps.flatten = List.zipWith f ms ps
  | [], ps, h, _ => by
    cases ps with
    | nil => rfl
    | cons _ _ => simp at h
  | m :: ms, ps, h, g => by
    cases ps with
    | nil => simp at h
    | cons p ps =>
      have l := g (m, p) (by simp)
      simp only at l
      rw [List.flatten_cons, bldM, ← l, List.take_left', List.drop_left', bldM_flat f len ms ps (by simpa using h) (fun q hq => g q (by rw [List.zip_cons_cons]; exact List.mem_cons_of_mem _ hq)), List.zipWith_cons_cons]
      · rfl
      · rfl
theorem rows_len {D : Nat} {v : Val} {r : List Int} (h : r ∈ rowsOf D v) : r.length = (lots D v).length := (prodV_mem h).1
/-- a kind's values: the products of its members' -/
theorem vals_memb {D : Nat} {v : Val} (hl : lotN v = none) : vals (D + 1) v = (prodV ((memb D v).map (vals D))).map .tup := by
  have e1 : lots (D + 1) v = (memb D v).flatMap (lots D) := by simp only [lots, hl]
  have e2 : ∀ ds, bld (D + 1) v ds = .tup (bldM (bld D) (fun m => (lots D m).length) (memb D v) ds) := fun ds => by simp only [bld, hl]
  unfold vals rowsOf
  rw [e1]
  have e3 : ((memb D v).flatMap (lots D)).map rg = (memb D v).flatMap fun m => (lots D m).map rg := by rw [List.map_flatMap]
  rw [e3, prodV_flat, List.map_map]
  have e4 := prodV_zip (bld D) (rowsOf D) (memb D v)
  rw [show ((memb D v).map fun m => (rowsOf D m).map (bld D m)) = (memb D v).map (vals D) from rfl] at e4
  rw [show ((memb D v).map fun m => prodV ((lots D m).map rg)) = (memb D v).map (rowsOf D) from rfl]
  rw [show ((memb D v).map fun v => (prodV ((lots D v).map rg)).map (bld D v)) = (memb D v).map (vals D) from rfl]
  rw [← e4, List.map_map]
  apply List.map_congr_left
  intro ps hp
  obtain ⟨h1, h2⟩ := prodV_mem hp
  simp only [Function.comp, e2]
  rw [bldM_flat _ _ _ _ h1 fun q hq => rows_len (h2 q hq)]
theorem vals_lot {D : Nat} {v : Val} {n : Int} (hl : lotN v = some n) : vals (D + 1) v = (rg n).map .int := by
  have e1 : lots (D + 1) v = [n] := by simp only [lots, hl]
  unfold vals rowsOf
  rw [e1]
  simp only [List.map_cons, List.map_nil, prodV]
  have : ∀ l : List Int, (l.flatMap fun x => [[x]]).map (bld (D + 1) v) = l.map .int := by
    intro l
    induction l with
    | nil => rfl
    | cons a l ih =>
      rw [List.flatMap_cons, List.map_append, ih]
      simp [bld, hl]
  exact this (rg n)
end TT.K02
set_option linter.all false
set_option maxHeartbeats 1000000
set_option maxRecDepth 100000
namespace TT.K02
open PySem L2
def lenS (len : Val → Nat) (ms : List Val) : Nat := (ms.map len).sum
theorem bldM_take (f : Val → List Int → Val) (len : Val → Nat) : ∀ (ms : List Val) (k : Nat) (xs : List Int), lenS len ms ≤ k → bldM f len ms (xs.take k) = bldM f len ms xs
  | [], _, _, _ => rfl
  | m :: ms, k, xs, h => by
    simp only [lenS, List.map_cons, List.sum_cons] at h
    simp only [bldM]
    rw [List.take_take, Nat.min_eq_left (by omega), List.drop_take, bldM_take f len ms (k - len m) (xs.drop (len m)) (by simp only [lenS]; omega)]
theorem lots_memb {D : Nat} {v : Val} (hl : lotN v = none) : (lots (D + 1) v).length = lenS (fun m => (lots D m).length) (memb D v) := by
  simp only [lots, hl, List.length_flatMap, lenS]
theorem bld_take {D : Nat} {v : Val} {k : Nat} (xs : List Int) (h : (lots D v).length ≤ k) : bld D v (xs.take k) = bld D v xs := by
  cases D with
  | zero => rfl
  | succ D =>
    cases hl : lotN v with
    | some n =>
      simp only [lots, hl, List.length_cons, List.length_nil] at h
      simp only [bld, hl]
      cases xs with
      | nil => simp
      | cons x xs =>
        cases k with
        | zero => omega
        | succ k => rfl
    | none =>
      rw [lots_memb hl] at h
      simp only [bld, hl]
      rw [bldM_take _ _ _ _ _ h]
theorem fm_memb {D : Nat} {v : Val} {p s : Int} (h : fm (D + 1) v = some (p, s)) : ∀ m ∈ memb D v, ∃ q t, fm D m = some (q, t) := by
  intro m hm
  rcases fm_cases h with ⟨n, rfl, h1, h2, rfl, rfl⟩ | ⟨ks, rfl, h1, h2, al, rfl, rfl⟩ | ⟨a, b, q1, s1, q2, s2, rfl, ha, hb, h64, rfl, rfl⟩
  · simp [memb, rowL, funP] at hm
  · rw [memb_row h1 h2] at hm
    exact ⟨_, _, some_getD (al m hm)⟩
  · rw [memb_fun ha] at hm
    rw [List.eq_of_mem_replicate hm]
    exact ⟨_, _, hb⟩
theorem at_st {st h : Sto} {x : Cell} : (st ++ (h ++ [x]))[st.length + h.length]? = some x := by
  rw [at_end]
  simp
/-- the loop of built over the members at q -/
theorem built_loop (L D : Nat) (kv : Val) (ds : List Int) (n0 : Nat) (st h : Sto) (q : Nat) (ms : List Val) (hq : ∀ x, (st ++ (h ++ [x]))[q]? = some (.lst ms)) (x5 x6 : Option Val)
    (hb : ∀ m ∈ ms, ∀ (n : Nat) (st : Sto), n + (lots D m).length ≤ ds.length → run T.fns L i_built [m, .tup (ds.map .int), .int n] st = .ok (.tup [bld D m (ds.drop n), .int (n + (lots D m).length : Nat)]) st)
    (hn : n0 + lenS (fun m => (lots D m).length) ms ≤ ds.length) (hms : ms.length ≤ 1000) :
    ∃ y5 y6, forLoop [(q, ms)] [5] true (evS (run T.fns L) l_built_0) ms [some kv, some (.tup (ds.map .int)), some (.int n0), some (.loc q), some (.loc (st.length + h.length)), x5, x6] (st ++ (h ++ [.lst []])) =
      .nx [some kv, some (.tup (ds.map .int)), some (.int (n0 + lenS (fun m => (lots D m).length) ms : Nat)), some (.loc q), some (.loc (st.length + h.length)), y5, y6] (st ++ (h ++ [.lst (bldM (bld D) (fun m => (lots D m).length) ms (ds.drop n0))])) := by
  obtain ⟨env1, st1, e1, n, acc, y5, y6, _, hacc, hsum, _, rfl, rfl⟩ := forLoop_rest (w := [(q, ms)]) (tg := [5]) (one := true) (body := evS (run T.fns L) l_built_0)
    (fun rest env st' => ∃ (n : Nat) (acc : List Val) (y5 y6 : Option Val), (∀ m ∈ rest, m ∈ ms) ∧ acc ++ bldM (bld D) (fun m => (lots D m).length) rest (ds.drop n) = bldM (bld D) (fun m => (lots D m).length) ms (ds.drop n0) ∧ n + lenS (fun m => (lots D m).length) rest = n0 + lenS (fun m => (lots D m).length) ms ∧ acc.length + rest.length = ms.length ∧
      env = [some kv, some (.tup (ds.map .int)), some (.int n), some (.loc q), some (.loc (st.length + h.length)), y5, y6] ∧ st' = st ++ (h ++ [.lst acc]))
    (by rintro _ _ _ ⟨n, acc, y5, y6, _, _, _, _, _, rfl⟩; simp [wOk, hq])
    (by
      rintro m rest env st' ⟨n, acc, y5, y6, hm, hacc, hsum, hlen, rfl, rfl⟩
      simp only [lenS, List.map_cons, List.sum_cons, List.length_cons] at hsum hlen
      simp only [lenS] at hn
      have r := hb m (hm m List.mem_cons_self) n (st ++ (h ++ [.lst acc])) (by omega)
      refine ⟨_, [some kv, some (.tup (ds.map .int)), some (.int (n + (lots D m).length : Nat)), some (.loc q), some (.loc (st.length + h.length)), some m, some (bld D m (ds.drop n))], st ++ (h ++ [.lst (acc ++ [bld D m (ds.drop n)])]), rfl, ?_, n + (lots D m).length, acc ++ [bld D m (ds.drop n)], some m, some (bld D m (ds.drop n)), fun x hx => hm x (List.mem_cons_of_mem _ hx), ?_, ?_, ?_, rfl, rfl⟩
      · have il : isL (.loc (st.length + h.length)) (st ++ (h ++ [.lst acc])) = true := by simp only [isL, at_st]
        have ap : appV (.loc (st.length + h.length)) (bld D m (ds.drop n)) (st ++ (h ++ [.lst acc])) = .ok .non (st ++ (h ++ [.lst (acc ++ [bld D m (ds.drop n)])])) := by
          simp only [appV, at_st]
          rw [if_pos (by rw [sizeLine_eq]; omega), set_end]
          simp
        simp only [l_built_0, evS, evE, evL]
        simp [setN, setNs, r, il, ap]
      · rw [← hacc]
        simp only [bldM, List.append_assoc, List.singleton_append]
        rw [bld_take _ (Nat.le_refl _), List.drop_drop]
      · simp only [lenS]
        omega
      · simp only [List.length_append, List.length_cons, List.length_nil]
        omega)
    ms [some kv, some (.tup (ds.map .int)), some (.int n0), some (.loc q), some (.loc (st.length + h.length)), x5, x6] (st ++ (h ++ [.lst []])) ⟨n0, [], x5, x6, fun _ h => h, rfl, rfl, by simp, rfl, rfl⟩
  simp only [bldM, List.append_nil] at hacc
  simp only [lenS, List.map_nil, List.sum_nil, Nat.add_zero] at hsum
  refine ⟨y5, y6, ?_⟩
  rw [e1, hacc, hsum]
  rfl
end TT.K02
set_option linter.all false
set_option maxHeartbeats 1000000
set_option maxRecDepth 100000
namespace TT.K02
open PySem L2
theorem seqT (xs : List Val) (st h : Sto) (n : Nat) (hn : (st ++ h)[n]? = some (.lst xs)) : bltV .tuple [.loc n] (st ++ h) = .ok (.tup xs) (st ++ h) := by simp [bltV, seqOf, hn]
mutual
theorem bld_blw : ∀ (D : Nat) (v : Val) (ds : List Int) (n : Nat), (bld D v ds).blw n = true
  | 0, _, _, _ => rfl
  | D + 1, v, ds, n => by
    unfold bld
    cases lotN v with
    | some _ => rfl
    | none =>
      simp only [Val.blw]
      exact bldM_blw D _ _ ds n
theorem bldM_blw : ∀ (D : Nat) (len : Val → Nat) (ms : List Val) (ds : List Int) (n : Nat), Vals.blw n (bldM (bld D) len ms ds) = true
  | D, len, [], ds, n => rfl
  | D, len, m :: ms, ds, n => by
    simp only [bldM, Vals.blw, bld_blw D m _ n, bldM_blw D len ms _ n, Bool.and_self]
end
theorem run_built : ∀ (D L : Nat) (v : Val) (ds : List Int) (n : Nat) (st : Sto) (d : Nat) (p s : Int), D ≤ 5 → D + 20 ≤ L → gd d v = true → d ≤ 60 → fm D v = some (p, s) → n + (lots D v).length ≤ ds.length →
    run T.fns L i_built [v, .tup (ds.map .int), .int n] st = .ok (.tup [bld D v (ds.drop n), .int (n + (lots D v).length : Nat)]) st
  | 0, L, v, ds, n, st, d, p, s, hD, hL, hg, hd, hf, hn => by cases hf
  | D + 1, L + 1, v, ds, n, st, d, p, s, hD, hL, hg, hd, hf, hn => by
    obtain ⟨L, rfl⟩ : ∃ L', L = L' + 15 := ⟨L - 15, by omega⟩
    rw [run_succ (fn := d_built.fn) rfl rfl]
    show endOf st (evS (run T.fns (L + 15)) b_built [some v, some (.tup (ds.map .int)), some (.int n), none, none, none, none] st) = _
    have mm := fm_memb hf
    rcases fm_cases hf with ⟨k, rfl, h1, h2, rfl, rfl⟩ | ⟨ks, rfl, h1, h2, al, rfl, rfl⟩ | ⟨a, b, q1, s1, q2, s2, rfl, ha, hb, h64, rfl, rfl⟩
    · have ll := lots_lot (D := D) h1 h2
      have hl : lotN (.tup [.str s_lot, .int s]) = some s := by simp [lotN]; omega
      rw [ll] at hn ⊢
      simp only [List.length_cons, List.length_nil] at hn ⊢
      have hlt : n < ds.length := by omega
      have ix : idxV (.tup (ds.map .int)) (.int n) st = .ok (.int ds[n]) st := by
        have e1 : (0 : Int) ≤ (n : Int) := by omega
        have e2 : (n : Int) < ((ds.map Val.int).length : Int) := by
          rw [List.length_map]
          omega
        simp [idxV, seqOf, L2.atI, L2.ixN, e1, hlt]
      have bd : bld (D + 1) (.tup [.str s_lot, .int s]) (ds.drop n) = .int ds[n] := by
        simp only [bld, hl]
        rw [List.drop_eq_getElem_cons hlt]
        rfl
      simp only [b_built, evS, evE, evL, evB, evI, iterR]
      rw [bd]
      simp [ix, endOf_same]
    · have hl : lotN (.tup [.str s_row, .tup ks]) = none := by simp [lotN]
      have ll := lots_memb (D := D) hl
      have me := memb_row (D := D) h1 h2
      rw [me] at ll mm
      obtain ⟨e, rfl, hk⟩ := gd_row hg
      have bd : bld (D + 1) (.tup [.str s_row, .tup ks]) (ds.drop n) = .tup (bldM (bld D) (fun m => (lots D m).length) ks (ds.drop n)) := by simp only [bld, hl, me]
      obtain ⟨y5, y6, lp⟩ := built_loop (L + 15) D (.tup [.str s_row, .tup ks]) ds n st [.lst ks] st.length ks (fun x => by simp) none none
        (fun m hm n' st' hn' => by
          obtain ⟨q, t, hf'⟩ := mm m hm
          exact run_built D (L + 15) m ds n' st' e q t (by omega) (by omega) (hk m hm) (by omega) hf' hn') (by rw [ll] at hn; exact hn) (by omega)
      have tp := seqT (bldM (bld D) (fun m => (lots D m).length) ks (ds.drop n)) st ([.lst ks] ++ [.lst (bldM (bld D) (fun m => (lots D m).length) ks (ds.drop n))]) (st.length + 1) (by rw [at_end]; rfl)
      rw [bd, ll]
      have en := endOf_gb st ([.lst ks] ++ [.lst (bldM (bld D) (fun m => (lots D m).length) ks (ds.drop n))]) (.tup [.tup (bldM (bld D) (fun m => (lots D m).length) ks (ds.drop n)), .int (n + lenS (fun m => (lots D m).length) ks : Nat)]) (by simp only [Val.blw, Vals.blw, bldM_blw, Bool.and_self])
      simp only [List.length_cons, List.length_nil, List.cons_append, List.nil_append] at lp tp en
      simp only [b_built, evS, evE, evL, evB, evI, iterR]
      have li : bltV .list [.tup ks] st = .ok (.loc st.length) (st ++ [.lst ks]) := rfl
      simp [setN, li, itemsOf, lp, tp]
      simpa using en
    · have hl : lotN (.tup [.str s_fun, a, b]) = none := by simp [lotN]
      have ll := lots_memb (D := D) hl
      have me := memb_fun (D := D) (b := b) ha
      rw [me] at ll mm
      obtain ⟨e, rfl, ga, gb⟩ := gd_fun hg
      have a3 := (okM_fm D a _ _ ha).2.2.1
      have bd : bld (D + 1) (.tup [.str s_fun, a, b]) (ds.drop n) = .tup (bldM (bld D) (fun m => (lots D m).length) (List.replicate s1.toNat b) (ds.drop n)) := by simp only [bld, hl, me]
      obtain ⟨y5, y6, lp⟩ := built_loop (L + 15) D (.tup [.str s_fun, a, b]) ds n st [.lst [b], .lst (List.replicate s1.toNat b)] (st.length + 1) (List.replicate s1.toNat b) (fun x => by rw [at_end]; rfl) none none
        (fun m hm n' st' hn' => by
          rw [List.eq_of_mem_replicate hm] at hn' ⊢
          exact run_built D (L + 15) b ds n' st' e _ _ (by omega) (by omega) gb (by omega) hb hn') (by rw [ll] at hn; exact hn) (by rw [List.length_replicate]; omega)
      have tp := seqT (bldM (bld D) (fun m => (lots D m).length) (List.replicate s1.toNat b) (ds.drop n)) st ([.lst [b], .lst (List.replicate s1.toNat b)] ++ [.lst (bldM (bld D) (fun m => (lots D m).length) (List.replicate s1.toNat b) (ds.drop n))]) (st.length + 2) (by rw [at_end]; rfl)
      rw [bd, ll]
      have en := endOf_gb st ([.lst [b], .lst (List.replicate s1.toNat b)] ++ [.lst (bldM (bld D) (fun m => (lots D m).length) (List.replicate s1.toNat b) (ds.drop n))]) (.tup [.tup (bldM (bld D) (fun m => (lots D m).length) (List.replicate s1.toNat b) (ds.drop n)), .int (n + lenS (fun m => (lots D m).length) (List.replicate s1.toNat b) : Nat)]) (by simp only [Val.blw, Vals.blw, bldM_blw, Bool.and_self])
      have sz := fun st => run_size_in L a st ga (by omega) (fm_mono ha (show D ≤ 5 by omega))
      have mu : binV .Mult (.loc st.length) (.int s1) (st ++ [.lst [b]]) = .ok (.loc (st.length + 1)) (st ++ [.lst [b], .lst (List.replicate s1.toNat b)]) := by
        have ge : (st ++ [Cell.lst [b]])[st.length]? = some (.lst [b]) := by simp
        have rp : repV [b] s1 = List.replicate s1.toNat b := by
          unfold repV
          generalize s1.toNat = k
          induction k with
          | zero => rfl
          | succ k ih => rw [List.replicate_succ, List.flatten_cons, ih, List.replicate_succ]; rfl
        simp only [binV, ge]
        rw [if_pos ⟨by omega, by omega, by rw [sizeLine_eq]; simp only [List.length_cons, List.length_nil]; omega⟩, rp]
        simp [alloc]
      have im : itemsOf (st ++ [.lst [b], .lst (List.replicate s1.toNat b), .lst []]) (.loc (st.length + 1)) = some (List.replicate s1.toNat b, [(st.length + 1, List.replicate s1.toNat b)]) := by
        simp only [itemsOf, at_end]
        rfl
      simp only [List.length_cons, List.length_nil, List.cons_append, List.nil_append] at lp tp en
      simp only [b_built, evS, evE, evL, evB, evI, iterR]
      simp [setN, sz, mu, im, lp, tp]
      simpa using en
end TT.K02
set_option linter.all false
set_option maxHeartbeats 1000000
set_option maxRecDepth 100000
namespace TT
theorem lcLoopL_map {w : Watch} {tg : List Nat} {one : Bool} {c : VEnv → Sto → Res Val} {inner : VEnv → Sto → Res (List Val)} {env : VEnv} {st : Sto} (F : Val → List Val) (hw : wOk w st = true) : ∀ (vs : List Val), (∀ v ∈ vs, ∃ env', setTg tg one v env = some env' ∧ inner env' st = .ok (F v) st) →
    lcLoopL w tg one (cndR true c) inner vs env st = .ok (vs.flatMap F) st
  | [], _ => by simp [lcLoopL, hw]
  | v :: vs, h => by
    obtain ⟨env', e1, e2⟩ := h v List.mem_cons_self
    have := lcLoopL_map (tg := tg) (one := one) (c := c) F hw vs fun u hu => h u (List.mem_cons_of_mem _ hu)
    simp [lcLoopL, hw, e1, e2, cndR, this]
theorem lcLoop_mapW {w : Watch} {tg : List Nat} {one : Bool} {c : VEnv → Sto → Res Val} {elt : VEnv → Sto → Res Val} {env : VEnv} {st : Sto} (f : Val → Val) (hw : wOk w st = true) : ∀ (vs : List Val), (∀ v ∈ vs, ∃ env', setTg tg one v env = some env' ∧ elt env' st = .ok (f v) st) →
    lcLoop w tg one (cndR true c) elt vs env st = .ok (vs.map f) st
  | [], _ => by simp [lcLoop, hw]
  | v :: vs, h => by
    obtain ⟨env', e1, e2⟩ := h v List.mem_cons_self
    have := lcLoop_mapW (tg := tg) (one := one) (c := c) f hw vs fun u hu => h u (List.mem_cons_of_mem _ hu)
    simp [lcLoop, hw, e1, e2, cndR, this]
end TT
namespace TT.K02
open PySem L2
theorem run_value_by_digits (D L : Nat) (v : Val) (ds : List Int) (st : Sto) (d : Nat) (p s : Int) (hD : D ≤ 5) (hL : D + 20 ≤ L) (hg : gd d v = true) (hd : d ≤ 60) (hf : fm D v = some (p, s)) (hn : (lots D v).length ≤ ds.length) :
    run T.fns (L + 1) i_value_by_digits [v, .tup (ds.map .int)] st = .ok (bld D v ds) st := by
  rw [run_succ (fn := d_value_by_digits.fn) rfl rfl]
  show endOf st (evS (run T.fns L) b_value_by_digits [some v, some (.tup (ds.map .int))] st) = _
  have r := run_built D L v ds 0 st d p s hD hL hg hd hf (by omega)
  simp only [List.drop_zero, Nat.zero_add] at r
  have r' : run T.fns L i_built [v, .tup (ds.map .int), .int 0] st = .ok (.tup [bld D v ds, .int ((lots D v).length : Nat)]) st := r
  simp only [b_value_by_digits, evS, evE, evL, evB]
  simp [r', endOf_same]
/-- one more digit behind each row -/
def step (rows : List (List Int)) (n : Int) : List (List Int) := rows.flatMap fun r => (rg n).map fun d => r ++ [d]
def tupI (r : List Int) : Val := .tup (r.map .int)
theorem rangeL_rg (n : Int) : rangeL 0 n.toNat = (rg n).map .int := by
  unfold rangeL rg
  rw [List.map_map]
  apply List.map_congr_left
  intro i _
  simp
theorem rows_step (L : Nat) (kv lv : Val) (n : Int) (h1 : 1 ≤ n) (h2 : n ≤ 8) (st : Sto) (q : Nat) (rows : List (List Int)) (hq : st[q]? = some (.lst (rows.map tupI))) (hr : ∀ r ∈ rows, r.length ≤ 1000) (hz : rows.length ≤ 1000000) (x4 x5 : Option Val) :
    evS (run T.fns L) l_values_in_0 [some kv, some lv, some (.loc q), some (.int n), x4, x5] st = .nx [some kv, some lv, some (.loc st.length), some (.int n), x4, x5] (st ++ [.lst ((step rows n).map tupI)]) := by
  have im : itemsOf st (.loc q) = some (rows.map tupI, [(q, rows.map tupI)]) := by simp [itemsOf, hq]
  have rn := fun st => range1_ok n st (by omega)
  have inner : ∀ c r, r ∈ rows → lcLoop [] [5] true (cndR true c) (evE (run T.fns L) e_values_in_1) (rangeL 0 n.toNat) (wipeV (setN 4 (tupI r) (wipeV [some kv, some lv, some (.loc q), some (.int n), x4, x5] [4, 5])) [5]) st = .ok (((rg n).map fun d => r ++ [d]).map tupI) st := fun c r hr' => by
    have := lcLoop_map (tg := [5]) (one := true) (c := c) (elt := evE (run T.fns L) e_values_in_1) (env := wipeV (setN 4 (tupI r) (wipeV [some kv, some lv, some (.loc q), some (.int n), x4, x5] [4, 5])) [5]) (st := st) (fun v => match v with
      | .int d => tupI (r ++ [d])
      | v => v) (rangeL 0 n.toNat) (fun v hv => by
        rw [rangeL_rg] at hv
        obtain ⟨d, _, rfl⟩ := List.mem_map.mp hv
        refine ⟨_, rfl, ?_⟩
        have := hr r hr'
        have tz : (r.map Val.int ++ [Val.int d]).length ≤ 16777216 := by
          simp only [List.length_append, List.length_map, List.length_cons, List.length_nil]
          omega
        simp only [e_values_in_1, evE, evL]
        simp [setN, wipeV, seqOf, tupI]
        omega)
    rw [this, rangeL_rg, List.map_map, List.map_map]
    rfl
  have outer : ∀ c c1, lcLoopL [(q, rows.map tupI)] [4] true (cndR true c) (fun env' st2 => ((evL (run T.fns L) j_values_in_1 env' st2).bind fun vs st1 => iterV .range vs st1).bind fun p1 st3 => lcLoop p1.2 [5] true (cndR true c1) (evE (run T.fns L) e_values_in_1) p1.1 (wipeV env' [5]) st3) (rows.map tupI) (wipeV [some kv, some lv, some (.loc q), some (.int n), x4, x5] [4, 5]) st = .ok ((step rows n).map tupI) st := fun c c1 => by
    have := lcLoopL_map (w := [(q, rows.map tupI)]) (tg := [4]) (one := true) (c := c) (inner := fun env' st2 => ((evL (run T.fns L) j_values_in_1 env' st2).bind fun vs st1 => iterV .range vs st1).bind fun p1 st3 => lcLoop p1.2 [5] true (cndR true c1) (evE (run T.fns L) e_values_in_1) p1.1 (wipeV env' [5]) st3) (env := wipeV [some kv, some lv, some (.loc q), some (.int n), x4, x5] [4, 5]) (st := st) (fun v => match v with
      | .tup vs => (rg n).map fun d => .tup (vs ++ [.int d])
      | _ => []) (by simp [wOk, hq]) (rows.map tupI) (fun v hv => by
        obtain ⟨r, hr', rfl⟩ := List.mem_map.mp hv
        refine ⟨_, rfl, ?_⟩
        have i := inner c1 r hr'
        have j : evL (run T.fns L) j_values_in_1 (setN 4 (tupI r) (wipeV [some kv, some lv, some (.loc q), some (.int n), x4, x5] [4, 5])) st = .ok [.int n] st := by
          simp only [j_values_in_1, evE, evL]
          simp [setN, wipeV]
        simp only [j, Res.bind_ok, rn, i]
        congr 1
        simp [tupI])
    rw [this, step, List.flatMap_map, List.map_flatMap]
    congr 1
    congr 1
    funext r
    simp [tupI]
  have zz : (step rows n).length ≤ 16777216 := by
    have : ∀ l : List (List Int), (step l n).length = l.length * n.toNat := by
      intro l
      induction l with
      | nil => simp [step]
      | cons r l ih =>
        simp only [step, List.flatMap_cons, List.length_append, List.length_map, List.length_cons] at ih ⊢
        rw [ih]
        simp only [rg, List.length_map, List.length_range, Nat.add_mul, Nat.one_mul]
        omega
    rw [this]
    have : rows.length * n.toNat ≤ 1000000 * 8 := Nat.mul_le_mul hz (by omega)
    omega
  simp only [l_values_in_0, evS, evE, evI, iterR]
  simp only [List.getElem?_cons_succ, List.getElem?_cons_zero, Res.bind_ok, im, liftO_some, isNil_nil, outer, allocS, List.length_map, sizeLine_eq, zz, if_true, alloc_ok, Res.fl_ok, setN, List.set_cons_succ, List.set_cons_zero]
end TT.K02
set_option linter.all false
set_option maxHeartbeats 1000000
set_option maxRecDepth 100000
namespace TT.K02
open PySem L2
theorem lots_bd : ∀ {D : Nat} {v : Val} {p s : Int}, fm D v = some (p, s) → ∀ n ∈ lots D v, 1 ≤ n ∧ n ≤ 8
  | 0, v, p, s, h => by cases h
  | D + 1, v, p, s, h => by
    rcases fm_cases h with ⟨n, rfl, h1, h2, rfl, rfl⟩ | ⟨ks, rfl, h1, h2, al, rfl, rfl⟩ | ⟨a, b, q1, s1, q2, s2, rfl, ha, hb, h64, rfl, rfl⟩
    · rw [lots_lot h1 h2]
      intro n hn
      simp only [List.mem_cons, List.not_mem_nil, or_false] at hn
      subst hn
      exact ⟨h1, h2⟩
    · rw [lots_row h1 h2]
      intro n hn
      obtain ⟨u, hu, hn⟩ := List.mem_flatMap.mp hn
      exact lots_bd (some_getD (al u hu)) n hn
    · rw [lots_fun ha]
      intro n hn
      obtain ⟨u, hu, hn⟩ := List.mem_flatMap.mp hn
      rw [List.eq_of_mem_replicate hu] at hn
      exact lots_bd hb n hn
theorem step_len (l : List (List Int)) (n : Int) : (step l n).length = l.length * n.toNat := by
  induction l with
  | nil => simp [step]
  | cons r l ih =>
    simp only [step, List.flatMap_cons, List.length_append, List.length_map, List.length_cons] at ih ⊢
    rw [ih]
    simp only [rg, List.length_map, List.length_range, Nat.add_mul, Nat.one_mul]
    omega
theorem fold_le : ∀ (ls : List Int) (rows : List (List Int)), (∀ n ∈ ls, 1 ≤ n) → rows.length ≤ (ls.foldl step rows).length
  | [], rows, _ => Nat.le_refl _
  | n :: ls, rows, h => by
    have h1 := fold_le ls (step rows n) fun m hm => h m (List.mem_cons_of_mem _ hm)
    have h2 := step_len rows n
    have h3 := h n List.mem_cons_self
    have : rows.length * 1 ≤ rows.length * n.toNat := Nat.mul_le_mul_left _ (by omega)
    rw [List.foldl_cons]
    omega
theorem fold_rows (D : Nat) (v : Val) : (lots D v).foldl step [[]] = rowsOf D v := by
  show List.foldl (fun rows l => rows.flatMap fun r => (rg l).map fun d => r ++ [d]) [[]] (lots D v) = _
  rw [foldl_prod]
  simp [rowsOf]
theorem step_mem {rows : List (List Int)} {n : Int} {k : Nat} (h : ∀ r ∈ rows, r.length = k) : ∀ r ∈ step rows n, r.length = k + 1 := by
  intro r hr
  obtain ⟨r', h1, h2⟩ := List.mem_flatMap.mp hr
  obtain ⟨d, _, rfl⟩ := List.mem_map.mp h2
  simp [h r' h1]
theorem vals_blw (D : Nat) (v : Val) (n : Nat) : Vals.blw n (vals D v) = true := by
  unfold vals
  generalize rowsOf D v = l
  induction l with
  | nil => rfl
  | cons r l ih => simp only [List.map_cons, Vals.blw, bld_blw, ih, Bool.and_self]
theorem run_values_in (D L : Nat) (v : Val) (st : Sto) (d : Nat) (p s : Int) (hD : D ≤ 5) (hL : D + 22 ≤ L) (hg : gd d v = true) (hd : d ≤ 60) (hf : fm D v = some (p, s)) (hz : (rowsOf D v).length ≤ 1000000) :
    run T.fns (L + 1) i_values_in [v] st = .ok (.loc st.length) (st ++ [.lst (vals D v)]) := by
  obtain ⟨L, rfl⟩ : ∃ L', L = L' + 1 := ⟨L - 1, by omega⟩
  rw [run_succ (fn := d_values_in.fn) rfl rfl]
  show endOf st (evS (run T.fns (L + 1)) b_values_in [some v, none, none, none, none, none] st) = _
  have rl := run_lots_in D (L + 1) v st d p s hD (by omega) hg hd hf
  have pl := lots_len hf
  have pm := okM_fm _ _ _ _ hf
  obtain ⟨env1, st1, e1, g, q, rows, ls, x3, ⟨hnil, _⟩, hfold, hq, ⟨k, hk, hkl⟩, _, rfl, rfl, _⟩ := forLoop_rest (w := [(st.length, (lots D v).map .int)]) (tg := [3]) (one := true) (body := evS (run T.fns (L + 1)) l_values_in_0)
    (fun rest env st' => ∃ (g : Sto) (q : Nat) (rows : List (List Int)) (ls : List Int) (x3 : Option Val), (rest = ls.map .int ∧ ∀ n ∈ ls, n ∈ lots D v) ∧ ls.foldl step rows = rowsOf D v ∧ st'[q]? = some (.lst (rows.map tupI)) ∧ (∃ k, (∀ r ∈ rows, r.length = k) ∧ k + ls.length = (lots D v).length) ∧ True ∧ st' = st ++ (.lst ((lots D v).map .int) :: g) ∧ env = [some v, some (.loc st.length), some (.loc q), x3, none, none] ∧ True)
    (by rintro _ _ _ ⟨g, q, rows, ls, x3, _, _, _, _, _, rfl, _⟩; simp [wOk])
    (by
      rintro u rest env st' ⟨g, q, rows, ls, x3, ⟨hr, hm⟩, hfold, hq, ⟨k, hk, hkl⟩, _, rfl, rfl, _⟩
      cases ls with
      | nil => cases hr
      | cons n ls =>
        simp only [List.map_cons, List.cons.injEq] at hr
        obtain ⟨rfl, rfl⟩ := hr
        obtain ⟨n1, n2⟩ := lots_bd hf n (hm n List.mem_cons_self)
        have rz : rows.length ≤ 1000000 := by
          have := fold_le (n :: ls) rows fun m hm' => (lots_bd hf m (hm m hm')).1
          rw [hfold] at this
          omega
        simp only [List.length_cons] at hkl
        have rs := rows_step (L + 1) v (.loc st.length) n n1 n2 (st ++ (.lst ((lots D v).map .int) :: g)) q rows hq (fun r hr => by rw [hk r hr]; omega) rz none none
        refine ⟨_, [some v, some (.loc st.length), some (.loc (st ++ (.lst ((lots D v).map .int) :: g)).length), some (.int n), none, none], st ++ (.lst ((lots D v).map .int) :: (g ++ [.lst ((step rows n).map tupI)])), rfl, ?_, g ++ [.lst ((step rows n).map tupI)], _, step rows n, ls, some (.int n), ⟨rfl, fun m hm' => hm m (List.mem_cons_of_mem _ hm')⟩, hfold, ?_, ⟨k + 1, step_mem hk, by omega⟩, trivial, rfl, rfl, trivial⟩
        · have := rs
          simp only [List.append_assoc, List.cons_append] at this
          exact this
        · rw [← List.cons_append, ← List.append_assoc]
          simp)
    ((lots D v).map .int) [some v, some (.loc st.length), some (.loc (st.length + 1)), none, none, none] (st ++ [.lst ((lots D v).map .int), .lst [.tup []]])
    ⟨[.lst [.tup []]], st.length + 1, [[]], lots D v, none, ⟨rfl, fun _ h => h⟩, fold_rows D v, by rw [at_end]; rfl, ⟨0, by simp, by simp⟩, trivial, rfl, rfl, trivial⟩
  have ls0 : ls = [] := by
    cases ls with
    | nil => rfl
    | cons _ _ => cases hnil
  subst ls0
  simp only [List.foldl_nil] at hfold
  subst hfold
  have lc := fun c => lcLoop_mapW (w := [(q, (rowsOf D v).map tupI)]) (tg := [4]) (one := true) (c := c) (elt := evE (run T.fns (L + 1)) e_values_in_2) (env := wipeV [some v, some (.loc st.length), some (.loc q), x3, none, none] [4]) (st := st ++ (.lst ((lots D v).map .int) :: g)) (fun u => match u with
    | .tup vs => bld D v ((asInts vs).getD [])
    | u => u) (by simp [wOk, hq]) ((rowsOf D v).map tupI) (fun u hu => by
      obtain ⟨r, hr, rfl⟩ := List.mem_map.mp hu
      refine ⟨_, rfl, ?_⟩
      have rv := run_value_by_digits D L v r (st ++ (.lst ((lots D v).map .int) :: g)) d p s hD (by omega) hg hd hf (by rw [rows_len hr]; exact Nat.le_refl _)
      have rv' : run T.fns (L + 1) i_value_by_digits [v, tupI r] (st ++ (.lst ((lots D v).map .int) :: g)) = .ok (bld D v r) (st ++ (.lst ((lots D v).map .int) :: g)) := rv
      simp only [e_values_in_2, evE, evL]
      simp [setN, wipeV, rv']
      simp [tupI, asInts_map])
  have mp : ((rowsOf D v).map tupI).map (fun u => match u with
    | .tup vs => bld D v ((asInts vs).getD [])
    | u => u) = vals D v := by
    unfold vals
    rw [List.map_map]
    apply List.map_congr_left
    intro r _
    simp [tupI, asInts_map]
  rw [mp] at lc
  have im : itemsOf (st ++ (.lst ((lots D v).map .int) :: g)) (.loc q) = some ((rowsOf D v).map tupI, [(q, (rowsOf D v).map tupI)]) := by simp [itemsOf, hq]
  have i0 : itemsOf (st ++ [.lst ((lots D v).map .int), .lst [.tup []]]) (.loc st.length) = some ((lots D v).map .int, [(st.length, (lots D v).map .int)]) := by simp [itemsOf]
  have en := endOf_loc st (.lst ((lots D v).map .int) :: (g ++ [.lst (vals D v)])) (st ++ (.lst ((lots D v).map .int) :: g)).length (vals D v) (by simp) (by
    rw [← List.cons_append, ← List.append_assoc]
    simp) (vals_blw D v _)
  simp only [b_values_in, evS, evE, evL, evB, evI, iterR]
  simp [setN, rl, i0, e1, im, lc]
  simpa using en
end TT.K02
set_option linter.all false
set_option maxHeartbeats 1000000
set_option maxRecDepth 100000
namespace TT.K02
open PySem L2
theorem all_blw {xs : List Val} (n : Nat) (h : ∀ x ∈ xs, x.blw n = true) : Vals.blw n xs = true := by
  induction xs with
  | nil => rfl
  | cons x xs ih =>
    simp only [Vals.blw, h x List.mem_cons_self, ih fun u hu => h u (List.mem_cons_of_mem _ hu), Bool.and_self]
theorem gd_memb {D d : Nat} {v : Val} {p s : Int} (hf : fm (D + 1) v = some (p, s)) (hg : gd d v = true) : ∀ m ∈ memb D v, gd d m = true := by
  intro m hm
  rcases fm_cases hf with ⟨k, rfl, h1, h2, rfl, rfl⟩ | ⟨ks, rfl, h1, h2, al, rfl, rfl⟩ | ⟨a, b, q1, s1, q2, s2, rfl, ha, hb, h64, rfl, rfl⟩
  · simp [memb, rowL, funP] at hm
  · rw [memb_row h1 h2] at hm
    obtain ⟨e, rfl, hk⟩ := gd_row hg
    exact gd_mono (hk m hm) (by omega)
  · rw [memb_fun ha] at hm
    obtain ⟨e, rfl, ga, gb⟩ := gd_fun hg
    rw [List.eq_of_mem_replicate hm]
    exact gd_mono gb (by omega)
theorem run_law_members (D L : Nat) (v : Val) (st : Sto) (d : Nat) (p s : Int) (hD : D ≤ 5) (hL : D + 5 ≤ L) (hg : gd d v = true) (hd : d ≤ 60) (hf : fm (D + 1) v = some (p, s)) (hl : lotN v = none) :
    run T.fns (L + 1) i__law_members [v] st = .ok (.loc st.length) (st ++ [.lst (memb D v)]) := by
  rw [run_succ (fn := d__law_members.fn) rfl rfl]
  show endOf st (evS (run T.fns L) b__law_members [some v] st) = _
  have bl := all_blw st.length fun m hm => gd_blw st.length (gd_memb hf hg m hm)
  simp only [b__law_members, evS, evE, evL, evB]
  rcases fm_cases hf with ⟨k, rfl, h1, h2, rfl, rfl⟩ | ⟨ks, rfl, h1, h2, al, rfl, rfl⟩ | ⟨a, b, q1, s1, q2, s2, rfl, ha, hb, h64, rfl, rfl⟩
  · have : lotN (.tup [.str s_lot, .int s]) = some s := by simp [lotN]; omega
    rw [this] at hl
    cases hl
  · have me := memb_row (D := D) h1 h2
    rw [me] at bl ⊢
    have li : bltV .list [.tup ks] st = .ok (.loc st.length) (st ++ [.lst ks]) := rfl
    have en := endOf_loc st [.lst ks] st.length ks (Nat.le_refl _) (by simp) bl
    simp [li, en]
  · have me := memb_fun (D := D) (b := b) ha
    rw [me] at bl ⊢
    obtain ⟨e, rfl, ga, gb⟩ := gd_fun hg
    have a3 := (okM_fm D a _ _ ha).2.2.1
    have sz := fun st => run_size D L a st e _ _ (by omega) ga (by omega) ha
    have mu : binV .Mult (.loc st.length) (.int s1) (st ++ [.lst [b]]) = .ok (.loc (st.length + 1)) (st ++ [.lst [b], .lst (List.replicate s1.toNat b)]) := by
      have ge : (st ++ [Cell.lst [b]])[st.length]? = some (.lst [b]) := by simp
      have rp : repV [b] s1 = List.replicate s1.toNat b := by
        unfold repV
        generalize s1.toNat = k
        induction k with
        | zero => rfl
        | succ k ih => rw [List.replicate_succ, List.flatten_cons, ih, List.replicate_succ]; rfl
      simp only [binV, ge]
      rw [if_pos ⟨by omega, by omega, by rw [sizeLine_eq]; simp only [List.length_cons, List.length_nil]; omega⟩, rp]
      simp [alloc]
    have en := endOf_loc st [.lst [b], .lst (List.replicate s1.toNat b)] (st.length + 1) _ (by omega) (by rw [at_end]; rfl) bl
    simp [sz, mu, en]
end TT.K02
set_option linter.all false
set_option maxHeartbeats 1000000
set_option maxRecDepth 100000
namespace TT.K02
open PySem L2
/-- rows with one more value behind each -/
def stepV (rows : List (List Val)) (ts : List Val) : List (List Val) := rows.flatMap fun r => ts.map fun t => r ++ [t]
/-- the law's inner loop: more (at m) grows, told (at m + 1) and the copy (at m + 2) stay -/
theorem lv_inner (L : Nat) (kv x1 one : Option Val) (G : Sto) (ts : List Val) (rows : List (List Val)) (hr : ∀ r ∈ rows, r.length ≤ 1000) (hz : (stepV rows ts).length ≤ 1000000) (x5 x6 : Option Val) :
    ∃ y5 g, forLoop [(G.length + 2, rows.map .tup)] [5] true (evS (run T.fns L) l__law_values_1) (rows.map .tup) [kv, x1, one, some (.loc G.length), some (.loc (G.length + 1)), x5, x6] (G ++ [.lst [], .lst ts, .lst (rows.map .tup)]) =
      .nx [kv, x1, one, some (.loc G.length), some (.loc (G.length + 1)), y5, x6] (G ++ (.lst ((stepV rows ts).map .tup) :: .lst ts :: .lst (rows.map .tup) :: g)) := by
  obtain ⟨env1, st1, e1, acc, rs, g, y5, ⟨hnil, hm⟩, hacc, rfl, rfl⟩ := forLoop_rest (w := [(G.length + 2, rows.map .tup)]) (tg := [5]) (one := true) (body := evS (run T.fns L) l__law_values_1)
    (fun rest env st' => ∃ (acc rs : List (List Val)) (g : Sto) (y5 : Option Val), (rest = rs.map .tup ∧ ∀ r ∈ rs, r ∈ rows) ∧ acc ++ stepV rs ts = stepV rows ts ∧ env = [kv, x1, one, some (.loc G.length), some (.loc (G.length + 1)), y5, x6] ∧ st' = G ++ (.lst (acc.map .tup) :: .lst ts :: .lst (rows.map .tup) :: g))
    (by
      rintro _ _ _ ⟨acc, rs, g, y5, _, _, _, rfl⟩
      simp only [wOk, List.all_cons, List.all_nil, at_end]
      simp)
    (by
      rintro u rest env st' ⟨acc, rs, g, y5, ⟨hrest, hm⟩, hacc, rfl, rfl⟩
      cases rs with
      | nil => cases hrest
      | cons r rs =>
        simp only [List.map_cons, List.cons.injEq] at hrest
        obtain ⟨rfl, rfl⟩ := hrest
        have hlr := hr r (hm r List.mem_cons_self)
        have tl : acc.length + (ts.map fun t => r ++ [t]).length ≤ 16777216 := by
          have := congrArg List.length hacc
          simp only [stepV, List.flatMap_cons, List.length_append] at this hz
          omega
        have gt : (G ++ (.lst (acc.map .tup) :: .lst ts :: .lst (rows.map .tup) :: g))[G.length + 1]? = some (.lst ts) := by rw [at_end]; rfl
        have im : itemsOf (G ++ (.lst (acc.map .tup) :: .lst ts :: .lst (rows.map .tup) :: g)) (.loc (G.length + 1)) = some (ts, [(G.length + 1, ts)]) := by simp only [itemsOf, gt]
        have lc := fun c => lcLoop_mapW (w := [(G.length + 1, ts)]) (tg := [6]) (one := true) (c := c) (elt := evE (run T.fns L) e__law_values_2) (env := wipeV [kv, x1, one, some (.loc G.length), some (.loc (G.length + 1)), some (.tup r), x6] [6]) (st := G ++ (.lst (acc.map .tup) :: .lst ts :: .lst (rows.map .tup) :: g)) (fun t => .tup (r ++ [t])) (by simp only [wOk, List.all_cons, List.all_nil, gt, decide_true, Bool.and_self]) ts (fun t ht => by
          refine ⟨_, rfl, ?_⟩
          have ad : ∀ st, binV .Add (.tup r) (.tup [t]) st = .ok (.tup (r ++ [t])) st := fun st => by
            simp only [binV]
            rw [if_pos (by rw [sizeLine_eq]; simp only [List.length_cons, List.length_nil]; omega)]
          simp only [e__law_values_2, evE, evL]
          simp [setN, wipeV, ad])
        have x := ext_last (st := G) (g := .lst ts :: .lst (rows.map .tup) :: (g ++ [.lst (ts.map fun t => .tup (r ++ [t]))])) (a := acc.map .tup) (b := ts.map fun t => .tup (r ++ [t])) (m := (G ++ (.lst (acc.map .tup) :: .lst ts :: .lst (rows.map .tup) :: g)).length) (by
          rw [← List.cons_append, ← List.cons_append, ← List.cons_append, ← List.append_assoc]
          simp) (by simpa using tl)
        refine ⟨_, [kv, x1, one, some (.loc G.length), some (.loc (G.length + 1)), some (.tup r), x6], G ++ (.lst ((acc ++ ts.map fun t => r ++ [t]).map .tup) :: .lst ts :: .lst (rows.map .tup) :: (g ++ [.lst (ts.map fun t => .tup (r ++ [t]))])), rfl, ?_, acc ++ (ts.map fun t => r ++ [t]), rs, _, some (.tup r), ⟨rfl, fun y hy => hm y (List.mem_cons_of_mem _ hy)⟩, ?_, rfl, rfl⟩
        · have il : isL (.loc G.length) (G ++ (.lst (acc.map .tup) :: .lst ts :: .lst (rows.map .tup) :: g)) = true := by simp [isL]
          simp only [l__law_values_1, evS, evE, evL, evI, iterR]
          simp [setN, il, im, lc]
          simp at x
          simp [x, Function.comp_def]
        · rw [← hacc]
          simp [stepV])
    (rows.map .tup) [kv, x1, one, some (.loc G.length), some (.loc (G.length + 1)), x5, x6] (G ++ [.lst [], .lst ts, .lst (rows.map .tup)]) ⟨[], rows, [], x5, ⟨rfl, fun _ h => h⟩, rfl, rfl, rfl⟩
  have rs0 : rs = [] := by
    cases rs with
    | nil => rfl
    | cons _ _ => cases hnil
  subst rs0
  simp only [stepV, List.flatMap_nil, List.append_nil] at hacc
  exact ⟨y5, g, by rw [e1, hacc]; rfl⟩
end TT.K02
set_option linter.all false
set_option maxHeartbeats 1000000
set_option maxRecDepth 100000
namespace TT.K02
open PySem L2
theorem lv_turn (L : Nat) (kv : Option Val) (G : Sto) (q : Nat) (m : Val) (ts : List Val) (rows : List (List Val)) (hq : G[q]? = some (.lst (rows.map .tup))) (hr : ∀ r ∈ rows, r.length ≤ 1000) (hz : (stepV rows ts).length ≤ 1000000)
    (hm : ∀ st, run T.fns L i__law_values [m] st = .ok (.loc st.length) (st ++ [.lst ts])) (x3 x4 x5 x6 : Option Val) :
    ∃ y5 g, evS (run T.fns L) l__law_values_0 [kv, some (.loc q), some m, x3, x4, x5, x6] G = .nx [kv, some (.loc G.length), some m, some (.loc G.length), some (.loc (G.length + 1)), y5, x6] (G ++ (.lst ((stepV rows ts).map .tup) :: .lst ts :: .lst (rows.map .tup) :: g)) := by
  obtain ⟨y5, g, lp⟩ := lv_inner L kv (some (.loc q)) (some m) G ts rows hr hz x5 x6
  have hql := (List.getElem?_eq_some_iff.mp hq).1
  have r := hm (G ++ [.lst []])
  have li : bltV .list [.loc q] (G ++ [.lst [], .lst ts]) = .ok (.loc (G.length + 2)) (G ++ [.lst [], .lst ts, .lst (rows.map .tup)]) := by
    have : (G ++ [.lst [], .lst ts])[q]? = some (.lst (rows.map .tup)) := by rw [List.getElem?_append_left hql, hq]
    simp [bltV, seqOf, this, alloc]
  have im : itemsOf (G ++ [.lst [], .lst ts, .lst (rows.map .tup)]) (.loc (G.length + 2)) = some (rows.map .tup, [(G.length + 2, rows.map .tup)]) := by
    simp only [itemsOf, at_end]
    rfl
  refine ⟨y5, g, ?_⟩
  simp only [l__law_values_0, evS, evE, evL, evI, iterR]
  simp at r
  simp [setN, r, li, im, lp]
theorem stepV_len (rows : List (List Val)) (ts : List Val) : (stepV rows ts).length = rows.length * ts.length := by
  induction rows with
  | nil => simp [stepV]
  | cons r rows ih =>
    simp only [stepV, List.flatMap_cons, List.length_append, List.length_map, List.length_cons] at ih ⊢
    rw [ih, Nat.add_mul, Nat.one_mul, Nat.add_comm]
theorem foldV (D : Nat) (ms : List Val) : ms.foldl (fun rows m => stepV rows (vals D m)) [[]] = prodV (ms.map (vals D)) := by
  show List.foldl (fun rows l => rows.flatMap fun r => (vals D l).map fun d => r ++ [d]) [[]] ms = _
  rw [foldl_prod]
  simp
end TT.K02
set_option linter.all false
set_option maxHeartbeats 1000000
set_option maxRecDepth 100000
namespace TT.K02
open PySem L2
theorem prodV_len {α : Type} : ∀ ls : List (List α), (prodV ls).length = (ls.map List.length).foldr (· * ·) 1
  | [] => rfl
  | xs :: r => by
    have : ∀ l : List α, (l.flatMap fun x => (prodV r).map (x :: ·)).length = l.length * (prodV r).length := by
      intro l
      induction l with
      | nil => simp
      | cons a l ih =>
        rw [List.flatMap_cons, List.length_append, ih, List.length_map, List.length_cons, Nat.add_mul, Nat.one_mul, Nat.add_comm]
    simp only [prodV, List.map_cons, List.foldr_cons]
    rw [this, prodV_len r]
theorem vals_len (D : Nat) (v : Val) : (vals D v).length = (rowsOf D v).length := by simp [vals]
/-- as many values as fm tells -/
theorem rows_size : ∀ {D : Nat} {v : Val} {p s : Int}, fm D v = some (p, s) → ((vals D v).length : Int) = s
  | 0, v, p, s, h => by cases h
  | D + 1, v, p, s, h => by
    have hc := fm_cases h
    rcases hc with ⟨n, rfl, h1, h2, rfl, rfl⟩ | ⟨ks, rfl, h1, h2, al, rfl, rfl⟩ | ⟨a, b, q1, s1, q2, s2, rfl, ha, hb, h64, rfl, rfl⟩
    · have hl : lotN (.tup [.str s_lot, .int s]) = some s := by simp [lotN]; omega
      rw [vals_lot hl]
      simp only [rg, List.length_map, List.length_range]
      omega
    · have hl : lotN (.tup [.str s_row, .tup ks]) = none := by simp [lotN]
      rw [vals_memb hl, List.length_map, prodV_len, memb_row h1 h2, List.map_map]
      clear h h1 h2
      induction ks with
      | nil => rfl
      | cons u ks ih =>
        have hu := rows_size (some_getD (al u List.mem_cons_self))
        have := ih (fun x hx => al x (List.mem_cons_of_mem _ hx)) (by simp [lotN])
        simp only [List.map_cons, List.foldr_cons, prdS, Function.comp] at this ⊢
        rw [Int.natCast_mul, this, hu]
    · have hl : lotN (.tup [.str s_fun, a, b]) = none := by simp [lotN]
      rw [vals_memb hl, List.length_map, prodV_len, memb_fun ha, List.map_map]
      have hu := rows_size hb
      generalize s1.toNat = k
      induction k with
      | zero => simp
      | succ k ih =>
        rw [List.replicate_succ, List.map_cons, List.foldr_cons, Int.natCast_mul, ih]
        simp only [Function.comp, hu]
        rw [Int.pow_succ, Int.mul_comm]
end TT.K02
set_option linter.all false
set_option maxHeartbeats 1000000
set_option maxRecDepth 100000
namespace TT.K02
open PySem L2
theorem foldV_le (D : Nat) : ∀ (ms : List Val) (rows : List (List Val)), (∀ m ∈ ms, 1 ≤ (vals D m).length) → rows.length ≤ (ms.foldl (fun rows m => stepV rows (vals D m)) rows).length
  | [], rows, _ => Nat.le_refl _
  | m :: ms, rows, h => by
    have h1 := foldV_le D ms (stepV rows (vals D m)) fun x hx => h x (List.mem_cons_of_mem _ hx)
    have h3 := h m List.mem_cons_self
    have : rows.length * 1 ≤ rows.length * (vals D m).length := Nat.mul_le_mul_left _ h3
    rw [stepV_len] at h1
    rw [List.foldl_cons]
    omega
theorem stepV_mem {rows : List (List Val)} {ts : List Val} {k : Nat} (h : ∀ r ∈ rows, r.length = k) : ∀ r ∈ stepV rows ts, r.length = k + 1 := by
  intro r hr
  obtain ⟨r', h1, h2⟩ := List.mem_flatMap.mp hr
  obtain ⟨d, _, rfl⟩ := List.mem_map.mp h2
  simp [h r' h1]
theorem run_law_values : ∀ (D L : Nat) (v : Val) (st : Sto) (d : Nat) (p s : Int), D ≤ 5 → D + 10 ≤ L → gd d v = true → d ≤ 60 → fm D v = some (p, s) → s ≤ 1000000 → run T.fns L i__law_values [v] st = .ok (.loc st.length) (st ++ [.lst (vals D v)])
  | 0, L, v, st, d, p, s, hD, hL, hg, hd, hf, hs => by cases hf
  | D + 1, L + 1, v, st, d, p, s, hD, hL, hg, hd, hf, hs => by
    obtain ⟨L, rfl⟩ : ∃ L', L = L' + 1 := ⟨L - 1, by omega⟩
    rw [run_succ (fn := d__law_values.fn) rfl rfl]
    show endOf st (evS (run T.fns (L + 1)) b__law_values [some v, none, none, none, none, none, none] st) = _
    have tot := rows_size hf
    cases hl : lotN v with
    | some n =>
      obtain ⟨rfl, n1, n2⟩ := lotN_eq hl
      rw [vals_lot hl, ← rangeL_rg]
      have rgk : rgL (.int 0) (.int n) st = .ok (.loc st.length) (st ++ [.lst (rangeL 0 n.toNat)]) := by
        simp only [rgL]
        rw [if_pos ⟨by decide, by unfold smallI; rw [decide_eq_true_eq]; omega, by rw [sizeLine_eq]; omega⟩]
        simp [alloc]
      have en := endOf_loc st [.lst (rangeL 0 n.toNat)] st.length (rangeL 0 n.toNat) (Nat.le_refl _) (by simp) (by rw [rangeL_rg]; exact blwI _ _)
      simp only [b__law_values, evS, evE, evL, evB]
      simp [rgk, en]
    | none =>
      have mm := fm_memb hf
      have ml := run_law_members D L v (st ++ [.lst [.tup []]]) d p s (by omega) (by omega) hg hd hf hl
      have vm := vals_memb (D := D) hl
      have one : ∀ m ∈ memb D v, 1 ≤ (vals D m).length := fun m hm => by
        obtain ⟨q, t, hf'⟩ := mm m hm
        have := rows_size hf'
        have := (okM_fm D m _ _ hf').2.2.1
        omega
      have mlen : (memb D v).length ≤ 100 := by
        rcases fm_cases hf with ⟨k, rfl, h1, h2, rfl, rfl⟩ | ⟨ks, rfl, h1, h2, al, rfl, rfl⟩ | ⟨a, b, q1, s1, q2, s2, rfl, ha, hb, h64, rfl, rfl⟩
        · simp [memb, rowL, funP]
        · rw [memb_row h1 h2]; omega
        · rw [memb_fun ha, List.length_replicate]; omega
      have tl : ((memb D v).foldl (fun rows m => stepV rows (vals D m)) [[]]).length ≤ 1000000 := by
        rw [foldV]
        rw [vm, List.length_map] at tot
        omega
      obtain ⟨env1, st1, e1, g, q, rows, x3, x4, x5, x6, x2, hfold, hq, hql, _, _, _, rfl, rfl⟩ := forLoop_rest (w := [(st.length + 1, memb D v)]) (tg := [2]) (one := true) (body := evS (run T.fns (L + 1)) l__law_values_0)
        (fun rest env st' => ∃ (g : Sto) (q : Nat) (rows : List (List Val)) (x3 x4 x5 x6 x2 : Option Val), rest.foldl (fun rows m => stepV rows (vals D m)) rows = (memb D v).foldl (fun rows m => stepV rows (vals D m)) [[]] ∧ st'[q]? = some (.lst (rows.map .tup)) ∧ st.length ≤ q ∧ (∀ m ∈ rest, m ∈ memb D v) ∧ 1 ≤ rows.length ∧ (∃ k, (∀ r ∈ rows, r.length = k) ∧ k + rest.length = (memb D v).length) ∧ env = [some v, some (.loc q), x2, x3, x4, x5, x6] ∧ st' = st ++ (.lst [.tup []] :: .lst (memb D v) :: g))
        (by
          rintro _ _ _ ⟨g, q, rows, x3, x4, x5, x6, x2, _, _, _, _, _, _, _, rfl⟩
          simp only [wOk, List.all_cons, List.all_nil, at_end]
          simp)
        (by
          rintro m rest env st' ⟨g, q, rows, x3, x4, x5, x6, x2, hfold, hq, _, hm, h1, ⟨k, hk, hkl⟩, rfl, rfl⟩
          have hmm := hm m List.mem_cons_self
          obtain ⟨q', t, hf'⟩ := mm m hmm
          simp only [List.length_cons] at hkl
          have z1 : (stepV rows (vals D m)).length ≤ 1000000 := by
            have := foldV_le D rest (stepV rows (vals D m)) fun x hx => one x (hm x (List.mem_cons_of_mem _ hx))
            rw [List.foldl_cons] at hfold
            rw [hfold] at this
            omega
          have z2 : t ≤ 1000000 := by
            have a1 := rows_size hf'
            have : 1 * (vals D m).length ≤ rows.length * (vals D m).length := Nat.mul_le_mul_right _ h1
            rw [stepV_len] at z1
            omega
          obtain ⟨y5, g', tn⟩ := lv_turn (L + 1) (some v) (st ++ (.lst [.tup []] :: .lst (memb D v) :: g)) q m (vals D m) rows hq (fun r hr => by rw [hk r hr]; omega) z1
            (fun st2 => run_law_values D (L + 1) m st2 d q' t (by omega) (by omega) (gd_memb hf hg m hmm) hd hf' z2) x3 x4 x5 x6
          have o1 := one m hmm
          have : 1 * 1 ≤ rows.length * (vals D m).length := Nat.mul_le_mul h1 o1
          refine ⟨_, _, _, rfl, tn, g ++ (.lst ((stepV rows (vals D m)).map .tup) :: .lst (vals D m) :: .lst (rows.map .tup) :: g'), _, stepV rows (vals D m), _, _, _, _, _, hfold, ?_, by simp, fun x hx => hm x (List.mem_cons_of_mem _ hx), by rw [stepV_len]; omega, ⟨k + 1, stepV_mem hk, by omega⟩, rfl, by simp⟩
          simp)
        (memb D v) [some v, some (.loc st.length), none, none, none, none, none] (st ++ [.lst [.tup []], .lst (memb D v)]) ⟨[], st.length, [[]], none, none, none, none, none, rfl, by simp, Nat.le_refl _, fun _ h => h, by simp, ⟨0, by simp, by simp⟩, rfl, rfl⟩
      simp only [List.foldl_nil] at hfold
      subst hfold
      rw [foldV, ← vm] at hq
      have ml' : run T.fns (L + 1) i__law_members [v] (st ++ [.lst [.tup []]]) = .ok (.loc (st.length + 1)) (st ++ [.lst [.tup []], .lst (memb D v)]) := by
        rw [ml]
        simp
      have i0 : itemsOf (st ++ [.lst [.tup []], .lst (memb D v)]) (.loc (st.length + 1)) = some (memb D v, [(st.length + 1, memb D v)]) := by
        simp only [itemsOf, at_end]
        rfl
      have en := endOf_loc st (.lst [.tup []] :: .lst (memb D v) :: g) q (vals (D + 1) v) hql hq (vals_blw (D + 1) v _)
      have c0 : ∀ st, ∃ x, idxV v (.int 0) st = .ok x st ∧ cmpR .Eq x (.str s_lot) st = .ok (.bl false) st := by
        intro st
        rcases fm_cases hf with ⟨k, rfl, h1, h2, rfl, rfl⟩ | ⟨ks, rfl, h1, h2, al, rfl, rfl⟩ | ⟨a, b, q1, s1, q2, s2, rfl, ha, hb, h64, rfl, rfl⟩
        · exfalso
          have : lotN (.tup [.str s_lot, .int s]) = some s := by simp [lotN]; omega
          rw [this] at hl
          cases hl
        · exact ⟨_, idx0 _ _ _, by simp⟩
        · exact ⟨_, idx0 _ _ _, by simp⟩
      obtain ⟨x, c1, c2⟩ := c0 st
      simp only [b__law_values, evS, evE, evL, evB, evI, iterR]
      simp [c1, c2, setN, ml', i0, e1, en]
end TT.K02
set_option linter.all false
set_option maxHeartbeats 1000000
set_option maxRecDepth 100000
namespace TT
theorem wOk_more {w : Watch} {st : Sto} (h : wOk w st = true) (g : Sto) : wOk w (st ++ g) = true := by
  unfold wOk at *
  rw [List.all_eq_true] at *
  intro q hq
  have := h q hq
  rw [decide_eq_true_eq] at *
  rw [List.getElem?_append_left (List.getElem?_eq_some_iff.mp this).1]
  exact this
theorem iff_yes {C : CallF} {c : E} {a b : S} {env : VEnv} {st st1 : Sto} (h : evE C c env st = .ok (.bl true) st1) : evS C (.iff c a b) env st = evS C a env st1 := by
  simp only [evS, evB, h, Res.bind_ok, truthR_b, Res.fl_ok, if_true]
theorem iff_no {C : CallF} {c : E} {a b : S} {env : VEnv} {st st1 : Sto} (h : evE C c env st = .ok (.bl false) st1) : evS C (.iff c a b) env st = evS C b env st1 := by
  simp only [evS, evB, h, Res.bind_ok, truthR_b, Res.fl_ok, Bool.false_eq_true, if_false]
theorem iff_yes_seq {C : CallF} {c : E} {a b s : S} {env : VEnv} {st st1 st2 : Sto} {v : Val} (h : evE C c env st = .ok (.bl true) st1) (g : evS C a env st1 = .rt v st2) : evS C (.seq (.iff c a b) s) env st = .rt v st2 := by
  simp only [evS, evB, h, Res.bind_ok, truthR_b, Res.fl_ok, if_true, g]
theorem iff_no_seq {C : CallF} {c : E} {a s : S} {env : VEnv} {st st1 : Sto} (h : evE C c env st = .ok (.bl false) st1) : evS C (.seq (.iff c a .skip) s) env st = evS C s env st1 := by
  simp only [evS, evB, h, Res.bind_ok, truthR_b, Res.fl_ok, Bool.false_eq_true, if_false]
theorem ret_seq {C : CallF} {e : E} {s : S} {env : VEnv} {st st1 : Sto} {v : Val} (h : evE C e env st = .ok v st1) : evS C (.seq (.ret e) s) env st = .rt v st1 := by
  simp only [evS, h, Res.fl_ok]
theorem set_seq {C : CallF} {i : Nat} {e : E} {s : S} {env : VEnv} {st st1 : Sto} {v : Val} (h : evE C e env st = .ok v st1) : evS C (.seq (.set i e) s) env st = evS C s (setN i v env) st1 := by
  simp only [evS, h, Res.fl_ok]
theorem expr_seq {C : CallF} {e : E} {s : S} {env : VEnv} {st st1 : Sto} {v : Val} (h : evE C e env st = .ok v st1) : evS C (.seq (.expr e) s) env st = evS C s env st1 := by
  simp only [evS, h, Res.fl_ok]
theorem lcLoopL_grow {w : Watch} {tg : List Nat} {one : Bool} {c : VEnv → Sto → Res Val} {inner : VEnv → Sto → Res (List Val)} {env : VEnv} {st : Sto} (F : Val → List Val) (hw : wOk w st = true) : ∀ (vs : List Val) (g : Sto), (∀ v ∈ vs, ∀ g, ∃ env' g', setTg tg one v env = some env' ∧ inner env' (st ++ g) = .ok (F v) (st ++ (g ++ g'))) →
    ∃ g', lcLoopL w tg one (cndR true c) inner vs env (st ++ g) = .ok (vs.flatMap F) (st ++ (g ++ g'))
  | [], g, _ => ⟨[], by simp [lcLoopL, wOk_more hw]⟩
  | v :: vs, g, h => by
    obtain ⟨env', g1, e1, e2⟩ := h v List.mem_cons_self g
    obtain ⟨g2, e3⟩ := lcLoopL_grow (tg := tg) (one := one) (c := c) F hw vs (g ++ g1) fun u hu => h u (List.mem_cons_of_mem _ hu)
    exact ⟨g1 ++ g2, by simp only [lcLoopL, wOk_more hw, if_true, e1, cndR, Res.bind_ok, e2, e3, List.flatMap_cons, List.append_assoc]⟩
theorem lc2_ok {C : CallF} {elt it it1 : E} {own tg own1 tg1 : List Nat} {one one1 : Bool} {ib ib1 : Option Blt} {env : VEnv} {st st1 : Sto} {xs : List Val} {w : Watch} (F : Val → List Val)
    (h1 : iterR ib (evE C it) (evL C it) env st = .ok (xs, w) st1) (hw : wOk w st1 = true)
    (h2 : ∀ x ∈ xs, ∀ g, ∃ env', setTg tg one x (wipeV env own) = some env' ∧ ∃ ys w1 f g', iterR ib1 (evE C it1) (evL C it1) env' (st1 ++ g) = .ok (ys, w1) (st1 ++ (g ++ g')) ∧ wOk w1 (st1 ++ (g ++ g')) = true ∧
      (∀ y ∈ ys, ∃ env2, setTg tg1 one1 y (wipeV env' own1) = some env2 ∧ evE C elt env2 (st1 ++ (g ++ g')) = .ok (f y) (st1 ++ (g ++ g'))) ∧ F x = ys.map f)
    (hl : (xs.flatMap F).length ≤ 16777216) :
    ∃ g, evE C (.lc2 elt own tg one ib it .nil own1 tg1 one1 ib1 it1 .nil) env st = .ok (.loc (st1 ++ g).length) (st1 ++ g ++ [.lst (xs.flatMap F)]) := by
  have lp := lcLoopL_grow (w := w) (tg := tg) (one := one) (c := fun _ _ => Res.bad) (inner := fun env' st2 => (iterR ib1 (evE C it1) (evL C it1) env' st2).bind fun p1 st3 => lcLoop p1.2 tg1 one1 (cndR true fun _ _ => Res.bad) (evE C elt) p1.1 (wipeV env' own1) st3) (env := wipeV env own) (st := st1) F hw xs []
    (fun v hv g => by
      obtain ⟨env', e1, ys, w1, f, g', e2, e3, e4, e5⟩ := h2 v hv g
      refine ⟨env', g', e1, ?_⟩
      simp only [e2, Res.bind_ok]
      rw [lcLoop_mapW f e3 ys e4, e5])
  obtain ⟨g', lp⟩ := lp
  simp only [List.append_nil, List.nil_append] at lp
  refine ⟨g', ?_⟩
  simp only [evE, h1, Res.bind_ok, isNil_nil, lp, allocS, sizeLine_eq, hl, if_true, alloc_ok]
end TT
namespace TT.K02
open PySem L2
/-! ### places -/
def plc : Nat → Val → List (List Val)
  | 0, _ => []
  | D + 1, v => match lotN v with
    | some _ => [[]]
    | none => match rowL v with
      | some ks => (List.zip (rangeL 0 ks.length) ks).flatMap fun q => (plc D q.2).map (q.1 :: ·)
      | none => match funP v with
        | some (a, b) => (vals D a).flatMap fun x => (plc D b).map (x :: ·)
        | none => []
theorem plc_lot {D : Nat} {n : Int} (h1 : 1 ≤ n) (h2 : n ≤ 8) : plc (D + 1) (.tup [.str s_lot, .int n]) = [[]] := by
  have : lotN (.tup [.str s_lot, .int n]) = some n := by simp [lotN]; omega
  simp only [plc, this]
theorem plc_row {D : Nat} {ks : List Val} (h1 : 2 ≤ ks.length) (h2 : ks.length ≤ 4) : plc (D + 1) (.tup [.str s_row, .tup ks]) = (List.zip (rangeL 0 ks.length) ks).flatMap fun q => (plc D q.2).map (q.1 :: ·) := by
  have h0 : lotN (.tup [.str s_row, .tup ks]) = none := by simp [lotN]
  have : rowL (.tup [.str s_row, .tup ks]) = some ks := by simp [rowL]; omega
  simp only [plc, h0, this]
theorem plc_fun {D : Nat} {a b : Val} : plc (D + 1) (.tup [.str s_fun, a, b]) = (vals D a).flatMap fun x => (plc D b).map (x :: ·) := by
  have h0 : lotN (.tup [.str s_fun, a, b]) = none := by simp [lotN]
  have h1 : rowL (.tup [.str s_fun, a, b]) = none := by simp [rowL]
  have h2 : funP (.tup [.str s_fun, a, b]) = some (a, b) := by simp [funP]
  simp only [plc, h0, h1, h2]
theorem zip_range (ks : List Val) : ∀ q ∈ List.zip (rangeL 0 ks.length) ks, (∃ i : Nat, i < ks.length ∧ q.1 = .int i) ∧ q.2 ∈ ks := by
  intro q hq
  obtain ⟨h1, h2⟩ := List.of_mem_zip hq
  refine ⟨?_, h2⟩
  unfold rangeL at h1
  obtain ⟨i, hi, e⟩ := List.mem_map.mp h1
  exact ⟨i, List.mem_range.mp hi, by rw [← e]; simp⟩
theorem plc_len : ∀ {D : Nat} {v : Val} {p s : Int}, fm D v = some (p, s) → ((plc D v).length : Int) = p
  | 0, v, p, s, h => by cases h
  | D + 1, v, p, s, h => by
    rcases fm_cases h with ⟨n, rfl, h1, h2, rfl, rfl⟩ | ⟨ks, rfl, h1, h2, al, rfl, rfl⟩ | ⟨a, b, q1, s1, q2, s2, rfl, ha, hb, h64, rfl, rfl⟩
    · rw [plc_lot h1 h2]; rfl
    · rw [plc_row h1 h2]
      have key : ∀ (ks : List Val) (rs : List Val), rs.length = ks.length → (∀ u ∈ ks, (fm D u).isSome = true) → ((((List.zip rs ks).flatMap fun q => (plc D q.2).map (q.1 :: ·)).length : Nat) : Int) = sumP (fm D) ks := by
        intro ks
        induction ks with
        | nil => intro rs _ _; simp [sumP]
        | cons u ks ih =>
          intro rs hl al
          cases rs with
          | nil => simp at hl
          | cons r rs =>
            have hu := plc_len (some_getD (al u List.mem_cons_self))
            have := ih rs (by simpa using hl) fun x hx => al x (List.mem_cons_of_mem _ hx)
            simp only [List.zip_cons_cons, List.flatMap_cons, List.length_append, List.length_map, sumP, List.map_cons, List.sum_cons] at *
            omega
      exact key ks _ (by simp [rangeL]) al
    · rw [plc_fun]
      have hu := plc_len hb
      have hv := rows_size ha
      have : ∀ l : List Val, (((l.flatMap fun x => (plc D b).map (x :: ·)).length : Nat) : Int) = l.length * q2 := by
        intro l
        induction l with
        | nil => simp
        | cons x l ih =>
          rw [List.flatMap_cons, List.length_append, Int.natCast_add, ih, List.length_map, hu, List.length_cons]
          push_cast
          rw [Int.add_mul]
          omega
      rw [this, hv]
theorem plc_mem : ∀ {D : Nat} {v : Val} {pl : List Val}, pl ∈ plc D v → pl.length + 1 ≤ D
  | 0, v, pl, h => by simp [plc] at h
  | D + 1, v, pl, h => by
    unfold plc at h
    split at h
    · simp only [List.mem_singleton] at h
      subst h
      simp
    · split at h
      · obtain ⟨q, _, h2⟩ := List.mem_flatMap.mp h
        obtain ⟨r, h3, rfl⟩ := List.mem_map.mp h2
        have := plc_mem h3
        simp only [List.length_cons]
        omega
      · split at h
        · obtain ⟨q, _, h2⟩ := List.mem_flatMap.mp h
          obtain ⟨r, h3, rfl⟩ := List.mem_map.mp h2
          have := plc_mem h3
          simp only [List.length_cons]
          omega
        · cases h
theorem vals_blw1 {D : Nat} {v x : Val} (h : x ∈ vals D v) (n : Nat) : x.blw n = true := by
  obtain ⟨r, _, rfl⟩ := List.mem_map.mp h
  exact bld_blw D v r n
theorem plc_blw : ∀ {D : Nat} {v : Val} {pl : List Val}, pl ∈ plc D v → ∀ n, Vals.blw n pl = true
  | 0, v, pl, h, n => by simp [plc] at h
  | D + 1, v, pl, h, n => by
    unfold plc at h
    split at h
    · simp only [List.mem_singleton] at h
      subst h
      rfl
    · split at h
      · obtain ⟨q, hq, h2⟩ := List.mem_flatMap.mp h
        obtain ⟨r, h3, rfl⟩ := List.mem_map.mp h2
        obtain ⟨⟨i, _, e⟩, _⟩ := zip_range _ q hq
        simp only [Vals.blw, plc_blw h3 n, Bool.and_true, e]
        rfl
      · split at h
        · obtain ⟨q, hq, h2⟩ := List.mem_flatMap.mp h
          obtain ⟨r, h3, rfl⟩ := List.mem_map.mp h2
          simp only [Vals.blw, plc_blw h3 n, vals_blw1 hq n, Bool.and_self]
        · cases h
theorem plcs_blw (D : Nat) (v : Val) (n : Nat) : Vals.blw n ((plc D v).map .tup) = true := by
  apply all_blw
  intro x hx
  obtain ⟨pl, h, rfl⟩ := List.mem_map.mp hx
  simp only [Val.blw]
  exact plc_blw h n
theorem pairL_zip (xs ys : List Val) : pairL xs ys = (List.zip xs ys).map fun q => .tup [q.1, q.2] := by
  unfold pairL
  induction xs generalizing ys with
  | nil => rfl
  | cons x xs ih =>
    cases ys with
    | nil => rfl
    | cons y ys => simp only [List.zipWith_cons_cons, List.zip_cons_cons, List.map_cons, ih]
theorem run_places_in : ∀ (D L : Nat) (v : Val) (st : Sto) (d : Nat) (p s : Int), D ≤ 5 → D + 25 ≤ L → gd d v = true → d ≤ 60 → fm D v = some (p, s) → run T.fns L i_places_in [v] st = .ok (.loc st.length) (st ++ [.lst ((plc D v).map .tup)])
  | 0, L, v, st, d, p, s, hD, hL, hg, hd, hf => by cases hf
  | D + 1, L + 1, v, st, d, p, s, hD, hL, hg, hd, hf => by
    obtain ⟨L, rfl⟩ : ∃ L', L = L' + 20 := ⟨L - 20, by omega⟩
    rw [run_succ (fn := d_places_in.fn) rfl rfl]
    show endOf st (evS (run T.fns (L + 20)) b_places_in [some v, none, none, none, none, none] st) = _
    have plen := plc_len hf
    have pm := okM_fm _ _ _ _ hf
    have pb := plcs_blw (D + 1) v st.length
    rcases fm_cases hf with ⟨n, rfl, h1, h2, rfl, rfl⟩ | ⟨ks, rfl, h1, h2, al, rfl, rfl⟩ | ⟨a, b, q1, s1, q2, s2, rfl, ha, hb, h64, rfl, rfl⟩
    · rw [plc_lot h1 h2]
      have := endOf_loc st [.lst [.tup []]] st.length [.tup []] (Nat.le_refl _) (by simp) rfl
      simp only [b_places_in, evS, evE, evL, evB, evI, iterR]
      simp [this]
    · rw [plc_row h1 h2] at plen pb ⊢
      obtain ⟨e, rfl, hk⟩ := gd_row hg
      have eq : ((List.zip (rangeL 0 ks.length) ks).map fun q => Val.tup [q.1, q.2]).flatMap (fun u => match u with
          | .tup [i, k] => (plc D k).map fun pl => .tup (i :: pl)
          | _ => []) = ((List.zip (rangeL 0 ks.length) ks).flatMap fun q => (plc D q.2).map (q.1 :: ·)).map Val.tup := by
        rw [List.flatMap_map, List.map_flatMap]
        congr 1
        funext q
        rw [List.map_map]
        rfl
      obtain ⟨g, lc⟩ := lc2_ok (C := run T.fns (L + 20)) (elt := e_places_in_1) (it := .cons (.idx (.v 0) (.c (.int 1))) .nil) (it1 := j_places_in_1) (own := [4, 5, 3]) (tg := [4, 5]) (own1 := [3]) (tg1 := [3]) (one := false) (one1 := true) (ib := some .enum) (ib1 := none)
        (env := [some (.tup [.str s_row, .tup ks]), none, none, none, none, none]) (st := st) (st1 := st) (xs := (List.zip (rangeL 0 ks.length) ks).map fun q => Val.tup [q.1, q.2]) (w := []) (fun u => match u with
          | .tup [i, k] => (plc D k).map fun pl => .tup (i :: pl)
          | _ => [])
        (by
          simp only [iterR, evE, evL]
          simp [iterV, pairL_zip])
        rfl
        (by
          intro x hx g
          obtain ⟨q, hq, rfl⟩ := List.mem_map.mp hx
          obtain ⟨⟨i, hi, qi⟩, qk⟩ := zip_range ks q hq
          obtain ⟨q0, u⟩ := q
          simp only at qi qk
          subst qi
          have r := run_places_in D (L + 20) u (st ++ g) e _ _ (by omega) (by omega) (hk u qk) (by omega) (some_getD (al u qk))
          refine ⟨[some (.tup [.str s_row, .tup ks]), none, none, none, some (.int i), some u], rfl, (plc D u).map .tup, [((st ++ g).length, (plc D u).map .tup)], (fun y => match y with
            | .tup pl => .tup (.int i :: pl)
            | y => y), [.lst ((plc D u).map .tup)], ?_, ?_, ?_, ?_⟩
          · simp only [iterR, j_places_in_1, evE, evL]
            simp [r, itemsOf]
          · simp [wOk]
          · intro y hy
            obtain ⟨pl, hpl, rfl⟩ := List.mem_map.mp hy
            have := plc_mem hpl
            refine ⟨_, rfl, ?_⟩
            simp only [e_places_in_1, evE, evL]
            simp [setN, wipeV, seqOf]
            omega
          · simp only [List.map_map]
            rfl)
        (by rw [eq, List.length_map]; omega)
      rw [eq] at lc
      have en := endOf_loc st (g ++ [.lst (((List.zip (rangeL 0 ks.length) ks).flatMap fun q => (plc D q.2).map (q.1 :: ·)).map Val.tup)]) (st ++ g).length _ (by simp) (by rw [← List.append_assoc]; simp) pb
      rw [← List.append_assoc] at en
      rw [b_places_in, iff_no_seq (st1 := st) (by simp only [evE, evL]; simp), iff_no_seq (st1 := st) (by simp only [evE, evL]; simp), ret_seq lc]
      exact en
    · rw [plc_fun] at plen pb ⊢
      obtain ⟨e, rfl, ga, gb⟩ := gd_fun hg
      have r := run_places_in D (L + 20) b st e _ _ (by omega) (by omega) gb (by omega) hb
      have a3 := (okM_fm D a _ _ ha).2.2.1
      have vz := rows_size ha
      have rv := run_values_in D (L + 19) a (st ++ [.lst ((plc D b).map .tup)]) e q1 s1 (by omega) (by omega) ga (by omega) ha (by rw [← vals_len]; omega)
      have eq : (vals D a).flatMap (fun x => (plc D b).map fun pl => Val.tup (x :: pl)) = ((vals D a).flatMap fun x => (plc D b).map (x :: ·)).map Val.tup := by
        rw [List.map_flatMap]
        congr 1
        funext q
        rw [List.map_map]
        rfl
      obtain ⟨g, lc⟩ := lc2_ok (C := run T.fns (L + 20)) (elt := e_places_in_0) (it := .call i_values_in (.cons (.idx (.v 0) (.c (.int 1))) .nil)) (it1 := j_places_in_0) (own := [2, 3]) (tg := [2]) (own1 := [3]) (tg1 := [3]) (one := true) (one1 := true) (ib := none) (ib1 := none)
        (env := [some (.tup [.str s_fun, a, b]), some (.loc st.length), none, none, none, none]) (st := st ++ [.lst ((plc D b).map .tup)]) (st1 := st ++ [.lst ((plc D b).map .tup), .lst (vals D a)]) (xs := vals D a) (w := [(st.length + 1, vals D a)]) (fun x => (plc D b).map fun pl => .tup (x :: pl))
        (by
          have rv' : run T.fns (L + 20) i_values_in [a] (st ++ [.lst ((plc D b).map .tup)]) = .ok (.loc (st.length + 1)) (st ++ [.lst ((plc D b).map .tup), .lst (vals D a)]) := by
            rw [rv]
            simp
          have im : itemsOf (st ++ [.lst ((plc D b).map .tup), .lst (vals D a)]) (.loc (st.length + 1)) = some (vals D a, [(st.length + 1, vals D a)]) := by
            simp only [itemsOf, at_end]
            rfl
          simp only [iterR, evE, evL]
          simp [rv', im])
        (by simp only [wOk, List.all_cons, List.all_nil, at_end]; simp)
        (by
          intro x hx g
          have im : itemsOf (st ++ [.lst ((plc D b).map .tup), .lst (vals D a)] ++ g) (.loc st.length) = some ((plc D b).map .tup, [(st.length, (plc D b).map .tup)]) := by
            rw [List.append_assoc]
            simp [itemsOf]
          refine ⟨[some (.tup [.str s_fun, a, b]), some (.loc st.length), some x, none, none, none], rfl, (plc D b).map .tup, [(st.length, (plc D b).map .tup)], (fun y => match y with
            | .tup pl => .tup (x :: pl)
            | y => y), [], ?_, ?_, ?_, ?_⟩
          · simp only [iterR, j_places_in_0, evE, evL, List.append_nil]
            simp only [List.getElem?_cons_succ, List.getElem?_cons_zero, Res.bind_ok, im, liftO_some]
          · rw [List.append_assoc]
            simp [wOk]
          · intro y hy
            obtain ⟨pl, hpl, rfl⟩ := List.mem_map.mp hy
            have := plc_mem hpl
            refine ⟨_, rfl, ?_⟩
            simp only [e_places_in_0, evE, evL]
            simp [setN, wipeV, seqOf]
            omega
          · simp only [List.map_map]
            rfl)
        (by rw [eq, List.length_map]; omega)
      rw [eq] at lc
      have en := endOf_loc st ([Cell.lst ((plc D b).map .tup), Cell.lst (vals D a)] ++ g ++ [.lst (((vals D a).flatMap fun x => (plc D b).map (x :: ·)).map Val.tup)]) (st ++ [Cell.lst ((plc D b).map .tup), Cell.lst (vals D a)] ++ g).length _ (by simp) (by rw [← List.append_assoc, ← List.append_assoc]; simp) pb
      rw [← List.append_assoc, ← List.append_assoc] at en
      rw [b_places_in, iff_no_seq (st1 := st) (by simp only [evE, evL]; simp)]
      rw [iff_yes_seq (st1 := st) (v := .loc (st ++ [Cell.lst ((plc D b).map .tup), Cell.lst (vals D a)] ++ g).length) (st2 := st ++ [.lst ((plc D b).map .tup), .lst (vals D a)] ++ g ++ [.lst (((vals D a).flatMap fun x => (plc D b).map (x :: ·)).map Val.tup)]) (by simp only [evE, evL]; simp) (by
        rw [set_seq (v := .loc st.length) (st1 := st ++ [.lst ((plc D b).map .tup)]) (by simp only [evE, evL]; simp [r])]
        exact ret_seq lc)]
      exact en
end TT.K02
set_option linter.all false
set_option maxHeartbeats 1000000
set_option maxRecDepth 100000
namespace TT.K02
open PySem L2
/-- one more place's worth of found -/
theorem lp_ext (L D : Nat) (u x : Val) (st g : Sto) (acc : List Val) (P : List (List Val)) (hP : ∀ pl ∈ P, pl.length ≤ 10) (hz : acc.length + P.length ≤ 1000) (C : CallF) (elt : E) (it : E) (env : VEnv) (tg : Nat)
    (hr : evE C it env (st ++ (.lst acc :: g)) = .ok (.loc (st ++ (.lst acc :: g)).length) (st ++ (.lst acc :: g) ++ [.lst (P.map .tup)]))
    (he : ∀ pl st, pl.length ≤ 10 → evE C elt (setN tg (.tup pl) (wipeV env [5])) st = .ok (.tup (x :: pl)) st) (h1 : env[1]? = some (some (.loc st.length))) :
    evE C (.ext (.v 1) (.lc elt [5] [tg] true none it .nil)) env (st ++ (.lst acc :: g)) = .ok .non (st ++ (.lst (acc ++ (P.map (x :: ·)).map .tup) :: (g ++ [.lst (P.map .tup), .lst ((P.map (x :: ·)).map .tup)]))) := by
  have il : isL (.loc st.length) (st ++ (.lst acc :: g)) = true := by simp [isL]
  have lc := fun c => lcLoop_mapW (w := [((st ++ (.lst acc :: g)).length, P.map .tup)]) (tg := [tg]) (one := true) (c := c) (elt := evE C elt) (env := wipeV env [5]) (st := st ++ (.lst acc :: g) ++ [.lst (P.map .tup)]) (fun y => match y with
    | .tup pl => .tup (x :: pl)
    | y => y) (by simp [wOk]) (P.map .tup) (fun y hy => by
      obtain ⟨pl, hpl, rfl⟩ := List.mem_map.mp hy
      exact ⟨_, rfl, he pl _ (hP pl hpl)⟩)
  have mm : (P.map Val.tup).map (fun y => match y with
    | .tup pl => .tup (x :: pl)
    | y => y) = (P.map (x :: ·)).map Val.tup := by
    rw [List.map_map, List.map_map]
    rfl
  rw [mm] at lc
  have im : itemsOf (st ++ (.lst acc :: g) ++ [.lst (P.map .tup)]) (.loc (st ++ (.lst acc :: g)).length) = some (P.map .tup, [((st ++ (.lst acc :: g)).length, P.map .tup)]) := by simp [itemsOf]
  have ex := ext_last (st := st) (g := g ++ [Cell.lst (P.map .tup), Cell.lst ((P.map (x :: ·)).map .tup)]) (a := acc) (b := (P.map (x :: ·)).map .tup) (m := (st ++ (Cell.lst acc :: g) ++ [Cell.lst (P.map .tup)]).length) (by
    rw [← List.cons_append, show (Cell.lst acc :: g) ++ [Cell.lst (P.map .tup), Cell.lst ((P.map (x :: ·)).map .tup)] = ((Cell.lst acc :: g) ++ [Cell.lst (P.map .tup)]) ++ [Cell.lst ((P.map (x :: ·)).map .tup)] by simp, ← List.append_assoc, ← List.append_assoc]
    simp) (by simp only [List.length_map]; omega)
  simp only [evE, h1, Res.bind_ok, il, if_true, iterR, hr, im, liftO_some, isNil_nil, lc, alloc_ok]
  rw [show st ++ (Cell.lst acc :: g) ++ [Cell.lst (P.map .tup)] ++ [Cell.lst ((P.map (x :: ·)).map .tup)] = st ++ (Cell.lst acc :: (g ++ [Cell.lst (P.map .tup), Cell.lst ((P.map (x :: ·)).map .tup)])) by simp]
  exact ex
theorem run_law_places : ∀ (D L : Nat) (v : Val) (st : Sto) (d : Nat) (p s : Int), D ≤ 5 → D + 15 ≤ L → gd d v = true → d ≤ 60 → fm D v = some (p, s) → run T.fns L i__law_places [v] st = .ok (.loc st.length) (st ++ [.lst ((plc D v).map .tup)])
  | 0, L, v, st, d, p, s, hD, hL, hg, hd, hf => by cases hf
  | D + 1, L + 1, v, st, d, p, s, hD, hL, hg, hd, hf => by
    rw [run_succ (fn := d__law_places.fn) rfl rfl]
    show endOf st (evS (run T.fns L) b__law_places [some v, none, none, none, none, none] st) = _
    have plen := plc_len hf
    have pm := okM_fm _ _ _ _ hf
    have pb := plcs_blw (D + 1) v st.length
    rcases fm_cases hf with ⟨n, rfl, h1, h2, rfl, rfl⟩ | ⟨ks, rfl, h1, h2, al, rfl, rfl⟩ | ⟨a, b, q1, s1, q2, s2, rfl, ha, hb, h64, rfl, rfl⟩
    · rw [plc_lot h1 h2]
      have := endOf_loc st [.lst [.tup []]] st.length [.tup []] (Nat.le_refl _) (by simp) rfl
      simp only [b__law_places, evS, evE, evL, evB, evI, iterR]
      simp [this]
    · rw [plc_row h1 h2] at plen pb ⊢
      obtain ⟨e, rfl, hk⟩ := gd_row hg
      obtain ⟨env1, st1, e1, g, acc, x2, x3, x4, x5, rest, ⟨rnil, hm⟩, hacc, rfl, rfl⟩ := forLoop_rest (w := []) (tg := [2, 3]) (one := false) (body := evS (run T.fns L) l__law_places_0)
        (fun rest env st' => ∃ (g : Sto) (acc : List (List Val)) (x2 x3 x4 x5 : Option Val) (rs : List (Val × Val)), (rest = rs.map (fun q => .tup [q.1, q.2]) ∧ ∀ q ∈ rs, q ∈ List.zip (rangeL 0 ks.length) ks) ∧ acc ++ (rs.flatMap fun q => (plc D q.2).map (q.1 :: ·)) = ((List.zip (rangeL 0 ks.length) ks).flatMap fun q => (plc D q.2).map (q.1 :: ·)) ∧
          env = [some (.tup [.str s_row, .tup ks]), some (.loc st.length), x2, x3, x4, x5] ∧ st' = st ++ (.lst (acc.map .tup) :: g))
        (fun _ _ _ _ => rfl)
        (by
          rintro w rest env st' ⟨g, acc, x2, x3, x4, x5, rs, ⟨hr, hm⟩, hacc, rfl, rfl⟩
          cases rs with
          | nil => cases hr
          | cons q rs =>
            obtain ⟨q0, u⟩ := q
            simp only [List.map_cons, List.cons.injEq] at hr
            obtain ⟨rfl, rfl⟩ := hr
            obtain ⟨⟨i, hi, qi⟩, qk⟩ := zip_range ks (q0, u) (hm _ List.mem_cons_self)
            simp only at qi qk
            subst qi
            have r := run_law_places D L u (st ++ (.lst (acc.map .tup) :: g)) e _ _ (by omega) (by omega) (hk u qk) (by omega) (some_getD (al u qk))
            have tl : acc.length + (plc D u).length ≤ 1000 := by
              have := congrArg List.length hacc
              simp only [List.flatMap_cons, List.length_append, List.length_map] at this
              omega
            have lx := lp_ext L D u (.int i) st g (acc.map .tup) (plc D u) (fun pl h => by have := plc_mem h; omega) (by simpa using tl) (run T.fns L) e__law_places_1 (.call i__law_places (.cons (.v 3) .nil)) [some (.tup [.str s_row, .tup ks]), some (.loc st.length), some (.int i), some u, x4, x5] 5
              (by simp only [evE, evL]; simp only [List.getElem?_cons_succ, List.getElem?_cons_zero, Res.bind_ok, r])
              (fun pl st h => by
                have ad : ∀ st, binV .Add (.tup [.int i]) (.tup pl) st = .ok (.tup (.int i :: pl)) st := fun st => by
                  simp only [binV]
                  rw [if_pos (by rw [sizeLine_eq]; simp only [List.length_cons, List.length_nil]; omega)]
                  rfl
                simp only [e__law_places_1, evE, evL]
                simp [setN, wipeV, ad]) rfl
            refine ⟨_, [some (.tup [.str s_row, .tup ks]), some (.loc st.length), some (.int i), some u, x4, x5], st ++ (.lst ((acc ++ (plc D u).map (.int i :: ·)).map .tup) :: (g ++ [.lst ((plc D u).map .tup), .lst (((plc D u).map (.int i :: ·)).map .tup)])), rfl, ?_, _, acc ++ (plc D u).map (.int i :: ·), some (.int i), some u, x4, x5, rs, ⟨rfl, fun y hy => hm y (List.mem_cons_of_mem _ hy)⟩, ?_, rfl, rfl⟩
            · simp only [l__law_places_0, evS]
              simp only [setN, List.set_cons_succ, List.set_cons_zero] at lx ⊢
              rw [lx]
              simp
            · rw [← hacc]
              simp)
        ((List.zip (rangeL 0 ks.length) ks).map fun q => .tup [q.1, q.2]) [some (.tup [.str s_row, .tup ks]), some (.loc st.length), none, none, none, none] (st ++ [.lst []]) ⟨[], [], none, none, none, none, _, ⟨rfl, fun _ h => h⟩, rfl, rfl, rfl⟩
      have r0 : rest = [] := by
        cases rest with
        | nil => rfl
        | cons _ _ => cases rnil
      subst r0
      simp only [List.flatMap_nil, List.append_nil] at hacc
      subst hacc
      have en := endOf_loc st (.lst (((List.zip (rangeL 0 ks.length) ks).flatMap fun q => (plc D q.2).map (q.1 :: ·)).map .tup) :: g) st.length _ (Nat.le_refl _) (by simp) pb
      have it : iterV .enum [.tup ks] (st ++ [.lst []]) = .ok ((List.zip (rangeL 0 ks.length) ks).map (fun q => .tup [q.1, q.2]), []) (st ++ [.lst []]) := by
        simp [iterV, pairL_zip]
      simp only [b__law_places, evS, evE, evL, evB, evI, iterR]
      simp only [List.getElem?_cons_zero, List.getElem?_cons_succ, Res.bind_ok, idx0, idx1, idx2, cmp_rl, cmp_rr, truthR_b, Res.fl_ok, Bool.false_eq_true, if_false, if_true, List.length_nil, sizeLine_eq, Nat.zero_le, alloc_ok, setN, List.set_cons_succ, List.set_cons_zero, it, e1, en]
    · rw [plc_fun] at plen pb ⊢
      obtain ⟨e, rfl, ga, gb⟩ := gd_fun hg
      have a3 := (okM_fm D a _ _ ha).2.2.1
      have b3 := okM_fm D b _ _ hb
      have rv := run_law_values D L a (st ++ [.lst []]) e q1 s1 (by omega) (by omega) ga (by omega) ha (by omega)
      have vz := rows_size ha
      have pz := plc_len hb
      obtain ⟨env1, st1, e1, g, acc, rest, x2, x3, x4, x5, ⟨rnil, hv⟩, hacc, rfl, rfl⟩ := forLoop_rest (w := [(st.length + 1, vals D a)]) (tg := [4]) (one := true) (body := evS (run T.fns L) l__law_places_2)
        (fun rest env st' => ∃ (g : Sto) (acc : List (List Val)) (rs : List Val) (x2 x3 x4 x5 : Option Val), (rest = rs ∧ st'[st.length + 1]? = some (.lst (vals D a))) ∧ acc ++ (rs.flatMap fun x => (plc D b).map (x :: ·)) = ((vals D a).flatMap fun x => (plc D b).map (x :: ·)) ∧
          env = [some (.tup [.str s_fun, a, b]), some (.loc st.length), x2, x3, x4, x5] ∧ st' = st ++ (.lst (acc.map .tup) :: .lst (vals D a) :: g))
        (by
          rintro _ _ _ ⟨g, acc, rs, x2, x3, x4, x5, ⟨_, hv⟩, _, _, _⟩
          simp only [wOk, List.all_cons, List.all_nil, hv]
          simp)
        (by
          rintro x rest env st' ⟨g, acc, rs, x2, x3, x4, x5, ⟨rfl, hv⟩, hacc, rfl, rfl⟩
          have r := run_law_places D L b (st ++ (.lst (acc.map .tup) :: .lst (vals D a) :: g)) e _ _ (by omega) (by omega) gb (by omega) hb
          have tl : acc.length + (plc D b).length ≤ 1000 := by
            have := congrArg List.length hacc
            simp only [List.flatMap_cons, List.length_append, List.length_map] at this
            omega
          have lx := lp_ext L D b x st (.lst (vals D a) :: g) (acc.map .tup) (plc D b) (fun pl h => by have := plc_mem h; omega) (by simpa using tl) (run T.fns L) e__law_places_3 (.call i__law_places (.cons (.idx (.v 0) (.c (.int 2))) .nil)) [some (.tup [.str s_fun, a, b]), some (.loc st.length), x2, x3, some x, x5] 5
            (by simp only [evE, evL]; simp only [List.getElem?_cons_succ, List.getElem?_cons_zero, Res.bind_ok, idx2, r])
            (fun pl st h => by
              have ad : ∀ st, binV .Add (.tup [x]) (.tup pl) st = .ok (.tup (x :: pl)) st := fun st => by
                simp only [binV]
                rw [if_pos (by rw [sizeLine_eq]; simp only [List.length_cons, List.length_nil]; omega)]
                rfl
              simp only [e__law_places_3, evE, evL]
              simp [setN, wipeV, ad]) rfl
          refine ⟨_, [some (.tup [.str s_fun, a, b]), some (.loc st.length), x2, x3, some x, x5], st ++ (.lst ((acc ++ (plc D b).map (x :: ·)).map .tup) :: .lst (vals D a) :: (g ++ [.lst ((plc D b).map .tup), .lst (((plc D b).map (x :: ·)).map .tup)])), rfl, ?_, _, acc ++ (plc D b).map (x :: ·), rest, x2, x3, some x, x5, ⟨rfl, by rw [at_end]; rfl⟩, ?_, rfl, rfl⟩
          · simp only [l__law_places_2, evS]
            simp only [setN, List.set_cons_succ, List.set_cons_zero, List.cons_append] at lx ⊢
            rw [lx]
            simp
          · rw [← hacc]
            simp)
        (vals D a) [some (.tup [.str s_fun, a, b]), some (.loc st.length), none, none, none, none] (st ++ [.lst [], .lst (vals D a)]) ⟨[], [], _, none, none, none, none, ⟨rfl, by rw [at_end]; rfl⟩, rfl, rfl, rfl⟩
      subst rnil
      simp only [List.flatMap_nil, List.append_nil] at hacc
      subst hacc
      have en := endOf_loc st (.lst (((vals D a).flatMap fun x => (plc D b).map (x :: ·)).map .tup) :: .lst (vals D a) :: g) st.length _ (Nat.le_refl _) (by simp) pb
      have rv' : run T.fns L i__law_values [a] (st ++ [.lst []]) = .ok (.loc (st.length + 1)) (st ++ [.lst [], .lst (vals D a)]) := by
        rw [rv]
        simp
      have im : itemsOf (st ++ [.lst [], .lst (vals D a)]) (.loc (st.length + 1)) = some (vals D a, [(st.length + 1, vals D a)]) := by
        simp only [itemsOf, at_end]
        rfl
      simp only [b__law_places, evS, evE, evL, evB, evI, iterR]
      simp only [List.getElem?_cons_zero, List.getElem?_cons_succ, Res.bind_ok, idx0, idx1, idx2, cmp_fl, cmp_fr, truthR_b, Res.fl_ok, Bool.false_eq_true, if_false, if_true, List.length_nil, sizeLine_eq, Nat.zero_le, alloc_ok, setN, List.set_cons_succ, List.set_cons_zero, rv', im, liftO_some, e1, en]
end TT.K02
set_option linter.all false
set_option maxHeartbeats 1000000
set_option maxRecDepth 100000
namespace TT.K02
open PySem L2
/-! ### any value -/
theorem okT_flst (st : Sto) (is : List Int) : okT st (.flst is) := ⟨_, rfl, rfl, rfl, fun h => by simp [isInt] at h, fun h => by simp at h⟩
theorem okT_blw {st : Sto} {v : Val} (h : v.blw st.length = true) : okT st v := by
  cases v with
  | non => exact okT_non st
  | bl b => exact okT_bl st b
  | int i => exact okT_int st i
  | str s => exact okT_str st s
  | tup vs => exact okT_tup st vs
  | flst is => exact okT_flst st is
  | loc n => exact okT_loc st n (by simpa [Val.blw] using h)
mutual
theorem blw_mono : ∀ {v : Val} {n m : Nat}, v.blw n = true → n ≤ m → v.blw m = true
  | .non, _, _, _, _ => rfl
  | .bl _, _, _, _, _ => rfl
  | .int _, _, _, _, _ => rfl
  | .str _, _, _, _, _ => rfl
  | .flst _, _, _, _, _ => rfl
  | .loc k, n, m, h, g => by simp only [Val.blw, decide_eq_true_eq] at *; omega
  | .tup vs, n, m, h, g => by simp only [Val.blw] at *; exact blws_mono h g
theorem blws_mono : ∀ {vs : List Val} {n m : Nat}, Vals.blw n vs = true → n ≤ m → Vals.blw m vs = true
  | [], _, _, _, _ => rfl
  | v :: vs, n, m, h, g => by
    simp only [Vals.blw, Bool.and_eq_true] at *
    exact ⟨blw_mono h.1 g, blws_mono h.2 g⟩
end
theorem blws_mem {n : Nat} : ∀ {vs : List Val}, Vals.blw n vs = true → ∀ v ∈ vs, v.blw n = true
  | [], _, v, h => by cases h
  | u :: vs, h, v, hv => by
    simp only [Vals.blw, Bool.and_eq_true] at h
    rcases List.mem_cons.mp hv with rfl | hv
    · exact h.1
    · exact blws_mem h.2 v hv
/-- whether any value is one of a kind -/
def isV : Nat → Val → Val → Bool
  | 0, _, _ => false
  | D + 1, v, x => match lotN v with
    | some n => inB 0 (n - 1) x
    | none => match x with
      | .tup xs => (xs.length == (memb D v).length) && (List.zip (memb D v) xs).all fun q => isV D q.1 q.2
      | _ => false
theorem isv_loop (C : CallF) (w : Watch) (G : Sto) (hw : wOk w G = true) (f : Val → Val → Bool) (e0 e1 e2 : Option Val) : ∀ (rs : List (Val × Val)), (∀ q ∈ rs, C i_is_value_in [q.1, q.2] G = .ok (.bl (f q.1 q.2)) G) → ∀ x3 x4, ∃ y3 y4,
    forLoop w [3, 4] false (evS C l_is_value_in_0) (rs.map fun q => .tup [q.1, q.2]) [e0, e1, e2, x3, x4] G = if (rs.all fun q => f q.1 q.2) = true then .nx [e0, e1, e2, y3, y4] G else .rt (.bl false) G
  | [], _, x3, x4 => ⟨x3, x4, by simp [forLoop_nil hw]⟩
  | q :: rs, h, x3, x4 => by
    have r := h q List.mem_cons_self
    obtain ⟨y3, y4, ih⟩ := isv_loop C w G hw f e0 e1 e2 rs (fun u hu => h u (List.mem_cons_of_mem _ hu)) (some q.1) (some q.2)
    refine ⟨y3, y4, ?_⟩
    rw [List.map_cons]
    cases b : f q.1 q.2 with
    | true =>
      rw [forLoop_cons (env' := [e0, e1, e2, some q.1, some q.2]) (env1 := [e0, e1, e2, some q.1, some q.2]) (st1 := G) hw rfl (by
        simp only [l_is_value_in_0, evS, evE, evL, evB]
        simp [r, b]), ih, List.all_cons, b, Bool.true_and]
    | false =>
      rw [forLoop_out (env' := [e0, e1, e2, some q.1, some q.2]) (u := .bl false) (st1 := G) hw rfl (by
        simp only [l_is_value_in_0, evS, evE, evL, evB]
        simp [r, b])]
      simp [b]
theorem run_is_value_in : ∀ (D L : Nat) (v x : Val) (st : Sto) (d : Nat) (p s : Int), D ≤ 5 → D + 20 ≤ L → gd d v = true → d ≤ 60 → fm D v = some (p, s) → x.blw st.length = true → run T.fns L i_is_value_in [v, x] st = .ok (.bl (isV D v x)) st
  | 0, L, v, x, st, d, p, s, hD, hL, hg, hd, hf, hx => by cases hf
  | D + 1, L + 1, v, x, st, d, p, s, hD, hL, hg, hd, hf, hx => by
    obtain ⟨L, rfl⟩ : ∃ L', L = L' + 15 := ⟨L - 15, by omega⟩
    rw [run_succ (fn := d_is_value_in.fn) rfl rfl]
    show endOf st (evS (run T.fns (L + 15)) b_is_value_in [some v, some x, none, none, none] st) = _
    have fin : ∀ (h : Sto) (q : Nat) (lv : lotN v = none), (st ++ h)[q]? = some (Cell.lst (memb D v)) →
        endOf st (evS (run T.fns (L + 15)) (.seq (.iff (.not (.call i_is_tuple_of (.cons (.v 1) (.cons (.bc .len (.cons (.v 2) .nil)) .nil))))
          (.seq (.ret (.c (.bl false))) (.skip)) (.skip))
          (.seq (.for [3, 4] false (some .zip) (.cons (.v 2) (.cons (.v 1) .nil)) l_is_value_in_0) (.seq (.ret (.c (.bl true))) (.skip)))) [some v, some x, some (.loc q), none, none] (st ++ h)) = .ok (.bl (isV (D + 1) v x)) st := by
      intro h q lv hq
      have hx' : x.blw (st ++ h).length = true := blw_mono hx (by simp)
      have it := run_is_tuple_of (L + 14) x (memb D v).length (st ++ h) (okT_blw hx')
      have ln : bltV .len [.loc q] (st ++ h) = .ok (.int (memb D v).length) (st ++ h) := by simp [bltV, seqOf, hq]
      have it' : run T.fns (L + 15) i_is_tuple_of [x, .int (memb D v).length] (st ++ h) = .ok (.bl (tupN (memb D v).length x)) (st ++ h) := it
      cases tb : tupN (memb D v).length x with
      | false =>
        have : isV (D + 1) v x = false := by
          simp only [isV, lv]
          cases x <;> first | rfl | skip
          rename_i xs
          simp only [tupN, beq_eq_false_iff_ne, ne_eq] at tb
          simp only [Bool.and_eq_false_iff, beq_eq_false_iff_ne, ne_eq]
          exact .inl (by omega)
        simp only [evS, evE, evL, evB]
        simp [ln, it', tb, this]
      | true =>
        cases x with
        | tup xs =>
          simp only [tupN, beq_iff_eq] at tb
          have e : isV (D + 1) v (.tup xs) = (List.zip (memb D v) xs).all fun q => isV D q.1 q.2 := by
            have : (xs.length == (memb D v).length) = true := by rw [beq_iff_eq]; omega
            simp only [isV, lv, this, Bool.true_and]
          have zi : iterV .zip [.loc q, .tup xs] (st ++ h) = .ok ((List.zip (memb D v) xs).map (fun q => .tup [q.1, q.2]), [(q, memb D v)]) (st ++ h) := by
            simp [iterV, itemsOf, hq, pairL_zip]
          obtain ⟨y3, y4, lp⟩ := isv_loop (run T.fns (L + 15)) [(q, memb D v)] (st ++ h) (by simp [wOk, hq]) (isV D) (some v) (some (.tup xs)) (some (.loc q)) (List.zip (memb D v) xs) (fun u hu => by
            obtain ⟨u1, u2⟩ := u
            obtain ⟨m1, m2⟩ := List.of_mem_zip hu
            obtain ⟨q', t, hf'⟩ := fm_memb hf u1 m1
            exact run_is_value_in D (L + 15) u1 u2 (st ++ h) d q' t (by omega) (by omega) (gd_memb hf hg u1 m1) hd hf' (blws_mem (by simpa [Val.blw] using hx') u2 m2)) none none
          have tb' : tupN (memb D v).length (.tup xs) = true := by simp only [tupN, beq_iff_eq]; omega
          rw [tb'] at it'
          rw [e]
          simp only [evS, evE, evL, evB, evI, iterR]
          simp only [List.getElem?_cons_succ, List.getElem?_cons_zero, Res.bind_ok, ln, it', truthR_b, Res.fl_ok, Bool.not_true, Bool.false_eq_true, if_false, zi, lp]
          cases b : (List.zip (memb D v) xs).all fun q => isV D q.1 q.2 <;> simp
        | _ => cases tb
    rcases fm_cases hf with ⟨n, rfl, h1, h2, rfl, rfl⟩ | ⟨ks, rfl, h1, h2, al, rfl, rfl⟩ | ⟨a, b, q1, s1, q2, s2, rfl, ha, hb, h64, rfl, rfl⟩
    · have hl : lotN (.tup [.str s_lot, .int s]) = some s := by simp [lotN]; omega
      have iw := run_is_within (L + 13) x 0 (s - 1) st (okT_blw hx)
      have e : isV (D + 1) (.tup [.str s_lot, .int s]) x = inB 0 (s - 1) x := by simp only [isV, hl]
      rw [e]
      simp only [b_is_value_in, evS, evE, evL, evB]
      simp [iw, endOf_same]
    · have hl : lotN (.tup [.str s_row, .tup ks]) = none := by simp [lotN]
      have me := memb_row (D := D) h1 h2
      have fi := fin [Cell.lst ks] st.length hl (by rw [me]; simp)
      have li : bltV .list [.tup ks] st = .ok (.loc st.length) (st ++ [Cell.lst ks]) := rfl
      rw [b_is_value_in, seq_nx (env1 := [some (.tup [.str s_row, .tup ks]), some x, none, none, none]) (st1 := st) (by
        simp only [evS, evE, evL, evB]
        simp), seq_nx (env1 := [some (.tup [.str s_row, .tup ks]), some x, some (.loc st.length), none, none]) (st1 := st ++ [Cell.lst ks]) (by
        simp only [evS, evE, evL, evB]
        simp [li, setN])]
      exact fi
    · have hl : lotN (.tup [.str s_fun, a, b]) = none := by simp [lotN]
      have me := memb_fun (D := D) (b := b) ha
      obtain ⟨e, rfl, ga, gb⟩ := gd_fun hg
      have a3 := (okM_fm D a _ _ ha).2.2.1
      have fi := fin [Cell.lst [b], Cell.lst (List.replicate s1.toNat b)] (st.length + 1) hl (by rw [me, at_end]; rfl)
      have sz := fun st => run_size_in L a st ga (by omega) (fm_mono ha (show D ≤ 5 by omega))
      have mu : binV .Mult (.loc st.length) (.int s1) (st ++ [Cell.lst [b]]) = .ok (.loc (st.length + 1)) (st ++ [Cell.lst [b], Cell.lst (List.replicate s1.toNat b)]) := by
        have ge : (st ++ [Cell.lst [b]])[st.length]? = some (Cell.lst [b]) := by simp
        have rp : repV [b] s1 = List.replicate s1.toNat b := by
          unfold repV
          generalize s1.toNat = k
          induction k with
          | zero => rfl
          | succ k ih => rw [List.replicate_succ, List.flatten_cons, ih, List.replicate_succ]; rfl
        simp only [binV, ge]
        rw [if_pos ⟨by omega, by omega, by rw [sizeLine_eq]; simp only [List.length_cons, List.length_nil]; omega⟩, rp]
        simp [alloc]
      rw [b_is_value_in, seq_nx (env1 := [some (.tup [.str s_fun, a, b]), some x, none, none, none]) (st1 := st) (by
        simp only [evS, evE, evL, evB]
        simp), seq_nx (env1 := [some (.tup [.str s_fun, a, b]), some x, some (.loc (st.length + 1)), none, none]) (st1 := st ++ [Cell.lst [b], Cell.lst (List.replicate s1.toNat b)]) (by
        simp only [evS, evE, evL, evB]
        simp [sz, mu, setN])]
      exact fi
theorem run_law_is_value : ∀ (D L : Nat) (v x : Val) (st : Sto) (d : Nat) (p s : Int), D ≤ 5 → D + 10 ≤ L → gd d v = true → d ≤ 60 → fm D v = some (p, s) → x.blw st.length = true → run T.fns L i__law_is_value [v, x] st = .ok (.bl (isV D v x)) st
  | 0, L, v, x, st, d, p, s, hD, hL, hg, hd, hf, hx => by cases hf
  | D + 1, L + 1, v, x, st, d, p, s, hD, hL, hg, hd, hf, hx => by
    obtain ⟨L, rfl⟩ : ∃ L', L = L' + 1 := ⟨L - 1, by omega⟩
    rw [run_succ (fn := d__law_is_value.fn) rfl rfl]
    show endOf st (evS (run T.fns (L + 1)) b__law_is_value [some v, some x, none, none, none] st) = _
    cases hl : lotN v with
    | some n =>
      obtain ⟨rfl, n1, n2⟩ := lotN_eq hl
      have e : isV (D + 1) (.tup [.str s_lot, .int n]) x = inB 0 (n - 1) x := by simp only [isV, hl]
      rw [e]
      simp only [b__law_is_value, evS, evE, evL, evB, isiR_def]
      have o := okT_blw hx
      have i1 := isi_int st o
      have i2 := isi_bool st o
      cases x with
      | int i =>
        simp [isInt, isBl] at i1 i2
        by_cases q : 0 ≤ i
        · have : decide (i ≤ n - 1) = decide (i < n) := by rw [decide_eq_decide]; omega
          simp [i1, i2, q, inB, this, endOf_same]
        · simp [i1, i2, q, inB, endOf_same]
      | bl b =>
        simp [isInt, isBl] at i1 i2
        simp [i1, i2, inB, endOf_same]
      | _ =>
        simp [isInt, isBl] at i1 i2
        simp [i1, i2, inB, endOf_same]
    | none =>
      have ml := run_law_members D L v st d p s (by omega) (by omega) hg hd hf hl
      have c0 : ∀ st, ∃ y, idxV v (.int 0) st = .ok y st ∧ cmpR .Eq y (.str s_lot) st = .ok (.bl false) st := by
        intro st
        rcases fm_cases hf with ⟨k, rfl, h1, h2, rfl, rfl⟩ | ⟨ks, rfl, h1, h2, al, rfl, rfl⟩ | ⟨a, b, q1, s1, q2, s2, rfl, ha, hb, h64, rfl, rfl⟩
        · exfalso
          have : lotN (.tup [.str s_lot, .int s]) = some s := by simp [lotN]; omega
          rw [this] at hl
          cases hl
        · exact ⟨_, idx0 _ _ _, by simp⟩
        · exact ⟨_, idx0 _ _ _, by simp⟩
      obtain ⟨y, c1, c2⟩ := c0 st
      have hx' : x.blw (st ++ [Cell.lst (memb D v)]).length = true := blw_mono hx (by simp)
      have i3 := isi_tup (st ++ [Cell.lst (memb D v)]) (okT_blw hx')
      have ln : bltV .len [.loc st.length] (st ++ [Cell.lst (memb D v)]) = .ok (.int (memb D v).length) (st ++ [Cell.lst (memb D v)]) := by simp [bltV, seqOf]
      have ef : isTup x = false → isV (D + 1) v x = false := by
        intro h
        cases x with
        | tup vs => simp [isTup] at h
        | _ => simp only [isV, hl]
      cases x with
      | tup xs =>
        simp [isTup] at i3
        by_cases q : xs.length = (memb D v).length
        · have e : isV (D + 1) v (.tup xs) = (List.zip (memb D v) xs).all fun q => isV D q.1 q.2 := by
            have : (xs.length == (memb D v).length) = true := by rw [beq_iff_eq]; omega
            simp only [isV, hl, this, Bool.true_and]
          have zi : iterV .zip [.loc st.length, .tup xs] (st ++ [Cell.lst (memb D v)]) = .ok ((List.zip (memb D v) xs).map (fun q => .tup [q.1, q.2]), [(st.length, memb D v)]) (st ++ [Cell.lst (memb D v)]) := by
            simp [iterV, itemsOf, pairL_zip]
          have lc := fun c => lcLoop_mapW (w := [(st.length, memb D v)]) (tg := [3, 4]) (one := false) (c := c) (elt := evE (run T.fns (L + 1)) e__law_is_value_0) (env := wipeV [some v, some (.tup xs), some (.loc st.length), none, none] [3, 4]) (st := st ++ [Cell.lst (memb D v)]) (fun u => match u with
            | .tup [a, b] => .bl (isV D a b)
            | u => u) (by simp [wOk]) ((List.zip (memb D v) xs).map fun q => .tup [q.1, q.2]) (fun u hu => by
              obtain ⟨⟨u1, u2⟩, hu', rfl⟩ := List.mem_map.mp hu
              obtain ⟨m1, m2⟩ := List.of_mem_zip hu'
              obtain ⟨q', t, hf'⟩ := fm_memb hf u1 m1
              have r := run_law_is_value D (L + 1) u1 u2 (st ++ [Cell.lst (memb D v)]) d q' t (by omega) (by omega) (gd_memb hf hg u1 m1) hd hf' (blws_mem (by simpa [Val.blw] using hx') u2 m2)
              refine ⟨_, rfl, ?_⟩
              simp only [e__law_is_value_0, evE, evL]
              simp [wipeV, setN, r])
          have mm : ((List.zip (memb D v) xs).map fun q => Val.tup [q.1, q.2]).map (fun u => match u with
            | .tup [a, b] => .bl (isV D a b)
            | u => u) = ((List.zip (memb D v) xs).map fun q => isV D q.1 q.2).map Val.bl := by
            rw [List.map_map, List.map_map]
            rfl
          rw [mm] at lc
          have al := all_last (st ++ [Cell.lst (memb D v)]) ((List.zip (memb D v) xs).map fun q => isV D q.1 q.2)
          have en := endOf_gB st ([Cell.lst (memb D v)] ++ [Cell.lst (((List.zip (memb D v) xs).map fun q => isV D q.1 q.2).map Val.bl)]) (((List.zip (memb D v) xs).map fun q => isV D q.1 q.2).all id)
          rw [← List.append_assoc] at en
          have ne : cmpR .NotEq (.int xs.length) (.int (memb D v).length) (st ++ [Cell.lst (memb D v)]) = .ok (.bl false) (st ++ [Cell.lst (memb D v)]) := by simp [q]
          rw [e]
          simp only [b__law_is_value, evS, evE, evL, evB, iterR, isiR_def]
          simp only [List.getElem?_cons_succ, List.getElem?_cons_zero, Res.bind_ok, c1, c2, truthR_b, Res.fl_ok, Bool.false_eq_true, if_false, setN, List.set_cons_succ, List.set_cons_zero, ml, i3, Bool.not_true, len_tup, ln, ne, zi, isNil_nil, lc, alloc_ok, al, en]
          simp [Function.comp_def]
        · have e : isV (D + 1) v (.tup xs) = false := by
            have : (xs.length == (memb D v).length) = false := by rw [beq_eq_false_iff_ne]; exact q
            simp only [isV, hl, this, Bool.false_and]
          have ne : cmpR .NotEq (.int xs.length) (.int (memb D v).length) (st ++ [Cell.lst (memb D v)]) = .ok (.bl true) (st ++ [Cell.lst (memb D v)]) := by
            simp only [cmpR_neI]
            have : ((xs.length : Int) == ((memb D v).length : Int)) = false := by rw [beq_eq_false_iff_ne]; omega
            rw [this]
            rfl
          rw [e]
          simp only [b__law_is_value, evS, evE, evL, evB, iterR, isiR_def]
          simp only [List.getElem?_cons_succ, List.getElem?_cons_zero, Res.bind_ok, c1, c2, truthR_b, Res.fl_ok, Bool.false_eq_true, if_false, setN, List.set_cons_succ, List.set_cons_zero, ml, i3, Bool.not_true, len_tup, ln, ne, if_true]
          simp
      | _ =>
        rw [ef rfl]
        simp [isTup] at i3
        simp only [b__law_is_value, evS, evE, evL, evB, iterR, isiR_def]
        simp [c1, c2, setN, ml, i3]
end TT.K02
set_option linter.all false
set_option maxHeartbeats 1000000
set_option maxRecDepth 100000
namespace TT.K02
open PySem L2
theorem memb_mono {D E : Nat} {v : Val} {p s : Int} (hf : fm (D + 1) v = some (p, s)) (h : D ≤ E) : memb E v = memb D v := by
  rcases fm_cases hf with ⟨n, rfl, h1, h2, rfl, rfl⟩ | ⟨ks, rfl, h1, h2, al, rfl, rfl⟩ | ⟨a, b, q1, s1, q2, s2, rfl, ha, hb, h64, rfl, rfl⟩
  · simp [memb, rowL, funP]
  · rw [memb_row h1 h2, memb_row h1 h2]
  · rw [memb_fun ha, memb_fun (fm_mono ha h)]
theorem all_zip_congr {f g : Val → Val → Bool} : ∀ (ms xs : List Val), (∀ m ∈ ms, ∀ x, f m x = g m x) → ((List.zip ms xs).all fun q => f q.1 q.2) = ((List.zip ms xs).all fun q => g q.1 q.2)
  | [], _, _ => by simp
  | m :: ms, [], _ => by simp
  | m :: ms, x :: xs, h => by
    rw [List.zip_cons_cons, List.all_cons, List.all_cons, h m List.mem_cons_self x, all_zip_congr ms xs fun u hu => h u (List.mem_cons_of_mem _ hu)]
theorem isV_mono : ∀ {D E : Nat} {v : Val} {p s : Int}, fm D v = some (p, s) → D ≤ E → ∀ x, isV E v x = isV D v x
  | 0, E, v, p, s, h, g, x => by cases h
  | D + 1, 0, v, p, s, h, g, x => by omega
  | D + 1, E + 1, v, p, s, h, g, x => by
    simp only [isV]
    rw [memb_mono h (show D ≤ E by omega)]
    have : ∀ m ∈ memb D v, ∀ y, isV E m y = isV D m y := fun m hm y => by
      obtain ⟨q, t, hf⟩ := fm_memb h m hm
      exact isV_mono hf (by omega) y
    cases lotN v with
    | some n => rfl
    | none =>
      cases x <;> first | rfl | skip
      rename_i xs
      dsimp only
      rw [all_zip_congr _ _ this]
theorem rg_mem {n : Int} {d : Int} (h : d ∈ rg n) : 0 ≤ d ∧ d < n := by
  unfold rg at h
  obtain ⟨i, hi, rfl⟩ := List.mem_map.mp h
  rw [List.mem_range] at hi
  omega
theorem vals_isV : ∀ {D : Nat} {v x : Val} {p s : Int}, fm D v = some (p, s) → x ∈ vals D v → isV D v x = true
  | 0, v, x, p, s, h, hx => by cases h
  | D + 1, v, x, p, s, h, hx => by
    cases hl : lotN v with
    | some n =>
      rw [vals_lot hl] at hx
      obtain ⟨i, hi, rfl⟩ := List.mem_map.mp hx
      have := rg_mem hi
      simp only [isV, hl, inB, Bool.and_eq_true, decide_eq_true_eq]
      omega
    | none =>
      rw [vals_memb hl] at hx
      obtain ⟨r, hr, rfl⟩ := List.mem_map.mp hx
      obtain ⟨h1, h2⟩ := prodV_mem hr
      simp only [isV, hl, Bool.and_eq_true, beq_iff_eq, List.all_eq_true]
      refine ⟨h1, fun q hq => ?_⟩
      obtain ⟨q', t, hf⟩ := fm_memb h q.1 (List.of_mem_zip hq).1
      exact vals_isV hf (h2 q hq)
/-! ### where a place leads -/
def stp (v x : Val) : Option Val := match rowL v with
  | some ks => match x with
    | .int i => if 0 ≤ i ∧ i < ks.length then ks[i.toNat]? else none
    | _ => none
  | none => match funP v with
    | some (a, b) => if isV 5 a x = true then some b else none
    | none => none
def lead : Val → List Val → Option Val
  | v, [] => some v
  | v, x :: xs => match stp v x with
    | some w => lead w xs
    | none => none
def ofK : Option Val → Val
  | some w => w
  | none => .non
def okK (d : Nat) (w : Val) : Prop := gd d w = true ∧ ∃ p s, fm 5 w = some (p, s)
theorem stp_lot {n : Int} {x : Val} : stp (.tup [.str s_lot, .int n]) x = none := by simp [stp, rowL, funP]
theorem stp_row {ks : List Val} (h1 : 2 ≤ ks.length) (h2 : ks.length ≤ 4) {x : Val} : stp (.tup [.str s_row, .tup ks]) x = match x with
    | .int i => if 0 ≤ i ∧ i < ks.length then ks[i.toNat]? else none
    | _ => none := by
  have : rowL (.tup [.str s_row, .tup ks]) = some ks := by simp [rowL]; omega
  simp only [stp, this]
theorem stp_fun {a b x : Val} : stp (.tup [.str s_fun, a, b]) x = if isV 5 a x = true then some b else none := by
  have h1 : rowL (.tup [.str s_fun, a, b]) = none := by simp [rowL]
  have h2 : funP (.tup [.str s_fun, a, b]) = some (a, b) := by simp [funP]
  simp only [stp, h1, h2]
theorem stp_ok {d : Nat} {v x w : Val} (h : okK d v) (e : stp v x = some w) : okK d w ∧ isN w = false := by
  obtain ⟨hg, p, s, hf⟩ := h
  have nn : ∀ u : Val, (∃ p s, fm 5 u = some (p, s)) → isN u = false := by
    rintro u ⟨p, s, h⟩
    cases u <;> first | rfl | (exfalso; revert h; simp [fm, lotN, rowL, funP])
  rcases fm_cases hf with ⟨n, rfl, h1, h2, rfl, rfl⟩ | ⟨ks, rfl, h1, h2, al, rfl, rfl⟩ | ⟨a, b, q1, s1, q2, s2, rfl, ha, hb, h64, rfl, rfl⟩
  · rw [stp_lot] at e; cases e
  · rw [stp_row h1 h2] at e
    cases x <;> simp only [reduceCtorEq] at e
    rename_i i
    split at e
    · have m := List.mem_of_getElem? e
      obtain ⟨f, rfl, hk⟩ := gd_row hg
      have f5 := fm_mono (some_getD (al w m)) (show 4 ≤ 5 by decide)
      exact ⟨⟨gd_mono (hk w m) (by omega), _, _, f5⟩, nn w ⟨_, _, f5⟩⟩
    · cases e
  · rw [stp_fun] at e
    split at e
    · cases e
      obtain ⟨f, rfl, ga, gb⟩ := gd_fun hg
      have f5 := fm_mono hb (show 4 ≤ 5 by decide)
      exact ⟨⟨gd_mono gb (by omega), _, _, f5⟩, nn _ ⟨_, _, f5⟩⟩
    · cases e
theorem lead_ok {d : Nat} : ∀ {xs : List Val} {v w : Val}, okK d v → lead v xs = some w → okK d w
  | [], v, w, h, e => by cases e; exact h
  | x :: xs, v, w, h, e => by
    unfold lead at e
    cases es : stp v x with
    | none => rw [es] at e; cases e
    | some u =>
      rw [es] at e
      exact lead_ok (stp_ok h es).1 e
theorem run_step_in (L : Nat) (v x : Val) (st : Sto) (d : Nat) (hd : d ≤ 60) (h : okK d v) (hx : x.blw st.length = true) : run T.fns (L + 30) i_step_in [v, x] st = .ok (ofK (stp v x)) st := by
  rw [run_succ (fn := d_step_in.fn) rfl rfl]
  show endOf st (evS (run T.fns (L + 29)) b_step_in [some v, some x] st) = _
  obtain ⟨hg, p, s, hf⟩ := h
  rcases fm_cases hf with ⟨n, rfl, h1, h2, rfl, rfl⟩ | ⟨ks, rfl, h1, h2, al, rfl, rfl⟩ | ⟨a, b, q1, s1, q2, s2, rfl, ha, hb, h64, rfl, rfl⟩
  · rw [stp_lot]
    simp only [b_step_in, evS, evE, evL, evB]
    simp [ofK, endOf_same]
  · rw [stp_row h1 h2]
    have iw := run_is_within (L + 27) x 0 ((ks.length : Int) - 1) st (okT_blw hx)
    simp only [b_step_in, evS, evE, evL, evB]
    cases x with
    | int i =>
      by_cases q : 0 ≤ i ∧ i < ks.length
      · have e1 : inB 0 ((ks.length : Int) - 1) (.int i) = true := by
          simp only [inB, Bool.and_eq_true, decide_eq_true_eq]
          omega
        have hi : i.toNat < ks.length := by omega
        have ix : idxV (.tup ks) (.int i) st = .ok ks[i.toNat] st := by
          simp [idxV, seqOf, L2.atI, L2.ixN, q, hi]
        rw [e1] at iw
        simp [iw, ix, q, hi, ofK, endOf_same]
      · have e1 : inB 0 ((ks.length : Int) - 1) (.int i) = false := by
          simp only [inB, Bool.and_eq_false_iff, decide_eq_false_iff_not]
          omega
        rw [e1] at iw
        dsimp only
        rw [if_neg q]
        simp [iw, ofK, endOf_same]
    | _ =>
      simp only [inB] at iw
      simp [iw, ofK, endOf_same]
  · rw [stp_fun]
    obtain ⟨e, rfl, ga, gb⟩ := gd_fun hg
    have iv := run_is_value_in 5 (L + 29) a x st e q1 s1 (by omega) (by omega) ga (by omega) (fm_mono ha (by decide)) hx
    simp only [b_step_in, evS, evE, evL, evB]
    cases b0 : isV 5 a x <;> rw [b0] at iv <;> simp [iv, ofK, endOf_same]
theorem run_kind_behind (L : Nat) (v x : Val) (st : Sto) (d : Nat) (hd : d ≤ 60) (h : okK d v) (hx : x.blw st.length = true) : run T.fns (L + 31) i_kind_behind [v, x] st = .ok (match x with
    | .tup xs => ofK (lead v xs)
    | _ => .non) st := by
  rw [run_succ (fn := d_kind_behind.fn) rfl rfl]
  show endOf st (evS (run T.fns (L + 30)) b_kind_behind [some v, some x, none, none] st) = _
  have i3 := isi_tup st (okT_blw hx)
  cases x with
  | tup xs =>
    have lp : ∀ (rest : List Val) (w : Val) (x3 : Option Val), okK d w → Vals.blw st.length rest = true → ∃ y3, forLoop [] [3] true (evS (run T.fns (L + 30)) l_kind_behind_0) rest [some v, some (.tup xs), some w, x3] st = match lead w rest with
        | some u => .nx [some v, some (.tup xs), some u, y3] st
        | none => .rt .non st := by
      intro rest
      induction rest with
      | nil => intro w x3 _ _; exact ⟨x3, by simp [lead, forLoop]⟩
      | cons y rest ih =>
        intro w x3 hw hb
        simp only [Vals.blw, Bool.and_eq_true] at hb
        have r := run_step_in L w y st d hd hw hb.1
        cases es : stp w y with
        | none =>
          rw [es] at r
          refine ⟨none, ?_⟩
          rw [forLoop_out (env' := [some v, some (.tup xs), some w, some y]) (u := .non) (st1 := st) rfl rfl (by
            simp only [l_kind_behind_0, evS, evE, evL, evB]
            simp [r, ofK, setN, isN])]
          simp only [lead, es]
        | some u =>
          rw [es] at r
          obtain ⟨ok, nn⟩ := stp_ok hw es
          obtain ⟨y3, e⟩ := ih u (some y) ok hb.2
          refine ⟨y3, ?_⟩
          rw [forLoop_cons (env' := [some v, some (.tup xs), some w, some y]) (env1 := [some v, some (.tup xs), some u, some y]) (st1 := st) rfl rfl (by
            simp only [l_kind_behind_0, evS, evE, evL, evB]
            simp [r, ofK, setN, nn]), e]
          simp only [lead, es]
    obtain ⟨y3, e⟩ := lp xs v none h (by simpa [Val.blw] using hx)
    simp [isTup] at i3
    simp only [b_kind_behind, evS, evE, evL, evB, evI, iterR, isiR_def]
    cases el : lead v xs <;> rw [el] at e <;> simp [i3, setN, e, ofK, endOf_same]
  | _ =>
    simp [isTup] at i3
    simp only [b_kind_behind, evS, evE, evL, evB, evI, iterR, isiR_def]
    simp [i3, endOf_same]
/-- whether any value is a place -/
def plB (v x : Val) : Bool := match x with
  | .tup xs => match lead v xs with
    | some w => (lotN w).isSome
    | none => false
  | _ => false
theorem kind_word {d : Nat} {v : Val} (h : okK d v) (st : Sto) : ∃ y, idxV v (.int 0) st = .ok y st ∧ isN v = false ∧ cmpR .Eq y (.str s_lot) st = .ok (.bl (lotN v).isSome) st := by
  obtain ⟨hg, p, s, hf⟩ := h
  rcases fm_cases hf with ⟨n, rfl, h1, h2, rfl, rfl⟩ | ⟨ks, rfl, h1, h2, al, rfl, rfl⟩ | ⟨a, b, q1, s1, q2, s2, rfl, ha, hb, h64, rfl, rfl⟩
  · have hl : lotN (.tup [.str s_lot, .int s]) = some s := by simp [lotN]; omega
    exact ⟨_, idx0 _ _ _, rfl, by simp [hl]⟩
  · have hl : lotN (.tup [.str s_row, .tup ks]) = none := by simp [lotN]
    exact ⟨_, idx0 _ _ _, rfl, by simp [hl]⟩
  · have hl : lotN (.tup [.str s_fun, a, b]) = none := by simp [lotN]
    exact ⟨_, idx0 _ _ _, rfl, by simp [hl]⟩
theorem run_is_place_in (L : Nat) (v x : Val) (st : Sto) (d : Nat) (hd : d ≤ 60) (h : okK d v) (hx : x.blw st.length = true) : run T.fns (L + 32) i_is_place_in [v, x] st = .ok (.bl (plB v x)) st := by
  rw [run_succ (fn := d_is_place_in.fn) rfl rfl]
  show endOf st (evS (run T.fns (L + 31)) b_is_place_in [some v, some x, none] st) = _
  have r := run_kind_behind L v x st d hd h hx
  simp only [b_is_place_in, evS, evE, evL, evB]
  cases x with
  | tup xs =>
    simp only at r
    cases el : lead v xs with
    | none =>
      rw [el] at r
      simp [r, ofK, setN, isN, plB, el, endOf_same]
    | some w =>
      rw [el] at r
      obtain ⟨y, k1, k2, k3⟩ := kind_word (lead_ok h el) st
      simp [r, ofK, setN, k1, k2, k3, plB, el, endOf_same]
  | _ =>
    simp only at r
    simp [r, setN, isN, plB, endOf_same]
theorem run_law_is_place (L : Nat) (v x : Val) (st : Sto) (d : Nat) (hd : d ≤ 60) (h : okK d v) (hx : x.blw st.length = true) : run T.fns (L + 31) i__law_is_place [v, x] st = .ok (.bl (plB v x)) st := by
  rw [run_succ (fn := d__law_is_place.fn) rfl rfl]
  show endOf st (evS (run T.fns (L + 30)) b__law_is_place [some v, some x, none] st) = _
  have i3 := isi_tup st (okT_blw hx)
  cases x with
  | tup xs =>
    have lp : ∀ (rest : List Val) (w : Val) (x2 : Option Val), okK d w → Vals.blw st.length rest = true → ∃ y2, forLoop [] [2] true (evS (run T.fns (L + 30)) l__law_is_place_0) rest [some w, some (.tup xs), x2] st = match lead w rest with
        | some u => .nx [some u, some (.tup xs), y2] st
        | none => .rt (.bl false) st := by
      intro rest
      induction rest with
      | nil => intro w x2 _ _; exact ⟨x2, by simp [lead, forLoop]⟩
      | cons y rest ih =>
        intro w x2 hw hb
        simp only [Vals.blw, Bool.and_eq_true] at hb
        have body : evS (run T.fns (L + 30)) l__law_is_place_0 [some w, some (.tup xs), some y] st = match stp w y with
            | some u => .nx [some u, some (.tup xs), some y] st
            | none => .rt (.bl false) st := by
          obtain ⟨hg, p, s, hf⟩ := hw
          rcases fm_cases hf with ⟨n, rfl, h1, h2, rfl, rfl⟩ | ⟨ks, rfl, h1, h2, al, rfl, rfl⟩ | ⟨a, b, q1, s1, q2, s2, rfl, ha, hbb, h64, rfl, rfl⟩
          · rw [stp_lot]
            simp only [l__law_is_place_0, evS, evE, evL, evB, isiR_def]
            simp
          · have i1 := isi_int st (okT_blw hb.1)
            have i2 := isi_bool st (okT_blw hb.1)
            have sn : isInt y = false → stp (.tup [.str s_row, .tup ks]) y = none := by
              intro h
              rw [stp_row h1 h2]
              cases y with
              | int i => simp [isInt] at h
              | _ => rfl
            simp only [l__law_is_place_0, evS, evE, evL, evB, isiR_def]
            cases y with
            | int i =>
              have sq : stp (.tup [.str s_row, .tup ks]) (.int i) = if 0 ≤ i ∧ i < ks.length then ks[i.toNat]? else none := stp_row h1 h2
              simp [isInt, isBl] at i1 i2
              by_cases q0 : i < 0
              · rw [sq, if_neg (by omega)]
                simp [i1, i2, q0]
              · by_cases q1 : (ks.length : Int) ≤ i
                · rw [sq, if_neg (by omega)]
                  simp [i1, i2, q0, q1]
                · have hi : i.toNat < ks.length := by omega
                  have q2 : 0 ≤ i ∧ i < ks.length := by omega
                  have ix : idxV (.tup ks) (.int i) st = .ok ks[i.toNat] st := by
                    simp [idxV, seqOf, L2.atI, L2.ixN, q2, hi]
                  rw [sq, if_pos q2, List.getElem?_eq_getElem hi]
                  simp [i1, i2, q0, q1, ix, setN]
            | bl b =>
              rw [sn rfl]
              simp [isInt, isBl] at i1 i2
              simp [i1, i2]
            | _ =>
              rw [sn rfl]
              simp [isInt, isBl] at i1 i2
              simp [i1]
          · rw [stp_fun]
            obtain ⟨e, rfl, ga, gb⟩ := gd_fun hg
            have iv := run_law_is_value 5 (L + 30) a y st e q1 s1 (by omega) (by omega) ga (by omega) (fm_mono ha (by decide)) hb.1
            simp only [l__law_is_place_0, evS, evE, evL, evB, isiR_def]
            cases b0 : isV 5 a y <;> rw [b0] at iv <;> simp [iv, setN]
        cases es : stp w y with
        | none =>
          rw [es] at body
          exact ⟨none, by rw [forLoop_out (env' := [some w, some (.tup xs), some y]) (u := .bl false) (st1 := st) rfl rfl body]; simp only [lead, es]⟩
        | some u =>
          rw [es] at body
          obtain ⟨y2, e⟩ := ih u (some y) (stp_ok hw es).1 hb.2
          exact ⟨y2, by rw [forLoop_cons (env' := [some w, some (.tup xs), some y]) (env1 := [some u, some (.tup xs), some y]) (st1 := st) rfl rfl body, e]; simp only [lead, es]⟩
    obtain ⟨y2, e⟩ := lp xs v none h (by simpa [Val.blw] using hx)
    simp [isTup] at i3
    simp only [b__law_is_place, evS, evE, evL, evB, evI, iterR, isiR_def]
    cases el : lead v xs with
    | none => rw [el] at e; simp [i3, e, plB, el, endOf_same]
    | some u =>
      rw [el] at e
      obtain ⟨y, k1, k2, k3⟩ := kind_word (lead_ok h el) st
      simp [i3, e, k1, k3, plB, el, endOf_same]
  | _ =>
    simp [isTup] at i3
    simp only [b__law_is_place, evS, evE, evL, evB, evI, iterR, isiR_def]
    simp [i3, plB, endOf_same]
theorem run_law_behind (L : Nat) (v : Val) (xs : List Val) (w : Val) (st : Sto) (d : Nat) (h : okK d v) (hl : lead v xs = some w) : run T.fns (L + 1) i__law_behind [v, .tup xs] st = .ok w st := by
  rw [run_succ (fn := d__law_behind.fn) rfl rfl]
  show endOf st (evS (run T.fns L) b__law_behind [some v, some (.tup xs), none] st) = _
  have lp : ∀ (rest : List Val) (w u : Val) (x2 : Option Val), okK d w → lead w rest = some u → ∃ y2, forLoop [] [2] true (evS (run T.fns L) l__law_behind_0) rest [some w, some (.tup xs), x2] st = .nx [some u, some (.tup xs), y2] st := by
    intro rest
    induction rest with
    | nil => intro w u x2 _ e; cases e; exact ⟨x2, by simp [forLoop]⟩
    | cons y rest ih =>
      intro w u x2 hw e
      unfold lead at e
      cases es : stp w y with
      | none => rw [es] at e; cases e
      | some k =>
        rw [es] at e
        obtain ⟨y2, ih'⟩ := ih k u (some y) (stp_ok hw es).1 e
        refine ⟨y2, ?_⟩
        rw [forLoop_cons (env' := [some w, some (.tup xs), some y]) (env1 := [some k, some (.tup xs), some y]) (st1 := st) rfl rfl, ih']
        obtain ⟨hg, p, s, hf⟩ := hw
        rcases fm_cases hf with ⟨n, rfl, h1, h2, rfl, rfl⟩ | ⟨ks, rfl, h1, h2, al, rfl, rfl⟩ | ⟨a, b, q1, s1, q2, s2, rfl, ha, hbb, h64, rfl, rfl⟩
        · rw [stp_lot] at es; cases es
        · rw [stp_row h1 h2] at es
          cases y <;> simp only [reduceCtorEq] at es
          rename_i i
          split at es
          · rename_i q
            have hi : i.toNat < ks.length := by omega
            have hk : ks[i.toNat] = k := by
              rw [List.getElem?_eq_getElem hi] at es
              exact Option.some.inj es
            have ix : idxV (.tup ks) (.int i) st = .ok k st := by
              simp [idxV, seqOf, L2.atI, L2.ixN, q, hi, hk]
            simp only [l__law_behind_0, evS, evE, evL, evB]
            simp [ix, setN]
          · cases es
        · rw [stp_fun] at es
          split at es
          · cases es
            simp only [l__law_behind_0, evS, evE, evL, evB]
            simp [setN]
          · cases es
  obtain ⟨y2, e⟩ := lp xs v w none h hl
  simp only [b__law_behind, evS, evE, evL, evB, evI, iterR]
  simp [e, endOf_same]
end TT.K02
set_option linter.all false
set_option maxHeartbeats 1000000
set_option maxRecDepth 100000
namespace TT
theorem flatMap_eq {α β : Type} {f g : α → List β} : ∀ {l : List α}, (∀ x ∈ l, f x = g x) → l.flatMap f = l.flatMap g
  | [], _ => rfl
  | x :: l, h => by rw [List.flatMap_cons, List.flatMap_cons, h x List.mem_cons_self, flatMap_eq fun u hu => h u (List.mem_cons_of_mem _ hu)]
theorem lcLoop_filter {w : Watch} {tg : List Nat} {one : Bool} {c : VEnv → Sto → Res Val} {elt : VEnv → Sto → Res Val} {env : VEnv} {st : Sto} (F : Val → Val) (P : Val → Bool) (hw : wOk w st = true) : ∀ (vs : List Val), (∀ v ∈ vs, ∃ env', setTg tg one v env = some env' ∧ (∃ y, c env' st = .ok y st ∧ truthR y st = .ok (P v) st) ∧ elt env' st = .ok (F v) st) →
    lcLoop w tg one (cndR false c) elt vs env st = .ok ((vs.filter P).map F) st
  | [], _ => by simp [lcLoop, hw]
  | v :: vs, h => by
    obtain ⟨env', e1, ⟨y, e2, e3⟩, e4⟩ := h v List.mem_cons_self
    have := lcLoop_filter (tg := tg) (one := one) (c := c) F P hw vs fun u hu => h u (List.mem_cons_of_mem _ hu)
    cases b : P v with
    | true =>
      rw [b] at e3
      rw [List.filter_cons, if_pos b, List.map_cons]
      simp only [lcLoop, hw, if_true, e1, cndR, Bool.false_eq_true, if_false, e2, Res.bind_ok, e3, e4]
      simp only [this, Res.bind_ok]
    | false =>
      rw [b] at e3
      rw [List.filter_cons, if_neg (by simp [b])]
      simp only [lcLoop, hw, if_true, e1, cndR, Bool.false_eq_true, if_false, e2, Res.bind_ok, e3]
      simp only [this]
theorem pairL_map {α : Type} (f g : α → Val) : ∀ l : List α, pairL (l.map f) (l.map g) = l.map fun x => .tup [f x, g x]
  | [] => rfl
  | x :: l => by
    have := pairL_map f g l
    simp only [pairL, List.map_cons, List.zipWith_cons_cons] at *
    rw [this]
end TT
namespace TT.K02
open PySem L2
def lk (n : Int) : Val := .tup [.str s_lot, .int n]
theorem zip_range2 (ks : List Val) : ∀ q ∈ List.zip (rangeL 0 ks.length) ks, ∃ i : Nat, q.1 = .int i ∧ i < ks.length ∧ ks[i]? = some q.2 := by
  intro q hq
  obtain ⟨j, hj, e⟩ := List.mem_iff_getElem.mp hq
  have h1 : j < ks.length := by
    rw [List.length_zip] at hj
    omega
  refine ⟨j, ?_, h1, ?_⟩
  · rw [← e, List.getElem_zip]
    simp [rangeL]
  · rw [← e, List.getElem_zip]
    simp
theorem plc_lead : ∀ {D : Nat} {v : Val} {p s : Int}, D ≤ 5 → fm D v = some (p, s) → (plc D v).map (lead v) = (lots D v).map fun n => some (lk n)
  | 0, v, p, s, _, h => by cases h
  | D + 1, v, p, s, hD, h => by
    rcases fm_cases h with ⟨n, rfl, h1, h2, rfl, rfl⟩ | ⟨ks, rfl, h1, h2, al, rfl, rfl⟩ | ⟨a, b, q1, s1, q2, s2, rfl, ha, hb, h64, rfl, rfl⟩
    · rw [plc_lot h1 h2, lots_lot h1 h2]
      rfl
    · rw [plc_row h1 h2, lots_row h1 h2, List.map_flatMap, List.map_flatMap]
      rw [flatMap_eq (g := fun q => (lots D q.2).map fun n => some (lk n)) (fun q hq => by
        obtain ⟨i, e1, e2, e3⟩ := zip_range2 ks q hq
        have m := List.mem_of_getElem? e3
        rw [← plc_lead (by omega) (some_getD (al q.2 m)), List.map_map]
        apply List.map_congr_left
        intro pl _
        simp only [Function.comp, lead, e1, stp_row h1 h2]
        rw [if_pos (by omega), show ((i : Int)).toNat = i by omega, e3])]
      have := List.flatMap_map (fun q : Val × Val => q.2) (fun u => (lots D u).map fun n => some (lk n)) (List.zip (rangeL 0 ks.length) ks)
      rw [← this, List.map_snd_zip]
      simp [rangeL]
    · rw [plc_fun, lots_fun ha, List.map_flatMap, List.map_flatMap]
      rw [flatMap_eq (g := fun _ => (lots D b).map fun n => some (lk n)) (fun x hx => by
        rw [← plc_lead (by omega) hb, List.map_map]
        apply List.map_congr_left
        intro pl _
        have iv : isV 5 a x = true := by
          rw [isV_mono ha (by omega)]
          exact vals_isV ha hx
        simp only [Function.comp, lead, stp_fun]
        rw [if_pos iv])]
      have vz := rows_size ha
      have : s1.toNat = (vals D a).length := by omega
      rw [this]
      generalize vals D a = l
      induction l with
      | nil => rfl
      | cons x l ih => rw [List.flatMap_cons, List.length_cons, List.replicate_succ, List.flatMap_cons, ih]
def lnv : Option Val → Int
  | some (.tup [_, .int n]) => n
  | _ => 0
theorem lots_plc {D : Nat} {v : Val} {p s : Int} (hD : D ≤ 5) (h : fm D v = some (p, s)) : lots D v = (plc D v).map fun pl => lnv (lead v pl) := by
  have e := congrArg (List.map lnv) (plc_lead hD h)
  rw [List.map_map, List.map_map] at e
  have : (lots D v).map (lnv ∘ fun n => some (lk n)) = lots D v := by
    have : (lnv ∘ fun n => some (lk n)) = fun n => n := rfl
    rw [this]
    simp
  rw [this] at e
  exact e.symm
theorem plc_lk {D : Nat} {v : Val} {p s : Int} (hD : D ≤ 5) (h : fm D v = some (p, s)) {pl : List Val} (hp : pl ∈ plc D v) : ∃ n, lead v pl = some (lk n) ∧ 1 ≤ n ∧ n ≤ 8 := by
  have m : lead v pl ∈ (plc D v).map (lead v) := List.mem_map_of_mem hp
  rw [plc_lead hD h] at m
  obtain ⟨n, hn, e⟩ := List.mem_map.mp m
  exact ⟨n, e.symm, lots_bd h n hn⟩
def asks (D : Nat) (v : Val) : List (List Val) := (plc D v).filter fun pl => decide (1 < lnv (lead v pl))
theorem run_asked_in (D L : Nat) (v : Val) (st : Sto) (d : Nat) (p s : Int) (hD : D ≤ 5) (hL : D + 25 ≤ L) (hg : gd d v = true) (hd : d ≤ 60) (hf : fm D v = some (p, s)) : run T.fns (L + 1) i_asked_in [v] st = .ok (.loc st.length) (st ++ [Cell.lst ((asks D v).map .tup)]) := by
  rw [run_succ (fn := d_asked_in.fn) rfl rfl]
  show endOf st (evS (run T.fns L) b_asked_in [some v, none, none] st) = _
  have r1 := run_places_in D L v st d p s hD hL hg hd hf
  have r2 := run_lots_in D L v (st ++ [Cell.lst ((plc D v).map .tup)]) d p s hD (by omega) hg hd hf
  have r2' : run T.fns L i_lots_in [v] (st ++ [Cell.lst ((plc D v).map .tup)]) = .ok (.loc (st.length + 1)) (st ++ [Cell.lst ((plc D v).map .tup), Cell.lst ((lots D v).map .int)]) := by
    rw [r2]
    simp
  have i1 : itemsOf (st ++ [Cell.lst ((plc D v).map .tup), Cell.lst ((lots D v).map .int)]) (.loc st.length) = some ((plc D v).map .tup, [(st.length, (plc D v).map .tup)]) := by simp [itemsOf]
  have i2 : itemsOf (st ++ [Cell.lst ((plc D v).map .tup), Cell.lst ((lots D v).map .int)]) (.loc (st.length + 1)) = some ((lots D v).map .int, [(st.length + 1, (lots D v).map .int)]) := by
    simp only [itemsOf, at_end]
    rfl
  have pz : pairL ((plc D v).map .tup) ((lots D v).map .int) = (plc D v).map fun pl => .tup [.tup pl, .int (lnv (lead v pl))] := by
    rw [lots_plc hD hf, List.map_map]
    exact pairL_map _ _ _
  have w1 : wOk [(st.length, (plc D v).map .tup), (st.length + 1, (lots D v).map .int)] (st ++ [Cell.lst ((plc D v).map .tup), Cell.lst ((lots D v).map .int)]) = true := by
    simp only [wOk, List.all_cons, List.all_nil, at_end]
    simp
  have lc := lcLoop_filter (w := [(st.length, (plc D v).map .tup), (st.length + 1, (lots D v).map .int)]) (tg := [1, 2]) (one := false) (c := evE (run T.fns L) k_asked_in_0) (elt := evE (run T.fns L) e_asked_in_0) (env := wipeV [some v, none, none] [1, 2]) (st := st ++ [Cell.lst ((plc D v).map .tup), Cell.lst ((lots D v).map .int)])
    (fun u => match u with
      | .tup [a, _] => a
      | u => u) (fun u => match u with
      | .tup [_, .int n] => decide (1 < n)
      | _ => false) w1 ((plc D v).map fun pl => .tup [.tup pl, .int (lnv (lead v pl))]) (fun u hu => by
      obtain ⟨pl, hpl, rfl⟩ := List.mem_map.mp hu
      refine ⟨_, rfl, ?_, ?_⟩
      · refine ⟨.bl (decide (1 < lnv (lead v pl))), ?_, rfl⟩
        simp only [k_asked_in_0, evE]
        simp [setNs, setN, wipeV]
      · simp only [e_asked_in_0, evE]
        simp [setNs, setN, wipeV])
  have mm : (((plc D v).map fun pl => Val.tup [.tup pl, .int (lnv (lead v pl))]).filter (fun u => match u with
      | .tup [_, .int n] => decide (1 < n)
      | _ => false)).map (fun u => match u with
      | .tup [a, _] => a
      | u => u) = (asks D v).map .tup := by
    rw [List.filter_map, List.map_map]
    rfl
  rw [mm] at lc
  have bl : Vals.blw st.length ((asks D v).map .tup) = true := by
    apply all_blw
    intro x hx
    obtain ⟨pl, hp, rfl⟩ := List.mem_map.mp hx
    simp only [Val.blw]
    exact plc_blw (List.mem_filter.mp hp).1 _
  have en := endOf_loc st ([Cell.lst ((plc D v).map .tup), Cell.lst ((lots D v).map .int)] ++ [Cell.lst ((asks D v).map .tup)]) (st.length + 2) _ (by simp) (by rw [at_end]; rfl) bl
  rw [← List.append_assoc] at en
  have nn : isNil k_asked_in_0 = false := rfl
  have iz : iterV .zip [.loc st.length, .loc (st.length + 1)] (st ++ [Cell.lst ((plc D v).map .tup), Cell.lst ((lots D v).map .int)]) = .ok ((plc D v).map (fun pl => .tup [.tup pl, .int (lnv (lead v pl))]), [(st.length, (plc D v).map .tup), (st.length + 1, (lots D v).map .int)]) (st ++ [Cell.lst ((plc D v).map .tup), Cell.lst ((lots D v).map .int)]) := by
    simp only [iterV, i1, i2, pz]
    rfl
  simp only [b_asked_in, evS, evE, evL, iterR]
  simp only [List.getElem?_cons_zero, Res.bind_ok, r1, r2', iz, nn, lc, alloc_ok, Res.fl_ok]
  simpa using en
/-! ### with needs -/
theorem run_places_of (L : Nat) (v : Val) (st : Sto) (d : Nat) (hd : d ≤ 60) (h : okK d v) : run T.fns (L + 40) i_places_of [v] st = .ok (.tup ((plc 5 v).map .tup)) st := by
  rw [run_succ (fn := d_places_of.fn) rfl rfl]
  show endOf st (evS (run T.fns (L + 39)) b_places_of [some v] st) = _
  obtain ⟨hg, p, s, hf⟩ := h
  have nk := fun st => run_need_kind (L + 23) v st hg hd hf
  have r := run_places_in 5 (L + 39) v st d p s (by omega) (by omega) hg hd hf
  have tp : bltV .tuple [.loc st.length] (st ++ [Cell.lst ((plc 5 v).map .tup)]) = .ok (.tup ((plc 5 v).map .tup)) (st ++ [Cell.lst ((plc 5 v).map .tup)]) := by simp [bltV, seqOf]
  have en := endOf_gb st [Cell.lst ((plc 5 v).map .tup)] (.tup ((plc 5 v).map .tup)) (by simp only [Val.blw]; exact plcs_blw 5 v _)
  simp only [b_places_of, evS, evE, evL]
  simp [nk, r, tp, en]
theorem asks_blw (v : Val) (n : Nat) : Vals.blw n ((asks 5 v).map .tup) = true := by
  apply all_blw
  intro x hx
  obtain ⟨pl, hp, rfl⟩ := List.mem_map.mp hx
  simp only [Val.blw]
  exact plc_blw (List.mem_filter.mp hp).1 _
theorem run_asked_places (L : Nat) (v : Val) (st : Sto) (d : Nat) (hd : d ≤ 60) (h : okK d v) : run T.fns (L + 40) i_asked_places [v] st = .ok (.tup ((asks 5 v).map .tup)) st := by
  rw [run_succ (fn := d_asked_places.fn) rfl rfl]
  show endOf st (evS (run T.fns (L + 39)) b_asked_places [some v] st) = _
  obtain ⟨hg, p, s, hf⟩ := h
  have nk := fun st => run_need_kind (L + 23) v st hg hd hf
  have r := run_asked_in 5 (L + 38) v st d p s (by omega) (by omega) hg hd hf
  have tp : bltV .tuple [.loc st.length] (st ++ [Cell.lst ((asks 5 v).map .tup)]) = .ok (.tup ((asks 5 v).map .tup)) (st ++ [Cell.lst ((asks 5 v).map .tup)]) := by simp [bltV, seqOf]
  have en := endOf_gb st [Cell.lst ((asks 5 v).map .tup)] (.tup ((asks 5 v).map .tup)) (by simp only [Val.blw]; exact asks_blw v _)
  simp only [b_asked_places, evS, evE, evL]
  simp [nk, r, tp, en]
theorem run_is_place (L : Nat) (v x : Val) (st : Sto) (d : Nat) (hd : d ≤ 60) (h : okK d v) (hx : x.blw st.length = true) : run T.fns (L + 40) i_is_place [v, x] st = .ok (.bl (plB v x)) st := by
  rw [run_succ (fn := d_is_place.fn) rfl rfl]
  show endOf st (evS (run T.fns (L + 39)) b_is_place [some v, some x] st) = _
  have h' := h
  obtain ⟨hg, p, s, hf⟩ := h'
  have nk := fun st => run_need_kind (L + 23) v st hg hd hf
  have r := run_is_place_in (L + 7) v x st d hd h hx
  simp only [b_is_place, evS, evE, evL]
  simp [nk, r, endOf_same]
theorem run_lot_at (L : Nat) (v : Val) (pl : List Val) (st : Sto) (d : Nat) (hd : d ≤ 60) (h : okK d v) (hp : pl ∈ plc 5 v) : run T.fns (L + 40) i_lot_at [v, .tup pl] st = .ok (.int (lnv (lead v pl))) st := by
  rw [run_succ (fn := d_lot_at.fn) rfl rfl]
  show endOf st (evS (run T.fns (L + 39)) b_lot_at [some v, some (.tup pl)] st) = _
  have h' := h
  obtain ⟨hg, p, s, hf⟩ := h'
  obtain ⟨n, ln, n1, n2⟩ := plc_lk (by omega) hf hp
  have hb : (Val.tup pl).blw st.length = true := by
    simp only [Val.blw]
    exact plc_blw hp _
  have nk := fun st => run_need_kind (L + 23) v st hg hd hf
  have r := run_is_place_in (L + 6) v (.tup pl) st d hd h hb
  have kb := run_kind_behind (L + 7) v (.tup pl) st d hd h hb
  have hl : lotN (lk n) = some n := by simp [lk, lotN]; omega
  have pb : plB v (.tup pl) = true := by simp only [plB, ln, hl]; rfl
  rw [pb] at r
  simp only [ln, ofK] at kb
  have np : run T.fns (L + 39) i_need_place [v, .tup pl] st = .ok .non st := by
    rw [run_succ (fn := d_need_place.fn) rfl rfl]
    show endOf st (evS (run T.fns (L + 38)) b_need_place [some v, some (.tup pl)] st) = _
    simp only [b_need_place, evS, evE, evL, evB]
    simp [r, endOf_nx]
  have li : run T.fns (L + 39) i_lot_in [v, .tup pl] st = .ok (.int n) st := by
    rw [run_succ (fn := d_lot_in.fn) rfl rfl]
    show endOf st (evS (run T.fns (L + 38)) b_lot_in [some v, some (.tup pl)] st) = _
    simp only [b_lot_in, evS, evE, evL]
    simp [kb, lk, endOf_same]
  rw [ln]
  simp only [b_lot_at, evS, evE, evL]
  simp [nk, np, li, lnv, lk, endOf_same]
end TT.K02
set_option linter.all false
set_option maxHeartbeats 1000000
set_option maxRecDepth 100000
namespace TT
open PySem L2
/-! ### texts of plain values: small ints and tuples of such -/
theorem strOk_join {s : Str} (hs : PyData.strOk s = true) : ∀ ts : List Str, (∀ t ∈ ts, PyData.strOk t = true) → PyData.strOk (Str.join s ts) = true
  | [], _ => by
    simp only [Str.join]
    decide +kernel
  | [t], h => by simp only [Str.join]; exact h t List.mem_cons_self
  | t :: u :: ts, h => by
    simp only [Str.join]
    exact strOk_append (strOk_append (h t List.mem_cons_self) hs) (strOk_join hs (u :: ts) fun x hx => h x (List.mem_cons_of_mem _ hx))
theorem strOk_tupleText {ts : List Str} (h : ∀ t ∈ ts, PyData.strOk t = true) : PyData.strOk (tupleText ts) = true := by
  unfold tupleText
  exact strOk_append (strOk_append (strOk_ofString _) (strOk_join (strOk_ofString _) ts h)) (strOk_ofString _)
theorem strOk_textFrom : ∀ (ts : List Str) (i : Nat) (a : Str), PyData.strOk a = true → (∀ t ∈ ts, PyData.strOk t = true) → PyData.strOk (textFrom i a ts) = true
  | [], i, a, ha, _ => by simp only [textFrom]; exact ha
  | t :: ts, i, a, ha, h => by
    simp only [textFrom]
    exact strOk_textFrom ts _ _ (strOk_append (strOk_append ha (strOk_ofString _)) (h t List.mem_cons_self)) fun x hx => h x (List.mem_cons_of_mem _ hx)
theorem strOk_listText {ts : List Str} (h : ∀ t ∈ ts, PyData.strOk t = true) : PyData.strOk (listText ts) = true := by
  unfold listText
  exact strOk_append (strOk_textFrom _ _ _ (strOk_ofString _) h) (strOk_ofString _)
mutual
/-- how deep, how long at most -/
def tlN : Val → Nat
  | .tup vs => tlsN vs + 3
  | _ => 2
def tlsN : List Val → Nat
  | [] => 0
  | v :: vs => tlN v + 2 + tlsN vs
end
mutual
def dpN : Val → Nat
  | .tup vs => dpsN vs + 1
  | _ => 0
def dpsN : List Val → Nat
  | [] => 0
  | v :: vs => max (dpN v) (dpsN vs)
end
mutual
def pnB : Val → Bool
  | .int i => decide (0 ≤ i ∧ i ≤ 9)
  | .tup vs => pnsB vs
  | _ => false
def pnsB : List Val → Bool
  | [] => true
  | v :: vs => pnB v && pnsB vs
end
theorem small_shown {i : Int} (h : 0 ≤ i ∧ i ≤ 9) : (PyData.shown (.int i)).length ≤ 2 ∧ i.natAbs.log2 < 1920 := by
  have : i = 0 ∨ i = 1 ∨ i = 2 ∨ i = 3 ∨ i = 4 ∨ i = 5 ∨ i = 6 ∨ i = 7 ∨ i = 8 ∨ i = 9 := by omega
  rcases this with rfl | rfl | rfl | rfl | rfl | rfl | rfl | rfl | rfl | rfl <;> decide +kernel
mutual
theorem pn_data : ∀ {v : Val}, pnB v = true → ∀ f, ∃ p, v.toD f = some p ∧ p.showable = true ∧ p.hasDict = false ∧ p.depth ≤ dpN v ∧ p.shown.length ≤ tlN v ∧ PyData.strOk p.shown = true
  | .int i, h, f => by
    simp only [pnB, decide_eq_true_eq] at h
    obtain ⟨h1, h2⟩ := small_shown h
    refine ⟨.int i, rfl, ?_, rfl, ?_, h1, strOk_int i⟩
    · simp only [PyData.showable, h2, decide_true]
    · simp [PyData.depth, dpN]
  | .tup vs, h, f => by
    simp only [pnB] at h
    obtain ⟨ps, h1, h2, h3, h4, h5, h6⟩ := pns_data h f
    refine ⟨.tuple ps, by simp only [Val.toD, h1, Option.map_some], ?_, ?_, ?_, ?_, ?_⟩
    · simp only [PyData.showable, h2]
    · simp only [PyData.hasDict, h3]
    · simp only [PyData.depth, dpN]; omega
    · simp only [PyData.shown, tlN]
      have := tupleText_len_le (PyData.shownAll ps)
      omega
    · simp only [PyData.shown]
      exact strOk_tupleText h6
  | .non, h, f => by simp [pnB] at h
  | .bl _, h, f => by simp [pnB] at h
  | .str _, h, f => by simp [pnB] at h
  | .flst _, h, f => by simp [pnB] at h
  | .loc _, h, f => by simp [pnB] at h
theorem pns_data : ∀ {vs : List Val}, pnsB vs = true → ∀ f, ∃ ps, toDs f vs = some ps ∧ PyData.showableAll ps = true ∧ PyData.hasDictAll ps = false ∧ PyData.depthAll ps ≤ dpsN vs ∧ ((PyData.shownAll ps).map (fun x => x.length)).sum + 2 * (PyData.shownAll ps).length ≤ tlsN vs ∧ ∀ t ∈ PyData.shownAll ps, PyData.strOk t = true
  | [], _, f => ⟨[], rfl, by simp only [PyData.showableAll], by simp only [PyData.hasDictAll], by simp [PyData.depthAll], by simp [PyData.shownAll], by simp [PyData.shownAll]⟩
  | v :: vs, h, f => by
    simp only [pnsB, Bool.and_eq_true] at h
    obtain ⟨p, a1, a2, a3, a4, a5, a6⟩ := pn_data h.1 f
    obtain ⟨ps, b1, b2, b3, b4, b5, b6⟩ := pns_data h.2 f
    refine ⟨p :: ps, by simp only [toDs, a1, b1], ?_, ?_, ?_, ?_, ?_⟩
    · simp only [PyData.showableAll, a2, b2, Bool.and_self]
    · simp only [PyData.hasDictAll, a3, b3, Bool.or_self]
    · simp only [PyData.depthAll, dpsN]; omega
    · simp only [PyData.shownAll, List.map_cons, List.sum_cons, List.length_cons, tlsN]; omega
    · intro t ht
      simp only [PyData.shownAll] at ht
      rcases List.mem_cons.mp ht with rfl | ht
      · exact a6
      · exact b6 t ht
end
mutual
theorem pn_same : ∀ (v : Val), pnB v = true → ∀ f g, v.toD f = v.toD g
  | .int i, h, f, g => rfl
  | .tup vs, h, f, g => by
    simp only [pnB] at h
    simp only [Val.toD, pns_same vs h f g]
  | .non, h, f, g => rfl
  | .bl _, h, f, g => rfl
  | .str _, h, f, g => rfl
  | .flst _, h, f, g => rfl
  | .loc _, h, f, g => by simp [pnB] at h
theorem pns_same : ∀ (vs : List Val), pnsB vs = true → ∀ f g, toDs f vs = toDs g vs
  | [], _, f, g => rfl
  | v :: vs, h, f, g => by
    simp only [pnsB, Bool.and_eq_true] at h
    simp only [toDs, pn_same v h.1 f g, pns_same vs h.2 f g]
end
/-- repr of a plain value -/
theorem repr_pn {v : Val} (h : pnB v = true) (hd : dpN v ≤ 60) (hl : tlN v ≤ 16777216) : ∃ t, PyData.strOk t = true ∧ ∀ st, bltV .repr [v] st = .ok (.str t) st := by
  have key := pn_same v h
  obtain ⟨p, e, h1, h2, h3, h4, h5⟩ := pn_data h fun _ => none
  refine ⟨p.shown, h5, fun st => ?_⟩
  have r : rdD st v = some p := by
    unfold rdD
    rw [key _ fun _ => none, e]
  simp only [bltV, r]
  rw [if_pos ⟨h1, h2, by omega, by rw [sizeLine_eq]; omega⟩]
/-- repr of a list of plain values -/
theorem repr_pnl {vs : List Val} (h : pnsB vs = true) (hd : dpsN vs ≤ 50) (hl : tlsN vs + 3 ≤ 16777216) : ∃ t, PyData.strOk t = true ∧ ∀ st q, st[q]? = some (.lst vs) → bltV .repr [.loc q] st = .ok (.str t) st := by
  obtain ⟨ps, e, h1, h2, h3, h4, h5⟩ := pns_data h fun _ => none
  refine ⟨(PyData.list ps).shown, ?_, fun st q hq => ?_⟩
  · simp only [PyData.shown]
    exact strOk_listText h5
  · have r : rdD st (.loc q) = some (.list ps) := by
      unfold rdD
      simp only [Val.toD, locD, hq]
      rw [pns_same vs h _ fun _ => none, e]
      rfl
    simp only [bltV, r]
    rw [if_pos]
    refine ⟨by simp only [PyData.showable, h1], by simp only [PyData.hasDict, h2], by simp only [PyData.depth]; omega, ?_⟩
    rw [sizeLine_eq]
    simp only [PyData.shown]
    have := listText_len_le (PyData.shownAll ps)
    omega
end TT
set_option linter.all false
set_option maxHeartbeats 1000000
set_option maxRecDepth 100000
namespace TT
open PySem L2
mutual
theorem pn_lay : ∀ {v : Val}, pnB v = true → ∀ f, ∃ p, v.toD f = some p ∧ p.canLay0 = true ∧ p.depth ≤ dpN v
  | .int i, h, f => ⟨.int i, rfl, rfl, by simp [PyData.depth, dpN]⟩
  | .tup vs, h, f => by
    simp only [pnB] at h
    obtain ⟨ps, h1, h2, h3, h4⟩ := pns_lay h f
    exact ⟨.tuple ps, by simp only [Val.toD, h1, Option.map_some], by simp only [PyData.canLay0, h2], by simp only [PyData.depth, dpN]; omega⟩
  | .non, h, f => by simp [pnB] at h
  | .bl _, h, f => by simp [pnB] at h
  | .str _, h, f => by simp [pnB] at h
  | .flst _, h, f => by simp [pnB] at h
  | .loc _, h, f => by simp [pnB] at h
theorem pns_lay : ∀ {vs : List Val}, pnsB vs = true → ∀ f, ∃ ps, toDs f vs = some ps ∧ PyData.canLayAll0 ps = true ∧ PyData.depthAll ps ≤ dpsN vs ∧ ps.length = vs.length
  | [], _, f => ⟨[], rfl, by simp only [PyData.canLayAll0], by simp [PyData.depthAll], rfl⟩
  | v :: vs, h, f => by
    simp only [pnsB, Bool.and_eq_true] at h
    obtain ⟨p, a1, a2, a3⟩ := pn_lay h.1 f
    obtain ⟨ps, b1, b2, b3, b4⟩ := pns_lay h.2 f
    refine ⟨p :: ps, by simp only [toDs, a1, b1], ?_, ?_, by simp [b4]⟩
    · simp only [PyData.canLayAll0, a2, b2, Bool.and_self]
    · simp only [PyData.depthAll, dpsN]; omega
end
/-- a tuple of plain values is not () -/
theorem cmpNe_nil {vs : List Val} (h : pnsB vs = true) (hd : dpsN vs ≤ 60) (st : Sto) : cmpR .NotEq (.tup vs) (.tup []) st = .ok (.bl (!vs.isEmpty)) st := by
  obtain ⟨ps, e, h1, h2, h3⟩ := pns_lay h (locD st 4)
  have r : rdD st (.tup vs) = some (.tuple ps) := by
    unfold rdD
    simp only [Val.toD, e, Option.map_some]
  have r0 : rdD st (.tup []) = some (.tuple []) := rfl
  have sh : SeqAt.shaped (.tuple ps) = true := by
    simp only [SeqAt.shaped, PyData.canLay0, h1, Bool.true_and, PyData.depth]
    exact decide_eq_true (by omega)
  have sh0 : SeqAt.shaped (.tuple []) = true := by decide +kernel
  have ev : TT.eqV st (.tup vs) (.tup []) = some vs.isEmpty := by
    unfold TT.eqV
    simp only [r, r0, sh, sh0, and_self, if_true, PyData.eqv]
    cases ps with
    | nil =>
      cases vs with
      | nil => simp only [PyData.eqvAll, List.isEmpty_nil]
      | cons _ _ => simp at h3
    | cons p ps =>
      cases vs with
      | nil => simp at h3
      | cons _ _ => simp only [PyData.eqvAll, List.isEmpty_cons]
  simp only [cmpR, cmpV, ev, Option.map_some, liftO_some]
theorem pnsB_of : ∀ {vs : List Val}, (∀ v ∈ vs, pnB v = true) → pnsB vs = true
  | [], _ => rfl
  | v :: vs, h => by
    simp only [pnsB, h v List.mem_cons_self, pnsB_of fun u hu => h u (List.mem_cons_of_mem _ hu), Bool.and_self]
theorem dpsN_le {d : Nat} : ∀ {vs : List Val}, (∀ v ∈ vs, dpN v ≤ d) → dpsN vs ≤ d
  | [], _ => Nat.zero_le _
  | v :: vs, h => by
    have h1 := h v List.mem_cons_self
    have h2 := dpsN_le fun u hu => h u (List.mem_cons_of_mem _ hu)
    simp only [dpsN]
    omega
theorem tlsN_le {B : Nat} : ∀ {vs : List Val}, (∀ v ∈ vs, tlN v ≤ B) → tlsN vs ≤ vs.length * (B + 2)
  | [], _ => by simp [tlsN]
  | v :: vs, h => by
    have h1 := h v List.mem_cons_self
    have h2 := tlsN_le fun u hu => h u (List.mem_cons_of_mem _ hu)
    simp only [tlsN, List.length_cons, Nat.add_mul, Nat.one_mul]
    simp only [Nat.mul_add] at *
    omega
theorem cutL_mem {α : Type} {xs : List α} {lo hi : Option Int} {x : α} (h : x ∈ cutL xs lo hi) : x ∈ xs := by
  unfold cutL at h
  exact List.mem_of_mem_drop (List.mem_of_mem_take h)
end TT
namespace TT.K02
open PySem L2
theorem vals_pn : ∀ {D : Nat} {v x : Val} {p s : Int}, fm D v = some (p, s) → x ∈ vals D v → pnB x = true ∧ tlN x ≤ (2 + 5 * D) * (lots D v).length ∧ dpN x ≤ D
  | 0, v, x, p, s, h, hx => by cases h
  | D + 1, v, x, p, s, h, hx => by
    cases hl : lotN v with
    | some n =>
      obtain ⟨rfl, n1, n2⟩ := lotN_eq hl
      rw [vals_lot hl] at hx
      obtain ⟨i, hi, rfl⟩ := List.mem_map.mp hx
      have := rg_mem hi
      refine ⟨?_, ?_, ?_⟩
      · simp only [pnB, decide_eq_true_eq]; omega
      · rw [lots_lot n1 n2]
        simp only [tlN, List.length_cons, List.length_nil]
        omega
      · simp [dpN]
    | none =>
      have pm := lots_len h
      have ok := okM_fm _ _ _ _ h
      rw [vals_memb hl] at hx
      obtain ⟨r, hr, rfl⟩ := List.mem_map.mp hx
      obtain ⟨h1, h2⟩ := prodV_mem hr
      rw [lots_memb hl] at pm ⊢
      have mm := fm_memb h
      have key : ∀ (ms r : List Val), r.length = ms.length → (∀ q ∈ List.zip ms r, q.2 ∈ vals D q.1) → (∀ m ∈ ms, ∃ q t, fm D m = some (q, t)) → pnsB r = true ∧ tlsN r ≤ (4 + 5 * D) * lenS (fun m => (lots D m).length) ms ∧ dpsN r ≤ D := by
        intro ms
        induction ms with
        | nil =>
          intro r hr _ _
          cases r with
          | nil => exact ⟨rfl, by simp [tlsN], by simp [dpsN]⟩
          | cons _ _ => simp at hr
        | cons m ms ih =>
          intro r hr hz hm
          cases r with
          | nil => simp at hr
          | cons y r =>
            obtain ⟨q, t, hf⟩ := hm m List.mem_cons_self
            obtain ⟨a1, a2, a3⟩ := vals_pn hf (hz (m, y) (by simp))
            dsimp only at a1 a2 a3
            obtain ⟨b1, b2, b3⟩ := ih r (by simpa using hr) (fun q hq => hz q (by rw [List.zip_cons_cons]; exact List.mem_cons_of_mem _ hq)) (fun u hu => hm u (List.mem_cons_of_mem _ hu))
            have l1 := lots_len hf
            have l2 := (okM_fm _ _ _ _ hf).1
            refine ⟨by simp only [pnsB, a1, b1, Bool.and_self], ?_, ?_⟩
            · simp only [tlsN, lenS, List.map_cons, List.sum_cons] at *
              have : 1 ≤ (lots D m).length := by omega
              have e : (4 + 5 * D) * (lots D m).length = (2 + 5 * D) * (lots D m).length + 2 * (lots D m).length := by
                rw [← Nat.add_mul]
                congr 1
                omega
              rw [Nat.mul_add, e]
              omega
            · simp only [dpsN]
              omega
      obtain ⟨c1, c2, c3⟩ := key (memb D v) r h1 h2 mm
      refine ⟨by simpa [pnB] using c1, ?_, ?_⟩
      · simp only [tlN]
        have e : (2 + 5 * (D + 1)) * lenS (fun m => (lots D m).length) (memb D v) = (4 + 5 * D) * lenS (fun m => (lots D m).length) (memb D v) + 3 * lenS (fun m => (lots D m).length) (memb D v) := by
          rw [← Nat.add_mul]
          congr 1
          omega
        rw [e]
        omega
      · simp only [dpN]
        omega
theorem vals_bd {D : Nat} {v x : Val} {p s : Int} (hD : D ≤ 5) (h : fm D v = some (p, s)) (hx : x ∈ vals D v) : pnB x = true ∧ tlN x ≤ 6912 ∧ dpN x ≤ 5 := by
  obtain ⟨h1, h2, h3⟩ := vals_pn h hx
  have l := lots_len h
  have o := okM_fm _ _ _ _ h
  refine ⟨h1, ?_, by omega⟩
  have : (2 + 5 * D) * (lots D v).length ≤ 27 * 256 := Nat.mul_le_mul (by omega) (by omega)
  omega
theorem plc_pn : ∀ {D : Nat} {v : Val} {pl : List Val} {p s : Int}, D ≤ 5 → fm D v = some (p, s) → pl ∈ plc D v → pnsB pl = true ∧ tlsN pl ≤ D * 6914 ∧ dpsN pl ≤ 5
  | 0, v, pl, p, s, hD, h, hp => by cases h
  | D + 1, v, pl, p, s, hD, h, hp => by
    rcases fm_cases h with ⟨n, rfl, h1, h2, rfl, rfl⟩ | ⟨ks, rfl, h1, h2, al, rfl, rfl⟩ | ⟨a, b, q1, s1, q2, s2, rfl, ha, hb, h64, rfl, rfl⟩
    · rw [plc_lot h1 h2, List.mem_singleton] at hp
      subst hp
      exact ⟨rfl, by simp [tlsN], by simp [dpsN]⟩
    · rw [plc_row h1 h2] at hp
      obtain ⟨q, hq, h3⟩ := List.mem_flatMap.mp hp
      obtain ⟨r, h4, rfl⟩ := List.mem_map.mp h3
      obtain ⟨⟨i, hi, e⟩, hk⟩ := zip_range ks q hq
      obtain ⟨c1, c2, c3⟩ := plc_pn (by omega) (some_getD (al q.2 hk)) h4
      rw [e]
      refine ⟨?_, ?_, ?_⟩
      · simp only [pnsB, c1, Bool.and_true, pnB, decide_eq_true_eq]; omega
      · simp only [tlsN, tlN]; omega
      · simp only [dpsN, dpN]; omega
    · rw [plc_fun] at hp
      obtain ⟨x, hx, h3⟩ := List.mem_flatMap.mp hp
      obtain ⟨r, h4, rfl⟩ := List.mem_map.mp h3
      obtain ⟨c1, c2, c3⟩ := plc_pn (by omega) hb h4
      obtain ⟨d1, d2, d3⟩ := vals_bd (by omega) ha hx
      refine ⟨?_, ?_, ?_⟩
      · simp only [pnsB, c1, d1, Bool.and_self]
      · simp only [tlsN]; omega
      · simp only [dpsN]; omega
theorem repr_places {v : Val} {p s : Int} (h : fm 5 v = some (p, s)) (ps : List (List Val)) (hs : ∀ pl ∈ ps, pl ∈ plc 5 v) (hl : ps.length ≤ 256) : ∃ t, PyData.strOk t = true ∧ ∀ st, bltV .repr [.tup (ps.map .tup)] st = .ok (.str t) st := by
  have al : ∀ x ∈ ps.map Val.tup, pnB x = true ∧ tlN x ≤ 34573 ∧ dpN x ≤ 6 := by
    intro x hx
    obtain ⟨pl, hp, rfl⟩ := List.mem_map.mp hx
    obtain ⟨c1, c2, c3⟩ := plc_pn (by omega) h (hs pl hp)
    exact ⟨by simpa [pnB] using c1, by simp only [tlN]; omega, by simp only [dpN]; omega⟩
  refine repr_pn (v := .tup (ps.map .tup)) (by simp only [pnB]; exact pnsB_of fun x hx => (al x hx).1) ?_ ?_
  · simp only [dpN]
    have := dpsN_le fun x hx => (al x hx).2.2
    omega
  · simp only [tlN]
    have := tlsN_le fun x hx => (al x hx).2.1
    rw [List.length_map] at this
    have : ps.length * (34573 + 2) ≤ 256 * (34573 + 2) := Nat.mul_le_mul_right _ hl
    omega
theorem repr_lots {v : Val} {p s : Int} (h : fm 5 v = some (p, s)) : ∃ t, PyData.strOk t = true ∧ ∀ st q, st[q]? = some (.lst ((lots 5 v).map .int)) → bltV .repr [.loc q] st = .ok (.str t) st := by
  have l := lots_len h
  have o := okM_fm _ _ _ _ h
  have al : ∀ x ∈ (lots 5 v).map Val.int, pnB x = true ∧ tlN x ≤ 2 ∧ dpN x ≤ 0 := by
    intro x hx
    obtain ⟨n, hn, rfl⟩ := List.mem_map.mp hx
    have := lots_bd h n hn
    refine ⟨?_, Nat.le_refl _, Nat.le_refl _⟩
    simp only [pnB, decide_eq_true_eq]
    omega
  refine repr_pnl (pnsB_of fun x hx => (al x hx).1) ?_ ?_
  · have := dpsN_le fun x hx => (al x hx).2.2
    omega
  · have := tlsN_le fun x hx => (al x hx).2.1
    rw [List.length_map] at this
    omega
end TT.K02
set_option linter.all false
set_option maxHeartbeats 1000000
set_option maxRecDepth 100000
namespace TT
open PySem L2
theorem app_last {G h : Sto} {acc : List Val} {x : Val} (hl : acc.length < 16777216) : appV (.loc G.length) x (G ++ (.lst acc :: h)) = .ok .non (G ++ (.lst (acc ++ [x]) :: h)) := by
  have e : (G ++ (.lst acc :: h))[G.length]? = some (.lst acc) := by simp
  simp only [appV, e]
  rw [if_pos (by rw [sizeLine_eq]; exact hl)]
  simp [List.set_append]
theorem isL_last {G h : Sto} {acc : List Val} : isL (.loc G.length) (G ++ (.lst acc :: h)) = true := by simp [isL]
theorem add_tup {a b : List Val} (h : a.length + b.length ≤ 16777216) (st : Sto) : binV .Add (.tup a) (.tup b) st = .ok (.tup (a ++ b)) st := by
  simp only [binV]
  rw [if_pos (by rw [sizeLine_eq]; exact h)]
theorem blw_all {n : Nat} : ∀ {vs : List Val}, (∀ v ∈ vs, v.blw n = true) → Vals.blw n vs = true
  | [], _ => rfl
  | v :: vs, h => by simp only [Vals.blw, h v List.mem_cons_self, blw_all fun u hu => h u (List.mem_cons_of_mem _ hu), Bool.and_self]
theorem blw_mem {n : Nat} : ∀ {vs : List Val}, Vals.blw n vs = true → ∀ v ∈ vs, v.blw n = true
  | [], _, v, h => by cases h
  | u :: vs, h, v, hv => by
    simp only [Vals.blw, Bool.and_eq_true] at h
    rcases List.mem_cons.mp hv with rfl | hv
    · exact h.1
    · exact blw_mem h.2 v hv
theorem blw_tup {n : Nat} {vs : List Val} (h : ∀ v ∈ vs, v.blw n = true) : (Val.tup vs).blw n = true := by
  simp only [Val.blw]
  exact blw_all h
end TT
namespace TT.K02
open PySem L2
def near0 (pl : List Val) (n : Nat) : List Val := [.tup pl, .loc n, .tup (pl ++ [.int 0]), .tup (cutL pl none (some (-1))), .tup (cutL pl (some 1) none), .tup (pl ++ pl), .non, .int 0, .loc (n + 1), .str s_e, .tup [.non], .tup [.tup []]]
theorem near_one (C : CallF) (e0 e1 x3 x4 x5 : Option Val) (pl : List Val) (hl : pl.length ≤ 10) (st : Sto) :
    evS C t__law_near_1 [e0, e1, some (.tup pl), x3, x4, x5] st = .nx [e0, e1, some (.tup pl), some (.loc (st.length + 2)), x4, x5] (st ++ [.lst pl, .dK [], .lst (near0 pl st.length)]) := by
  have li : ∀ st, bltV .list [.tup pl] st = .ok (.loc st.length) (st ++ [.lst pl]) := fun st => rfl
  have a1 := fun st => add_tup (a := pl) (b := [.int 0]) (by simp only [List.length_cons, List.length_nil]; omega) st
  have a2 := fun st => add_tup (a := pl) (b := pl) (by omega) st
  simp only [t__law_near_1, evS, evE, evL, partR, negV]
  simp [li, a1, a2, slV, isNil, partV, setN, near0]
def nearX (pl : List Val) (r : Int) (o : Val) : Val := .tup (cutL pl none (some r) ++ [o] ++ cutL pl (some (r + 1)) none)
theorem near_loop (C : CallF) (e0 e1 : Option Val) (pl : List Val) (hl : pl.length ≤ 10) (r : Int) (G h : Sto) (M : Nat) (hM : (G ++ (Cell.lst [] :: h)).length ≤ M) (hp : ∀ x ∈ pl, x.blw M = true) : ∀ (os acc : List Val) (x5 : Option Val), (∀ o ∈ os, o.blw M = true) → (∀ x ∈ acc, x.blw M = true) → acc.length + os.length ≤ 1000 →
    ∃ ys y5, forLoop [] [5] true (evS C l__law_near_0) os [e0, e1, some (.tup pl), some (.loc G.length), some (.int r), x5] (G ++ (.lst acc :: h)) = .nx [e0, e1, some (.tup pl), some (.loc G.length), some (.int r), y5] (G ++ (.lst (acc ++ ys) :: h)) ∧ (∀ y ∈ ys, y.blw M = true) ∧ ys.length = os.length
  | [], acc, x5, _, _, _ => ⟨[], x5, by rw [List.append_nil]; exact forLoop_nil rfl, by simp, rfl⟩
  | o :: os, acc, x5, ho, ha, hz => by
    simp only [List.length_cons] at hz
    have hx : (nearX pl r o).blw M = true := by
      refine blw_tup fun u hu => ?_
      rcases List.mem_append.mp hu with hu | hu
      · rcases List.mem_append.mp hu with hu | hu
        · exact hp u (cutL_mem hu)
        · simp only [List.mem_cons, List.not_mem_nil, or_false] at hu
          subst hu
          exact ho _ List.mem_cons_self
      · exact hp u (cutL_mem hu)
    obtain ⟨ys, y5, ih, h2, h3⟩ := near_loop C e0 e1 pl hl r G h M hM hp os (acc ++ [nearX pl r o]) (some o) (fun u hu => ho u (List.mem_cons_of_mem _ hu)) (fun u hu => by
      rcases List.mem_append.mp hu with hu | hu
      · exact ha u hu
      · simp only [List.mem_cons, List.not_mem_nil, or_false] at hu
        subst hu
        exact hx) (by simp only [List.length_append, List.length_cons, List.length_nil]; omega)
    refine ⟨nearX pl r o :: ys, y5, ?_, ?_, by simp [h3]⟩
    · have l1 := cutL_len pl none (some r)
      have l2 := cutL_len pl (some (r + 1)) none
      have a1 := fun st => add_tup (a := cutL pl none (some r)) (b := [o]) (by simp only [List.length_cons, List.length_nil]; omega) st
      have a2 := fun st => add_tup (a := cutL pl none (some r) ++ [o]) (b := cutL pl (some (r + 1)) none) (by simp only [List.length_append, List.length_cons, List.length_nil]; omega) st
      have il := isL_last (G := G) (h := h) (acc := acc)
      have ap := app_last (G := G) (h := h) (acc := acc) (x := .tup (cutL pl none (some r) ++ [o] ++ cutL pl (some (r + 1)) none)) (by omega)
      rw [forLoop_cons (env' := [e0, e1, some (.tup pl), some (.loc G.length), some (.int r), some o]) (env1 := [e0, e1, some (.tup pl), some (.loc G.length), some (.int r), some o]) (st1 := G ++ (.lst (acc ++ [nearX pl r o]) :: h)) rfl rfl (by
        simp only [l__law_near_0, evS, evE, evL, partR]
        simp only [isNil, Bool.false_eq_true, if_false, if_true, List.getElem?_cons_succ, List.getElem?_cons_zero, Res.bind_ok, il, slV, partV, liftO_some, List.length_cons, List.length_nil, sizeLine_eq, Nat.reduceAdd, Nat.reduceLeDiff, binV_add, a1, a2, ap, Res.fl_ok, nearX]), ih]
      simp
    · intro y hy
      rcases List.mem_cons.mp hy with rfl | hy
      · exact hx
      · exact h2 y hy
theorem near_two (L : Nat) (p : Sto) (a b c : Int) (g2 : Sto) (N : Nat) (hj : JB N a b c) (hN : N ≤ 2 ^ 50) (e1 x4 x5 : Option Val) (pl : List Val) (h1 : 1 ≤ pl.length) (hl : pl.length ≤ 10) (hpn : pnsB pl = true) (hdp : dpsN pl ≤ 60) (acc : List Val) (hz : acc.length ≤ 20)
    (hp : ∀ n, ∀ x ∈ pl, x.blw n = true) (hacc : ∀ x ∈ acc, x.blw (p.length + 1 + g2.length + 1) = true) :
    ∃ a' c' ys h y4 y5, evS (run T.fns (L + 1)) t__law_near_2 [some (.loc p.length), e1, some (.tup pl), some (.loc (p.length + 1 + g2.length)), x4, x5] (JS p a b c (g2 ++ [.lst acc])) =
      .nx [some (.loc p.length), e1, some (.tup pl), some (.loc (p.length + 1 + g2.length)), y4, y5] (JS p a' b c' (g2 ++ (.lst (acc ++ ys) :: h))) ∧ (∀ y ∈ ys, y.blw (p.length + 1 + g2.length + 1 + h.length) = true) ∧ JB (N + 1) a' b c' := by
  obtain ⟨r, a1, c1, r1, r2, r3, r4⟩ := run_pull L p a b c (g2 ++ [.lst acc]) N pl.length hj hN (by omega) (by omega)
  have hr : r.toNat < pl.length := by omega
  have gl : ∀ a c, (JS p a b c g2).length = p.length + 1 + g2.length := fun a c => JS_len _ _ _ _ _
  have ne := fun st => cmpNe_nil hpn hdp st
  have em : pl.isEmpty = false := by
    cases pl with
    | nil => simp at h1
    | cons _ _ => rfl
  have ix : ∀ st, idxV (.tup pl) (.int r) st = .ok pl[r.toNat] st := fun st => by
    simp [idxV, seqOf, L2.atI, L2.ixN, r2, r3, hr]
  have hy := hp (p.length + 1 + g2.length + 1 + 1) pl[r.toNat] (List.getElem_mem hr)
  obtain ⟨ys, y5, lp, k1, k2⟩ := near_loop (run T.fns (L + 1)) (some (.loc p.length)) e1 pl hl r (JS p a1 b c1 g2) [.lst [pl[r.toNat]]] (p.length + 1 + g2.length + 1 + 1) (by simp only [List.length_append, JS_len, List.length_cons, List.length_nil]; omega) (hp _)
    [.int 0, .int 1, .int 2, .int 7, .int (0 - 1), .bl true, .bl false, .non, .str s_0, .tup [], .tup [.int 0], .tup [.int 0, .int 1], .tup [.int 1, .int 0, .int 1], .tup [pl[r.toNat]], .loc (p.length + 1 + g2.length + 1)] acc x5
    (by
      intro o ho
      simp only [List.mem_cons, List.not_mem_nil, or_false] at ho
      rcases ho with rfl | rfl | rfl | rfl | rfl | rfl | rfl | rfl | rfl | rfl | rfl | rfl | rfl | rfl | rfl <;> first
        | rfl
        | (simp only [Val.blw, Vals.blw, hy, Bool.and_self]; done)
        | (simp only [Val.blw, decide_eq_true_eq]; omega))
    (fun x hx => blw_mono (hacc x hx) (by omega)) (by simp only [List.length_cons, List.length_nil]; omega)
  simp only [List.length_cons, List.length_nil] at k2
  have l1 := cutL_len pl none (some r)
  have l2 := cutL_len pl (some (r + 1)) none
  have a2 := fun st => add_tup (a := cutL pl none (some r)) (b := cutL pl (some (r + 1)) none) (by omega) st
  have il := isL_last (G := JS p a1 b c1 g2) (h := [.lst [pl[r.toNat]]]) (acc := acc ++ ys)
  have ap := app_last (G := JS p a1 b c1 g2) (h := [.lst [pl[r.toNat]]]) (acc := acc ++ ys) (x := .tup (cutL pl none (some r) ++ cutL pl (some (r + 1)) none)) (by simp only [List.length_append]; omega)
  have al : JS p a1 b c1 (g2 ++ [.lst acc]) ++ [.lst [pl[r.toNat]]] = JS p a1 b c1 g2 ++ (.lst acc :: [.lst [pl[r.toNat]]]) := by
    rw [JS_app, JS_app]
    simp
  have ln : (JS p a1 b c1 (g2 ++ [.lst acc])).length = p.length + 1 + g2.length + 1 := by
    simp only [JS_len, List.length_append, List.length_cons, List.length_nil]
    omega
  rw [gl] at lp il ap
  refine ⟨a1, c1, ys ++ [.tup (cutL pl none (some r) ++ cutL pl (some (r + 1)) none)], [.lst [pl[r.toNat]]], some (.int r), y5, ?_, ?_, r4⟩
  · rw [t__law_near_2, iff_yes (st1 := JS p a b c (g2 ++ [.lst acc])) (by
      simp only [evE, evL]
      simp [ne, em])]
    rw [set_seq (v := .int r) (st1 := JS p a1 b c1 (g2 ++ [.lst acc])) (by
      simp only [evE, evL]
      simp only [List.getElem?_cons_succ, List.getElem?_cons_zero, Res.bind_ok, len_tup, r1])]
    rw [seq_nx (env1 := [some (.loc p.length), e1, some (.tup pl), some (.loc (p.length + 1 + g2.length)), some (.int r), y5]) (st1 := JS p a1 b c1 g2 ++ (.lst (acc ++ ys) :: [.lst [pl[r.toNat]]])) (by
      simp only [evS, evE, evL, evI, iterR]
      simp only [setN, List.set_cons_succ, List.set_cons_zero, List.getElem?_cons_succ, List.getElem?_cons_zero, Res.bind_ok, ix, List.length_cons, List.length_nil, sizeLine_eq, Nat.zero_le, if_true, binV_sub, alloc_ok, Nat.reduceLeDiff, Nat.reduceAdd, items_tup, liftO_some, Res.fl_ok]
      rw [ln, al]
      simpa using lp)]
    rw [expr_seq (v := .non) (st1 := JS p a1 b c1 g2 ++ (.lst (acc ++ ys ++ [.tup (cutL pl none (some r) ++ cutL pl (some (r + 1)) none)]) :: [.lst [pl[r.toNat]]])) (by
      simp only [evE, evL, partR]
      simp only [isNil, Bool.false_eq_true, if_false, if_true, List.getElem?_cons_succ, List.getElem?_cons_zero, Res.bind_ok, il, slV, partV, liftO_some, binV_add, a2, ap])]
    simp only [evS]
    rw [JS_app]
    simp
  · intro y hy'
    rcases List.mem_append.mp hy' with h | h
    · exact k1 y h
    · simp only [List.mem_cons, List.not_mem_nil, or_false] at h
      subst h
      refine blw_tup fun u hu => ?_
      rcases List.mem_append.mp hu with hu | hu
      · exact hp _ u (cutL_mem hu)
      · exact hp _ u (cutL_mem hu)
theorem run_law_near (L : Nat) (p : Sto) (a b c : Int) (g : Sto) (N : Nat) (hj : JB N a b c) (hN : N + 2 ≤ 2 ^ 50) (qp : Nat) (v : Val) (pp ss : Int) (hf : fm 5 v = some (pp, ss)) (hq : ∀ a c, (JS p a b c g)[qp]? = some (.lst ((plc 5 v).map .tup))) :
    ∃ q xs h a' c', run T.fns (L + 3) i__law_near [.loc p.length, .loc qp] (JS p a b c g) = .ok (.loc q) (JS p a' b c' (g ++ h)) ∧ (JS p a' b c' (g ++ h))[q]? = some (.lst xs) ∧ (∀ x ∈ xs, x.blw (p.length + 1 + (g ++ h).length) = true) ∧ JB (N + 2) a' b c' := by
  rw [run_succ (fn := d__law_near.fn) rfl rfl]
  have e : ∀ Q, endOf (JS p a b c g) (evS (run T.fns (L + 2)) b__law_near [some (.loc p.length), some (.loc qp), none, none, none, none] (JS p a b c g)) = Q → endOf (JS p a b c g) (evS (run T.fns (L + 2)) d__law_near.fn.body (entry d__law_near.fn.ns [.loc p.length, .loc qp]) (JS p a b c g)) = Q := fun Q h => h
  have pz := plc_len hf
  have pm := okM_fm _ _ _ _ hf
  obtain ⟨x, a1, c1, o1, o2, o3⟩ := run_one_of L p a b c g N qp ((plc 5 v).map .tup) hj (by omega) hq (by rw [List.length_map]; omega) (by rw [List.length_map]; omega) (fun x hx => blw_mem (plcs_blw 5 v _) x hx)
  obtain ⟨pl, hpl, rfl⟩ := List.mem_map.mp o2
  have plen := plc_mem hpl
  obtain ⟨pn, _, pd⟩ := plc_pn (by omega) hf hpl
  have pb : ∀ n, ∀ x ∈ pl, x.blw n = true := fun n x hx => blw_mem (plc_blw hpl n) x hx
  have n1 := near_one (run T.fns (L + 2)) (some (.loc p.length)) (some (.loc qp)) none none none pl (by omega) (JS p a1 b c1 g)
  have gl : (JS p a1 b c1 g).length = p.length + 1 + g.length := JS_len _ _ _ _ _
  rw [gl, JS_app] at n1
  have n0b : ∀ x ∈ near0 pl (p.length + 1 + g.length), x.blw (p.length + 1 + (g ++ [Cell.lst pl, Cell.dK []]).length + 1) = true := by
    intro x hx
    simp only [List.length_append, List.length_cons, List.length_nil]
    simp only [near0, List.mem_cons, List.not_mem_nil, or_false] at hx
    rcases hx with rfl | rfl | rfl | rfl | rfl | rfl | rfl | rfl | rfl | rfl | rfl | rfl
    · exact blw_tup (pb _)
    · simp only [Val.blw, decide_eq_true_eq]; omega
    · refine blw_tup fun u hu => ?_
      rcases List.mem_append.mp hu with hu | hu
      · exact pb _ u hu
      · simp only [List.mem_cons, List.not_mem_nil, or_false] at hu
        subst hu
        rfl
    · exact blw_tup fun u hu => pb _ u (cutL_mem hu)
    · exact blw_tup fun u hu => pb _ u (cutL_mem hu)
    · refine blw_tup fun u hu => ?_
      rcases List.mem_append.mp hu with hu | hu <;> exact pb _ u hu
    · rfl
    · rfl
    · simp only [Val.blw, decide_eq_true_eq]; omega
    · rfl
    · rfl
    · rfl
  have unc : ∀ ys : List Val, Vals.blw (JS p a b c g).length (near0 pl (p.length + 1 + g.length) ++ ys) = false := by
    intro ys
    rw [JS_len]
    cases bb : Vals.blw (p.length + 1 + g.length) (near0 pl (p.length + 1 + g.length) ++ ys) with
    | false => rfl
    | true =>
      have := blw_mem bb (.loc (p.length + 1 + g.length)) (by simp [near0])
      simp [Val.blw] at this
  have st0 : ∀ Q, endOf (JS p a b c g) (evS (run T.fns (L + 2)) (.seq t__law_near_2 (.seq t__law_near_3 .skip)) [some (.loc p.length), some (.loc qp), some (.tup pl), some (.loc (p.length + 1 + g.length + 2)), none, none] (JS p a1 b c1 (g ++ [.lst pl, .dK [], .lst (near0 pl (p.length + 1 + g.length))]))) = Q →
      endOf (JS p a b c g) (evS (run T.fns (L + 2)) b__law_near [some (.loc p.length), some (.loc qp), none, none, none, none] (JS p a b c g)) = Q := by
    intro Q h
    rw [b__law_near, t__law_near_0, set_seq (v := .tup pl) (st1 := JS p a1 b c1 g) (by
      simp only [evE, evL]
      simp only [List.getElem?_cons_succ, List.getElem?_cons_zero, Res.bind_ok, o1])]
    simp only [setN, List.set_cons_succ, List.set_cons_zero]
    rw [seq_nx n1]
    exact h
  have F : p.length + 1 + (g ++ [Cell.lst pl, .dK []]).length = p.length + 1 + g.length + 2 := by
    simp only [List.length_append, List.length_cons, List.length_nil]
    omega
  cases hpe : pl with
  | nil =>
    subst hpe
    refine ⟨p.length + 1 + g.length + 2, near0 [] (p.length + 1 + g.length), [.lst [], .dK [], .lst (near0 [] (p.length + 1 + g.length))], a1, c1, e _ (st0 _ ?_), ?_, ?_, o3.mono (by omega)⟩
    · have ne := fun st => cmpNe_nil (vs := []) rfl (by decide) st
      have at2 : (JS p a1 b c1 (g ++ [.lst [], .dK [], .lst (near0 [] (p.length + 1 + g.length))]))[p.length + 1 + g.length + 2]? = some (.lst (near0 [] (p.length + 1 + g.length) ++ [])) := by
        rw [← JS_app, ← gl, at_end, List.append_nil]
        rfl
      have en := endOf_uncut (st := JS p a b c g) (st' := JS p a1 b c1 (g ++ [.lst [], .dK [], .lst (near0 [] (p.length + 1 + g.length))])) (q := p.length + 1 + g.length + 2) (by rw [JS_len]; omega) at2 (unc [])
      rw [t__law_near_2, iff_no_seq (st1 := JS p a1 b c1 (g ++ [.lst [], .dK [], .lst (near0 [] (p.length + 1 + g.length))])) (by
        simp only [evE, evL]
        simp [ne]), t__law_near_3, ret_seq (v := .loc (p.length + 1 + g.length + 2)) (st1 := JS p a1 b c1 (g ++ [.lst [], .dK [], .lst (near0 [] (p.length + 1 + g.length))])) (by simp only [evE]; rfl)]
      exact en
    · rw [← JS_app, ← gl, at_end]
      rfl
    · intro x hx
      have := n0b x hx
      simp only [List.length_append, List.length_cons, List.length_nil] at this ⊢
      exact this
  | cons y pl' =>
    have h1 : 1 ≤ pl.length := by rw [hpe]; simp
    obtain ⟨a2, c2, ys, h, y4, y5, m1, m2, m3⟩ := near_two (L + 1) p a1 b c1 (g ++ [.lst pl, .dK []]) (N + 1) o3 (by omega) (some (.loc qp)) none none pl h1 (by omega) pn (by omega) (near0 pl (p.length + 1 + g.length)) (by simp [near0]) pb n0b
    rw [F] at m1 m2
    have at2 : (JS p a2 b c2 (g ++ [.lst pl, .dK []] ++ (.lst (near0 pl (p.length + 1 + g.length) ++ ys) :: h)))[p.length + 1 + g.length + 2]? = some (.lst (near0 pl (p.length + 1 + g.length) ++ ys)) := by
      have k : p.length + 1 + g.length + 2 = (JS p a2 b c2 (g ++ [Cell.lst pl, Cell.dK []])).length := by rw [JS_len, F]
      rw [← JS_app, k, at_end0]
      rfl
    refine ⟨p.length + 1 + g.length + 2, near0 pl (p.length + 1 + g.length) ++ ys, [.lst pl, .dK []] ++ (.lst (near0 pl (p.length + 1 + g.length) ++ ys) :: h), a2, c2, e _ (st0 _ ?_), ?_, ?_, m3⟩
    · have en := endOf_uncut (st := JS p a b c g) (q := p.length + 1 + g.length + 2) (by rw [JS_len]; omega) at2 (unc ys)
      rw [show g ++ [Cell.lst pl, Cell.dK [], Cell.lst (near0 pl (p.length + 1 + g.length))] = g ++ [Cell.lst pl, Cell.dK []] ++ [Cell.lst (near0 pl (p.length + 1 + g.length))] by simp]
      rw [seq_nx m1, t__law_near_3, ret_seq (v := .loc (p.length + 1 + g.length + 2)) (st1 := JS p a2 b c2 (g ++ [.lst pl, .dK []] ++ (.lst (near0 pl (p.length + 1 + g.length) ++ ys) :: h))) (by simp only [evE]; rfl)]
      rw [List.append_assoc] at en ⊢
      exact en
    · rw [← List.append_assoc]
      exact at2
    · intro x hx
      rcases List.mem_append.mp hx with hx | hx
      · refine blw_mono (n0b x hx) ?_
        simp only [List.length_append, List.length_cons, List.length_nil]
        omega
      · refine blw_mono (m2 x hx) ?_
        simp only [List.length_append, List.length_cons, List.length_nil]
        omega
end TT.K02
set_option linter.all false
set_option maxHeartbeats 1000000
set_option maxRecDepth 100000
namespace TT.K02
open PySem L2
theorem right_inner (L : Nat) (v : Val) (d : Nat) (hd : d ≤ 60) (h : okK d v) (st : Sto) (q : Nat) (xs : List Val) (hq : st[q]? = some (.lst xs)) (hx : ∀ x ∈ xs, x.blw st.length = true) (e0 e2 e3 e4 e6 : Option Val) : ∀ (rest : List Val), (∀ x ∈ rest, x ∈ xs) → ∀ x5, ∃ y5,
    forLoop [(q, xs)] [5] true (evS (run T.fns (L + 44)) l__law_right_4) rest [e0, some v, e2, e3, e4, x5, e6] st = .nx [e0, some v, e2, e3, e4, y5, e6] st
  | [], _, x5 => ⟨x5, forLoop_nil (by simp [wOk, hq])⟩
  | x :: rest, hm, x5 => by
    obtain ⟨y5, ih⟩ := right_inner L v d hd h st q xs hq hx e0 e2 e3 e4 e6 rest (fun u hu => hm u (List.mem_cons_of_mem _ hu)) (some x)
    have xb := hx x (hm x List.mem_cons_self)
    have r1 := run_is_place (L + 4) v x st d hd h xb
    have r2 := run_law_is_place (L + 13) v x st d hd h xb
    refine ⟨y5, ?_⟩
    rw [forLoop_cons (env' := [e0, some v, e2, e3, e4, some x, e6]) (env1 := [e0, some v, e2, e3, e4, some x, e6]) (st1 := st) (by simp [wOk, hq]) rfl (by
      simp only [l__law_right_4, evS, evE, evL, evB]
      simp [r1, r2]), ih]
theorem right_turns (L : Nat) (p : Sto) (b : Int) (g : Sto) (N : Nat) (hN : N + 8 ≤ 2 ^ 50) (v : Val) (d : Nat) (hd : d ≤ 60) (h : okK d v) (e3 e6 : Option Val) : ∀ (n : Nat) (lo a c : Int) (G : Sto) (x4 x5 : Option Val), n ≤ 4 → JB (N + 8 - 2 * n) a b c →
    ∃ a' c' G' y4 y5, forLoop [] [4] true (evS (run T.fns (L + 44)) l__law_right_3) (rangeL lo n) [some (.loc p.length), some v, some (.loc (p.length + 1 + g.length)), e3, x4, x5, e6] (JS p a b c (g ++ (.lst ((plc 5 v).map .tup) :: G))) =
      .nx [some (.loc p.length), some v, some (.loc (p.length + 1 + g.length)), e3, y4, y5, e6] (JS p a' b c' (g ++ (.lst ((plc 5 v).map .tup) :: G'))) ∧ JB (N + 8) a' b c'
  | 0, lo, a, c, G, x4, x5, _, hj => ⟨a, c, G, x4, x5, forLoop_nil rfl, hj⟩
  | n + 1, lo, a, c, G, x4, x5, hn, hj => by
    have h' := h
    obtain ⟨hg, pp, ss, hf⟩ := h'
    have hq : ∀ a c, (JS p a b c (g ++ (.lst ((plc 5 v).map .tup) :: G)))[p.length + 1 + g.length]? = some (.lst ((plc 5 v).map .tup)) := fun a c => by
      rw [← JS_app, ← JS_len p a b c g, at_end0]
      rfl
    obtain ⟨q, xs, hh, a1, c1, r1, r2, r3, r4⟩ := run_law_near (L + 41) p a b c (g ++ (.lst ((plc 5 v).map .tup) :: G)) (N + 8 - 2 * (n + 1)) hj (by omega) (p.length + 1 + g.length) v pp ss hf hq
    obtain ⟨y5, lp⟩ := right_inner L v d hd h (JS p a1 b c1 (g ++ (.lst ((plc 5 v).map .tup) :: G) ++ hh)) q xs r2 (by rw [JS_len]; exact r3) (some (.loc p.length)) (some (.loc (p.length + 1 + g.length))) e3 (some (.int lo)) e6 xs (fun _ h => h) x5
    obtain ⟨a2, c2, G2, y4, y5', e1, e2⟩ := right_turns L p b g N hN v d hd h e3 e6 n (lo + 1) a1 c1 (G ++ hh) (some (.int lo)) y5 (by omega) (by
      rw [show N + 8 - 2 * n = N + 8 - 2 * (n + 1) + 2 by omega]
      exact r4)
    refine ⟨a2, c2, G2, y4, y5', ?_, e2⟩
    have im : itemsOf (JS p a1 b c1 (g ++ (.lst ((plc 5 v).map .tup) :: G) ++ hh)) (.loc q) = some (xs, [(q, xs)]) := by simp only [itemsOf, r2]
    rw [rangeL_succ, forLoop_cons (env' := [some (.loc p.length), some v, some (.loc (p.length + 1 + g.length)), e3, some (.int lo), x5, e6]) (env1 := [some (.loc p.length), some v, some (.loc (p.length + 1 + g.length)), e3, some (.int lo), y5, e6]) (st1 := JS p a1 b c1 (g ++ (.lst ((plc 5 v).map .tup) :: G) ++ hh)) rfl rfl (by
      simp only [l__law_right_3, evS, evE, evL, evI, iterR]
      simp only [List.getElem?_cons_succ, List.getElem?_cons_zero, Res.bind_ok, r1, im, liftO_some, Res.fl_ok, lp])]
    rw [show g ++ (Cell.lst ((plc 5 v).map .tup) :: G) ++ hh = g ++ (.lst ((plc 5 v).map .tup) :: (G ++ hh)) by simp]
    exact e1
theorem run_law_right (L : Nat) (p : Sto) (a b c : Int) (g : Sto) (N : Nat) (hj : JB N a b c) (hN : N + 8 ≤ 2 ^ 50) (v : Val) (d : Nat) (hd : d ≤ 60) (h : okK d v) :
    ∃ a' c', run T.fns (L + 45) i__law_right [.loc p.length, v] (JS p a b c g) = .ok (.bl true) (JS p a' b c' g) ∧ JB (N + 8) a' b c' := by
  have h' := h
  obtain ⟨hg, pp, ss, hf⟩ := h'
  rw [run_succ (fn := d__law_right.fn) rfl rfl]
  have e : ∀ Q, endOf (JS p a b c g) (evS (run T.fns (L + 44)) b__law_right [some (.loc p.length), some v, none, none, none, none, none] (JS p a b c g)) = Q → endOf (JS p a b c g) (evS (run T.fns (L + 44)) d__law_right.fn.body (entry d__law_right.fn.ns [.loc p.length, v]) (JS p a b c g)) = Q := fun Q h => h
  have gl : (JS p a b c g).length = p.length + 1 + g.length := JS_len _ _ _ _ _
  have lp := run_law_places 5 (L + 44) v (JS p a b c g) d pp ss (by omega) (by omega) hg hd hf
  rw [gl, JS_app] at lp
  have po := fun st => run_places_of (L + 4) v st d hd h
  have ap := fun st => run_asked_places (L + 4) v st d hd h
  have pc := fun st => run_place_count (L + 27) v st hg hd hf
  have pz := plc_len hf
  obtain ⟨t1, tk1, rp1⟩ := repr_places hf (plc 5 v) (fun _ h => h) (by have := okM_fm _ _ _ _ hf; omega)
  obtain ⟨t2, tk2, rp2⟩ := repr_places hf (asks 5 v) (fun _ h => (List.mem_filter.mp h).1) (by
    have := okM_fm _ _ _ _ hf
    have := List.length_filter_le (fun pl => decide (1 < lnv (lead v pl))) (plc 5 v)
    unfold asks
    omega)
  obtain ⟨t3, tk3, rp3⟩ := repr_lots hf
  have ne1 : ∀ st, cmpR .NotEq (.str t1) (.str t1) st = .ok (.bl false) st := fun st => by rw [cmpNe_str tk1 tk1]; simp
  have ne2 : ∀ st, cmpR .NotEq (.str t2) (.str t2) st = .ok (.bl false) st := fun st => by rw [cmpNe_str tk2 tk2]; simp
  have ne3 : ∀ st, cmpR .NotEq (.str t3) (.str t3) st = .ok (.bl false) st := fun st => by rw [cmpNe_str tk3 tk3]; simp
  have q1 : ∀ a c G, (JS p a b c (g ++ (.lst ((plc 5 v).map .tup) :: G)))[p.length + 1 + g.length]? = some (.lst ((plc 5 v).map .tup)) := fun a c G => by
    rw [← JS_app, ← JS_len p a b c g, at_end0]
    rfl
  have tp : ∀ G, bltV .tuple [.loc (p.length + 1 + g.length)] (JS p a b c (g ++ (.lst ((plc 5 v).map .tup) :: G))) = .ok (.tup ((plc 5 v).map .tup)) (JS p a b c (g ++ (.lst ((plc 5 v).map .tup) :: G))) := fun G => by simp only [bltV, seqOf, q1]
  have ln : ∀ G, bltV .len [.loc (p.length + 1 + g.length)] (JS p a b c (g ++ (.lst ((plc 5 v).map .tup) :: G))) = .ok (.int pp) (JS p a b c (g ++ (.lst ((plc 5 v).map .tup) :: G))) := fun G => by
    simp only [bltV, seqOf, q1, List.length_map, pz]
  have im : ∀ G, itemsOf (JS p a b c (g ++ (.lst ((plc 5 v).map .tup) :: G))) (.loc (p.length + 1 + g.length)) = some ((plc 5 v).map .tup, [(p.length + 1 + g.length, (plc 5 v).map .tup)]) := fun G => by simp only [itemsOf, q1]
  have wk : ∀ G, wOk [(p.length + 1 + g.length, (plc 5 v).map .tup)] (JS p a b c (g ++ (.lst ((plc 5 v).map .tup) :: G))) = true := fun G => by simp [wOk, q1]
  have beh : ∀ pl ∈ plc 5 v, ∀ st, run T.fns (L + 44) i__law_behind [v, .tup pl] st = .ok (.tup [.str s_lot, .int (lnv (lead v pl))]) st := fun pl hp st => by
    obtain ⟨n, e1, _, _⟩ := plc_lk (by omega) hf hp
    have := run_law_behind (L + 43) v pl (lk n) st d h e1
    rw [e1]
    exact this
  have lat : ∀ pl ∈ plc 5 v, ∀ st, run T.fns (L + 44) i_lot_at [v, .tup pl] st = .ok (.int (lnv (lead v pl))) st := fun pl hp st => run_lot_at (L + 4) v pl st d hd h hp
  -- the asked ones
  have lc1 := lcLoop_filter (w := [(p.length + 1 + g.length, (plc 5 v).map .tup)]) (tg := [6]) (one := true) (c := evE (run T.fns (L + 44)) k__law_right_0) (elt := evE (run T.fns (L + 44)) e__law_right_0) (env := wipeV [some (.loc p.length), some v, some (.loc (p.length + 1 + g.length)), none, none, none, none] [6]) (st := JS p a b c (g ++ (.lst ((plc 5 v).map .tup) :: [])))
    (fun u => u) (fun u => match u with
      | .tup pl => decide (1 < lnv (lead v pl))
      | _ => false) (wk []) ((plc 5 v).map .tup) (fun u hu => by
      obtain ⟨pl, hpl, rfl⟩ := List.mem_map.mp hu
      refine ⟨_, rfl, ?_, ?_⟩
      · refine ⟨.bl (decide (1 < lnv (lead v pl))), ?_, rfl⟩
        simp only [k__law_right_0, evE, evL]
        simp only [setN, wipeV, List.set_cons_succ, List.set_cons_zero, List.getElem?_cons_succ, List.getElem?_cons_zero, Res.bind_ok, beh pl hpl, idx1, cmpR_gt]
      · simp only [e__law_right_0, evE]
        simp [setN, wipeV])
  have mm : ((((plc 5 v).map Val.tup).filter fun u => match u with
      | .tup pl => decide (1 < lnv (lead v pl))
      | _ => false).map fun u => u) = (asks 5 v).map .tup := by
    rw [List.filter_map, List.map_map]
    rfl
  rw [mm] at lc1
  have lotsE : ((plc 5 v).map Val.tup).map (fun u => match u with
      | .tup pl => Val.int (lnv (lead v pl))
      | u => u) = (lots 5 v).map .int := by
    rw [lots_plc (by omega) hf, List.map_map, List.map_map]
    rfl
  have lc2 := fun cc G env => lcLoop_mapW (w := [(p.length + 1 + g.length, (plc 5 v).map .tup)]) (tg := [6]) (one := true) (c := cc) (elt := evE (run T.fns (L + 44)) e__law_right_1) (env := [some (.loc p.length), some v, some (.loc (p.length + 1 + g.length)), env, none, none, none]) (st := JS p a b c (g ++ (.lst ((plc 5 v).map .tup) :: G))) (fun u => match u with
      | .tup pl => .int (lnv (lead v pl))
      | u => u) (wk G) ((plc 5 v).map .tup) (fun u hu => by
      obtain ⟨pl, hpl, rfl⟩ := List.mem_map.mp hu
      refine ⟨_, rfl, ?_⟩
      simp only [e__law_right_1, evE, evL]
      simp only [setN, List.set_cons_succ, List.set_cons_zero, List.getElem?_cons_succ, List.getElem?_cons_zero, Res.bind_ok, lat pl hpl])
  rw [lotsE] at lc2
  have lc3 := fun cc G env => lcLoop_mapW (w := [(p.length + 1 + g.length, (plc 5 v).map .tup)]) (tg := [6]) (one := true) (c := cc) (elt := evE (run T.fns (L + 44)) e__law_right_2) (env := [some (.loc p.length), some v, some (.loc (p.length + 1 + g.length)), env, none, none, none]) (st := JS p a b c (g ++ (.lst ((plc 5 v).map .tup) :: G))) (fun u => match u with
      | .tup pl => .int (lnv (lead v pl))
      | u => u) (wk G) ((plc 5 v).map .tup) (fun u hu => by
      obtain ⟨pl, hpl, rfl⟩ := List.mem_map.mp hu
      refine ⟨_, rfl, ?_⟩
      simp only [e__law_right_2, evE, evL]
      simp only [setN, List.set_cons_succ, List.set_cons_zero, List.getElem?_cons_succ, List.getElem?_cons_zero, Res.bind_ok, beh pl hpl, idx1])
  rw [lotsE] at lc3
  have grow : ∀ G x, JS p a b c (g ++ (.lst ((plc 5 v).map .tup) :: G)) ++ [x] = JS p a b c (g ++ (.lst ((plc 5 v).map .tup) :: (G ++ [x]))) := fun G x => by rw [JS_app]; simp
  have glen : ∀ G, (JS p a b c (g ++ (.lst ((plc 5 v).map .tup) :: G))).length = p.length + 1 + g.length + 1 + G.length := fun G => by
    simp only [JS_len, List.length_append, List.length_cons]
    omega
  have at3 : ∀ (G : Sto) x, (JS p a b c (g ++ (.lst ((plc 5 v).map .tup) :: (G ++ [x]))))[p.length + 1 + g.length + 1 + G.length]? = some x := fun G x => by
    rw [← grow, ← glen G, at_end0]
    rfl
  obtain ⟨a1, c1, G1, y4, y5, lpT, hj1⟩ := right_turns L p b g N hN v d hd h (some (.loc (p.length + 1 + g.length + 1))) none 4 0 a c ([] ++ [.lst ((asks 5 v).map .tup)] ++ [.lst ((lots 5 v).map .int)] ++ [.lst ((lots 5 v).map .int)]) none none (by omega) (by simpa using hj)
  refine ⟨a1, c1, e _ ?_, hj1⟩
  have en := JS_end p a b c a1 b c1 g (.lst ((plc 5 v).map .tup) :: G1) (.bl true) rfl
  rw [b__law_right, t__law_right_0, set_seq (v := .loc (p.length + 1 + g.length)) (st1 := JS p a b c (g ++ (.lst ((plc 5 v).map .tup) :: []))) (by
    simp only [evE, evL]
    simp only [List.getElem?_cons_succ, List.getElem?_cons_zero, Res.bind_ok, lp])]
  simp only [setN, List.set_cons_succ, List.set_cons_zero]
  rw [t__law_right_1, iff_no_seq (st1 := JS p a b c (g ++ (.lst ((plc 5 v).map .tup) :: []))) (by
    simp only [evE, evL]
    simp only [List.getElem?_cons_succ, List.getElem?_cons_zero, Res.bind_ok, po, rp1, tp, ne1, truthR_b, Bool.false_eq_true, if_false, pc, ln, cmpR_neI, beq_self_eq_true, Bool.not_true])]
  rw [t__law_right_2, set_seq (v := .loc (p.length + 1 + g.length + 1)) (st1 := JS p a b c (g ++ (.lst ((plc 5 v).map .tup) :: ([] ++ [.lst ((asks 5 v).map .tup)])))) (by
    have nn : isNil k__law_right_0 = false := rfl
    have g0 := grow [] (.lst ((asks 5 v).map .tup))
    have l0 := glen []
    simp only [List.length_nil, Nat.add_zero] at l0
    simp only [evE, evL, iterR]
    simp only [List.getElem?_cons_succ, List.getElem?_cons_zero, Res.bind_ok, im, liftO_some, nn, lc1, alloc_ok, g0, l0])]
  simp only [setN, List.set_cons_succ, List.set_cons_zero]
  rw [t__law_right_3, iff_no_seq (st1 := JS p a b c (g ++ (.lst ((plc 5 v).map .tup) :: ([] ++ [.lst ((asks 5 v).map .tup)])))) (by
    have s1 := at3 [] (.lst ((asks 5 v).map .tup))
    simp only [List.length_nil, Nat.add_zero] at s1
    have tp2 : bltV .tuple [.loc (p.length + 1 + g.length + 1)] (JS p a b c (g ++ (.lst ((plc 5 v).map .tup) :: ([] ++ [.lst ((asks 5 v).map .tup)])))) = .ok (.tup ((asks 5 v).map .tup)) (JS p a b c (g ++ (.lst ((plc 5 v).map .tup) :: ([] ++ [.lst ((asks 5 v).map .tup)])))) := by simp only [bltV, seqOf, s1]
    simp only [evE, evL]
    simp only [List.getElem?_cons_succ, List.getElem?_cons_zero, Res.bind_ok, ap, rp2, tp2, ne2])]
  rw [t__law_right_4, iff_no_seq (st1 := JS p a b c (g ++ (.lst ((plc 5 v).map .tup) :: ([] ++ [.lst ((asks 5 v).map .tup)] ++ [.lst ((lots 5 v).map .int)] ++ [.lst ((lots 5 v).map .int)])))) (by
    have r1 := rp3 _ _ (at3 ([] ++ [.lst ((asks 5 v).map .tup)]) (.lst ((lots 5 v).map .int)))
    have r2 := rp3 _ _ (at3 ([] ++ [.lst ((asks 5 v).map .tup)] ++ [.lst ((lots 5 v).map .int)]) (.lst ((lots 5 v).map .int)))
    simp only [evE, evL, iterR]
    simp only [List.getElem?_cons_succ, List.getElem?_cons_zero, Res.bind_ok, im, liftO_some, isNil_nil, wipeV, List.set_cons_succ, List.set_cons_zero, lc2, lc3, alloc_ok, grow, glen, r1, r2, ne3])]
  rw [t__law_right_5, seq_nx (env1 := [some (.loc p.length), some v, some (.loc (p.length + 1 + g.length)), some (.loc (p.length + 1 + g.length + 1)), y4, y5, none]) (st1 := JS p a1 b c1 (g ++ (.lst ((plc 5 v).map .tup) :: G1))) (by
    simp only [evS, evI, iterR, evE, evL]
    simp only [Res.bind_ok, range1_ok 4 _ (by omega), Res.fl_ok]
    exact lpT)]
  rw [t__law_right_6, ret_seq (v := .bl true) (st1 := JS p a1 b c1 (g ++ (.lst ((plc 5 v).map .tup) :: G1))) rfl]
  exact en
end TT.K02
set_option linter.all false
set_option maxHeartbeats 2000000
set_option maxRecDepth 100000
namespace TT.K02
open PySem L2
theorem run_jar (L : Nat) (ns : List Int) (i : Int) (st : Sto) (h0 : 0 ≤ i) (h3 : i ≤ 2) (hi : i < ns.length ∨ ns = []) : ∃ a b, run T.fns (L + 1) i__law_jar [.flst ns, .int i] st = .ok (.loc st.length) (JS st a b 0 []) ∧ JB 0 a b 0 := by
  rw [run_succ (fn := d__law_jar.fn) rfl rfl]
  have e : ∀ Q, endOf st (evS (run T.fns L) b__law_jar [some (.flst ns), some (.int i), none, none] st) = Q → endOf st (evS (run T.fns L) d__law_jar.fn.body (entry d__law_jar.fn.ns [.flst ns, .int i]) st) = Q := fun Q h => h
  have pw1 : ∀ st, binV .Pow (.int 10) (.int 59) st = .ok (.int (10 ^ 59)) st := fun st => by
    simp only [binV]
    rw [if_pos (by decide)]
    rfl
  have pw2 : ∀ st, binV .Pow (.int (10 ^ 59)) (.int 6) st = .ok (.int ((10 ^ 59) ^ 6)) st := fun st => by
    simp only [binV]
    rw [if_pos (by decide +kernel)]
    rfl
  have pw3 : ∀ st, binV .Pow (.int 10) (.int 15) st = .ok (.int (10 ^ 15)) st := fun st => by
    simp only [binV]
    rw [if_pos (by decide)]
    rfl
  have M1 : (0 : Int) < (10 ^ 59) ^ 6 := by decide +kernel
  have M2 : ((10 ^ 59) ^ 6 : Int).natAbs ≤ 2 ^ 1180 := by decide +kernel
  generalize ((10 ^ 59) ^ 6 : Int) = M at pw2 M1 M2
  have mid : ∃ cell st1, (∃ g, st1 = st ++ g) ∧ (evE (run T.fns L) (.ite (.cmp .Lt (.v 1) (.bc .len (.cons (.v 0) .nil))) (.bc .int (.cons (.idx (.v 0) (.v 1)) .nil)) (.bin .Add (.bin .Add (.bin .Mult (.c (.int 4219)) (.v 1)) (.c (.int 57))) (.bin .Mod (.bc .int (.cons (.bc .sum (.cons (.sl (.v 0) .nil (.c (.int 1))) .nil)) .nil)) (.c (.int 1000003))))) [some (.flst ns), some (.int i), none, none] st = .ok (.int cell) st1) := by
    by_cases q : i < ns.length
    · have hr : i.toNat < ns.length := by omega
      refine ⟨ns[i.toNat], st, ⟨[], by simp⟩, ?_⟩
      have ln : bltV .len [.flst ns] st = .ok (.int ns.length) st := by simp [bltV, seqOf]
      have ix : idxV (.flst ns) (.int i) st = .ok (.int ns[i.toNat]) st := by
        have q' : i < ((ns.map Val.int).length : Int) := by simpa using q
        simp [idxV, seqOf, L2.atI, L2.ixN, h0, q, hr]
      simp only [evE, evL]
      simp [ln, q, ix]
    · have hn : ns = [] := hi.resolve_left q
      subst hn
      have m : mulOk 4219 i = true := mulOk_of (a := 24) (b := 24) (by decide) (by omega) (by decide) (by decide) (by decide)
      refine ⟨4219 * i + 57 + 0, st ++ [.lst []], ⟨_, rfl⟩, ?_⟩
      have ln : bltV .len [.flst []] st = .ok (.int 0) st := rfl
      have sl : slV (.flst []) none (some 1) st = .ok (.loc st.length) (st ++ [.lst []]) := rfl
      have sm := sum_last st []
      have q' : ¬ i < 0 := by omega
      simp only [evE, evL, partR]
      simp at sm
      simp [isNil, partV, ln, q', binV_mul _ _ _ m, sl, sm, binV_mod 0 1000003 _ (by decide)]
  obtain ⟨cell, st1, ⟨g, rfl⟩, hc⟩ := mid
  obtain ⟨g1, g2⟩ := mod_bd (x := if cell < 0 then -cell else cell) (m := M) (n := 1180) M1 M2
  have ab : ∀ st, bltV .abs [.int cell] st = .ok (.int (if cell < 0 then -cell else cell)) st := fun st => rfl
  have mM : ∀ x st, binV .Mod (.int x) (.int M) st = .ok (.int (x % M)) st := fun x st => binV_mod x M st M1
  generalize hgr : (if cell < 0 then -cell else cell) % M = great at g1 g2
  obtain ⟨u1, u2⟩ := mod_bd (x := great) (m := 2147483629) (n := 31) (by decide) (by decide)
  have m1 : mulOk (great % 2147483629) 389 = true := mulOk_of (a := 31) (b := 24) u1 (by decide) (by decide) (by decide) (by decide)
  have m2 : mulOk 601 i = true := mulOk_of (a := 24) (b := 24) (by decide) (by omega) (by decide) (by decide) (by decide)
  have m3 : ∀ x : Int, x = 0 ∨ x = 1 → mulOk 31 x = true := fun x hx => mulOk_of (a := 24) (b := 24) (by decide) (by omega) (by decide) (by decide) (by decide)
  have n1 : (if decide (cell < 0) = true then (1 : Int) else 0) = 0 ∨ (if decide (cell < 0) = true then (1 : Int) else 0) = 1 := by split <;> simp
  generalize hng : (if decide (cell < 0) = true then (1 : Int) else 0) = ng at n1
  refine ⟨if great - 10 ^ 15 > 0 then great - 10 ^ 15 else 0, great % 2147483629 * 389 + 601 * i + 31 * ng + 13, e _ ?_, ?_⟩
  · have en := endOf_loc st (g ++ [jc (if great - 10 ^ 15 > 0 then great - 10 ^ 15 else 0) (great % 2147483629 * 389 + 601 * i + 31 * ng + 13) 0]) (st.length + g.length) [.int (if great - 10 ^ 15 > 0 then great - 10 ^ 15 else 0), .int (great % 2147483629 * 389 + 601 * i + 31 * ng + 13), .int 0] (by omega) (by
      rw [at_end]
      simp [jc]) rfl
    simp only [b__law_jar, evS]
    rw [hc]
    simp only [Res.fl_ok, setN, List.set_cons_succ, List.set_cons_zero]
    simp only [evE, evL, List.getElem?_cons_succ, List.getElem?_cons_zero, Res.bind_ok, ab, int_int, pw1, pw2, mM, Res.fl_ok, hgr, List.set_cons_succ, List.set_cons_zero, pw3, binV_sub, max_int, binV_mod _ 2147483629 _ (by decide), binV_mul _ _ _ m1, binV_mul _ _ _ m2, cmpR_lt, int_bl, hng, binV_mul _ _ _ (m3 ng n1), binV_add]
    simp only [JS, List.length_cons, List.length_nil]
    simp only [jc] at en ⊢
    simpa using en
  · refine ⟨?_, ?_, by omega, ?_, by omega, by omega⟩
    · split <;> omega
    · have : (2 : Nat) ^ 1180 ≤ 2 ^ 1200 := Nat.pow_le_pow_right (by decide) (by decide)
      split <;> omega
    · omega
theorem mem_rangeL {lo : Int} {n : Nat} {v : Val} (h : v ∈ rangeL lo n) : ∃ i, v = .int i ∧ lo ≤ i ∧ i < lo + n := by
  unfold rangeL at h
  obtain ⟨k, hk, rfl⟩ := List.mem_map.mp h
  rw [List.mem_range] at hk
  exact ⟨_, rfl, by omega, by omega⟩
end TT.K02
set_option linter.all false
set_option maxHeartbeats 1000000
set_option maxRecDepth 100000
namespace TT.K02
open PySem L2
theorem kto_loopD (L : Nat) (hL : 20 ≤ L) (D : Nat) (hD : D ≤ 5) (p : Sto) (b : Int) (g : Sto) (deep most : Int) (hd : deep ≤ D + 1) :
    ∀ (m : Nat) (lo a c : Int) (N : Nat) (e3 e4 : Option Val), JB N a b c → N + m * K 5 ≤ 2 ^ 50 →
    (∃ v a' c', forLoop [] [3] true (evS (run T.fns L) l__law_kind_to_0) (rangeL lo m) [some (.loc p.length), some (.int deep), some (.int most), e3, e4] (JS p a b c g) = .rt v (JS p a' b c' g) ∧ kd D v ∧ (∃ q s, fm 5 v = some (q, s) ∧ s ≤ most) ∧ JB (N + m * K 5) a' b c') ∨
    ∃ env a' c', forLoop [] [3] true (evS (run T.fns L) l__law_kind_to_0) (rangeL lo m) [some (.loc p.length), some (.int deep), some (.int most), e3, e4] (JS p a b c g) = .nx env (JS p a' b c' g) ∧ JB (N + m * K 5) a' b c'
  | 0, lo, a, c, N, e3, e4, hj, hN => .inr ⟨_, a, c, forLoop_nil rfl, by simpa using hj⟩
  | m + 1, lo, a, c, N, e3, e4, hj, hN => by
    rw [Nat.succ_mul] at hN ⊢
    have kk : K D ≤ K 5 := K_mono hD
    obtain ⟨v, a1, c1, r1, r2, r3⟩ := run_kind D L deep p a b c g N (by omega) hj (by omega) (by omega)
    have r2' := kd_mono r2 hD
    have ft := fits5 L v (JS p a1 b c1 g) (by omega) r2'.1 (by decide) r2'.2.1
    have go : ∀ (h : evS (run T.fns L) l__law_kind_to_0 [some (.loc p.length), some (.int deep), some (.int most), some (.int lo), e4] (JS p a b c g) = .nx [some (.loc p.length), some (.int deep), some (.int most), some (.int lo), some v] (JS p a1 b c1 g)), (∃ v a' c', forLoop [] [3] true (evS (run T.fns L) l__law_kind_to_0) (rangeL lo (m + 1)) [some (.loc p.length), some (.int deep), some (.int most), e3, e4] (JS p a b c g) = .rt v (JS p a' b c' g) ∧ kd D v ∧ (∃ q s, fm 5 v = some (q, s) ∧ s ≤ most) ∧ JB (N + (m * K 5 + K 5)) a' b c') ∨
      ∃ env a' c', forLoop [] [3] true (evS (run T.fns L) l__law_kind_to_0) (rangeL lo (m + 1)) [some (.loc p.length), some (.int deep), some (.int most), e3, e4] (JS p a b c g) = .nx env (JS p a' b c' g) ∧ JB (N + (m * K 5 + K 5)) a' b c' := by
      intro h
      have e := kto_loopD L hL D hD p b g deep most hd m (lo + 1) a1 c1 (N + K 5) (some (.int lo)) (some v) (r3.mono (by omega)) (by omega)
      rw [rangeL_succ, forLoop_cons rfl rfl h, show N + (m * K 5 + K 5) = N + K 5 + m * K 5 by omega]
      exact e
    cases hf : fm 5 v with
    | none =>
      rw [hf] at ft
      refine go ?_
      simp only [l__law_kind_to_0, evS, evE, evL, evB]
      simp [setN, r1, ft]
    | some q =>
      obtain ⟨pp, s⟩ := q
      rw [hf] at ft
      have sz := run_size 5 L v (JS p a1 b c1 g) 11 pp s (by omega) r2'.1 (by decide) hf
      by_cases hs : s ≤ most
      · refine .inl ⟨v, a1, c1, ?_, r2, ⟨pp, s, hf, hs⟩, r3.mono (by omega)⟩
        rw [rangeL_succ, forLoop_out rfl rfl ?_]
        simp only [l__law_kind_to_0, evS, evE, evL, evB]
        simp [setN, r1, ft, sz, hs]
      · refine go ?_
        simp only [l__law_kind_to_0, evS, evE, evL, evB]
        simp [setN, r1, ft, sz, hs]
theorem run_kind_toD (L : Nat) (hL : 20 ≤ L) (D : Nat) (hD : D ≤ 5) (p : Sto) (a b c : Int) (g : Sto) (deep most : Int) (hd : deep ≤ D + 1) (hm : 2 ≤ most) (N : Nat) (hj : JB N a b c) (hN : N + 12 * K 5 ≤ 2 ^ 50) :
    ∃ v a' c', run T.fns (L + 1) i__law_kind_to [.loc p.length, .int deep, .int most] (JS p a b c g) = .ok v (JS p a' b c' g) ∧ kd D v ∧ (∃ q s, fm 5 v = some (q, s) ∧ s ≤ most) ∧ JB (N + 12 * K 5) a' b c' := by
  rw [run_succ (fn := d__law_kind_to.fn) rfl rfl]
  have e : ∀ Q, endOf (JS p a b c g) (evS (run T.fns L) b__law_kind_to [some (.loc p.length), some (.int deep), some (.int most), none, none] (JS p a b c g)) = Q → endOf (JS p a b c g) (evS (run T.fns L) d__law_kind_to.fn.body (entry d__law_kind_to.fn.ns [.loc p.length, .int deep, .int most]) (JS p a b c g)) = Q := fun Q h => h
  rcases kto_loopD L hL D hD p b g deep most hd 12 0 a c N none none hj hN with ⟨v, a', c', h1, h2, h3, h4⟩ | ⟨env, a', c', h1, h2⟩
  · refine ⟨v, a', c', e _ ?_, h2, h3, h4⟩
    simp only [b__law_kind_to, evS, evE, evL, evB, evI, iterR]
    simp [range1_ok 12 _ (by omega), h1, JS_end0 _ _ _ _ _ _ _ _ _ (kd_blw _ h2)]
  · have kk : kd D (.tup [.str s_lot, .int 2]) := kd_lot (by decide) (by decide) D
    refine ⟨_, a', c', e _ ?_, kk, ⟨1, 2, by decide +kernel, hm⟩, h2⟩
    simp only [b__law_kind_to, evS, evE, evL, evB, evI, iterR]
    simp [range1_ok 12 _ (by omega), h1, JS_end0 _ _ _ _ _ _ _ _ _ (kd_blw _ kk)]
/-- a kind nested at most so deep -/
theorem fm_shp_low : ∀ {f E : Nat} {v : Val} {x : Int × Int}, shp f v = true → fm E v = some x → f ≤ E → fm f v = some x
  | 0, E, v, x, hs, h, g => by simp [shp] at hs
  | f + 1, 0, v, x, hs, h, g => by cases h
  | f + 1, E + 1, v, (p, s), hs, h, g => by
    rcases fm_cases h with ⟨n, rfl, h1, h2, rfl, rfl⟩ | ⟨ks, rfl, h1, h2, al, rfl, rfl⟩ | ⟨a, b, q1, s1, q2, s2, rfl, ha, hb, h64, rfl, rfl⟩
    · have hl : lotN (.tup [.str s_lot, .int s]) = some s := by simp [lotN]; omega
      exact fm_lot hl
    · have hl : lotN (.tup [.str s_row, .tup ks]) = none := by simp [lotN]
      have hr : rowL (.tup [.str s_row, .tup ks]) = some ks := by simp [rowL]; omega
      rw [fm_row hl hr] at h ⊢
      rw [shp_row hl hr, List.all_eq_true] at hs
      have : ks.map (fm f) = ks.map (fm E) := by
        apply List.map_congr_left
        intro u hu
        rw [some_getD (al u hu)]
        exact fm_shp_low (hs u hu) (some_getD (al u hu)) (by omega)
      rw [this]
      exact h
    · have hl : lotN (.tup [.str s_fun, a, b]) = none := by simp [lotN]
      have hr : rowL (.tup [.str s_fun, a, b]) = none := by simp [rowL]
      have hp : funP (.tup [.str s_fun, a, b]) = some (a, b) := by simp [funP]
      rw [fm_fun hl hr hp] at h ⊢
      rw [shp_fun hl hr hp, Bool.and_eq_true] at hs
      rw [fm_shp_low hs.1 ha (by omega), fm_shp_low hs.2 hb (by omega), ← ha, ← hb]
      exact h
def two : Val := .tup [.str s_row, .tup [.tup [.str s_lot, .int 1], .tup [.str s_lot, .int 2]]]
theorem fun_ok {v : Val} {q s : Int} (hk : kd 2 v) (hf : fm 5 v = some (q, s)) (hs : s ≤ 64) : okK 20 (.tup [.str s_fun, v, two]) := by
  have f3 := fm_shp_low hk.2.1 hf (by omega)
  have f4 := fm_mono f3 (show 3 ≤ 4 by omega)
  have t4 : fm 4 two = some (2, 2) := by decide +kernel
  have ok := okM_fm _ _ _ _ hf
  refine ⟨?_, ?_⟩
  · have g1 := gd_mono hk.1 (show 2 * 2 + 1 ≤ 19 by omega)
    have g2 : gd 19 two = true := by decide +kernel
    show (decide ([Val.str s_fun, v, two].length ≤ 5) && gds 19 [Val.str s_fun, v, two]) = true
    simp only [gds, g1, g2, gd_w w_fun 19, Bool.and_self, Bool.and_true, List.length_cons, List.length_nil]
    exact decide_eq_true (by omega)
  · have hl : lotN (.tup [.str s_fun, v, two]) = none := by simp [lotN]
    have hr : rowL (.tup [.str s_fun, v, two]) = none := by simp [rowL]
    have hp : funP (.tup [.str s_fun, v, two]) = some (v, two) := by simp [funP]
    rw [fm_fun hl hr hp, f4, t4]
    refine ⟨s * 2, 2 ^ s.toNat, ?_⟩
    simp only [funM]
    rw [if_neg (by simp; omega)]
end TT.K02
set_option linter.all false
set_option maxHeartbeats 4000000
set_option maxRecDepth 100000
namespace TT.K02
open PySem L2
def KT : Nat := 1 + 12 * K 5 + 8
theorem law_turn (L : Nat) (p : Sto) (a b c : Int) (N : Nat) (hj : JB N a b c) (hN : N + KT ≤ 2 ^ 50) (x0 x1 x3 x4 x5 x6 : Option Val) :
    ∃ a' c', evS (run T.fns (L + 45)) l_law_1 [x0, x1, some (.loc p.length), x3, x4, x5, x6] (JS p a b c []) = .nx [x0, x1, some (.loc p.length), x3, x4, x5, x6] (JS p a' b c' []) ∧ JB (N + KT) a' b c' := by
  have hK : KT = 1 + 12 * K 5 + 8 := rfl
  rw [hK] at hN ⊢
  obtain ⟨r, a1, c1, p1, p2, p3, p4⟩ := run_pull (L + 44) p a b c [] N 5 hj (by omega) (by decide) (by decide)
  obtain ⟨v, a2, c2, q1, q2, ⟨pp, ss, q3, _⟩, q4⟩ := run_kind_toD (L + 44) (by omega) 5 (by omega) p a1 b c1 [] (1 + r) (10 ^ 25) (by omega) (by decide) (N + 1) p4 (by omega)
  obtain ⟨a3, c3, r1, r2⟩ := run_law_right L p a2 b c2 [] (N + 1 + 12 * K 5) q4 (by omega) v 11 (by omega) ⟨q2.1, _, _, q3⟩
  have pw : ∀ st, binV .Pow (.int 10) (.int 25) st = .ok (.int (10 ^ 25)) st := fun st => by
    simp only [binV]
    rw [if_pos (by decide)]
    rfl
  refine ⟨a3, c3, ?_, r2.mono (by omega)⟩
  rw [l_law_1, iff_no_seq (st1 := JS p a3 b c3 []) (by
    simp only [evE, evL]
    simp only [List.getElem?_cons_succ, List.getElem?_cons_zero, Res.bind_ok, p1, binV_add, pw, q1, r1, truthR_b, Bool.not_true])]
  rfl
theorem law_body (L : Nat) (ns : List Int) (i : Int) (st : Sto) (h0 : 0 ≤ i) (h3 : i ≤ 2) (hi : i < ns.length ∨ ns = []) (x2 x3 x4 x5 x6 : Option Val) :
    ∃ y2 y3 y4 st', evS (run T.fns (L + 45)) l_law_0 [some (.flst ns), some (.int i), x2, x3, x4, x5, x6] st = .nx [some (.flst ns), some (.int i), y2, y3, y4, x5, x6] st' := by
  obtain ⟨a, b, j1, j2⟩ := run_jar (L + 44) ns i st h0 h3 hi
  have bd : 9 * KT ≤ 2 ^ 50 := by decide +kernel
  have hK : KT = 1 + 12 * K 5 + 8 := rfl
  obtain ⟨env1, st1, e1, e2⟩ := forLoop_rest (w := []) (tg := [3]) (one := true) (body := evS (run T.fns (L + 45)) l_law_1)
    (fun rest env st' => ∃ a c k x3, env = [some (.flst ns), some (.int i), some (.loc st.length), x3, x4, x5, x6] ∧ st' = JS st a b c [] ∧ k + rest.length = 8 ∧ JB (k * KT) a b c)
    (fun _ _ _ _ => rfl)
    (by
      rintro v rest env st' ⟨a, c, k, x3, rfl, rfl, hk, hj⟩
      simp only [List.length_cons] at hk
      have hk2 : (k + 1) * KT ≤ 9 * KT := Nat.mul_le_mul_right _ (by omega)
      rw [Nat.succ_mul] at hk2
      obtain ⟨a', c', r1, r2⟩ := law_turn L st a b c (k * KT) hj (by omega) (some (.flst ns)) (some (.int i)) (some v) x4 x5 x6
      exact ⟨_, [some (.flst ns), some (.int i), some (.loc st.length), some v, x4, x5, x6], JS st a' b c' [], rfl, r1, a', c', k + 1, some v, rfl, rfl, by omega, by rw [Nat.succ_mul]; exact r2⟩)
    (rangeL 0 8) [some (.flst ns), some (.int i), some (.loc st.length), x3, x4, x5, x6] (JS st a b 0 []) ⟨a, 0, 0, x3, rfl, rfl, rfl, by simpa using j2⟩
  obtain ⟨a2, c2, k, x3', rfl, rfl, hk, hj⟩ := e2
  simp only [List.length_nil, Nat.add_zero] at hk
  subst hk
  obtain ⟨v, a3, c3, q1, q2, ⟨pp, ss, q3, q5⟩, q4⟩ := run_kind_toD (L + 44) (by omega) 2 (by omega) st a2 b c2 [] 3 64 (by decide) (by decide) (8 * KT) hj (by omega)
  obtain ⟨a4, c4, r1, r2⟩ := run_law_right L st a3 b c3 [] (8 * KT + 12 * K 5) q4 (by omega) (.tup [.str s_fun, v, two]) 20 (by omega) (fun_ok q2 q3 q5)
  refine ⟨some (.loc st.length), x3', some v, JS st a4 b c4 [], ?_⟩
  rw [l_law_0, set_seq (v := .loc st.length) (st1 := JS st a b 0 []) (by
    simp only [evE, evL]
    simp only [List.getElem?_cons_succ, List.getElem?_cons_zero, Res.bind_ok, j1])]
  simp only [setN, List.set_cons_succ, List.set_cons_zero]
  rw [seq_nx (env1 := [some (.flst ns), some (.int i), some (.loc st.length), x3', x4, x5, x6]) (st1 := JS st a2 b c2 []) (by
    simp only [evS, evI, iterR, evE, evL]
    simp only [Res.bind_ok, range1_ok 8 _ (by omega), Res.fl_ok]
    exact e1)]
  rw [set_seq (v := v) (st1 := JS st a3 b c3 []) (by
    simp only [evE, evL]
    simp only [List.getElem?_cons_succ, List.getElem?_cons_zero, Res.bind_ok, q1])]
  simp only [setN, List.set_cons_succ, List.set_cons_zero]
  rw [iff_no_seq (st1 := JS st a4 b c4 []) (by
    simp only [two] at r1
    simp only [evE, evL]
    simp only [List.getElem?_cons_succ, List.getElem?_cons_zero, Res.bind_ok, List.length_cons, List.length_nil, sizeLine_eq, Nat.reduceAdd, Nat.reduceLeDiff, if_true, r1, truthR_b, Bool.not_true])]
  rfl
def big : Val := .tup [.str s_fun, .tup [.str s_row, .tup [.tup [.str s_lot, .int 8], .tup [.str s_lot, .int 8]]], .tup [.str s_row, .tup [.tup [.str s_lot, .int 2], .tup [.str s_lot, .int 1], .tup [.str s_lot, .int 3], .tup [.str s_lot, .int 8]]]]
theorem idx_at {xs : List Val} {n : Nat} {y : Val} (h : xs[n]? = some y) (st : Sto) : idxV (.tup xs) (.int n) st = .ok y st := by
  obtain ⟨hn, e⟩ := List.getElem?_eq_some_iff.mp h
  simp [idxV, seqOf, L2.atI, L2.ixN, hn, e]
theorem big_ok : okK 20 big := ⟨by decide +kernel, 256, 48 ^ 64, by decide +kernel⟩
theorem big_len : (plc 5 big).length = 256 := by decide +kernel
theorem big_255 : ((plc 5 big).map Val.tup)[255]? = some (.tup [.tup [.int 7, .int 7], .int 3]) := by decide +kernel
theorem big_1 : ((plc 5 big).map Val.tup)[1]? = some (.tup [.tup [.int 0, .int 0], .int 1]) := by decide +kernel
theorem big_asks : (asks 5 big).length = 192 := by decide +kernel
theorem eq_pair (a b c : Int) (st : Sto) : cmpR .Eq (.tup [.tup [.int a, .int b], .int c]) (.tup [.tup [.int a, .int b], .int c]) st = .ok (.bl true) st := by
  have r : rdD st (.tup [.tup [.int a, .int b], .int c]) = some (.tuple [.tuple [.int a, .int b], .int c]) := rfl
  have sh : SeqAt.shaped (.tuple [.tuple [.int a, .int b], .int c]) = true := by
    simp only [SeqAt.shaped, PyData.canLay0, PyData.canLayAll0, PyData.depth, PyData.depthAll, Bool.and_self, Bool.true_and]
    rfl
  have e : TT.eqV st (.tup [.tup [.int a, .int b], .int c]) (.tup [.tup [.int a, .int b], .int c]) = some true := by
    unfold TT.eqV
    simp only [r, sh, and_self, if_true, PyData.eqv, PyData.eqvAll, beq_self_eq_true, Bool.and_self]
  simp only [cmpR, cmpV, e, Option.map_some, liftO_some]
theorem plain (ns : List Int) (h : ns.length ≤ 63) : ∃ st', run T.fns 60 i_law [.flst ns] [] = .ok (.bl true) st' := by
  rw [run_succ (fn := d_law.fn) rfl rfl]
  have e : ∀ Q, endOf [] (evS (run T.fns 59) b_law [some (.flst ns), none, none, none, none, none, none] []) = Q → endOf [] (evS (run T.fns 59) d_law.fn.body (entry d_law.fn.ns [.flst ns]) []) = Q := fun Q h => h
  have ln : bltV .len [.flst ns] [] = .ok (.int ns.length) [] := by simp [bltV, seqOf]
  let m : Int := if (if (ns.length : Int) < 3 then (ns.length : Int) else 3) > 1 then (if (ns.length : Int) < 3 then (ns.length : Int) else 3) else 1
  have hm : m ≤ 3 ∧ 1 ≤ m ∧ (m ≤ ns.length ∨ ns = []) := by
    have : ns = [] ∨ 1 ≤ ns.length := by
      cases ns with
      | nil => exact .inl rfl
      | cons _ _ => exact .inr (by simp)
    simp only [m]
    refine ⟨?_, ?_, ?_⟩
    · split <;> split <;> omega
    · split <;> split <;> omega
    · rcases this with this | this
      · exact .inr this
      · left
        split <;> split <;> omega
  obtain ⟨env1, st1, h1, y1, y2, y3, y4, rfl⟩ := forLoop_inv (w := []) (tg := [1]) (one := true) (body := evS (run T.fns 59) l_law_0)
    (fun env st' => ∃ x1 x2 x3 x4, env = [some (.flst ns), x1, x2, x3, x4, none, none])
    (rangeL 0 m.toNat)
    (by
      rintro v hv env st' ⟨x1, x2, x3, x4, rfl⟩
      obtain ⟨i, rfl, hi1, hi2⟩ := mem_rangeL hv
      obtain ⟨y2, y3, y4, st2, hy⟩ := law_body 14 ns i st' hi1 (by omega) (hm.2.2.elim (fun q => .inl (by omega)) .inr) x2 x3 x4 none none
      exact ⟨rfl, _, _, _, rfl, hy, some (.int i), y2, y3, y4, rfl⟩)
    (fun _ _ _ => rfl)
    [some (.flst ns), none, none, none, none, none, none] [] ⟨none, none, none, none, rfl⟩
  have rm := range1_ok m ([] : Sto) (by omega)
  have po := run_places_of 19 big st1 20 (by omega) big_ok
  have ap := run_asked_places 19 big st1 20 (by omega) big_ok
  have i255 := idx_at big_255 st1
  have i1 := idx_at big_1 st1
  refine ⟨[], e _ ?_⟩
  rw [b_law, t_law_0, seq_nx (env1 := [some (.flst ns), y1, y2, y3, y4, none, none]) (st1 := st1) (by
    simp only [evS, evE, evL, evI, iterR]
    simp only [List.getElem?_cons_zero, Res.bind_ok, ln, min_int, max_int]
    rw [show (if (if (ns.length : Int) < 3 then (ns.length : Int) else 3) > 1 then (if (ns.length : Int) < 3 then (ns.length : Int) else 3) else 1) = m from rfl]
    simp only [rm, Res.bind_ok, Res.fl_ok]
    exact h1)]
  rw [t_law_1, set_seq (v := big) (st1 := st1) (by
    simp only [evE, evL]
    simp only [Res.bind_ok, List.length_cons, List.length_nil, sizeLine_eq, Nat.reduceAdd, Nat.reduceLeDiff, if_true]
    rfl)]
  simp only [setN, List.set_cons_succ, List.set_cons_zero]
  rw [t_law_2, set_seq (v := .tup ((plc 5 big).map .tup)) (st1 := st1) (by
    simp only [evE, evL]
    simp only [List.getElem?_cons_succ, List.getElem?_cons_zero, Res.bind_ok, po])]
  simp only [setN, List.set_cons_succ, List.set_cons_zero]
  have i255' : idxV (.tup ((plc 5 big).map .tup)) (.int 255) st1 = .ok (.tup [.tup [.int 7, .int 7], .int 3]) st1 := i255
  have i1' : idxV (.tup ((plc 5 big).map .tup)) (.int 1) st1 = .ok (.tup [.tup [.int 0, .int 0], .int 1]) st1 := i1
  have l1 : (((plc 5 big).map Val.tup).length : Int) = 256 := by rw [List.length_map, big_len]; rfl
  have l2 : (((asks 5 big).map Val.tup).length : Int) = 192 := by rw [List.length_map, big_asks]; rfl
  rw [t_law_3, ret_seq (v := .bl true) (st1 := st1) (by
    simp only [evE, evL]
    simp only [List.getElem?_cons_succ, List.getElem?_cons_zero, Res.bind_ok, len_tup, l1, cmpR_eqI, beq_self_eq_true, truthR_b, if_true, i255', i1', List.length_cons, List.length_nil, sizeLine_eq, Nat.reduceAdd, Nat.reduceLeDiff, eq_pair, ap, l2])]
  exact endOf_gB [] st1 true
end TT.K02
set_option Elab.async false
set_option linter.all false
set_option maxRecDepth 100000
set_option maxHeartbeats 0
namespace TT.K02
open PySem L2 PySem.Spec PyProof.Rows
abbrev R : PySem.W.OpenRow := PySem.W.OpenLaw.row PySem.Challenge.rw_tabletongue_k02_places_and_questions
abbrev hk : PySem.W.Hook := He.hookD 4 T.facts T.defDs
def ob (s : PySem.W.SharedT) : He.AlD := He.obsDG 4 T.facts T.defDs (HandSHeadRun.getT s)
theorem ob_eq (s : PySem.W.SharedT) : ob s = hk.obs s.abs := He.obsDG_eq (HandSHeadRun.getT_eq s)
def loose : List PySem.Str := (["TongueError", "InvalidKind", "InvalidPlace", "is_whole", "is_within", "is_tuple_of", "LOT", "ROW", "FUN", "LOTS", "ROWS", "DEEP", "VALUES", "PLACES", "TWO", "THREE", "is_lot", "is_row", "measured", "measured_row", "measured_fun", "is_sort", "size_in", "lots_in", "places_in", "asked_in", "built", "value_by_digits", "values_in", "is_value_in"] : List PySem.Str) ++ (["step_in", "kind_behind", "is_place_in", "lot_in", "need_kind", "need_place", "MOST_DEEP", "place_count", "places_of", "asked_places", "is_place", "lot_at", "_law_jar", "_law_pull", "_law_one_of", "_law_size", "_law_count", "_law_fits", "_law_kind", "_law_kind_to", "_law_members", "_law_values", "_law_number", "_law_nth", "_law_places", "_law_behind", "_law_digit", "_law_asked", "_law_is_value", "_law_is_place"] : List PySem.Str) ++ (["_law_near", "_law_right"] : List PySem.Str)
theorem head_run (w : World) : HandSHeadRun.RunEq R (PySem.W.view R.prog [68]) hk ob 4000 loose w := by
  intro os
  kernel_rfl
end TT.K02
open PySem PySem.W PySem.Calls PyProof.Rows
theorem PySem.Challenge.cw_tabletongue_k02_places_and_questions_holds : PySem.Challenge.rw_tabletongue_k02_places_and_questions.Holds := by
  w_on; o_law
  refine HandSHeadRun.head_any (r := OpenLaw.row PySem.Challenge.rw_tabletongue_k02_places_and_questions) (q := view (OpenLaw.row PySem.Challenge.rw_tabletongue_k02_places_and_questions).prog [68]) (H := TT.K02.hk) (ob := TT.K02.ob) (M := 4000) (loose := TT.K02.loose) (d := HandSHeadRun.topDef (OpenLaw.row PySem.Challenge.rw_tabletongue_k02_places_and_questions).prog 68) (kwd := []) TT.K02.ob_eq
    (by kernel_rfl) (fun s => by kernel_rfl) TT.K02.head_run (by kernel_rfl) (by kernel_rfl) (by kernel_rfl) (by rfl) (by first | assumption | decide +kernel) (by decide +kernel) ⟨rfl, rfl, rfl, rfl, rfl, by decide +kernel⟩ ?hw ?hc
  case hw => w_witness2
  case hc => exact TT.walk_ofG (T := TT.K02.T) (n := 63) (lv := 60) (j := TT.K02.i_law) (x := "script") (dn := TT.K02.d_law) rfl (by decide) (by kernel_rfl) ⟨rfl, by decide, by decide⟩ TT.K02.ok_all rfl (by kernel_rfl) rfl TT.K02.plain
