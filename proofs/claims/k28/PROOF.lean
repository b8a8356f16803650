import PyProof.Rows.All
import Wide.All
import OpenK.AllK
import Wide.FinOn
import HandS.ForMost
import HandS.Conv
import HandS.IsInst
import HandS.RaiseMore
import HandS.TupAny
import HandS.Rev
import HandS.RevRange
import HandS.Zip
import HandS.Deep
import KE.DataEq
import KE.DataCmp
import KE.SortData
import KE.DataFind
import KE.DataMinMax
import PyProof.SeqIndex
import KE.KStateDown
import HandS.Defaults
import HandS.Head0
import HandS.Head1
import HandS.Head2
import HandS.HeadEnd
import HandS.HeadHook1
import HandS.HeadHook2
import PyProof.Rows.FactsT3
import PyProof.Rows.SeqGen
import PyProof.Rows.FactsN_abs
import HandS.SetBool
import PyProof.SetRoads
import HandS.Style
import HandS.More
import HandS.Codes
import PySem.Challenge.RW_worklands_k28_whole_judges_of_arrows
set_option Elab.async false
set_option linter.all false
set_option maxRecDepth 100000
set_option maxHeartbeats 4000000
/-! VL: a small language of values, its evaluator. -/
namespace VL
open PySem

abbrev D := PyData
inductive Er | stk | exc (c : Str) (d : D)
abbrev R (A : Type) := Except Er A
abbrev stk {A : Type} : R A := Except.error Er.stk

@[simp] theorem ok_bind {A B : Type} (a : A) (f : A → R B) : (Except.ok a >>= f : R B) = f a := rfl
@[simp] theorem er_bind {A B : Type} (e : Er) (f : A → R B) : (Except.error e >>= f : R B) = Except.error e := rfl
@[simp] theorem pure_ok {A : Type} (a : A) : (pure a : R A) = Except.ok a := rfl
theorem bind_ok_iff {A B : Type} {x : R A} {f : A → R B} {b : B} : (x >>= f) = Except.ok b ↔ ∃ a, x = Except.ok a ∧ f a = Except.ok b := by
  cases x with
  | error e => constructor <;> intro h
               · cases h
               · obtain ⟨_, h, _⟩ := h; cases h
  | ok a => constructor
            · intro h; exact ⟨a, rfl, h⟩
            · rintro ⟨a', h, h2⟩; cases h; exact h2

/-- a value: owned to the depth n, or (own = false) borrowed: lists down to the depth n may be someone's -/
structure Val where
  own : Bool
  n : Nat
  d : D

inductive Sl | no | fz (d : D) | ow (n : Nat) (d : D) | lk (n : Nat) (d : D) | mt (n : Nat) (d : D)
abbrev Env := List Sl

def isL : D → Bool
  | .list _ => true
  | _ => false

/-- the value, as one that may be kept: owned to the depth m (0: frozen) -/
def Val.at (v : Val) (m : Nat) : R D :=
  match isL v.d with
  | true => match v.own with
    | true => if m = 0 ∨ m = v.n then .ok v.d else stk
    | false => if v.n = 0 ∧ m = 0 then .ok v.d else stk
  | false => .ok v.d
/-- no item of the list is someone's -/
def elz (own : Bool) (n : Nat) (xs : List D) : Bool := own || decide (n ≤ 1) || !xs.any isL

def fzv (d : D) : Val := ⟨true, 0, d⟩

def rdS (s : Sl) : R Val :=
  match s with
  | .no => stk
  | .fz d => .ok ⟨true, 0, d⟩
  | .ow n d => .ok ⟨false, n, d⟩
  | .lk n d => .ok ⟨false, n, d⟩
  | .mt n d => .ok ⟨false, n, d⟩
def rd (i : Nat) (r : Env) : R Val :=
  match r[i]? with
  | some s => rdS s
  | none => stk

/-! ### operations on data -/
def lim : Nat := 16777216
def smI (i : Int) : Bool := decide (-(2 ^ 64) < i ∧ i < 2 ^ 64)
def rep {A : Type} (k : Nat) (xs : List A) : List A := (List.replicate k xs).flatten

def bop : Operator → D → D → R D
  | .Add, .int i, .int j => .ok (.int (i + j))
  | .Add, .str x, .str y => if x.length + y.length ≤ lim then .ok (.str (x ++ y)) else stk
  | .Add, .list xs, .list ys => if xs.length + ys.length ≤ lim then .ok (.list (xs ++ ys)) else stk
  | .Add, .tuple xs, .tuple ys => if xs.length + ys.length ≤ lim then .ok (.tuple (xs ++ ys)) else stk
  | .Sub, .int i, .int j => .ok (.int (i - j))
  | .Mult, .int i, .int j => if smI i || smI j then .ok (.int (i * j)) else stk
  | .Mult, .list xs, .int k => if -(2 ^ 63) ≤ k ∧ k < 2 ^ 63 ∧ xs.length * k.toNat ≤ lim then .ok (.list (rep k.toNat xs)) else stk
  | .FloorDiv, .int i, .int j => if j ≠ 0 ∧ j.natAbs < 1073741824 then .ok (.int (i.fdiv j)) else stk
  | .Mod, .int i, .int j => if j ≠ 0 then .ok (.int (i.fmod j)) else stk
  | .Pow, .int i, .int j => if 0 ≤ j ∧ j ≤ 1000000 ∧ i.natAbs < 2 ^ 64 then .ok (.int (i ^ j.toNat)) else stk
  | .LShift, .int i, .int j => if 0 ≤ j ∧ j ≤ 1000000 ∧ i.natAbs < 2 ^ 64 then .ok (.int (i * 2 ^ j.toNat)) else stk
  | .RShift, .int i, .int j => if 0 ≤ j then .ok (.int (i / 2 ^ j.toNat)) else stk
  | .BitAnd, .int i, .int j => .ok (.int (Builtin.bitAnd i j))
  | .BitOr, .int i, .int j => .ok (.int (Builtin.bitOr i j))
  | .BitXor, .int i, .int j => .ok (.int (Builtin.bitXor i j))
  | _, _, _ => stk
def uop : UnaryOp → D → R D
  | .USub, .int i => .ok (.int (-i))
  | .Invert, .int i => .ok (.int (Builtin.bitNot i))
  | _, _ => stk

def okD (d : D) : Bool := d.plain && decide (d.depth ≤ 60)
def okDs (ds : List D) : Bool := PyData.plainAll ds && decide (PyData.depthAll ds ≤ 60)
def eqD (a b : D) : R Bool := if okD a && okD b then .ok (PyData.eqv a b) else stk
def isN : D → Bool
  | .none => true
  | _ => false
def ltG (a b : D) : R Bool := if W.alike a b && okD a && okD b && !isN a then .ok (W.dataLt a b) else stk
def ltD (a b : D) : R Bool :=
  match a, b with
  | .int i, .int j => .ok (decide (i < j))
  | a, b => ltG a b
def items? : D → R (List D)
  | .list xs => .ok xs
  | .tuple xs => .ok xs
  | _ => stk
def inD (x c : D) : R Bool :=
  match c with
  | .list ys => if okDs ys && okD x then .ok (ys.any fun y => PyData.eqv y x) else stk
  | .tuple ys => if okDs ys && okD x then .ok (ys.any fun y => PyData.eqv y x) else stk
  | _ => stk
def notR (x : R Bool) : R Bool := x >>= fun b => .ok (!b)
/-- x is b, of written None, True, False -/
def isC (x b : D) : R Bool :=
  match b with
  | .none => .ok (match x with | .none => true | _ => false)
  | .bool k => .ok (match x with | .bool j => j == k | _ => false)
  | _ => stk
def cop : CmpOp → D → D → R Bool
  | .Eq, a, b => eqD a b
  | .NotEq, a, b => notR (eqD a b)
  | .Lt, a, b => ltD a b
  | .Gt, a, b => ltD b a
  | .LtE, a, b => notR (ltD b a)
  | .GtE, a, b => notR (ltD a b)
  | .In, a, b => inD a b
  | .NotIn, a, b => notR (inD a b)
  | .Is, a, b => isC a b
  | .IsNot, a, b => notR (isC a b)
def truth : D → R Bool
  | .none => .ok false
  | .bool b => .ok b
  | .int i => .ok (i != 0)
  | .list xs => .ok (!xs.isEmpty)
  | .tuple xs => .ok (!xs.isEmpty)
  | _ => stk


/-- the place of an index; a slice -/
abbrev ixOf (n : Nat) (i : Int) : Option Nat := L2.ixN n i
abbrev cutL {A : Type} (xs : List A) (lo hi : Option Int) : List A := (xs.drop (HT.sIx xs.length 0 lo)).take (HT.sIx xs.length xs.length hi - HT.sIx xs.length 0 lo)
def ixD (v : Val) (i : D) : R Val :=
  match v.d, i with
  | .list xs, .int k => match L2.atI xs k with
    | some y => .ok ⟨v.own, if v.own then 0 else v.n - 1, y⟩
    | none => stk
  | .tuple xs, .int k => match L2.atI xs k with
    | some y => .ok (fzv y)
    | none => stk
  | .dict [(.none, .list xs)], .int k => match L2.atI xs k with
    | some y => .ok (fzv y)
    | none => stk
  | _, _ => stk
def optI : Option D → R (Option Int)
  | none => .ok none
  | some (.int i) => .ok (some i)
  | some _ => stk
def slD (v : Val) (lo hi : Option Int) : R Val :=
  match v.d with
  | .list xs => if elz v.own v.n xs then .ok ⟨true, 1, .list (cutL xs lo hi)⟩ else stk
  | .tuple xs => .ok (fzv (.tuple (cutL xs lo hi)))
  | _ => stk

inductive B1 | len | list | tuple | sorted | rsorted | sum | max | min | any | all | int | abs | repr | str | dsort | dlen | rev | trev
def allInt : List D → Option (List Int)
  | [] => some []
  | .int i :: r => (allInt r).map (i :: ·)
  | _ :: _ => none
def allBl : List D → Option (List Bool)
  | [] => some []
  | .bool i :: r => (allBl r).map (i :: ·)
  | _ :: _ => none
def sortable (ds : List D) : Bool :=
  (ds.all fun a => ds.all fun b => W.alike a b) && ds.all okD &&
    ((ds.all fun d => match d with | .tuple (_ :: _) => true | _ => false) || ds.all fun d => match d with | .none => false | .tuple _ => false | _ => true)
def sortD (rev : Bool) (ds : List D) : List D := ds.mergeSort (W.dataLe rev id)
def listMax : List Int → Option Int
  | [] => none
  | x :: r => some (r.foldl max x)
def listMin : List Int → Option Int
  | [] => none
  | x :: r => some (r.foldl min x)
def dedup (ds : List D) : List D := ds.foldl (fun acc d => if acc.any fun e => PyData.eqv e d then acc else acc ++ [d]) []
/-- the numbers of a list, each once, ascending -/
def insU (k : Int) : List Int → List Int
  | [] => [k]
  | x :: r => if k < x then k :: x :: r else if k = x then x :: r else x :: insU k r
def sortU (ns : List Int) : List Int := ns.foldl (fun acc k => insU k acc) []
def b1D : B1 → Val → R Val
  | .len, v => match v.d with
    | .list xs => .ok (fzv (.int xs.length))
    | .tuple xs => .ok (fzv (.int xs.length))
    | .str x => if x.length ≤ lim then .ok (fzv (.int x.length)) else stk
    | .dict [(.none, .list xs)] => .ok (fzv (.int xs.length))
    | _ => stk
  | .list, v => match v.d with
    | .list xs => if elz v.own v.n xs then .ok ⟨true, 1, .list xs⟩ else stk
    | .tuple xs => .ok ⟨true, 1, .list xs⟩
    | _ => stk
  | .tuple, v => match v.d with
    | .list xs => if elz v.own v.n xs then .ok (fzv (.tuple xs)) else stk
    | .tuple xs => .ok (fzv (.tuple xs))
    | _ => stk
  | .sorted, v => match v.d with
    | .list xs => if elz v.own v.n xs && sortable xs then .ok ⟨true, 1, .list (sortD false xs)⟩ else stk
    | _ => stk
  | .rsorted, v => match v.d with
    | .list xs => if elz v.own v.n xs && sortable xs then .ok ⟨true, 1, .list (sortD true xs)⟩ else stk
    | _ => stk
  | .sum, v => match v.d with
    | .list xs => match allInt xs with | some ns => .ok (fzv (.int ns.sum)) | none => stk
    | _ => stk
  | .max, v => match v.d with
    | .list xs => match allInt xs with
      | some ns => match listMax ns with | some m => .ok (fzv (.int m)) | none => stk
      | none => stk
    | _ => stk
  | .min, v => match v.d with
    | .list xs => match allInt xs with
      | some ns => match listMin ns with | some m => .ok (fzv (.int m)) | none => stk
      | none => stk
    | _ => stk
  | .any, v => match v.d with
    | .list xs => match allBl xs with | some bs => .ok (fzv (.bool (bs.any id))) | none => stk
    | _ => stk
  | .all, v => match v.d with
    | .list xs => match allBl xs with | some bs => .ok (fzv (.bool (bs.all id))) | none => stk
    | _ => stk
  | .int, v => match v.d with
    | .int i => .ok (fzv (.int i))
    | .bool b => .ok (fzv (.int (if b then 1 else 0)))
    | _ => stk
  | .abs, v => match v.d with
    | .int i => .ok (fzv (.int (if i < 0 then -i else i)))
    | _ => stk
  | .repr, v => match v.d with
    | .int i => if i.natAbs.log2 < 1920 then .ok (fzv (.str (toString i))) else stk
    | _ => stk
  | .str, v => match v.d with
    | .int i => if i.natAbs.log2 < 1920 then .ok (fzv (.str (toString i))) else stk
    | _ => stk
  | .dsort, v => match v.d with
    | .list xs => match allInt xs with | some ns => if ns.length < 60 then .ok ⟨true, 1, .list ((sortU ns).map .int)⟩ else stk | none => stk
    | _ => stk
  | .dlen, v => match v.d with
    | .list xs => match allInt xs with | some ns => if ns.length < 60 then .ok (fzv (.int (sortU ns).length)) else stk | none => stk
    | _ => stk
  | .rev, v => match v.d with
    | .list xs => if elz v.own v.n xs then .ok ⟨true, 1, .list xs.reverse⟩ else stk
    | _ => stk
  | .trev, v => match v.d with
    | .list xs => if elz v.own v.n xs then .ok (fzv (.tuple xs.reverse)) else stk
    | _ => stk
inductive B2 | max | min
def b2D : B2 → D → D → R D
  | .max, .int i, .int j => .ok (.int (if j > i then j else i))
  | .min, .int i, .int j => .ok (.int (if j < i then j else i))
  | _, _, _ => stk
inductive Ty | int | str | bool | list | tuple
def isTb : Ty → D → Bool
  | .int, .int _ => true
  | .int, .bool _ => true
  | .str, .str _ => true
  | .bool, .bool _ => true
  | .list, .list _ => true
  | .tuple, .tuple _ => true
  | _, _ => false
def isT (t : Ty) (d : D) : R Bool :=
  match d with
  | .dict _ => stk
  | d => .ok (isTb t d)
def isSq : D → Bool
  | .list _ => true
  | .tuple _ => true
  | _ => false
inductive M1 | index | count
def m1D : M1 → D → D → R D
  | .index, c, x => match c with
    | .list ys => if okDs ys && okD x then (match ys.findIdx? fun y => PyData.eqv y x with | some k => .ok (.int k) | none => stk) else stk
    | .tuple ys => if okDs ys && okD x then (match ys.findIdx? fun y => PyData.eqv y x with | some k => .ok (.int k) | none => stk) else stk
    | _ => stk
  | .count, c, x => match c with
    | .list ys => if okDs ys && okD x then .ok (.int (ys.countP fun y => PyData.eqv y x)) else stk
    | .tuple ys => if okDs ys && okD x then .ok (.int (ys.countP fun y => PyData.eqv y x)) else stk
    | _ => stk

/-! ### syntax -/
/-- targets: a name's slot, a tuple of targets -/
inductive Tg | nm (i : Nat) | nil | cons (a b : Tg)
inductive Ex
  | c (d : D)
  | v (i : Nat)
  | bin (o : Operator) (a b : Ex)
  | un (o : UnaryOp) (a : Ex)
  | tnot (a : Ex) | tand (a b : Ex) | tor (a b : Ex) | vand (a b : Ex) | vor (a b : Ex)
  | ife (t a b : Ex)
  | cmp (o : CmpOp) (a b : Ex)
  | chn (o o' : CmpOp) (a b c : Ex)
  | nil | cons (e es : Ex)
  | tup (es : Ex) | lst (n : Nat) (es : Ex)
  | ix (a i : Ex)
  | sl (a lo hi : Ex)
  | b1 (f : B1) (a : Ex) | b2 (f : B2) (a b : Ex) | isi (a : Ex) (t : Ty) | m1 (f : M1) (o a : Ex)
  | it (a : Ex) | rng (lo hi : Ex) | rngd (lo hi : Ex) | rrng (lo hi : Ex) | enum (a : Ex) | zip (a b : Ex) | rev (a : Ex)
  | lst1 (it : Ex) | tup1 (it : Ex)
  | comp (n : Nat) (e : Ex) (t : Tg) (it c : Ex) (own : List Nat)
  | comp2 (n : Nat) (e : Ex) (t : Tg) (it c : Ex) (t1 : Tg) (it1 c1 : Ex) (own own1 : List Nat)
  | call (f : Str) (es : Ex)
  | pop (i : Nat) (p : Ex) (k : Ex)
  | app (i : Nat) (p : Ex) (e : Ex)
  | ext (i : Nat) (p : Ex) (e : Ex)
  | ins (i : Nat) (p : Ex) (k e : Ex)

/-! ### how a def is called -/
inductive Pm | fz | lk (n : Nat) | mt (n : Nat)
structure Sg where
  pm : List Pm
  ret : Nat
structure Fd where
  sg : Sg
  run : List D → R (D × List D)
/-- how an argument is handed: a value (0), not at all (1), the slot i (i + 2) -/
def argV (p : Pm) (e : Ex) : Nat :=
  match p with
  | .fz => 0
  | .lk _ => match e with
    | .v i => i + 2
    | _ => 0
  | .mt _ => match e with
    | .v i => i + 2
    | _ => 1
def isMt : Pm → Bool
  | .mt _ => true
  | _ => false

/-- nothing is changed by the expression (names may be frozen or moved) -/
def pureX (G : Str → Option Fd) : Ex → Bool
  | .c _ | .v _ | .nil => true
  | .bin _ a b | .tand a b | .tor a b | .vand a b | .vor a b | .cmp _ a b | .cons a b | .ix a b | .b2 _ a b | .m1 _ a b | .rng a b | .rngd a b | .rrng a b | .zip a b => pureX G a && pureX G b
  | .un _ a | .tnot a | .tup a | .lst _ a | .b1 _ a | .isi a _ | .enum a | .rev a | .lst1 a | .tup1 a | .it a => pureX G a
  | .ife a b c | .chn _ _ a b c | .sl a b c => pureX G a && pureX G b && pureX G c
  | .comp _ e _ it c _ => pureX G e && pureX G it && pureX G c
  | .comp2 _ e _ it c _ it1 c1 _ _ => pureX G e && pureX G it && pureX G c && pureX G it1 && pureX G c1
  | .call f es => (match G f with | some g => !g.sg.pm.any isMt | none => false) && pureX G es
  | .pop .. | .app .. | .ext .. | .ins .. => false

/-- the value of e (f evaluates it), to be kept at the depth m: an owned name is frozen, or moved -/
def tk (m : Nat) (e : Ex) (f : Env → R (Val × Env)) (r : Env) : R (D × Env) :=
  match e with
  | .v i => match r[i]? with
    | some (.ow n d) => match isL d with
      | true => if m = 0 then .ok (d, r.set i (.fz d)) else if m = n then .ok (d, r.set i .no) else stk
      | false => .ok (d, r)
    | _ => f r >>= fun p => p.1.at m >>= fun d => .ok (d, p.2)
  | _ => f r >>= fun p => p.1.at m >>= fun d => .ok (d, p.2)
inductive Av | d (x : D) | s (i : Nat)
/-- an operand: a name is read late -/
def op1 (pu : Bool) (e : Ex) (f : Env → R (Val × Env)) (r : Env) : R ((Val ⊕ Nat) × Env) :=
  match e with
  | .v i => rd i r >>= fun _ => .ok (.inr i, r)
  | _ => f r >>= fun p => match isL p.1.d && !p.1.own && !pu with
    | true => stk
    | false => .ok (.inl p.1, p.2)
def res1 (x : Val ⊕ Nat) (r : Env) : R Val :=
  match x with
  | .inl v => .ok v
  | .inr i => rd i r
/-- two operands -/
def ops (pu : Bool) (e : Ex) (f g : Env → R (Val × Env)) (r : Env) : R ((Val × Val) × Env) :=
  op1 pu e f r >>= fun p => g p.2 >>= fun q => res1 p.1 q.2 >>= fun v => .ok ((v, q.1), q.2)

def noI : Option D → R (Option Int)
  | none => .ok none
  | some (.int i) => .ok (some i)
  | some _ => stk
def asB : D → R Bool
  | .bool b => .ok b
  | _ => stk
def asI : D → R Int
  | .int b => .ok b
  | _ => stk
def fzB (b : Bool) : Val := ⟨true, 0, .bool b⟩

def stS (m : Nat) (d : D) : Sl := if m = 0 || !isL d then .fz d else .ow m d
def itS (m : Nat) (d : D) : Sl := if m = 0 then .fz d else .lk m d
/-- a name is given a slot -/
def putS (i : Nat) (s : Sl) (r : Env) : R Env :=
  match r[i]? with
  | some (.mt _ _) => stk
  | some _ => .ok (r.set i s)
  | none => stk
mutual
def bindT (m : Nat) (t : Tg) (d : D) (r : Env) : R Env :=
  match t with
  | .nm i => putS i (itS m d) r
  | .cons a b => match d with
    | .tuple ds => bindTs (.cons a b) ds r
    | _ => stk
  | .nil => stk
def bindTs (t : Tg) (ds : List D) (r : Env) : R Env :=
  match t with
  | .nil => match ds with
    | [] => .ok r
    | _ :: _ => stk
  | .cons a b => match ds with
    | [] => stk
    | d :: ds => bindT 0 a d r >>= fun r => bindTs b ds r
  | .nm _ => stk
end

/-- the root of a path -/
def rootX : Ex → Option Nat
  | .v i => some i
  | .ix a _ => rootX a
  | _ => none
def lockS : Sl → Sl
  | .ow n d => .lk n d
  | .mt n d => .lk n d
  | s => s
def isOm : Option Sl → Bool
  | some (.ow _ _) => true
  | some (.mt _ _) => true
  | _ => false
/-- the names that a walk leans on -/
def rootsX : Ex → List Nat
  | .it a => (rootX a).toList
  | .enum a => (rootX a).toList
  | .rev a => (rootX a).toList
  | .zip a b => (rootX a).toList ++ (rootX b).toList
  | _ => []
/-- ahead of a walk: the roots are locked -/
def lockE (is : List Nat) (r : Env) : Env := r.mapIdx fun j x => if is.contains j then lockS x else x
/-- behind a walk: the roots are opened again; what was read off them meanwhile is given up -/
def unl (is : List Nat) (st : Nat → Bool) (r r2 : Env) : Env :=
  if is.any fun i => isOm r[i]? then
    r2.mapIdx fun j x => match r[j]? with
      | some y => if is.contains j && isOm (some y) then y else match x with
        | .lk _ _ => match y with
          | .lk n d => if st j then .no else .lk n d
          | _ => .no
        | x => x
      | none => x
  else r2
/-- a walk's thing stays as it is -/
def lkd (i : Nat) (r : Env) : Bool :=
  match r[i]? with
  | some (.lk _ _) => true
  | _ => false
def wOk (x : Ex) (v : Val) (r : Env) : Bool :=
  v.own || v.n == 0 || !isL v.d || match x with
    | .v i => lkd i r
    | .ix (.v i) _ => lkd i r
    | _ => false
def wOk1 (x : Ex) (v : Val) (r : Env) : Bool :=
  v.own || v.n == 0 || !isL v.d || match x with
    | .v i => lkd i r
    | _ => false
/-- the items of what is walked, how deep they may be someone's -/
def itemsV (v : Val) : R (Nat × List D) :=
  match v.d with
  | .list xs => .ok (if v.own then 0 else v.n - 1, xs)
  | .tuple xs => .ok (0, xs)
  | _ => stk
def itemsZ (v : Val) : R (List D) :=
  match v.d with
  | .list xs => if elz v.own v.n xs then .ok xs else stk
  | .tuple xs => .ok xs
  | _ => stk
def bnd (i : Int) : Bool := decide (-(2 ^ 62) ≤ i ∧ i < 2 ^ 62)
def rngL (lo : Int) (n : Nat) : List D := (List.range n).map fun (k : Nat) => PyData.int (lo + (k : Int))
def rngdL (lo : Int) (n : Nat) : List D := (List.range n).map fun (k : Nat) => PyData.int (lo - (k : Int))
def enumL (k : Int) : List D → List D
  | [] => []
  | d :: ds => .tuple [.int k, d] :: enumL (k + 1) ds
def zipL : List D → List D → List D
  | a :: r, b :: s => .tuple [a, b] :: zipL r s
  | _, _ => []

def popL (k : Option Int) (xs : List D) : R (D × List D) :=
  match k with
  | none => match xs[xs.length - 1]? with
    | some y => .ok (y, xs.dropLast)
    | none => stk
  | some j => if -(2 ^ 63) ≤ j ∧ j < 2 ^ 63 then (match ixOf xs.length j with
    | some k => match xs[k]? with
      | some y => .ok (y, xs.eraseIdx k)
      | none => stk
    | none => stk) else stk
def appL (x : D) (xs : List D) : R (D × List D) := if xs.length < lim then .ok (.none, xs ++ [x]) else stk
def extL (ys xs : List D) : R (D × List D) := if xs.length + ys.length ≤ lim then .ok (.none, xs ++ ys) else stk
def insL (j : Int) (x : D) (xs : List D) : R (D × List D) := if 0 ≤ j ∧ j ≤ xs.length ∧ xs.length < lim then .ok (.none, xs.take j.toNat ++ [x] ++ xs.drop j.toNat) else stk
def setL (j : Int) (x : D) (xs : List D) : R (D × List D) :=
  match ixOf xs.length j with
  | some k => .ok (.none, xs.set k x)
  | none => stk
def getL (j : Int) (xs : List D) : R (D × List D) :=
  match ixOf xs.length j with
  | some k => match xs[k]? with
    | some y => .ok (y, xs)
    | none => stk
  | none => stk
/-- the list at a path: how deep its items are owned, its items, how it is put back -/
def pathL (n : Nat) (d : D) (p : Option Int) : R (Nat × List D × (List D → D)) :=
  match d with
  | .list xs => match p with
    | none => match n with
      | n + 1 => .ok (n, xs, fun ys => .list ys)
      | 0 => stk
    | some k => match n with
      | n + 2 => match ixOf xs.length k with
        | some j => match xs[j]? with
          | some (.list ys) => .ok (n, ys, fun zs => .list (xs.set j (.list zs)))
          | _ => stk
        | none => stk
      | _ => stk
  | _ => stk
def updE (i : Nat) (p : Option Int) (f : List D → R (D × List D)) (r : Env) : R (D × Env) :=
  match r[i]? with
  | some (.ow n d) => pathL n d p >>= fun q => f q.2.1 >>= fun w => .ok (w.1, r.set i (.ow n (q.2.2 w.2)))
  | some (.mt n d) => pathL n d p >>= fun q => f q.2.1 >>= fun w => .ok (w.1, r.set i (.mt n (q.2.2 w.2)))
  | _ => stk
/-- the depth of what is put into a path's list -/
def depS (i : Nat) (p : Option Int) (r : Env) : R Nat :=
  match r[i]? with
  | some (.ow n d) => pathL n d p >>= fun q => .ok q.1
  | some (.mt n d) => pathL n d p >>= fun q => .ok q.1
  | _ => stk
def depB (i : Nat) (p : Bool) (r : Env) : R Nat :=
  match r[i]? with
  | some (.ow n _) => .ok (if p then n - 1 else n - 2)
  | some (.mt n _) => .ok (if p then n - 1 else n - 2)
  | _ => stk
def isNil : Ex → Bool
  | .nil => true
  | _ => false
/-- the items one behind another -/
def mapL (f : D → Env → R (Option D × Env)) : List D → Env → R (List D × Env)
  | [], r => .ok ([], r)
  | d :: ds, r => f d r >>= fun p => mapL f ds p.2 >>= fun q => .ok (p.1.toList ++ q.1, q.2)
def catL (f : D → Env → R (List D × Env)) : List D → Env → R (List D × Env)
  | [], r => .ok ([], r)
  | d :: ds, r => f d r >>= fun p => catL f ds p.2 >>= fun q => .ok (p.1 ++ q.1, q.2)
def wipeS (own : List Nat) (r : Env) : Env := own.foldr (fun i r => r.set i .no) r
/-- the slots of a block's own names, put back -/
def bk1 : Option Sl → Sl
  | some (.fz d) => .fz d
  | _ => .no
def backS (own : List Nat) (r0 r : Env) : Env := own.foldr (fun i r => r.set i (bk1 r0[i]?)) r
def lenOk (xs : List D) : R (List D) := if xs.length < lim then .ok xs else stk

def resA (r : Env) : Av → Pm → R D
  | .d x, .fz => .ok x
  | .d x, .lk _ => .ok x
  | .s i, .lk n => match r[i]? with
    | some (.fz d) => .ok d
    | some (.ow m d) => if m ≤ n then .ok d else stk
    | some (.lk m d) => if m ≤ n then .ok d else stk
    | some (.mt m d) => if m ≤ n then .ok d else stk
    | _ => stk
  | .s i, .mt n => match r[i]? with
    | some (.ow m d) => if m = n then .ok d else stk
    | some (.mt m d) => if m = n then .ok d else stk
    | _ => stk
  | _, _ => stk
def resAs (r : Env) : List Av → List Pm → R (List D)
  | [], [] => .ok []
  | a :: as, p :: ps => resA r a p >>= fun d => resAs r as ps >>= fun ds => .ok (d :: ds)
  | _, _ => stk
/-- the slots that are changed, that are read -/
def mtsOf : List Av → List Pm → List Nat
  | .s i :: as, .mt _ :: ps => i :: mtsOf as ps
  | _ :: as, _ :: ps => mtsOf as ps
  | _, _ => []
def lksOf : List Av → List Pm → List Nat
  | .s i :: as, .lk _ :: ps => i :: lksOf as ps
  | _ :: as, _ :: ps => lksOf as ps
  | _, _ => []
def apart (ms ls : List Nat) : Bool := decide ms.Nodup && ms.all fun i => !ls.contains i
def reS (s : Sl) (d : D) : Sl :=
  match s with
  | .ow n _ => .ow n d
  | .mt n _ => .mt n d
  | s => s
def putOuts : List Nat → List D → Env → R Env
  | [], [], r => .ok r
  | i :: is, d :: ds, r => match r[i]? with
    | some s => putOuts is ds (r.set i (reS s d))
    | none => stk
  | _, _, _ => stk

section
variable (G : Str → Option Fd)
mutual
def ev : Ex → Env → R (Val × Env)
  | .c d, r => .ok (fzv d, r)
  | .v i, r => rd i r >>= fun v => .ok (v, r)
  | .bin o a b, r => ops (pureX G b) a (ev a) (ev b) r >>= fun p =>
      if elz p.1.1.own p.1.1.n ((items? p.1.1.d).toOption.getD []) && elz p.1.2.own p.1.2.n ((items? p.1.2.d).toOption.getD []) then bop o p.1.1.d p.1.2.d >>= fun d => .ok (⟨true, 1, d⟩, p.2) else stk
  | .un o a, r => ev a r >>= fun p => uop o p.1.d >>= fun d => .ok (fzv d, p.2)
  | .tnot a, r => ev a r >>= fun p => truth p.1.d >>= fun b => .ok (fzB !b, p.2)
  | .tand a b, r => ev a r >>= fun p => truth p.1.d >>= fun k => match k with
      | true => ev b p.2 >>= fun q => truth q.1.d >>= fun k => .ok (fzB k, q.2)
      | false => .ok (fzB false, p.2)
  | .tor a b, r => ev a r >>= fun p => truth p.1.d >>= fun k => match k with
      | true => .ok (fzB true, p.2)
      | false => ev b p.2 >>= fun q => truth q.1.d >>= fun k => .ok (fzB k, q.2)
  | .vand a b, r => ev a r >>= fun p => asB p.1.d >>= fun k => match k with
      | true => ev b p.2 >>= fun q => asB q.1.d >>= fun k => .ok (fzB k, q.2)
      | false => .ok (fzB false, p.2)
  | .vor a b, r => ev a r >>= fun p => asB p.1.d >>= fun k => match k with
      | true => .ok (fzB true, p.2)
      | false => ev b p.2 >>= fun q => asB q.1.d >>= fun k => .ok (fzB k, q.2)
  | .ife t a b, r => ev t r >>= fun p => truth p.1.d >>= fun k => match k with
      | true => tk 0 a (ev a) p.2 >>= fun q => .ok (fzv q.1, q.2)
      | false => tk 0 b (ev b) p.2 >>= fun q => .ok (fzv q.1, q.2)
  | .cmp o a b, r => ops (pureX G b) a (ev a) (ev b) r >>= fun p => cop o p.1.1.d p.1.2.d >>= fun k => .ok (fzB k, p.2)
  | .chn o o' a b c, r => ev a r >>= fun p => asI p.1.d >>= fun i => ev b p.2 >>= fun q => asI q.1.d >>= fun j => cop o (.int i) (.int j) >>= fun k => match k with
      | true => ev c q.2 >>= fun s => asI s.1.d >>= fun l => cop o' (.int j) (.int l) >>= fun k => .ok (fzB k, s.2)
      | false => .ok (fzB false, q.2)
  | .tup es, r => evs 0 es r >>= fun p => if p.1.length ≤ lim then .ok (fzv (.tuple p.1), p.2) else stk
  | .lst n es, r => if n = 0 then stk else evs (n - 1) es r >>= fun p => if p.1.length ≤ lim then .ok (⟨true, n, .list p.1⟩, p.2) else stk
  | .ix a i, r => ops (pureX G i) a (ev a) (ev i) r >>= fun p => ixD p.1.1 p.1.2.d >>= fun v => .ok (v, p.2)
  | .sl a lo hi, r => op1 (pureX G lo && pureX G hi) a (ev a) r >>= fun p =>
      (match lo with | .nil => .ok (none, p.2) | lo => ev lo p.2 >>= fun q => asI q.1.d >>= fun i => .ok (some i, q.2)) >>= fun l =>
      (match hi with | .nil => .ok (none, l.2) | hi => ev hi l.2 >>= fun q => asI q.1.d >>= fun i => .ok (some i, q.2)) >>= fun h =>
      res1 p.1 h.2 >>= fun v => slD v l.1 h.1 >>= fun v => .ok (v, h.2)
  | .b1 f a, r => ev a r >>= fun p => b1D f p.1 >>= fun v => .ok (v, p.2)
  | .b2 f a b, r => ev a r >>= fun p => ev b p.2 >>= fun q => b2D f p.1.d q.1.d >>= fun d => .ok (fzv d, q.2)
  | .isi a t, r => ev a r >>= fun p => isT t p.1.d >>= fun k => .ok (fzB k, p.2)
  | .m1 f a b, r => ev a r >>= fun p => if isSq p.1.d && (!isL p.1.d || p.1.own || pureX G b) then ev b p.2 >>= fun q => m1D f p.1.d q.1.d >>= fun d => .ok (fzv d, q.2) else stk
  | .lst1 it, r => evI it r >>= fun p => if p.1.1 = 0 ∧ p.1.2.length ≤ lim then .ok (⟨true, 1, .list p.1.2⟩, p.2) else stk
  | .tup1 it, r => evI it r >>= fun p => if p.1.1 = 0 ∧ p.1.2.length ≤ lim then .ok (fzv (.tuple p.1.2), p.2) else stk
  | .comp n e t it c own, r =>
      if n = 0 then stk else
      evI it (lockE (rootsX it) r) >>= fun p =>
      mapL (fun d s => bindT p.1.1 t d s >>= fun s => ev c s >>= fun k => truth k.1.d >>= fun b => match b with
        | true => tk (n - 1) e (ev e) k.2 >>= fun x => .ok (some x.1, wipeS own x.2)
        | false => .ok (none, wipeS own k.2)) p.1.2 (wipeS own p.2) >>= fun q =>
      lenOk q.1 >>= fun xs => .ok (⟨true, n, .list xs⟩, unl (rootsX it) (fun _ => false) r (backS own p.2 q.2))
  | .comp2 n e t it c t1 it1 c1 own own1, r =>
      if n = 0 then stk else
      evI it (lockE (rootsX it) r) >>= fun p =>
      catL (fun d s => bindT p.1.1 t d s >>= fun s => ev c s >>= fun k => truth k.1.d >>= fun b => match b with
        | true => evI it1 (lockE (rootsX it1) k.2) >>= fun p1 =>
            mapL (fun d1 s1 => bindT p1.1.1 t1 d1 s1 >>= fun s1 => ev c1 s1 >>= fun k1 => truth k1.1.d >>= fun b1 => match b1 with
              | true => tk (n - 1) e (ev e) k1.2 >>= fun x => .ok (some x.1, wipeS own1 x.2)
              | false => .ok (none, wipeS own1 k1.2)) p1.1.2 (wipeS own1 p1.2) >>= fun q1 =>
            .ok (q1.1, wipeS own (unl (rootsX it1) (fun j => own1.contains j) k.2 q1.2))
        | false => .ok ([], wipeS own k.2)) p.1.2 (wipeS own p.2) >>= fun q =>
      lenOk q.1 >>= fun xs => .ok (⟨true, n, .list xs⟩, unl (rootsX it) (fun _ => false) r (backS own p.2 q.2))
  | .call f es, r => match G f with
      | none => stk
      | some g => ags g.sg.pm es r >>= fun p => resAs p.2 p.1 g.sg.pm >>= fun ds =>
          if apart (mtsOf p.1 g.sg.pm) (lksOf p.1 g.sg.pm) then
            g.run ds >>= fun o => putOuts (mtsOf p.1 g.sg.pm) o.2 p.2 >>= fun s => .ok (⟨true, g.sg.ret, o.1⟩, s)
          else stk
  | .pop i p k, r => rd i r >>= fun _ => (match p with | .nil => .ok ((none : Option Int), r) | p => ev p r >>= fun q => asI q.1.d >>= fun j => .ok (some j, q.2)) >>= fun (a : Option Int × Env) => depS i a.1 a.2 >>= fun _ =>
      if isNil p || pureX G k then
        (match k with | .nil => .ok ((none : Option Int), a.2) | k => ev k a.2 >>= fun q => asI q.1.d >>= fun j => .ok (some j, q.2)) >>= fun (b : Option Int × Env) =>
        depS i a.1 b.2 >>= fun m => updE i a.1 (fun xs => popL b.1 xs) b.2 >>= fun q => .ok (⟨true, m, q.1⟩, q.2)
      else stk
  | .app i p e, r => rd i r >>= fun _ => (match p with | .nil => .ok ((none : Option Int), r) | p => ev p r >>= fun q => asI q.1.d >>= fun j => .ok (some j, q.2)) >>= fun (a : Option Int × Env) => depS i a.1 a.2 >>= fun m =>
      if isNil p || pureX G e then tk m e (ev e) a.2 >>= fun x => depS i a.1 x.2 >>= fun m' => if m' = m then updE i a.1 (fun xs => appL x.1 xs) x.2 >>= fun q => .ok (fzv .none, q.2) else stk else stk
  | .ext i p e, r => rd i r >>= fun _ => (match p with | .nil => .ok ((none : Option Int), r) | p => ev p r >>= fun q => asI q.1.d >>= fun j => .ok (some j, q.2)) >>= fun (a : Option Int × Env) => depS i a.1 a.2 >>= fun _ =>
      if isNil p || pureX G e then tk 0 e (ev e) a.2 >>= fun x => depS i a.1 x.2 >>= fun m' => if m' = 0 then (match x.1 with | .list ys => .ok ys | _ => stk) >>= fun ys => updE i a.1 (fun xs => extL ys xs) x.2 >>= fun q => .ok (fzv .none, q.2) else stk else stk
  | .ins i p k e, r => rd i r >>= fun _ => (match p with | .nil => .ok ((none : Option Int), r) | p => ev p r >>= fun q => asI q.1.d >>= fun j => .ok (some j, q.2)) >>= fun (a : Option Int × Env) => depS i a.1 a.2 >>= fun m =>
      if isNil p || (pureX G e && pureX G k) then ev k a.2 >>= fun kq => asI kq.1.d >>= fun j => tk m e (ev e) kq.2 >>= fun x => depS i a.1 x.2 >>= fun m' => if m' = m then updE i a.1 (fun xs => insL j x.1 xs) x.2 >>= fun q => .ok (fzv .none, q.2) else stk else stk
  | .nil, _ | .cons _ _, _ | .it _, _ | .rng _ _, _ | .rngd _ _, _ | .rrng _ _, _ | .enum _, _ | .zip _ _, _ | .rev _, _ => stk
def evs (m : Nat) : Ex → Env → R (List D × Env)
  | .nil, r => .ok ([], r)
  | .cons e es, r => tk m e (ev e) r >>= fun p => evs m es p.2 >>= fun q => .ok (p.1 :: q.1, q.2)
  | _, _ => stk
def ags : List Pm → Ex → Env → R (List Av × Env)
  | [], .nil, r => .ok ([], r)
  | p :: ps, .cons e es, r =>
      (match argV p e with
        | 0 => tk 0 e (ev e) r >>= fun q => .ok (Av.d q.1, q.2)
        | 1 => stk
        | i + 2 => rd i r >>= fun _ => .ok (Av.s i, r)) >>= fun q => ags ps es q.2 >>= fun s => .ok (q.1 :: s.1, s.2)
  | _, _, _ => stk
def evI : Ex → Env → R ((Nat × List D) × Env)
  | .rng lo hi, r => ev lo r >>= fun p => asI p.1.d >>= fun i => ev hi p.2 >>= fun q => asI q.1.d >>= fun j =>
      if bnd i && bnd j then .ok ((0, rngL i (j - i).toNat), q.2) else stk
  | .rngd lo hi, r => ev lo r >>= fun p => asI p.1.d >>= fun i => ev hi p.2 >>= fun q => asI q.1.d >>= fun j =>
      if bnd i && bnd j then .ok ((0, rngdL i (i - j).toNat), q.2) else stk
  | .enum a, r => ev a r >>= fun p => if wOk a p.1 p.2 && isL p.1.d then itemsZ p.1 >>= fun xs => .ok ((0, enumL 0 xs), p.2) else stk
  | .zip a b, r => ops (pureX G b) a (ev a) (ev b) r >>= fun p => if wOk1 a p.1.1 p.2 && wOk1 b p.1.2 p.2 && (isL p.1.1.d == isL p.1.2.d) then itemsZ p.1.1 >>= fun xs => itemsZ p.1.2 >>= fun ys => .ok ((0, zipL xs ys), p.2) else stk
  | .rev a, r => ev a r >>= fun p => if wOk a p.1 p.2 then itemsV p.1 >>= fun q => .ok ((q.1, q.2.reverse), p.2) else stk
  | .rrng lo hi, r => ev lo r >>= fun p => asI p.1.d >>= fun i => ev hi p.2 >>= fun q => asI q.1.d >>= fun j =>
      if bnd i && bnd j then .ok ((0, rngdL (j - 1) (j - i).toNat), q.2) else stk
  | .it a, r => ev a r >>= fun p => if wOk a p.1 p.2 then itemsV p.1 >>= fun q => .ok (q, p.2) else stk
  | _, _ => stk
end
end

/-! ### statements -/
inductive Sm
  | nop
  | seq (a b : Sm)
  | set (m : Nat) (t : Tg) (e : Ex)
  | sets (i : Nat) (p : Ex) (k e : Ex)      -- x[p][k] = e, x[k] = e
  | aug (i : Nat) (o : Operator) (e : Ex)
  | augs (i : Nat) (k : Ex) (o : Operator) (e : Ex)
  | ife (c : Ex) (a b : Sm)
  | for_ (t : Tg) (it : Ex) (b : Sm)
  | while_ (c : Ex) (b : Sm)
  | ret (e : Ex)
  | drop (e : Ex)
  | brk | cont
  | par (i j : Nat) (a b : Ex)       -- x, y = a, b
inductive Out | nx (r : Env) | rt (d : D) (r : Env) | bk (r : Env) | ct (r : Env)
/-- the slots that a statement's targets name -/
def tgHas (i : Nat) : Tg → Bool
  | .nm j => i == j
  | .nil => false
  | .cons a b => tgHas i a || tgHas i b
/-- the name i is stored within -/
def stores (i : Nat) : Sm → Bool
  | .seq a b => stores i a || stores i b
  | .set _ t _ => tgHas i t
  | .aug j _ _ => i == j
  | .ife _ a b => stores i a || stores i b
  | .for_ t _ b => tgHas i t || stores i b
  | .while_ _ b => stores i b
  | .par j k _ _ => i == j || i == k
  | _ => false
def setT (m : Nat) (t : Tg) (d : D) (r : Env) : R Env :=
  match t with
  | .nm i => putS i (stS m d) r
  | t => bindT 0 t d r
def fuel : Nat := 1000000000
/-- a loop's turns -/
def forL (f : D → Env → R Out) : List D → Env → R Out
  | [], r => .ok (.nx r)
  | d :: ds, r => f d r >>= fun o => match o with
    | .nx s => forL f ds s
    | .ct s => forL f ds s
    | .bk s => .ok (.nx s)
    | .rt v s => .ok (.rt v s)
def whileF (c : Env → R (Bool × Env)) (f : Env → R Out) : Nat → Env → R Out
  | 0, _ => stk
  | n + 1, r => c r >>= fun p => match p.1 with
    | false => .ok (.nx p.2)
    | true => f p.2 >>= fun o => match o with
      | .nx s => whileF c f n s
      | .ct s => whileF c f n s
      | .bk s => .ok (.nx s)
      | .rt v s => .ok (.rt v s)
/-- what follows a loop is told with the roots open -/
def outU (is : List Nat) (st : Nat → Bool) (r : Env) : Out → R Out
  | .nx s => .ok (.nx (unl is st r s))
  | .rt v s => .ok (.rt v (unl is st r s))
  | _ => stk
section
variable (G : Str → Option Fd) (rm : Nat)
def evB (e : Ex) (r : Env) : R (Bool × Env) := ev G e r >>= fun p => truth p.1.d >>= fun b => .ok (b, p.2)
def exec : Sm → Env → R Out
  | .nop, r => .ok (.nx r)
  | .seq a b, r => exec a r >>= fun o => match o with
    | .nx s => exec b s
    | o => .ok o
  | .set m t e, r => tk m e (ev G e) r >>= fun p => setT m t p.1 p.2 >>= fun s => .ok (.nx s)
  | .sets i p k e, r => depB i (isNil p) r >>= fun m => tk m e (ev G e) r >>= fun x => rd i x.2 >>= fun _ =>
      (match p with | .nil => .ok ((none : Option Int), x.2) | p => ev G p x.2 >>= fun q => asI q.1.d >>= fun j => .ok (some j, q.2)) >>= fun (a : Option Int × Env) => depS i a.1 a.2 >>= fun _ =>
      if isNil p || pureX G k then ev G k a.2 >>= fun q => asI q.1.d >>= fun j => depS i a.1 q.2 >>= fun m' => if m' = m then
      updE i a.1 (fun xs => setL j x.1 xs) q.2 >>= fun q => .ok (.nx q.2) else stk else stk
  | .aug i o e, r => rd i r >>= fun v => asI v.d >>= fun x => ev G e r >>= fun q => asI q.1.d >>= fun y => bop o (.int x) (.int y) >>= fun d => putS i (.fz d) q.2 >>= fun s => .ok (.nx s)
  | .augs i k o e, r => rd i r >>= fun _ => ev G k r >>= fun q => asI q.1.d >>= fun j => updE i none (fun xs => getL j xs) q.2 >>= fun y =>
      if isL y.1 then stk else ev G e y.2 >>= fun x => if isL x.1.d then stk else bop o y.1 x.1.d >>= fun z =>
      if isL z then stk else updE i none (fun xs => setL j z xs) x.2 >>= fun q => .ok (.nx q.2)
  | .ife c a b, r => evB G c r >>= fun p => match p.1 with
    | true => exec a p.2
    | false => exec b p.2
  | .for_ t it b, r => if (rootsX it).any fun i => stores i b || tgHas i t then stk else
      evI G it (lockE (rootsX it) r) >>= fun p => forL (fun d s => bindT p.1.1 t d s >>= fun s => exec b s) p.1.2 p.2 >>= fun o => outU (rootsX it) (fun i => stores i b || tgHas i t) r o
  | .while_ c b, r => whileF (evB G c) (exec b) fuel r
  | .ret e, r => tk rm e (ev G e) r >>= fun p => .ok (.rt p.1 p.2)
  | .drop e, r => ev G e r >>= fun p => .ok (.nx p.2)
  | .brk, r => .ok (.bk r)
  | .cont, r => .ok (.ct r)
  | .par i j a b, r => tk 0 a (ev G a) r >>= fun p => tk 0 b (ev G b) p.2 >>= fun q => putS i (.fz p.1) q.2 >>= fun s => putS j (.fz q.1) s >>= fun s => .ok (.nx s)
end
/-- a def: its parameters come first -/
structure Fn where
  sg : Sg
  slots : Nat
  body : Sm
def slOf : Pm → D → Sl
  | .fz, d => .fz d
  | .lk n, d => .lk n d
  | .mt n, d => .mt n d
def slsOf : List Pm → List D → R Env
  | [], [] => .ok []
  | p :: ps, d :: ds => slsOf ps ds >>= fun r => .ok (slOf p d :: r)
  | _, _ => stk
def outsOf : List Pm → Env → R (List D)
  | [], _ => .ok []
  | .mt n :: ps, s :: r => match s with
    | .mt n' d => if n' = n then outsOf ps r >>= fun ds => .ok (d :: ds) else stk
    | _ => stk
  | _ :: ps, _ :: r => outsOf ps r
  | _ :: _, [] => stk
def runF (G : Str → Option Fd) (f : Fn) (ds : List D) : R (D × List D) :=
  slsOf f.sg.pm ds >>= fun r => exec G f.sg.ret f.body (r ++ List.replicate (f.slots - r.length) .no) >>= fun o => match o with
    | .rt d s => outsOf f.sg.pm s >>= fun ds => .ok (d, ds)
    | .nx s => outsOf f.sg.pm s >>= fun ds => .ok (.none, ds)
    | _ => stk
/-- the defs of a program, to the depth k of calls -/
def prog (P : Str → Option Fn) : Nat → Str → Option Fd
  | 0, _ => none
  | k + 1, f => (P f).map fun fn => ⟨fn.sg, runF (prog P k) fn⟩
end VL
/-! VL: how data lie in a heap; what steps keep. -/
namespace VL
open PySem PySem.Spec PyProof.Rows L2

theorem pimp {A B : Type} {F G : A → B → Prop} : ∀ {l : List A} {m : List B}, Paired F l m → (∀ a b, a ∈ l → F a b → G a b) → Paired G l m
  | _, _, .nil, _ => .nil
  | _, _, .cons r t, f => .cons (f _ _ List.mem_cons_self r) (pimp t fun a b h => f a b (List.mem_cons_of_mem _ h))
inductive Trip {A B C : Type} (F : A → B → C → Prop) : List A → List B → List C → Prop
  | nil : Trip F [] [] []
  | cons {a b c l m n} : F a b c → Trip F l m n → Trip F (a :: l) (b :: m) (c :: n)

/-- a tuple whose object has no dict of its own: made by the text, or standing at the top -/
def TupAt (K : PySem.W.Frag) (H : Hp) (a : Addr) (vs : List V) : Prop :=
  (∃ o : Obj, H a = some (.frz o (.tup vs)) ∧ o.dict = none) ∨ ∃ (o : Obj) (its : Array Value) (n : Nat), K.lookup a = some o ∧ o.cls = .type "tuple" ∧ o.dict = none ∧ o.data = .seq its n ∧ its.size ≤ sizeLine ∧ Vals vs its.toList
theorem TupAt.sq {K : PySem.W.Frag} {H : Hp} {a : Addr} {vs : List V} (h : TupAt K H a vs) : SqT K H a vs := by
  rcases h with ⟨o, h, _⟩ | ⟨o, its, n, h1, h2, _, h3, h4, h5⟩
  · exact .inl (.inr ⟨o, h⟩)
  · exact .inr ⟨o, its, n, h1, h2, h3, h4, h5⟩
/-- the script's list -/
def ScrAt (K : PySem.W.Frag) (H : Hp) (a : Addr) (xs : List V) : Prop :=
  (∃ o : Obj, H a = some (.frz o (.lst xs))) ∨ ∃ (o : Obj) (its : Array Value) (n : Nat), K.lookup a = some o ∧ o.cls = .type "list" ∧ o.dict = none ∧ o.data = .seq its n ∧ its.size ≤ sizeLine ∧ Vals xs its.toList
theorem ScrAt.sq {K : PySem.W.Frag} {H : Hp} {a : Addr} {xs : List V} (h : ScrAt K H a xs) : SqL K H a xs := by
  rcases h with ⟨o, h⟩ | h
  · exact .inl (.inr ⟨o, h⟩)
  · exact .inr h
/-- the script, as a thing that is read alone -/
def scrK (ns : List Int) : List (D × D) := [(.none, .list (ns.map .int))]
section
variable (K : PySem.W.Frag)
mutual
/-- v is the data d, its lists stand where T says -/
def RepF (H : Hp) (T : Addr → Prop) : D → V → Prop
  | .none, v => v = .non
  | .bool b, v => v = .bl b
  | .int i, v => v = .int i
  | .str x, v => v = .str x
  | .list ds, v => ∃ a vs, v = .ref a ∧ H a = some (.lst vs) ∧ T a ∧ RepFs H T ds vs
  | .tuple ds, v => ∃ a vs, v = .ref a ∧ TupAt K H a vs ∧ RepFs H T ds vs
  | .dict kvs, v => ∃ a ns, kvs = scrK ns ∧ v = .ref a ∧ ScrAt K H a (ns.map V.int)
def RepFs (H : Hp) (T : Addr → Prop) : List D → List V → Prop
  | [], vs => vs = []
  | d :: ds, vs => ∃ v r, vs = v :: r ∧ RepF H T d v ∧ RepFs H T ds r
end
/-- the same where lists down to the depth n stand where S says -/
def RepB (H : Hp) (S T : Addr → Prop) : Nat → D → V → Prop
  | 0, d, v => RepF K H T d v
  | n + 1, d, v => match d with
    | .list ds => ∃ a vs, v = .ref a ∧ H a = some (.lst vs) ∧ S a ∧ Paired (RepB H S T n) ds vs
    | d => RepF K H T d v
/-- the lists down to the depth n are owned: they stand at f -/
def RepO (H : Hp) (O : Addr → Prop) : Nat → D → V → List Addr → Prop
  | 0, d, v, f => RepF K H (fun a => ¬ O a) d v ∧ f = []
  | n + 1, d, v, f => match d with
    | .list ds => ∃ a vs fs, v = .ref a ∧ H a = some (.lst vs) ∧ O a ∧ f = a :: fs.flatten ∧ Trip (RepO H O n) ds vs fs
    | d => RepF K H (fun a => ¬ O a) d v ∧ f = []
end

variable {K : PySem.W.Frag} {H H' : Hp} {S S' T T' O O' : Addr → Prop}
theorem repFs_iff : ∀ {ds : List D} {vs : List V}, RepFs K H T ds vs ↔ Paired (RepF K H T) ds vs
  | [], vs => by
    constructor
    · intro h; rw [RepFs] at h; subst h; exact .nil
    · intro h; cases h; rw [RepFs]
  | d :: ds, vs => by
    constructor
    · intro h; rw [RepFs] at h; obtain ⟨v, r, rfl, h1, h2⟩ := h; exact .cons h1 (repFs_iff.mp h2)
    · intro h; cases h with | cons h1 h2 => rw [RepFs]; exact ⟨_, _, rfl, h1, repFs_iff.mpr h2⟩
theorem plen {A B : Type} {F : A → B → Prop} : ∀ {l : List A} {m : List B}, Paired F l m → l.length = m.length
  | _, _, .nil => rfl
  | _, _, .cons _ t => by rw [List.length_cons, List.length_cons, plen t]
theorem Trip.len {A B C : Type} {F : A → B → C → Prop} : ∀ {l : List A} {m : List B} {n : List C}, Trip F l m n → l.length = m.length ∧ l.length = n.length
  | _, _, _, .nil => ⟨rfl, rfl⟩
  | _, _, _, .cons _ t => by
    obtain ⟨h1, h2⟩ := Trip.len t
    simp only [List.length_cons]
    omega
theorem pat {A B : Type} {F : A → B → Prop} : ∀ {l : List A} {m : List B} {i : Nat} {a : A}, Paired F l m → l[i]? = some a → ∃ b, m[i]? = some b ∧ F a b
  | _, _, _, _, .nil, h => by simp at h
  | _, _, 0, _, .cons r _, h => by simp at h; subst h; exact ⟨_, rfl, r⟩
  | _, _, i + 1, _, .cons _ t, h => by
    obtain ⟨b, h1, h2⟩ := pat (i := i) t (by simpa using h)
    exact ⟨b, by simpa using h1, h2⟩
theorem pat' {A B : Type} {F : A → B → Prop} : ∀ {l : List A} {m : List B} {i : Nat} {b : B}, Paired F l m → m[i]? = some b → ∃ a, l[i]? = some a ∧ F a b
  | _, _, _, _, .nil, h => by simp at h
  | _, _, 0, _, .cons r _, h => by simp at h; subst h; exact ⟨_, rfl, r⟩
  | _, _, i + 1, _, .cons _ t, h => by
    obtain ⟨b, h1, h2⟩ := pat' (i := i) t (by simpa using h)
    exact ⟨b, by simpa using h1, h2⟩
theorem papp {A B : Type} {F : A → B → Prop} : ∀ {l l' : List A} {m m' : List B}, Paired F l m → Paired F l' m' → Paired F (l ++ l') (m ++ m')
  | _, _, _, _, .nil, s => s
  | _, _, _, _, .cons r t, s => .cons r (papp t s)
theorem ptake {A B : Type} {F : A → B → Prop} : ∀ {l : List A} {m : List B} (n : Nat), Paired F l m → Paired F (l.take n) (m.take n)
  | _, _, 0, _ => by simp only [List.take_zero]; exact .nil
  | _, _, _ + 1, .nil => .nil
  | _, _, n + 1, .cons r t => .cons r (ptake n t)
theorem pdrop {A B : Type} {F : A → B → Prop} : ∀ {l : List A} {m : List B} (n : Nat), Paired F l m → Paired F (l.drop n) (m.drop n)
  | _, _, 0, r => r
  | _, _, _ + 1, .nil => .nil
  | _, _, n + 1, .cons _ t => pdrop n t
theorem prev {A B : Type} {F : A → B → Prop} : ∀ {l : List A} {m : List B}, Paired F l m → Paired F l.reverse m.reverse
  | _, _, .nil => .nil
  | _, _, .cons r t => by simp only [List.reverse_cons]; exact papp (prev t) (.cons r .nil)

/-! ### weakening -/
theorem RepF.ref {v : V} {ds : List D} (h : RepF K H T (.list ds) v) : ∃ a vs, v = .ref a ∧ H a = some (.lst vs) ∧ T a ∧ Paired (RepF K H T) ds vs := by
  rw [RepF] at h
  obtain ⟨a, vs, e, h1, h2, h3⟩ := h
  exact ⟨a, vs, e, h1, h2, repFs_iff.mp h3⟩
theorem RepF.lst {ds : List D} {a : Addr} {vs : List V} (h1 : H a = some (.lst vs)) (h2 : T a) (h3 : Paired (RepF K H T) ds vs) : RepF K H T (.list ds) (.ref a) := by
  rw [RepF]
  exact ⟨a, vs, rfl, h1, h2, repFs_iff.mpr h3⟩
theorem RepF.tup {ds : List D} {a : Addr} {vs : List V} (h1 : TupAt K H a vs) (h3 : Paired (RepF K H T) ds vs) : RepF K H T (.tuple ds) (.ref a) := by
  rw [RepF]
  exact ⟨a, vs, rfl, h1, repFs_iff.mpr h3⟩
theorem RepF.tref {v : V} {ds : List D} (h : RepF K H T (.tuple ds) v) : ∃ a vs, v = .ref a ∧ TupAt K H a vs ∧ Paired (RepF K H T) ds vs := by
  rw [RepF] at h
  obtain ⟨a, vs, e, h1, h3⟩ := h
  exact ⟨a, vs, e, h1, repFs_iff.mp h3⟩

/-- what must be known of two heaps so that data stay -/
structure Keeps (K : PySem.W.Frag) (H H' : Hp) (T T' : Addr → Prop) : Prop where
  lst : ∀ a vs, H a = some (.lst vs) → T a → H' a = some (.lst vs) ∧ T' a
  frz : ∀ a o u, H a = some (.frz o u) → H' a = some (.frz o u)
theorem Keeps.tup (k : Keeps K H H' T T') {a : Addr} {vs : List V} (h : TupAt K H a vs) : TupAt K H' a vs := by
  rcases h with ⟨o, h, e⟩ | h
  · exact .inl ⟨o, k.frz a o _ h, e⟩
  · exact .inr h
mutual
theorem RepF.keep (k : Keeps K H H' T T') : ∀ (d : D) (v : V), RepF K H T d v → RepF K H' T' d v
  | .none, _, h => by rw [RepF] at h ⊢; exact h
  | .bool _, _, h => by rw [RepF] at h ⊢; exact h
  | .int _, _, h => by rw [RepF] at h ⊢; exact h
  | .str _, _, h => by rw [RepF] at h ⊢; exact h
  | .list ds, v, h => by
    rw [RepF] at h ⊢
    obtain ⟨a, vs, e, h1, h2, h3⟩ := h
    obtain ⟨k1, k2⟩ := k.lst a vs h1 h2
    exact ⟨a, vs, e, k1, k2, RepFs.keep k ds vs h3⟩
  | .tuple ds, v, h => by
    rw [RepF] at h ⊢
    obtain ⟨a, vs, e, h1, h3⟩ := h
    exact ⟨a, vs, e, k.tup h1, RepFs.keep k ds vs h3⟩
  | .dict _, _, h => by
    rw [RepF] at h ⊢
    obtain ⟨a, ns, e1, e2, h⟩ := h
    exact ⟨a, ns, e1, e2, h.imp (fun ⟨o, h⟩ => ⟨o, k.frz a o _ h⟩) fun z => z⟩
theorem RepFs.keep (k : Keeps K H H' T T') : ∀ (ds : List D) (vs : List V), RepFs K H T ds vs → RepFs K H' T' ds vs
  | [], _, h => by rw [RepFs] at h ⊢; exact h
  | d :: ds, vs, h => by
    rw [RepFs] at h ⊢
    obtain ⟨v, r, e, h1, h2⟩ := h
    exact ⟨v, r, e, RepF.keep k d v h1, RepFs.keep k ds r h2⟩
end
theorem RepB.keep (kS : Keeps K H H' S S') (kT : Keeps K H H' T T') : ∀ (n : Nat) (d : D) (v : V), RepB K H S T n d v → RepB K H' S' T' n d v
  | 0, d, v, h => RepF.keep kT d v h
  | n + 1, d, v, h => by
    unfold RepB at h ⊢
    split at h
    · obtain ⟨a, vs, e, h1, h2, h3⟩ := h
      obtain ⟨k1, k2⟩ := kS.lst a vs h1 h2
      exact ⟨a, vs, e, k1, k2, pimp h3 fun d v _ q => RepB.keep kS kT n d v q⟩
    · exact RepF.keep kT _ v h
theorem Trip.imp {A B C : Type} {F G : A → B → C → Prop} : ∀ {l : List A} {m : List B} {n : List C}, Trip F l m n → (∀ a b c, c ∈ n → F a b c → G a b c) → Trip G l m n
  | _, _, _, .nil, _ => .nil
  | _, _, _, .cons r t, f => .cons (f _ _ _ List.mem_cons_self r) (Trip.imp t fun a b c h => f a b c (List.mem_cons_of_mem _ h))
theorem RepO.keep (kT : Keeps K H H' (fun a => ¬ O a) (fun a => ¬ O' a)) : ∀ (n : Nat) (d : D) (v : V) (f : List Addr), (∀ a ∈ f, ∀ vs, H a = some (.lst vs) → O a → H' a = some (.lst vs) ∧ O' a) → RepO K H O n d v f → RepO K H' O' n d v f
  | 0, d, v, f, k, h => ⟨RepF.keep kT d v h.1, h.2⟩
  | n + 1, d, v, f, k, h => by
    unfold RepO at h ⊢
    split at h
    · obtain ⟨a, vs, fs, e, h1, h2, rfl, h3⟩ := h
      obtain ⟨k1, k2⟩ := k a List.mem_cons_self vs h1 h2
      exact ⟨a, vs, fs, e, k1, k2, rfl, Trip.imp h3 fun d v g hg q => RepO.keep kT n d v g (fun b hb => k b (List.mem_cons_of_mem _ (List.mem_flatten.mpr ⟨g, hg, hb⟩))) q⟩
    · exact ⟨RepF.keep kT _ v h.1, h.2⟩

/-- owned data as read -/
theorem Trip.pair {A B C : Type} {F : A → B → C → Prop} {G : A → B → Prop} : ∀ {l : List A} {m : List B} {n : List C}, Trip F l m n → (∀ a b c, c ∈ n → F a b c → G a b) → Paired G l m
  | _, _, _, .nil, _ => .nil
  | _, _, _, .cons r t, f => .cons (f _ _ _ List.mem_cons_self r) (Trip.pair t fun a b c h => f a b c (List.mem_cons_of_mem _ h))
theorem RepO.toB : ∀ (n : Nat) (d : D) (v : V) (f : List Addr), RepO K H O n d v f → RepB K H (fun a => a ∈ f) (fun a => ¬ O a) n d v
  | 0, d, v, f, h => h.1
  | n + 1, d, v, f, h => by
    unfold RepO at h
    unfold RepB
    split at h
    · obtain ⟨a, vs, fs, e, h1, h2, rfl, h3⟩ := h
      refine ⟨a, vs, e, h1, List.mem_cons_self, h3.pair fun d v g hg q => ?_⟩
      exact RepB.keep ⟨fun b _ h1 h2 => ⟨h1, List.mem_cons_of_mem _ (List.mem_flatten.mpr ⟨g, hg, h2⟩)⟩, fun _ _ _ h => h⟩ ⟨fun _ _ h1 h2 => ⟨h1, h2⟩, fun _ _ _ h => h⟩ n d v (RepO.toB n d v g q)
    · exact h.1
theorem RepB.mono {n : Nat} {d : D} {v : V} (h : RepB K H S T n d v) (hS : ∀ a, S a → S' a) (hT : ∀ a, T a → T' a) : RepB K H S' T' n d v :=
  RepB.keep ⟨fun a vs h1 h2 => ⟨h1, hS a h2⟩, fun _ _ _ h => h⟩ ⟨fun a vs h1 h2 => ⟨h1, hT a h2⟩, fun _ _ _ h => h⟩ n d v h
theorem RepF.mono {d : D} {v : V} (h : RepF K H T d v) (hT : ∀ a, T a → T' a) : RepF K H T' d v := RepF.keep ⟨fun a vs h1 h2 => ⟨h1, hT a h2⟩, fun _ _ _ h => h⟩ d v h
/-- all of it, wherever it stands -/
theorem RepB.toF (hS : ∀ a, S a → T' a) (hT : ∀ a, T a → T' a) : ∀ (n : Nat) (d : D) (v : V), RepB K H S T n d v → RepF K H T' d v
  | 0, d, v, h => RepF.mono (show RepF K H T d v from h) hT
  | n + 1, d, v, h => by
    unfold RepB at h
    split at h
    · obtain ⟨a, vs, rfl, h1, h2, h3⟩ := h
      exact .lst h1 (hS a h2) (pimp h3 fun d v _ q => RepB.toF hS hT n d v q)
    · exact h.mono hT
/-- frozen data may be taken for borrowed ones -/
theorem RepF.toB (hS : ∀ a, T a → S a) : ∀ (n : Nat) (d : D) (v : V), RepF K H T d v → RepB K H S T n d v
  | 0, d, v, h => h
  | n + 1, d, v, h => by
    unfold RepB
    split
    · obtain ⟨a, vs, rfl, h1, h2, h3⟩ := h.ref
      exact ⟨a, vs, rfl, h1, hS a h2, pimp h3 fun d v _ q => RepF.toB hS n d v q⟩
    · exact h
theorem RepB.up (hS : ∀ a, T a → S a) : ∀ (n m : Nat) (d : D) (v : V), n ≤ m → RepB K H S T n d v → RepB K H S T m d v
  | 0, m, d, v, _, h => RepF.toB hS m d v h
  | n + 1, 0, d, v, l, h => by omega
  | n + 1, m + 1, d, v, l, h => by
    unfold RepB at h ⊢
    split at h
    · obtain ⟨a, vs, e, h1, h2, h3⟩ := h
      exact ⟨a, vs, e, h1, h2, pimp h3 fun d v _ q => RepB.up hS n m d v (by omega) q⟩
    · exact h
/-- what is no list is frozen -/
theorem RepB.flat {n : Nat} {d : D} {v : V} (h : RepB K H S T n d v) (e : isL d = false) : RepF K H T d v := by
  cases n with
  | zero => exact h
  | succ n =>
    unfold RepB at h
    split at h
    · cases e
    · exact h
theorem RepO.flat {n : Nat} {d : D} {v : V} {f : List Addr} (h : RepO K H O n d v f) (e : isL d = false) : RepF K H (fun a => ¬ O a) d v ∧ f = [] := by
  cases n with
  | zero => exact h
  | succ n =>
    unfold RepO at h
    split at h
    · cases e
    · exact h
theorem RepF.flatO {n : Nat} {d : D} {v : V} (h : RepF K H (fun a => ¬ O a) d v) (e : isL d = false) : RepO K H O n d v [] := by
  cases n with
  | zero => exact ⟨h, rfl⟩
  | succ n =>
    unfold RepO
    split
    · cases e
    · exact ⟨h, rfl⟩
theorem Trip.mem3 {A B C : Type} {F : A → B → C → Prop} : ∀ {l : List A} {m : List B} {n : List C} {c : C}, Trip F l m n → c ∈ n → ∃ a b, F a b c
  | _, _, _, _, .nil, h => by cases h
  | _, _, _, _, .cons r t, h => by
    rcases List.mem_cons.mp h with rfl | h
    · exact ⟨_, _, r⟩
    · exact Trip.mem3 t h
/-- the owned lists stand, and are owned -/
theorem RepO.has : ∀ (n : Nat) (d : D) (v : V) (f : List Addr), RepO K H O n d v f → ∀ a ∈ f, O a ∧ ∃ vs, H a = some (.lst vs)
  | 0, d, v, f, h, a, ha => by rw [h.2] at ha; cases ha
  | n + 1, d, v, f, h, a, ha => by
    unfold RepO at h
    split at h
    · obtain ⟨b, vs, fs, e, h1, h2, rfl, h3⟩ := h
      rcases List.mem_cons.mp ha with rfl | ha
      · exact ⟨h2, vs, h1⟩
      · obtain ⟨g, hg, ha⟩ := List.mem_flatten.mp ha
        obtain ⟨d', v', r⟩ := h3.mem3 hg
        exact RepO.has n _ _ _ r a ha
    · rw [h.2] at ha; cases ha
/-- owned data less deep: what is given up is frozen -/
theorem RepO.down (hOO : ∀ a, O' a → O a) : ∀ (n : Nat) (d : D) (v : V) (f : List Addr), RepO K H O n d v f → (∀ a ∈ f, ¬ O' a) → RepF K H (fun a => ¬ O' a) d v
  | 0, d, v, f, h, _ => h.1.mono fun a q z => q (hOO a z)
  | n + 1, d, v, f, h, k => by
    unfold RepO at h
    split at h
    · obtain ⟨a, vs, fs, rfl, h1, h2, rfl, h3⟩ := h
      refine RepF.lst h1 (k a List.mem_cons_self) (h3.pair fun d v g hg q => ?_)
      exact RepO.down hOO n d v g q fun b hb => k b (List.mem_cons_of_mem _ (List.mem_flatten.mpr ⟨g, hg, hb⟩))
    · exact h.1.mono fun a q z => q (hOO a z)
end VL
/-! VL: states and what steps keep of them. -/
namespace VL
open PySem PySem.Spec PyProof.Rows L2

/-- a slot -/
def SlOk (K : PySem.W.Frag) (H : Hp) (O M : Addr → Prop) (p : Option V) (x : Option (Option V)) : Sl → List Addr → Prop
  | .no, f => f = []
  | .fz d, f => (∃ v, x = some (some v) ∧ RepF K H (fun a => ¬ O a) d v) ∧ f = []
  | .ow n d, f => ∃ v, x = some (some v) ∧ RepO K H O n d v f
  | .lk n d, f => (∃ v, x = some (some v) ∧ RepB K H (fun a => ¬ M a) (fun a => ¬ O a) n d v) ∧ f = []
  | .mt n d, f => ∃ v, x = some (some v) ∧ p = some v ∧ RepO K H O n d v f
abbrev Fp := Nat → List Addr
def Mo (fp : Fp) : Addr → Prop := fun a => ∃ i, a ∈ fp i
/-- Z: lists that others own meanwhile -/
structure StOk (K : PySem.W.Frag) (pv : Nat → Option V) (H : Hp) (O Z : Addr → Prop) (s : L2.St) (r : Env) (fp : Fp) : Prop where
  len : s.length = r.length
  sl : ∀ i x, r[i]? = some x → SlOk K H O (fun a => Mo fp a ∨ Z a) (pv i) s[i]? x (fp i)
  zm : ∀ a, Z a → ¬ Mo fp a
  ze : ∀ a, Z a → ∃ o, H a = some o
  out : ∀ i, r[i]? = none → fp i = []
  nd : ∀ i, (fp i).Nodup
  dj : ∀ i j a, a ∈ fp i → a ∈ fp j → i = j
/-- from one state to another: M may have changed, and M' may now -/
structure Ext (b : Bool) (H : Hp) (O M : Addr → Prop) (H' : Hp) (O' M' : Addr → Prop) : Prop where
  keep : ∀ a o, H a = some o → ¬ M a → H' a = some o
  own : ∀ a o, H a = some o → ¬ M a → (O' a ↔ O a)
  live : ∀ a o, H a = some o → ∃ o', H' a = some o'
  sub : ∀ a, M' a → M a ∨ H a = none
  same : b = false → ∀ a o, H a = some o → H' a = some o
section
variable {K : PySem.W.Frag} {pv : Nat → Option V} {H H' H2 : Hp} {O O' O2 M M' M2 Z Z' : Addr → Prop} {s : L2.St} {r r' : Env} {fp fp' : Fp} {b b2 : Bool}
theorem Ext.refl : Ext b H O M H O M := ⟨fun _ _ h _ => h, fun _ _ _ _ => Iff.rfl, fun _ o h => ⟨o, h⟩, fun _ h => .inl h, fun _ _ _ h => h⟩
theorem Ext.trans (x : Ext b H O M H' O' M') (y : Ext b2 H' O' M' H2 O2 M2) : Ext (b || b2) H O M H2 O2 M2 where
  keep := fun a o h m => by
    refine y.keep a o (x.keep a o h m) fun z => ?_
    rcases x.sub a z with q | q
    · exact m q
    · rw [h] at q; cases q
  own := fun a o h m => by
    refine Iff.trans (y.own a o (x.keep a o h m) fun z => ?_) (x.own a o h m)
    rcases x.sub a z with q | q
    · exact m q
    · rw [h] at q; cases q
  live := fun a o h => by
    obtain ⟨o', h'⟩ := x.live a o h
    exact y.live a o' h'
  sub := fun a h => by
    rcases y.sub a h with q | q
    · exact x.sub a q
    · cases e : H a with
      | none => exact .inr rfl
      | some o =>
        obtain ⟨o', h'⟩ := x.live a o e
        rw [q] at h'; cases h'
  same := fun e a o h => by
    rw [Bool.or_eq_false_iff] at e
    exact y.same e.2 a o (x.same e.1 a o h)
theorem Ext.weak (x : Ext b H O M H' O' M') (h : b = true → b2 = true) : Ext b2 H O M H' O' M' := ⟨x.keep, x.own, x.live, x.sub, fun e => x.same (by cases b <;> simp_all)⟩
/-- less of what may now be changed -/
theorem Ext.less (x : Ext b H O M H' O' M') (h : ∀ a, M2 a → M' a) : Ext b H O M H' O' M2 := ⟨x.keep, x.own, x.live, fun a q => x.sub a (h a q), x.same⟩
/-- a new object at p; what may be changed stays -/
theorem Ext.new {p : Addr} {o : HO} (hp : H p = none) (hO : ∀ a, a ≠ p → (O' a ↔ O a)) (hM : ∀ a, M' a → M a ∨ a = p) : Ext b H O M (L2.upd H p o) O' M' where
  keep := fun a u h _ => by rw [upd_ne (ne_of_none h hp)]; exact h
  own := fun a u h _ => hO a (ne_of_none h hp)
  live := fun a u h => ⟨u, by rw [upd_ne (ne_of_none h hp)]; exact h⟩
  sub := fun a h => by
    rcases hM a h with q | q
    · exact .inl q
    · exact .inr (by rw [q]; exact hp)
  same := fun _ a u h => by rw [upd_ne (ne_of_none h hp)]; exact h

/-- M holds lists alone, all owned -/
def MOk (H : Hp) (O M : Addr → Prop) : Prop := ∀ a, M a → O a ∧ ∃ vs, H a = some (.lst vs)
theorem StOk.mok (h : StOk K pv H O Z s r fp) : MOk H O (Mo fp) := by
  rintro a ⟨i, hi⟩
  cases e : r[i]? with
  | none => rw [h.out i e] at hi; cases hi
  | some x =>
    have q := h.sl i x e
    cases x with
    | no => have q : fp i = [] := q; rw [q] at hi; cases hi
    | fz d => rw [q.2] at hi; cases hi
    | ow n d =>
      obtain ⟨v, _, q⟩ := q
      exact RepO.has _ _ _ _ q a hi
    | lk n d => rw [q.2] at hi; cases hi
    | mt n d =>
      obtain ⟨v, _, _, q⟩ := q
      exact RepO.has _ _ _ _ q a hi
theorem RepO.has' {n : Nat} {d : D} {v : V} {f : List Addr} (h : RepO K H O n d v f) : ∀ a ∈ f, O a ∧ ∃ vs, H a = some (.lst vs) := RepO.has n d v f h

theorem Ext.keeps {S S' : Addr → Prop} (x : Ext b H O M H' O' M') (mo : MOk H O M) (hS : ∀ a, S a → ¬ M a) (hS' : ∀ a vs, H a = some (.lst vs) → S a → S' a) : Keeps K H H' S S' where
  lst := fun a vs h q => by
    exact ⟨x.keep a _ h (hS a q), hS' a vs h q⟩
  frz := fun a o u h => x.keep a _ h fun m => by
    obtain ⟨_, ys, e'⟩ := mo a m
    rw [h] at e'
    cases e'
theorem rd_some {a : Addr} {vs : List V} (h : H a = some (.lst vs)) : ∃ o, H a = some o := ⟨_, h⟩
/-- frozen data stay frozen -/
theorem Ext.keepsF (x : Ext b H O M H' O' M') (mo : MOk H O M) : Keeps K H H' (fun a => ¬ O a) (fun a => ¬ O' a) :=
  x.keeps mo (fun a h m => h (mo a m).1) fun a vs h q z => by
    obtain ⟨o, e⟩ := rd_some h
    exact q ((x.own a o e fun m => q (mo a m).1).mp z)
theorem Ext.repF (x : Ext b H O M H' O' M') (mo : MOk H O M) {d : D} {v : V} (h : RepF K H (fun a => ¬ O a) d v) : RepF K H' (fun a => ¬ O' a) d v := RepF.keep (x.keepsF mo) d v h
/-- what stands apart from M stays -/
theorem Ext.keepsS (x : Ext b H O M H' O' M') (mo : MOk H O M) : Keeps K H H' (fun a => ¬ M a) (fun a => ¬ M' a) :=
  x.keeps mo (fun a h => h) fun a vs h q z => by
    obtain ⟨o, e⟩ := rd_some h
    rcases x.sub a z with z | z
    · exact q z
    · rw [e] at z; cases z
theorem Ext.repB (x : Ext b H O M H' O' M') (mo : MOk H O M) {n : Nat} {d : D} {v : V} (h : RepB K H (fun a => ¬ M a) (fun a => ¬ O a) n d v) : RepB K H' (fun a => ¬ M' a) (fun a => ¬ O' a) n d v :=
  RepB.keep (x.keepsS mo) (x.keepsF mo) n d v h
theorem Ext.keepsT (x : Ext false H O M H' O' M') : Keeps K H H' (fun _ => True) (fun _ => True) where
  lst := fun a vs h _ => by
    exact ⟨x.same rfl a _ h, trivial⟩
  frz := fun a o u h => x.same rfl a _ h
/-- borrowed data stay where nothing is changed -/
theorem Ext.repT (x : Ext false H O M H' O' M') (mo : MOk H O M) {n : Nat} {d : D} {v : V} (h : RepB K H (fun _ => True) (fun a => ¬ O a) n d v) : RepB K H' (fun _ => True) (fun a => ¬ O' a) n d v :=
  RepB.keep x.keepsT (x.keepsF mo) n d v h
theorem Ext.repO (x : Ext b H O M H' O' M') (mo : MOk H O M) {n : Nat} {d : D} {v : V} {f : List Addr} (hf : ∀ a ∈ f, ¬ M a) (h : RepO K H O n d v f) : RepO K H' O' n d v f :=
  RepO.keep (x.keepsF mo) n d v f (fun a ha vs e o => ⟨x.keep a _ e (hf a ha), (x.own a _ e (hf a ha)).mpr o⟩) h

/-- a value at x; tf: what it owns -/
def ValOk (K : PySem.W.Frag) (H : Hp) (O : Addr → Prop) (v : Val) (x : V) (tf : List Addr) : Prop :=
  match v.own with
  | true => RepO K H O v.n v.d x tf ∧ tf.Nodup
  | false => RepB K H (fun _ => True) (fun a => ¬ O a) v.n v.d x ∧ tf = []
def MoT (fp : Fp) (tf : List Addr) : Addr → Prop := fun a => Mo fp a ∨ a ∈ tf
theorem MoT.nil {fp : Fp} : MoT fp [] = Mo fp := by
  funext a
  exact propext ⟨fun h => h.elim id fun z => absurd z (List.not_mem_nil), Or.inl⟩
theorem ValOk.fz {v : D} {x : V} (h : RepF K H (fun a => ¬ O a) v x) : ValOk K H O (fzv v) x [] := ⟨⟨h, rfl⟩, List.nodup_nil⟩
theorem ValOk.own {n : Nat} {d : D} {x : V} {tf : List Addr} (h : RepO K H O n d x tf) (h2 : tf.Nodup) : ValOk K H O ⟨true, n, d⟩ x tf := ⟨h, h2⟩
theorem ValOk.bor {n : Nat} {d : D} {x : V} (h : RepB K H (fun _ => True) (fun a => ¬ O a) n d x) : ValOk K H O ⟨false, n, d⟩ x [] := ⟨h, rfl⟩
/-- as read -/
theorem ValOk.toB {v : Val} {x : V} {tf : List Addr} (h : ValOk K H O v x tf) : RepB K H (fun _ => True) (fun a => ¬ O a) v.n v.d x := by
  obtain ⟨o, n, d⟩ := v
  cases o with
  | true => exact (RepO.toB n d x tf h.1).mono (fun _ _ => trivial) fun _ q => q
  | false => exact h.1
theorem ValOk.toAny {v : Val} {x : V} {tf : List Addr} (h : ValOk K H O v x tf) : RepF K H (fun _ => True) v.d x :=
  RepB.toF (fun _ _ => trivial) (fun _ _ => trivial) _ _ _ h.toB
/-- a number -/
theorem ValOk.int {v : Val} {x : V} {tf : List Addr} {i : Int} (h : ValOk K H O v x tf) (e : v.d = .int i) : x = .int i := by
  have q := h.toAny
  rw [e, RepF] at q
  exact q
theorem ValOk.bool {v : Val} {x : V} {tf : List Addr} {i : Bool} (h : ValOk K H O v x tf) (e : v.d = .bool i) : x = .bl i := by
  have q := h.toAny
  rw [e, RepF] at q
  exact q

def ZT (Z : Addr → Prop) (tf : List Addr) : Addr → Prop := fun a => Z a ∨ a ∈ tf
theorem ZT.nil {Z : Addr → Prop} : ZT Z [] = Z := by
  funext a
  exact propext ⟨fun h => h.elim id fun z => absurd z (List.not_mem_nil), Or.inl⟩
/-! ### readings -/
/-- the reading of an expression that f evaluates -/
def tV (K : PySem.W.Frag) (pv : Nat → Option V) (b : Bool) (f : Env → R (Val × Env)) : TE := fun s H Q =>
  ∃ O Z r fp v r', StOk K pv H O Z s r fp ∧ f r = .ok (v, r') ∧
    ∀ x H' O' fp' tf, StOk K pv H' O' (ZT Z tf) s r' fp' → Ext b H O (Mo fp) H' O' (MoT fp' tf) → ValOk K H' O' v x tf → Q x H'
/-- the reading of a test -/
def tVT (K : PySem.W.Frag) (pv : Nat → Option V) (b : Bool) (f : Env → R (Val × Env)) : TT := fun s H Q =>
  ∃ O Z r fp k r', StOk K pv H O Z s r fp ∧ f r = .ok (fzB k, r') ∧
    ∀ H' O' fp', StOk K pv H' O' Z s r' fp' → Ext b H O (Mo fp) H' O' (Mo fp') → Q k H'
end
theorem PE.imp {X : Cx} {e : Expr} {t t' : TE} (h : PE X e t) (k : ∀ s H Q, t' s H Q → t s H Q) : PE X e t' := ⟨fun pins s σ H Q I w => h.run pins s σ H Q I (k σ H Q w)⟩
theorem PT.imp {X : Cx} {e : Expr} {t t' : TT} (h : PT X e t) (k : ∀ s H Q, t' s H Q → t s H Q) : PT X e t' := ⟨fun pins s σ H Q I w => h.run pins s σ H Q I (k σ H Q w)⟩
theorem PS.imp {X : Cx} {e : Stmt} {t t' : TS} (h : PS X e t) (k : ∀ D s H, t' D s H → t D s H) : PS X e t' := ⟨fun pins s σ H Q I w => h.run pins s σ H Q I (k Q σ H w)⟩
theorem PSs.imp {X : Cx} {e : List Stmt} {t t' : TS} (h : PSs X e t) (k : ∀ D s H, t' D s H → t D s H) : PSs X e t' := ⟨fun pins s σ H Q I w => h.run pins s σ H Q I (k Q σ H w)⟩
theorem PA.imp {X : Cx} {e : List Expr} {t t' : TA} (h : PA X e t) (k : ∀ s H Q, t' s H Q → t s H Q) : PA X e t' := ⟨fun pos pins s σ H Q I w => h.run pos pins s σ H Q I (k σ H Q w)⟩
theorem PW.imp {X : Cx} {e : Expr} {t t' : TT} (h : PW X e t) (k : ∀ s H Q, t' s H Q → t s H Q) : PW X e t' := ⟨fun wh pins s σ H Q I w => h.run wh pins s σ H Q I (k σ H Q w)⟩
end VL
/-! VL: slots read, frozen, moved, stored; new objects. -/
namespace VL
open PySem PySem.Spec PyProof.Rows L2

def upF (fp : Fp) (i : Nat) (f : List Addr) : Fp := fun j => if j = i then f else fp j
theorem upF_same {fp : Fp} {i : Nat} {f : List Addr} : upF fp i f i = f := if_pos rfl
theorem upF_ne {fp : Fp} {i j : Nat} {f : List Addr} (h : j ≠ i) : upF fp i f j = fp j := if_neg h
section
variable {K : PySem.W.Frag} {pv : Nat → Option V} {H H' H2 : Hp} {O O' O2 M M' M2 Z Z' N N' : Addr → Prop} {s : L2.St} {r r' : Env} {fp fp' : Fp} {b b2 : Bool}

/-- the slots over another heap -/
theorem SlOk.keep {p : Option V} {x : Option (Option V)} {y : Sl} {f : List Addr} (kT : Keeps K H H' (fun a => ¬ O a) (fun a => ¬ O' a)) (kS : Keeps K H H' (fun a => ¬ N a) (fun a => ¬ N' a))
    (kf : ∀ a ∈ f, ∀ vs, H a = some (.lst vs) → O a → H' a = some (.lst vs) ∧ O' a) (h : SlOk K H O N p x y f) : SlOk K H' O' N' p x y f := by
  cases y with
  | no => exact h
  | fz d =>
    obtain ⟨⟨v, e, h⟩, hf⟩ := h
    exact ⟨⟨v, e, RepF.keep kT d v h⟩, hf⟩
  | ow n d =>
    obtain ⟨v, e, h⟩ := h
    exact ⟨v, e, RepO.keep kT n d v f kf h⟩
  | lk n d =>
    obtain ⟨⟨v, e, h⟩, hf⟩ := h
    exact ⟨⟨v, e, RepB.keep kS kT n d v h⟩, hf⟩
  | mt n d =>
    obtain ⟨v, e, e2, h⟩ := h
    exact ⟨v, e, e2, RepO.keep kT n d v f kf h⟩
theorem Keeps.id {T T' : Addr → Prop} (h : ∀ a, (∃ o, H a = some o) → T a → T' a) : Keeps K H H T T' := ⟨fun a vs h1 h2 => ⟨h1, h a (rd_some h1) h2⟩, fun _ _ _ h => h⟩
theorem StOk.has (h : StOk K pv H O Z s r fp) {i : Nat} {a : Addr} (ha : a ∈ fp i) : O a ∧ ∃ vs, H a = some (.lst vs) := h.mok a ⟨i, ha⟩
/-- fewer things are owned -/
theorem StOk.shrink (h : StOk K pv H O Z s r fp) (h1 : ∀ a, O' a → O a) (h2 : ∀ a, Mo fp a → O' a) : StOk K pv H O' Z s r fp where
  len := h.len
  sl := fun i x e => (h.sl i x e).keep (Keeps.id fun a _ q z => q (h1 a z)) (Keeps.id fun a _ q => q) fun a ha vs e _ => ⟨e, h2 a ⟨i, ha⟩⟩
  zm := h.zm
  ze := h.ze
  out := h.out
  nd := h.nd
  dj := h.dj
/-- a slot is given anew -/
theorem StOk.put (h : StOk K pv H O Z s r fp) {i : Nat} {x' : Option V} {y : Sl} {f : List Addr} (hi : i < r.length) (hy : SlOk K H O (fun a => Mo (upF fp i f) a ∨ Z' a) (pv i) (some x') y f) (hn : f.Nodup)
    (hd : ∀ j a, j ≠ i → a ∈ f → a ∉ fp j) (hN : ∀ a, Mo (upF fp i f) a ∨ Z' a → Mo fp a ∨ Z a) (hz : ∀ a, Z' a → ¬ Mo (upF fp i f) a) : StOk K pv H O Z' (s.set i x') (r.set i y) (upF fp i f) where
  len := by rw [List.length_set, List.length_set]; exact h.len
  sl := fun j x e => by
    by_cases ej : j = i
    · subst ej
      rw [List.getElem?_set_self hi] at e
      cases e
      rw [List.getElem?_set_self (by rw [h.len]; exact hi), upF_same]
      exact hy
    · rw [List.getElem?_set_ne (Ne.symm ej)] at e
      rw [List.getElem?_set_ne (Ne.symm ej), upF_ne ej]
      exact (h.sl j x e).keep (Keeps.id fun a _ q => q) (Keeps.id fun a _ q z => q (hN a z)) fun a _ vs e o => ⟨e, o⟩
  zm := hz
  ze := fun a z => by
    rcases hN a (.inr z) with q | q
    · obtain ⟨_, vs, e⟩ := h.mok a q
      exact ⟨_, e⟩
    · exact h.ze a q
  out := fun j e => by
    by_cases ej : j = i
    · subst ej
      rw [List.getElem?_eq_none_iff, List.length_set] at e
      omega
    · rw [List.getElem?_set_ne (Ne.symm ej)] at e
      rw [upF_ne ej]
      exact h.out j e
  nd := fun j => by
    by_cases ej : j = i
    · subst ej; rw [upF_same]; exact hn
    · rw [upF_ne ej]; exact h.nd j
  dj := fun j k a h1 h2 => by
    by_cases ej : j = i
    · subst ej
      rw [upF_same] at h1
      by_cases ek : k = j
      · exact ek.symm
      · rw [upF_ne ek] at h2
        exact absurd h2 (hd k a ek h1)
    · rw [upF_ne ej] at h1
      by_cases ek : k = i
      · subst ek
        rw [upF_same] at h2
        exact absurd h1 (hd j a ej h2)
      · rw [upF_ne ek] at h2
        exact h.dj j k a h1 h2
theorem set_self {A : Type} {l : List A} {i : Nat} {a : A} (h : l[i]? = some a) : l.set i a = l := by
  apply List.ext_getElem?
  intro j
  by_cases e : j = i
  · subst e
    obtain ⟨h1, h2⟩ := List.getElem?_eq_some_iff.mp h
    rw [List.getElem?_set_self h1, h]
  · rw [List.getElem?_set_ne (Ne.symm e)]
theorem mo_upF_nil {i : Nat} {a : Addr} (h : Mo (upF fp i []) a) : Mo fp a ∧ (∀ (hd : ∀ i j a, a ∈ fp i → a ∈ fp j → i = j), a ∉ fp i) := by
  obtain ⟨j, hj⟩ := h
  by_cases e : j = i
  · subst e; rw [upF_same] at hj; cases hj
  · rw [upF_ne e] at hj
    exact ⟨⟨j, hj⟩, fun hd z => e (hd j i a hj z)⟩
/-- a slot is read -/
theorem StOk.rd (h : StOk K pv H O Z s r fp) {i : Nat} {v : Val} (e : rd i r = .ok v) : ∃ xv, s[i]? = some (some xv) ∧ ValOk K H O v xv [] := by
  unfold VL.rd at e
  cases q : r[i]? with
  | none => rw [q] at e; cases e
  | some y =>
    rw [q] at e
    have w := h.sl i y q
    cases y with
    | no => cases e
    | fz d =>
      cases e
      obtain ⟨⟨v, e, w⟩, _⟩ := w
      exact ⟨v, e, ⟨w, rfl⟩, List.nodup_nil⟩
    | ow n d =>
      cases e
      obtain ⟨v, e, w⟩ := w
      exact ⟨v, e, .bor ((RepO.toB n d v _ w).mono (fun _ _ => trivial) fun _ q => q)⟩
    | lk n d =>
      cases e
      obtain ⟨⟨v, e, w⟩, _⟩ := w
      exact ⟨v, e, .bor (w.mono (fun _ _ => trivial) fun _ q => q)⟩
    | mt n d =>
      cases e
      obtain ⟨v, e, _, w⟩ := w
      exact ⟨v, e, .bor ((RepO.toB n d v _ w).mono (fun _ _ => trivial) fun _ q => q)⟩
/-- a slot given up; what it owned lies at its old place -/
theorem StOk.drop (h : StOk K pv H O Z s r fp) {i : Nat} (hi : i < r.length) {x : Option V} (hx : s[i]? = some x) : StOk K pv H O (ZT Z (fp i)) s (r.set i .no) (upF fp i []) := by
  have q := h.put (i := i) (x' := x) (y := .no) (f := []) (Z' := ZT Z (fp i)) hi rfl List.nodup_nil (fun _ _ _ z => by cases z) (fun a z => by
    rcases z with z | z | z
    · exact .inl (mo_upF_nil z).1
    · exact .inr z
    · exact .inl ⟨i, z⟩) (fun a z w => by
    obtain ⟨w1, w2⟩ := mo_upF_nil w
    rcases z with z | z
    · exact h.zm a z w1
    · exact w2 h.dj z)
  rw [set_self hx] at q
  exact q
theorem StOk.lessZ (h : StOk K pv H O Z s r fp) (hz : ∀ a, Z' a → Z a) : StOk K pv H O Z' s r fp where
  len := h.len
  sl := fun i x e => (h.sl i x e).keep (Keeps.id fun a _ q => q) (Keeps.id fun a _ q z => q (z.imp id (hz a))) fun a ha vs e o => ⟨e, o⟩
  zm := fun a z => h.zm a (hz a z)
  ze := fun a z => h.ze a (hz a z)
  out := h.out
  nd := h.nd
  dj := h.dj
/-- a temporary is frozen -/
theorem StOk.freezeT {tf : List Addr} (h : StOk K pv H O (ZT Z tf) s r fp) : StOk K pv H (fun a => O a ∧ a ∉ tf) Z s r fp :=
  (h.shrink (O' := fun a => O a ∧ a ∉ tf) (fun a q => q.1) fun a m => ⟨(h.mok a m).1, fun z => h.zm a (.inr z) m⟩).lessZ fun a z => .inl z
theorem RepO.frozen {n : Nat} {d : D} {v : V} {f : List Addr} (h : RepO K H O n d v f) : RepF K H (fun a => ¬ (O a ∧ a ∉ f)) d v :=
  RepO.down (O' := fun a => O a ∧ a ∉ f) (fun a q => q.1) n d v f h fun a ha z => z.2 ha
theorem Ext.freezeT {tf tf' : List Addr} : Ext b H O (MoT fp tf) H (fun a => O a ∧ a ∉ tf) (Mo fp) where
  keep := fun _ _ h _ => h
  own := fun a o _ m => ⟨fun q => q.1, fun q => ⟨q, fun z => m (.inr z)⟩⟩
  live := fun a o h => ⟨o, h⟩
  sub := fun a m => .inl (.inl m)
  same := fun _ _ _ h => h
/-- an owned name is frozen -/
theorem StOk.freeze (h : StOk K pv H O Z s r fp) {i n : Nat} {d : D} (e : r[i]? = some (.ow n d)) :
    ∃ xv, s[i]? = some (some xv) ∧ RepF K H (fun a => ¬ (O a ∧ a ∉ fp i)) d xv ∧ StOk K pv H (fun a => O a ∧ a ∉ fp i) Z s (r.set i (.fz d)) (upF fp i []) ∧ Ext b H O (Mo fp) H (fun a => O a ∧ a ∉ fp i) (Mo (upF fp i [])) := by
  obtain ⟨v, ev, w⟩ := h.sl i _ e
  have hi : i < r.length := (List.getElem?_eq_some_iff.mp e).1
  have h1 := (h.drop hi ev).freezeT
  have h2 := h1.put (i := i) (x' := some v) (y := .fz d) (f := []) (Z' := Z) (by rw [List.length_set]; exact hi) ⟨⟨v, rfl, w.frozen⟩, rfl⟩ List.nodup_nil (fun _ _ _ z => by cases z) (fun a z => z.imp (fun z => (mo_upF_nil z).1) id)
    (fun a z m => h1.zm a z (mo_upF_nil m).1)
  rw [set_self ev, List.set_set] at h2
  have e3 : upF (upF fp i []) i [] = upF fp i [] := by
    funext j
    by_cases ej : j = i
    · subst ej; rw [upF_same, upF_same]
    · rw [upF_ne ej]
  rw [e3] at h2
  refine ⟨v, ev, w.frozen, h2, fun _ _ h _ => h, fun a o _ m => ⟨fun q => q.1, fun q => ⟨q, fun z => m ⟨i, z⟩⟩⟩, fun a o h => ⟨o, h⟩, fun a m => .inl (mo_upF_nil m).1, fun _ _ _ h => h⟩
/-- an owned name is moved -/
theorem StOk.move (h : StOk K pv H O Z s r fp) {i n : Nat} {d : D} (e : r[i]? = some (.ow n d)) :
    ∃ xv, s[i]? = some (some xv) ∧ RepO K H O n d xv (fp i) ∧ StOk K pv H O (ZT Z (fp i)) s (r.set i .no) (upF fp i []) ∧ Ext b H O (Mo fp) H O (MoT (upF fp i []) (fp i)) := by
  obtain ⟨v, ev, w⟩ := h.sl i _ e
  have hi : i < r.length := (List.getElem?_eq_some_iff.mp e).1
  exact ⟨v, ev, w, h.drop hi ev, fun _ _ h _ => h, fun a o _ m => Iff.rfl, fun a o h => ⟨o, h⟩, fun a m => .inl (m.elim (fun m => (mo_upF_nil m).1) fun m => ⟨i, m⟩), fun _ _ _ h => h⟩
/-- a new object -/
theorem StOk.newZ {p : Addr} {o : HO} (h : StOk K pv H O Z s r fp) (hp : H p = none) (hO : ∀ a, a ≠ p → (O' a ↔ O a)) (hZ : ∀ a, Z' a → Z a ∨ a = p) : StOk K pv (L2.upd H p o) O' Z' s r fp := by
  have kL : ∀ {T T' : Addr → Prop}, (∀ a, a ≠ p → T a → T' a) → Keeps K H (L2.upd H p o) T T' := fun {T T'} hT => by
    refine ⟨fun a vs q t => ?_, fun a o u q => by rw [upd_ne (ne_of_none q hp)]; exact q⟩
    have na := ne_of_none q hp
    exact ⟨by rw [upd_ne na]; exact q, hT a na t⟩
  refine ⟨h.len, fun i x e => (h.sl i x e).keep (kL fun a na q z => q ((hO a na).mp z)) (kL fun a na q z => q (z.imp id fun z => (hZ a z).elim id fun e => absurd e na)) fun a ha vs e q => ?_, fun a z m => ?_, fun a z => ?_, h.out, h.nd, h.dj⟩
  · have na := ne_of_none e hp
    exact ⟨by rw [upd_ne na]; exact e, (hO a na).mpr q⟩
  · rcases hZ a z with z | rfl
    · exact h.zm a z m
    · obtain ⟨_, vs, e⟩ := h.mok a m
      rw [hp] at e; cases e
  · rcases hZ a z with z | rfl
    · obtain ⟨u, e⟩ := h.ze a z
      exact ⟨u, by rw [upd_ne (ne_of_none e hp)]; exact e⟩
    · exact ⟨_, upd_same⟩
theorem StOk.new {p : Addr} {o : HO} (h : StOk K pv H O Z s r fp) (hp : H p = none) (hO : ∀ a, a ≠ p → (O' a ↔ O a)) : StOk K pv (L2.upd H p o) O' Z s r fp := h.newZ hp hO fun _ z => .inl z
theorem Keeps.new {p : Addr} {o : HO} (hp : H p = none) {T T' : Addr → Prop} (hT : ∀ a, a ≠ p → T a → T' a) : Keeps K H (L2.upd H p o) T T' := by
  refine ⟨fun a vs q t => ?_, fun a o u q => by rw [upd_ne (ne_of_none q hp)]; exact q⟩
  have na := ne_of_none q hp
  exact ⟨by rw [upd_ne na]; exact q, hT a na t⟩
/-- a new frozen list, tuple; a new owned list -/
theorem ValOk.newTup {p : Addr} {ds : List D} {vs : List V} {o : Obj} (ho : o.dict = none) (hp : H p = none) (h : Paired (RepF K H fun a => ¬ O a) ds vs) : ValOk K (L2.upd H p (.frz o (.tup vs))) O (fzv (.tuple ds)) (.ref p) [] :=
  .fz (.tup (.inl ⟨o, upd_same, ho⟩) (pimp h fun d v _ q => RepF.keep (Keeps.new hp fun _ _ z => z) d v q))
theorem Trip.of0 {ds : List D} {vs : List V} (h : Paired (RepF K H fun a => ¬ O a) ds vs) : Trip (RepO K H O 0) ds vs (ds.map fun _ => []) := by
  induction h with
  | nil => exact .nil
  | cons q t ih => exact .cons ⟨q, rfl⟩ ih
theorem flat_nils {A B : Type} (ds : List A) : (ds.map fun _ => ([] : List B)).flatten = [] := by
  rw [List.flatten_eq_nil_iff]
  intro l hl
  obtain ⟨_, _, rfl⟩ := List.mem_map.mp hl
  rfl
theorem RepO.lst1 {p : Addr} {ds : List D} {vs : List V} (hp : H p = some (.lst vs)) (ho : O p) (h : Paired (RepF K H fun a => ¬ O a) ds vs) : RepO K H O 1 (.list ds) (.ref p) [p] := by
  unfold RepO
  refine ⟨p, vs, ds.map fun _ => [], rfl, hp, ho, ?_, Trip.of0 h⟩
  rw [flat_nils]
theorem RepO.newLst {p : Addr} {ds : List D} {vs : List V} (hp : H p = none) (h : Paired (RepF K H fun a => ¬ O a) ds vs) : RepO K (L2.upd H p (.lst vs)) (fun a => O a ∨ a = p) 1 (.list ds) (.ref p) [p] :=
  RepO.lst1 upd_same (.inr rfl) (pimp h fun d v _ q => RepF.keep (Keeps.new hp fun a na q z => z.elim q na) d v q)
end
end VL
/-! VL: the context of a body; operands; what operations make. -/
namespace VL
open PySem PySem.Spec PyProof.Rows L2

/-- the built-in names that the language speaks of -/
def frees : List Str := ["len", "range", "sorted", "max", "min", "int", "tuple", "list", "all", "any", "sum", "isinstance", "repr", "str", "bool", "abs", "enumerate", "zip", "reversed"]
structure Cc where
  N : List Str
  sc : Scope
  fn : Str → Bool
  G : Str → Option Fd
/-- slots of a call's parameters -/
def parOk (K : PySem.W.Frag) (pv : Nat → Option V) (H : Hp) (O Z : Addr → Prop) (pm : List Pm) (vs : List V) (ds : List D) (fp : Fp) : Prop :=
  ∃ r, slsOf pm ds = .ok r ∧ StOk K pv H O Z (vs.map some) r fp ∧ (∀ i v, pv i = some v → vs[i]? = some v) ∧ ∀ (i : Nat) n, pm[i]? = some (.mt n) → ∃ v, vs[i]? = some v ∧ pv i = some v
/-- the promise of a def that g tells -/
def spV (K : PySem.W.Frag) (g : Fd) : Sp := fun vs H Q _ => ∃ O Z pv ds fp o, parOk K pv H O Z g.sg.pm vs ds fp ∧ vs.length = g.sg.pm.length ∧ g.run ds = .ok o ∧
  ∀ x H' O' fp' tf r', StOk K pv H' O' (ZT Z tf) (vs.map some) r' fp' → (∀ (i : Nat) n, g.sg.pm[i]? = some (.mt n) → ∃ d, r'[i]? = some (.mt n d)) → outsOf g.sg.pm r' = .ok o.2 →
    Ext (g.sg.pm.any isMt) H O (Mo fp) H' O' (MoT fp' tf) → ValOk K H' O' ⟨true, g.sg.ret, o.1⟩ x tf → Q x H'
structure XOk (X : Cx) (c : Cc) : Prop where
  N : X.N = c.N
  nd : X.N.Nodup
  sc : X.env.scope = c.sc
  fnm : X.fn = c.fn
  calm : X.calm = true
  hu : X.A.units + 200 < cLine
  xe : X.xe = fun _ _ => False
  free : ∀ x ∈ frees, X.mg x = none
  fn : ∀ f g, c.G f = some g → ∃ a fd k ps, FnOk X.prog X.w X.K X.mg X.base CX0 k a fd ps (spV X.K g) ∧ Room k X.A ∧ X.mg f = some (.ref a) ∧ PySem.W.keepIn X.K (.ref a) = true ∧ Binds X.K fd ps [] ∧ ps.length = g.sg.pm.length
def tVar' (i : Nat) : TE := tVar i
/-- e is told by x -/
structure VE (X : Cx) (c : Cc) (e : Expr) (x : Ex) : Prop where
  val : ∀ pv, PE X e (tV X.K pv (!pureX c.G x) (ev c.G x))
  var : ∀ i, x = .v i → PE X e (tVar i)
structure VT (X : Cx) (c : Cc) (e : Expr) (x : Ex) : Prop where
  tst : ∀ pv, PT X e (tVT X.K pv (!pureX c.G x) (fun r => ev c.G x r >>= fun p => truth p.1.d >>= fun b => .ok (fzB b, p.2)))

section
variable {K : PySem.W.Frag} {pv : Nat → Option V} {H H' H2 : Hp} {O O' O2 M M' M2 Z Z' N N' : Addr → Prop} {s : L2.St} {r r' : Env} {fp fp' : Fp} {b b2 : Bool}

/-- an operand as read: frozen, or borrowed -/
def RdOk (K : PySem.W.Frag) (H : Hp) (O : Addr → Prop) (v : Val) (x : V) : Prop :=
  match v.own with
  | true => RepF K H (fun a => ¬ O a) v.d x
  | false => RepB K H (fun _ => True) (fun a => ¬ O a) v.n v.d x
theorem RdOk.any {v : Val} {x : V} (h : RdOk K H O v x) : RepF K H (fun _ => True) v.d x := by
  obtain ⟨o, n, d⟩ := v
  cases o with
  | true => exact RepF.mono (show RepF K H _ d x from h) fun _ _ => trivial
  | false => exact RepB.toF (fun _ _ => trivial) (fun _ _ => trivial) n d x h
theorem RdOk.flat {v : Val} {x : V} (h : RdOk K H O v x) (e : isL v.d = false) : RepF K H (fun a => ¬ O a) v.d x := by
  obtain ⟨o, n, d⟩ := v
  cases o with
  | true => exact h
  | false => exact RepB.flat (show RepB K H _ _ n d x from h) e
/-- the items of a list are frozen -/
theorem RdOk.items {own : Bool} {n : Nat} {ds : List D} {x : V} (h : RdOk K H O ⟨own, n, .list ds⟩ x) (e : elz own n ds = true) : ∃ a vs, x = .ref a ∧ H a = some (.lst vs) ∧ Paired (RepF K H fun a => ¬ O a) ds vs := by
  cases own with
  | true =>
    obtain ⟨a, vs, rfl, h1, _, h3⟩ := RepF.ref (show RepF K H _ (.list ds) x from h)
    exact ⟨a, vs, rfl, h1, h3⟩
  | false =>
    cases n with
    | zero =>
      obtain ⟨a, vs, rfl, h1, _, h3⟩ := RepF.ref (show RepF K H _ (.list ds) x from h)
      exact ⟨a, vs, rfl, h1, h3⟩
    | succ n =>
      have h : RepB K H (fun _ => True) (fun a => ¬ O a) (n + 1) (.list ds) x := h
      unfold RepB at h
      obtain ⟨a, vs, rfl, h1, _, h3⟩ := h
      refine ⟨a, vs, rfl, h1, pimp h3 fun d v hd q => ?_⟩
      cases n with
      | zero => exact q
      | succ n =>
        refine q.flat ?_
        unfold elz at e
        simp only [Bool.false_or, Bool.or_eq_true, decide_eq_true_eq, Bool.not_eq_true', List.any_eq_false] at e
        rcases e with e | e
        · omega
        · cases hh : isL d with
          | false => rfl
          | true => exact absurd hh (e d hd)
theorem ValOk.freeze {v : Val} {x : V} {tf : List Addr} (h : ValOk K H O v x tf) : RdOk K H (fun a => O a ∧ a ∉ tf) v x := by
  obtain ⟨o, n, d⟩ := v
  cases o with
  | true => exact RepO.frozen (show RepO K H O n d x tf from h.1)
  | false => exact RepB.mono (show RepB K H _ _ n d x from h.1) (fun _ _ => trivial) fun a q z => q z.1
theorem Ext.rdOk (x : Ext b H O M H' O' M') (mo : MOk H O M) {v : Val} {y : V} (hb : b = true → isL v.d = false ∨ v.own = true) (h : RdOk K H O v y) : RdOk K H' O' v y := by
  by_cases e : isL v.d = false ∨ v.own = true
  · rcases e with e | e
    · have q := x.repF mo (h.flat e)
      obtain ⟨o, n, d⟩ := v
      cases o with
      | true => exact q
      | false => exact RepF.toB (fun _ _ => trivial) n d y q
    · obtain ⟨o, n, d⟩ := v
      cases (show o = true from e)
      exact x.repF mo h
  · have eb : b = false := by
      cases b with
      | false => rfl
      | true => exact absurd (hb rfl) e
    subst eb
    obtain ⟨o, n, d⟩ := v
    cases o with
    | true => exact absurd (.inr rfl) e
    | false => exact x.repT mo h
/-- the reading of an expression whose value is but read -/
def tR (K : PySem.W.Frag) (pv : Nat → Option V) (b : Bool) (f : Env → R (Val × Env)) : TE := fun s H Q =>
  ∃ O Z r fp v r', StOk K pv H O Z s r fp ∧ f r = .ok (v, r') ∧
    ∀ x H' O' fp', StOk K pv H' O' Z s r' fp' → Ext b H O (Mo fp) H' O' (Mo fp') → RdOk K H' O' v x → Q x H'
theorem tR_of {f : Env → R (Val × Env)} {s : L2.St} {Q : VK} (h : tR K pv b f s H Q) : tV K pv b f s H Q := by
  obtain ⟨O, Z, r, fp, v, r', h, e, q⟩ := h
  refine ⟨O, Z, r, fp, v, r', h, e, fun x H' O' fp' tf h' x' hv => ?_⟩
  have y := x'.trans (b2 := false) (Ext.freezeT (O := O') (fp := fp') (tf := tf) (tf' := tf))
  rw [Bool.or_false] at y
  exact q x H' _ fp' h'.freezeT y hv.freeze
end
section
variable {X : Cx} {c : Cc} {pv : Nat → Option V}
theorem PEtR {e : Expr} {b : Bool} {f : Env → R (Val × Env)} (h : PE X e (tV X.K pv b f)) : PE X e (tR X.K pv b f) := PE.imp h fun s H Q q => tR_of q
/-- an operand, read late if it is a name: its reading -/
def tO1 (K : PySem.W.Frag) (pv : Nat → Option V) (b : Bool) (x : Ex) (f : Env → R (Val × Env)) : TE :=
  match x with
  | .v i => tVar i
  | _ => tR K pv b f
theorem VE.o1 {e : Expr} {x : Ex} (h : VE X c e x) : PE X e (tO1 X.K pv (!pureX c.G x) x (ev c.G x)) := by
  unfold tO1
  split
  · exact h.var _ rfl
  · exact PEtR (h.val pv)
theorem opx_v {pu : Bool} {i : Nat} {f : Env → R (Val × Env)} {r : Env} : op1 pu (.v i) f r = (rd i r >>= fun _ => .ok (.inr i, r)) := rfl
/-- what two operands' reading asks -/
theorem ops_read {K : PySem.W.Frag} {H : Hp} {O Z : Addr → Prop} {s : L2.St} {r r' : Env} {fp : Fp} {ba bb pu : Bool} {xa : Ex} {fa fb : Env → R (Val × Env)} {va vb : Val} {R : V → V → Hp → Prop}
    (h : StOk K pv H O Z s r fp) (hpu : pu = true → bb = false) (hv : ∀ i, xa = .v i → fa = fun r => rd i r >>= fun v => .ok (v, r)) (e : ops pu xa fa fb r = .ok ((va, vb), r'))
    (q : ∀ x y H' O' fp', StOk K pv H' O' Z s r' fp' → Ext (ba || bb) H O (Mo fp) H' O' (Mo fp') → RdOk K H' O' va x → RdOk K H' O' vb y → R x y H') :
    tO1 K pv ba xa fa s H fun x H1 => tR K pv bb fb s H1 fun y H2 => R x y H2 := by
  unfold ops at e
  obtain ⟨p, e1, e⟩ := bind_ok_iff.mp e
  obtain ⟨⟨vb', r2⟩, e2, e⟩ := bind_ok_iff.mp e
  obtain ⟨va', e3, e⟩ := bind_ok_iff.mp e
  dsimp only at e e2 e3
  injection e with e
  injection e with e e'
  injection e with ea eb
  subst ea eb e'
  by_cases hx : ∃ i, xa = .v i
  · obtain ⟨i, rfl⟩ := hx
    rw [opx_v] at e1
    obtain ⟨v0, e0, e1⟩ := bind_ok_iff.mp e1
    cases e1
    obtain ⟨xv, hs, _⟩ := h.rd e0
    refine ⟨xv, hs, O, Z, r, fp, vb', r2, h, e2, fun y H' O' fp' h' x' hy => ?_⟩
    obtain ⟨xv', hs', hv'⟩ := h'.rd (show rd i r2 = .ok va' from e3)
    rw [hs] at hs'
    cases hs'
    refine q xv y H' O' fp' h' (x'.weak fun e => by rw [e, Bool.or_true]) ?_ hy
    have w := hv'.freeze
    have eO : (fun a => O' a ∧ a ∉ ([] : List Addr)) = O' := by
      funext a
      exact propext ⟨fun z => z.1, fun z => ⟨z, List.not_mem_nil⟩⟩
    rw [eO] at w
    exact w
  · have e1' : (fa r >>= fun p => match isL p.1.d && !p.1.own && !pu with
      | true => stk
      | false => .ok (.inl p.1, p.2)) = .ok p := by
      cases xa <;> first | exact e1 | exact absurd ⟨_, rfl⟩ hx
    have et : tO1 K pv ba xa fa = tR K pv ba fa := by
      cases xa <;> first | rfl | exact absurd ⟨_, rfl⟩ hx
    rw [et]
    obtain ⟨⟨v1, r1⟩, e4, e5⟩ := bind_ok_iff.mp e1'
    dsimp only at e5
    cases hc : isL v1.d && !v1.own && !pu with
    | true => rw [hc] at e5; cases e5
    | false =>
      rw [hc] at e5
      cases e5
      cases e3
      refine ⟨O, Z, r, fp, _, r1, h, e4, fun x H1 O1 fp1 h1 x1 hx1 => ?_⟩
      refine ⟨O1, Z, r1, fp1, _, _, h1, e2, fun y H2 O2 fp2 h2 x2 hy => ?_⟩
      refine q x y H2 O2 fp2 h2 (x1.trans x2) (x2.rdOk h1.mok (fun eb => ?_) hx1) hy
      cases pu with
      | true => rw [hpu rfl] at eb; cases eb
      | false =>
        simp only [Bool.not_false, Bool.and_true, Bool.and_eq_false_iff, Bool.not_eq_false'] at hc
        exact hc

/-- what an operation makes: an old thing or no thing, a tuple, a list -/
def Made (K : PySem.W.Frag) (H : Hp) (O : Addr → Prop) (n : Nat) (d : D) (z : V) (H' : Hp) : Prop :=
  (H' = H ∧ RepF K H (fun a => ¬ O a) d z ∧ (n = 0 ∨ isL d = false)) ∨ (∃ p vs o, H p = none ∧ z = .ref p ∧ H' = L2.upd H p (.frz o (.tup vs)) ∧ RepF K H' (fun a => ¬ O a) d z ∧ isL d = false) ∨
    ∃ p vs, H p = none ∧ z = .ref p ∧ H' = L2.upd H p (.lst vs) ∧ n = 1 ∧ RepO K H' (fun a => O a ∨ a = p) 1 d z [p]
theorem Made.fin {K : PySem.W.Frag} {H H' : Hp} {O Z : Addr → Prop} {s : L2.St} {r : Env} {fp : Fp} {b : Bool} {n : Nat} {d : D} {z : V} (m : Made K H O n d z H') (h : StOk K pv H O Z s r fp) :
    ∃ O' tf, StOk K pv H' O' (ZT Z tf) s r fp ∧ Ext b H O (Mo fp) H' O' (MoT fp tf) ∧ ValOk K H' O' ⟨true, n, d⟩ z tf := by
  rcases m with ⟨rfl, w, hn⟩ | ⟨p, vs, o, hp, rfl, rfl, w, hd⟩ | ⟨p, vs, hp, rfl, rfl, rfl, w⟩
  · refine ⟨O, [], by rw [ZT.nil]; exact h, by rw [MoT.nil]; exact .refl, ?_⟩
    rcases hn with rfl | hd
    · exact ⟨⟨w, rfl⟩, List.nodup_nil⟩
    · exact ⟨w.flatO hd, List.nodup_nil⟩
  · refine ⟨O, [], by rw [ZT.nil]; exact h.new hp fun _ _ => Iff.rfl, by rw [MoT.nil]; exact Ext.new hp (fun _ _ => Iff.rfl) fun a q => .inl q, ⟨w.flatO hd, List.nodup_nil⟩⟩
  · have h1 := h.newZ (O' := fun a => O a ∨ a = p) (o := .lst vs) (Z' := ZT Z [p]) hp (fun a na => ⟨fun q => q.elim id fun e => absurd e na, .inl⟩) fun a z => z.imp id List.mem_singleton.mp
    exact ⟨fun a => O a ∨ a = p, [p], h1, Ext.new hp (fun a na => ⟨fun q => q.elim id fun e => absurd e na, .inl⟩) fun a q => q.imp id fun q => List.mem_singleton.mp q, ⟨w, List.nodup_cons.mpr ⟨List.not_mem_nil, List.nodup_nil⟩⟩⟩
end
end VL
/-! VL: tuples that are made: their objects are known to have no dict. -/
namespace VL
open PySem PySem.Spec PyProof.Rows L2
section
variable {X : Cx} {pins : List (Addr × Obj)} {σ : L2.St} {H : Hp} {s : Shared}
abbrev tupO (us : List Value) : Obj := { cls := .type "tuple", data := .seq us.toArray }
/-- a tuple has come to stand -/
theorem newTup {us : List Value} {xs : List V} {tk : Nat} (I : L2.Inv X pins σ H s) (rv : Vals xs us) (hz : xs.length ≤ sizeLine) :
    L2.Inv X pins σ (L2.upd H s.heap.objs.size (.frz (tupO us) (.tup xs))) { s with heap := s.heap.push (tupO us), toks := tk } :=
  I.laid (t' := tk) (fun _ _ q => Heap.get?_push_of_some _ q) (Nat.le_refl _) ⟨Heap.get?_push_size _ rfl, hz, us, rv, IsTup.new _ _⟩
theorem tupO_dict {us : List Value} : (tupO us).dict = none := rfl
end
section
variable {X : Cx}
/-- what is wanted of a new tuple of xs -/
abbrev nTup (xs : List V) (H : Hp) (Q : VK) : Prop := ∀ p (o : Obj), o.dict = none → H p = none → Q (.ref p) (L2.upd H p (.frz o (.tup xs)))
theorem nTup.here {pins : List (Addr × Obj)} {σ : L2.St} {H : Hp} {s : Shared} {us : List Value} {xs : List V} {Q : VK} (I : L2.Inv X pins σ H s) (rv : Vals xs us) (hz : xs.length ≤ sizeLine) (q : nTup xs H Q) :
    EP X pins σ Q (.ref s.heap.objs.size) { s with heap := s.heap.push (tupO us) } :=
  ⟨.ref _, _, newTup (tk := s.toks) I rv hz, rfl, q _ _ tupO_dict (I.hok.fresh (Nat.le_refl _))⟩
theorem pe_tupN {es : List Expr} {t : TA} {k : Nat} {pos : Pos} (h : PA X es t) : PE X (.Tuple es k pos) (fun s H Q => t s H fun xs H1 => xs.length ≤ sizeLine ∧ nTup xs H1 Q) :=
  ⟨fun pins s σ H Q I w => wpAny_Tuple_spliced (thn (h.run pos pins s σ H _ I w) fun us s1 ⟨xs, H1, I1, rv, hz, q⟩ => ⟨by rw [← rv.length]; exact hz, q.here I1 rv hz⟩)⟩
/-- t + u -/
def rCatN (K : PySem.W.Frag) : R2 := fun x y H Q => ∃ a b xs ys, x = .ref a ∧ y = .ref b ∧ SqT K H a xs ∧ SqT K H b ys ∧ xs.length + ys.length ≤ sizeLine ∧
  (xs = [] → Q (.ref b) H) ∧ (xs ≠ [] → ys = [] → Q (.ref a) H) ∧ (xs ≠ [] → ys ≠ [] → nTup (xs ++ ys) H Q)
theorem op_catN : OpR X (binaryOp .Add) (rCatN X.K) := by
  intro pins s σ H x y v u Q I rx ry h
  obtain ⟨a, b, xs, ys, rfl, rfl, ha, hb, hz, q0, q1, q2⟩ := h
  cases rx
  cases ry
  obtain ⟨ua, ra, pa, _⟩ := I.tuple ha
  obtain ⟨ub, rb, pb, _⟩ := I.tuple hb
  by_cases ea : xs = []
  · subst ea
    cases ra
    exact cat_tup0 pa pb ⟨.ref b, H, I, rfl, q0 rfl⟩
  · have na : ua ≠ [] := fun e => by subst e; cases ra; exact ea rfl
    refine HT.cat_tup pa pb na (fun e => ?_) (fun e => ?_) (by rw [← ra.length, ← rb.length]; exact hz)
    · subst e
      cases rb
      exact ⟨.ref a, H, I, rfl, q1 ea rfl⟩
    · have nb : ys ≠ [] := fun z => by subst z; cases rb; exact e rfl
      exact (q2 ea nb).here I (ra.append rb) (by rw [List.length_append]; exact hz)
/-- t[lo:hi] -/
def rSlN (K : PySem.W.Frag) : V → Option Int → Option Int → Hp → VK → Prop := fun x lo hi H Q => ∃ a xs, x = .ref a ∧ SqT K H a xs ∧
  (HT.sIx xs.length 0 lo = 0 ∧ HT.sIx xs.length xs.length hi = xs.length → Q (.ref a) H) ∧ (¬ (HT.sIx xs.length 0 lo = 0 ∧ HT.sIx xs.length xs.length hi = xs.length) → nTup (cutV xs lo hi) H Q)
theorem sl_tupN : SlR X (rSlN X.K) := by
  intro pins s σ H x v vl vu lo hi sl Q I rx hs pl pu h
  obtain ⟨a, xs, rfl, hx, q1, q2⟩ := h
  cases rx
  obtain ⟨us, rv, pt, hz⟩ := I.tuple hx
  have el : us.toArray.size = xs.length := List.size_toArray.trans rv.length.symm
  refine ⟨"tuple", _, PyProof.Rows.slot_tuple_getitem.lookup, pt.typeIs, ?_⟩
  by_cases hw : HT.sIx xs.length 0 lo = 0 ∧ HT.sIx xs.length xs.length hi = xs.length
  · exact getItem_tuple_whole pt hs pl pu (by rw [el]; exact hw) ⟨.ref a, H, I, rfl, q1 hw⟩
  · refine HT.getItem_tuple_cut pt hs pl pu (by rw [el]; exact hw) ?_ (by rw [el]; exact hz)
    refine (q2 hw).here I ?_ (Nat.le_trans (cutV_length xs lo hi) hz)
    rw [el]
    exact (rv.drop _).take _
theorem call_tupleN : CallR X (.type "tuple") (fun xs H Q => ∃ p ys, xs = [.ref p] ∧ ((SqL X.K H p ys ∧ nTup ys H Q) ∨ (SqT X.K H p ys ∧ Q (.ref p) H))) := by
  intro pins s σ H xs us Q I r h
  obtain ⟨p, ys, rfl, h⟩ := h
  obtain ⟨u, rfl, rx⟩ := vals1 r
  cases rx
  rcases h with ⟨hq, q⟩ | ⟨hq, q⟩
  · obtain ⟨its, rv, pl, hz⟩ := I.list hq
    refine call_tuple_list pl.isList (fun h2 kp => ?_) (by rw [List.size_toArray, ← rv.length]; exact hz)
    exact q.here (s := { s with heap := h2 }) (I.kept (t' := s.toks) kp) rv hz
  · obtain ⟨its, rv, pl, hz⟩ := I.tuple hq
    exact call_tuple_same pl ⟨.ref p, H, I, rfl, q⟩
end
end VL
/-! VL: operators, comparisons, truth, by values. -/
namespace VL
open PySem PySem.Spec PyProof.Rows L2
theorem lim_eq : lim = sizeLine := by rw [sizeLine_eq]; rfl
theorem OpR.imp {X : Cx} {f : Value → Value → Sem Value} {r r' : R2} (h : OpR X f r) (k : ∀ x y H Q, r' x y H Q → r x y H Q) : OpR X f r' := fun pins s σ H x y v u Q I rx ry q => h pins s σ H x y v u Q I rx ry (k x y H Q q)
theorem UnR.imp {X : Cx} {f : Value → Sem Value} {r r' : V → Hp → VK → Prop} (h : UnR X f r) (k : ∀ x H Q, r' x H Q → r x H Q) : UnR X f r' := fun pins s σ H x v Q I rx q => h pins s σ H x v Q I rx (k x H Q q)
theorem CallR.imp {X : Cx} {f : Value} {r r' : List V → Hp → VK → Prop} (h : CallR X f r) (k : ∀ x H Q, r' x H Q → r x H Q) : CallR X f r' := fun pins s σ H x v Q I rx q => h pins s σ H x v Q I rx (k x H Q q)
section
variable {K : PySem.W.Frag} {H : Hp} {O T : Addr → Prop} {x : V}
theorem RepF.int {i : Int} (h : RepF K H T (.int i) x) : x = .int i := by rw [RepF] at h; exact h
theorem RepF.bool {i : Bool} (h : RepF K H T (.bool i) x) : x = .bl i := by rw [RepF] at h; exact h
theorem RepF.str {i : Str} (h : RepF K H T (.str i) x) : x = .str i := by rw [RepF] at h; exact h
theorem RepF.none (h : RepF K H T .none x) : x = .non := by rw [RepF] at h; exact h
theorem RepF.mkI (i : Int) : RepF K H T (.int i) (.int i) := by rw [RepF]
theorem RepF.mkB (i : Bool) : RepF K H T (.bool i) (.bl i) := by rw [RepF]
theorem RepF.mkS (i : Str) : RepF K H T (.str i) (.str i) := by rw [RepF]
theorem RepF.mkN : RepF K H T .none .non := by rw [RepF]
theorem RepF.scr {kvs : List (D × D)} (h : RepF K H T (.dict kvs) x) : ∃ a ns, kvs = scrK ns ∧ x = .ref a ∧ ScrAt K H a (ns.map V.int) := by rw [RepF] at h; exact h
mutual
/-- as plain data -/
theorem RepF.dp : ∀ (d : D) (x : V), d.plain = true → RepF K H T d x → Dp K H x d
  | .none, x, _, h => by rw [h.none]; exact .non
  | .bool b, x, _, h => by rw [h.bool]; exact .bl b
  | .int i, x, _, h => by rw [h.int]; exact .int i
  | .str i, x, _, h => by rw [h.str]; exact .str i
  | .list ds, x, e, h => by
    rw [RepF] at h
    obtain ⟨a, vs, rfl, h1, _, h3⟩ := h
    exact .lst (.inl (.inl h1)) (RepFs.dp ds vs (by simpa [PyData.plain] using e) h3)
  | .tuple ds, x, e, h => by
    rw [RepF] at h
    obtain ⟨a, vs, rfl, h1, h3⟩ := h
    exact .tup h1.sq (RepFs.dp ds vs (by simpa [PyData.plain] using e) h3)
  | .dict _, x, e, h => by simp [PyData.plain] at e
theorem RepFs.dp : ∀ (ds : List D) (vs : List V), PyData.plainAll ds = true → RepFs K H T ds vs → DpAll K H vs ds
  | [], vs, _, h => by rw [RepFs] at h; subst h; exact .nil
  | d :: ds, vs, e, h => by
    rw [RepFs] at h
    obtain ⟨v, r, rfl, h1, h2⟩ := h
    simp only [PyData.plainAll, Bool.and_eq_true] at e
    exact .cons (RepF.dp d v e.1 h1) (RepFs.dp ds r e.2 h2)
end
theorem Made.int (i : Int) {n : Nat} : Made K H O n (.int i) (.int i) H := .inl ⟨rfl, .mkI i, .inr rfl⟩
theorem Made.bool (i : Bool) {n : Nat} : Made K H O n (.bool i) (.bl i) H := .inl ⟨rfl, .mkB i, .inr rfl⟩
theorem Made.str (i : Str) {n : Nat} : Made K H O n (.str i) (.str i) H := .inl ⟨rfl, .mkS i, .inr rfl⟩
theorem Made.none {n : Nat} : Made K H O n .none .non H := .inl ⟨rfl, .mkN, .inr rfl⟩
theorem Made.lst {ds : List D} {vs : List V} {p : Addr} (hp : H p = Option.none) (h : Paired (RepF K H fun a => ¬ O a) ds vs) : Made K H O 1 (.list ds) (.ref p) (L2.upd H p (.lst vs)) :=
  .inr (.inr ⟨p, vs, hp, rfl, rfl, rfl, RepO.newLst hp h⟩)
theorem Made.tup {ds : List D} {vs : List V} {p : Addr} {n : Nat} {o : Obj} (ho : o.dict = Option.none) (hp : H p = Option.none) (h : Paired (RepF K H fun a => ¬ O a) ds vs) : Made K H O n (.tuple ds) (.ref p) (L2.upd H p (.frz o (.tup vs))) :=
  .inr (.inl ⟨p, vs, o, hp, rfl, rfl, .tup (.inl ⟨o, upd_same, ho⟩) (pimp h fun d v _ q => RepF.keep (Keeps.new hp fun _ _ z => z) d v q), rfl⟩)
end

/-- two operands, an operator -/
def rBop (K : PySem.W.Frag) (o : Operator) : R2 := fun x y H Q => ∃ O va vb d, RdOk K H O va x ∧ RdOk K H O vb y ∧ elz va.own va.n ((items? va.d).toOption.getD []) = true ∧ elz vb.own vb.n ((items? vb.d).toOption.getD []) = true ∧ bop o va.d vb.d = .ok d ∧ ∀ z H', Made K H O 1 d z H' → Q z H'
theorem paired_rep {A B : Type} {F : A → B → Prop} {l : List A} {m : List B} (h : Paired F l m) : ∀ k : Nat, Paired F (rep k l) (rep k m)
  | 0 => .nil
  | k + 1 => by
    have e1 : rep (k + 1) l = l ++ rep k l := by unfold rep; rw [List.replicate_succ, List.flatten_cons]
    have e2 : rep (k + 1) m = m ++ rep k m := by unfold rep; rw [List.replicate_succ, List.flatten_cons]
    rw [e1, e2]
    exact papp h (paired_rep h k)
theorem mul_sm {i : Int} (h : smI i = true) : -(2 ^ 64) < i ∧ i < 2 ^ 64 := of_decide_eq_true h
section
variable {X : Cx}
theorem or_add : OpR X (binaryOp .Add) (rBop X.K .Add) := by
  refine OpR.imp (op_add.or (op_add_str.or (op_cat.or op_catN))) fun x y H Q h => ?_
  obtain ⟨O, ⟨oa, na, da⟩, ⟨ob, nb, db⟩, d, h1, h2, z1, z2, e, q⟩ := h
  dsimp only at z1 z2 e
  cases da <;> cases db <;> simp only [bop] at e <;> first | (cases e; done) | skip
  · cases e
    exact .inl ⟨_, _, h1.any.int, h2.any.int, q _ _ (.int _)⟩
  · split at e
    · rename_i hz
      cases e
      rw [lim_eq] at hz
      exact .inr (.inl ⟨_, _, h1.any.str, h2.any.str, hz, q _ _ (.str _)⟩)
    · cases e
  · split at e
    · rename_i xs ys hz
      cases e
      rw [lim_eq] at hz
      obtain ⟨a, vs, rfl, g1, g2⟩ := h1.items z1
      obtain ⟨b, ws, rfl, g3, g4⟩ := h2.items z2
      refine .inr (.inr (.inl ⟨a, b, vs, ws, rfl, rfl, g1, g3, ?_, fun p hp => q _ _ (Made.lst hp (papp g2 g4))⟩))
      rw [← plen g2, ← plen g4]
      exact hz
    · cases e
  · split at e
    · rename_i xs ys hz
      cases e
      rw [lim_eq] at hz
      obtain ⟨a, vs, rfl, g1, g2⟩ := (h1.flat rfl).tref
      obtain ⟨b, ws, rfl, g3, g4⟩ := (h2.flat rfl).tref
      refine .inr (.inr (.inr ⟨a, b, vs, ws, rfl, rfl, g1.sq, g3.sq, ?_, fun e => ?_, fun _ e => ?_, fun _ _ p o ho hp => q _ _ (Made.tup ho hp (papp g2 g4))⟩))
      · rw [← plen g2, ← plen g4]
        exact hz
      · subst e
        cases g2
        exact q _ _ (.inl ⟨rfl, h2.flat rfl, .inr rfl⟩)
      · subst e
        cases g4
        refine q _ _ (.inl ⟨rfl, ?_, .inr rfl⟩)
        rw [List.append_nil]
        exact h1.flat rfl
    · cases e
theorem or_sub : OpR X (binaryOp .Sub) (rBop X.K .Sub) := by
  refine OpR.imp op_sub fun x y H Q h => ?_
  obtain ⟨O, ⟨oa, na, da⟩, ⟨ob, nb, db⟩, d, h1, h2, z1, z2, e, q⟩ := h
  dsimp only at z1 z2 e
  cases da <;> cases db <;> simp only [bop] at e <;> first | (cases e; done) | skip
  cases e
  exact ⟨_, _, h1.any.int, h2.any.int, q _ _ (.int _)⟩
theorem or_mul : OpR X (binaryOp .Mult) (rBop X.K .Mult) := by
  refine OpR.imp (op_mul.or op_rep) fun x y H Q h => ?_
  obtain ⟨O, ⟨oa, na, da⟩, ⟨ob, nb, db⟩, d, h1, h2, z1, z2, e, q⟩ := h
  dsimp only at z1 z2 e
  cases da <;> cases db <;> simp only [bop] at e <;> first | (cases e; done) | skip
  · split at e
    · rename_i hz
      cases e
      rw [Bool.or_eq_true] at hz
      exact .inl ⟨_, _, h1.any.int, h2.any.int, hz.imp mul_sm mul_sm, q _ _ (.int _)⟩
    · cases e
  · split at e
    · rename_i xs k hz
      cases e
      rw [lim_eq] at hz
      obtain ⟨a, vs, rfl, g1, g2⟩ := h1.items z1
      refine .inr ⟨a, k, vs, rfl, h2.any.int, g1, hz.1, hz.2.1, ?_, fun p hp => q _ _ (Made.lst hp (paired_rep g2 k.toNat))⟩
      rw [← plen g2]
      exact hz.2.2
    · cases e
theorem or_fdiv : OpR X (binaryOp .FloorDiv) (rBop X.K .FloorDiv) := by
  refine OpR.imp op_fdivN fun x y H Q h => ?_
  obtain ⟨O, ⟨oa, na, da⟩, ⟨ob, nb, db⟩, d, h1, h2, z1, z2, e, q⟩ := h
  dsimp only at z1 z2 e
  cases da <;> cases db <;> simp only [bop] at e <;> first | (cases e; done) | skip
  split at e
  · rename_i hz
    cases e
    exact ⟨_, _, h1.any.int, h2.any.int, hz, q _ _ (.int _)⟩
  · cases e
theorem or_mod : OpR X (binaryOp .Mod) (rBop X.K .Mod) := by
  refine OpR.imp op_modN fun x y H Q h => ?_
  obtain ⟨O, ⟨oa, na, da⟩, ⟨ob, nb, db⟩, d, h1, h2, z1, z2, e, q⟩ := h
  dsimp only at z1 z2 e
  cases da <;> cases db <;> simp only [bop] at e <;> first | (cases e; done) | skip
  split at e
  · rename_i hz
    cases e
    exact ⟨_, _, h1.any.int, h2.any.int, hz, q _ _ (.int _)⟩
  · cases e
theorem or_pow : OpR X (binaryOp .Pow) (rBop X.K .Pow) := by
  refine OpR.imp op_pow fun x y H Q h => ?_
  obtain ⟨O, ⟨oa, na, da⟩, ⟨ob, nb, db⟩, d, h1, h2, z1, z2, e, q⟩ := h
  dsimp only at z1 z2 e
  cases da <;> cases db <;> simp only [bop] at e <;> first | (cases e; done) | skip
  split at e
  · rename_i hz
    cases e
    exact ⟨_, _, h1.any.int, h2.any.int, hz, q _ _ (.int _)⟩
  · cases e
theorem or_shl : OpR X (binaryOp .LShift) (rBop X.K .LShift) := by
  refine OpR.imp op_shl fun x y H Q h => ?_
  obtain ⟨O, ⟨oa, na, da⟩, ⟨ob, nb, db⟩, d, h1, h2, z1, z2, e, q⟩ := h
  dsimp only at z1 z2 e
  cases da <;> cases db <;> simp only [bop] at e <;> first | (cases e; done) | skip
  split at e
  · rename_i hz
    cases e
    exact ⟨_, _, h1.any.int, h2.any.int, hz, q _ _ (.int _)⟩
  · cases e
theorem or_shr : OpR X (binaryOp .RShift) (rBop X.K .RShift) := by
  refine OpR.imp op_shr fun x y H Q h => ?_
  obtain ⟨O, ⟨oa, na, da⟩, ⟨ob, nb, db⟩, d, h1, h2, z1, z2, e, q⟩ := h
  dsimp only at z1 z2 e
  cases da <;> cases db <;> simp only [bop] at e <;> first | (cases e; done) | skip
  split at e
  · rename_i hz
    cases e
    exact ⟨_, _, h1.any.int, h2.any.int, hz, q _ _ (.int _)⟩
  · cases e
theorem or_and : OpR X (binaryOp .BitAnd) (rBop X.K .BitAnd) := by
  refine OpR.imp op_and fun x y H Q h => ?_
  obtain ⟨O, ⟨oa, na, da⟩, ⟨ob, nb, db⟩, d, h1, h2, z1, z2, e, q⟩ := h
  dsimp only at z1 z2 e
  cases da <;> cases db <;> simp only [bop] at e <;> first | (cases e; done) | skip
  cases e
  exact ⟨_, _, h1.any.int, h2.any.int, q _ _ (.int _)⟩
theorem or_or : OpR X (binaryOp .BitOr) (rBop X.K .BitOr) := by
  refine OpR.imp op_or fun x y H Q h => ?_
  obtain ⟨O, ⟨oa, na, da⟩, ⟨ob, nb, db⟩, d, h1, h2, z1, z2, e, q⟩ := h
  dsimp only at z1 z2 e
  cases da <;> cases db <;> simp only [bop] at e <;> first | (cases e; done) | skip
  cases e
  exact ⟨_, _, h1.any.int, h2.any.int, q _ _ (.int _)⟩
theorem or_xor : OpR X (binaryOp .BitXor) (rBop X.K .BitXor) := by
  refine OpR.imp op_xor fun x y H Q h => ?_
  obtain ⟨O, ⟨oa, na, da⟩, ⟨ob, nb, db⟩, d, h1, h2, z1, z2, e, q⟩ := h
  dsimp only at z1 z2 e
  cases da <;> cases db <;> simp only [bop] at e <;> first | (cases e; done) | skip
  cases e
  exact ⟨_, _, h1.any.int, h2.any.int, q _ _ (.int _)⟩
theorem or_bop (o : Operator) : OpR X (binaryOp o) (rBop X.K o) := by
  cases o with
  | Add => exact or_add
  | Sub => exact or_sub
  | Mult => exact or_mul
  | FloorDiv => exact or_fdiv
  | Mod => exact or_mod
  | Pow => exact or_pow
  | LShift => exact or_shl
  | RShift => exact or_shr
  | BitAnd => exact or_and
  | BitOr => exact or_or
  | BitXor => exact or_xor
  | MatMult =>
    intro pins s σ H x y v u Q I rx ry h
    obtain ⟨O, va, vb, d, _, _, _, _, e, _⟩ := h
    unfold bop at e
    split at e <;> first | (cases e; done) | (rename_i h _ _; cases h)
  | Div =>
    intro pins s σ H x y v u Q I rx ry h
    obtain ⟨O, va, vb, d, _, _, _, _, e, _⟩ := h
    unfold bop at e
    split at e <;> first | (cases e; done) | (rename_i h _ _; cases h)
def rUop (K : PySem.W.Frag) (o : UnaryOp) : V → Hp → VK → Prop := fun x H Q => ∃ O va d, RdOk K H O va x ∧ uop o va.d = .ok d ∧ ∀ z H', Made K H O 0 d z H' → Q z H'
theorem ur_uop (o : UnaryOp) : UnR X (unaryOp o) (rUop X.K o) := by
  cases o with
  | USub =>
    refine UnR.imp un_neg fun x H Q h => ?_
    obtain ⟨O, ⟨oa, na, da⟩, d, h1, e, q⟩ := h
    dsimp only at e
    cases da <;> simp only [uop] at e <;> first | (cases e; done) | skip
    cases e
    exact ⟨_, h1.any.int, q _ _ (.int _)⟩
  | Invert =>
    refine UnR.imp un_inv fun x H Q h => ?_
    obtain ⟨O, ⟨oa, na, da⟩, d, h1, e, q⟩ := h
    dsimp only at e
    cases da <;> simp only [uop] at e <;> first | (cases e; done) | skip
    cases e
    exact ⟨_, h1.any.int, q _ _ (.int _)⟩
  | Not =>
    intro pins s σ H x v Q I rx h
    obtain ⟨O, va, d, _, e, _⟩ := h
    unfold uop at e
    split at e <;> first | (cases e; done) | (rename_i h _; cases h)
  | UAdd =>
    intro pins s σ H x v Q I rx h
    obtain ⟨O, va, d, _, e, _⟩ := h
    unfold uop at e
    split at e <;> first | (cases e; done) | (rename_i h _; cases h)
end
end VL
/-! VL: comparisons and truth, by values. -/
namespace VL
open PySem PySem.Spec PyProof.Rows L2
theorem okD_iff {d : D} : okD d = true ↔ d.plain = true ∧ d.depth ≤ 60 := by unfold okD; rw [Bool.and_eq_true, decide_eq_true_eq]
theorem okDs_iff {d : List D} : okDs d = true ↔ PyData.plainAll d = true ∧ PyData.depthAll d ≤ 60 := by unfold okDs; rw [Bool.and_eq_true, decide_eq_true_eq]
def rCop (K : PySem.W.Frag) (o : CmpOp) : R2 := fun x y H Q => ∃ O va vb k, RdOk K H O va x ∧ RdOk K H O vb y ∧ cop o va.d vb.d = .ok k ∧ Q (.bl k) H
section
variable {X : Cx} {pins : List (Addr × Obj)} {s : Shared} {σ : L2.St} {H : Hp} {O : Addr → Prop}
theorem RdOk.reads {va : Val} {x : V} {v : Value} (I : Inv X pins σ H s) (h : RdOk X.K H O va x) (e : va.d.plain = true) (r : RelV x v) : ∃ as, Reads s.heap v va.d as := Dp.reads I va.d x v (RepF.dp va.d x e h.any) r
theorem lt_read {va vb : Val} {x y : V} {k : Bool} (h1 : RdOk X.K H O va x) (h2 : RdOk X.K H O vb y) (e : ltD va.d vb.d = .ok k) :
    (∃ i j, x = .int i ∧ y = .int j ∧ k = decide (i < j)) ∨ (W.alike va.d vb.d = true ∧ okD va.d = true ∧ okD vb.d = true ∧ va.d ≠ .none ∧ k = W.dataLt va.d vb.d) := by
  obtain ⟨oa, na, da⟩ := va
  obtain ⟨ob, nb, db⟩ := vb
  dsimp only at e ⊢
  unfold ltD at e
  split at e
  · rename_i i j
    cases e
    exact .inl ⟨i, j, h1.any.int, h2.any.int, rfl⟩
  · unfold ltG at e
    split at e
    · rename_i hz
      cases e
      simp only [Bool.and_eq_true] at hz
      refine .inr ⟨hz.1.1.1, hz.1.1.2, hz.1.2, fun e => ?_, rfl⟩
      have q := hz.2
      rw [e] at q
      cases q
    · cases e
theorem notR_ok {x : R Bool} {k : Bool} (e : notR x = .ok k) : ∃ j, x = .ok j ∧ k = !j := by
  unfold notR at e
  obtain ⟨j, e1, e2⟩ := bind_ok_iff.mp e
  cases e2
  exact ⟨j, e1, rfl⟩
theorem room_d {A : Around} {a b : D} (hu : A.units + 200 < cLine) (ha : okD a = true) : A.units + min a.depth b.depth < cLine := by
  have := (okD_iff.mp ha).2
  omega
theorem isC_same {M : Model} {A : Around} {E Q : Value → Shared → Prop} {s : Shared} {x : V} {v : Value} {b : Bool} (r : RelV x v) (h : Q (.bool (decide (x = .bl b))) s) : wpAny M A (compareOp .Is v (.bool b)) Q E s := by
  cases x with
  | non => cases r; exact wpAny_pure h
  | bl j =>
    cases r
    refine wpAny_pure ?_
    have e : (Value.bool j == Value.bool b) = decide (V.bl j = V.bl b) := by cases j <;> cases b <;> rfl
    rw [e]
    exact h
  | int i => obtain ⟨t, rfl⟩ := r; exact wpAny_pure h
  | str i => obtain ⟨t, rfl⟩ := r; exact wpAny_pure h
  | byt i => obtain ⟨t, rfl⟩ := r; exact wpAny_pure h
  | flt i => obtain ⟨t, rfl⟩ := r; exact wpAny_pure h
  | ref a => cases r; exact wpAny_pure h
  | ty n => cases r; exact wpAny_pure h
theorem isC_other {M : Model} {A : Around} {E Q : Value → Shared → Prop} {s : Shared} {x : V} {v : Value} {b : Bool} (r : RelV x v) (h : Q (.bool (!decide (x = .bl b))) s) : wpAny M A (compareOp .IsNot v (.bool b)) Q E s := by
  cases x with
  | non => cases r; exact wpAny_pure h
  | bl j =>
    cases r
    refine wpAny_pure ?_
    have e : (!(Value.bool j == Value.bool b)) = !decide (V.bl j = V.bl b) := by cases j <;> cases b <;> rfl
    rw [e]
    exact h
  | int i => obtain ⟨t, rfl⟩ := r; exact wpAny_pure h
  | str i => obtain ⟨t, rfl⟩ := r; exact wpAny_pure h
  | byt i => obtain ⟨t, rfl⟩ := r; exact wpAny_pure h
  | flt i => obtain ⟨t, rfl⟩ := r; exact wpAny_pure h
  | ref a => cases r; exact wpAny_pure h
  | ty n => cases r; exact wpAny_pure h
theorem isC_read {va : Val} {x : V} {d : D} {k : Bool} (h : RepF X.K H (fun _ => True) d x) (b : D) (e : isC d b = .ok k) : (b = .none ∧ k = decide (x = .non)) ∨ ∃ j, b = .bool j ∧ k = decide (x = .bl j) := by
  unfold isC at e
  split at e
  · cases e
    refine .inl ⟨rfl, ?_⟩
    cases d <;> first
      | (rw [h.none]; rfl) | (rw [h.bool]; rfl) | (rw [h.int]; rfl) | (rw [h.str]; rfl)
      | (obtain ⟨_, _, rfl, _⟩ := h.ref; rfl) | (obtain ⟨_, _, rfl, _⟩ := h.tref; rfl) | (obtain ⟨_, _, _, rfl, _⟩ := h.scr; rfl)
  · rename_i j
    cases e
    refine .inr ⟨j, rfl, ?_⟩
    cases d <;> first
      | (rw [h.none]; rfl) | (rename_i i; rw [h.bool]; cases i <;> cases j <;> rfl) | (rw [h.int]; rfl) | (rw [h.str]; rfl)
      | (obtain ⟨_, _, rfl, _⟩ := h.ref; rfl) | (obtain ⟨_, _, rfl, _⟩ := h.tref; rfl) | (obtain ⟨_, _, _, rfl, _⟩ := h.scr; rfl)
  · cases e
theorem inD_read {x c : D} {k : Bool} (e : inD x c = .ok k) : ∃ ys, (c = .list ys ∨ c = .tuple ys) ∧ okDs ys = true ∧ okD x = true ∧ k = ys.any fun y => PyData.eqv y x := by
  unfold inD at e
  split at e
  · split at e
    · rename_i ys hz
      cases e
      rw [Bool.and_eq_true] at hz
      exact ⟨ys, .inl rfl, hz.1, hz.2, rfl⟩
    · cases e
  · split at e
    · rename_i ys hz
      cases e
      rw [Bool.and_eq_true] at hz
      exact ⟨ys, .inr rfl, hz.1, hz.2, rfl⟩
    · cases e
  · cases e
theorem plain_lt {ys : List D} {c : D} (h : c = .list ys ∨ c = .tuple ys) (e : okDs ys = true) : c.plain = true := by
  have q := (okDs_iff.mp e).1
  rcases h with rfl | rfl <;> simpa [PyData.plain] using q
theorem or_cop (hu : X.A.units + 200 < cLine) (o : CmpOp) : OpR X (compareOp o) (rCop X.K o) := by
  intro pins s σ H x y v u Q I rx ry h
  obtain ⟨O, va, vb, k, h1, h2, e, q⟩ := h
  have fin : ∀ {k : Bool}, Q (.bl k) H → EP X pins σ Q (.bool k) s := fun {k} q => ⟨.bl k, H, I, rfl, q⟩
  cases o with
  | Eq =>
    simp only [cop, eqD] at e
    split at e
    · rename_i hz
      cases e
      rw [Bool.and_eq_true] at hz
      obtain ⟨as, r1⟩ := h1.reads I (okD_iff.mp hz.1).1 rx
      obtain ⟨bs, r2⟩ := h2.reads I (okD_iff.mp hz.2).1 ry
      exact PySem.SeqAt.eq_plain r1 r2 (okD_iff.mp hz.1).1 (okD_iff.mp hz.2).1 (room_d hu hz.1) (fin q)
    · cases e
  | NotEq =>
    simp only [cop] at e
    obtain ⟨m, e', rfl⟩ := notR_ok e
    simp only [eqD] at e'
    split at e'
    · rename_i hz
      cases e'
      rw [Bool.and_eq_true] at hz
      obtain ⟨as, r1⟩ := h1.reads I (okD_iff.mp hz.1).1 rx
      obtain ⟨bs, r2⟩ := h2.reads I (okD_iff.mp hz.2).1 ry
      exact PySem.SeqAt.ne_plain r1 r2 (okD_iff.mp hz.1).1 (okD_iff.mp hz.2).1 (room_d hu hz.1) (fin q)
    · cases e'
  | Lt =>
    simp only [cop] at e
    rcases lt_read h1 h2 e with ⟨i, j, rfl, rfl, rfl⟩ | ⟨g1, g2, g3, g4, rfl⟩
    · exact op_lt pins s σ H _ _ v u Q I rx ry ⟨i, j, rfl, rfl, q⟩
    · obtain ⟨as, r1⟩ := h1.reads I (okD_iff.mp g2).1 rx
      obtain ⟨bs, r2⟩ := h2.reads I (okD_iff.mp g3).1 ry
      exact W.lt_data r1 r2 g1 g4 (room_d hu g2) (fin q)
  | Gt =>
    simp only [cop] at e
    rcases lt_read h2 h1 e with ⟨i, j, rfl, rfl, rfl⟩ | ⟨g1, g2, g3, g4, rfl⟩
    · exact op_gt pins s σ H _ _ v u Q I rx ry ⟨j, i, rfl, rfl, q⟩
    · obtain ⟨as, r1⟩ := h1.reads I (okD_iff.mp g3).1 rx
      obtain ⟨bs, r2⟩ := h2.reads I (okD_iff.mp g2).1 ry
      rw [W.alike_comm] at g1
      exact W.gt_data r1 r2 g1 (fun e => W.ne_none_both (by rw [W.alike_comm]; exact g1) g4 e) (room_d hu g3) (fin q)
  | LtE =>
    simp only [cop] at e
    obtain ⟨m, e', rfl⟩ := notR_ok e
    rcases lt_read h2 h1 e' with ⟨i, j, rfl, rfl, rfl⟩ | ⟨g1, g2, g3, g4, rfl⟩
    · refine op_le pins s σ H _ _ v u Q I rx ry ⟨j, i, rfl, rfl, ?_⟩
      have e2 : (!decide (i < j)) = decide (j ≤ i) := by rw [← decide_not]; exact decide_eq_decide.mpr (by omega)
      rw [e2] at q
      exact q
    · obtain ⟨as, r1⟩ := h1.reads I (okD_iff.mp g3).1 rx
      obtain ⟨bs, r2⟩ := h2.reads I (okD_iff.mp g2).1 ry
      rw [W.alike_comm] at g1
      exact W.le_data r1 r2 g1 (fun e => W.ne_none_both (by rw [W.alike_comm]; exact g1) g4 e) (room_d hu g3) (fin q)
  | GtE =>
    simp only [cop] at e
    obtain ⟨m, e', rfl⟩ := notR_ok e
    rcases lt_read h1 h2 e' with ⟨i, j, rfl, rfl, rfl⟩ | ⟨g1, g2, g3, g4, rfl⟩
    · refine op_ge pins s σ H _ _ v u Q I rx ry ⟨i, j, rfl, rfl, ?_⟩
      have e2 : (!decide (i < j)) = decide (j ≤ i) := by rw [← decide_not]; exact decide_eq_decide.mpr (by omega)
      rw [e2] at q
      exact q
    · obtain ⟨as, r1⟩ := h1.reads I (okD_iff.mp g2).1 rx
      obtain ⟨bs, r2⟩ := h2.reads I (okD_iff.mp g3).1 ry
      exact W.ge_data r1 r2 g1 g4 (room_d hu g2) (fin q)
  | In =>
    simp only [cop] at e
    obtain ⟨ys, hc, g1, g2, rfl⟩ := inD_read e
    obtain ⟨as, r1⟩ := h1.reads I (okD_iff.mp g2).1 rx
    obtain ⟨bs, r2⟩ := h2.reads I (plain_lt hc g1) ry
    have hd := (okDs_iff.mp g1).2
    rcases hc with hc | hc
    · rw [hc] at r2
      exact PySem.SeqAt.in_list_data r2 r1 (okDs_iff.mp g1).1 (okD_iff.mp g2).1 (by omega) (fin q)
    · rw [hc] at r2
      exact PySem.SeqAt.in_tuple_data r2 r1 (okDs_iff.mp g1).1 (okD_iff.mp g2).1 (by omega) (fin q)
  | NotIn =>
    simp only [cop] at e
    obtain ⟨m, e', rfl⟩ := notR_ok e
    obtain ⟨ys, hc, g1, g2, rfl⟩ := inD_read e'
    obtain ⟨as, r1⟩ := h1.reads I (okD_iff.mp g2).1 rx
    obtain ⟨bs, r2⟩ := h2.reads I (plain_lt hc g1) ry
    have hd := (okDs_iff.mp g1).2
    rcases hc with hc | hc
    · rw [hc] at r2
      exact PySem.SeqAt.notIn_list_data r2 r1 (okDs_iff.mp g1).1 (okD_iff.mp g2).1 (by omega) (fin q)
    · rw [hc] at r2
      exact PySem.SeqAt.notIn_tuple_data r2 r1 (okDs_iff.mp g1).1 (okD_iff.mp g2).1 (by omega) (fin q)
  | Is =>
    simp only [cop] at e
    rcases isC_read (va := va) h1.any vb.d e with ⟨hb, rfl⟩ | ⟨j, hb, rfl⟩
    · have q2 := h2.any
      rw [hb] at q2
      exact op_isN pins s σ H x y v u Q I rx ry ⟨q2.none, q⟩
    · have q2 := h2.any
      rw [hb] at q2
      rw [q2.bool] at ry
      cases ry
      exact isC_same rx (fin q)
  | IsNot =>
    simp only [cop] at e
    obtain ⟨m, e', rfl⟩ := notR_ok e
    rcases isC_read (va := va) h1.any vb.d e' with ⟨hb, rfl⟩ | ⟨j, hb, rfl⟩
    · have q2 := h2.any
      rw [hb] at q2
      exact op_notN pins s σ H x y v u Q I rx ry ⟨q2.none, q⟩
    · have q2 := h2.any
      rw [hb] at q2
      rw [q2.bool] at ry
      cases ry
      exact isC_other rx (fin q)
/-- truth -/
theorem truth_read {K : PySem.W.Frag} {va : Val} {x : V} {k : Bool} (h : RdOk K H O va x) (e : truth va.d = .ok k) : TruV K x H k := by
  have q := h.any
  generalize va.d = d at q e
  cases d <;> simp only [truth] at e <;> first | (cases e; done) | skip
  · cases e; rw [q.none]; rfl
  · cases e; rw [q.bool]; rfl
  · cases e; rw [q.int]; rfl
  · cases e
    obtain ⟨a, vs, rfl, h1, _, h3⟩ := q.ref
    refine .inl ⟨vs, .inl (.inl h1), ?_⟩
    cases h3 <;> rfl
  · cases e
    obtain ⟨a, vs, rfl, h1, h3⟩ := q.tref
    refine .inr (.inl ⟨vs, h1.sq, ?_⟩)
    cases h3 <;> rfl
end
end VL
/-! VL: expressions. -/
namespace VL
open PySem PySem.Spec PyProof.Rows L2
section
variable {K : PySem.W.Frag} {pv : Nat → Option V} {H H' H2 : Hp} {O O' O2 M M' M2 Z Z' N N' : Addr → Prop} {s : L2.St} {r r' : Env} {fp fp' : Fp} {b b2 : Bool}
/-- from a made thing to the reading's end -/
theorem made_end {Q : VK} {bx b : Bool} {r' : Env} {fp0 : Fp} {O0 : Addr → Prop} {H0 : Hp} {n : Nat} {d : D} {z : V}
    (q : ∀ x H' O' fp' tf, StOk K pv H' O' (ZT Z tf) s r' fp' → Ext b H0 O0 (Mo fp0) H' O' (MoT fp' tf) → ValOk K H' O' ⟨true, n, d⟩ x tf → Q x H')
    (h : StOk K pv H O Z s r' fp) (x : Ext bx H0 O0 (Mo fp0) H O (Mo fp)) (hb : bx = true → b = true) (m : Made K H O n d z H') : Q z H' := by
  obtain ⟨O', tf, h1, x1, v1⟩ := m.fin (pv := pv) (b := bx) h
  refine q z H' O' fp tf h1 ((x.trans x1).weak fun e => hb ?_) v1
  rw [Bool.or_self] at e
  exact e
end
section
variable {X : Cx} {c : Cc}
theorem ev_v {G : Str → Option Fd} {xa : Ex} : ∀ i, xa = .v i → ev G xa = fun r => rd i r >>= fun v => .ok (v, r) := fun i e => by subst e; funext r; simp only [ev]
/-- constants -/
theorem ve_const {e : Expr} {d : D} {z : V} (h : PE X e (tC z)) (hd : ∀ H O, Made X.K H O 0 d z H) : VE X c e (.c d) where
  val := fun pv => PE.imp h fun s H Q q => by
    obtain ⟨O, Z, r, fp, v, r', h, e, q⟩ := q
    simp only [ev] at e
    cases e
    exact made_end q h (bx := false) .refl (fun e => by cases e) (hd H O)
  var := fun i e => by cases e
theorem ve_var {e : Expr} {i : Nat} (h : PE X e (tVar i)) : VE X c e (.v i) where
  val := fun pv => PE.imp h fun s H Q q => by
    obtain ⟨O, Z, r, fp, v, r', h, e, q⟩ := q
    simp only [ev] at e
    obtain ⟨w, e1, e⟩ := bind_ok_iff.mp e
    cases e
    obtain ⟨xv, h1, h2⟩ := h.rd e1
    exact ⟨xv, h1, q xv H O fp [] (by rw [ZT.nil]; exact h) (by rw [MoT.nil]; exact .refl) h2⟩
  var := fun j e => by cases e; exact h
theorem ve_bin {a b : Expr} {xa xb : Ex} {o : Operator} {pos : Pos} (ha : VE X c a xa) (hb : VE X c b xb) : VE X c (.BinOp a o b pos) (.bin o xa xb) where
  val := fun pv => PE.imp (pe_op (or_bop o) (ha.o1 (pv := pv)) (PEtR (hb.val pv))) fun s H Q q => by
    obtain ⟨O, Z, r, fp, v, r', h, e, q⟩ := q
    simp only [ev] at e
    obtain ⟨⟨⟨va, vb⟩, r2⟩, e1, e⟩ := bind_ok_iff.mp e
    dsimp only at e
    split at e
    · rename_i hz
      obtain ⟨d, e2, e⟩ := bind_ok_iff.mp e
      cases e
      rw [Bool.and_eq_true] at hz
      refine ops_read h (fun e => by rw [e]; rfl) ev_v e1 fun x y H' O' fp' h' x' hx hy => ⟨O', va, vb, d, hx, hy, hz.1, hz.2, e2, fun z H2 m => ?_⟩
      refine made_end q h' x' (fun e => ?_) m
      simp only [pureX]
      simp_all
    · cases e
  var := fun i e => by cases e
theorem ve_un {a : Expr} {xa : Ex} {o : UnaryOp} {pos : Pos} (ha : VE X c a xa) : VE X c (.UnaryOp o a pos) (.un o xa) where
  val := fun pv => PE.imp (pe_un (ur_uop o) (PEtR (ha.val pv))) fun s H Q q => by
    obtain ⟨O, Z, r, fp, v, r', h, e, q⟩ := q
    simp only [ev] at e
    obtain ⟨⟨va, r2⟩, e1, e⟩ := bind_ok_iff.mp e
    obtain ⟨d, e2, e⟩ := bind_ok_iff.mp e
    cases e
    refine ⟨O, Z, r, fp, va, r2, h, e1, fun x H' O' fp' h' x' hx => ⟨O', va, d, hx, e2, fun z H2 m => ?_⟩⟩
    exact made_end q h' x' (fun e => by simpa only [pureX] using e) m
  var := fun i e => by cases e
theorem rCop_bl {o : CmpOp} {x y : V} {H : Hp} {Q : VK} {K : PySem.W.Frag} {O : Addr → Prop} {va vb : Val} {k : Bool} (h1 : RdOk K H O va x) (h2 : RdOk K H O vb y) (e : cop o va.d vb.d = .ok k) (q : Q (.bl k) H) : rCop K o x y H Q := ⟨O, va, vb, k, h1, h2, e, q⟩
theorem ve_cmp (hX : XOk X c) {a b : Expr} {xa xb : Ex} {o : CmpOp} {pos : Pos} (ha : VE X c a xa) (hb : VE X c b xb) (hm : behindInMarks o b = false) : VE X c (.Compare a [o] [b] pos) (.cmp o xa xb) where
  val := fun pv => PE.imp (pe_cmpR (or_cop hX.hu o) (ha.o1 (pv := pv)) (PEtR (hb.val pv)) hm) fun s H Q q => by
    obtain ⟨O, Z, r, fp, v, r', h, e, q⟩ := q
    simp only [ev] at e
    obtain ⟨⟨⟨va, vb⟩, r2⟩, e1, e⟩ := bind_ok_iff.mp e
    obtain ⟨k, e2, e⟩ := bind_ok_iff.mp e
    cases e
    refine ops_read h (fun e => by rw [e]; rfl) ev_v e1 fun x y H' O' fp' h' x' hx hy => rCop_bl hx hy e2 ?_
    refine made_end q h' x' (fun e => ?_) (Made.bool k)
    simp only [pureX]
    simp_all
  var := fun i e => by cases e
theorem fzB_inj {a b : Bool} (h : fzB a = fzB b) : a = b := by injection h with _ _ h; injection h
/-- a comparison as a test -/
theorem vt_cmp (hX : XOk X c) {a b : Expr} {xa xb : Ex} {o : CmpOp} {pos : Pos} (ha : VE X c a xa) (hb : VE X c b xb) (hm : behindInMarks o b = false) : VT X c (.Compare a [o] [b] pos) (.cmp o xa xb) where
  tst := fun pv => PT.imp (pt_cmpR (or_cop hX.hu o) (ha.o1 (pv := pv)) (PEtR (hb.val pv)) hm) fun s H Q q => by
    obtain ⟨O, Z, r, fp, k, r', h, e, q⟩ := q
    simp only [ev] at e
    obtain ⟨p, e0, e⟩ := bind_ok_iff.mp e
    obtain ⟨⟨⟨va, vb⟩, r2⟩, e1, e0⟩ := bind_ok_iff.mp e0
    obtain ⟨k', e2, e0⟩ := bind_ok_iff.mp e0
    cases e0
    obtain ⟨k2, e3, e⟩ := bind_ok_iff.mp e
    cases e3
    injection e with e
    injection e with e e'
    cases fzB_inj e
    cases e'
    refine ops_read h (fun e => by rw [e]; rfl) ev_v e1 fun x y H' O' fp' h' x' hx hy => rCop_bl hx hy e2 ⟨k, rfl, q H' O' fp' h' (x'.weak fun e => ?_)⟩
    simp only [pureX]
    simp_all
/-- any value as a test -/
theorem vt_val (hX : XOk X c) {a : Expr} {xa : Ex} (ha : VE X c a xa) (he : ∀ whole, isTrue a X.env whole = (do let v ← whole; standAt a.pos; holding [v] (truthy v))) : VT X c a xa where
  tst := fun pv => PT.imp (pt_truth (PEtR (ha.val pv)) he) fun s H Q q => by
    obtain ⟨O, Z, r, fp, k, r', h, e, q⟩ := q
    obtain ⟨⟨va, r2⟩, e1, e⟩ := bind_ok_iff.mp e
    obtain ⟨k2, e3, e⟩ := bind_ok_iff.mp e
    injection e with e
    injection e with e e'
    cases fzB_inj e
    cases e'
    exact ⟨O, Z, r, fp, va, r2, h, e1, fun x H' O' fp' h' x' hx => ⟨k, truth_read hx e3, q H' O' fp' h' x'⟩⟩
end
end VL
/-! VL: values kept; displays; tests. -/
namespace VL
open PySem PySem.Spec PyProof.Rows L2
section
variable {K : PySem.W.Frag} {pv : Nat → Option V} {H H' H2 : Hp} {O O' O2 M M' M2 Z Z' N N' : Addr → Prop} {s : L2.St} {r r' : Env} {fp fp' : Fp} {b b2 : Bool}
theorem Ext.id {M M' : Addr → Prop} (h : ∀ a, M' a → M a) : Ext b H O M H O M' := ⟨fun _ _ h _ => h, fun _ _ _ _ => Iff.rfl, fun _ o h => ⟨o, h⟩, fun a m => .inl (h a m), fun _ _ _ h => h⟩
theorem at_ok {v : Val} {x : V} {tf : List Addr} {m : Nat} {d : D} (hv : ValOk K H O v x tf) (h : StOk K pv H O (ZT Z tf) s r fp) (e : v.at m = .ok d) :
    ∃ O' tf', StOk K pv H O' (ZT Z tf') s r fp ∧ Ext b H O (MoT fp tf) H O' (MoT fp tf') ∧ RepO K H O' m d x tf' ∧ tf'.Nodup := by
  obtain ⟨o, n, d0⟩ := v
  unfold Val.at at e
  dsimp only at e
  cases hl : isL d0 with
  | true =>
    rw [hl] at e
    cases o with
    | true =>
      dsimp only at e
      split at e
      · rename_i hm
        cases e
        rcases hm with rfl | rfl
        · refine ⟨fun a => O a ∧ a ∉ tf, [], by rw [ZT.nil]; exact h.freezeT, by rw [MoT.nil]; exact Ext.freezeT (tf' := tf), ⟨RepO.frozen hv.1, rfl⟩, List.nodup_nil⟩
        · exact ⟨O, tf, h, .refl, hv.1, hv.2⟩
      · cases e
    | false =>
      dsimp only at e
      split at e
      · rename_i hm
        cases e
        obtain ⟨rfl, rfl⟩ := hm
        have e2 : tf = [] := hv.2
        subst e2
        exact ⟨O, [], h, .refl, ⟨hv.1, rfl⟩, List.nodup_nil⟩
      · cases e
  | false =>
    rw [hl] at e
    cases e
    cases o with
    | true =>
      obtain ⟨w1, w2⟩ := RepO.flat hv.1 hl
      subst w2
      exact ⟨O, [], h, .refl, w1.flatO hl, List.nodup_nil⟩
    | false =>
      have e2 : tf = [] := hv.2
      subst e2
      exact ⟨O, [], h, .refl, (RepB.flat hv.1 hl).flatO hl, List.nodup_nil⟩
/-- the reading of an expression whose value is kept -/
def tD (K : PySem.W.Frag) (pv : Nat → Option V) (b : Bool) (m : Nat) (g : Env → R (D × Env)) : TE := fun s H Q =>
  ∃ O Z r fp d r', StOk K pv H O Z s r fp ∧ g r = .ok (d, r') ∧
    ∀ x H' O' fp' tf, StOk K pv H' O' (ZT Z tf) s r' fp' → Ext b H O (Mo fp) H' O' (MoT fp' tf) → RepO K H' O' m d x tf → tf.Nodup → Q x H'
end
section
variable {X : Cx} {c : Cc} {pv : Nat → Option V}
theorem tk_other {m : Nat} {x : Ex} {f : Env → R (Val × Env)} {r : Env} (hx : ¬ ∃ i, x = .v i) : tk m x f r = (f r >>= fun p => p.1.at m >>= fun d => .ok (d, p.2)) := by
  cases x <;> first | rfl | exact absurd ⟨_, rfl⟩ hx
theorem VE.tk {e : Expr} {x : Ex} (hE : VE X c e x) (m : Nat) : PE X e (tD X.K pv (!pureX c.G x) m (VL.tk m x (ev c.G x))) := by
  by_cases hx : ∃ i, x = .v i
  · obtain ⟨i, rfl⟩ := hx
    refine PE.imp (hE.var i rfl) fun s H Q q => ?_
    obtain ⟨O, Z, r, fp, d, r', h, e, q⟩ := q
    have other : (ev c.G (.v i) r >>= fun p => p.1.at m >>= fun d => .ok (d, p.2)) = .ok (d, r') → tVar i s H Q := fun e => by
      obtain ⟨⟨v, r1⟩, e1, e⟩ := bind_ok_iff.mp e
      obtain ⟨d1, e2, e⟩ := bind_ok_iff.mp e
      simp only [ev] at e1
      obtain ⟨w, e3, e1⟩ := bind_ok_iff.mp e1
      cases e1
      cases e
      obtain ⟨xv, h1, h2⟩ := h.rd e3
      obtain ⟨O', tf', g1, g2, g3, g4⟩ := at_ok (b := !pureX c.G (.v i)) h2 (by rw [ZT.nil]; exact h) e2
      rw [MoT.nil] at g2
      exact ⟨xv, h1, q xv H O' fp tf' g1 g2 g3 g4⟩
    unfold VL.tk at e
    dsimp only at e
    split at e
    · rename_i n d0 e0
      cases hl : isL d0 with
      | true =>
        rw [hl] at e
        dsimp only at e
        split at e
        · rename_i hm
          cases e
          subst hm
          obtain ⟨xv, g1, g2, g3, g4⟩ := h.freeze (b := !pureX c.G (.v i)) e0
          exact ⟨xv, g1, q xv H _ _ [] (by rw [ZT.nil]; exact g3) (by rw [MoT.nil]; exact g4) ⟨g2, rfl⟩ List.nodup_nil⟩
        · split at e
          · rename_i hm
            cases e
            subst hm
            obtain ⟨xv, g1, g2, g3, g4⟩ := h.move (b := !pureX c.G (.v i)) e0
            exact ⟨xv, g1, q xv H _ _ _ g3 g4 g2 (h.nd i)⟩
          · cases e
      | false =>
        rw [hl] at e
        cases e
        obtain ⟨xv, g1, g2⟩ := h.sl i _ e0
        obtain ⟨w1, w2⟩ := g2.flat hl
        exact ⟨xv, g1, q xv H O fp [] (by rw [ZT.nil]; exact h) (by rw [MoT.nil]; exact .refl) (w1.flatO hl) List.nodup_nil⟩
    · exact other e
  · refine PE.imp (hE.val pv) fun s H Q q => ?_
    obtain ⟨O, Z, r, fp, d, r', h, e, q⟩ := q
    rw [tk_other hx] at e
    obtain ⟨⟨v, r1⟩, e1, e⟩ := bind_ok_iff.mp e
    obtain ⟨d1, e2, e⟩ := bind_ok_iff.mp e
    cases e
    refine ⟨O, Z, r, fp, v, _, h, e1, fun x H' O' fp' tf h' x' hv => ?_⟩
    obtain ⟨O2, tf2, g1, g2, g3, g4⟩ := at_ok (b := false) hv h' e2
    have y := x'.trans g2
    rw [Bool.or_false] at y
    exact q x H' O2 fp' tf2 g1 y g3 g4
theorem tst_ok {G : Str → Option Fd} {xa : Ex} {r r1 : Env} {v : Val} {k : Bool} (e2 : ev G xa r = .ok (v, r1)) (e3 : truth v.d = .ok k) :
    (fun r => ev G xa r >>= fun p => truth p.1.d >>= fun b => .ok (fzB b, p.2)) r = (.ok (fzB k, r1) : R (Val × Env)) := by
  show (ev G xa r >>= fun p => truth p.1.d >>= fun b => .ok (fzB b, p.2)) = _
  rw [e2]
  show (truth v.d >>= fun b => Except.ok (fzB b, r1)) = _
  rw [e3]
  rfl
/-- tests -/
theorem vt_not {a : Expr} {xa : Ex} {pos : Pos} (ha : VT X c a xa) : VT X c (.UnaryOp .Not a pos) (.tnot xa) where
  tst := fun pv => PT.imp (pt_not (ha.tst pv)) fun s H Q q => by
    obtain ⟨O, Z, r, fp, k, r', h, e, q⟩ := q
    simp only [ev] at e
    obtain ⟨p, e1, e⟩ := bind_ok_iff.mp e
    obtain ⟨⟨v, r1⟩, e2, e1⟩ := bind_ok_iff.mp e1
    obtain ⟨k1, e3, e1⟩ := bind_ok_iff.mp e1
    cases e1
    obtain ⟨k2, e4, e⟩ := bind_ok_iff.mp e
    cases e4
    injection e with e
    injection e with e e'
    cases fzB_inj e
    cases e'
    refine ⟨O, Z, r, fp, k1, _, h, tst_ok e2 e3, fun H' O' fp' h' x' => q H' O' fp' h' (by simpa only [pureX] using x')⟩
/-- a row of tests -/
structure VW (X : Cx) (c : Cc) (op : BoolOp) (es : List Expr) (pos : Pos) (x : Ex) : Prop where
  tst : ∀ pv, PW X (.BoolOp op es pos) (tVT X.K pv (!pureX c.G x) (fun r => ev c.G x r >>= fun p => truth p.1.d >>= fun b => .ok (fzB b, p.2)))
theorem VW.vt {op : BoolOp} {es : List Expr} {pos : Pos} {x : Ex} (h : VW X c op es pos x) : VT X c (.BoolOp op es pos) x := ⟨fun pv => (h.tst pv).pt⟩
theorem vw_and1 {a : Expr} {xa : Ex} {pos : Pos} (ha : VT X c a xa) : VW X c .And [a] pos xa := ⟨fun pv => pw_and1 (ha.tst pv)⟩
theorem vw_or1 {a : Expr} {xa : Ex} {pos : Pos} (ha : VT X c a xa) : VW X c .Or [a] pos xa := ⟨fun pv => pw_or1 (ha.tst pv)⟩
theorem vw_and {a b : Expr} {rest : List Expr} {xa xb : Ex} {pos : Pos} (ha : VT X c a xa) (hb : VW X c .And (b :: rest) pos xb) : VW X c .And (a :: b :: rest) pos (.tand xa xb) where
  tst := fun pv => PW.imp (pw_and (ha.tst pv) (hb.tst pv)) fun s H Q q => by
    obtain ⟨O, Z, r, fp, k, r', h, e, q⟩ := q
    simp only [ev] at e
    obtain ⟨p, e1, e⟩ := bind_ok_iff.mp e
    obtain ⟨⟨v, r1⟩, e2, e1⟩ := bind_ok_iff.mp e1
    obtain ⟨k1, e3, e1⟩ := bind_ok_iff.mp e1
    obtain ⟨k2, e4, e⟩ := bind_ok_iff.mp e
    injection e with e
    injection e with e e'
    cases fzB_inj e
    cases e'
    refine ⟨O, Z, r, fp, k1, r1, h, ?_, fun H1 O1 fp1 h1 x1 => ?_⟩
    · exact tst_ok e2 e3
    · cases k1 with
      | false =>
        cases e1
        cases e4
        exact q H1 O1 fp1 h1 (x1.weak fun e => by simp only [pureX]; simp_all)
      | true =>
        dsimp only at e1
        obtain ⟨⟨v2, r2⟩, e5, e1⟩ := bind_ok_iff.mp e1
        obtain ⟨k3, e6, e1⟩ := bind_ok_iff.mp e1
        cases e1
        cases e4
        refine ⟨O1, Z, r1, fp1, k, _, h1, ?_, fun H2 O2 fp2 h2 x2 => q H2 O2 fp2 h2 ((x1.trans x2).weak fun e => by simp only [pureX]; simp_all)⟩
        exact tst_ok e5 e6
theorem vw_or {a b : Expr} {rest : List Expr} {xa xb : Ex} {pos : Pos} (ha : VT X c a xa) (hb : VW X c .Or (b :: rest) pos xb) : VW X c .Or (a :: b :: rest) pos (.tor xa xb) where
  tst := fun pv => PW.imp (pw_or (ha.tst pv) (hb.tst pv)) fun s H Q q => by
    obtain ⟨O, Z, r, fp, k, r', h, e, q⟩ := q
    simp only [ev] at e
    obtain ⟨p, e1, e⟩ := bind_ok_iff.mp e
    obtain ⟨⟨v, r1⟩, e2, e1⟩ := bind_ok_iff.mp e1
    obtain ⟨k1, e3, e1⟩ := bind_ok_iff.mp e1
    obtain ⟨k2, e4, e⟩ := bind_ok_iff.mp e
    injection e with e
    injection e with e e'
    cases fzB_inj e
    cases e'
    refine ⟨O, Z, r, fp, k1, r1, h, ?_, fun H1 O1 fp1 h1 x1 => ?_⟩
    · exact tst_ok e2 e3
    · cases k1 with
      | true =>
        cases e1
        cases e4
        exact q H1 O1 fp1 h1 (x1.weak fun e => by simp only [pureX]; simp_all)
      | false =>
        dsimp only at e1
        obtain ⟨⟨v2, r2⟩, e5, e1⟩ := bind_ok_iff.mp e1
        obtain ⟨k3, e6, e1⟩ := bind_ok_iff.mp e1
        cases e1
        cases e4
        refine ⟨O1, Z, r1, fp1, k, _, h1, ?_, fun H2 O2 fp2 h2 x2 => q H2 O2 fp2 h2 ((x1.trans x2).weak fun e => by simp only [pureX]; simp_all)⟩
        exact tst_ok e5 e6
/-! values of tests -/
theorem pe_notR {a : Expr} {ta : TE} {pos : Pos} (ha : PE X a ta) : PE X (.UnaryOp .Not a pos) (fun s H Q => ta s H fun x H1 => ∃ k, TruV X.K x H1 k ∧ Q (.bl !k) H1) := by
  refine ⟨fun pins s σ H Q I h => UnaryOp_ (thn (ha.run pins s σ H _ I h) fun v s1 ⟨x, H1, I1, r1, k, t, q⟩ => not_of ?_)⟩
  exact thn (tru_ok pins s1 σ H1 x v (fun k H2 => Q (.bl !k) H2) I1 r1 ⟨k, t, q⟩) fun j s2 ⟨H2, I2, q2⟩ => ⟨.bl _, H2, I2, rfl, q2⟩
theorem ve_not {a : Expr} {xa : Ex} {pos : Pos} (ha : VE X c a xa) : VE X c (.UnaryOp .Not a pos) (.tnot xa) where
  val := fun pv => PE.imp (pe_notR (PEtR (ha.val pv))) fun s H Q q => by
    obtain ⟨O, Z, r, fp, v, r', h, e, q⟩ := q
    simp only [ev] at e
    obtain ⟨⟨va, r2⟩, e1, e⟩ := bind_ok_iff.mp e
    obtain ⟨k, e2, e⟩ := bind_ok_iff.mp e
    cases e
    refine ⟨O, Z, r, fp, va, _, h, e1, fun x H' O' fp' h' x' hx => ⟨k, truth_read hx e2, ?_⟩⟩
    exact made_end q h' x' (fun e => by simpa only [pureX] using e) (Made.bool _)
  var := fun i e => by cases e
theorem asB_ok {d : D} {k : Bool} (e : asB d = .ok k) : d = .bool k := by
  cases d <;> simp only [asB] at e <;> cases e
  rfl
theorem asI_ok {d : D} {k : Int} (e : asI d = .ok k) : d = .int k := by
  cases d <;> simp only [asI] at e <;> cases e
  rfl
theorem RdOk.bl {K : PySem.W.Frag} {H : Hp} {O : Addr → Prop} {v : Val} {x : V} {k : Bool} (h : RdOk K H O v x) (e : asB v.d = .ok k) : x = .bl k := by
  have q := h.any
  rw [asB_ok e] at q
  exact q.bool
theorem RdOk.ii {K : PySem.W.Frag} {H : Hp} {O : Addr → Prop} {v : Val} {x : V} {k : Int} (h : RdOk K H O v x) (e : asI v.d = .ok k) : x = .int k := by
  have q := h.any
  rw [asI_ok e] at q
  exact q.int
/-- a row of truth values -/
structure VL2 (X : Cx) (c : Cc) (op : BoolOp) (es : List Expr) (pos : Pos) (x : Ex) : Prop where
  val : ∀ pv, PE X (.BoolOp op es pos) (tV X.K pv (!pureX c.G x) (ev c.G x))
theorem vl_one {op : BoolOp} {a : Expr} {xa : Ex} {pos : Pos} (ha : VE X c a xa) : VL2 X c op [a] pos xa := ⟨fun pv => pe_one (ha.val pv)⟩
theorem vl_and {a b : Expr} {rest : List Expr} {xa xb : Ex} {pos : Pos} (ha : VE X c a xa) (hb : VL2 X c .And (b :: rest) pos xb) : VL2 X c .And (a :: b :: rest) pos (.vand xa xb) where
  val := fun pv => PE.imp (pe_and (PEtR (ha.val pv)) (PEtR (hb.val pv))) fun s H Q q => by
    obtain ⟨O, Z, r, fp, v, r', h, e, q⟩ := q
    simp only [ev] at e
    obtain ⟨⟨va, r2⟩, e1, e⟩ := bind_ok_iff.mp e
    obtain ⟨k, e2, e⟩ := bind_ok_iff.mp e
    refine ⟨O, Z, r, fp, va, _, h, e1, fun x H1 O1 fp1 h1 x1 hx => ⟨k, hx.bl e2, ?_⟩⟩
    cases k with
    | false =>
      cases e
      exact made_end q h1 x1 (fun e => by simp only [pureX]; simp_all) (Made.bool _)
    | true =>
      dsimp only at e
      obtain ⟨⟨vb, r3⟩, e3, e⟩ := bind_ok_iff.mp e
      obtain ⟨k2, e4, e⟩ := bind_ok_iff.mp e
      cases e
      refine ⟨O1, Z, _, fp1, vb, _, h1, e3, fun y H2 O2 fp2 h2 x2 hy => ?_⟩
      rw [hy.bl e4]
      exact made_end q h2 (x1.trans x2) (fun e => by simp only [pureX]; simp_all) (Made.bool _)
theorem vl_or {a b : Expr} {rest : List Expr} {xa xb : Ex} {pos : Pos} (ha : VE X c a xa) (hb : VL2 X c .Or (b :: rest) pos xb) : VL2 X c .Or (a :: b :: rest) pos (.vor xa xb) where
  val := fun pv => PE.imp (pe_or (PEtR (ha.val pv)) (PEtR (hb.val pv))) fun s H Q q => by
    obtain ⟨O, Z, r, fp, v, r', h, e, q⟩ := q
    simp only [ev] at e
    obtain ⟨⟨va, r2⟩, e1, e⟩ := bind_ok_iff.mp e
    obtain ⟨k, e2, e⟩ := bind_ok_iff.mp e
    refine ⟨O, Z, r, fp, va, _, h, e1, fun x H1 O1 fp1 h1 x1 hx => ⟨k, hx.bl e2, ?_⟩⟩
    cases k with
    | true =>
      cases e
      exact made_end q h1 x1 (fun e => by simp only [pureX]; simp_all) (Made.bool _)
    | false =>
      dsimp only at e
      obtain ⟨⟨vb, r3⟩, e3, e⟩ := bind_ok_iff.mp e
      obtain ⟨k2, e4, e⟩ := bind_ok_iff.mp e
      cases e
      refine ⟨O1, Z, _, fp1, vb, _, h1, e3, fun y H2 O2 fp2 h2 x2 hy => ?_⟩
      rw [hy.bl e4]
      exact made_end q h2 (x1.trans x2) (fun e => by simp only [pureX]; simp_all) (Made.bool _)
theorem VL2.ve {op : BoolOp} {a b : Expr} {es : List Expr} {pos : Pos} {x : Ex} (h : VL2 X c op es pos x) (hx : ∀ i, x ≠ .v i) : VE X c (.BoolOp op es pos) x := ⟨h.val, fun i e => absurd e (hx i)⟩
/-- a conditional expression -/
theorem ve_ife {t a b : Expr} {xt xa xb : Ex} {pos : Pos} (ht : VT X c t xt) (ha : VE X c a xa) (hb : VE X c b xb) : VE X c (.IfExp t a b pos) (.ife xt xa xb) where
  val := fun pv => PE.imp (pe_ifExp (ht.tst pv) (ha.tk (pv := pv) 0) (hb.tk (pv := pv) 0)) fun s H Q q => by
    obtain ⟨O, Z, r, fp, v, r', h, e, q⟩ := q
    simp only [ev] at e
    obtain ⟨⟨vt, r1⟩, e1, e⟩ := bind_ok_iff.mp e
    obtain ⟨k, e2, e⟩ := bind_ok_iff.mp e
    refine ⟨O, Z, r, fp, k, r1, h, ?_, fun H1 O1 fp1 h1 x1 => ?_⟩
    · exact tst_ok e1 e2
    · cases k with
      | true =>
        dsimp only at e
        obtain ⟨⟨d, r2⟩, e3, e⟩ := bind_ok_iff.mp e
        cases e
        rw [if_pos rfl]
        exact ⟨O1, Z, r1, fp1, d, _, h1, e3, fun x H2 O2 fp2 tf h2 x2 w nd => q x H2 O2 fp2 tf h2 ((x1.trans x2).weak fun e => by revert e; simp only [pureX]; cases pureX c.G xt <;> cases pureX c.G xa <;> cases pureX c.G xb <;> simp) ⟨w, nd⟩⟩
      | false =>
        dsimp only at e
        obtain ⟨⟨d, r2⟩, e3, e⟩ := bind_ok_iff.mp e
        cases e
        rw [if_neg Bool.false_ne_true]
        exact ⟨O1, Z, r1, fp1, d, _, h1, e3, fun x H2 O2 fp2 tf h2 x2 w nd => q x H2 O2 fp2 tf h2 ((x1.trans x2).weak fun e => by revert e; simp only [pureX]; cases pureX c.G xt <;> cases pureX c.G xa <;> cases pureX c.G xb <;> simp) ⟨w, nd⟩⟩
  var := fun i e => by cases e
/-- a < b < c, of ints -/
theorem RdOk.mkI {K : PySem.W.Frag} {H : Hp} {O : Addr → Prop} (i : Int) : RdOk K H O (fzv (.int i)) (.int i) := (RepF.mkI i : RepF K H (fun a => ¬ O a) (.int i) (.int i))
theorem chn_read {K : PySem.W.Frag} {pv : Nat → Option V} {xa xb xc : Ex} {o o' : CmpOp} {s : L2.St} {H : Hp} {Q : VK} (q : tV K pv (!pureX c.G (.chn o o' xa xb xc)) (ev c.G (.chn o o' xa xb xc)) s H Q) :
    tChain (rCop K o) (rCop K o') (tR K pv (!pureX c.G xa) (ev c.G xa)) (tR K pv (!pureX c.G xb) (ev c.G xb)) (tR K pv (!pureX c.G xc) (ev c.G xc)) s H Q := by
  obtain ⟨O, Z, r, fp, v, r', h, e, q⟩ := q
  simp only [ev] at e
  obtain ⟨⟨va, r1⟩, e1, e⟩ := bind_ok_iff.mp e
  obtain ⟨i, e2, e⟩ := bind_ok_iff.mp e
  obtain ⟨⟨vb, r2⟩, e3, e⟩ := bind_ok_iff.mp e
  obtain ⟨j, e4, e⟩ := bind_ok_iff.mp e
  obtain ⟨k, e5, e⟩ := bind_ok_iff.mp e
  refine ⟨O, Z, r, fp, va, r1, h, e1, fun x H1 O1 fp1 h1 x1 hx => ⟨O1, Z, r1, fp1, vb, r2, h1, e3, fun y H2 O2 fp2 h2 x2 hy => ?_⟩⟩
  cases hx.ii e2
  cases hy.ii e4
  refine ⟨O2, fzv (.int i), fzv (.int j), k, .mkI i, .mkI j, e5, k, rfl, ?_⟩
  cases k with
  | false =>
    cases e
    rw [if_neg Bool.false_ne_true]
    exact made_end q h2 (x1.trans x2) (fun e => by simp only [pureX]; simp_all) (Made.bool _)
  | true =>
    dsimp only at e
    obtain ⟨⟨vc, r3⟩, e6, e⟩ := bind_ok_iff.mp e
    obtain ⟨l, e7, e⟩ := bind_ok_iff.mp e
    obtain ⟨k2, e8, e⟩ := bind_ok_iff.mp e
    cases e
    rw [if_pos rfl]
    refine ⟨O2, Z, r2, fp2, vc, _, h2, e6, fun z H3 O3 fp3 h3 x3 hz => ?_⟩
    cases hz.ii e7
    refine ⟨O3, fzv (.int j), fzv (.int l), k2, .mkI j, .mkI l, e8, ?_⟩
    exact made_end q h3 ((x1.trans x2).trans x3) (fun e => by simp only [pureX]; simp_all) (Made.bool _)
theorem ve_chn (hX : XOk X c) {a b d : Expr} {xa xb xd : Ex} {o o' : CmpOp} {pos : Pos} (ha : VE X c a xa) (hb : VE X c b xb) (hd : VE X c d xd) (hm : lastMarks [o, o'] [b, d] = false) : VE X c (.Compare a [o, o'] [b, d] pos) (.chn o o' xa xb xd) where
  val := fun pv => PE.imp (pe_chain (or_cop hX.hu o) (or_cop hX.hu o') (PEtR (ha.val pv)) (PEtR (hb.val pv)) (PEtR (hd.val pv)) hm) fun s H Q q => chn_read q
  var := fun i e => by cases e
theorem vt_chn (hX : XOk X c) {a b d : Expr} {xa xb xd : Ex} {o o' : CmpOp} {pos : Pos} (ha : VE X c a xa) (hb : VE X c b xb) (hd : VE X c d xd) (hm : lastMarks [o, o'] [b, d] = false) : VT X c (.Compare a [o, o'] [b, d] pos) (.chn o o' xa xb xd) where
  tst := fun pv => PT.imp (pt_chain (or_cop hX.hu o) (or_cop hX.hu o') (PEtR (ha.val pv)) (PEtR (hb.val pv)) (PEtR (hd.val pv)) hm) fun s H Q q => by
    obtain ⟨O, Z, r, fp, k, r', h, e, q⟩ := q
    obtain ⟨⟨v, r1⟩, e1, e⟩ := bind_ok_iff.mp e
    obtain ⟨k2, e2, e⟩ := bind_ok_iff.mp e
    injection e with e
    injection e with e e'
    cases fzB_inj e
    cases e'
    refine chn_read ⟨O, Z, r, fp, v, _, h, e1, fun x H' O' fp' tf h' x' hv => ?_⟩
    have hb : v.d = .bool k := by
      simp only [ev] at e1
      obtain ⟨_, _, e1⟩ := bind_ok_iff.mp e1
      obtain ⟨_, _, e1⟩ := bind_ok_iff.mp e1
      obtain ⟨_, _, e1⟩ := bind_ok_iff.mp e1
      obtain ⟨_, _, e1⟩ := bind_ok_iff.mp e1
      obtain ⟨k0, _, e1⟩ := bind_ok_iff.mp e1
      cases k0 with
      | false => cases e1; cases e2; rfl
      | true =>
        dsimp only at e1
        obtain ⟨_, _, e1⟩ := bind_ok_iff.mp e1
        obtain ⟨_, _, e1⟩ := bind_ok_iff.mp e1
        obtain ⟨_, _, e1⟩ := bind_ok_iff.mp e1
        cases e1; cases e2; rfl
    have y := x'.trans (b2 := false) (Ext.freezeT (O := O') (fp := fp') (tf := tf) (tf' := tf))
    rw [Bool.or_false] at y
    exact ⟨k, hv.bool hb, q H' _ fp' h'.freezeT y⟩
end
end VL
/-! VL: displays, subscripts, slices, built-in functions. -/
namespace VL
open PySem PySem.Spec PyProof.Rows L2
section
variable {K : PySem.W.Frag} {pv : Nat → Option V} {H H' H2 : Hp} {O O' O2 M M' M2 Z Z' N N' : Addr → Prop} {s : L2.St} {r r' : Env} {fp fp' : Fp} {b b2 : Bool}
theorem Ext.add (x : Ext b H O M H' O' M') (A : Addr → Prop) : Ext b H O (fun a => M a ∨ A a) H' O' (fun a => M' a ∨ A a) where
  keep := fun a o h m => x.keep a o h fun z => m (.inl z)
  own := fun a o h m => x.own a o h fun z => m (.inl z)
  live := x.live
  sub := fun a m => by
    rcases m with m | m
    · exact (x.sub a m).imp .inl fun z => z
    · exact .inl (.inr m)
  same := x.same
theorem ZT.app {t1 t2 : List Addr} : ZT (ZT Z t1) t2 = ZT Z (t1 ++ t2) := by
  funext a
  apply propext
  unfold ZT
  rw [List.mem_append]
  constructor
  · rintro ((h | h) | h)
    · exact .inl h
    · exact .inr (.inl h)
    · exact .inr (.inr h)
  · rintro (h | h | h)
    · exact .inl (.inl h)
    · exact .inl (.inr h)
    · exact .inr h
theorem MoT.app {t1 t2 : List Addr} : (fun a => MoT fp t2 a ∨ a ∈ t1) = MoT fp (t1 ++ t2) := by
  funext a
  apply propext
  unfold MoT
  rw [List.mem_append]
  constructor
  · rintro ((h | h) | h)
    · exact .inl h
    · exact .inr (.inr h)
    · exact .inr (.inl h)
  · rintro (h | h | h)
    · exact .inl (.inl h)
    · exact .inr h
    · exact .inl (.inr h)
/-- a second step while t1 is held -/
theorem Ext.held {t1 t2 : List Addr} {fp2 : Fp} (x : Ext b H O M H' O' (MoT fp' t1)) (y : Ext b2 H' O' (Mo fp') H2 O2 (MoT fp2 t2)) : Ext (b || b2) H O M H2 O2 (MoT fp2 (t1 ++ t2)) := by
  have z := x.trans (y.add fun a => a ∈ t1)
  rw [MoT.app] at z
  exact z
theorem held_nodup {t1 t2 : List Addr} {fp2 : Fp} (h : StOk K pv H' O' (ZT Z t1) s r fp') (y : Ext b2 H' O' (Mo fp') H2 O2 (MoT fp2 t2)) (n1 : t1.Nodup) (n2 : t2.Nodup) : (t1 ++ t2).Nodup := by
  rw [List.nodup_append]
  refine ⟨n1, n2, fun a h1 b' h2 e => ?_⟩
  subst e
  rcases y.sub a (.inr h2) with q | q
  · exact h.zm a (.inr h1) q
  · obtain ⟨o, e⟩ := h.ze a (.inr h1)
    rw [q] at e; cases e
theorem held_repO {t1 t2 : List Addr} {fp2 : Fp} {n : Nat} {d : D} {x : V} (h : StOk K pv H' O' (ZT Z t1) s r fp') (y : Ext b2 H' O' (Mo fp') H2 O2 (MoT fp2 t2)) (w : RepO K H' O' n d x t1) : RepO K H2 O2 n d x t1 :=
  y.repO h.mok (fun a ha => h.zm a (.inr ha)) w
/-- the reading of a row of expressions whose values are kept -/
def tDs (K : PySem.W.Frag) (pv : Nat → Option V) (b : Bool) (m : Nat) (g : Env → R (List D × Env)) : TA := fun s H Q =>
  ∃ O Z r fp ds r', StOk K pv H O Z s r fp ∧ g r = .ok (ds, r') ∧
    ∀ xs H' O' fp' tfs, StOk K pv H' O' (ZT Z tfs.flatten) s r' fp' → Ext b H O (Mo fp) H' O' (MoT fp' tfs.flatten) → Trip (RepO K H' O' m) ds xs tfs → tfs.flatten.Nodup → Q xs H'
end
def notStar : Expr → Bool
  | .Starred _ _ => false
  | _ => true
theorem starEach_cons {e : Expr} {es : List Expr} {env : PySem.Env} (h : notStar e = true) : starEach (e :: es) env = (false, eval e env) :: starEach es env := by
  cases e <;> first | rfl | cases h
section
variable {X : Cx} {c : Cc}
structure VEs (X : Cx) (c : Cc) (es : List Expr) (x : Ex) : Prop where
  val : ∀ pv m, PA X es (tDs X.K pv (!pureX c.G x) m (evs c.G m x))
theorem ves_nil : VEs X c [] .nil where
  val := fun pv m => PA.imp pa_nil fun s H Q q => by
    obtain ⟨O, Z, r, fp, ds, r', h, e, q⟩ := q
    simp only [evs] at e
    cases e
    exact q [] H O fp [] (by show StOk X.K pv H O (ZT Z []) s r fp; rw [ZT.nil]; exact h) (by show Ext _ H O (Mo fp) H O (MoT fp []); rw [MoT.nil]; exact .refl) .nil List.nodup_nil
theorem ves_cons {e : Expr} {es : List Expr} {xe xs : Ex} (he : VE X c e xe) (hs : VEs X c es xs) (hn : notStar e = true) : VEs X c (e :: es) (.cons xe xs) where
  val := fun pv m => PA.imp (pa_cons (he.tk (pv := pv) m) (hs.val pv m) (starEach_cons hn)) fun s H Q q => by
    obtain ⟨O, Z, r, fp, ds, r', h, e, q⟩ := q
    simp only [evs] at e
    obtain ⟨⟨d, r1⟩, e1, e⟩ := bind_ok_iff.mp e
    obtain ⟨⟨ds1, r2⟩, e2, e⟩ := bind_ok_iff.mp e
    cases e
    refine ⟨O, Z, r, fp, d, r1, h, e1, fun x H1 O1 fp1 tf h1 x1 w1 n1 => ⟨O1, ZT Z tf, r1, fp1, ds1, _, h1, e2, fun ys H2 O2 fp2 tfs h2 x2 w2 n2 => ?_⟩⟩
    refine q (x :: ys) H2 O2 fp2 (tf :: tfs) ?_ ?_ (.cons (held_repO h1 x2 w1) w2) ?_
    · rw [List.flatten_cons, ← ZT.app]
      exact h2
    · rw [List.flatten_cons]
      exact (x1.held x2).weak fun e => by revert e; simp only [pureX]; cases pureX c.G xe <;> cases pureX c.G xs <;> simp
    · rw [List.flatten_cons]
      exact held_nodup h1 x2 n1 n2
theorem trip0 {K : PySem.W.Frag} {H : Hp} {O : Addr → Prop} : ∀ {ds : List D} {xs : List V} {tfs : List (List Addr)}, Trip (RepO K H O 0) ds xs tfs → Paired (RepF K H fun a => ¬ O a) ds xs ∧ tfs.flatten = []
  | _, _, _, .nil => ⟨.nil, rfl⟩
  | _, _, _, .cons h t => by
    obtain ⟨h1, h2⟩ := trip0 t
    refine ⟨.cons h.1 h1, ?_⟩
    rw [List.flatten_cons, h2, h.2]
    rfl
theorem ve_tup {es : List Expr} {x : Ex} {k : Nat} {pos : Pos} (hs : VEs X c es x) : VE X c (.Tuple es k pos) (.tup x) where
  val := fun pv => PE.imp (pe_tupN (hs.val pv 0)) fun s H Q q => by
    obtain ⟨O, Z, r, fp, v, r', h, e, q⟩ := q
    simp only [ev] at e
    obtain ⟨⟨ds, r1⟩, e1, e⟩ := bind_ok_iff.mp e
    dsimp only at e
    split at e
    · rename_i hl
      cases e
      rw [lim_eq] at hl
      refine ⟨O, Z, r, fp, ds, _, h, e1, fun xs H1 O1 fp1 tfs h1 x1 w1 n1 => ?_⟩
      obtain ⟨w2, e2⟩ := trip0 w1
      rw [e2, ZT.nil] at h1
      rw [e2, MoT.nil] at x1
      refine ⟨by rw [← plen w2]; exact hl, fun p o ho hp => ?_⟩
      exact made_end q h1 x1 (fun e => by simpa only [pureX] using e) (Made.tup ho hp w2)
    · cases e
  var := fun i e => by cases e
theorem ve_lst {es : List Expr} {x : Ex} {n : Nat} {pos : Pos} (hs : VEs X c es x) : VE X c (.List es pos) (.lst n x) where
  val := fun pv => PE.imp (pe_lst (hs.val pv (n - 1))) fun s H Q q => by
    obtain ⟨O, Z, r, fp, v, r', h, e, q⟩ := q
    simp only [ev] at e
    split at e
    · cases e
    · rename_i hn
      obtain ⟨m, rfl⟩ : ∃ m, n = m + 1 := ⟨n - 1, by omega⟩
      rw [Nat.add_sub_cancel] at e ⊢
      obtain ⟨⟨ds, r1⟩, e1, e⟩ := bind_ok_iff.mp e
      dsimp only at e
      split at e
      · rename_i hl
        cases e
        rw [lim_eq] at hl
        refine ⟨O, Z, r, fp, ds, _, h, e1, fun xs H1 O1 fp1 tfs h1 x1 w1 n1 => ?_⟩
        refine ⟨by rw [← (Trip.len w1).1]; exact hl, fun p hp => ?_⟩
        have hpt : p ∉ tfs.flatten := fun z => by
          obtain ⟨o, e⟩ := h1.ze p (.inr z)
          rw [hp] at e; cases e
        have g1 := h1.newZ (O' := fun a => O1 a ∨ a = p) (o := .lst xs) (Z' := ZT Z (p :: tfs.flatten)) hp (fun a na => ⟨fun q => q.elim id fun e => absurd e na, .inl⟩) fun a z => by
          rcases z with z | z
          · exact .inl (.inl z)
          · rcases List.mem_cons.mp z with z | z
            · exact .inr z
            · exact .inl (.inr z)
        refine q (.ref p) _ (fun a => O1 a ∨ a = p) fp1 (p :: tfs.flatten) g1 ?_ ⟨?_, List.nodup_cons.mpr ⟨hpt, n1⟩⟩
        · have x2 : Ext false H1 O1 (MoT fp1 tfs.flatten) (L2.upd H1 p (.lst xs)) (fun a => O1 a ∨ a = p) (MoT fp1 (p :: tfs.flatten)) :=
            Ext.new hp (fun a na => ⟨fun q => q.elim id fun e => absurd e na, .inl⟩) fun a z => by
              rcases z with z | z
              · exact .inl (.inl z)
              · rcases List.mem_cons.mp z with z | z
                · exact .inr z
                · exact .inl (.inr z)
          exact (x1.trans x2).weak fun e => by simpa [pureX] using e
        · unfold RepO
          refine ⟨p, xs, tfs, rfl, upd_same, .inr rfl, rfl, w1.imp fun d v f hf q => RepO.keep (Keeps.new hp fun a na q z => z.elim q na) m d v f (fun a ha vs e o => ⟨?_, .inl o⟩) q⟩
          rw [upd_ne (ne_of_none e hp)]
          exact e
      · cases e
  var := fun i e => by cases e
/-! subscripts -/
theorem atI_pair {A B : Type} {F : A → B → Prop} {l : List A} {m : List B} (h : Paired F l m) {i : Int} {a : A} (e : atI l i = some a) : ∃ b, atI m i = some b ∧ F a b := by
  unfold atI at e ⊢
  rw [← plen h]
  cases q : ixN l.length i with
  | none => rw [q] at e; cases e
  | some j =>
    rw [q] at e
    exact pat h e
theorem paired_map {A B : Type} {f : A → B} {F : A → B → Prop} (h : ∀ a, F a (f a)) : ∀ l : List A, Paired F l (l.map f)
  | [] => .nil
  | a :: l => .cons (h a) (paired_map h l)
/-- an item, as read -/
theorem ixD_ok {K : PySem.W.Frag} {H : Hp} {O : Addr → Prop} {va v : Val} {x y : V} {i : D} (hx : RdOk K H O va x) (hy : RepF K H (fun _ => True) i y) (e : ixD va i = .ok v) : rIx K x y H (fun z H' => H' = H ∧ RdOk K H O v z) := by
  obtain ⟨o, n, d⟩ := va
  unfold ixD at e
  dsimp only at e
  split at e
  · rename_i xs k
    split at e
    · rename_i w ew
      cases e
      refine .inl ?_
      have main : ∃ a vs, x = .ref a ∧ H a = some (.lst vs) ∧ Paired (fun d z => RdOk K H O ⟨o, if o then 0 else n - 1, d⟩ z) xs vs := by
        cases o with
        | true =>
          obtain ⟨a, vs, rfl, h1, _, h3⟩ := RepF.ref (show RepF K H _ (.list xs) x from hx)
          exact ⟨a, vs, rfl, h1, h3⟩
        | false =>
          cases n with
          | zero =>
            obtain ⟨a, vs, rfl, h1, _, h3⟩ := RepF.ref (show RepF K H _ (.list xs) x from hx)
            exact ⟨a, vs, rfl, h1, h3⟩
          | succ n =>
            have hx : RepB K H (fun _ => True) (fun a => ¬ O a) (n + 1) (.list xs) x := hx
            unfold RepB at hx
            obtain ⟨a, vs, rfl, h1, _, h3⟩ := hx
            exact ⟨a, vs, rfl, h1, h3⟩
      obtain ⟨a, vs, rfl, h1, h3⟩ := main
      obtain ⟨z, hz, q⟩ := atI_pair h3 ew
      exact ⟨a, vs, k, z, rfl, hy.int, .inl (.inl h1), hz, rfl, q⟩
    · cases e
  · rename_i xs k
    split at e
    · rename_i w ew
      cases e
      refine .inr (.inl ?_)
      obtain ⟨a, vs, rfl, h1, h3⟩ := (hx.flat rfl).tref
      obtain ⟨z, hz, q⟩ := atI_pair h3 ew
      exact ⟨a, vs, k, z, rfl, hy.int, h1.sq, hz, rfl, q⟩
    · cases e
  · rename_i xs k
    split at e
    · rename_i w ew
      cases e
      refine .inl ?_
      obtain ⟨a, ns, e1, rfl, h1⟩ := (hx.flat rfl).scr
      unfold scrK at e1
      injection e1 with e1 _
      injection e1 with _ e1
      injection e1 with e1
      subst e1
      have hp : Paired (RepF K H fun a => ¬ O a) (ns.map PyData.int) (ns.map V.int) := by
        clear ew h1 hx
        induction ns with
        | nil => exact .nil
        | cons n ns ih => exact .cons (.mkI n) ih
      obtain ⟨z, hz, q⟩ := atI_pair hp ew
      exact ⟨a, _, k, z, rfl, hy.int, h1.sq, hz, rfl, q⟩
    · cases e
  · cases e
theorem rIx_mono {K : PySem.W.Frag} {x y : V} {H : Hp} {Q Q' : VK} (h : rIx K x y H Q) (k : ∀ z H', Q z H' → Q' z H') : rIx K x y H Q' := by
  rcases h with ⟨p, xs, i, v, a, b, c, d, q⟩ | ⟨p, xs, i, v, a, b, c, d, q⟩ | ⟨z, i, w, a, b, c, d, q⟩
  · exact .inl ⟨p, xs, i, v, a, b, c, d, k _ _ q⟩
  · exact .inr (.inl ⟨p, xs, i, v, a, b, c, d, k _ _ q⟩)
  · exact .inr (.inr ⟨z, i, w, a, b, c, d, k _ _ q⟩)
theorem ixD_own {va v : Val} {i : D} (e : ixD va i = .ok v) : v.own = true → v.n = 0 := by
  obtain ⟨o, n, d⟩ := va
  unfold ixD at e
  dsimp only at e
  split at e
  · split at e
    · cases e
      intro h
      exact if_pos h
    · cases e
  · split at e
    · cases e
      exact fun _ => rfl
    · cases e
  · split at e
    · cases e
      exact fun _ => rfl
    · cases e
  · cases e
theorem RdOk.val {K : PySem.W.Frag} {H : Hp} {O : Addr → Prop} {v : Val} {x : V} (h : RdOk K H O v x) (hv : v.own = true → v.n = 0) : ValOk K H O v x [] := by
  obtain ⟨o, n, d⟩ := v
  cases o with
  | true =>
    have h : RepF K H (fun a => ¬ O a) d x := h
    cases (show n = 0 from hv rfl)
    exact ⟨⟨h, rfl⟩, List.nodup_nil⟩
  | false => exact ⟨h, rfl⟩
theorem ve_ix {a i : Expr} {xa xi : Ex} {pos : Pos} (ha : VE X c a xa) (hi : VE X c i xi) (hs : PlainIx i) : VE X c (.Subscript a i pos) (.ix xa xi) where
  val := fun pv => PE.imp (pe_ix ix_seq (ha.o1 (pv := pv)) (PEtR (hi.val pv)) hs) fun s H Q q => by
    obtain ⟨O, Z, r, fp, v, r', h, e, q⟩ := q
    simp only [ev] at e
    obtain ⟨⟨⟨va, vb⟩, r2⟩, e1, e⟩ := bind_ok_iff.mp e
    obtain ⟨v1, e2, e⟩ := bind_ok_iff.mp e
    cases e
    refine ops_read h (fun e => by rw [e]; rfl) ev_v e1 fun x y H' O' fp' h' x' hx hy => rIx_mono (ixD_ok hx hy.any e2) fun z H2 hz => ?_
    obtain ⟨rfl, hz⟩ := hz
    refine q z H2 O' fp' [] (by rw [ZT.nil]; exact h') ?_ (hz.val (ixD_own e2))
    rw [MoT.nil]
    exact x'.weak fun e => by simp only [pureX]; simp_all
  var := fun i e => by cases e
end
end VL
/-! VL: slices, built-in functions. -/
namespace VL
open PySem PySem.Spec PyProof.Rows L2
section
variable {X : Cx} {c : Cc}
/-! slices -/
structure VP (X : Cx) (c : Cc) (o : Option Expr) (x : Ex) : Prop where
  no : x = .nil → o = none
  so : x ≠ .nil → ∃ e, o = some e ∧ VE X c e x
def tP (K : PySem.W.Frag) (pv : Nat → Option V) (G : Str → Option Fd) (x : Ex) : TO :=
  match x with
  | .nil => tNoPart
  | x => tPart (tR K pv (!pureX G x) (ev G x))
theorem VP.po {o : Option Expr} {x : Ex} (h : VP X c o x) (pv : Nat → Option V) : PO X o (tP X.K pv c.G x) := by
  by_cases e : x = .nil
  · rw [h.no e, e]
    exact po_none
  · obtain ⟨w, rfl, hw⟩ := h.so e
    have et : tP X.K pv c.G x = tPart (tR X.K pv (!pureX c.G x) (ev c.G x)) := by cases x <;> first | rfl | exact absurd rfl e
    rw [et]
    exact po_some (PEtR (hw.val pv))
/-- a part's value -/
def evP (G : Str → Option Fd) (x : Ex) (r : Env) : R (Option Int × Env) :=
  match x with
  | .nil => .ok (none, r)
  | x => ev G x r >>= fun q => asI q.1.d >>= fun i => .ok (some i, q.2)
theorem tP_read {K : PySem.W.Frag} {pv : Nat → Option V} {G : Str → Option Fd} {x : Ex} {H : Hp} {O Z : Addr → Prop} {s : L2.St} {r r' : Env} {fp : Fp} {l : Option Int} {R : Option Int → Hp → Prop}
    (h : StOk K pv H O Z s r fp) (e : evP G x r = .ok (l, r')) (q : ∀ H' O' fp', StOk K pv H' O' Z s r' fp' → Ext (!pureX G x) H O (Mo fp) H' O' (Mo fp') → R l H') : tP K pv G x s H R := by
  by_cases ex : x = .nil
  · subst ex
    cases e
    exact q H O fp h .refl
  · have et : tP K pv G x = tPart (tR K pv (!pureX G x) (ev G x)) := by cases x <;> first | rfl | exact absurd rfl ex
    have ee : evP G x r = (ev G x r >>= fun q => asI q.1.d >>= fun i => .ok (some i, q.2)) := by cases x <;> first | rfl | exact absurd rfl ex
    rw [et]
    rw [ee] at e
    obtain ⟨⟨v, r1⟩, e1, e⟩ := bind_ok_iff.mp e
    obtain ⟨i, e2, e⟩ := bind_ok_iff.mp e
    cases e
    exact ⟨O, Z, r, fp, v, _, h, e1, fun x H' O' fp' h' x' hx => ⟨i, hx.ii e2, q H' O' fp' h' x'⟩⟩
theorem paired_cut {A B : Type} {F : A → B → Prop} {l : List A} {m : List B} (h : Paired F l m) (lo hi : Option Int) : Paired F (cutL l lo hi) (cutL m lo hi) := by
  unfold cutL
  rw [← plen h]
  exact ptake _ (pdrop _ h)
theorem slD_ok {K : PySem.W.Frag} {H : Hp} {O : Addr → Prop} {va v : Val} {x : V} {lo hi : Option Int} {Q : VK} (hx : RdOk K H O va x) (e : slD va lo hi = .ok v) (q : ∀ z H', v.own = true → Made K H O v.n v.d z H' → Q z H') : rSlL K x lo hi H Q ∨ rSlN K x lo hi H Q := by
  obtain ⟨o, n, d⟩ := va
  unfold slD at e
  dsimp only at e
  split at e
  · split at e
    · rename_i xs hz
      cases e
      obtain ⟨a, vs, rfl, g1, g2⟩ := hx.items hz
      exact .inl ⟨a, vs, rfl, .inl (.inl g1), fun p hp => q _ _ rfl (Made.lst hp (paired_cut g2 lo hi))⟩
    · cases e
  · rename_i xs
    cases e
    obtain ⟨a, vs, rfl, g1, g2⟩ := (hx.flat rfl).tref
    refine .inr ⟨a, vs, rfl, g1.sq, fun e => ?_, fun _ p o ho hp => q _ _ rfl (Made.tup ho hp (paired_cut g2 lo hi))⟩
    refine q _ _ rfl (.inl ⟨rfl, ?_, .inr rfl⟩)
    have ec : cutL xs lo hi = xs := by
      unfold cutL
      rw [plen g2, e.1, e.2]
      rw [List.drop_zero, Nat.sub_zero, ← plen g2, List.take_length]
    show RepF K H _ (.tuple (cutL xs lo hi)) _
    rw [ec]
    exact hx.flat rfl
  · cases e
theorem ve_sl {a : Expr} {lo hi : Option Expr} {xa xl xh : Ex} {pos p2 : Pos} (ha : VE X c a xa) (hl : VP X c lo xl) (hh : VP X c hi xh) : VE X c (.Subscript a (.Slice lo hi none p2) pos) (.sl xa xl xh) where
  val := fun pv => PE.imp (pe_slice (sl_list.or sl_tupN) (ha.o1 (pv := pv)) (hl.po pv) (hh.po pv)) fun s H Q q => by
    obtain ⟨O, Z, r, fp, v, r', h, e, q⟩ := q
    have e : (op1 (pureX c.G xl && pureX c.G xh) xa (ev c.G xa) r >>= fun p => evP c.G xl p.2 >>= fun l => evP c.G xh l.2 >>= fun h => res1 p.1 h.2 >>= fun v => slD v l.1 h.1 >>= fun v => .ok (v, h.2)) = .ok (v, r') := by
      simp only [ev] at e
      exact e
    -- the two parts as one operand
    have e2 : (ops (pureX c.G xl && pureX c.G xh) xa (ev c.G xa) (fun r => evP c.G xl r >>= fun l => evP c.G xh l.2 >>= fun h => .ok (⟨true, 0, .tuple [.none]⟩, h.2)) r >>= fun _ => (.ok () : R Unit)) = .ok () := by
      obtain ⟨p, e1, e⟩ := bind_ok_iff.mp e
      obtain ⟨l, e2, e⟩ := bind_ok_iff.mp e
      obtain ⟨h, e3, e⟩ := bind_ok_iff.mp e
      obtain ⟨w, e4, e⟩ := bind_ok_iff.mp e
      unfold ops
      rw [e1]
      show (((evP c.G xl p.2 >>= fun l => evP c.G xh l.2 >>= fun h => .ok ((⟨true, 0, .tuple [.none]⟩ : Val), h.2)) >>= fun q => res1 p.1 q.2 >>= fun v => .ok ((v, q.1), q.2)) >>= fun _ => (.ok () : R Unit)) = .ok ()
      rw [e2]
      show (((evP c.G xh l.2 >>= fun h => .ok ((⟨true, 0, .tuple [.none]⟩ : Val), h.2)) >>= fun q => res1 p.1 q.2 >>= fun v => .ok ((v, q.1), q.2)) >>= fun _ => (.ok () : R Unit)) = .ok ()
      rw [e3]
      show ((res1 p.1 h.2 >>= fun v => .ok ((v, (⟨true, 0, .tuple [.none]⟩ : Val)), h.2)) >>= fun _ => (.ok () : R Unit)) = .ok ()
      rw [e4]
      rfl
    obtain ⟨p, e1, e⟩ := bind_ok_iff.mp e
    obtain ⟨⟨l, r1⟩, el, e⟩ := bind_ok_iff.mp e
    obtain ⟨⟨hq, r2⟩, eh, e⟩ := bind_ok_iff.mp e
    obtain ⟨w, ew, e⟩ := bind_ok_iff.mp e
    obtain ⟨v1, es, e⟩ := bind_ok_iff.mp e
    cases e
    have fin : ∀ {x : V} {H2 : Hp} {O2 : Addr → Prop} {fp2 : Fp} {b : Bool}, StOk X.K pv H2 O2 Z s r2 fp2 → Ext b H O (Mo fp) H2 O2 (Mo fp2) → (b = true → (!pureX c.G (.sl xa xl xh)) = true) → RdOk X.K H2 O2 w x → (rSlL X.K x l hq H2 Q ∨ rSlN X.K x l hq H2 Q) := fun {x H2 O2 fp2 b} h2 x2 hb hx =>
      slD_ok hx es fun z H3 ho m => by
        obtain ⟨o, n, d⟩ := v
        cases (show o = true from ho)
        exact made_end q h2 x2 hb m
    by_cases hx : ∃ i, xa = .v i
    · obtain ⟨i, rfl⟩ := hx
      rw [opx_v] at e1
      obtain ⟨v0, e0, e1⟩ := bind_ok_iff.mp e1
      cases e1
      obtain ⟨xv, hs, _⟩ := h.rd e0
      refine ⟨xv, hs, tP_read h el fun H1 O1 fp1 h1 x1 => tP_read h1 eh fun H2 O2 fp2 h2 x2 => ?_⟩
      obtain ⟨xv', hs', hv'⟩ := h2.rd (show rd i r2 = .ok w from ew)
      rw [hs] at hs'
      cases hs'
      refine fin h2 (x1.trans x2) (fun e => ?_) ?_
      · simp only [pureX]; revert e; cases pureX c.G xl <;> cases pureX c.G xh <;> simp
      · have g := hv'.freeze
        have eO : (fun a => O2 a ∧ a ∉ ([] : List Addr)) = O2 := by
          funext a
          exact propext ⟨fun z => z.1, fun z => ⟨z, List.not_mem_nil⟩⟩
        rw [eO] at g
        exact g
    · have e1' : (ev c.G xa r >>= fun p => match isL p.1.d && !p.1.own && !(pureX c.G xl && pureX c.G xh) with
        | true => stk
        | false => .ok (.inl p.1, p.2)) = .ok p := by
        cases xa <;> first | exact e1 | exact absurd ⟨_, rfl⟩ hx
      have et : tO1 X.K pv (!pureX c.G xa) xa (ev c.G xa) = tR X.K pv (!pureX c.G xa) (ev c.G xa) := by
        cases xa <;> first | rfl | exact absurd ⟨_, rfl⟩ hx
      show tO1 X.K pv (!pureX c.G xa) xa (ev c.G xa) s H _
      rw [et]
      obtain ⟨⟨v1', r1'⟩, e4, e5⟩ := bind_ok_iff.mp e1'
      dsimp only at e5
      cases hc : isL v1'.d && !v1'.own && !(pureX c.G xl && pureX c.G xh) with
      | true => rw [hc] at e5; cases e5
      | false =>
        rw [hc] at e5
        cases e5
        cases ew
        refine ⟨O, Z, r, fp, _, r1', h, e4, fun x H1 O1 fp1 h1 x1 hx1 => tP_read h1 el fun H2 O2 fp2 h2 x2 => tP_read h2 eh fun H3 O3 fp3 h3 x3 => ?_⟩
        refine fin h3 ((x1.trans x2).trans x3) (fun e => ?_) ((x2.trans x3).rdOk h1.mok (fun eb => ?_) hx1)
        · simp only [pureX]; revert e; cases pureX c.G xa <;> cases pureX c.G xl <;> cases pureX c.G xh <;> simp
        · revert hc eb
          cases pureX c.G xl <;> cases pureX c.G xh <;> simp
          all_goals (intro h1; exact (Bool.eq_false_or_eq_true (isL w.d)).symm.imp (fun z => z) h1)
  var := fun i e => by cases e
end
end VL
/-! VL: built-in functions of one thing, of two. -/
namespace VL
open PySem PySem.Spec PyProof.Rows L2
def rB1 (K : PySem.W.Frag) (f : B1) : List V → Hp → VK → Prop := fun xs H Q => ∃ O va v x, xs = [x] ∧ RdOk K H O va x ∧ b1D f va = .ok v ∧ ∀ z H', v.own = true → Made K H O v.n v.d z H' → Q z H'
section
variable {X : Cx} {c : Cc} {K : PySem.W.Frag} {H : Hp} {O T : Addr → Prop}
theorem allInt_ok : ∀ {ds : List D} {ns : List Int} {vs : List V}, allInt ds = some ns → Paired (RepF K H T) ds vs → vs = ns.map V.int
  | [], ns, vs, e, h => by cases h; cases e; rfl
  | d :: ds, ns, vs, e, h => by
    cases h with
    | cons h1 h2 =>
      cases d <;> simp only [allInt] at e <;> first | (cases e; done) | skip
      rename_i i
      cases q : allInt ds with
      | none => rw [q] at e; cases e
      | some ms =>
        rw [q] at e
        cases e
        rw [h1.int, allInt_ok q h2]
        rfl
theorem allBl_ok : ∀ {ds : List D} {ns : List Bool} {vs : List V}, allBl ds = some ns → Paired (RepF K H T) ds vs → vs = ns.map V.bl
  | [], ns, vs, e, h => by cases h; cases e; rfl
  | d :: ds, ns, vs, e, h => by
    cases h with
    | cons h1 h2 =>
      cases d <;> simp only [allBl] at e <;> first | (cases e; done) | skip
      rename_i i
      cases q : allBl ds with
      | none => rw [q] at e; cases e
      | some ms =>
        rw [q] at e
        cases e
        rw [h1.bool, allBl_ok q h2]
        rfl
theorem listMax_ok {ns : List Int} {m : Int} (e : listMax ns = some m) : m ∈ ns ∧ ∀ y ∈ ns, y ≤ m := by
  cases ns with
  | nil => cases e
  | cons x r =>
    have e : r.foldl max x = m := Option.some.inj e
    subst e
    clear e
    induction r generalizing x with
    | nil => exact ⟨List.mem_cons_self, fun y hy => by rcases List.mem_cons.mp hy with rfl | hy; exact Int.le_refl _; cases hy⟩
    | cons z r ih =>
      obtain ⟨h1, h2⟩ := ih (max x z)
      rw [List.foldl_cons]
      have hm := h2 _ List.mem_cons_self
      refine ⟨?_, fun y hy => ?_⟩
      · rcases List.mem_cons.mp h1 with h1 | h1
        · rw [h1]
          by_cases hxz : x ≤ z
          · rw [Int.max_eq_right hxz]; exact List.mem_cons_of_mem _ List.mem_cons_self
          · rw [Int.max_eq_left (by omega)]; exact List.mem_cons_self
        · exact List.mem_cons_of_mem _ (List.mem_cons_of_mem _ h1)
      · rcases List.mem_cons.mp hy with rfl | hy
        · have := Int.le_max_left y z; omega
        · rcases List.mem_cons.mp hy with rfl | hy
          · have := Int.le_max_right x y; omega
          · exact h2 y (List.mem_cons_of_mem _ hy)
theorem listMin_ok {ns : List Int} {m : Int} (e : listMin ns = some m) : m ∈ ns ∧ ∀ y ∈ ns, m ≤ y := by
  cases ns with
  | nil => cases e
  | cons x r =>
    have e : r.foldl min x = m := Option.some.inj e
    subst e
    clear e
    induction r generalizing x with
    | nil => exact ⟨List.mem_cons_self, fun y hy => by rcases List.mem_cons.mp hy with rfl | hy; exact Int.le_refl _; cases hy⟩
    | cons z r ih =>
      obtain ⟨h1, h2⟩ := ih (min x z)
      rw [List.foldl_cons]
      have hm := h2 _ List.mem_cons_self
      refine ⟨?_, fun y hy => ?_⟩
      · rcases List.mem_cons.mp h1 with h1 | h1
        · rw [h1]
          by_cases hxz : x ≤ z
          · rw [Int.min_eq_left hxz]; exact List.mem_cons_self
          · rw [Int.min_eq_right (by omega)]; exact List.mem_cons_of_mem _ List.mem_cons_self
        · exact List.mem_cons_of_mem _ (List.mem_cons_of_mem _ h1)
      · rcases List.mem_cons.mp hy with rfl | hy
        · have := Int.min_le_left y z; omega
        · rcases List.mem_cons.mp hy with rfl | hy
          · have := Int.min_le_right x y; omega
          · exact h2 y (List.mem_cons_of_mem _ hy)
theorem cl_len : CallR X (.builtin "len") (rB1 X.K .len) := by
  refine CallR.imp (call_len_seq.or call_len_str) fun xs H Q h => ?_
  obtain ⟨O, ⟨o, n, d⟩, v, x, rfl, hx, e, q⟩ := h
  have hy := hx.any
  dsimp only at hy
  simp only [b1D] at e
  split at e
  · rename_i ds _
    cases e
    obtain ⟨a, vs, rfl, h1, _, h3⟩ := hy.ref
    refine .inl ⟨a, vs, rfl, .inl (.inl (.inl h1)), ?_⟩
    rw [← plen h3]
    exact q _ _ rfl (Made.int _)
  · rename_i ds _
    cases e
    obtain ⟨a, vs, rfl, h1, h3⟩ := hy.tref
    refine .inl ⟨a, vs, rfl, .inr h1.sq, ?_⟩
    rw [← plen h3]
    exact q _ _ rfl (Made.int _)
  · split at e
    · rename_i hz
      cases e
      rw [lim_eq] at hz
      exact .inr ⟨_, by rw [hy.str], hz, q _ _ rfl (Made.int _)⟩
    · cases e
  · rename_i ds _
    cases e
    obtain ⟨a, ns, e1, rfl, h1⟩ := hy.scr
    unfold scrK at e1
    injection e1 with e1 _
    injection e1 with _ e1
    injection e1 with e1
    subst e1
    refine .inl ⟨a, _, rfl, .inl h1.sq, ?_⟩
    have el : (ns.map V.int).length = (ns.map PyData.int).length := by rw [List.length_map, List.length_map]
    rw [el]
    exact q _ _ rfl (Made.int _)
  · cases e
theorem cl_list : CallR X (.type "list") (rB1 X.K .list) := by
  refine CallR.imp call_list_of fun xs H Q h => ?_
  obtain ⟨O, ⟨o, n, d⟩, v, x, rfl, hx, e, q⟩ := h
  simp only [b1D] at e
  split at e
  · split at e
    · rename_i ds hz
      cases e
      obtain ⟨a, vs, rfl, g1, g2⟩ := hx.items hz
      exact ⟨a, vs, rfl, .inl (.inl (.inl g1)), fun p hp => q _ _ rfl (Made.lst hp g2)⟩
    · cases e
  · cases e
    obtain ⟨a, vs, rfl, g1, g2⟩ := (hx.flat rfl).tref
    exact ⟨a, vs, rfl, .inr g1.sq, fun p hp => q _ _ rfl (Made.lst hp g2)⟩
  · cases e
theorem cl_tuple : CallR X (.type "tuple") (rB1 X.K .tuple) := by
  refine CallR.imp call_tupleN fun xs H Q h => ?_
  obtain ⟨O, ⟨o, n, d⟩, v, x, rfl, hx, e, q⟩ := h
  simp only [b1D] at e
  split at e
  · split at e
    · rename_i ds hz
      cases e
      obtain ⟨a, vs, rfl, g1, g2⟩ := hx.items hz
      exact ⟨a, vs, rfl, .inl ⟨.inl (.inl g1), fun p o ho hp => q _ _ rfl (Made.tup ho hp g2)⟩⟩
    · cases e
  · cases e
    obtain ⟨a, vs, rfl, g1, g2⟩ := (hx.flat rfl).tref
    exact ⟨a, vs, rfl, .inr ⟨g1.sq, q _ _ rfl (.inl ⟨rfl, hx.flat rfl, .inr rfl⟩)⟩⟩
  · cases e
theorem cl_sum (hc : X.calm = true) : CallR X (.builtin "sum") (rB1 X.K .sum) := by
  refine CallR.imp (cr_sum hc) fun xs H Q h => ?_
  obtain ⟨O, ⟨o, n, d⟩, v, x, rfl, hx, e, q⟩ := h
  have hy := hx.any
  dsimp only at hy
  simp only [b1D] at e
  split at e
  · split at e
    · rename_i ds _ ns en
      cases e
      obtain ⟨a, vs, rfl, h1, _, h3⟩ := hy.ref
      have ev := allInt_ok en h3
      subst ev
      exact ⟨a, ns, rfl, .inl (.inl h1), q _ _ rfl (Made.int _)⟩
    · cases e
  · cases e
theorem cl_max (hc : X.calm = true) : CallR X (.builtin "max") (rB1 X.K .max) := by
  refine CallR.imp (cr_max hc) fun xs H Q h => ?_
  obtain ⟨O, ⟨o, n, d⟩, v, x, rfl, hx, e, q⟩ := h
  have hy := hx.any
  dsimp only at hy
  simp only [b1D] at e
  split at e
  · split at e
    · split at e
      · rename_i ds _ ns en _ m em
        cases e
        obtain ⟨a, vs, rfl, h1, _, h3⟩ := hy.ref
        have ev := allInt_ok en h3
        subst ev
        obtain ⟨m1, m2⟩ := listMax_ok em
        refine ⟨a, ns, rfl, .inl (.inl h1), List.length_pos_of_mem m1, fun k k1 k2 => ?_⟩
        have ek : k = m := Int.le_antisymm (m2 k k1) (k2 m m1)
        rw [ek]
        exact q _ _ rfl (Made.int _)
      · cases e
    · cases e
  · cases e
theorem cl_min (hc : X.calm = true) : CallR X (.builtin "min") (rB1 X.K .min) := by
  refine CallR.imp (cr_min hc) fun xs H Q h => ?_
  obtain ⟨O, ⟨o, n, d⟩, v, x, rfl, hx, e, q⟩ := h
  have hy := hx.any
  dsimp only at hy
  simp only [b1D] at e
  split at e
  · split at e
    · split at e
      · rename_i ds _ ns en _ m em
        cases e
        obtain ⟨a, vs, rfl, h1, _, h3⟩ := hy.ref
        have ev := allInt_ok en h3
        subst ev
        obtain ⟨m1, m2⟩ := listMin_ok em
        refine ⟨a, ns, rfl, .inl (.inl h1), List.length_pos_of_mem m1, fun k k1 k2 => ?_⟩
        have ek : k = m := Int.le_antisymm (k2 m m1) (m2 k k1)
        rw [ek]
        exact q _ _ rfl (Made.int _)
      · cases e
    · cases e
  · cases e
theorem cl_any (hc : X.calm = true) : CallR X (.builtin "any") (rB1 X.K .any) := by
  refine CallR.imp (cr_any hc) fun xs H Q h => ?_
  obtain ⟨O, ⟨o, n, d⟩, v, x, rfl, hx, e, q⟩ := h
  have hy := hx.any
  dsimp only at hy
  simp only [b1D] at e
  split at e
  · split at e
    · rename_i ds _ ns en
      cases e
      obtain ⟨a, vs, rfl, h1, _, h3⟩ := hy.ref
      have ev := allBl_ok en h3
      subst ev
      exact ⟨a, ns, rfl, .inl (.inl h1), q _ _ rfl (Made.bool _)⟩
    · cases e
  · cases e
theorem cl_all (hc : X.calm = true) : CallR X (.builtin "all") (rB1 X.K .all) := by
  refine CallR.imp (cr_all hc) fun xs H Q h => ?_
  obtain ⟨O, ⟨o, n, d⟩, v, x, rfl, hx, e, q⟩ := h
  have hy := hx.any
  dsimp only at hy
  simp only [b1D] at e
  split at e
  · split at e
    · rename_i ds _ ns en
      cases e
      obtain ⟨a, vs, rfl, h1, _, h3⟩ := hy.ref
      have ev := allBl_ok en h3
      subst ev
      exact ⟨a, ns, rfl, .inl (.inl h1), q _ _ rfl (Made.bool _)⟩
    · cases e
  · cases e
theorem cl_int : CallR X (.type "int") (rB1 X.K .int) := by
  refine CallR.imp call_int1 fun xs H Q h => ?_
  obtain ⟨O, ⟨o, n, d⟩, v, x, rfl, hx, e, q⟩ := h
  have hy := hx.any
  dsimp only at hy
  simp only [b1D] at e
  split at e
  · cases e
    exact .inl ⟨_, by rw [hy.int], q _ _ rfl (Made.int _)⟩
  · cases e
    exact .inr ⟨_, by rw [hy.bool], q _ _ rfl (Made.int _)⟩
  · cases e
theorem cl_abs : CallR X (.builtin "abs") (rB1 X.K .abs) := by
  refine CallR.imp call_abs fun xs H Q h => ?_
  obtain ⟨O, ⟨o, n, d⟩, v, x, rfl, hx, e, q⟩ := h
  have hy := hx.any
  dsimp only at hy
  simp only [b1D] at e
  split at e
  · cases e
    exact ⟨_, by rw [hy.int], q _ _ rfl (Made.int _)⟩
  · cases e
theorem cl_repr : CallR X (.builtin "repr") (rB1 X.K .repr) := by
  refine CallR.imp SkE.call_repr_int fun xs H Q h => ?_
  obtain ⟨O, ⟨o, n, d⟩, v, x, rfl, hx, e, q⟩ := h
  have hy := hx.any
  dsimp only at hy
  simp only [b1D] at e
  split at e
  · split at e
    · rename_i hz
      cases e
      exact ⟨_, by rw [hy.int], hz, q _ _ rfl (Made.str _)⟩
    · cases e
  · cases e
theorem cl_str : CallR X (.type "str") (rB1 X.K .str) := by
  refine CallR.imp call_str_int fun xs H Q h => ?_
  obtain ⟨O, ⟨o, n, d⟩, v, x, rfl, hx, e, q⟩ := h
  have hy := hx.any
  dsimp only at hy
  simp only [b1D] at e
  split at e
  · split at e
    · rename_i hz
      cases e
      exact ⟨_, by rw [hy.int], hz, q _ _ rfl (Made.str _)⟩
    · cases e
  · cases e
theorem each_pair : ∀ {A B C : Type} {R : A → B → Prop} {S : B → C → Prop} {as : List A} {bs : List B} {cs : List C}, Paired R as bs → Paired S bs cs → W.EachIs (fun c (p : B × A) => S p.1 c ∧ R p.2 p.1) cs (bs.zip as)
  | _, _, _, _, _, _, _, _, .nil, .nil => .nil
  | _, _, _, _, _, _, _, _, .cons a r, .cons b t => .cons ⟨b, a⟩ (each_pair r t)
theorem each_back {A B C : Type} {R : A → B → Prop} {S : B → C → Prop} : ∀ {cs : List C} {ps : List (B × A)}, W.EachIs (fun c (p : B × A) => S p.1 c ∧ R p.2 p.1) cs ps → Paired R (ps.map (·.2)) (ps.map (·.1)) ∧ Paired S (ps.map (·.1)) cs
  | _, _, .nil => ⟨.nil, .nil⟩
  | _, _, .cons h t => ⟨.cons h.2 (each_back t).1, .cons h.1 (each_back t).2⟩
theorem each_mem {A B : Type} {R : A → B → Prop} : ∀ {as : List A} {bs : List B}, W.EachIs R as bs → W.EachIs (fun a b => R a b ∧ b ∈ bs) as bs := fun h => W.each_mem h
theorem zip_snd {A B : Type} : ∀ {as : List A} {bs : List B}, as.length = bs.length → (bs.zip as).map (·.2) = as
  | [], [], _ => rfl
  | a :: as, b :: bs, e => by
    rw [List.zip_cons_cons, List.map_cons, zip_snd (by simpa using e)]
theorem sortable_ok {ds : List D} (h : sortable ds = true) : W.AllAlike ds ∧ W.Sortable ds ∧ ∀ d ∈ ds, okD d = true := by
  unfold sortable at h
  simp only [Bool.and_eq_true, List.all_eq_true, Bool.or_eq_true] at h
  obtain ⟨⟨h1, h2⟩, h3⟩ := h
  refine ⟨h1, ?_, h2⟩
  rcases h3 with h3 | h3
  · refine .inl fun d hd => ?_
    have q := h3 d hd
    split at q
    · exact ⟨_, _, rfl⟩
    · cases q
  · refine .inr fun d hd => ?_
    have q := h3 d hd
    split at q
    · cases q
    · cases q
    · rename_i a1 a2
      exact ⟨fun e => a1 e, fun xs e => a2 xs e⟩
theorem paired_vals {ds : List D} {vs : List V} {us : List Value} (h : Paired (RepF K H T) ds vs) (r : Vals vs us) : True := trivial
theorem cl_sorted (hu : X.A.units + 200 < cLine) : CallR X (.builtin "sorted") (rB1 X.K .sorted) := by
  intro pins s σ H vs us Q I r h
  obtain ⟨O, ⟨o, n, d⟩, v, x, rfl, hx, e, q⟩ := h
  obtain ⟨u, rfl, ru⟩ := vals1 r
  simp only [b1D] at e
  split at e
  · split at e
    · rename_i ds hz
      cases e
      rw [Bool.and_eq_true] at hz
      obtain ⟨a, ws, rfl, g1, g2⟩ := hx.items hz.1
      cases ru
      obtain ⟨its, rv, hl, hlen⟩ := I.list (.inl (.inl g1))
      obtain ⟨al, so, ok⟩ := sortable_ok hz.2
      have ep := each_pair g2 rv
      have em : (ws.zip ds).map (fun p : V × D => p.2) = ds := zip_snd (plen g2)
      have er : W.EachIs (fun v (p : V × D) => ∃ as, Reads s.heap v p.2 as) its (ws.zip ds) := (each_mem ep).mono fun u p ⟨⟨h1, h2⟩, hm⟩ =>
        Dp.reads I p.2 p.1 u (RepF.dp p.2 p.1 (okD_iff.mp (ok _ (List.of_mem_zip hm).2)).1 h2) h1
      refine W.sorted_data (enc := fun p : V × D => p.2) hl.isList ep er (by rw [em]; exact al) (by rw [em]; exact so) ?_ ?_ fun out ho eo => ?_
      · rw [List.length_zip, plen g2, Nat.min_self]; exact hlen
      · intro p hp
        have := (okD_iff.mp (ok _ (List.of_mem_zip hp).2)).2
        omega
      · obtain ⟨b1, b2⟩ := each_back eo
        obtain ⟨ep2, he'⟩ := PyProof.Rows.sortedAll_at s.heap its out.toArray
        have e3 : (((ws.zip ds).mergeSort (W.dataLe false fun p : V × D => p.2)).map (·.2)) = sortD false ds := by
          have q := W.sort_maps (r := W.dataLe false fun p : V × D => p.2) (s := W.dataLe false id) (fun p : V × D => p.2) (l := ws.zip ds) (fun _ _ _ _ => rfl)
          rw [em] at q
          exact q
        rw [e3] at b1
        have fr : H (s.heap.objs.size + 1) = none := I.hok.fresh (Nat.le_succ _)
        refine ⟨.ref _, L2.upd H (s.heap.objs.size + 1) (.lst (((ws.zip ds).mergeSort (W.dataLe false fun p : V × D => p.2)).map (·.1))), I.laid (t' := s.toks) (fun _ _ => PyProof.Rows.sortedAll_old) (Nat.le_succ _) ⟨?_, out, ep2, b2, he'⟩, rfl, q _ _ rfl (Made.lst fr b1)⟩
        rw [b2.length, ho, List.length_zip, plen g2, Nat.min_self]
        exact hlen
    · cases e
  · cases e
end
end VL
/-! VL: calls of built-in functions and types, isinstance, index and count. -/
namespace VL
open PySem PySem.Spec PyProof.Rows L2
def b1N : B1 → Str
  | .len => "len" | .list => "list" | .tuple => "tuple" | .sorted => "sorted" | .sum => "sum" | .max => "max" | .min => "min" | .any => "any" | .all => "all"
  | .int => "int" | .abs => "abs" | .repr => "repr" | .str => "str" | .rsorted => "" | .dsort => "" | .dlen => "" | .rev => "" | .trev => ""
def glN (sc : Scope) (x : Str) : Bool := match sc.names.lookup x with | some .globalImplicit => true | _ => false
theorem XOk.gl {X : Cx} {c : Cc} (hX : XOk X c) {x : Str} (h : glN c.sc x = true) : Gl X x := by
  unfold glN at h
  unfold Gl Env.kindOf
  rw [hX.sc]
  split at h
  · assumption
  · cases h
section
variable {X : Cx} {c : Cc}
theorem ve_b1 (hX : XOk X c) {f : B1} {a : Expr} {xa : Ex} {p pos : Pos} (hf : (match f with | .rsorted => false | .dsort => false | .dlen => false | .rev => false | .trev => false | _ => true) = true) (hg : glN c.sc (b1N f) = true) (ha : VE X c a xa) (hn : notStar a = true) :
    VE X c (.Call (.Name (b1N f) p) [a] [] pos) (.b1 f xa) where
  val := fun pv => by
    have hg := hX.gl hg
    have hr : ∀ x ∈ frees, X.mg x = none := hX.free
    have pa := pa_cons (PEtR (ha.val pv)) pa_nil (starEach_cons (es := []) (env := X.env) hn)
    have h : PE X (.Call (.Name (b1N f) p) [a] [] pos) (tCB (rB1 X.K f) (tCons (tR X.K pv (!pureX c.G xa) (ev c.G xa)) tNil)) := by
      cases f <;> first | (cases hf; done) | skip
      · exact pe_callB cl_len hg (hr _ (by decide)) boot_len pa (he := starEach_cons hn)
      · exact pe_callTy cl_list hg (hr _ (by decide)) boot_list pa (he := starEach_cons hn)
      · exact pe_callTy cl_tuple hg (hr _ (by decide)) boot_tuple pa (he := starEach_cons hn)
      · exact pe_callB (cl_sorted hX.hu) hg (hr _ (by decide)) boot_sorted pa (he := starEach_cons hn)
      · exact pe_callB (cl_sum hX.calm) hg (hr _ (by decide)) boot_sum pa (he := starEach_cons hn)
      · exact pe_callB (cl_max hX.calm) hg (hr _ (by decide)) boot_max pa (he := starEach_cons hn)
      · exact pe_callB (cl_min hX.calm) hg (hr _ (by decide)) boot_min pa (he := starEach_cons hn)
      · exact pe_callB (cl_any hX.calm) hg (hr _ (by decide)) boot_any pa (he := starEach_cons hn)
      · exact pe_callB (cl_all hX.calm) hg (hr _ (by decide)) boot_all pa (he := starEach_cons hn)
      · exact pe_callTy cl_int hg (hr _ (by decide)) boot_int pa (he := starEach_cons hn)
      · exact pe_callB cl_abs hg (hr _ (by decide)) boot_abs pa (he := starEach_cons hn)
      · exact pe_callB cl_repr hg (hr _ (by decide)) boot_repr pa (he := starEach_cons hn)
      · exact pe_callTy cl_str hg (hr _ (by decide)) boot_str pa (he := starEach_cons hn)
    refine PE.imp h fun s H Q q => ?_
    obtain ⟨O, Z, r, fp, v, r', h, e, q⟩ := q
    simp only [ev] at e
    obtain ⟨⟨va, r2⟩, e1, e⟩ := bind_ok_iff.mp e
    obtain ⟨d, e2, e⟩ := bind_ok_iff.mp e
    cases e
    refine ⟨O, Z, r, fp, va, r2, h, e1, fun x H' O' fp' h' x' hx => ⟨O', va, v, x, rfl, hx, e2, fun z H2 ho m => ?_⟩⟩
    obtain ⟨o, n, d⟩ := v
    cases (show o = true from ho)
    exact made_end q h' x' (fun e => by simpa only [pureX] using e) m
  var := fun i e => by cases e
def b2N : B2 → Str
  | .max => "max" | .min => "min"
def rB2 (f : B2) : List V → Hp → VK → Prop := fun xs H Q => ∃ i j, xs = [.int i, .int j] ∧ ∀ k, b2D f (.int i) (.int j) = .ok (.int k) → Q (.int k) H
theorem b2_ok {f : B2} {a b d : D} (e : b2D f a b = .ok d) : ∃ i j k, a = .int i ∧ b = .int j ∧ d = .int k := by
  cases f <;> (cases a <;> cases b <;> simp only [b2D] at e <;> first | (cases e; done) | (injection e with e; subst e; exact ⟨_, _, _, rfl, rfl, rfl⟩))
theorem ve_b2 (hX : XOk X c) {f : B2} {a b : Expr} {xa xb : Ex} {p pos : Pos} (hg : glN c.sc (b2N f) = true) (ha : VE X c a xa) (hb : VE X c b xb) (hn : notStar a = true) (hm : notStar b = true) :
    VE X c (.Call (.Name (b2N f) p) [a, b] [] pos) (.b2 f xa xb) where
  val := fun pv => by
    have hg := hX.gl hg
    have hr : ∀ x ∈ frees, X.mg x = none := hX.free
    have pa := pa_cons (PEtR (ha.val pv)) (pa_cons (PEtR (hb.val pv)) pa_nil (starEach_cons (es := []) (env := X.env) hm)) (starEach_cons (es := [b]) (env := X.env) hn)
    have h : PE X (.Call (.Name (b2N f) p) [a, b] [] pos) (tCB (rB2 f) (tCons (tR X.K pv (!pureX c.G xa) (ev c.G xa)) (tCons (tR X.K pv (!pureX c.G xb) (ev c.G xb)) tNil))) := by
      have hp : (backTo pos (starEach [b] X.env)).any (·.1) = false := by rw [starEach_cons hm]; rfl
      cases f
      · exact pe_callB (CallR.imp (call_max2 hX.calm) fun xs H Q ⟨i, j, e, q⟩ => ⟨i, j, e, q _ rfl⟩) hg (hr _ (by decide)) boot_max pa (he := starEach_cons hn) (hpl := hp)
      · exact pe_callB (CallR.imp (call_min2 hX.calm) fun xs H Q ⟨i, j, e, q⟩ => ⟨i, j, e, q _ rfl⟩) hg (hr _ (by decide)) boot_min pa (he := starEach_cons hn) (hpl := hp)
    refine PE.imp h fun s H Q q => ?_
    obtain ⟨O, Z, r, fp, v, r', h, e, q⟩ := q
    simp only [ev] at e
    obtain ⟨⟨va, r1⟩, e1, e⟩ := bind_ok_iff.mp e
    obtain ⟨⟨vb, r2⟩, e2, e⟩ := bind_ok_iff.mp e
    obtain ⟨d, e3, e⟩ := bind_ok_iff.mp e
    cases e
    refine ⟨O, Z, r, fp, va, r1, h, e1, fun x H' O' fp' h' x' hx => ⟨O', Z, r1, fp', vb, _, h', e2, fun y H2 O2 fp2 h2 x2 hy => ?_⟩⟩
    obtain ⟨i, j, k, ea, eb, ed⟩ := b2_ok e3
    have hx := hx.any
    have hy := hy.any
    rw [ea] at hx e3
    rw [eb] at hy e3
    subst ed
    refine ⟨i, j, by rw [hx.int, hy.int], fun k' ek => ?_⟩
    rw [e3] at ek
    cases ek
    exact made_end q h2 (x'.trans x2) (fun e => by simp only [pureX]; simp_all) (Made.int _)
  var := fun i e => by cases e
def tyN : Ty → String
  | .int => "int" | .str => "str" | .bool => "bool" | .list => "list" | .tuple => "tuple"
def tyS : Ty → Str
  | .int => "int" | .str => "str" | .bool => "bool" | .list => "list" | .tuple => "tuple"
theorem isT_ok {K : PySem.W.Frag} {H : Hp} {T : Addr → Prop} {d : D} {x : V} {t : Ty} {k : Bool} (h : RepF K H T d x) (e : isT t d = .ok k) : ∃ u : Value, TyX K H x u ∧ PySem.W.kitOne K u (.type (tyN t)) = some k := by
  cases d <;> unfold isT at e <;> dsimp only at e <;> first | (cases e; done) | (injection e with e; subst e)
  · rw [h.none]; exact ⟨_, .base .non, by cases t <;> exact kit_ty (by simp only [isTb]; decide +kernel)⟩
  · rename_i b; rw [h.bool]; exact ⟨_, .base (.bl _), by cases t <;> exact kit_ty (by simp only [isTb]; decide +kernel)⟩
  · rw [h.int]; exact ⟨_, .base (.int _), by cases t <;> exact kit_ty (by simp only [isTb]; decide +kernel)⟩
  · rw [h.str]; exact ⟨_, .base (.str _), by cases t <;> exact kit_ty (by simp only [isTb]; decide +kernel)⟩
  · obtain ⟨a, vs, rfl, h1, _⟩ := h.ref
    exact ⟨_, .base (.lst h1), by cases t <;> exact kit_ty (by simp only [isTb]; decide +kernel)⟩
  · obtain ⟨a, vs, rfl, h1, _⟩ := h.tref
    rcases h1 with ⟨o, h1, _⟩ | ⟨o, its, n, h1, h2, _⟩
    · exact ⟨_, .fTuple h1, by cases t <;> exact kit_ty (by simp only [isTb]; decide +kernel)⟩
    · exact ⟨_, .kTuple h1 h2, by cases t <;> exact kit_ty (by simp only [isTb]; decide +kernel)⟩
theorem ve_isi (hX : XOk X c) {a : Expr} {xa : Ex} {t : Ty} {p p2 pos : Pos} (hg : glN c.sc "isinstance" = true) (hg2 : glN c.sc (tyS t) = true) (ha : VE X c a xa) (hn : notStar a = true) :
    VE X c (.Call (.Name "isinstance" p) [a, .Name (tyS t) p2] [] pos) (.isi xa t) where
  val := fun pv => by
    have hr : ∀ x ∈ frees, X.mg x = none := hX.free
    have pb : PE X (.Name (tyS t) p2) (tC (.ty (tyN t))) := by
      have hg2 := hX.gl hg2
      cases t
      · exact pe_bltn hg2 (hr _ (by decide)) boot_int rfl
      · exact pe_bltn hg2 (hr _ (by decide)) boot_str rfl
      · exact pe_bltn hg2 (hr _ (by decide)) boot_bool rfl
      · exact pe_bltn hg2 (hr _ (by decide)) boot_list rfl
      · exact pe_bltn hg2 (hr _ (by decide)) boot_tuple rfl
    have pa := pa_cons (PEtR (ha.val pv)) (pa_cons pb pa_nil (starEach_cons (es := []) (env := X.env) rfl)) (starEach_cons (es := [.Name (tyS t) p2]) (env := X.env) hn)
    have h := pe_callB (pos := pos) (p := p) call_isi (hX.gl hg) (hr _ (by decide)) boot_isinstance pa (he := starEach_cons hn)
    refine PE.imp h fun s H Q q => ?_
    obtain ⟨O, Z, r, fp, v, r', h, e, q⟩ := q
    simp only [ev] at e
    obtain ⟨⟨va, r1⟩, e1, e⟩ := bind_ok_iff.mp e
    obtain ⟨k, e3, e⟩ := bind_ok_iff.mp e
    cases e
    refine ⟨O, Z, r, fp, va, _, h, e1, fun x H' O' fp' h' x' hx => ?_⟩
    obtain ⟨u, t1, t2⟩ := isT_ok hx.any e3
    exact ⟨x, .ty (tyN t), u, _, k, rfl, .ty _, t1, t2, made_end q h' x' (fun e => by simpa only [pureX] using e) (Made.bool _)⟩
  var := fun i e => by cases e
end
end VL
/-! VL: c.index(x), c.count(x). -/
namespace VL
open PySem PySem.Spec PyProof.Rows L2
def m1N : M1 → Str
  | .index => "index" | .count => "count"
def m1I : M1 → Bool → String
  | .index, true => "list.index" | .index, false => "tuple.index" | .count, true => "list.count" | .count, false => "tuple.count"
def sqN : Bool → String
  | true => "list" | false => "tuple"
/-- x is a list, a tuple -/
def SqV (K : PySem.W.Frag) (H : Hp) (x : V) : Bool → Prop
  | true => ∃ p xs, x = .ref p ∧ H p = some (.lst xs)
  | false => ∃ p xs, x = .ref p ∧ TupAt K H p xs
section
variable {X : Cx} {c : Cc} {pins : List (Addr × Obj)} {σ : L2.St} {H : Hp} {s : Shared}
theorem TupAt.obj (I : Inv X pins σ H s) {p : Addr} {xs : List V} (h : TupAt X.K H p xs) : ∃ o, s.heap.get? p = some o ∧ o.cls = .type "tuple" ∧ o.dict = none := by
  rcases h with ⟨o, h, e⟩ | ⟨o, its, n, h1, h2, h3, _⟩
  · obtain ⟨h1, _, _, _, o', h2, h3, _⟩ := (show ObjOk X.prog X.w H s.heap p (.frz o (.tup xs)) from I.hok p _ h)
    rw [h1] at h2
    cases h2
    exact ⟨o, h1, h3, e⟩
  · exact ⟨o, I.kIn p o h1, h2, h3⟩
theorem SqV.ty (I : Inv X pins σ H s) {x : V} {v : Value} (r : RelV x v) : ∀ {b : Bool}, SqV X.K H x b → s.TypeIs v (sqN b) ∧ ∀ a, v = .ref a → ∃ ob, s.heap.get? a = some ob ∧ ob.dict = none
  | true, ⟨p, xs, e, h⟩ => by
    subst e
    cases r
    obtain ⟨its, _, pl, _⟩ := I.list (.inl (.inl h))
    refine ⟨pl.isList.typeIs, fun a e => ?_⟩
    cases e
    obtain ⟨o, n, e, c, hd, _⟩ := pl
    exact ⟨o, e, hd⟩
  | false, ⟨p, xs, e, h⟩ => by
    subst e
    cases r
    obtain ⟨o, h1, h2, h3⟩ := h.obj I
    refine ⟨⟨o, h1, h2⟩, fun a e => ?_⟩
    cases e
    exact ⟨o, h1, h3⟩
def tM1 (K : PySem.W.Frag) (r : Bool → V → V → Hp → VK → Prop) (ta : TE) (t : TA) : TE := fun σ H Q => ta σ H fun x H1 => ∃ b, SqV K H1 x b ∧ t σ H1 fun ys H2 => ∃ y, ys = [y] ∧ r b x y H2 Q
theorem slot_m1 : ∀ (f : M1) (b : Bool), Slot (sqN b) (m1N f) (m1I f b)
  | .index, true => PySem.F.slot_list_index
  | .index, false => PySem.F.slot_tuple_index
  | .count, true => PySem.F.slot_list_count
  | .count, false => PySem.F.slot_tuple_count
theorem pa_m1 : ∀ b, PlainAttrs (sqN b)
  | true => PySem.F.plainAttrs_list
  | false => PySem.F.plainAttrs_tuple
theorem ty_m1 (f : M1) (b : Bool) : typeOf (.builtin (m1I f b)) = pure (.type "method_descriptor") := by cases f <;> cases b <;> rfl
theorem pe_m1 {f : M1} {r : Bool → V → V → Hp → VK → Prop} {o e : Expr} {to : TE} {t : TA} {apos cpos : Pos}
    (hm : ∀ b (pins : List (Addr × Obj)) (s : Shared) (σ : L2.St) (H : Hp) (x y : V) (v u : Value) (Q : VK), Inv X pins σ H s → RelV x v → RelV y u → r b x y H Q → wpAny (model X.prog X.w) X.A (call (.builtin (m1I f b)) [v, u]) (EP X pins σ Q) X.xe s)
    (ho : PE X o to) (ha : PA X [e] t) (hn : notStar e = true) (hbase : attributeBase o (m1N f) X.env (eval o X.env) = eval o X.env) (hline : (apos.endLine == cpos.line) = true) : PE X (.Call (.Attribute o (m1N f) apos) [e] [] cpos) (tM1 X.K r to t) := by
  have hst : starEach [e] X.env = [(false, eval e X.env)] := starEach_cons (es := []) hn
  refine ⟨fun pins s σ H Q I h => ?_⟩
  refine wpAny_Call_method1_late hbase hline (by rw [hst]; rfl) (thn (ho.run pins s σ H _ I h) fun v s1 ⟨x, H1, I1, r1, b, ty, q1⟩ => ?_)
  obtain ⟨h1, h2⟩ := ty.ty I1 r1
  refine ⟨sqN b, m1I f b, pa_m1 b, slot_m1 f b, ty_m1 f b, h1, h2, ?_⟩
  have hA := ha.run cpos pins s1 σ H1 _ I1 q1
  rw [hst] at hA
  refine Calls.callWith_builtin rfl (Calls.evalArgs_plain ?_)
  refine thn hA fun us s2 ⟨vs, H2, I2, r2, y, ey, q2⟩ => ?_
  subst ey
  obtain ⟨u, rfl, ru⟩ := vals1 r2
  exact hm b pins s2 σ H2 x y v u Q I2 r1 ru q2
theorem idx_true {A : Type} {p : A → Bool} : ∀ {ys : List A} {k : Nat}, ys.findIdx? p = some k → (ys.map p).idxOf true = k ∧ true ∈ ys.map p
  | [], k, h => by simp at h
  | y :: ys, k, h => by
    rw [List.findIdx?_cons] at h
    cases e : p y with
    | true =>
      rw [e] at h
      simp only [if_true] at h
      cases h
      rw [List.map_cons, e]
      exact ⟨by simp, List.mem_cons_self⟩
    | false =>
      rw [e] at h
      simp only [Bool.false_eq_true, if_false] at h
      cases q : ys.findIdx? p with
      | none => rw [q] at h; cases h
      | some j =>
        rw [q] at h
        cases h
        obtain ⟨h1, h2⟩ := idx_true q
        rw [List.map_cons, e]
        refine ⟨?_, List.mem_cons_of_mem _ h2⟩
        rw [List.idxOf_cons, h1]
        rfl
/-- what a sequence's items are, for the library -/
theorem seq_reads (I : Inv X pins σ H s) {T : Addr → Prop} {ys : List D} {vs : List V} {its : List Value} (hk : okDs ys = true) (rv : Vals vs its) (hr : Paired (RepF X.K H T) ys vs) : ∃ as, ReadsAll s.heap its ys as :=
  Dp.readsAll I ys vs its (RepFs.dp ys vs (okDs_iff.mp hk).1 (repFs_iff.mpr hr)) rv
theorem items_eq {A : Around} {its : List Value} {ys : List D} {d : D} {u : Value} {as bs : List Addr} (rs : ReadsAll s.heap its ys as) (rx : Reads s.heap u d bs) (hk : okDs ys = true) (hd : okD d = true) (hu : A.units + 200 < cLine) :
    PySem.SeqAt.ItemsEq A.in1 s its (ys.map fun y => PyData.eqv y d) u true := by
  have k1 := okDs_iff.mp hk
  have k2 := okD_iff.mp hd
  have rs' : ReadsAll s.heap its.toArray.toList ys as := rs
  have hl := PySem.SeqAt.ReadsAll.length _ _ _ rs
  refine ⟨by rw [List.length_map]; exact hl, fun j h1 h2 => ?_⟩
  have q := PySem.SeqAt.items_plain (A := A) rs' rx k1.1 k2.1 (by omega) its[j] (by simp)
  obtain ⟨j2, e⟩ := PySem.SeqAt.readOf_at rs' k1.1 j (by simpa using h1)
  have e' : PySem.SeqAt.readOf s.heap its[j] = ys[j] := e
  rw [e'] at q
  rw [List.getElem_map, Bool.decide_eq_true]
  exact q
def rM1 (K : PySem.W.Frag) (f : M1) : Bool → V → V → Hp → VK → Prop := fun b x y H Q => ∃ O va vb d, isL va.d = b ∧ RdOk K H O va x ∧ RdOk K H O vb y ∧ m1D f va.d vb.d = .ok d ∧ ∀ k, d = .int k → Q (.int k) H
theorem m1D_seq {f : M1} {c x d : D} (e : m1D f c x = .ok d) : ∃ ys, (c = .list ys ∨ c = .tuple ys) ∧ okDs ys = true ∧ okD x = true ∧ ((f = .index ∧ ∃ k : Nat, ys.findIdx? (fun y => PyData.eqv y x) = some k ∧ d = .int k) ∨ (f = .count ∧ d = .int (ys.countP fun y => PyData.eqv y x))) := by
  cases f <;> cases c <;> simp only [m1D] at e <;> first | (cases e; done) | skip
  all_goals
    split at e
    · rename_i hz
      rw [Bool.and_eq_true] at hz
      first
        | (split at e
           · rename_i ek
             cases e
             exact ⟨_, by first | exact .inl rfl | exact .inr rfl, hz.1, hz.2, .inl ⟨rfl, _, ek, rfl⟩⟩
           · cases e)
        | (cases e
           exact ⟨_, by first | exact .inl rfl | exact .inr rfl, hz.1, hz.2, .inr ⟨rfl, rfl⟩⟩)
    · cases e
theorem mm1 (hu : X.A.units + 200 < cLine) (f : M1) (b : Bool) (pins : List (Addr × Obj)) (s : Shared) (σ : L2.St) (H : Hp) (x y : V) (v u : Value) (Q : VK) (I : Inv X pins σ H s) (rx : RelV x v) (ry : RelV y u) (h : rM1 X.K f b x y H Q) :
    wpAny (model X.prog X.w) X.A (call (.builtin (m1I f b)) [v, u]) (EP X pins σ Q) X.xe s := by
  obtain ⟨O, va, vb, d, hq, h1, h2, e, q⟩ := h
  obtain ⟨ys, hc, k1, k2, ed⟩ := m1D_seq e
  obtain ⟨bs, r2⟩ := h2.reads I (okD_iff.mp k2).1 ry
  have h1 := h1.any
  have p1 := (okDs_iff.mp k1).1
  have u1 := (okDs_iff.mp k1).2
  rcases hc with hc | hc
  · rw [hc] at h1 hq
    cases (show true = b from hq)
    obtain ⟨a, xs, rfl, hp, _, hr⟩ := h1.ref
    cases rx
    obtain ⟨its, rv, pl, hz⟩ := I.list (.inl (.inl hp))
    obtain ⟨as, rs⟩ := seq_reads I k1 rv hr
    rcases ed with ⟨rfl, k, ek, rfl⟩ | ⟨rfl, rfl⟩
    · obtain ⟨i1, i2⟩ := idx_true ek
      exact PySem.SeqAt.call_list_index pl.isList (items_eq rs r2 k1 k2 hu) (by rw [List.length_map, plen hr]; exact hz) i2 (by rw [i1]; exact ⟨.int k, H, I.tok _, ⟨_, rfl⟩, q _ rfl⟩)
    · exact PySem.SeqAt.count_list_data pl.isList rs r2 p1 (okD_iff.mp k2).1 (by omega) ⟨.int _, H, I.tok _, ⟨_, rfl⟩, q _ rfl⟩
  · rw [hc] at h1 hq
    cases (show false = b from hq)
    obtain ⟨a, xs, rfl, hp, hr⟩ := h1.tref
    cases rx
    obtain ⟨its, rv, pl, hz⟩ := I.tuple hp.sq
    obtain ⟨as, rs⟩ := seq_reads I k1 rv hr
    rcases ed with ⟨rfl, k, ek, rfl⟩ | ⟨rfl, rfl⟩
    · obtain ⟨i1, i2⟩ := idx_true ek
      exact PySem.SeqAt.call_tuple_index pl (items_eq rs r2 k1 k2 hu) i2 (by rw [i1]; exact ⟨.int k, H, I.tok _, ⟨_, rfl⟩, q _ rfl⟩)
    · exact PySem.SeqAt.count_tuple_data pl rs r2 p1 (okD_iff.mp k2).1 (by omega) ⟨.int _, H, I.tok _, ⟨_, rfl⟩, q _ rfl⟩
theorem isSq_v {K : PySem.W.Frag} {H : Hp} {T : Addr → Prop} {d : D} {x : V} (h : RepF K H T d x) (e : isSq d = true) : SqV K H x (isL d) := by
  cases d <;> first | (cases e; done) | skip
  · obtain ⟨a, xs, rfl, hp, _⟩ := h.ref
    exact ⟨a, xs, rfl, hp⟩
  · obtain ⟨a, xs, rfl, hp, _⟩ := h.tref
    exact ⟨a, xs, rfl, hp⟩
theorem ve_m1 (hX : XOk X c) {f : M1} {a b : Expr} {xa xb : Ex} {apos cpos : Pos} (ha : VE X c a xa) (hb : VE X c b xb) (hn : notStar b = true) (hbase : attributeBase a (m1N f) X.env (eval a X.env) = eval a X.env) (hline : (apos.endLine == cpos.line) = true) :
    VE X c (.Call (.Attribute a (m1N f) apos) [b] [] cpos) (.m1 f xa xb) where
  val := fun pv => by
    refine PE.imp (pe_m1 (mm1 hX.hu f) (PEtR (ha.val pv)) (pa_cons (PEtR (hb.val pv)) pa_nil (starEach_cons (es := []) (env := X.env) hn)) hn hbase hline) fun s H Q q => ?_
    obtain ⟨O, Z, r, fp, v, r', h, e, q⟩ := q
    simp only [ev] at e
    obtain ⟨⟨va, r1⟩, e1, e⟩ := bind_ok_iff.mp e
    dsimp only at e
    split at e
    · rename_i hz
      obtain ⟨⟨vb, r2⟩, e2, e⟩ := bind_ok_iff.mp e
      obtain ⟨d, e3, e⟩ := bind_ok_iff.mp e
      cases e
      rw [Bool.and_eq_true] at hz
      refine ⟨O, Z, r, fp, va, r1, h, e1, fun x H' O' fp' h' x' hx => ⟨isL va.d, isSq_v hx.any hz.1, ?_⟩⟩
      refine ⟨O', Z, r1, fp', vb, _, h', e2, fun y H2 O2 fp2 h2 x2 hy => ⟨y, rfl, O2, va, vb, d, rfl, x2.rdOk h'.mok (fun eb => ?_) hx, hy, e3, fun k ek => ?_⟩⟩
      · have hz := hz.2
        cases hp : pureX c.G xb with
        | true => rw [hp] at eb; cases eb
        | false =>
          rw [hp, Bool.or_false, Bool.or_eq_true, Bool.not_eq_true'] at hz
          exact hz
      · subst ek
        exact made_end q h2 (x'.trans x2) (fun e => by simp only [pureX]; simp_all) (Made.int _)
    · cases e
  var := fun i e => by cases e
end
end VL
/-! VL: targets. -/
namespace VL
open PySem PySem.Spec PyProof.Rows L2
/-- what a walk yields, as a target of the shape t takes it -/
def YOk (K : PySem.W.Frag) (H : Hp) (O S : Addr → Prop) (t : Tg) (m : Nat) (d : D) (v : V) : Prop :=
  RepB K H S (fun a => ¬ O a) m d v ∨ ((∀ i, t ≠ .nm i) ∧ ∃ a vs ds, v = .ref a ∧ SqT K H a vs ∧ d = .tuple ds ∧ Paired (RepF K H fun a => ¬ O a) ds vs)
section
variable {K : PySem.W.Frag} {pv : Nat → Option V} {H H' H2 : Hp} {O O' O2 S S' Z Z' : Addr → Prop} {s : L2.St} {r r' : Env} {fp fp' : Fp}
def tgL : Tg → Nat
  | .cons _ b => tgL b + 1
  | _ => 0
theorem putS_ok {i : Nat} {x : Sl} (e : putS i x r = .ok r') : i < r.length ∧ r' = r.set i x := by
  unfold putS at e
  split at e
  · cases e
  · rename_i h
    cases e
    exact ⟨(List.getElem?_eq_some_iff.mp h).1, rfl⟩
  · cases e
/-- a name takes a value that is not its own -/
theorem StOk.putI (h : StOk K pv H O Z s r fp) {i m : Nat} {d : D} {v : V} (e : putS i (itS m d) r = .ok r') (w : RepB K H (fun a => ¬ (Mo fp a ∨ Z a)) (fun a => ¬ O a) m d v) :
    StOk K pv H O Z (s.set i (some v)) r' (upF fp i []) := by
  obtain ⟨hi, rfl⟩ := putS_ok e
  have hM : ∀ a, Mo (upF fp i []) a → Mo fp a := fun a q => (mo_upF_nil q).1
  refine h.put hi ?_ List.nodup_nil (fun _ _ _ z => by cases z) (fun a q => q.imp (hM a) id) fun a z q => h.zm a z (hM a q)
  unfold itS
  split
  · rename_i hm
    subst hm
    exact ⟨⟨v, rfl, w⟩, rfl⟩
  · exact ⟨⟨v, rfl, w.mono (fun a q z => q (z.imp (hM a) id)) fun _ q => q⟩, rfl⟩
theorem YOk.lstV {ds : List D} {t : Tg} {m : Nat} {v : V} (h : YOk K H O S t m (.tuple ds) v) : ∃ a vs, v = .ref a ∧ SqT K H a vs ∧ Paired (RepF K H fun a => ¬ O a) ds vs := by
  rcases h with h | ⟨_, a, vs, ds', e, h1, h2, h3⟩
  · obtain ⟨a, vs, e, h1, h2⟩ := (h.flat rfl).tref
    exact ⟨a, vs, e, h1.sq, h2⟩
  · cases h2
    exact ⟨a, vs, e, h1, h3⟩
def tG (K : PySem.W.Frag) (pv : Nat → Option V) (t : Tg) : TG := fun v s H Q => ∃ O Z r fp m d r', StOk K pv H O Z s r fp ∧ bindT m t d r = .ok r' ∧ YOk K H O (fun a => ¬ (Mo fp a ∨ Z a)) t m d v ∧
  ∀ s' fp', StOk K pv H O Z s' r' fp' → (∀ a, Mo fp' a → Mo fp a) → (∀ i, tgHas i t = false → s'[i]? = s[i]?) → Q s' H
def tGs (K : PySem.W.Frag) (pv : Nat → Option V) (t : Tg) : TGs := fun vs s H Q => ∃ O Z r fp ds r', StOk K pv H O Z s r fp ∧ bindTs t ds r = .ok r' ∧ Paired (RepF K H fun a => ¬ O a) ds vs ∧
  ∀ s' fp', StOk K pv H O Z s' r' fp' → (∀ a, Mo fp' a → Mo fp a) → (∀ i, tgHas i t = false → s'[i]? = s[i]?) → Q s' H
theorem bindTs_len : ∀ {t : Tg} {ds : List D} {r r' : Env}, bindTs t ds r = .ok r' → tgL t = ds.length
  | .nil, [], _, _, _ => rfl
  | .nil, _ :: _, _, _, e => by simp only [bindTs] at e; cases e
  | .nm _, _, _, _, e => by simp only [bindTs] at e; cases e
  | .cons a b, [], _, _, e => by simp only [bindTs] at e; cases e
  | .cons a b, d :: ds, r, r', e => by
    simp only [bindTs] at e
    obtain ⟨r1, _, e⟩ := bind_ok_iff.mp e
    have := bindTs_len e
    simp only [tgL, List.length_cons, this]
end
theorem PG.imp {X : Cx} {e : Expr} {t t' : TG} (h : PG X e t) (k : ∀ v s H Q, t' v s H Q → t v s H Q) : PG X e t' := ⟨fun pins s σ H v u Q I r w => h.run pins s σ H v u Q I r (k v σ H Q w)⟩
theorem PGs.imp {X : Cx} {e : List Expr} {t t' : TGs} (h : PGs X e t) (k : ∀ v s H Q, t' v s H Q → t v s H Q) : PGs X e t' := ⟨fun pins s σ H v u Q I r w => h.run pins s σ H v u Q I r (k v σ H Q w)⟩
def locN (c : Cc) (i : Nat) (x : Str) : Bool := decide (c.N[i]? = some x) && (match c.sc.names.lookup x with | some .local => true | some .cell => c.fn x | _ => false)
section
variable {X : Cx} {c : Cc}
structure VG (X : Cx) (c : Cc) (e : Expr) (t : Tg) : Prop where
  tgt : ∀ pv, PG X e (tG X.K pv t)
structure VGs (X : Cx) (c : Cc) (es : List Expr) (t : Tg) : Prop where
  tgt : ∀ pv, PGs X es (tGs X.K pv t)
  nst : (assignEach es X.env).findIdx? (·.1) = none
  len : (assignEach es X.env).length = tgL t
theorem locN_ok (hX : XOk X c) {i : Nat} {x : Str} (h : locN c i x = true) : X.N[i]? = some x ∧ L2.Loc X.env.scope x ∧ (X.fn x = true ∨ X.env.scope.names.lookup x = some .local) := by
  unfold locN at h
  rw [Bool.and_eq_true, decide_eq_true_eq] at h
  obtain ⟨h1, h2⟩ := h
  refine ⟨by rw [hX.N]; exact h1, ?_⟩
  unfold L2.Loc
  rw [hX.sc, hX.fnm]
  split at h2
  · rename_i q
    exact ⟨.inl q, .inr q⟩
  · rename_i q
    exact ⟨.inr q, .inl h2⟩
  · cases h2
theorem vg_name (hX : XOk X c) {i : Nat} {x : Str} {pos : Pos} (h : locN c i x = true) : VG X c (.Name x pos) (.nm i) where
  tgt := fun pv => by
    obtain ⟨h1, h2, h3⟩ := locN_ok hX h
    refine PG.imp (pg_name hX.nd h1 h2 h3) fun v s H Q q => ?_
    obtain ⟨O, Z, r, fp, m, d, r', hs, e, y, q⟩ := q
    simp only [bindT] at e
    have w : RepB X.K H (fun a => ¬ (Mo fp a ∨ Z a)) (fun a => ¬ O a) m d v := y.elim id fun z => absurd rfl (z.1 i)
    refine q _ (upF fp i []) (hs.putI e w) (fun a q => (mo_upF_nil q).1) fun j hj => ?_
    simp only [tgHas, beq_eq_false_iff_ne] at hj
    rw [List.getElem?_set_ne (Ne.symm hj)]
theorem vgs_nil : VGs X c [] .nil where
  tgt := fun pv => PGs.imp pgs_nil fun vs s H Q q => by
    obtain ⟨O, Z, r, fp, ds, r', hs, e, y, q⟩ := q
    cases y with
    | nil =>
      simp only [bindTs] at e
      cases e
      exact ⟨rfl, q s fp hs (fun _ z => z) fun _ _ => rfl⟩
    | cons _ _ => simp only [bindTs] at e; cases e
  nst := rfl
  len := rfl
def notStarT : Expr → Bool
  | .Starred _ _ => false
  | _ => true
theorem assignEach_cons {e : Expr} {es : List Expr} {env : PySem.Env} (h : notStarT e = true) : assignEach (e :: es) env = (false, assign e env) :: assignEach es env := by
  cases e <;> first | rfl | cases h
theorem vgs_cons {e : Expr} {es : List Expr} {a b : Tg} (h1 : VG X c e a) (h2 : VGs X c es b) (hn : notStarT e = true) : VGs X c (e :: es) (.cons a b) where
  tgt := fun pv => PGs.imp (pgs_cons (h1.tgt pv) (h2.tgt pv) (by rw [assignEach_cons hn]; rfl)) fun vs s H Q q => by
    obtain ⟨O, Z, r, fp, ds, r', hs, e, y, q⟩ := q
    cases y with
    | nil => simp only [bindTs] at e; cases e
    | cons y1 y2 =>
      simp only [bindTs] at e
      obtain ⟨r1, e1, e⟩ := bind_ok_iff.mp e
      refine ⟨_, _, rfl, O, Z, r, fp, 0, _, r1, hs, e1, .inl y1, fun s1 fp1 hs1 m1 k1 => ⟨O, Z, r1, fp1, _, r', hs1, e, y2, fun s2 fp2 hs2 m2 k2 => q s2 fp2 hs2 (fun a z => m1 a (m2 a z)) fun i hi => ?_⟩⟩
      simp only [tgHas, Bool.or_eq_false_iff] at hi
      rw [k2 i hi.2, k1 i hi.1]
  nst := by rw [assignEach_cons hn, List.findIdx?_cons]; simp only [Bool.false_eq_true, if_false]; rw [h2.nst]; rfl
  len := by rw [assignEach_cons hn, List.length_cons, h2.len]; rfl
theorem vg_tup (hX : XOk X c) {es : List Expr} {k : Nat} {pos : Pos} {a b : Tg} (h : VGs X c es (.cons a b)) : VG X c (.Tuple es k pos) (.cons a b) where
  tgt := fun pv => PG.imp (pg_tup hX.calm (h.tgt pv) h.len h.nst) fun v s H Q q => by
    obtain ⟨O, Z, r, fp, m, d, r', hs, e, y, q⟩ := q
    unfold bindT at e
    split at e
    · rename_i ds
      obtain ⟨p, vs, rfl, h1, h2⟩ := y.lstV
      exact ⟨p, vs, rfl, h1, by rw [← plen h2]; exact (bindTs_len e).symm, O, Z, r, fp, ds, r', hs, e, h2, q⟩
    · cases e
end
end VL
/-! VL: what is walked. -/
namespace VL
open PySem PySem.Spec PyProof.Rows L2
section
variable {K : PySem.W.Frag} {pv : Nat → Option V} {H H' H2 : Hp} {O O' O2 M M' S S' Z Z' : Addr → Prop} {s : L2.St} {r r' : Env} {fp fp' : Fp} {b : Bool}
/-- a thing that stays while it is walked -/
def WkOk (K : PySem.W.Frag) (H : Hp) (O M Z : Addr → Prop) (v : Val) (y : V) : Prop :=
  (isL v.d = false ∧ RepF K H (fun a => ¬ O a) v.d y) ∨ ∃ ds a vs, v.d = .list ds ∧ y = .ref a ∧ H a = some (.lst vs) ∧ (¬ O a ∨ ¬ (M a ∨ Z a)) ∧ Paired (RepB K H (fun a => ¬ (M a ∨ Z a)) (fun a => ¬ O a) (if v.own then 0 else v.n - 1)) ds vs
theorem WkOk.ofF {own : Bool} {n : Nat} {d : D} {y : V} (mo : MOk H O M) (h : RepF K H (fun a => ¬ O a) d y) (hn : own = true ∨ n = 0) : WkOk K H O M Z ⟨own, n, d⟩ y := by
  cases hl : isL d with
  | false => exact .inl ⟨hl, h⟩
  | true =>
    cases d <;> first | (cases hl; done) | skip
    obtain ⟨a, vs, rfl, h1, h2, h3⟩ := h.ref
    refine .inr ⟨_, a, vs, rfl, rfl, h1, .inl h2, ?_⟩
    have e : (if own then 0 else n - 1) = 0 := by rcases hn with h | h <;> cases own <;> simp_all
    dsimp only
    rw [e]
    exact h3
theorem WkOk.ofS {n : Nat} {d : D} {y : V} (mo : MOk H O M) (h : RepB K H (fun a => ¬ (M a ∨ Z a)) (fun a => ¬ O a) n d y) : WkOk K H O M Z ⟨false, n, d⟩ y := by
  cases n with
  | zero => exact .ofF mo h (.inr rfl)
  | succ n =>
    cases hl : isL d with
    | false => exact .inl ⟨hl, h.flat hl⟩
    | true =>
      cases d <;> first | (cases hl; done) | skip
      unfold RepB at h
      obtain ⟨a, vs, rfl, h1, h2, h3⟩ := h
      exact .inr ⟨_, a, vs, rfl, rfl, h1, .inr h2, h3⟩
theorem WkOk.ofRd {v : Val} {y : V} (mo : MOk H O M) (h : RdOk K H O v y) (hv : v.own = true ∨ v.n = 0 ∨ isL v.d = false) : WkOk K H O M Z v y := by
  obtain ⟨own, n, d⟩ := v
  rcases hv with hv | hv | hv
  · cases (show own = true from hv)
    exact .ofF mo h (.inl rfl)
  · cases (show n = 0 from hv)
    cases own with
    | true => exact .ofF mo h (.inl rfl)
    | false => exact .ofF mo h (.inr rfl)
  · exact .inl ⟨hv, h.flat hv⟩
/-- a locked slot -/
theorem StOk.lkv (h : StOk K pv H O Z s r fp) {i : Nat} (hl : lkd i r = true) {v : Val} {y : V} (e : VL.rd i r = .ok v) (hy : s[i]? = some (some y)) : v.own = false ∧ RepB K H (fun a => ¬ (Mo fp a ∨ Z a)) (fun a => ¬ O a) v.n v.d y := by
  unfold lkd at hl
  unfold VL.rd at e
  split at hl
  · rename_i n d q
    rw [q] at e
    cases e
    obtain ⟨⟨xv, ev, w⟩, _⟩ := h.sl i _ q
    rw [hy] at ev
    cases ev
    exact ⟨rfl, w⟩
  · cases hl
theorem wOk1_cases {x : Ex} {v : Val} {r : Env} (h : wOk1 x v r = true) : (v.own = true ∨ v.n = 0 ∨ isL v.d = false) ∨ ∃ i, x = .v i ∧ lkd i r = true := by
  unfold wOk1 at h
  simp only [Bool.or_eq_true, beq_iff_eq, Bool.not_eq_true'] at h
  rcases h with ((h | h) | h) | h
  · exact .inl (.inl h)
  · exact .inl (.inr (.inl h))
  · exact .inl (.inr (.inr h))
  · cases x <;> first | exact .inr ⟨_, rfl, h⟩ | cases h
theorem wOk_cases {x : Ex} {v : Val} {r : Env} (h : wOk x v r = true) : (v.own = true ∨ v.n = 0 ∨ isL v.d = false) ∨ (∃ i, x = .v i ∧ lkd i r = true) ∨ ∃ i j, x = .ix (.v i) j ∧ lkd i r = true := by
  unfold wOk at h
  simp only [Bool.or_eq_true, beq_iff_eq, Bool.not_eq_true'] at h
  rcases h with ((h | h) | h) | h
  · exact .inl (.inl h)
  · exact .inl (.inr (.inl h))
  · exact .inl (.inr (.inr h))
  · split at h
    · exact .inr (.inl ⟨_, rfl, h⟩)
    · exact .inr (.inr ⟨_, _, rfl, h⟩)
    · cases h
/-- the reading of what is walked -/
def tW (K : PySem.W.Frag) (pv : Nat → Option V) (b : Bool) (x : Ex) (f : Env → R (Val × Env)) : TE := fun s H Q =>
  ∃ O Z r fp v r', StOk K pv H O Z s r fp ∧ f r = .ok (v, r') ∧ wOk x v r' = true ∧
    ∀ y H' O' fp', StOk K pv H' O' Z s r' fp' → Ext b H O (Mo fp) H' O' (Mo fp') → WkOk K H' O' (Mo fp') Z v y → Q y H'
end
section
variable {X : Cx} {c : Cc}
structure VK' (X : Cx) (c : Cc) (e : Expr) (x : Ex) : Prop where
  wk : ∀ pv, PE X e (tW X.K pv (!pureX c.G x) x (ev c.G x))
theorem vk_v {e : Expr} {i : Nat} (h : VE X c e (.v i)) : VK' X c e (.v i) where
  wk := fun pv => PE.imp (h.var i rfl) fun s H Q q => by
    obtain ⟨O, Z, r, fp, v, r', h, e, hw, q⟩ := q
    simp only [ev] at e
    obtain ⟨w, e3, e1⟩ := bind_ok_iff.mp e
    cases e1
    obtain ⟨xv, h1, h2⟩ := h.rd e3
    refine ⟨xv, h1, q xv H O fp h .refl ?_⟩
    have h2f := h2.freeze
    have eO : (fun a => O a ∧ a ∉ ([] : List Addr)) = O := by
      funext a
      exact propext ⟨fun z => z.1, fun z => ⟨z, List.not_mem_nil⟩⟩
    rw [eO] at h2f
    rcases wOk_cases hw with hw | ⟨j, ej, hl⟩ | ⟨j, _, ej, _⟩
    · exact .ofRd h.mok h2f hw
    · cases ej
      obtain ⟨g1, g2⟩ := h.lkv hl e3 h1
      obtain ⟨o, n, d⟩ := v
      cases (show o = false from g1)
      exact .ofS h.mok g2
    · cases ej
def noPath : Ex → Bool
  | .v _ => false
  | .ix (.v _) _ => false
  | _ => true
theorem vk_any {e : Expr} {x : Ex} (h : VE X c e x) (hx : noPath x = true) : VK' X c e x where
  wk := fun pv => PE.imp (PEtR (h.val pv)) fun s H Q q => by
    obtain ⟨O, Z, r, fp, v, r', h, e, hw, q⟩ := q
    refine ⟨O, Z, r, fp, v, r', h, e, fun y H' O' fp' h' x' hy => q y H' O' fp' h' x' (.ofRd h'.mok hy ?_)⟩
    rcases wOk_cases hw with hw | ⟨j, ej, hl⟩ | ⟨j, _, ej, _⟩
    · exact hw
    · subst ej; cases hx
    · subst ej; cases hx
theorem vk_ix {a i : Expr} {j : Nat} {xi : Ex} {pos : Pos} (ha : VE X c a (.v j)) (hi : VE X c i xi) (hs : PlainIx i) : VK' X c (.Subscript a i pos) (.ix (.v j) xi) where
  wk := fun pv => PE.imp (pe_ix ix_seq (ha.var j rfl) (PEtR (hi.val pv)) hs) fun s H Q q => by
    obtain ⟨O, Z, r, fp, v, r', h, e, hw, q⟩ := q
    simp only [ev] at e
    obtain ⟨⟨⟨va, vb⟩, r2⟩, e1, e⟩ := bind_ok_iff.mp e
    obtain ⟨v1, e2, e⟩ := bind_ok_iff.mp e
    cases e
    unfold ops at e1
    obtain ⟨p, e3, e1⟩ := bind_ok_iff.mp e1
    rw [opx_v] at e3
    obtain ⟨v0, e4, e3⟩ := bind_ok_iff.mp e3
    cases e3
    obtain ⟨⟨vb', r2'⟩, e5, e1⟩ := bind_ok_iff.mp e1
    obtain ⟨va', e6, e1⟩ := bind_ok_iff.mp e1
    cases e1
    dsimp only at e2 e5 e6 hw q
    obtain ⟨xv, h1, _⟩ := h.rd e4
    refine ⟨xv, h1, O, Z, r, fp, vb', _, h, e5, fun y H' O' fp' h' x' hy => ?_⟩
    have e6 : rd j r2' = .ok va := e6
    obtain ⟨xv', h1', h2⟩ := h'.rd e6
    rw [h1] at h1'
    cases h1'
    have h2f := h2.freeze
    have eO : (fun a => O' a ∧ a ∉ ([] : List Addr)) = O' := by
      funext a
      exact propext ⟨fun z => z.1, fun z => ⟨z, List.not_mem_nil⟩⟩
    rw [eO] at h2f
    have fin : ∀ z H2, H2 = H' ∧ RdOk X.K H' O' v z → (v.own = true ∨ v.n = 0 ∨ isL v.d = false) → Q z H2 := fun z H2 hz hw => by
      obtain ⟨rfl, hz⟩ := hz
      refine q z H2 O' fp' h' (x'.weak fun e => ?_) (.ofRd h'.mok hz hw)
      simp only [pureX]
      simp_all
    rcases wOk_cases hw with hw | ⟨_, ej, hl⟩ | ⟨i', _, ej, hl⟩
    · exact rIx_mono (ixD_ok h2f hy.any e2) fun z H2 hz => fin z H2 hz hw
    · cases ej
    · cases ej
      obtain ⟨g1, g2⟩ := h'.lkv hl e6 h1
      obtain ⟨o, n, d⟩ := va
      cases (show o = false from g1)
      dsimp only at g2
      cases hn : n with
      | zero =>
        refine rIx_mono (ixD_ok h2f hy.any e2) fun z H2 hz => fin z H2 hz ?_
        subst hn
        unfold ixD at e2
        dsimp only at e2
        split at e2
        · split at e2
          · cases e2; exact .inr (.inl rfl)
          · cases e2
        · split at e2
          · cases e2; exact .inl rfl
          · cases e2
        · split at e2
          · cases e2; exact .inl rfl
          · cases e2
        · cases e2
      | succ m =>
        subst hn
        by_cases hl : ∃ ds, d = .list ds
        · obtain ⟨ds, rfl⟩ := hl
          unfold RepB at g2
          obtain ⟨p, vs, rfl, k1, k2, k3⟩ := g2
          unfold ixD at e2
          dsimp only at e2
          split at e2
          · rename_i xs k q1 q2
            cases q1
            split at e2
            · rename_i d0 ed
              cases e2
              obtain ⟨z, ez, hz⟩ := atI_pair k3 ed
              have hyi := hy.any
              rw [q2] at hyi
              refine .inl ⟨p, vs, k, z, rfl, hyi.int, .inl (.inl k1), ez, q z H' O' fp' h' (x'.weak fun e => ?_) ?_⟩
              · simp only [pureX]
                simp_all
              · exact .ofS h'.mok hz
            · cases e2
          · rename_i q1 _; cases q1
          · rename_i q1 _; cases q1
          · cases e2
        · have hf : isL d = false := by
            cases d <;> first | rfl | exact absurd ⟨_, rfl⟩ hl
          have ho : v.own = true := by
            unfold ixD at e2
            dsimp only at e2
            split at e2
            · exact absurd ⟨_, rfl⟩ hl
            · split at e2
              · cases e2; rfl
              · cases e2
            · split at e2
              · cases e2; rfl
              · cases e2
            · cases e2
          exact rIx_mono (ixD_ok h2f hy.any e2) fun z H2 hz => fin z H2 hz (.inl ho)
end
end VL
/-! VL: iterables. -/
namespace VL
open PySem PySem.Spec PyProof.Rows L2
def YdOk (K : PySem.W.Frag) (t : Tg) (H2 H3 : Hp) (O2 S : Addr → Prop) (m : Nat) (d : D) (x : V) : Prop :=
  (H3 = H2 ∧ RepB K H2 S (fun a => ¬ O2 a) m d x) ∨ ((∀ i, t ≠ .nm i) ∧ ∃ T vs ds, H2 T = none ∧ H3 = L2.upd H2 T (.tup vs) ∧ x = .ref T ∧ d = .tuple ds ∧ Paired (RepF K H2 fun a => ¬ O2 a) ds vs)
/-- what the walker J yields, as long as what stood there is not changed -/
def WalkOk (K : PySem.W.Frag) (t : Tg) (J : It) (H1 : Hp) (O1 M1 S1 : Addr → Prop) (m : Nat) (ds : List D) : Prop :=
  ∀ b H2 O2 M2, Ext b H1 O1 M1 H2 O2 M2 → (∀ i, i < ds.length → J.go i H2) ∧ (∀ i, ds.length ≤ i → J.stop i H2) ∧
    ∀ i d x H3, ds[i]? = some d → J.yld i H2 x H3 → YdOk K t H2 H3 O2 (fun a => S1 a ∧ ∃ o, H1 a = some o) m d x
def tI (K : PySem.W.Frag) (pv : Nat → Option V) (b : Bool) (t : Tg) (f : Env → R ((Nat × List D) × Env)) : TI := fun s H R =>
  ∃ O Z r fp q r', StOk K pv H O Z s r fp ∧ f r = .ok (q, r') ∧
    ∀ J H' O' fp', StOk K pv H' O' Z s r' fp' → Ext b H O (Mo fp) H' O' (Mo fp') → (∀ M1 : Addr → Prop, MOk H' O' M1 → (∀ a, M1 a → Mo fp' a ∨ Z a) → WalkOk K t J H' O' M1 (fun a => ¬ (Mo fp' a ∨ Z a)) q.1 q.2) → R J H'
theorem PI.imp {X : Cx} {tg e : Expr} {t t' : TI} (h : PI X tg e t) (k : ∀ s H R, t' s H R → t s H R) : PI X tg e t' := ⟨fun pins s σ H R I w => h.run pins s σ H R I (k σ H R w)⟩
section
variable {K : PySem.W.Frag} {t : Tg} {H1 H2 : Hp} {O1 O2 M1 M2 S1 : Addr → Prop} {b : Bool}
theorem lst_stays (x : Ext b H1 O1 M1 H2 O2 M2) (mo : MOk H1 O1 M1) (hs : ∀ a, S1 a → ¬ M1 a) {m : Nat} {ds : List D} {vs : List V} (h : Paired (RepB K H1 S1 (fun a => ¬ O1 a) m) ds vs) :
    Paired (RepB K H2 (fun a => S1 a ∧ ∃ o, H1 a = some o) (fun a => ¬ O2 a) m) ds vs :=
  pimp h fun d v _ q => RepB.keep ⟨fun a vs h1 h2 => ⟨x.keep a _ h1 (hs a h2), h2, _, h1⟩, fun a o u h => x.keep a _ h fun m => by
    obtain ⟨_, ys, e'⟩ := mo a m
    rw [h] at e'
    cases e'⟩ (x.keepsF mo) m d v q
theorem walk_list {a : Addr} {vs : List V} {m : Nat} {ds : List D} (mo : MOk H1 O1 M1) (hs : ∀ a, S1 a → ¬ M1 a) (h1 : H1 a = some (.lst vs)) (ha : ¬ M1 a) (h : Paired (RepB K H1 S1 (fun a => ¬ O1 a) m) ds vs) : WalkOk K t (Itl K a) H1 O1 M1 S1 m ds := by
  intro b H2 O2 M2 x
  have e := x.keep a _ h1 ha
  have w := lst_stays x mo hs h
  refine ⟨fun i hi => ?_, fun i hi => ⟨vs, .inl (.inl e), by rw [← plen h]; exact hi⟩, fun i d y H3 hd hy => ?_⟩
  · obtain ⟨y, hy, _⟩ := pat h (List.getElem?_eq_getElem hi)
    exact ⟨vs, y, .inl (.inl e), hy⟩
  · obtain ⟨e3, hy⟩ := hy
    obtain ⟨y', g1, g2⟩ := pat w hd
    have := hy vs (.inl (.inl e))
    rw [g1] at this
    cases this
    exact .inl ⟨e3, g2⟩
theorem tup_stays (x : Ext b H1 O1 M1 H2 O2 M2) (mo : MOk H1 O1 M1) {ds : List D} {vs : List V} (h : Paired (RepF K H1 (fun a => ¬ O1 a)) ds vs) : Paired (RepF K H2 (fun a => ¬ O2 a)) ds vs := pimp h fun d v _ q => x.repF mo q
theorem walk_tup {a : Addr} {vs : List V} {ds : List D} (mo : MOk H1 O1 M1) (h1 : TupAt K H1 a vs) (h : Paired (RepF K H1 (fun a => ¬ O1 a)) ds vs) : WalkOk K t (Itt K a) H1 O1 M1 S1 0 ds := by
  intro b H2 O2 M2 x
  have e := ((x.keepsF mo).tup h1).sq
  have w := tup_stays x mo h
  refine ⟨fun i hi => ?_, fun i hi => ⟨vs, e, by rw [← plen h]; exact hi⟩, fun i d y H3 hd hy => ?_⟩
  · obtain ⟨y, hy, _⟩ := pat h (List.getElem?_eq_getElem hi)
    exact ⟨vs, y, e, hy⟩
  · obtain ⟨e3, hy⟩ := hy
    obtain ⟨y', g1, g2⟩ := pat w hd
    have := hy vs e
    rw [g1] at this
    cases this
    exact .inl ⟨e3, g2⟩
theorem walk_revL {a : Addr} {vs : List V} {m : Nat} {ds : List D} (mo : MOk H1 O1 M1) (hs : ∀ a, S1 a → ¬ M1 a) (h1 : H1 a = some (.lst vs)) (ha : ¬ M1 a) (h : Paired (RepB K H1 S1 (fun a => ¬ O1 a) m) ds vs) : WalkOk K t (Itv K a vs.length) H1 O1 M1 S1 m ds.reverse := by
  intro b H2 O2 M2 x
  have e := x.keep a _ h1 ha
  have w := lst_stays x mo hs h
  have hl := plen h
  refine ⟨fun i hi => ?_, fun i hi => by rw [List.length_reverse] at hi; show vs.length ≤ i; omega, fun i d y H3 hd hy => ?_⟩
  · rw [List.length_reverse] at hi
    refine ⟨by omega, vs, vs[vs.length - 1 - i]'(by omega), .inl (.inl e), List.getElem?_eq_getElem _⟩
  · obtain ⟨e3, hy⟩ := hy
    have hi : i < ds.length := by
      have := (List.getElem?_eq_some_iff.mp hd).1
      simpa using this
    rw [List.getElem?_reverse hi] at hd
    obtain ⟨y', g1, g2⟩ := pat w hd
    have := hy vs (.inl (.inl e))
    rw [← hl, g1] at this
    cases this
    exact .inl ⟨e3, g2⟩
theorem walk_revT {a : Addr} {vs : List V} {ds : List D} (mo : MOk H1 O1 M1) (h1 : TupAt K H1 a vs) (h : Paired (RepF K H1 (fun a => ¬ O1 a)) ds vs) : WalkOk K t (RT.ItvT K a vs.length) H1 O1 M1 S1 0 ds.reverse := by
  intro b H2 O2 M2 x
  have e := ((x.keepsF mo).tup h1).sq
  have w := tup_stays x mo h
  have hl := plen h
  refine ⟨fun i hi => ?_, fun i hi => by rw [List.length_reverse] at hi; show vs.length ≤ i; omega, fun i d y H3 hd hy => ?_⟩
  · rw [List.length_reverse] at hi
    refine ⟨by omega, vs, vs[vs.length - 1 - i]'(by omega), e, List.getElem?_eq_getElem _⟩
  · obtain ⟨e3, hy⟩ := hy
    have hi : i < ds.length := by
      have := (List.getElem?_eq_some_iff.mp hd).1
      simpa using this
    rw [List.getElem?_reverse hi] at hd
    obtain ⟨y', g1, g2⟩ := pat w hd
    have := hy vs e
    rw [← hl, g1] at this
    cases this
    exact .inl ⟨e3, g2⟩
theorem rng_at {lo : Int} {n i : Nat} {d : D} (h : (rngL lo n)[i]? = some d) : d = .int (lo + i) := by
  unfold rngL at h
  rw [List.getElem?_map] at h
  cases q : (List.range n)[i]? with
  | none => rw [q] at h; cases h
  | some k =>
    rw [q] at h
    obtain ⟨h1, h2⟩ := List.getElem?_eq_some_iff.mp q
    rw [List.getElem_range] at h2
    subst h2
    exact (Option.some.inj h).symm
theorem rngd_at {lo : Int} {n i : Nat} {d : D} (h : (rngdL lo n)[i]? = some d) : d = .int (lo - i) := by
  unfold rngdL at h
  rw [List.getElem?_map] at h
  cases q : (List.range n)[i]? with
  | none => rw [q] at h; cases h
  | some k =>
    rw [q] at h
    obtain ⟨h1, h2⟩ := List.getElem?_eq_some_iff.mp q
    rw [List.getElem_range] at h2
    subst h2
    exact (Option.some.inj h).symm
theorem rngL_len {lo : Int} {n : Nat} : (rngL lo n).length = n := by unfold rngL; rw [List.length_map, List.length_range]
theorem rngdL_len {lo : Int} {n : Nat} : (rngdL lo n).length = n := by unfold rngdL; rw [List.length_map, List.length_range]
theorem walk_rng {lo : Int} {n : Nat} : WalkOk K t (Itr lo n) H1 O1 M1 S1 0 (rngL lo n) := by
  intro b H2 O2 M2 x
  refine ⟨fun i hi => by rw [rngL_len] at hi; exact hi, fun i hi => by rw [rngL_len] at hi; exact hi, fun i d y H3 hd hy => .inl ⟨hy.1, ?_⟩⟩
  rw [rng_at hd, hy.2]
  exact RepF.mkI _
theorem walk_rngd {lo : Int} {n : Nat} : WalkOk K t (Itc lo (-1) n) H1 O1 M1 S1 0 (rngdL lo n) := by
  intro b H2 O2 M2 x
  refine ⟨fun i hi => by rw [rngdL_len] at hi; exact hi, fun i hi => by rw [rngdL_len] at hi; exact hi, fun i d y H3 hd hy => .inl ⟨hy.1, ?_⟩⟩
  rw [rngd_at hd, hy.2]
  have e : lo + (i : Int) * -1 = lo - i := by omega
  rw [e]
  exact RepF.mkI _
theorem enum_at : ∀ {ds : List D} {k : Int} {i : Nat} {d : D}, (enumL k ds)[i]? = some d → ∃ e, ds[i]? = some e ∧ d = .tuple [.int (k + i), e]
  | [], _, _, _, h => by simp [enumL] at h
  | d :: ds, k, 0, e, h => by
    simp only [enumL, List.getElem?_cons_zero] at h
    cases h
    exact ⟨d, rfl, by simp⟩
  | d :: ds, k, i + 1, e, h => by
    simp only [enumL, List.getElem?_cons_succ] at h
    obtain ⟨e', h1, h2⟩ := enum_at h
    refine ⟨e', by simpa using h1, ?_⟩
    rw [h2]
    have : k + 1 + (i : Int) = k + ((i + 1 : Nat) : Int) := by omega
    rw [this]
theorem enum_len : ∀ {ds : List D} {k : Int}, (enumL k ds).length = ds.length
  | [], _ => rfl
  | _ :: ds, k => by simp only [enumL, List.length_cons, enum_len]
theorem walk_enum {a : Addr} {vs : List V} {ds : List D} (ht : ∀ i, t ≠ .nm i) (mo : MOk H1 O1 M1) (h1 : H1 a = some (.lst vs)) (ha : ¬ M1 a) (h : Paired (RepF K H1 (fun a => ¬ O1 a)) ds vs) : WalkOk K t (Ite K a) H1 O1 M1 S1 0 (enumL 0 ds) := by
  intro b H2 O2 M2 x
  have e := x.keep a _ h1 ha
  have w := tup_stays x mo h
  refine ⟨fun i hi => ?_, fun i hi => ⟨vs, .inl (.inl e), by rw [enum_len] at hi; rw [← plen h]; exact hi⟩, fun i d y H3 hd hy => ?_⟩
  · rw [enum_len] at hi
    obtain ⟨y, hy, _⟩ := pat h (List.getElem?_eq_getElem hi)
    exact ⟨vs, y, .inl (.inl e), hy⟩
  · obtain ⟨T, z, rfl, hT, rfl, hy⟩ := hy
    obtain ⟨d', h2, rfl⟩ := enum_at hd
    obtain ⟨y', g1, g2⟩ := pat w h2
    have := hy vs (.inl (.inl e))
    rw [g1] at this
    cases this
    refine .inr ⟨ht, T, _, _, hT, rfl, rfl, rfl, .cons ?_ (.cons g2 .nil)⟩
    rw [Int.zero_add]
    exact RepF.mkI _
theorem zip_at : ∀ {as bs : List D} {i : Nat} {d : D}, (zipL as bs)[i]? = some d → ∃ a b, as[i]? = some a ∧ bs[i]? = some b ∧ d = .tuple [a, b]
  | [], _, _, _, h => by simp [zipL] at h
  | _ :: _, [], _, _, h => by simp [zipL] at h
  | a :: as, b :: bs, 0, _, h => by
    simp only [zipL, List.getElem?_cons_zero] at h
    cases h
    exact ⟨a, b, rfl, rfl, rfl⟩
  | a :: as, b :: bs, i + 1, _, h => by
    simp only [zipL, List.getElem?_cons_succ] at h
    obtain ⟨a', b', h1, h2, h3⟩ := zip_at h
    exact ⟨a', b', by simpa using h1, by simpa using h2, h3⟩
theorem zip_len : ∀ {as bs : List D}, (zipL as bs).length = min as.length bs.length
  | [], _ => by simp [zipL]
  | _ :: _, [] => by simp [zipL]
  | _ :: as, _ :: bs => by simp only [zipL, List.length_cons, zip_len]; omega
theorem walk_zipL {a c : Addr} {vs us : List V} {ds es : List D} (ht : ∀ i, t ≠ .nm i) (mo : MOk H1 O1 M1) (h1 : H1 a = some (.lst vs)) (ha : ¬ M1 a) (h2 : H1 c = some (.lst us)) (hc : ¬ M1 c) (h : Paired (RepF K H1 (fun a => ¬ O1 a)) ds vs) (k : Paired (RepF K H1 (fun a => ¬ O1 a)) es us) :
    WalkOk K t (Itz K a c) H1 O1 M1 S1 0 (zipL ds es) := by
  intro b H2 O2 M2 x
  have e1 : SqL K H2 a vs := .inl (.inl (x.keep a _ h1 ha))
  have e2 : SqL K H2 c us := .inl (.inl (x.keep c _ h2 hc))
  have w1 := tup_stays x mo h
  have w2 := tup_stays x mo k
  have l1 := plen h
  have l2 := plen k
  refine ⟨fun i hi => ?_, fun i hi => ⟨vs, us, e1, e2, by rw [zip_len] at hi; omega⟩, fun i d y H3 hd hy => ?_⟩
  · rw [zip_len] at hi
    exact ⟨vs, us, vs[i]'(by omega), us[i]'(by omega), e1, e2, List.getElem?_eq_getElem _, List.getElem?_eq_getElem _⟩
  · obtain ⟨T, z, z', rfl, hT, rfl, hy, hy'⟩ := hy
    obtain ⟨d1, d2, g1, g2, rfl⟩ := zip_at hd
    obtain ⟨y1, g3, g4⟩ := pat w1 g1
    obtain ⟨y2, g5, g6⟩ := pat w2 g2
    have q1 := hy vs e1
    have q2 := hy' us e2
    rw [g3] at q1
    rw [g5] at q2
    cases q1
    cases q2
    exact .inr ⟨ht, T, _, _, hT, rfl, rfl, rfl, .cons g4 (.cons g6 .nil)⟩
theorem walk_zipT {a c : Addr} {vs us : List V} {ds es : List D} (ht : ∀ i, t ≠ .nm i) (mo : MOk H1 O1 M1) (h1 : TupAt K H1 a vs) (h2 : TupAt K H1 c us) (h : Paired (RepF K H1 (fun a => ¬ O1 a)) ds vs) (k : Paired (RepF K H1 (fun a => ¬ O1 a)) es us) :
    WalkOk K t (RZ.ItzT K a c) H1 O1 M1 S1 0 (zipL ds es) := by
  intro b H2 O2 M2 x
  have e1 := ((x.keepsF mo).tup h1).sq
  have e2 := ((x.keepsF mo).tup h2).sq
  have w1 := tup_stays x mo h
  have w2 := tup_stays x mo k
  have l1 := plen h
  have l2 := plen k
  refine ⟨fun i hi => ?_, fun i hi => ⟨vs, us, e1, e2, by rw [zip_len] at hi; omega⟩, fun i d y H3 hd hy => ?_⟩
  · rw [zip_len] at hi
    exact ⟨vs, us, vs[i]'(by omega), us[i]'(by omega), e1, e2, List.getElem?_eq_getElem _, List.getElem?_eq_getElem _⟩
  · obtain ⟨T, z, z', rfl, hT, rfl, hy, hy'⟩ := hy
    obtain ⟨d1, d2, g1, g2, rfl⟩ := zip_at hd
    obtain ⟨y1, g3, g4⟩ := pat w1 g1
    obtain ⟨y2, g5, g6⟩ := pat w2 g2
    have q1 := hy vs e1
    have q2 := hy' us e2
    rw [g3] at q1
    rw [g5] at q2
    cases q1
    cases q2
    exact .inr ⟨ht, T, _, _, hT, rfl, rfl, rfl, .cons g4 (.cons g6 .nil)⟩
end
section
variable {X : Cx} {tg : Expr}
/-- a list, a tuple -/
theorem pi_seq {l : Expr} {tl : TE} (hl : PE X l tl) : PI X tg l (fun σ H R => tl σ H fun x H1 => ∃ a, x = .ref a ∧ (((∃ xs, SqL X.K H1 a xs) ∧ R (Itl X.K a) H1) ∨ ((∃ xs, SqT X.K H1 a xs) ∧ R (Itt X.K a) H1))) := by
  refine ⟨fun pins s σ H R I h => ?_⟩
  refine thn (hl.run pins s σ H _ I h) fun v s1 ⟨x, H1, I1, r1, a, ex, q1⟩ => ?_
  subst ex
  cases r1
  have fr : ∀ c, c ∈ [s1.heap.objs.size] → FpOk X pins H1 c := fun c hc => by
    have e : c = s1.heap.objs.size := List.mem_singleton.mp hc
    rw [e]
    exact I1.fpOk (Nat.le_refl _) (I1.hok.fresh (Nat.le_refl _))
  rcases q1 with ⟨⟨xs, hq⟩, q⟩ | ⟨⟨xs, hq⟩, q⟩
  · obtain ⟨its, rv, pl, hz⟩ := I1.list hq
    exact wpAny_pyIter_list pl.isList ⟨_, _, _, _, H1, rfl, I1.kept (t' := s1.toks) fun c o e => Heap.get?_push_of_some _ e, turn_list a _, ⟨_, Heap.get?_push_size _ rfl, rfl, rfl⟩, fr, q⟩
  · obtain ⟨its, rv, pl, hz⟩ := I1.tuple hq
    exact wpAny_pyIter_tuple pl ⟨_, _, _, _, H1, rfl, I1.kept (t' := s1.toks) fun c o e => Heap.get?_push_of_some _ e, turn_tuple a _, ⟨_, Heap.get?_push_size _ rfl, rfl, rfl⟩, fr, q⟩
end
section
variable {X : Cx} {c : Cc} {tg : Expr} {t : Tg}
structure VI (X : Cx) (c : Cc) (tg iter : Expr) (x : Ex) (t : Tg) : Prop where
  it : ∀ pv, PI X tg iter (tI X.K pv (!pureX c.G x) t (evI c.G x))
theorem no_M1 {H : Hp} {O M Z M1 : Addr → Prop} {a : Addr} (mo : MOk H O M1) (hM : ∀ a, M1 a → M a ∨ Z a) (h : ¬ O a ∨ ¬ (M a ∨ Z a)) : ¬ M1 a := fun m => h.elim (fun h => h (mo a m).1) fun h => h (hM a m)
theorem bnd_ok {i : Int} (h : bnd i = true) : -(2 ^ 62) ≤ i ∧ i < 2 ^ 62 := of_decide_eq_true h
theorem vi_it {e : Expr} {x : Ex} (h : VK' X c e x) : VI X c tg e (.it x) t where
  it := fun pv => PI.imp (pi_seq (h.wk pv)) fun s H R q => by
    obtain ⟨O, Z, r, fp, w, r', hs, e, q⟩ := q
    simp only [evI] at e
    obtain ⟨⟨v, r1⟩, e1, e⟩ := bind_ok_iff.mp e
    dsimp only at e
    split at e
    · rename_i hw
      obtain ⟨⟨m, ds⟩, e2, e⟩ := bind_ok_iff.mp e
      cases e
      refine ⟨O, Z, r, fp, v, _, hs, e1, hw, fun y H' O' fp' h' x' hy => ?_⟩
      rcases hy with ⟨g1, g2⟩ | ⟨ds', a, vs, g1, rfl, g2, g3, g4⟩
      · unfold itemsV at e2
        split at e2
        · rename_i ee; rw [ee] at g1; cases g1
        · rename_i xs ee
          cases e2
          rw [ee] at g2
          obtain ⟨a, vs, rfl, k1, k2⟩ := g2.tref
          exact ⟨a, rfl, .inr ⟨⟨vs, k1.sq⟩, q _ H' O' fp' h' x' fun M1 mo hM => walk_tup mo k1 k2⟩⟩
        · cases e2
      · unfold itemsV at e2
        rw [g1] at e2
        cases e2
        exact ⟨a, rfl, .inl ⟨⟨vs, .inl (.inl g2)⟩, q _ H' O' fp' h' x' fun M1 mo hM => walk_list mo (fun a z m => z (hM a m)) g2 (no_M1 mo hM g3) g4⟩⟩
    · cases e
theorem elz_items {own : Bool} {n : Nat} {ds : List D} {vs : List V} {K : PySem.W.Frag} {H : Hp} {S T : Addr → Prop} (e : elz own n ds = true) (h : Paired (RepB K H S T (if own then 0 else n - 1)) ds vs) : Paired (RepF K H T) ds vs := by
  refine pimp h fun d v hd q => ?_
  cases own with
  | true => exact q
  | false =>
    unfold elz at e
    simp only [Bool.false_or, Bool.or_eq_true, decide_eq_true_eq, Bool.not_eq_true', List.any_eq_false] at e
    simp only [Bool.false_eq_true, if_false] at q
    rcases e with e | e
    · have : n - 1 = 0 := by omega
      rw [this] at q
      exact q
    · refine q.flat ?_
      cases hh : isL d with
      | false => rfl
      | true => exact absurd hh (e d hd)
theorem itemsZ_list {own : Bool} {n : Nat} {ds xs : List D} (e : itemsZ ⟨own, n, .list ds⟩ = .ok xs) : xs = ds ∧ elz own n ds = true := by
  unfold itemsZ at e
  dsimp only at e
  split at e
  · rename_i h; cases e; exact ⟨rfl, h⟩
  · cases e
theorem vi_enum (hX : XOk X c) {e : Expr} {x : Ex} {p pos tpos : Pos} {elts : List Expr} {kk : Nat} (hg : glN c.sc "enumerate" = true) (h : VK' X c e x) (hn : notStar e = true) (ht : ∀ i, t ≠ .nm i) : VI X c (.Tuple elts kk tpos) (.Call (.Name "enumerate" p) [e] [] pos) (.enum x) t where
  it := fun pv => PI.imp (pi_enum (hX.gl hg) (hX.free _ (by decide)) (pa_cons (h.wk pv) pa_nil (starEach_cons (es := []) (env := X.env) hn)) (starEach_cons (es := []) hn)) fun s H R q => by
    obtain ⟨O, Z, r, fp, w, r', hs, e, q⟩ := q
    simp only [evI] at e
    obtain ⟨⟨v, r1⟩, e1, e⟩ := bind_ok_iff.mp e
    dsimp only at e
    split at e
    · rename_i hw
      rw [Bool.and_eq_true] at hw
      obtain ⟨xs, e2, e⟩ := bind_ok_iff.mp e
      cases e
      refine ⟨O, Z, r, fp, v, _, hs, e1, hw.1, fun y H' O' fp' h' x' hy => ?_⟩
      rcases hy with ⟨g1, g2⟩ | ⟨ds', a, vs, g1, rfl, g2, g3, g4⟩
      · rw [hw.2] at g1; cases g1
      · obtain ⟨own, n, d⟩ := v
        cases (show d = .list ds' from g1)
        obtain ⟨rfl, ez⟩ := itemsZ_list e2
        exact ⟨a, vs, rfl, .inl (.inl g2), q _ H' O' fp' h' x' fun M1 mo hM => walk_enum ht mo g2 (no_M1 mo hM g3) (elz_items ez g4)⟩
    · cases e
theorem vi_rev (hX : XOk X c) {e : Expr} {x : Ex} {p pos : Pos} (hg : glN c.sc "reversed" = true) (h : VK' X c e x) (hn : notStar e = true) : VI X c tg (.Call (.Name "reversed" p) [e] [] pos) (.rev x) t where
  it := fun pv => PI.imp (RT.pi_revA (hX.gl hg) (hX.free _ (by decide)) (h.wk pv) (starEach_cons (es := []) hn)) fun s H R q => by
    obtain ⟨O, Z, r, fp, w, r', hs, e, q⟩ := q
    simp only [evI] at e
    obtain ⟨⟨v, r1⟩, e1, e⟩ := bind_ok_iff.mp e
    dsimp only at e
    split at e
    · rename_i hw
      obtain ⟨⟨m, ds⟩, e2, e⟩ := bind_ok_iff.mp e
      cases e
      refine ⟨O, Z, r, fp, v, _, hs, e1, hw, fun y H' O' fp' h' x' hy => ?_⟩
      rcases hy with ⟨g1, g2⟩ | ⟨ds', a, vs, g1, rfl, g2, g3, g4⟩
      · unfold itemsV at e2
        split at e2
        · rename_i ee; rw [ee] at g1; cases g1
        · rename_i xs ee
          cases e2
          rw [ee] at g2
          obtain ⟨a, vs, rfl, k1, k2⟩ := g2.tref
          exact ⟨a, vs, rfl, .inr ⟨k1.sq, q _ H' O' fp' h' x' fun M1 mo hM => walk_revT mo k1 k2⟩⟩
        · cases e2
      · unfold itemsV at e2
        rw [g1] at e2
        cases e2
        exact ⟨a, vs, rfl, .inl ⟨.inl (.inl g2), q _ H' O' fp' h' x' fun M1 mo hM => walk_revL mo (fun a z m => z (hM a m)) g2 (no_M1 mo hM g3) g4⟩⟩
    · cases e
theorem itemsZ_tup {own : Bool} {n : Nat} {ds xs : List D} (e : itemsZ ⟨own, n, .tuple ds⟩ = .ok xs) : xs = ds := by
  unfold itemsZ at e
  cases e
  rfl
theorem itemsZ_any {v : Val} {xs : List D} (e : itemsZ v = .ok xs) : v.d = .list xs ∨ v.d = .tuple xs := by
  unfold itemsZ at e
  split at e
  · rename_i h
    split at e
    · cases e; exact .inl h
    · cases e
  · rename_i h; cases e; exact .inr h
  · cases e
theorem wk_v {K : PySem.W.Frag} {pv : Nat → Option V} {H : Hp} {O Z : Addr → Prop} {s : L2.St} {r : Env} {fp : Fp} (h : StOk K pv H O Z s r fp) {i : Nat} {v : Val} (e : rd i r = .ok v) (hw : wOk1 (.v i) v r = true) : ∃ xv, s[i]? = some (some xv) ∧ WkOk K H O (Mo fp) Z v xv := by
  obtain ⟨xv, h1, h2⟩ := h.rd e
  refine ⟨xv, h1, ?_⟩
  have h2f := h2.freeze
  have eO : (fun a => O a ∧ a ∉ ([] : List Addr)) = O := by
    funext a
    exact propext ⟨fun z => z.1, fun z => ⟨z, List.not_mem_nil⟩⟩
  rw [eO] at h2f
  rcases wOk1_cases hw with hw | ⟨j, ej, hl⟩
  · exact .ofRd h.mok h2f hw
  · cases ej
    obtain ⟨g1, g2⟩ := h.lkv hl e h1
    obtain ⟨o, n, d⟩ := v
    cases (show o = false from g1)
    exact .ofS h.mok g2
theorem RdOk.fz0 {K : PySem.W.Frag} {H : Hp} {O : Addr → Prop} {v : Val} {y : V} (h : RdOk K H O v y) (hv : v.own = true ∨ v.n = 0 ∨ isL v.d = false) : RepF K H (fun a => ¬ O a) v.d y := by
  obtain ⟨own, n, d⟩ := v
  rcases hv with hv | hv | hv
  · cases (show own = true from hv); exact h
  · cases (show n = 0 from hv)
    cases own with
    | true => exact h
    | false => exact h
  · exact h.flat hv
theorem RepF.rd {K : PySem.W.Frag} {H : Hp} {O : Addr → Prop} {v : Val} {y : V} (h : RepF K H (fun a => ¬ O a) v.d y) : RdOk K H O v y := by
  obtain ⟨own, n, d⟩ := v
  cases own with
  | true => exact h
  | false => exact RepF.toB (fun _ _ => trivial) n d y h
theorem notV {x : Ex} {v : Val} {r : Env} (hx : ¬ ∃ i, x = .v i) (hw : wOk1 x v r = true) : v.own = true ∨ v.n = 0 ∨ isL v.d = false := by
  rcases wOk1_cases hw with hw | ⟨j, ej, _⟩
  · exact hw
  · exact absurd ⟨j, ej⟩ hx
theorem tO1_v {K : PySem.W.Frag} {pv : Nat → Option V} {b : Bool} {i : Nat} {f : Env → R (Val × Env)} : tO1 K pv b (.v i) f = tVar i := rfl
theorem tO1_o {K : PySem.W.Frag} {pv : Nat → Option V} {b : Bool} {x : Ex} {f : Env → R (Val × Env)} (hx : ¬ ∃ i, x = .v i) : tO1 K pv b x f = tR K pv b f := by
  cases x <;> first | rfl | exact absurd ⟨_, rfl⟩ hx
/-- the last operand of a walk -/
theorem last_read {K : PySem.W.Frag} {pv : Nat → Option V} {G : Str → Option Fd} {H : Hp} {O Z : Addr → Prop} {s : L2.St} {r r' : Env} {fp : Fp} {x : Ex} {v : Val} {R : V → Hp → Prop} (h : StOk K pv H O Z s r fp) (e : ev G x r = .ok (v, r')) (hw : wOk1 x v r' = true)
    (q : ∀ y H' O' fp', StOk K pv H' O' Z s r' fp' → Ext (!pureX G x) H O (Mo fp) H' O' (Mo fp') → WkOk K H' O' (Mo fp') Z v y → R y H') : tO1 K pv (!pureX G x) x (ev G x) s H R := by
  by_cases hx : ∃ i, x = .v i
  · obtain ⟨i, rfl⟩ := hx
    simp only [ev] at e
    obtain ⟨w, e1, e⟩ := bind_ok_iff.mp e
    cases e
    obtain ⟨xv, h1, h2⟩ := wk_v h e1 hw
    exact ⟨xv, h1, q xv H O fp h .refl h2⟩
  · rw [tO1_o hx]
    exact ⟨O, Z, r, fp, v, r', h, e, fun y H' O' fp' h' x' hy => q y H' O' fp' h' x' (.ofRd h'.mok hy (notV hx hw))⟩
theorem zip_read {K : PySem.W.Frag} {pv : Nat → Option V} {G : Str → Option Fd} {H : Hp} {O Z : Addr → Prop} {s : L2.St} {r r' : Env} {fp : Fp} {x1 x2 : Ex} {va vb : Val} {R : V → V → Hp → Prop} (h : StOk K pv H O Z s r fp) (e : ops (pureX G x2) x1 (ev G x1) (ev G x2) r = .ok ((va, vb), r')) (hwa : wOk1 x1 va r' = true) (hwb : wOk1 x2 vb r' = true)
    (q : ∀ x y H' O' fp', StOk K pv H' O' Z s r' fp' → Ext (!pureX G x1 || !pureX G x2) H O (Mo fp) H' O' (Mo fp') → WkOk K H' O' (Mo fp') Z va x → WkOk K H' O' (Mo fp') Z vb y → R x y H') :
    tO1 K pv (!pureX G x1) x1 (ev G x1) s H fun x H1 => tO1 K pv (!pureX G x2) x2 (ev G x2) s H1 fun y H2 => R x y H2 := by
  unfold ops at e
  obtain ⟨p, e1, e⟩ := bind_ok_iff.mp e
  obtain ⟨⟨vb', r2⟩, e2, e⟩ := bind_ok_iff.mp e
  obtain ⟨va', e3, e⟩ := bind_ok_iff.mp e
  dsimp only at e e2 e3
  injection e with e
  injection e with e e'
  injection e with ea eb
  subst ea eb e'
  by_cases hx : ∃ i, x1 = .v i
  · obtain ⟨i, rfl⟩ := hx
    rw [opx_v] at e1
    obtain ⟨v0, e0, e1⟩ := bind_ok_iff.mp e1
    cases e1
    obtain ⟨xv, hs, _⟩ := h.rd e0
    refine ⟨xv, hs, last_read h e2 hwb fun y H' O' fp' h' x' hy => ?_⟩
    obtain ⟨xv', hs', hv'⟩ := wk_v h' (show rd i r2 = .ok va' from e3) hwa
    rw [hs] at hs'
    cases hs'
    exact q xv y H' O' fp' h' (x'.weak fun e => by rw [e, Bool.or_true]) hv' hy
  · have e1' : (ev G x1 r >>= fun p => match isL p.1.d && !p.1.own && !(pureX G x2) with
      | true => stk
      | false => .ok (.inl p.1, p.2)) = .ok p := by
      cases x1 <;> first | exact e1 | exact absurd ⟨_, rfl⟩ hx
    rw [tO1_o hx]
    obtain ⟨⟨v1, r1⟩, e4, e5⟩ := bind_ok_iff.mp e1'
    dsimp only at e5
    cases hc : isL v1.d && !v1.own && !(pureX G x2) with
    | true => rw [hc] at e5; cases e5
    | false =>
      rw [hc] at e5
      cases e5
      cases e3
      have nv := notV hx hwa
      refine ⟨O, Z, r, fp, _, r1, h, e4, fun x H1 O1 fp1 h1 x1' hx1 => last_read h1 e2 hwb fun y H2 O2 fp2 h2 x2' hy => ?_⟩
      exact q x y H2 O2 fp2 h2 (x1'.trans x2') (.ofRd h2.mok (RepF.rd (x2'.repF h1.mok (hx1.fz0 nv))) nv) hy
theorem vi_zip (hX : XOk X c) {e1 e2 : Expr} {x1 x2 : Ex} {p pos tpos : Pos} {elts : List Expr} {kk : Nat} (hg : glN c.sc "zip" = true) (h1 : VE X c e1 x1) (h2 : VE X c e2 x2) (hn : notStar e1 = true) (hm : notStar e2 = true) (ht : ∀ i, t ≠ .nm i) :
    VI X c (.Tuple elts kk tpos) (.Call (.Name "zip" p) [e1, e2] [] pos) (.zip x1 x2) t where
  it := fun pv => by
    have hp : (backTo pos (starEach [e2] X.env)).any (·.1) = false := by rw [starEach_cons hm]; rfl
    refine PI.imp (RZ.pi_zipA (hX.gl hg) (hX.free _ (by decide)) (pa_cons (h1.o1 (pv := pv)) (pa_cons (h2.o1 (pv := pv)) pa_nil (starEach_cons (es := []) (env := X.env) hm)) (starEach_cons (es := [e2]) (env := X.env) hn)) (starEach_cons (es := [e2]) hn) hp) fun s H R q => ?_
    obtain ⟨O, Z, r, fp, w, r', hs, e, q⟩ := q
    simp only [evI] at e
    obtain ⟨⟨⟨va, vb⟩, r1⟩, e3, e⟩ := bind_ok_iff.mp e
    dsimp only at e
    split at e
    · rename_i hw
      simp only [Bool.and_eq_true, beq_iff_eq] at hw
      obtain ⟨⟨hwa, hwb⟩, hwl⟩ := hw
      obtain ⟨ds, e4, e⟩ := bind_ok_iff.mp e
      obtain ⟨es, e5, e⟩ := bind_ok_iff.mp e
      cases e
      have key : ∀ x y H' O' fp', StOk X.K pv H' O' Z s r' fp' → Ext (!pureX c.G x1 || !pureX c.G x2) H O (Mo fp) H' O' (Mo fp') → WkOk X.K H' O' (Mo fp') Z va x → WkOk X.K H' O' (Mo fp') Z vb y →
          ∃ a b xs ys, [x, y] = [V.ref a, V.ref b] ∧ ((SqL X.K H' a xs ∧ SqL X.K H' b ys ∧ R (Itz X.K a b) H') ∨ (SqT X.K H' a xs ∧ SqT X.K H' b ys ∧ R (RZ.ItzT X.K a b) H')) := fun x y H' O' fp' h' x' hx hy => by
        have x2 : Ext (!pureX c.G (.zip x1 x2)) H O (Mo fp) H' O' (Mo fp') := x'.weak fun e => by simp only [pureX]; simp_all
        rcases hx with ⟨g1, g2⟩ | ⟨d1, a, vs, g1, rfl, g2, g3, g4⟩
        · rcases hy with ⟨k1, k2⟩ | ⟨d2, b, us, k1, rfl, k2, k3, k4⟩
          · rcases itemsZ_any e4 with u1 | u1
            · rw [u1] at g1; cases g1
            · rcases itemsZ_any e5 with u2 | u2
              · rw [u2] at k1; cases k1
              · rw [u1] at g2
                rw [u2] at k2
                obtain ⟨a, vs, rfl, a1, a2⟩ := g2.tref
                obtain ⟨b, us, rfl, b1, b2⟩ := k2.tref
                exact ⟨a, b, vs, us, rfl, .inr ⟨a1.sq, b1.sq, q _ H' O' fp' h' x2 fun M1 mo hM => walk_zipT ht mo a1 b1 a2 b2⟩⟩
          · rw [g1, k1] at hwl; cases hwl
        · rcases hy with ⟨k1, k2⟩ | ⟨d2, b, us, k1, rfl, k2, k3, k4⟩
          · rw [k1, g1] at hwl; cases hwl
          · obtain ⟨own, n, d⟩ := va
            cases (show d = .list d1 from g1)
            obtain ⟨own2, n2, d⟩ := vb
            cases (show d = .list d2 from k1)
            obtain ⟨rfl, ez⟩ := itemsZ_list e4
            obtain ⟨rfl, ez2⟩ := itemsZ_list e5
            exact ⟨a, b, vs, us, rfl, .inl ⟨.inl (.inl g2), .inl (.inl k2), q _ H' O' fp' h' x2 fun M1 mo hM => walk_zipL ht mo g2 (no_M1 mo hM g3) k2 (no_M1 mo hM k3) (elz_items ez g4) (elz_items ez2 k4)⟩⟩
      exact zip_read hs e3 hwa hwb key
    · cases e
end
end VL
/-! VL: ranges. -/
namespace VL
open PySem PySem.Spec PyProof.Rows L2
section
variable {X : Cx} {c : Cc} {tg : Expr} {t : Tg}
theorem two_read {K : PySem.W.Frag} {pv : Nat → Option V} {G : Str → Option Fd} {H : Hp} {O Z : Addr → Prop} {s : L2.St} {r r1 r2 : Env} {fp : Fp} {x1 x2 : Ex} {va vb : Val} {i j : Int} {R : V → V → Hp → Prop} (h : StOk K pv H O Z s r fp)
    (e1 : ev G x1 r = .ok (va, r1)) (i1 : asI va.d = .ok i) (e2 : ev G x2 r1 = .ok (vb, r2)) (i2 : asI vb.d = .ok j)
    (q : ∀ H' O' fp', StOk K pv H' O' Z s r2 fp' → Ext (!pureX G x1 || !pureX G x2) H O (Mo fp) H' O' (Mo fp') → R (.int i) (.int j) H') :
    tR K pv (!pureX G x1) (ev G x1) s H fun x H1 => tR K pv (!pureX G x2) (ev G x2) s H1 fun y H2 => R x y H2 :=
  ⟨O, Z, r, fp, va, r1, h, e1, fun x H1 O1 fp1 h1 x1' hx => ⟨O1, Z, r1, fp1, vb, r2, h1, e2, fun y H2 O2 fp2 h2 x2' hy => by
    rw [hx.ii i1, hy.ii i2]
    exact q H2 O2 fp2 h2 (x1'.trans x2')⟩⟩
theorem vi_rng1 (hX : XOk X c) {a : Expr} {xa : Ex} {p pos : Pos} (hg : glN c.sc "range" = true) (ha : VE X c a xa) (hn : notStar a = true) : VI X c tg (.Call (.Name "range" p) [a] [] pos) (.rng (.c (.int 0)) xa) t where
  it := fun pv => PI.imp (pi_range1 (hX.gl hg) (hX.free _ (by decide)) (pa_cons (PEtR (ha.val pv)) pa_nil (starEach_cons (es := []) (env := X.env) hn)) (starEach_cons (es := []) hn)) fun s H R q => by
    obtain ⟨O, Z, r, fp, w, r', hs, e, q⟩ := q
    simp only [evI, ev] at e
    obtain ⟨p0, e0, e⟩ := bind_ok_iff.mp e
    cases e0
    obtain ⟨i, ei, e⟩ := bind_ok_iff.mp e
    cases ei
    obtain ⟨⟨vb, r2⟩, e2, e⟩ := bind_ok_iff.mp e
    obtain ⟨j, ej, e⟩ := bind_ok_iff.mp e
    dsimp only at e
    split at e
    · rename_i hb
      cases e
      rw [Bool.and_eq_true] at hb
      obtain ⟨b1, b2⟩ := bnd_ok hb.2
      refine ⟨O, Z, r, fp, vb, _, hs, e2, fun y H' O' fp' h' x' hy => ⟨j, by rw [hy.ii ej], b1, b2, ?_⟩⟩
      have e0 : (j - 0).toNat = j.toNat := by rw [Int.sub_zero]
      refine q _ H' O' fp' h' (x'.weak fun e => ?_) (fun _ _ _ => by rw [e0]; exact walk_rng)
      simp only [pureX]
      simpa using e
    · cases e
theorem vi_rng2 (hX : XOk X c) {a b : Expr} {xa xb : Ex} {p pos : Pos} (hg : glN c.sc "range" = true) (ha : VE X c a xa) (hb : VE X c b xb) (hn : notStar a = true) (hm : notStar b = true) : VI X c tg (.Call (.Name "range" p) [a, b] [] pos) (.rng xa xb) t where
  it := fun pv => PI.imp (pi_range2 (hX.gl hg) (hX.free _ (by decide)) (pa_cons (PEtR (ha.val pv)) (pa_cons (PEtR (hb.val pv)) pa_nil (starEach_cons (es := []) (env := X.env) hm)) (starEach_cons (es := [b]) (env := X.env) hn)) (by rw [starEach_cons hn, starEach_cons hm]; rfl) (starEach_cons (es := []) hm)) fun s H R q => by
    obtain ⟨O, Z, r, fp, w, r', hs, e, q⟩ := q
    simp only [evI] at e
    obtain ⟨⟨va, r1⟩, e1, e⟩ := bind_ok_iff.mp e
    obtain ⟨i, ei, e⟩ := bind_ok_iff.mp e
    obtain ⟨⟨vb, r2⟩, e2, e⟩ := bind_ok_iff.mp e
    obtain ⟨j, ej, e⟩ := bind_ok_iff.mp e
    dsimp only at e
    split at e
    · rename_i hb
      cases e
      rw [Bool.and_eq_true] at hb
      obtain ⟨b1, b2⟩ := bnd_ok hb.2
      obtain ⟨b3, b4⟩ := bnd_ok hb.1
      refine two_read hs e1 ei e2 ej fun H' O' fp' h' x' => ⟨i, j, rfl, ⟨b3, b4, b1, b2⟩, ?_⟩
      refine q _ H' O' fp' h' (x'.weak fun e => ?_) (fun _ _ _ => walk_rng)
      simp only [pureX]
      simp_all
    · cases e
/-- the step: -1 -/
theorem vi_rngd (hX : XOk X c) {a b d : Expr} {xa xb : Ex} {p pos : Pos} (hg : glN c.sc "range" = true) (ha : VE X c a xa) (hb : VE X c b xb) (hd : PE X d (tC (.int (-1)))) (hn : notStar a = true) (hm : notStar b = true) (hk : notStar d = true) :
    VI X c tg (.Call (.Name "range" p) [a, b, d] [] pos) (.rngd xa xb) t where
  it := fun pv => by
    have hp : (backTo pos (starEach [b, d] X.env)).any (·.1) = false := by rw [starEach_cons hm, starEach_cons hk]; rfl
    refine PI.imp (pi_range3 (hX.gl hg) (hX.free _ (by decide)) (pa_cons (PEtR (ha.val pv)) (pa_cons (PEtR (hb.val pv)) (pa_cons hd pa_nil (starEach_cons (es := []) (env := X.env) hk)) (starEach_cons (es := [d]) (env := X.env) hm)) (starEach_cons (es := [b, d]) (env := X.env) hn)) (starEach_cons hn) hp) fun s H R q => ?_
    obtain ⟨O, Z, r, fp, w, r', hs, e, q⟩ := q
    simp only [evI] at e
    obtain ⟨⟨va, r1⟩, e1, e⟩ := bind_ok_iff.mp e
    obtain ⟨i, ei, e⟩ := bind_ok_iff.mp e
    obtain ⟨⟨vb, r2⟩, e2, e⟩ := bind_ok_iff.mp e
    obtain ⟨j, ej, e⟩ := bind_ok_iff.mp e
    dsimp only at e
    split at e
    · rename_i hb
      cases e
      rw [Bool.and_eq_true] at hb
      obtain ⟨b1, b2⟩ := bnd_ok hb.2
      obtain ⟨b3, b4⟩ := bnd_ok hb.1
      refine two_read hs e1 ei e2 ej fun H' O' fp' h' x' => ⟨i, j, -1, (i - j).toNat, rfl, RgC.neg b3 b4 b1 b2, ?_⟩
      refine q _ H' O' fp' h' (x'.weak fun e => ?_) (fun _ _ _ => walk_rngd)
      simp only [pureX]
      simp_all
    · cases e
theorem vi_rrng1 (hX : XOk X c) {a : Expr} {xa : Ex} {p p2 pos pos2 : Pos} (hg : glN c.sc "range" = true) (hr : glN c.sc "reversed" = true) (ha : VE X c a xa) (hn : notStar a = true) : VI X c tg (.Call (.Name "reversed" p) [.Call (.Name "range" p2) [a] [] pos2] [] pos) (.rrng (.c (.int 0)) xa) t where
  it := fun pv => PI.imp (pi_revR (hX.gl hr) (hX.free _ (by decide)) (prg_1 (hX.gl hg) (hX.free _ (by decide)) (PEtR (ha.val pv)) (starEach_cons (es := []) hn)) rfl) fun s H R q => by
    obtain ⟨O, Z, r, fp, w, r', hs, e, q⟩ := q
    simp only [evI, ev] at e
    obtain ⟨p0, e0, e⟩ := bind_ok_iff.mp e
    cases e0
    obtain ⟨i, ei, e⟩ := bind_ok_iff.mp e
    cases ei
    obtain ⟨⟨vb, r2⟩, e2, e⟩ := bind_ok_iff.mp e
    obtain ⟨j, ej, e⟩ := bind_ok_iff.mp e
    dsimp only at e
    split at e
    · rename_i hb
      cases e
      rw [Bool.and_eq_true] at hb
      obtain ⟨b1, b2⟩ := bnd_ok hb.2
      refine ⟨O, Z, r, fp, vb, _, hs, e2, fun y H' O' fp' h' x' hy => ⟨j, by rw [hy.ii ej], by decide, by decide, b1, b2, ?_⟩⟩
      have wk : ∀ M1 : Addr → Prop, WalkOk X.K t (Itc (0 + (((j - 0).toNat : Nat) : Int) - 1) (-1) (j - 0).toNat) H' O' M1 (fun a => ¬ (Mo fp' a ∨ Z a)) 0 (rngdL (j - 1) (j - 0).toNat) := fun M1 => by
        by_cases hj : 0 < j
        · have e0 : 0 + (((j - 0).toNat : Nat) : Int) - 1 = j - 1 := by omega
          rw [e0]
          exact walk_rngd
        · have e0 : (j - 0).toNat = 0 := by omega
          rw [e0]
          have e1 : rngdL (j - 1) 0 = rngdL (0 + ((0 : Nat) : Int) - 1) 0 := rfl
          rw [e1]
          exact walk_rngd
      refine q _ H' O' fp' h' (x'.weak fun e => ?_) (fun _ mo hM => wk _)
      simp only [pureX]
      simpa using e
    · cases e
theorem vi_rrng2 (hX : XOk X c) {a b : Expr} {xa xb : Ex} {p p2 pos pos2 : Pos} (hg : glN c.sc "range" = true) (hr : glN c.sc "reversed" = true) (ha : VE X c a xa) (hb : VE X c b xb) (hn : notStar a = true) (hm : notStar b = true) : VI X c tg (.Call (.Name "reversed" p) [.Call (.Name "range" p2) [a, b] [] pos2] [] pos) (.rrng xa xb) t where
  it := fun pv => by
    have hp : (backTo pos2 (starEach [b] X.env)).any (·.1) = false := by rw [starEach_cons hm]; rfl
    refine PI.imp (pi_revR (hX.gl hr) (hX.free _ (by decide)) (prg_2 (hX.gl hg) (hX.free _ (by decide)) (PEtR (ha.val pv)) (PEtR (hb.val pv)) (starEach_cons hn) (starEach_cons hm) hp) rfl) fun s H R q => ?_
    obtain ⟨O, Z, r, fp, w, r', hs, e, q⟩ := q
    simp only [evI] at e
    obtain ⟨⟨va, r1⟩, e1, e⟩ := bind_ok_iff.mp e
    obtain ⟨i, ei, e⟩ := bind_ok_iff.mp e
    obtain ⟨⟨vb, r2⟩, e2, e⟩ := bind_ok_iff.mp e
    obtain ⟨j, ej, e⟩ := bind_ok_iff.mp e
    dsimp only at e
    split at e
    · rename_i hb
      cases e
      rw [Bool.and_eq_true] at hb
      obtain ⟨b1, b2⟩ := bnd_ok hb.2
      obtain ⟨b3, b4⟩ := bnd_ok hb.1
      refine two_read hs e1 ei e2 ej fun H' O' fp' h' x' => ⟨i, j, rfl, rfl, b3, b4, b1, b2, ?_⟩
      have wk : ∀ M1 : Addr → Prop, WalkOk X.K t (Itc (i + (((j - i).toNat : Nat) : Int) - 1) (-1) (j - i).toNat) H' O' M1 (fun a => ¬ (Mo fp' a ∨ Z a)) 0 (rngdL (j - 1) (j - i).toNat) := fun M1 => by
        by_cases hj : i < j
        · have e0 : i + (((j - i).toNat : Nat) : Int) - 1 = j - 1 := by omega
          rw [e0]
          exact walk_rngd
        · have e0 : (j - i).toNat = 0 := by omega
          rw [e0]
          have e1 : rngdL (j - 1) 0 = rngdL (i + ((0 : Nat) : Int) - 1) 0 := rfl
          rw [e1]
          exact walk_rngd
      refine q _ H' O' fp' h' (x'.weak fun e => ?_) (fun _ mo hM => wk _)
      simp only [pureX]
      simp_all
    · cases e
end
end VL
/-! VL: locks; a block's own names. -/
namespace VL
open PySem PySem.Spec PyProof.Rows L2
section
variable {K : PySem.W.Frag} {pv : Nat → Option V} {H H' H2 : Hp} {O O' O2 M M' M2 Z Z' Z2 N N' : Addr → Prop} {s s2 : L2.St} {r r' r2 : Env} {fp fp' fp2 : Fp} {b b2 : Bool}
def lkFp (is : List Nat) (r : Env) (fp : Fp) : Fp := fun j => if is.contains j && isOm r[j]? then [] else fp j
theorem mo_lkFp {is : List Nat} {a : Addr} (h : Mo (lkFp is r fp) a) : ∃ j, a ∈ fp j ∧ (is.contains j && isOm r[j]?) = false := by
  obtain ⟨j, h⟩ := h
  unfold lkFp at h
  split at h
  · cases h
  · rename_i q
    exact ⟨j, h, by simpa using q⟩
theorem lockE_at {is : List Nat} {j : Nat} : (lockE is r)[j]? = (r[j]?).map fun x => if is.contains j then lockS x else x := by
  unfold lockE
  rw [List.getElem?_mapIdx]
theorem StOk.lock (h : StOk K pv H O Z s r fp) (is : List Nat) : StOk K pv H O Z s (lockE is r) (lkFp is r fp) := by
  have hM : ∀ a, Mo (lkFp is r fp) a → Mo fp a := fun a q => by
    obtain ⟨j, h1, _⟩ := mo_lkFp q
    exact ⟨j, h1⟩
  have same : ∀ j x, SlOk K H O (fun a => Mo fp a ∨ Z a) (pv j) s[j]? x (fp j) → SlOk K H O (fun a => Mo (lkFp is r fp) a ∨ Z a) (pv j) s[j]? x (fp j) := fun j x q =>
    q.keep (Keeps.id fun a _ q => q) (Keeps.id fun a _ q z => q (z.imp (hM a) id)) fun a _ vs e o => ⟨e, o⟩
  have ow : ∀ j n d v, (is.contains j && isOm r[j]?) = true → RepO K H O n d v (fp j) → RepB K H (fun a => ¬ (Mo (lkFp is r fp) a ∨ Z a)) (fun a => ¬ O a) n d v := fun j n d v hj w => by
    refine (RepO.toB n d v _ w).mono (fun a ha z => ?_) fun _ q => q
    rcases z with z | z
    · obtain ⟨k, h1, h2⟩ := mo_lkFp z
      have := h.dj j k a ha h1
      subst this
      rw [hj] at h2
      cases h2
    · exact h.zm a z ⟨j, ha⟩
  refine ⟨by unfold lockE; rw [List.length_mapIdx]; exact h.len, fun j x e => ?_, fun a z m => h.zm a z (hM a m), h.ze, fun j e => ?_, fun j => ?_, fun i j a h1 h2 => ?_⟩
  · rw [lockE_at] at e
    cases q : r[j]? with
    | none => rw [q] at e; cases e
    | some y =>
      rw [q] at e
      have e := Option.some.inj e
      have w := h.sl j y q
      cases hc : is.contains j with
      | false =>
        rw [hc] at e
        simp only [Bool.false_eq_true, if_false] at e
        subst e
        have ef : lkFp is r fp j = fp j := by unfold lkFp; rw [hc]; rfl
        rw [ef]
        exact same j y w
      | true =>
        rw [hc] at e
        simp only [if_true] at e
        subst e
        cases y with
        | ow n d =>
          have hj : (is.contains j && isOm r[j]?) = true := by rw [hc, q]; rfl
          have ef : lkFp is r fp j = [] := by unfold lkFp; rw [hj]; rfl
          rw [ef]
          obtain ⟨v, ev, w⟩ := w
          exact ⟨⟨v, ev, ow j n d v hj w⟩, rfl⟩
        | mt n d =>
          have hj : (is.contains j && isOm r[j]?) = true := by rw [hc, q]; rfl
          have ef : lkFp is r fp j = [] := by unfold lkFp; rw [hj]; rfl
          rw [ef]
          obtain ⟨v, ev, _, w⟩ := w
          exact ⟨⟨v, ev, ow j n d v hj w⟩, rfl⟩
        | no =>
          have ef : lkFp is r fp j = fp j := by unfold lkFp; rw [hc, q]; rfl
          rw [ef]; exact same j _ w
        | fz d =>
          have ef : lkFp is r fp j = fp j := by unfold lkFp; rw [hc, q]; rfl
          rw [ef]; exact same j _ w
        | lk n d =>
          have ef : lkFp is r fp j = fp j := by unfold lkFp; rw [hc, q]; rfl
          rw [ef]; exact same j _ w
  · rw [lockE_at] at e
    have e : r[j]? = none := by
      cases q : r[j]? with
      | none => rfl
      | some y => rw [q] at e; cases e
    unfold lkFp
    rw [e]
    simp only [isOm, Bool.and_false, Bool.false_eq_true, if_false]
    exact h.out j e
  · unfold lkFp
    split
    · exact List.nodup_nil
    · exact h.nd j
  · have g : ∀ k, a ∈ lkFp is r fp k → a ∈ fp k := fun k q => by
      unfold lkFp at q
      split at q
      · cases q
      · exact q
    exact h.dj i j a (g i h1) (g j h2)
theorem unl_len {is : List Nat} {st : Nat → Bool} : (unl is st r r2).length = r2.length := by
  unfold unl
  split
  · rw [List.length_mapIdx]
  · rfl
/-- the roots are opened; others' lists may have changed -/
theorem unl_okM {is : List Nat} {st : Nat → Bool} (h : StOk K pv H O Z s r fp) (h2 : StOk K pv H2 O2 Z2 s2 r2 fp2) (x : Ext b H O M H2 O2 M2) (mo1 : MOk H O M) (hMM : ∀ a, M a → Mo (lkFp is r fp) a ∨ Z a) (h2M : ∀ a, Mo fp2 a → M2 a) (hZ : ∀ a, Z2 a → Z a ∨ Mo (lkFp is r fp) a ∨ H a = none)
    (hs : ∀ j, st j = false → s2[j]? = s[j]?) (hi : ∀ j, is.contains j = true → st j = false) (hl : s2.length = s.length) : ∃ fp3, StOk K pv H2 O2 Z2 s2 (unl is st r r2) fp3 ∧ (∀ a, Mo fp3 a → Mo fp2 a ∨ Mo fp a) := by
  have hM : ∀ a, Mo (lkFp is r fp) a → Mo fp a := fun a q => by
    obtain ⟨j, h1, _⟩ := mo_lkFp q
    exact ⟨j, h1⟩
  cases hany : is.any fun i => isOm r[i]? with
  | false =>
    refine ⟨fp2, ?_, fun a q => .inl q⟩
    unfold unl
    rw [hany]
    exact h2
  | true =>
    let L : Nat → Bool := fun j => is.contains j && isOm r[j]?
    have er : unl is st r r2 = r2.mapIdx fun j x => match r[j]? with
      | some y => if is.contains j && isOm (some y) then y else match x with
        | .lk _ _ => match y with
          | .lk n d => if st j then .no else .lk n d
          | _ => .no
        | x => x
      | none => x := by
      unfold unl
      rw [hany]
      rfl
    have lenr : r2.length = r.length := by rw [← h2.len, hl, h.len]
    -- an address of a locked footprint
    have apart : ∀ i a, L i = true → a ∈ fp i → ¬ Mo (lkFp is r fp) a := fun i a hi ha m => by
      obtain ⟨j, h1, h3⟩ := mo_lkFp m
      have := h.dj i j a ha h1
      subst this
      have hi : (is.contains i && isOm r[i]?) = true := hi
      rw [hi] at h3
      cases h3
    have live : ∀ i a, a ∈ fp i → ∃ o, H a = some o := fun i a ha => by
      obtain ⟨_, vs, e⟩ := h.has ha
      exact ⟨_, e⟩
    have apartM : ∀ i a, L i = true → a ∈ fp i → ¬ M a := fun i a hi ha m => (hMM a m).elim (apart i a hi ha) fun z => h.zm a z ⟨i, ha⟩
    have apart2 : ∀ i a, L i = true → a ∈ fp i → ¬ Mo fp2 a := fun i a hi ha m => by
      rcases x.sub a (h2M a m) with q | q
      · exact apartM i a hi ha q
      · obtain ⟨o, e⟩ := live i a ha
        rw [q] at e; cases e
    let fp3 : Fp := fun j => if L j then fp j else fp2 j
    have hM3 : ∀ a, Mo fp3 a → Mo fp2 a ∨ Mo fp a := fun a ⟨j, hj⟩ => by
      by_cases e : L j = true
      · exact .inr ⟨j, by simpa only [fp3, e, if_true] using hj⟩
      · exact .inl ⟨j, by simpa only [fp3, e, Bool.false_eq_true, if_false] using hj⟩
    refine ⟨fp3, ?_, hM3⟩
    refine ⟨by rw [unl_len]; exact h2.len, fun j y e => ?_, fun a z m => ?_, h2.ze, fun j e => ?_, fun j => ?_, fun i j a g1 g2 => ?_⟩
    · rw [er, List.getElem?_mapIdx] at e
      cases q2 : r2[j]? with
      | none => rw [q2] at e; cases e
      | some y2 =>
        rw [q2] at e
        have e := Option.some.inj e
        have hj : j < r2.length := (List.getElem?_eq_some_iff.mp q2).1
        have q1 : r[j]? = some (r[j]'(by omega)) := List.getElem?_eq_getElem _
        generalize r[j]'(by omega) = y1 at q1
        rw [q1] at e
        dsimp only at e
        cases hL : L j with
        | true =>
          have hL' : (is.contains j && isOm (some y1)) = true := by rw [← q1]; exact hL
          rw [hL'] at e
          simp only [if_true] at e
          subst e
          have ef : fp3 j = fp j := by simp only [fp3, hL, if_true]
          rw [ef]
          have hc : is.contains j = true := by rw [Bool.and_eq_true] at hL'; exact hL'.1
          rw [hs j (hi j hc)]
          have w := h.sl j _ q1
          have hf : ∀ a ∈ fp j, ¬ M a := fun a ha => apartM j a hL ha
          cases y1 with
          | ow n d => obtain ⟨v, ev, w⟩ := w; exact ⟨v, ev, x.repO mo1 hf w⟩
          | mt n d => obtain ⟨v, ev, ep, w⟩ := w; exact ⟨v, ev, ep, x.repO mo1 hf w⟩
          | no => simp [isOm] at hL'
          | fz d => simp [isOm] at hL'
          | lk n d => simp [isOm] at hL'
        | false =>
          have hL' : (is.contains j && isOm (some y1)) = false := by rw [← q1]; exact hL
          rw [hL'] at e
          simp only [Bool.false_eq_true, if_false] at e
          have ef : fp3 j = fp2 j := by simp only [fp3, hL]; rfl
          rw [ef]
          have w2 := h2.sl j _ q2
          cases y2 with
          | no => dsimp only at e; subst e; exact w2
          | fz d => dsimp only at e; subst e; exact w2
          | ow n d => dsimp only at e; subst e; exact w2
          | mt n d => dsimp only at e; subst e; exact w2
          | lk n2 d2 =>
            have e0 : fp2 j = [] := w2.2
            rw [e0]
            dsimp only at e
            cases y1 with
            | lk n d =>
              dsimp only at e
              cases hst : st j with
              | true => rw [hst] at e; simp only [if_true] at e; subst e; rfl
              | false =>
                rw [hst] at e
                simp only [Bool.false_eq_true, if_false] at e
                subst e
                rw [hs j hst]
                obtain ⟨⟨v, ev, w⟩, _⟩ := h.sl j _ q1
                refine ⟨⟨v, ev, RepB.keep ⟨fun a vs k1 k2 => ⟨x.keep a _ k1 fun m => (hMM a m).elim (fun m => k2 (.inl (hM a m))) fun m => k2 (.inr m), fun z => ?_⟩, (x.keepsF (K := K) mo1).frz⟩ (x.keepsF mo1) n d v w⟩, rfl⟩
                have fresh : H a ≠ none := by rw [k1]; exact fun z => nomatch z
                rcases z with z | z
                · rcases hM3 a z with z | z
                  · rcases x.sub a (h2M a z) with z | z
                    · exact (hMM a z).elim (fun m => k2 (.inl (hM a m))) fun m => k2 (.inr m)
                    · exact fresh z
                  · exact k2 (.inl z)
                · rcases hZ a z with z | z | z
                  · exact k2 (.inr z)
                  · exact k2 (.inl (hM a z))
                  · exact fresh z
            | no => dsimp only at e; subst e; rfl
            | fz d => dsimp only at e; subst e; rfl
            | ow n d => dsimp only at e; subst e; rfl
            | mt n d => dsimp only at e; subst e; rfl
    · obtain ⟨j, hj⟩ := m
      by_cases hL : L j = true
      · have hj : a ∈ fp j := by simpa only [fp3, hL, if_true] using hj
        rcases hZ a z with z | z | z
        · exact h.zm a z ⟨j, hj⟩
        · exact apart j a hL hj z
        · obtain ⟨o, e⟩ := live j a hj
          rw [z] at e; cases e
      · exact h2.zm a z ⟨j, by simpa only [fp3, hL, Bool.false_eq_true, if_false] using hj⟩
    · have e2 : r2[j]? = none := by
        rw [List.getElem?_eq_none_iff] at e ⊢
        rw [unl_len] at e
        exact e
      have e1 : r[j]? = none := by
        rw [List.getElem?_eq_none_iff] at e2 ⊢
        omega
      have hL : L j = false := by show (is.contains j && isOm r[j]?) = false; rw [e1]; simp [isOm]
      show (if L j then fp j else fp2 j) = []
      rw [hL]
      exact h2.out j e2
    · show (if L j then fp j else fp2 j).Nodup
      split
      · exact h.nd j
      · exact h2.nd j
    · by_cases hi' : L i = true
      · have g1 : a ∈ fp i := by simpa only [fp3, hi', if_true] using g1
        by_cases hj' : L j = true
        · exact h.dj i j a g1 (by simpa only [fp3, hj', if_true] using g2)
        · exact absurd ⟨j, by simpa only [fp3, hj', Bool.false_eq_true, if_false] using g2⟩ (apart2 i a hi' g1)
      · have g1 : a ∈ fp2 i := by simpa only [fp3, hi', Bool.false_eq_true, if_false] using g1
        by_cases hj' : L j = true
        · exact absurd ⟨i, g1⟩ (apart2 j a hj' (by simpa only [fp3, hj', if_true] using g2))
        · exact h2.dj i j a g1 (by simpa only [fp3, hj', Bool.false_eq_true, if_false] using g2)
/-- the roots are opened -/
theorem unl_ok {is : List Nat} {st : Nat → Bool} (h : StOk K pv H O Z s r fp) (h2 : StOk K pv H2 O2 Z2 s2 r2 fp2) (x : Ext b H O (Mo (lkFp is r fp)) H2 O2 (Mo fp2)) (hZ : ∀ a, Z2 a → Z a ∨ Mo (lkFp is r fp) a ∨ H a = none)
    (hs : ∀ j, st j = false → s2[j]? = s[j]?) (hi : ∀ j, is.contains j = true → st j = false) (hl : s2.length = s.length) : ∃ fp3, StOk K pv H2 O2 Z2 s2 (unl is st r r2) fp3 ∧ (∀ a, Mo fp3 a → Mo fp2 a ∨ Mo fp a) :=
  unl_okM h h2 x (fun a q => h.mok a (by obtain ⟨j, h1, _⟩ := mo_lkFp q; exact ⟨j, h1⟩)) (fun _ m => .inl m) (fun _ m => m) hZ hs hi hl
/-- from ahead of the lock to behind it -/
theorem unl_ext {is : List Nat} {fp3 : Fp} {tf : List Addr} (x : Ext b H O (Mo (lkFp is r fp)) H2 O2 (MoT fp2 tf)) (h3 : ∀ a, Mo fp3 a → Mo fp2 a ∨ Mo fp a) : Ext b H O (Mo fp) H2 O2 (MoT fp3 tf) := by
  have hM : ∀ a, Mo (lkFp is r fp) a → Mo fp a := fun a q => by
    obtain ⟨j, h1, _⟩ := mo_lkFp q
    exact ⟨j, h1⟩
  refine ⟨fun a o e m => x.keep a o e fun z => m (hM a z), fun a o e m => x.own a o e fun z => m (hM a z), x.live, fun a m => ?_, x.same⟩
  rcases m with m | m
  · rcases h3 a m with m | m
    · exact (x.sub a (.inl m)).imp (hM a) id
    · exact .inl m
  · exact (x.sub a (.inr m)).imp (hM a) id
/-- a block's own names are forgotten -/
theorem wipe_ok (vs : List Nat) : ∀ {s : L2.St} {r : Env} {fp : Fp}, StOk K pv H O Z s r fp → ∃ fp', StOk K pv H O Z (wipe s vs) (wipeS vs r) fp' ∧ ∀ a, Mo fp' a → Mo fp a := by
  induction vs with
  | nil => exact fun h => ⟨_, h, fun _ q => q⟩
  | cons v vs ih =>
    intro s r fp h
    obtain ⟨fp1, h1, m1⟩ := ih h
    show ∃ fp', StOk K pv H O Z ((wipe s vs).set v none) ((wipeS vs r).set v .no) fp' ∧ _
    by_cases hv : v < (wipeS vs r).length
    · refine ⟨upF fp1 v [], h1.put hv rfl List.nodup_nil (fun _ _ _ z => by cases z) (fun a q => q.imp (fun q => (mo_upF_nil q).1) id) fun a z q => h1.zm a z (mo_upF_nil q).1, fun a q => m1 a (mo_upF_nil q).1⟩
    · have e1 : (wipeS vs r).set v .no = wipeS vs r := List.set_eq_of_length_le (by omega)
      have e2 : (wipe s vs).set v none = wipe s vs := List.set_eq_of_length_le (by rw [h1.len]; omega)
      rw [e1, e2]
      exact ⟨fp1, h1, m1⟩
theorem wipe_at {s : L2.St} {i : Nat} : ∀ {vs : List Nat}, (wipe s vs)[i]? = if i ∈ vs then (s[i]?).map fun _ => none else s[i]?
  | [] => by simp [wipe]
  | v :: vs => by
    unfold wipe
    by_cases h : v = i
    · subst h
      by_cases hv : v < s.length
      · rw [List.getElem?_set_self (by rw [wipe_length]; exact hv)]
        simp [hv]
      · rw [List.getElem?_eq_none (by simp [wipe_length]; omega)]
        simp [List.getElem?_eq_none (Nat.not_lt.mp hv)]
    · rw [List.getElem?_set_ne h, wipe_at]
      have : i ≠ v := fun e => h e.symm
      simp [this]
theorem wipe_eq {s s' : L2.St} {vs : List Nat} (hl : s'.length = s.length) (h : ∀ i, i ∉ vs → s'[i]? = (wipe s vs)[i]?) : wipe s' vs = wipe s vs := by
  apply List.ext_getElem?
  intro i
  by_cases hi : i ∈ vs
  · rw [wipe_at, wipe_at, if_pos hi, if_pos hi]
    by_cases hk : i < s.length
    · rw [List.getElem?_eq_getElem hk, List.getElem?_eq_getElem (by omega)]
      rfl
    · rw [List.getElem?_eq_none (by omega), List.getElem?_eq_none (by omega)]
  · rw [wipe_at, if_neg hi, h i hi]
theorem wipeS_len {vs : List Nat} : (wipeS vs r).length = r.length := by
  unfold wipeS
  induction vs with
  | nil => rfl
  | cons v vs ih => rw [List.foldr_cons, List.length_set, ih]
theorem backS_len {vs : List Nat} {r0 : Env} : (backS vs r0 r).length = r.length := by
  unfold backS
  induction vs with
  | nil => rfl
  | cons v vs ih => rw [List.foldr_cons, List.length_set, ih]
theorem backS_at {r0 : Env} {i : Nat} : ∀ {vs : List Nat}, (backS vs r0 r)[i]? = if i ∈ vs then (r[i]?).map fun _ => bk1 r0[i]? else r[i]?
  | [] => by simp [backS]
  | v :: vs => by
    show ((backS vs r0 r).set v (bk1 r0[v]?))[i]? = _
    by_cases h : v = i
    · subst h
      by_cases hv : v < r.length
      · rw [List.getElem?_set_self (by rw [backS_len]; exact hv)]
        simp [hv]
      · rw [List.getElem?_eq_none (by rw [List.length_set, backS_len]; omega)]
        simp [List.getElem?_eq_none (Nat.not_lt.mp hv)]
    · rw [List.getElem?_set_ne h, backS_at]
      have : i ≠ v := fun e => h e.symm
      simp [this]
/-- .. and put back -/
theorem back_ok {vs : List Nat} (h : StOk K pv H O Z s r fp) (h2 : StOk K pv H2 O2 Z2 (wipe s vs) r2 fp2) (x : Ext b H O (Mo fp) H2 O2 M2) : StOk K pv H2 O2 Z2 s (backS vs r r2) fp2 := by
  have lenr : r2.length = r.length := by rw [← h2.len, wipe_length, h.len]
  refine ⟨by rw [backS_len, lenr]; exact h.len, fun j y e => ?_, h2.zm, h2.ze, fun j e => ?_, h2.nd, h2.dj⟩
  · rw [backS_at] at e
    by_cases hj : j ∈ vs
    · rw [if_pos hj] at e
      cases q : r2[j]? with
      | none => rw [q] at e; cases e
      | some y2 =>
        rw [q] at e
        have e : bk1 r[j]? = y := Option.some.inj e
        have w2 := h2.sl j _ q
        rw [wipe_at, if_pos hj] at w2
        have e0 : fp2 j = [] := by
          cases y2 with
          | no => exact w2
          | fz d => exact w2.2
          | lk n d => exact w2.2
          | ow n d =>
            obtain ⟨v, ev, _⟩ := w2
            cases q : s[j]? <;> rw [q] at ev <;> cases ev
          | mt n d =>
            obtain ⟨v, ev, _⟩ := w2
            cases q : s[j]? <;> rw [q] at ev <;> cases ev
        rw [e0]
        subst e
        cases q1 : r[j]? with
        | none => rfl
        | some y1 =>
          cases y1 with
          | fz d =>
            obtain ⟨⟨v, ev, w⟩, _⟩ := h.sl j _ q1
            exact ⟨⟨v, ev, x.repF h.mok w⟩, rfl⟩
          | no => rfl
          | ow n d => rfl
          | lk n d => rfl
          | mt n d => rfl
    · rw [if_neg hj] at e
      have w2 := h2.sl j _ e
      rw [wipe_at, if_neg hj] at w2
      exact w2
  · refine h2.out j ?_
    rw [List.getElem?_eq_none_iff] at e ⊢
    rw [backS_len] at e
    exact e
/-- a list that others hold takes another item -/
theorem StOk.updZ (h : StOk K pv H O Z s r fp) {p : Addr} {xs ys : List V} (hp : H p = some (.lst xs)) (ho : O p) (hz : Z p) : StOk K pv (L2.upd H p (.lst ys)) O Z s r fp := by
  have nF : ∀ {T : Addr → Prop}, (∀ a, T a → a ≠ p) → Keeps K H (L2.upd H p (.lst ys)) T T := fun {T} hT =>
    ⟨fun a vs e t => ⟨by rw [upd_ne (hT a t)]; exact e, t⟩, fun a o u e => by
      rw [upd_ne fun z => ?_]; exact e
      rw [z, hp] at e; cases e⟩
  refine ⟨h.len, fun j x e => (h.sl j x e).keep (nF fun a q z => q (by rw [z]; exact ho)) (nF fun a q z => q (.inr (by rw [z]; exact hz))) fun a ha vs e o => ⟨?_, o⟩, h.zm, fun a z => ?_, h.out, h.nd, h.dj⟩
  · rw [upd_ne fun z => ?_]
    · exact e
    · rw [z] at ha; exact h.zm p hz ⟨j, ha⟩
  · by_cases e : a = p
    · rw [e]; exact ⟨_, upd_same⟩
    · rw [upd_ne e]; exact h.ze a z
theorem Ext.updNew {p : Addr} {xs : List V} {o : HO} (x : Ext b H O M H2 O2 M2) (hn : H p = none) : Ext b H O M (L2.upd H2 p o) O2 M2 where
  keep := fun a u e m => by rw [upd_ne (ne_of_none e hn)]; exact x.keep a u e m
  own := x.own
  live := fun a u e => by
    rw [upd_ne (ne_of_none e hn)]; exact x.live a u e
  sub := x.sub
  same := fun z a u e => by rw [upd_ne (ne_of_none e hn)]; exact x.same z a u e
end
end VL
/-! VL: comprehensions. -/
namespace VL
open PySem PySem.Spec PyProof.Rows L2
section
variable {K : PySem.W.Frag} {pv : Nat → Option V} {H H' H1 H2 : Hp} {O O' O1 O2 M M' M1 M2 Z Z' Z2 N N' : Addr → Prop} {s s2 : L2.St} {r r' r2 : Env} {fp fp' fp2 : Fp} {b b2 : Bool}
mutual
theorem bindT_len : ∀ {t : Tg} {m : Nat} {d : D} {r r' : Env}, bindT m t d r = .ok r' → r'.length = r.length
  | .nm i, m, d, r, r', e => by
    simp only [bindT] at e
    obtain ⟨_, rfl⟩ := putS_ok e
    rw [List.length_set]
  | .nil, m, d, r, r', e => by simp only [bindT] at e; cases e
  | .cons a b, m, d, r, r', e => by
    unfold bindT at e
    split at e
    · exact bindTs_lenE e
    · cases e
theorem bindTs_lenE : ∀ {t : Tg} {ds : List D} {r r' : Env}, bindTs t ds r = .ok r' → r'.length = r.length
  | .nil, [], _, _, e => by simp only [bindTs] at e; cases e; rfl
  | .nil, _ :: _, _, _, e => by simp only [bindTs] at e; cases e
  | .nm _, _, _, _, e => by simp only [bindTs] at e; cases e
  | .cons a b, [], _, _, e => by simp only [bindTs] at e; cases e
  | .cons a b, d :: ds, r, r', e => by
    simp only [bindTs] at e
    obtain ⟨r1, e1, e⟩ := bind_ok_iff.mp e
    rw [bindTs_lenE e, bindT_len e1]
end
theorem Ext.held0 {t1 : List Addr} (x : Ext b H O M H' O' (MoT fp' t1)) (y : Ext b2 H' O' (Mo fp') H2 O2 (Mo fp2)) : Ext (b || b2) H O M H2 O2 (MoT fp2 t1) := by
  rw [← MoT.nil (fp := fp2)] at y
  have z := x.held y
  rw [List.append_nil] at z
  exact z
/-- what a walk yields, with the state that goes with it -/
theorem yd_ok {t : Tg} {S1 : Addr → Prop} {m : Nat} {d : D} {x : V} (h : StOk K pv H O Z s r fp) (y : YdOk K t H H' O S1 m d x) (hS : ∀ a, S1 a → ¬ (Mo fp a ∨ Z a)) :
    StOk K pv H' O Z s r fp ∧ Ext false H O (Mo fp) H' O (Mo fp) ∧ YOk K H' O (fun a => ¬ (Mo fp a ∨ Z a)) t m d x := by
  rcases y with ⟨rfl, w⟩ | ⟨ht, T, vs, ds, hT, rfl, rfl, rfl, w⟩
  · exact ⟨h, .refl, .inl (w.mono hS fun _ q => q)⟩
  · refine ⟨h.new hT fun _ _ => Iff.rfl, Ext.new hT (fun _ _ => Iff.rfl) fun a q => .inl q, .inr ⟨ht, T, vs, ds, rfl, .inl (.inl upd_same), rfl, pimp w fun d v _ q => RepF.keep (Keeps.new hT fun _ _ z => z) d v q⟩⟩
/-- one turn of a comprehension -/
def turnF (G : Str → Option Fd) (n m : Nat) (xe : Ex) (t : Tg) (xc : Ex) (own : List Nat) (d : D) (s : Env) : R (Option D × Env) :=
  bindT m t d s >>= fun s => ev G xc s >>= fun k => truth k.1.d >>= fun b => match b with
    | true => tk (n - 1) xe (ev G xe) k.2 >>= fun x => .ok (some x.1, wipeS own x.2)
    | false => .ok (none, wipeS own k.2)
abbrev tstF (G : Str → Option Fd) (xc : Ex) : Env → R (Val × Env) := fun r => ev G xc r >>= fun p => truth p.1.d >>= fun b => .ok (fzB b, p.2)
def LcI (K : PySem.W.Frag) (pv : Nat → Option V) (s : L2.St) (vs : List Nat) (H1 : Hp) (O1 M1 Z : Addr → Prop) (B : Bool) (n : Nat) (Dl : Addr) (F : D → Env → R (Option D × Env)) (ds xs : List D) (rE : Env) (i : Nat) (H : Hp) : Prop :=
  ∃ O r fp acc av tfs rest, StOk K pv H O (ZT Z (Dl :: tfs.flatten)) (wipe s vs) r fp ∧ (Dl :: tfs.flatten).Nodup ∧ Ext B H1 O1 M1 H O (MoT fp (Dl :: tfs.flatten)) ∧ H Dl = some (.lst av) ∧ O Dl ∧ Trip (RepO K H O (n - 1)) acc av tfs ∧
    mapL F (ds.drop i) r = .ok (rest, rE) ∧ acc ++ rest = xs
theorem Trip.app1 {A B C : Type} {F : A → B → C → Prop} {a : A} {b : B} {c : C} : ∀ {l : List A} {m : List B} {n : List C}, Trip F l m n → F a b c → Trip F (l ++ [a]) (m ++ [b]) (n ++ [c])
  | _, _, _, .nil, q => .cons q .nil
  | _, _, _, .cons r t, q => .cons r (t.app1 q)
theorem RepO.updD {p : Addr} {xs ys : List V} {n : Nat} {d : D} {v : V} {f : List Addr} (h : RepO K H O n d v f) (hp : H p = some (.lst xs)) (ho : O p) (hf : p ∉ f) : RepO K (L2.upd H p (.lst ys)) O n d v f := by
  refine RepO.keep ⟨fun a vs e t => ⟨?_, t⟩, fun a o u e => ?_⟩ n d v f (fun a ha vs e o => ⟨?_, o⟩) h
  · rw [upd_ne fun z => t (by rw [z]; exact ho)]; exact e
  · rw [upd_ne fun z => ?_]
    · exact e
    · rw [z, hp] at e; cases e
  · rw [upd_ne fun z => hf (by rw [← z]; exact ha)]; exact e
theorem Ext.lessT {t1 : List Addr} (x : Ext b H O M H' O' (MoT fp t1)) (h : ∀ a, Mo fp' a → Mo fp a) : Ext b H O M H' O' (MoT fp' t1) := x.less fun a q => q.imp (h a) fun z => z
theorem Ext.lessM (x : Ext b H O M H' O' (Mo fp)) (h : ∀ a, Mo fp' a → Mo fp a) : Ext b H O M H' O' (Mo fp') := x.less h
theorem lim_sz {n : Nat} (h : n < lim) : n < sizeLine := by rw [lim_eq] at h; exact h
theorem lc_turn {G : Str → Option Fd} {n m i : Nat} {xe xc : Ex} {t : Tg} {own : List Nat} {Dl : Addr} {ds xs : List D} {rE : Env} {x : V} {S1 : Addr → Prop} {d : D} {B : Bool} (ho : ∀ i, tgHas i t = true → i ∈ own)
    (hS : ∀ a, S1 a → (∃ o, H1 a = some o) ∧ ¬ M1 a ∧ ¬ Z a) (hB : (!pureX G xc || !pureX G xe) = true → B = true) (hD : H1 Dl = none) (hz : xs.length < lim)
    (I : LcI K pv s own H1 O1 M1 Z B n Dl (turnF G n m xe t xc own) ds xs rE i H) (hd : ds[i]? = some d) (y : ∀ O M, Ext B H1 O1 M1 H O M → YdOk K t H H' O S1 m d x) :
    tG K pv t x (wipe s own) H' fun σ2 H2 => wipe σ2 own = wipe s own ∧ tVT K pv (!pureX G xc) (tstF G xc) σ2 H2 fun b H3 =>
      if b = true then tD K pv (!pureX G xe) (n - 1) (tk (n - 1) xe (ev G xe)) σ2 H3 fun y H4 => ∃ acc, H4 Dl = some (.lst acc) ∧ acc.length < sizeLine ∧ LcI K pv s own H1 O1 M1 Z B n Dl (turnF G n m xe t xc own) ds xs rE (i + 1) (L2.upd H4 Dl (.lst (acc ++ [y])))
      else LcI K pv s own H1 O1 M1 Z B n Dl (turnF G n m xe t xc own) ds xs rE (i + 1) H3 := by
  obtain ⟨O, r, fp, acc, av, tfs, rest, h, nd, x0, eD, oD, tr, em, ex⟩ := I
  have hi : i < ds.length := (List.getElem?_eq_some_iff.mp hd).1
  have edrop : ds.drop i = d :: ds.drop (i + 1) := by
    rw [List.drop_eq_getElem_cons hi]
    have := List.getElem?_eq_getElem hi
    rw [hd] at this
    rw [Option.some.inj this]
  rw [edrop] at em
  unfold mapL at em
  obtain ⟨⟨o, r1⟩, ef, em⟩ := bind_ok_iff.mp em
  obtain ⟨⟨rest1, rE'⟩, em1, em⟩ := bind_ok_iff.mp em
  dsimp only at em em1
  cases em
  unfold turnF at ef
  obtain ⟨rb, eb, ef⟩ := bind_ok_iff.mp ef
  obtain ⟨⟨vc, rc⟩, ec, ef⟩ := bind_ok_iff.mp ef
  obtain ⟨k, ek, ef⟩ := bind_ok_iff.mp ef
  dsimp only at ef ek
  have hS' : ∀ a, S1 a → ¬ (Mo fp a ∨ ZT Z (Dl :: tfs.flatten) a) := fun a q z => by
    obtain ⟨⟨o, ho⟩, g1, g2⟩ := hS a q
    have fr : ∀ a, MoT fp (Dl :: tfs.flatten) a → M1 a ∨ H1 a = none := x0.sub
    rcases z with z | z | z
    · rcases x0.sub a (.inl z) with w | w
      · exact g1 w
      · rw [ho] at w; cases w
    · exact g2 z
    · rcases x0.sub a (.inr z) with w | w
      · exact g1 w
      · rw [ho] at w; cases w
  obtain ⟨h1, x1, y1⟩ := yd_ok h (y O _ x0) hS'
  refine ⟨O, _, r, fp, m, d, rb, h1, eb, y1, fun σ2 fpb hb mb sb => ?_⟩
  have ew : wipe σ2 own = wipe s own := by
    refine wipe_eq ?_ fun j hj => ?_
    · rw [hb.len, bindT_len eb, ← h.len, wipe_length]
    · refine sb j ?_
      cases q : tgHas j t with
      | false => rfl
      | true => exact absurd (ho j q) hj
  refine ⟨ew, O, _, rb, fpb, k, rc, hb, ?_, fun H3 O3 fp3 h3 x3 => ?_⟩
  · show (ev G xc rb >>= fun p => truth p.1.d >>= fun b => .ok (fzB b, p.2)) = _
    rw [ec]
    show (truth vc.d >>= fun b => Except.ok (fzB b, rc)) = _
    rw [ek]
    rfl
  have y3 : Ext (false || !pureX G xc) H O (Mo fp) H3 O3 (Mo fp3) := (x1.lessM mb).trans x3
  cases k with
  | false =>
    simp only [Bool.false_eq_true, if_false]
    dsimp only at ef
    cases ef
    obtain ⟨fp5, h5, m5⟩ := wipe_ok own h3
    rw [ew] at h5
    have hnot : ∀ a, a ∈ Dl :: tfs.flatten → ¬ Mo fp a := fun a ha => h.zm a (.inr ha)
    refine ⟨O3, _, fp5, acc, av, tfs, rest1, h5, nd, ((x0.held0 y3).lessT m5).weak fun e => ?_, y3.keep Dl _ eD (hnot Dl List.mem_cons_self), (y3.own Dl _ eD (hnot Dl List.mem_cons_self)).mpr oD, ?_, em1, ?_⟩
    · cases B with
      | true => rfl
      | false =>
        refine hB ?_
        simp only [Bool.false_or] at e
        rw [e]; rfl
    · refine tr.imp fun d v f hf q => y3.repO h.mok (fun a ha => hnot a (List.mem_cons_of_mem _ (List.mem_flatten.mpr ⟨f, hf, ha⟩))) q
    · rw [← ex]; rfl
  | true =>
    simp only [if_true]
    dsimp only at ef
    obtain ⟨⟨d', re⟩, ee, ef⟩ := bind_ok_iff.mp ef
    cases ef
    refine ⟨O3, _, rc, fp3, d', re, h3, ee, fun z H4 O4 fp4 tf h4 x4 w4 n4 => ?_⟩
    have y4 : Ext ((false || !pureX G xc) || !pureX G xe) H O (Mo fp) H4 O4 (MoT fp4 tf) := y3.trans x4
    have hnot : ∀ a, a ∈ Dl :: tfs.flatten → ¬ Mo fp a := fun a ha => h.zm a (.inr ha)
    have eD4 := y4.keep Dl _ eD (hnot Dl List.mem_cons_self)
    have oD4 := (y4.own Dl _ eD (hnot Dl List.mem_cons_self)).mpr oD
    have nd4 : ((Dl :: tfs.flatten) ++ tf).Nodup := held_nodup h y4 nd n4
    rw [ZT.app] at h4
    have h5 := h4.updZ (ys := av ++ [z]) eD4 oD4 (.inr (List.mem_append_left _ List.mem_cons_self))
    obtain ⟨fp5, h5, m5⟩ := wipe_ok own h5
    rw [ew] at h5
    have tr4 : Trip (RepO K H4 O4 (n - 1)) acc av tfs := tr.imp fun d v f hf q => y4.repO h.mok (fun a ha => hnot a (List.mem_cons_of_mem _ (List.mem_flatten.mpr ⟨f, hf, ha⟩))) q
    have hl := tr.len.1
    have eapp : Dl :: (tfs ++ [tf]).flatten = (Dl :: tfs.flatten) ++ tf := by simp
    have nDf : ∀ f ∈ tfs, Dl ∉ f := fun f hf z => (List.nodup_cons.mp nd).1 (List.mem_flatten.mpr ⟨f, hf, z⟩)
    have nDt : Dl ∉ tf := fun z => by
      have := (List.nodup_append.mp nd4).2.2 Dl List.mem_cons_self Dl z
      exact this rfl
    refine ⟨av, eD4, ?_, O4, _, fp5, acc ++ [d'], av ++ [z], tfs ++ [tf], rest1, ?_, ?_, ?_, upd_same, oD4, ?_, em1, ?_⟩
    · have : (acc ++ (some d').toList ++ rest1).length < lim := by
        rw [List.append_assoc]
        show (acc ++ ((some d').toList ++ rest1)).length < lim
        rw [ex]; exact hz
      simp only [Option.toList, List.length_append, List.length_cons, List.length_nil] at this
      exact lim_sz (by omega)
    · rw [eapp]; exact h5
    · rw [eapp]; exact nd4
    · rw [eapp]
      refine (((x0.held y4).updNew (xs := av) hD).lessT m5).weak fun e => ?_
      cases B with
      | true => rfl
      | false =>
        refine hB ?_
        simpa only [Bool.false_or] using e
    · refine Trip.app1 (tr4.imp fun d v f hf q => q.updD eD4 oD4 (nDf f hf)) (w4.updD eD4 oD4 nDt)
    · rw [← ex, List.append_assoc]; rfl
theorem comp_pure1 {G : Str → Option Fd} {n : Nat} {xe xi xc : Ex} {t : Tg} {own : List Nat} (e : (!pureX G xc || !pureX G xe) = true) : (!pureX G (.comp n xe t xi xc own)) = true := by
  simp only [pureX]
  revert e
  cases pureX G xc <;> cases pureX G xe <;> cases pureX G xi <;> decide
theorem comp_pure2 {G : Str → Option Fd} {n : Nat} {xe xi xc : Ex} {t : Tg} {own : List Nat} (e : (!pureX G xi) = true) : (!pureX G (.comp n xe t xi xc own)) = true := by
  simp only [pureX]
  revert e
  cases pureX G xc <;> cases pureX G xe <;> cases pureX G xi <;> decide
theorem lc_read {G : Str → Option Fd} {n : Nat} {xe xi xc : Ex} {t : Tg} {own : List Nat} {Q : VK} (ho : ∀ i, tgHas i t = true → i ∈ own) (q : tV K pv (!pureX G (.comp n xe t xi xc own)) (ev G (.comp n xe t xi xc own)) s H Q) :
    tLc (tI K pv (!pureX G xi) t (evI G xi)) (tG K pv t) (tVT K pv (!pureX G xc) (tstF G xc)) (tD K pv (!pureX G xe) (n - 1) (tk (n - 1) xe (ev G xe))) own s H Q := by
  obtain ⟨O, Z, r, fp, v, r', h, e, q⟩ := q
  simp only [ev] at e
  split at e
  · cases e
  · rename_i hn
    obtain ⟨⟨⟨m, ds⟩, p2⟩, e1, e⟩ := bind_ok_iff.mp e
    obtain ⟨⟨xs, rE⟩, e2, e⟩ := bind_ok_iff.mp e
    obtain ⟨xs', e3, e⟩ := bind_ok_iff.mp e
    dsimp only at e e2 e3
    unfold lenOk at e3
    split at e3
    · rename_i hz
      cases e3
      cases e
      refine ⟨O, Z, _, _, (m, ds), p2, h.lock (rootsX xi), e1, fun J H1 O1 fp1 h1 x1 wk D hD => ?_⟩
      have e2 : mapL (turnF G n m xe t xc own) ds (wipeS own p2) = .ok (xs, rE) := e2
      have wk := wk _ h1.mok fun a q => .inl q
      let S1 : Addr → Prop := fun a => (¬ (Mo fp1 a ∨ Z a)) ∧ ∃ o, H1 a = some o
      let B := !pureX G (.comp n xe t xi xc own)
      have hB : (!pureX G xc || !pureX G xe) = true → B = true := comp_pure1
      have hBi : (!pureX G xi) = true → B = true := comp_pure2
      refine ⟨fun i k H => k = ds.length - i ∧ i ≤ ds.length ∧ LcI K pv s own H1 O1 (Mo fp1) Z B n D (turnF G n m xe t xc own) ds xs rE i H, ⟨_, rfl, Nat.zero_le _, ?_⟩, ?_⟩
      · have h2 := h1.newZ (o := .lst []) (O' := fun a => O1 a ∨ a = D) (Z' := ZT Z [D]) hD (fun a na => ⟨fun q => q.elim id fun e => absurd e na, .inl⟩) fun a z => z.imp id List.mem_singleton.mp
        obtain ⟨fp3, h3, m3⟩ := wipe_ok own h2
        refine ⟨fun a => O1 a ∨ a = D, _, fp3, [], [], [], xs, h3, List.nodup_cons.mpr ⟨List.not_mem_nil, List.nodup_nil⟩, ?_, upd_same, .inr rfl, .nil, by rw [List.drop_zero]; exact e2, rfl⟩
        refine Ext.lessT (fp := fp1) (Ext.new hD (fun a na => ⟨fun q => q.elim id fun e => absurd e na, .inl⟩) fun a q => q.imp id fun q => List.mem_singleton.mp q) m3
      · rintro i k H2 ⟨rfl, hi, I⟩
        by_cases hlt : i < ds.length
        · obtain ⟨O2, _, fp2, _, _, _, _, _, _, x2, _⟩ := id I
          have hd : ds[i]? = some ds[i] := List.getElem?_eq_getElem hlt
          refine .inr ⟨(wk _ _ _ _ x2).1 i hlt, LcI K pv s own H1 O1 (Mo fp1) Z B n D (turnF G n m xe t xc own) ds xs rE (i + 1), fun H' I' => ⟨ds.length - (i + 1), by omega, rfl, hlt, I'⟩, fun x H' y => ?_⟩
          refine lc_turn ho (S1 := S1) (fun a q => ⟨q.2, fun z => q.1 (.inl z), fun z => q.1 (.inr z)⟩) hB hD hz I hd fun O3 M3 x3 => (wk _ _ _ _ x3).2.2 i _ x H' hd y
        · have ei : i = ds.length := by omega
          subst ei
          obtain ⟨O2, r2, fp2, acc, av, tfs, rest, h2, nd, x2, eD, oD, tr, em, ex⟩ := I
          refine .inl ⟨(wk _ _ _ _ x2).2.1 _ (Nat.le_refl _), ?_⟩
          rw [List.drop_length] at em
          unfold mapL at em
          cases em
          rw [List.append_nil] at ex
          rw [ex] at tr
          have h3 := back_ok h1 h2 x2
          have x3 := x1.trans x2
          obtain ⟨fp4, h4, m4⟩ := unl_ok (is := rootsX xi) (st := fun _ => false) (s2 := s) h h3 (x3.less fun a q => .inl q) (fun a z => by
            rcases z with z | z
            · exact .inl z
            · exact .inr (x3.sub a (.inr z))) (fun _ _ => rfl) (fun _ _ => rfl) rfl
          refine q (.ref D) H2 O2 fp4 (D :: tfs.flatten) h4 ((unl_ext x3 m4).weak fun e => ?_) ⟨?_, nd⟩
          · rw [Bool.or_eq_true] at e
            exact e.elim hBi fun e => e
          · show RepO K H2 O2 n (.list xs) (.ref D) (D :: tfs.flatten)
            obtain ⟨n', rfl⟩ : ∃ n', n = n' + 1 := ⟨n - 1, by omega⟩
            unfold RepO
            exact ⟨D, av, tfs, rfl, eD, oD, rfl, tr⟩
    · cases e3
end
def Cc.blk (c : Cc) (scope : Scope) : Cc := { c with sc := relS scope c.sc, fn := fun x => scope.names.lookup x == some .cell }
section
variable {X : Cx} {c : Cc}
theorem xok_blk (hX : XOk X c) (s : Shared) (H : Hp) (scope : Scope) (C : Addr) (cl : List (Str × Addr)) (fp : List Addr) : XOk (X.blk s H scope (compEnvC scope cl C X.env) fp) (c.blk scope) where
  N := hX.N
  nd := hX.nd
  sc := by
    show relS scope X.env.scope = relS scope c.sc
    rw [hX.sc]
  fnm := rfl
  calm := hX.calm
  hu := hX.hu
  xe := rfl
  free := hX.free
  fn := hX.fn
structure VTs (X : Cx) (c : Cc) (ifs : List Expr) (x : Ex) : Prop where
  tst : ∀ pv, PTs X ifs (tVT X.K pv (!pureX c.G x) (tstF c.G x))
theorem PTs.imp {X : Cx} {e : List Expr} {t t' : TT} (h : PTs X e t) (k : ∀ s H Q, t' s H Q → t s H Q) : PTs X e t' := ⟨fun pins s σ H Q I w => h.run pins s σ H Q I (k σ H Q w)⟩
theorem vts_nil : VTs X c [] (.c (.bool true)) where
  tst := fun pv => PTs.imp pts_nil fun s H Q q => by
    obtain ⟨O, Z, r, fp, k, r', h, e, q⟩ := q
    simp only [tstF, ev] at e
    obtain ⟨p, e1, e⟩ := bind_ok_iff.mp e
    cases e1
    obtain ⟨k', e2, e⟩ := bind_ok_iff.mp e
    cases e2
    injection e with e
    injection e with e e'
    cases fzB_inj e
    cases e'
    exact q H O fp h .refl
theorem vts_one {a : Expr} {x : Ex} (h : VT X c a x) : VTs X c [a] x := ⟨fun pv => pts_one (h.tst pv)⟩
def notSetD : Expr → Bool
  | .Set _ _ _ => false
  | _ => true
theorem notSet_ok {e : Expr} (h : notSetD e = true) (env : PySem.Env) : ∀ x, foldedSetIterable e env x = pure x := by
  intro x
  cases e <;> first | rfl | cases h
def tgIn (own : List Nat) : Tg → Bool
  | .nm i => own.contains i
  | .nil => true
  | .cons a b => tgIn own a && tgIn own b
theorem tgIn_ok {own : List Nat} : ∀ {t : Tg}, tgIn own t = true → ∀ i, tgHas i t = true → i ∈ own
  | .nm j, h, i, e => by
    simp only [tgHas, beq_iff_eq] at e
    subst e
    simpa [tgIn] using h
  | .nil, _, _, e => by simp [tgHas] at e
  | .cons a b, h, i, e => by
    simp only [tgIn, Bool.and_eq_true] at h
    simp only [tgHas, Bool.or_eq_true] at e
    rcases e with e | e
    · exact tgIn_ok h.1 i e
    · exact tgIn_ok h.2 i e
theorem ve_comp (hX : XOk X c) {elt tg iter : Expr} {ifs : List Expr} {scope : Scope} {own : List (Str × Nat)} {pos : Pos} {n : Nat} {xe xi xc : Ex} {t : Tg} (hi : VI X c tg iter xi t) (hb : blkC c.N c.sc scope own = true) (ht : tgIn (own.map (·.2)) t = true)
    (hg : ∀ X', XOk X' (c.blk scope) → VG X' (c.blk scope) tg t) (hc : ∀ X', XOk X' (c.blk scope) → VTs X' (c.blk scope) ifs xc) (he : ∀ X', XOk X' (c.blk scope) → VE X' (c.blk scope) elt xe) (hs : notSetD iter = true) :
    VE X c (.ListComp elt [⟨tg, iter, ifs, 0⟩] scope pos) (.comp n xe t xi xc (own.map (·.2))) where
  val := fun pv => PE.imp (pe_lc hX.calm hX.nd (hi.it pv) (by rw [hX.N, hX.sc]; exact blkOk_by hb) (fun s H C cl fp => (hg _ (xok_blk hX s H scope C cl fp)).tgt pv) (fun s H C cl fp => (hc _ (xok_blk hX s H scope C cl fp)).tst pv)
    (fun s H C cl fp => (he _ (xok_blk hX s H scope C cl fp)).tk (pv := pv) (n - 1)) (notSet_ok hs _)) fun s H Q q => lc_read (tgIn_ok ht) q
  var := fun i e => by cases e
end
end VL
/-! VL: calls of defs. -/
namespace VL
open PySem PySem.Spec PyProof.Rows L2
section
variable {K : PySem.W.Frag} {pv : Nat → Option V} {H H' H1 H2 : Hp} {O O' O1 O2 M M' M1 M2 Z Z' Z2 N N' : Addr → Prop} {s s2 : L2.St} {r r' r2 : Env} {fp fp' fp2 : Fp} {b b2 : Bool}
def AvOk (K : PySem.W.Frag) (H : Hp) (O : Addr → Prop) (s : L2.St) : Av → V → Prop
  | .d x, v => RepF K H (fun a => ¬ O a) x v
  | .s i, v => s[i]? = some (some v)
def tAg (K : PySem.W.Frag) (pv : Nat → Option V) (b : Bool) (g : Env → R (List Av × Env)) : TA := fun s H Q => ∃ O Z r fp as r', StOk K pv H O Z s r fp ∧ g r = .ok (as, r') ∧
  ∀ vs H' O' fp', StOk K pv H' O' Z s r' fp' → Ext b H O (Mo fp) H' O' (Mo fp') → Paired (AvOk K H' O' s) as vs → Q vs H'
theorem AvOk.keep (x : Ext b H O M H' O' M') (mo : MOk H O M) : ∀ {a : Av} {v : V}, AvOk K H O s a v → AvOk K H' O' s a v
  | .d _, _, h => x.repF mo h
  | .s _, _, h => h
/-- the arguments that a def may change: the callee's slot, the caller's -/
theorem mts_mem : ∀ {as : List Av} {pm : List Pm} {i : Nat}, i ∈ mtsOf as pm → ∃ (k n : Nat), as[k]? = some (Av.s i) ∧ pm[k]? = some (Pm.mt n)
  | [], _, i, h => by simp [mtsOf] at h
  | a :: as, [], i, h => by cases a <;> simp [mtsOf] at h
  | a :: as, p :: ps, i, h => by
    have tl : i ∈ mtsOf as ps → ∃ (k n : Nat), (a :: as)[k]? = some (Av.s i) ∧ (p :: ps)[k]? = some (Pm.mt n) := fun h => by
      obtain ⟨k, n, h1, h2⟩ := mts_mem h
      exact ⟨k + 1, n, by simpa using h1, by simpa using h2⟩
    cases a with
    | d x => simp only [mtsOf] at h; exact tl h
    | s j => cases p with
      | mt n =>
        simp only [mtsOf, List.mem_cons] at h
        rcases h with rfl | h
        · exact ⟨0, n, rfl, rfl⟩
        · exact tl h
      | fz => simp only [mtsOf] at h; exact tl h
      | lk n => simp only [mtsOf] at h; exact tl h
theorem mts_in : ∀ {as : List Av} {pm : List Pm} {i k n : Nat}, as[k]? = some (Av.s i) → pm[k]? = some (Pm.mt n) → i ∈ mtsOf as pm
  | [], _, i, k, n, h, _ => by simp at h
  | a :: as, [], i, k, n, _, h => by simp at h
  | a :: as, p :: ps, i, 0, n, h1, h2 => by
    simp at h1 h2
    subst h1 h2
    simp [mtsOf]
  | a :: as, p :: ps, i, k + 1, n, h1, h2 => by
    have h := mts_in (by simpa using h1) (by simpa using h2)
    cases a <;> cases p <;> simp only [mtsOf] <;> first | exact h | exact List.mem_cons_of_mem _ h
theorem lks_in : ∀ {as : List Av} {pm : List Pm} {i k n : Nat}, as[k]? = some (Av.s i) → pm[k]? = some (Pm.lk n) → i ∈ lksOf as pm
  | [], _, i, k, n, h, _ => by simp at h
  | a :: as, [], i, k, n, _, h => by simp at h
  | a :: as, p :: ps, i, 0, n, h1, h2 => by
    simp at h1 h2
    subst h1 h2
    simp [lksOf]
  | a :: as, p :: ps, i, k + 1, n, h1, h2 => by
    have h := lks_in (by simpa using h1) (by simpa using h2)
    cases a <;> cases p <;> simp only [lksOf] <;> first | exact h | exact List.mem_cons_of_mem _ h
theorem mts_inj : ∀ {as : List Av} {pm : List Pm} {i k k' n n' : Nat}, (mtsOf as pm).Nodup → as[k]? = some (Av.s i) → pm[k]? = some (Pm.mt n) → as[k']? = some (Av.s i) → pm[k']? = some (Pm.mt n') → k = k'
  | [], _, i, k, k', n, n', _, h, _, _, _ => by simp at h
  | a :: as, [], i, k, k', n, n', _, _, h, _, _ => by simp at h
  | a :: as, p :: ps, i, 0, 0, n, n', _, _, _, _, _ => rfl
  | a :: as, p :: ps, i, 0, k' + 1, n, n', nd, h1, h2, h3, h4 => by
    simp at h1 h2
    subst h1 h2
    have := mts_in (by simpa using h3) (by simpa using h4 : ps[k']? = some (Pm.mt n'))
    simp only [mtsOf] at nd
    exact absurd this (List.nodup_cons.mp nd).1
  | a :: as, p :: ps, i, k + 1, 0, n, n', nd, h1, h2, h3, h4 => by
    simp at h3 h4
    subst h3 h4
    have := mts_in (by simpa using h1) (by simpa using h2 : ps[k]? = some (Pm.mt n))
    simp only [mtsOf] at nd
    exact absurd this (List.nodup_cons.mp nd).1
  | a :: as, p :: ps, i, k + 1, k' + 1, n, n', nd, h1, h2, h3, h4 => by
    have nd' : (mtsOf as ps).Nodup := by
      cases a <;> cases p <;> simp only [mtsOf] at nd <;> first | exact nd | exact (List.nodup_cons.mp nd).2
    exact congrArg (· + 1) (mts_inj (as := as) (pm := ps) (k := k) (k' := k') (n := n) (n' := n') nd' (by simpa using h1) (by simpa using h2) (by simpa using h3) (by simpa using h4))
theorem putOuts_ok : ∀ {as : List Av} {pm : List Pm} {rr : Env} {outs : List D} {r r3 : Env}, (mtsOf as pm).Nodup → as.length = pm.length → rr.length = pm.length ∨ True → outsOf pm rr = .ok outs → putOuts (mtsOf as pm) outs r = .ok r3 → (∀ (k n : Nat), pm[k]? = some (Pm.mt n) → ∃ i, as[k]? = some (Av.s i)) →
    r3.length = r.length ∧ (∀ j, j ∉ mtsOf as pm → r3[j]? = r[j]?) ∧ ∀ (k i n : Nat), as[k]? = some (Av.s i) → pm[k]? = some (Pm.mt n) → ∃ (n' : Nat) (d : D) (y : Sl), rr[k]? = some (Sl.mt n' d) ∧ r[i]? = some y ∧ r3[i]? = some (reS y d)
  | [], [], rr, outs, r, r3, nd, hl, _, e1, e2, hm => by
    simp only [outsOf] at e1
    cases e1
    simp only [mtsOf, putOuts] at e2
    cases e2
    exact ⟨rfl, fun _ _ => rfl, fun k i n h => by simp at h⟩
  | [], _ :: _, _, _, _, _, _, hl, _, _, _, _ => by simp at hl
  | _ :: _, [], _, _, _, _, _, hl, _, _, _, _ => by simp at hl
  | a :: as, p :: ps, [], outs, r, r3, nd, hl, _, e1, e2, hm => by cases p <;> simp only [outsOf] at e1 <;> cases e1
  | a :: as, p :: ps, y0 :: rr, outs, r, r3, nd, hl, hT, e1, e2, hm => by
    have hl' : as.length = ps.length := by simpa using hl
    have hm' : ∀ (k n : Nat), ps[k]? = some (Pm.mt n) → ∃ i, as[k]? = some (Av.s i) := fun k n h => by simpa using hm (k + 1) n (by simpa using h)
    have other : (∀ n, p ≠ .mt n) → r3.length = r.length ∧ (∀ j, j ∉ mtsOf (a :: as) (p :: ps) → r3[j]? = r[j]?) ∧ ∀ (k i n : Nat), (a :: as)[k]? = some (Av.s i) → (p :: ps)[k]? = some (Pm.mt n) → ∃ (n' : Nat) (d : D) (y : Sl), (y0 :: rr)[k]? = some (Sl.mt n' d) ∧ r[i]? = some y ∧ r3[i]? = some (reS y d) := fun hp => by
      have em : mtsOf (a :: as) (p :: ps) = mtsOf as ps := by cases a <;> cases p <;> first | rfl | exact absurd rfl (hp _)
      have eo : outsOf ps rr = .ok outs := by cases p <;> first | (simp only [outsOf] at e1; exact e1) | exact absurd rfl (hp _)
      rw [em] at nd e2 ⊢
      obtain ⟨g1, g2, g3⟩ := putOuts_ok nd hl' (.inr trivial) eo e2 hm'
      refine ⟨g1, g2, fun k i n h1 h2 => ?_⟩
      cases k with
      | zero => simp at h2; exact absurd h2 (hp n)
      | succ k => simpa using g3 k i n (by simpa using h1) (by simpa using h2)
    cases p with
    | fz => exact other fun n => nofun
    | lk m => exact other fun n => nofun
    | mt m =>
      obtain ⟨i0, ei⟩ := hm 0 m rfl
      simp at ei
      subst ei
      cases y0 with
      | mt n' d =>
        simp only [outsOf] at e1
        split at e1
        case isFalse => cases e1
        obtain ⟨ds, eo, e1⟩ := bind_ok_iff.mp e1
        cases e1
        simp only [mtsOf] at nd e2
        unfold putOuts at e2
        split at e2
        · rename_i y ey
          obtain ⟨nd1, nd2⟩ := List.nodup_cons.mp nd
          obtain ⟨g1, g2, g3⟩ := putOuts_ok nd2 hl' (.inr trivial) eo e2 hm'
          have hi : i0 < r.length := (List.getElem?_eq_some_iff.mp ey).1
          refine ⟨by rw [g1, List.length_set], fun j hj => ?_, fun k i n h1 h2 => ?_⟩
          · simp only [mtsOf, List.mem_cons, not_or] at hj
            rw [g2 j hj.2, List.getElem?_set_ne (fun e => hj.1 e.symm)]
          · cases k with
            | zero =>
              simp at h1
              subst h1
              exact ⟨n', d, y, rfl, ey, by rw [g2 i0 nd1, List.getElem?_set_self hi]⟩
            | succ k =>
              obtain ⟨n'', d', y', k1, k2, k3⟩ := g3 k i n (by simpa using h1) (by simpa using h2)
              have hne : i0 ≠ i := fun e => nd1 (by rw [e]; exact mts_in (by simpa using h1) (by simpa using h2))
              rw [List.getElem?_set_ne hne] at k2
              exact ⟨n'', d', y', by simpa using k1, k2, k3⟩
        · cases e2
      | no => simp only [outsOf] at e1; cases e1
      | fz d => simp only [outsOf] at e1; cases e1
      | ow n d => simp only [outsOf] at e1; cases e1
      | lk n d => simp only [outsOf] at e1; cases e1
theorem resAs_at : ∀ {as : List Av} {pm : List Pm} {ds : List D}, resAs r as pm = .ok ds → as.length = pm.length ∧ ds.length = pm.length ∧ ∀ (k : Nat) a p, as[k]? = some a → pm[k]? = some p → ∃ d, ds[k]? = some d ∧ resA r a p = .ok d
  | [], [], ds, e => by simp only [resAs] at e; cases e; exact ⟨rfl, rfl, fun k a p h => by simp at h⟩
  | [], _ :: _, _, e => by simp only [resAs] at e; cases e
  | _ :: _, [], _, e => by simp only [resAs] at e; cases e
  | a :: as, p :: ps, ds, e => by
    simp only [resAs] at e
    obtain ⟨d, e1, e⟩ := bind_ok_iff.mp e
    obtain ⟨ds', e2, e⟩ := bind_ok_iff.mp e
    cases e
    obtain ⟨g1, g2, g3⟩ := resAs_at e2
    refine ⟨by simp [g1], by simp [g2], fun k a' p' h1 h2 => ?_⟩
    cases k with
    | zero => simp at h1 h2; subst h1 h2; exact ⟨d, rfl, e1⟩
    | succ k => simpa using g3 k a' p' (by simpa using h1) (by simpa using h2)
theorem slsOf_at : ∀ {pm : List Pm} {ds : List D}, ds.length = pm.length → ∃ r0, slsOf pm ds = .ok r0 ∧ r0.length = pm.length ∧ ∀ (k : Nat) y, r0[k]? = some y → ∃ p d, pm[k]? = some p ∧ ds[k]? = some d ∧ y = slOf p d
  | [], [], _ => ⟨[], rfl, rfl, fun k y h => by simp at h⟩
  | [], _ :: _, h => by simp at h
  | _ :: _, [], h => by simp at h
  | p :: ps, d :: ds, h => by
    obtain ⟨r0, g1, g2, g3⟩ := slsOf_at (pm := ps) (ds := ds) (by simpa using h)
    refine ⟨slOf p d :: r0, by simp only [slsOf]; rw [g1]; rfl, by simp [g2], fun k y e => ?_⟩
    cases k with
    | zero => simp at e; exact ⟨p, d, rfl, rfl, e.symm⟩
    | succ k => simpa using g3 k y (by simpa using e)
theorem paired_at2 {A B : Type} {F : A → B → Prop} {l : List A} {m : List B} (h : Paired F l m) {i : Nat} {a : A} {c : B} (e1 : l[i]? = some a) (e2 : m[i]? = some c) : F a c := by
  obtain ⟨c', g1, g2⟩ := pat h e1
  rw [g1] at e2
  cases e2
  exact g2
theorem RepO.toS {n : Nat} {d : D} {v : V} {f : List Addr} {S : Addr → Prop} (h : RepO K H O n d v f) (hS : ∀ a, a ∈ f → S a) : RepB K H S (fun a => ¬ O a) n d v := (RepO.toB n d v f h).mono hS fun _ q => q
/-- what the callee owns of its arguments -/
def aFp (as : List Av) (pm : List Pm) (fp : Fp) : Fp := fun k => match as[k]?, pm[k]? with
  | some (.s i), some (.mt _) => fp i
  | _, _ => []
theorem aFp_in {as : List Av} {pm : List Pm} {k : Nat} {a : Addr} (h : a ∈ aFp as pm fp k) : ∃ (i n : Nat), as[k]? = some (Av.s i) ∧ pm[k]? = some (Pm.mt n) ∧ a ∈ fp i := by
  unfold aFp at h
  split at h
  · rename_i i n e1 e2
    exact ⟨i, n, e1, e2, h⟩
  · cases h
theorem aFp_mt {as : List Av} {pm : List Pm} {k i n : Nat} (h1 : as[k]? = some (Av.s i)) (h2 : pm[k]? = some (Pm.mt n)) : aFp as pm fp k = fp i := by
  unfold aFp
  rw [h1, h2]
theorem Mo_aFp {as : List Av} {pm : List Pm} {a : Addr} (h : Mo (aFp as pm fp) a) : Mo fp a := by
  obtain ⟨k, h⟩ := h
  obtain ⟨i, _, _, _, h⟩ := aFp_in h
  exact ⟨i, h⟩
/-- the values of the parameters that may be changed -/
def aPv (pm : List Pm) (vs : List V) : Nat → Option V := fun k => match pm[k]? with
  | some (.mt _) => vs[k]?
  | _ => none
theorem apart_ok {ms ls : List Nat} (h : VL.apart ms ls = true) : ms.Nodup ∧ ∀ i, i ∈ ms → i ∉ ls := by
  unfold VL.apart at h
  simp only [Bool.and_eq_true, decide_eq_true_eq, List.all_eq_true, Bool.not_eq_true', List.contains_eq_mem, decide_eq_false_iff_not] at h
  exact ⟨h.1, h.2⟩
theorem paired_len2 {as : List Av} {vs : List V} {O : Addr → Prop} (h : Paired (AvOk K H O s) as vs) : as.length = vs.length := plen h
/-- ahead of the call -/
theorem call_in {as : List Av} {pm : List Pm} {vs : List V} {ds : List D} (h : StOk K pv H O Z s r fp) (hv : Paired (AvOk K H O s) as vs) (e : resAs r as pm = .ok ds) (ap : VL.apart (mtsOf as pm) (lksOf as pm) = true) :
    parOk K (aPv pm vs) H O (fun _ => False) pm vs ds (aFp as pm fp) := by
  obtain ⟨l1, l2, at_⟩ := resAs_at e
  obtain ⟨nd, dl⟩ := apart_ok ap
  have lv := plen hv
  obtain ⟨r0, g1, g2, g3⟩ := slsOf_at (pm := pm) (ds := ds) l2
  refine ⟨r0, g1, ⟨by rw [List.length_map, g2]; omega, fun k y ey => ?_, fun a z => z.elim, fun a z => z.elim, fun k ek => ?_, fun k => ?_, fun k k' a h1 h2 => ?_⟩, fun k v ev => ?_, fun k n en => ?_⟩
  · obtain ⟨p, d, ep, ed, rfl⟩ := g3 k y ey
    have hk : k < as.length := by rw [l1]; exact (List.getElem?_eq_some_iff.mp ep).1
    obtain ⟨a, ea⟩ : ∃ a, as[k]? = some a := ⟨_, List.getElem?_eq_getElem hk⟩
    obtain ⟨d', ed', er⟩ := at_ k a p ea ep
    rw [ed] at ed'
    cases ed'
    obtain ⟨v, ev, hav⟩ := pat hv ea
    have evs : (vs.map some)[k]? = some (some v) := by rw [List.getElem?_map, ev]; rfl
    have noM : ∀ x, Mo (aFp as pm fp) x ∨ False → Mo fp x := fun x z => z.elim Mo_aFp fun z => z.elim
    cases p with
    | fz =>
      have ef : aFp as pm fp k = [] := by unfold aFp; rw [ep]; cases as[k]? with | none => rfl | some a => cases a <;> rfl
      rw [ef]
      cases a with
      | d x => simp only [resA] at er; cases er; exact ⟨⟨v, evs, hav⟩, rfl⟩
      | s i => simp only [resA] at er; cases er
    | lk n =>
      have ef : aFp as pm fp k = [] := by unfold aFp; rw [ep]; cases as[k]? with | none => rfl | some a => cases a <;> rfl
      rw [ef]
      cases a with
      | d x =>
        simp only [resA] at er
        cases er
        exact ⟨⟨v, evs, RepF.toB (fun a q z => q (h.mok a (noM a z)).1) n _ v hav⟩, rfl⟩
      | s i =>
        have es : s[i]? = some (some v) := hav
        simp only [resA] at er
        cases q : r[i]? with
        | none => rw [q] at er; cases er
        | some y =>
          rw [q] at er
          have w := h.sl i y q
          have notmt : ∀ a, a ∈ fp i → ¬ Mo (aFp as pm fp) a := fun a ha z => by
            obtain ⟨k', hk'⟩ := z
            obtain ⟨i', n', q1, q2, q3⟩ := aFp_in hk'
            have := h.dj i i' a ha q3
            subst this
            exact dl i (mts_in q1 q2) (lks_in ea ep)
          cases y with
          | no => cases er
          | fz d0 =>
            cases er
            obtain ⟨⟨v', ev', w⟩, _⟩ := w
            rw [es] at ev'; cases ev'
            exact ⟨⟨v, evs, RepF.toB (fun a q z => q (h.mok a (noM a z)).1) n _ v w⟩, rfl⟩
          | ow m d0 =>
            dsimp only at er
            split at er
            · rename_i hm
              cases er
              obtain ⟨v', ev', w⟩ := w
              rw [es] at ev'; cases ev'
              exact ⟨⟨v, evs, RepB.up (fun a q z => q (h.mok a (noM a z)).1) m n _ v hm (w.toS fun a ha z => z.elim (notmt a ha) fun z => z.elim)⟩, rfl⟩
            · cases er
          | mt m d0 =>
            dsimp only at er
            split at er
            · rename_i hm
              cases er
              obtain ⟨v', ev', _, w⟩ := w
              rw [es] at ev'; cases ev'
              exact ⟨⟨v, evs, RepB.up (fun a q z => q (h.mok a (noM a z)).1) m n _ v hm (w.toS fun a ha z => z.elim (notmt a ha) fun z => z.elim)⟩, rfl⟩
            · cases er
          | lk m d0 =>
            dsimp only at er
            split at er
            · rename_i hm
              cases er
              obtain ⟨⟨v', ev', w⟩, _⟩ := w
              rw [es] at ev'; cases ev'
              exact ⟨⟨v, evs, RepB.up (fun a q z => q (h.mok a (noM a z)).1) m n _ v hm (w.mono (fun a q z => q (.inl (noM a z))) fun _ q => q)⟩, rfl⟩
            · cases er
    | mt n =>
      cases a with
      | d x => simp only [resA] at er; cases er
      | s i =>
        have es : s[i]? = some (some v) := hav
        rw [aFp_mt ea ep]
        simp only [resA] at er
        have epv : aPv pm vs k = some v := by unfold aPv; rw [ep]; exact ev
        cases q : r[i]? with
        | none => rw [q] at er; cases er
        | some y =>
          rw [q] at er
          have w := h.sl i y q
          cases y with
          | no => cases er
          | fz d0 => cases er
          | lk m d0 => cases er
          | ow m d0 =>
            dsimp only at er
            split at er
            · rename_i hm
              cases er
              subst hm
              obtain ⟨v', ev', w⟩ := w
              rw [es] at ev'; cases ev'
              exact ⟨v, evs, epv, w⟩
            · cases er
          | mt m d0 =>
            dsimp only at er
            split at er
            · rename_i hm
              cases er
              subst hm
              obtain ⟨v', ev', _, w⟩ := w
              rw [es] at ev'; cases ev'
              exact ⟨v, evs, epv, w⟩
            · cases er
  · unfold aFp
    have : pm[k]? = none := by
      rw [List.getElem?_eq_none_iff] at ek ⊢
      omega
    rw [this]
    cases as[k]? with | none => rfl | some a => cases a <;> rfl
  · unfold aFp
    split
    · exact h.nd _
    · exact List.nodup_nil
  · obtain ⟨i, n, q1, q2, q3⟩ := aFp_in h1
    obtain ⟨i', n', q4, q5, q6⟩ := aFp_in h2
    have := h.dj i i' a q3 q6
    subst this
    exact mts_inj nd q1 q2 q4 q5
  · unfold aPv at ev
    split at ev
    · exact ev
    · cases ev
  · have hk : k < vs.length := by
      have := (List.getElem?_eq_some_iff.mp en).1
      omega
    refine ⟨_, List.getElem?_eq_getElem hk, ?_⟩
    unfold aPv
    rw [en]
    exact List.getElem?_eq_getElem hk
theorem reS_om {y : Sl} {d : D} {n : Nat} {d0 : D} (h : y = .ow n d0 ∨ y = .mt n d0) : (y = .ow n d0 ∧ reS y d = .ow n d) ∨ (y = .mt n d0 ∧ reS y d = .mt n d) := by
  rcases h with rfl | rfl
  · exact .inl ⟨rfl, rfl⟩
  · exact .inr ⟨rfl, rfl⟩
/-- behind the call -/
theorem call_out {as : List Av} {pm : List Pm} {vs : List V} {ds outs : List D} {rr r3 : Env} {tf : List Addr} {fpc : Fp} (h : StOk K pv H O Z s r fp) (hv : Paired (AvOk K H O s) as vs) (e : resAs r as pm = .ok ds) (ap : VL.apart (mtsOf as pm) (lksOf as pm) = true)
    (hc : StOk K (aPv pm vs) H' O' (ZT (fun _ => False) tf) (vs.map some) rr fpc) (hmt : ∀ (i : Nat) n, pm[i]? = some (Pm.mt n) → ∃ d, rr[i]? = some (Sl.mt n d)) (ho : outsOf pm rr = .ok outs) (x : Ext b H O (Mo (aFp as pm fp)) H' O' (MoT fpc tf)) (ep : putOuts (mtsOf as pm) outs r = .ok r3) :
    ∃ fp3, StOk K pv H' O' (ZT Z tf) s r3 fp3 ∧ Ext b H O (Mo fp) H' O' (MoT fp3 tf) := by
  obtain ⟨l1, l2, at_⟩ := resAs_at e
  obtain ⟨nd, dl⟩ := apart_ok ap
  have lv := plen hv
  have hm : ∀ (k n : Nat), pm[k]? = some (Pm.mt n) → ∃ i, as[k]? = some (Av.s i) := fun k n en => by
    have hk : k < as.length := by rw [l1]; exact (List.getElem?_eq_some_iff.mp en).1
    have ea := List.getElem?_eq_getElem hk
    obtain ⟨d, _, er⟩ := at_ k _ _ ea en
    cases q : as[k] with
    | d x => rw [q] at er; simp only [resA] at er; cases er
    | s i => exact ⟨i, by rw [ea, q]⟩
  obtain ⟨len3, keep3, put3⟩ := putOuts_ok nd l1 (.inr trivial) ho ep hm
  have mo1 : MOk H O (Mo (aFp as pm fp)) := fun a q => h.mok a (Mo_aFp q)
  -- which callee's slot a caller's slot is
  have find : ∀ j, j ∈ mtsOf as pm → ∃ (k n : Nat), as[k]? = some (Av.s j) ∧ pm[k]? = some (Pm.mt n) := fun j hj => mts_mem hj
  let fp3 : Fp := fun j => if hj : j ∈ mtsOf as pm then fpc (find j hj).choose else fp j
  have fp3_m : ∀ k j n, as[k]? = some (Av.s j) → pm[k]? = some (Pm.mt n) → fp3 j = fpc k := fun k j n h1 h2 => by
    have hj := mts_in h1 h2
    have : fp3 j = fpc (find j hj).choose := dif_pos hj
    rw [this]
    obtain ⟨n', q1, q2⟩ := (find j hj).choose_spec
    rw [mts_inj nd q1 q2 h1 h2]
  have fp3_o : ∀ j, j ∉ mtsOf as pm → fp3 j = fp j := fun j hj => dif_neg hj
  have apart1 : ∀ j a, j ∉ mtsOf as pm → a ∈ fp j → ¬ Mo (aFp as pm fp) a := fun j a hj ha z => by
    obtain ⟨k, hk⟩ := z
    obtain ⟨i, n, q1, q2, q3⟩ := aFp_in hk
    have := h.dj j i a ha q3
    subst this
    exact hj (mts_in q1 q2)
  have live : ∀ j a, a ∈ fp j → H a ≠ none := fun j a ha z => by
    obtain ⟨_, vs, e⟩ := h.has ha
    rw [z] at e; cases e
  have hM3 : ∀ a, Mo fp3 a → Mo fp a ∨ H a = none := fun a ⟨j, hj⟩ => by
    by_cases q : j ∈ mtsOf as pm
    · obtain ⟨k, n, q1, q2⟩ := find j q
      rw [fp3_m k j n q1 q2] at hj
      exact (x.sub a (.inl ⟨k, hj⟩)).imp Mo_aFp fun z => z
    · rw [fp3_o j q] at hj
      exact .inl ⟨j, hj⟩
  have hT : ∀ a, a ∈ tf → Mo (aFp as pm fp) a ∨ H a = none := fun a ha => x.sub a (.inr ha)
  refine ⟨fp3, ⟨?_, fun j y ey => ?_, fun a z m => ?_, fun a z => ?_, fun j ej => ?_, fun j => ?_, fun i j a g1 g2 => ?_⟩, ?_⟩
  · rw [len3]; exact h.len
  · by_cases q : j ∈ mtsOf as pm
    · obtain ⟨k, n, q1, q2⟩ := find j q
      obtain ⟨n', d, y0, k1, k2, k3⟩ := put3 k j n q1 q2
      rw [k3] at ey
      have ey := Option.some.inj ey
      subst ey
      rw [fp3_m k j n q1 q2]
      obtain ⟨dd, k1'⟩ := hmt k n q2
      rw [k1] at k1'
      cases k1'
      obtain ⟨v, ev, hav⟩ := pat hv q1
      have es : s[j]? = some (some v) := hav
      obtain ⟨v', ev', _, w⟩ := hc.sl k _ k1
      rw [List.getElem?_map, ev] at ev'
      cases ev'
      obtain ⟨_, _, er⟩ := at_ k _ _ q1 q2
      simp only [resA] at er
      rw [k2] at er
      have w0 := h.sl j _ k2
      cases y0 with
      | no => cases er
      | fz d0 => cases er
      | lk m d0 => cases er
      | ow m d0 =>
        dsimp only at er
        split at er
        · rename_i hm; subst hm; exact ⟨v, es, w⟩
        · cases er
      | mt m d0 =>
        dsimp only at er
        split at er
        · rename_i hm
          subst hm
          obtain ⟨v', ev', ep', _⟩ := w0
          rw [es] at ev'; cases ev'
          exact ⟨v, es, ep', w⟩
        · cases er
    · rw [keep3 j q] at ey
      rw [fp3_o j q]
      have w := h.sl j y ey
      refine w.keep (x.keepsF mo1) ⟨fun a us e1 e2 => ⟨x.keep a _ e1 fun m => e2 (.inl (Mo_aFp m)), fun z => ?_⟩, (x.keepsF (K := K) mo1).frz⟩ fun a ha us e1 o1 => ⟨x.keep a _ e1 (apart1 j a q ha), (x.own a _ e1 (apart1 j a q ha)).mpr o1⟩
      have fresh : H a ≠ none := by rw [e1]; exact fun z => nomatch z
      rcases z with z | z | z
      · rcases hM3 a z with z | z
        · exact e2 (.inl z)
        · exact fresh z
      · exact e2 (.inr z)
      · rcases hT a z with z | z
        · exact e2 (.inl (Mo_aFp z))
        · exact fresh z
  · obtain ⟨j, hj⟩ := m
    by_cases q : j ∈ mtsOf as pm
    · obtain ⟨k, n, q1, q2⟩ := find j q
      rw [fp3_m k j n q1 q2] at hj
      rcases z with z | z
      · rcases x.sub a (.inl ⟨k, hj⟩) with w | w
        · exact h.zm a z (Mo_aFp w)
        · obtain ⟨o, e⟩ := h.ze a z
          rw [w] at e; cases e
      · exact hc.zm a (.inr z) ⟨k, hj⟩
    · rw [fp3_o j q] at hj
      rcases z with z | z
      · exact h.zm a z ⟨j, hj⟩
      · rcases hT a z with w | w
        · exact apart1 j a q hj w
        · exact live j a hj w
  · rcases z with z | z
    · obtain ⟨o, e⟩ := h.ze a z
      exact x.live a o e
    · exact hc.ze a (.inr z)
  · have hj : j ∉ mtsOf as pm := fun q => by
      obtain ⟨k, n, q1, q2⟩ := find j q
      obtain ⟨_, _, _, _, _, k3⟩ := put3 k j n q1 q2
      rw [ej] at k3; cases k3
    rw [fp3_o j hj]
    rw [keep3 j hj] at ej
    exact h.out j ej
  · by_cases q : j ∈ mtsOf as pm
    · obtain ⟨k, n, q1, q2⟩ := find j q
      rw [fp3_m k j n q1 q2]
      exact hc.nd k
    · rw [fp3_o j q]
      exact h.nd j
  · by_cases qi : i ∈ mtsOf as pm
    · obtain ⟨k, n, q1, q2⟩ := find i qi
      rw [fp3_m k i n q1 q2] at g1
      by_cases qj : j ∈ mtsOf as pm
      · obtain ⟨k', n', q3, q4⟩ := find j qj
        rw [fp3_m k' j n' q3 q4] at g2
        have := hc.dj k k' a g1 g2
        subst this
        rw [q1] at q3
        cases q3
        rfl
      · rw [fp3_o j qj] at g2
        rcases x.sub a (.inl ⟨k, g1⟩) with w | w
        · exact absurd w (apart1 j a qj g2)
        · exact absurd w (live j a g2)
    · rw [fp3_o i qi] at g1
      by_cases qj : j ∈ mtsOf as pm
      · obtain ⟨k', n', q3, q4⟩ := find j qj
        rw [fp3_m k' j n' q3 q4] at g2
        rcases x.sub a (.inl ⟨k', g2⟩) with w | w
        · exact absurd w (apart1 i a qi g1)
        · exact absurd w (live i a g1)
      · rw [fp3_o j qj] at g2
        exact h.dj i j a g1 g2
  · refine ⟨fun a o e m => x.keep a o e fun z => m (Mo_aFp z), fun a o e m => x.own a o e fun z => m (Mo_aFp z), x.live, fun a m => ?_, x.same⟩
    rcases m with m | m
    · exact hM3 a m
    · exact (hT a m).imp Mo_aFp fun z => z
end
section
variable {X : Cx} {c : Cc}
structure VAg (X : Cx) (c : Cc) (pm : List Pm) (es : List Expr) (x : Ex) : Prop where
  val : ∀ pv, PA X es (tAg X.K pv (!pureX c.G x) (ags c.G pm x))
theorem vag_nil : VAg X c [] [] .nil where
  val := fun pv => PA.imp pa_nil fun s H Q q => by
    obtain ⟨O, Z, r, fp, as, r', h, e, q⟩ := q
    simp only [ags] at e
    cases e
    exact q [] H O fp h .refl .nil
end
end VL
/-! VL: calls of defs, the rule. -/
namespace VL
open PySem PySem.Spec PyProof.Rows L2
section
variable {X : Cx} {c : Cc}
theorem cons_pure {G : Str → Option Fd} {a b : Ex} (e : (!pureX G a || !pureX G b) = true) : (!pureX G (.cons a b)) = true := by
  simp only [pureX]
  revert e
  cases pureX G a <;> cases pureX G b <;> decide
/-- what the first argument's evaluation is -/
theorem ags_cons {G : Str → Option Fd} {p : Pm} {pm : List Pm} {xe xs : Ex} {r r' : Env} {as : List Av} (e : ags G (p :: pm) (.cons xe xs) r = .ok (as, r')) :
    (∃ d r1 as1, argV p xe = 0 ∧ tk 0 xe (ev G xe) r = .ok (d, r1) ∧ ags G pm xs r1 = .ok (as1, r') ∧ as = .d d :: as1) ∨ (∃ i v as1, argV p xe = i + 2 ∧ rd i r = .ok v ∧ ags G pm xs r = .ok (as1, r') ∧ as = .s i :: as1) := by
  unfold ags at e
  obtain ⟨⟨a, r1⟩, e1, e⟩ := bind_ok_iff.mp e
  obtain ⟨⟨as1, r2⟩, e2, e⟩ := bind_ok_iff.mp e
  dsimp only at e e2
  injection e with e
  injection e with ea er
  subst ea er
  split at e1
  · rename_i h0
    obtain ⟨⟨d, r3⟩, e3, e1⟩ := bind_ok_iff.mp e1
    cases e1
    exact .inl ⟨d, _, as1, h0, e3, e2, rfl⟩
  · cases e1
  · rename_i i h0
    obtain ⟨v, e3, e1⟩ := bind_ok_iff.mp e1
    cases e1
    exact .inr ⟨i, v, as1, h0, e3, e2, rfl⟩
theorem argV_v {p : Pm} {xe : Ex} {i : Nat} (h : argV p xe = i + 2) : xe = .v i := by
  unfold argV at h
  split at h
  · omega
  · split at h
    · have : i = _ := (Nat.add_right_cancel h).symm
      subst this; rfl
    · omega
  · split at h
    · have : i = _ := (Nat.add_right_cancel h).symm
      subst this; rfl
    · omega
theorem vag_cons {p : Pm} {pm : List Pm} {e : Expr} {es : List Expr} {xe xs : Ex} (he : VE X c e xe) (hs : VAg X c pm es xs) (hn : notStar e = true) : VAg X c (p :: pm) (e :: es) (.cons xe xs) where
  val := fun pv => by
    by_cases hx : ∃ i, argV p xe = i + 2
    · obtain ⟨i, hi⟩ := hx
      have hv := argV_v hi
      refine PA.imp (pa_cons (he.var i hv) (hs.val pv) (starEach_cons hn)) fun s H Q q => ?_
      obtain ⟨O, Z, r, fp, as, r', h, e, q⟩ := q
      rcases ags_cons e with ⟨d, r1, as1, hz, _⟩ | ⟨j, v, as1, ex, e1, e2, rfl⟩
      · omega
      · have : j = i := by omega
        subst this
        obtain ⟨xv, g1, _⟩ := h.rd e1
        refine ⟨xv, g1, O, Z, r, fp, as1, r', h, e2, fun vs H2 O2 fp2 h2 x2 hv => q (xv :: vs) H2 O2 fp2 h2 (x2.weak fun e => cons_pure (by rw [e, Bool.or_true])) (.cons g1 hv)⟩
    · refine PA.imp (pa_cons (he.tk (pv := pv) 0) (hs.val pv) (starEach_cons hn)) fun s H Q q => ?_
      obtain ⟨O, Z, r, fp, as, r', h, e, q⟩ := q
      rcases ags_cons e with ⟨d, r1, as1, _, e1, e2, rfl⟩ | ⟨i, v, as1, ex, _⟩
      · refine ⟨O, Z, r, fp, d, r1, h, e1, fun x H1 O1 fp1 tf h1 x1 w1 n1 => ?_⟩
        obtain ⟨w1, ef⟩ := w1
        subst ef
        rw [ZT.nil] at h1
        rw [MoT.nil] at x1
        refine ⟨O1, Z, r1, fp1, as1, r', h1, e2, fun vs H2 O2 fp2 h2 x2 hv => q (x :: vs) H2 O2 fp2 h2 ((x1.trans x2).weak cons_pure) (.cons (x2.repF h1.mok w1) hv)⟩
      · exact absurd ⟨i, ex⟩ hx
/-- a name that is no name of the interpreter's own -/
def nameOk (x : Str) : Bool := !(x == ("__debug__" : Str)) && !(x == ("__name__" : Str)) && !(x == ("__classdict__" : Str))
def noStars (es : List Expr) : Bool := es.all notStar
theorem noStars_any : ∀ {es : List Expr} {env : PySem.Env} {pos : Pos}, noStars es = true → (backTo pos (starEach es env)).any (·.1) = false
  | [], env, pos, h => rfl
  | e :: es, env, pos, h => by
    unfold noStars at h
    rw [List.all_cons, Bool.and_eq_true] at h
    rw [starEach_cons h.1]
    have ih := noStars_any (es := es) (env := env) (pos := pos) h.2
    exact ih
theorem call_pure {G : Str → Option Fd} {f : Str} {g : Fd} {xs : Ex} (eg : G f = some g) (e : (!pureX G xs || g.sg.pm.any isMt) = true) : (!pureX G (.call f xs)) = true := by
  simp only [pureX, eg]
  revert e
  cases pureX G xs <;> cases g.sg.pm.any isMt <;> decide
theorem ve_call (hX : XOk X c) {f : Str} {g : Fd} {e : Expr} {es : List Expr} {xs : Ex} {p pos : Pos} (eg : c.G f = some g) (hg : glN c.sc f = true) (hn : nameOk f = true) (ha : VAg X c g.sg.pm (e :: es) xs) (hs : noStars (e :: es) = true) : VE X c (.Call (.Name f p) (e :: es) [] pos) (.call f xs) where
  val := fun pv => by
    obtain ⟨a, fd, k, ps, F, hr, hm, hk, hb, hl⟩ := hX.fn f g eg
    have hd : (f == ("__debug__" : Str)) = false := by
      unfold nameOk at hn
      simp only [Bool.and_eq_true, Bool.not_eq_true'] at hn
      exact hn.1.1
    have h : PE X (.Call (.Name f p) (e :: es) [] pos) (tCall (spV X.K g) [] (fun _ _ _ => False) (tAg X.K pv (!pureX c.G xs) (ags c.G g.sg.pm xs))) := by
      have hs' : notStar e = true ∧ noStars es = true := by
        unfold noStars at hs
        rw [List.all_cons, Bool.and_eq_true] at hs
        exact hs
      exact pe_call F hr (hX.gl hg) hm hk hb .nil pass0 (ha.val pv) hd (starEach_cons hs'.1) (noStars_any hs'.2)
    refine PE.imp h fun s H Q q => ?_
    obtain ⟨O, Z, r, fp, v, r', h, e, q⟩ := q
    simp only [ev] at e
    rw [eg] at e
    dsimp only at e
    obtain ⟨⟨as, r1⟩, e1, e⟩ := bind_ok_iff.mp e
    obtain ⟨ds, e2, e⟩ := bind_ok_iff.mp e
    dsimp only at e e2
    split at e
    · rename_i ap
      obtain ⟨⟨od, outs⟩, e3, e⟩ := bind_ok_iff.mp e
      obtain ⟨r3, e4, e⟩ := bind_ok_iff.mp e
      cases e
      refine ⟨O, Z, r, fp, as, r1, h, e1, fun vs H1 O1 fp1 h1 x1 hv => ?_⟩
      show spV X.K g (vs ++ []) H1 Q _
      rw [List.append_nil]
      refine ⟨O1, fun _ => False, aPv g.sg.pm vs, ds, aFp as g.sg.pm fp1, (od, outs), call_in h1 hv e2 ap, ?_, e3, fun x H2 O2 fpc tf rr hc hmt ho x2 hval => ?_⟩
      · rw [← plen hv]; exact (resAs_at e2).1
      · obtain ⟨fp3, h3, x3⟩ := call_out h1 hv e2 ap hc hmt ho x2 e4
        exact q x H2 O2 fp3 tf h3 ((x1.trans x3).weak (call_pure eg)) hval
    · cases e
  var := fun i e => by cases e
end
end VL
/-! VL: statements. -/
namespace VL
open PySem PySem.Spec PyProof.Rows L2
section
variable {K : PySem.W.Frag} {pv : Nat → Option V} {H H' H1 H2 : Hp} {O O' O1 O2 M M' M1 M2 Z Z' Z2 N N' : Addr → Prop} {s s1 s2 : L2.St} {r r' r2 : Env} {fp fp' fp1 fp2 : Fp} {b b2 : Bool} {st st1 : Nat → Bool} {rm : Nat}
def NxOk (K : PySem.W.Frag) (pv : Nat → Option V) (st : Nat → Bool) (Z : Addr → Prop) (s : L2.St) (H : Hp) (O : Addr → Prop) (fp : Fp) (r' : Env) (P : L2.St → Hp → Prop) : Prop :=
  ∀ s' H' O' fp', StOk K pv H' O' Z s' r' fp' → Ext true H O (Mo fp) H' O' (Mo fp') → (∀ i, st i = false → s'[i]? = s[i]?) → s'.length = s.length → P s' H'
def RtOk (K : PySem.W.Frag) (pv : Nat → Option V) (rm : Nat) (st : Nat → Bool) (Z : Addr → Prop) (s : L2.St) (H : Hp) (O : Addr → Prop) (fp : Fp) (d : D) (r' : Env) (P : VK) : Prop :=
  ∀ x s' H' O' fp' tf, StOk K pv H' O' (ZT Z tf) s' r' fp' → Ext true H O (Mo fp) H' O' (MoT fp' tf) → RepO K H' O' rm d x tf → tf.Nodup → (∀ i, st i = false → s'[i]? = s[i]?) → s'.length = s.length → P x H'
def OutOk (K : PySem.W.Frag) (pv : Nat → Option V) (rm : Nat) (st : Nat → Bool) (Z : Addr → Prop) (s : L2.St) (H : Hp) (O : Addr → Prop) (fp : Fp) (o : Out) (Dn : Ends) : Prop :=
  match o with
  | .nx r' => NxOk K pv st Z s H O fp r' Dn.nx
  | .bk r' => NxOk K pv st Z s H O fp r' Dn.bk
  | .ct r' => NxOk K pv st Z s H O fp r' Dn.ct
  | .rt d r' => RtOk K pv rm st Z s H O fp d r' Dn.rt
/-- a step ahead -/
structure Stp (st : Nat → Bool) (s : L2.St) (H : Hp) (O : Addr → Prop) (fp : Fp) (s1 : L2.St) (H1 : Hp) (O1 : Addr → Prop) (fp1 : Fp) : Prop where
  x : Ext true H O (Mo fp) H1 O1 (Mo fp1)
  sm : ∀ i, st i = false → s1[i]? = s[i]?
  ln : s1.length = s.length
theorem Stp.refl : Stp st s H O fp s H O fp := ⟨.refl, fun _ _ => rfl, rfl⟩
theorem Stp.trans (a : Stp st s H O fp s1 H1 O1 fp1) (c : Stp st s1 H1 O1 fp1 s2 H2 O2 fp2) : Stp st s H O fp s2 H2 O2 fp2 := ⟨a.x.trans c.x, fun i hi => (c.sm i hi).trans (a.sm i hi), c.ln.trans a.ln⟩
theorem NxOk.step {P : L2.St → Hp → Prop} (a : Stp st s H O fp s1 H1 O1 fp1) (hst : ∀ i, st i = false → st1 i = false) (q : NxOk K pv st Z s H O fp r' P) : NxOk K pv st1 Z s1 H1 O1 fp1 r' P :=
  fun s' H' O' fp' h x sm ln => q s' H' O' fp' h (a.x.trans x) (fun i hi => (sm i (hst i hi)).trans (a.sm i hi)) (ln.trans a.ln)
theorem RtOk.step {P : VK} {d : D} (a : Stp st s H O fp s1 H1 O1 fp1) (hst : ∀ i, st i = false → st1 i = false) (q : RtOk K pv rm st Z s H O fp d r' P) : RtOk K pv rm st1 Z s1 H1 O1 fp1 d r' P :=
  fun y s' H' O' fp' tf h x w n sm ln => q y s' H' O' fp' tf h (a.x.trans x) w n (fun i hi => (sm i (hst i hi)).trans (a.sm i hi)) (ln.trans a.ln)
theorem OutOk.step {o : Out} {Dn : Ends} (a : Stp st s H O fp s1 H1 O1 fp1) (hst : ∀ i, st i = false → st1 i = false) (q : OutOk K pv rm st Z s H O fp o Dn) : OutOk K pv rm st1 Z s1 H1 O1 fp1 o Dn := by
  cases o with
  | nx r' => exact NxOk.step a hst q
  | bk r' => exact NxOk.step a hst q
  | ct r' => exact NxOk.step a hst q
  | rt d r' => exact RtOk.step a hst q
def tS (K : PySem.W.Frag) (pv : Nat → Option V) (G : Str → Option Fd) (rm : Nat) (sm : Sm) : TS := fun Dn s H => ∃ O Z r fp o, StOk K pv H O Z s r fp ∧ exec G rm sm r = .ok o ∧ OutOk K pv rm (fun i => stores i sm) Z s H O fp o Dn
theorem or_false_l {a b : Bool} (h : (a || b) = false) : a = false := by cases a <;> simp_all
theorem or_false_r {a b : Bool} (h : (a || b) = false) : b = false := by cases b <;> simp_all
theorem seq_read {G : Str → Option Fd} {a c : Sm} {Dn : Ends} (q : tS K pv G rm (.seq a c) Dn s H) : tSeq (tS K pv G rm a) (tS K pv G rm c) Dn s H := by
  obtain ⟨O, Z, r, fp, o, h, e, q⟩ := q
  simp only [exec] at e
  obtain ⟨oa, ea, e⟩ := bind_ok_iff.mp e
  refine ⟨O, Z, r, fp, oa, h, ea, ?_⟩
  have ha : ∀ i, (stores i (.seq a c)) = false → stores i a = false := fun i hi => or_false_l (by simpa only [stores] using hi)
  have hc : ∀ i, (stores i (.seq a c)) = false → stores i c = false := fun i hi => or_false_r (by simpa only [stores] using hi)
  cases oa with
  | nx r1 =>
    dsimp only at e
    intro s' H' O' fp' h' x' sm ln
    refine ⟨O', Z, r1, fp', o, h', e, OutOk.step (st := fun i => stores i (.seq a c)) ⟨x', fun i hi => sm i (ha i hi), ln⟩ hc q⟩
  | bk r1 =>
    cases e
    exact NxOk.step (st := fun i => stores i (.seq a c)) .refl ha q
  | ct r1 =>
    cases e
    exact NxOk.step (st := fun i => stores i (.seq a c)) .refl ha q
  | rt d r1 =>
    cases e
    exact RtOk.step (st := fun i => stores i (.seq a c)) .refl ha q
theorem if_read {G : Str → Option Fd} {xc : Ex} {a c : Sm} {Dn : Ends} (q : tS K pv G rm (.ife xc a c) Dn s H) : tIfS (tVT K pv (!pureX G xc) (tstF G xc)) (tS K pv G rm a) (tS K pv G rm c) Dn s H := by
  obtain ⟨O, Z, r, fp, o, h, e, q⟩ := q
  simp only [exec, evB] at e
  obtain ⟨⟨k, r1⟩, ek, e⟩ := bind_ok_iff.mp e
  obtain ⟨⟨v, r1'⟩, ev1, ek⟩ := bind_ok_iff.mp ek
  obtain ⟨k', et, ek⟩ := bind_ok_iff.mp ek
  cases ek
  dsimp only at e
  refine ⟨O, Z, r, fp, k, _, h, tst_ok ev1 et, fun H' O' fp' h' x' => ?_⟩
  have stp : Stp (fun i => stores i (.ife xc a c)) s H O fp s H' O' fp' := ⟨x'.weak fun _ => rfl, fun _ _ => rfl, rfl⟩
  cases k with
  | true =>
    exact ⟨O', Z, _, fp', o, h', e, OutOk.step stp (fun i hi => or_false_l (by simpa only [stores] using hi)) q⟩
  | false =>
    exact ⟨O', Z, _, fp', o, h', e, OutOk.step stp (fun i hi => or_false_r (by simpa only [stores] using hi)) q⟩
/-- a name takes a value -/
theorem put_ok {i m : Nat} {d : D} {v : V} {tf : List Addr} (h0 : StOk K pv H O Z s r fp) (x : Ext b H O (Mo fp) H1 O1 (MoT fp1 tf)) (h : StOk K pv H1 O1 (ZT Z tf) s r2 fp1) (e : putS i (stS m d) r2 = .ok r') (w : RepO K H1 O1 m d v tf) (n : tf.Nodup) :
    ∃ fp3, StOk K pv H1 O1 Z (s.set i (some v)) r' fp3 ∧ Ext b H O (Mo fp) H1 O1 (Mo fp3) := by
  obtain ⟨hi, rfl⟩ := putS_ok e
  have hT : ∀ a, Z a → a ∉ tf := fun a z ha => by
    rcases x.sub a (.inr ha) with q | q
    · exact h0.zm a z q
    · obtain ⟨o, e⟩ := h0.ze a z
      rw [q] at e; cases e
  have hM : ∀ a, Mo (upF fp1 i tf) a → MoT fp1 tf a := fun a ⟨j, hj⟩ => by
    by_cases ej : j = i
    · subst ej; rw [upF_same] at hj; exact .inr hj
    · rw [upF_ne ej] at hj; exact .inl ⟨j, hj⟩
  refine ⟨upF fp1 i tf, h.put hi ?_ n (fun j a _ ha hj => h.zm a (.inr ha) ⟨j, hj⟩) (fun a q => ?_) (fun a z q => ?_), x.less hM⟩
  · unfold stS
    split
    · rename_i hm
      have hm : m = 0 ∨ isL d = false := by simpa using hm
      rcases hm with hm | hm
      · subst hm
        exact ⟨⟨v, rfl, w.1⟩, w.2⟩
      · obtain ⟨w1, w2⟩ := w.flat hm
        exact ⟨⟨v, rfl, w1⟩, w2⟩
    · exact ⟨v, rfl, w⟩
  · rcases q with q | q
    · rcases hM a q with q | q
      · exact .inl q
      · exact .inr (.inr q)
    · exact .inr (.inl q)
  · rcases hM a q with q | q
    · exact h.zm a (.inl z) q
    · exact hT a z q
theorem set_at {i j : Nat} {v : Option V} (h : (j == i) = false) : (s.set i v)[j]? = s[j]? := List.getElem?_set_ne (fun e => by subst e; simp at h)
theorem set_read {G : Str → Option Fd} {m i : Nat} {xe : Ex} {Dn : Ends} (q : tS K pv G rm (.set m (.nm i) xe) Dn s H) : tD K pv (!pureX G xe) m (tk m xe (ev G xe)) s H fun x H1 => gName i x s H1 Dn.nx := by
  obtain ⟨O, Z, r, fp, o, h, e, q⟩ := q
  simp only [exec] at e
  obtain ⟨⟨d, r1⟩, e1, e⟩ := bind_ok_iff.mp e
  obtain ⟨r2, e2, e⟩ := bind_ok_iff.mp e
  cases e
  unfold setT at e2
  dsimp only at e2
  refine ⟨O, Z, r, fp, d, r1, h, e1, fun x H' O' fp' tf h' x' w n => ?_⟩
  obtain ⟨fp3, h3, x3⟩ := put_ok h x' h' e2 w n
  exact q _ H' O' fp3 h3 (x3.weak fun _ => rfl) (fun j hj => set_at (by simpa only [stores, tgHas] using hj)) (List.length_set ..)
theorem setT_read {G : Str → Option Fd} {m : Nat} {a c : Tg} {xe : Ex} {Dn : Ends} (q : tS K pv G rm (.set 0 (.cons a c) xe) Dn s H) : tAsg (tD K pv (!pureX G xe) 0 (tk 0 xe (ev G xe))) (tG K pv (.cons a c)) Dn s H := by
  obtain ⟨O, Z, r, fp, o, h, e, q⟩ := q
  simp only [exec] at e
  obtain ⟨⟨d, r1⟩, e1, e⟩ := bind_ok_iff.mp e
  obtain ⟨r2, e2, e⟩ := bind_ok_iff.mp e
  cases e
  unfold setT at e2
  dsimp only at e2
  refine ⟨O, Z, r, fp, d, r1, h, e1, fun x H' O' fp' tf h' x' w n => ?_⟩
  obtain ⟨w1, w2⟩ := w
  subst w2
  rw [ZT.nil] at h'
  rw [MoT.nil] at x'
  refine ⟨O', Z, r1, fp', 0, d, r2, h', e2, .inl w1, fun s' fp3 h3 m3 sm => q s' H' O' fp3 h3 ((x'.lessM m3).weak fun _ => rfl) (fun i hi => sm i (by simpa only [stores] using hi)) ?_⟩
  rw [h3.len, bindT_len e2, ← h'.len]
theorem ret_read {G : Str → Option Fd} {xe : Ex} {Dn : Ends} (q : tS K pv G rm (.ret xe) Dn s H) : tRet (tD K pv (!pureX G xe) rm (tk rm xe (ev G xe))) Dn s H := by
  obtain ⟨O, Z, r, fp, o, h, e, q⟩ := q
  simp only [exec] at e
  obtain ⟨⟨d, r1⟩, e1, e⟩ := bind_ok_iff.mp e
  cases e
  exact ⟨O, Z, r, fp, d, r1, h, e1, fun x H' O' fp' tf h' x' w n => q x s H' O' fp' tf h' (x'.weak fun _ => rfl) w n (fun _ _ => rfl) rfl⟩
theorem drop_read {G : Str → Option Fd} {xe : Ex} {Dn : Ends} (q : tS K pv G rm (.drop xe) Dn s H) : tDrop (tV K pv (!pureX G xe) (ev G xe)) Dn s H := by
  obtain ⟨O, Z, r, fp, o, h, e, q⟩ := q
  simp only [exec] at e
  obtain ⟨⟨d, r1⟩, e1, e⟩ := bind_ok_iff.mp e
  cases e
  exact ⟨O, Z, r, fp, d, r1, h, e1, fun x H' O' fp' tf h' x' w => q s H' _ fp' h'.freezeT (x'.trans (b2 := false) (Ext.freezeT (tf' := tf)) |>.weak fun _ => rfl) (fun _ _ => rfl) rfl⟩
theorem aug_read {G : Str → Option Fd} {i : Nat} {op : Operator} {xe : Ex} {Dn : Ends} (q : tS K pv G rm (.aug i op xe) Dn s H) :
    tAug i (tR K pv (!pureX G xe) (ev G xe)) (fun x y H Q => ∃ a c d, x = .int a ∧ y = .int c ∧ bop op (.int a) (.int c) = .ok d ∧ ∀ z, d = .int z → Q (.int z) H) Dn s H ∨ ∃ a c d, bop op (.int a) (.int c) = .ok d ∧ ∀ z, d ≠ .int z := by
  obtain ⟨O, Z, r, fp, o, h, e, q⟩ := q
  simp only [exec] at e
  obtain ⟨v, e1, e⟩ := bind_ok_iff.mp e
  obtain ⟨a, e2, e⟩ := bind_ok_iff.mp e
  obtain ⟨⟨w, r1⟩, e3, e⟩ := bind_ok_iff.mp e
  obtain ⟨c, e4, e⟩ := bind_ok_iff.mp e
  obtain ⟨d, e5, e⟩ := bind_ok_iff.mp e
  obtain ⟨r2, e6, e⟩ := bind_ok_iff.mp e
  cases e
  by_cases hd : ∃ z, d = .int z
  · refine .inl ?_
    obtain ⟨xv, g1, g2⟩ := h.rd e1
    have ex : xv = .int a := g2.int (asI_ok e2)
    subst ex
    refine ⟨_, g1, O, Z, r, fp, w, r1, h, e3, fun y H' O' fp' h' x' hy => ⟨a, c, d, rfl, hy.ii e4, e5, fun z ez => ?_⟩⟩
    subst ez
    rw [← ZT.nil (Z := Z)] at h'
    rw [← MoT.nil (fp := fp')] at x'
    have e6' : putS i (stS 0 (.int z)) r1 = .ok r2 := e6
    obtain ⟨fp3, h3, x3⟩ := put_ok h x' h' e6' ⟨RepF.mkI z, rfl⟩ List.nodup_nil
    exact q _ H' O' fp3 h3 (x3.weak fun _ => rfl) (fun j hj => set_at (by simpa only [stores, Bool.beq_comm] using hj)) (List.length_set ..)
  · exact .inr ⟨a, c, d, e5, fun z ez => hd ⟨z, ez⟩⟩
theorem par_read {G : Str → Option Fd} {i j : Nat} {xa xb : Ex} {Dn : Ends} (hij : i ≠ j) (q : tS K pv G rm (.par i j xa xb) Dn s H) : tPar i j (tCons (tD K pv (!pureX G xa) 0 (tk 0 xa (ev G xa))) (tCons (tD K pv (!pureX G xb) 0 (tk 0 xb (ev G xb))) tNil)) Dn s H := by
  obtain ⟨O, Z, r, fp, o, h, e, q⟩ := q
  simp only [exec] at e
  obtain ⟨⟨d1, r1⟩, e1, e⟩ := bind_ok_iff.mp e
  obtain ⟨⟨d2, r2⟩, e2, e⟩ := bind_ok_iff.mp e
  obtain ⟨r3, e3, e⟩ := bind_ok_iff.mp e
  obtain ⟨r4, e4, e⟩ := bind_ok_iff.mp e
  cases e
  refine ⟨O, Z, r, fp, d1, r1, h, e1, fun x H1 O1 fp1 tf h1 x1 w1 n1 => ?_⟩
  obtain ⟨w1, ef⟩ := w1
  subst ef
  rw [ZT.nil] at h1
  rw [MoT.nil] at x1
  refine ⟨O1, Z, r1, fp1, d2, r2, h1, e2, fun y H2 O2 fp2 tf h2 x2 w2 n2 => ?_⟩
  obtain ⟨w2, ef⟩ := w2
  subst ef
  have w1' := x2.repF h1.mok w1
  have e3' : putS i (stS 0 d1) r2 = .ok r3 := e3
  have e4' : putS j (stS 0 d2) r3 = .ok r4 := e4
  obtain ⟨fp3, h3, x3⟩ := put_ok h1 x2 h2 e3' ⟨w1', rfl⟩ List.nodup_nil
  have h3' := h3
  rw [← ZT.nil (Z := Z)] at h3
  obtain ⟨fp4, h4, x4⟩ := put_ok (b := false) h3' (by rw [MoT.nil]; exact .refl) h3 e4' ⟨w2, rfl⟩ List.nodup_nil
  refine ⟨x, y, rfl, q _ H2 O2 fp4 h4 (((x1.trans x3).trans x4).weak fun _ => rfl) (fun k hk => ?_) (by rw [List.length_set, List.length_set])⟩
  simp only [stores, Bool.or_eq_false_iff] at hk
  rw [List.getElem?_set_ne (fun e => by subst e; simp at hk), List.getElem?_set_ne (fun e => by subst e; simp at hk)]
end
end VL
/-! VL: loops. -/
namespace VL
open PySem PySem.Spec PyProof.Rows L2
section
variable {K : PySem.W.Frag} {pv : Nat → Option V} {H H' H1 H2 : Hp} {O O' O1 O2 M M' M1 M2 Z Z' Z2 N N' : Addr → Prop} {s s1 s2 : L2.St} {r r' r1 r2 : Env} {fp fp' fp1 fp2 : Fp} {b b2 : Bool} {st st1 : Nat → Bool} {rm : Nat}
theorem while_read {G : Str → Option Fd} {xc : Ex} {a : Sm} {Dn : Ends} (q : tS K pv G rm (.while_ xc a) Dn s H) : tWhile (tVT K pv (!pureX G xc) (tstF G xc)) (tS K pv G rm a) Dn s H := by
  obtain ⟨O, Z, r, fp, o, h, e, q⟩ := q
  simp only [exec] at e
  have hst : ∀ i, stores i (.while_ xc a) = false → stores i a = false := fun i hi => by simpa only [stores] using hi
  refine ⟨fun m σ H2 => ∃ O2 r2 fp2, StOk K pv H2 O2 Z σ r2 fp2 ∧ Stp (fun i => stores i (.while_ xc a)) s H O fp σ H2 O2 fp2 ∧ whileF (evB G xc) (exec G rm a) m r2 = .ok o, ⟨_, O, r, fp, h, .refl, e⟩, ?_⟩
  rintro m σ H2 ⟨O2, r2, fp2, h2, stp, e2⟩
  cases m with
  | zero => simp only [whileF] at e2; cases e2
  | succ n =>
    unfold whileF at e2
    obtain ⟨⟨k, r3⟩, ek, e2⟩ := bind_ok_iff.mp e2
    unfold evB at ek
    obtain ⟨⟨v, r4⟩, ev1, ek⟩ := bind_ok_iff.mp ek
    obtain ⟨k', et, ek⟩ := bind_ok_iff.mp ek
    cases ek
    dsimp only at e2 et
    refine ⟨O2, Z, r2, fp2, k, _, h2, tst_ok ev1 et, fun H3 O3 fp3 h3 x3 => ?_⟩
    have stp3 : Stp (fun i => stores i (.while_ xc a)) s H O fp σ H3 O3 fp3 := stp.trans ⟨x3.weak fun _ => rfl, fun _ _ => rfl, rfl⟩
    cases k with
    | false =>
      dsimp only at e2
      cases e2
      simp only [Bool.false_eq_true, if_false]
      exact q σ H3 O3 fp3 h3 stp3.x stp3.sm stp3.ln
    | true =>
      dsimp only at e2
      obtain ⟨ob, eb, e2⟩ := bind_ok_iff.mp e2
      simp only [if_true]
      refine ⟨fun σ' H' => ∃ O2 r2 fp2, StOk K pv H' O2 Z σ' r2 fp2 ∧ Stp (fun i => stores i (.while_ xc a)) s H O fp σ' H' O2 fp2 ∧ whileF (evB G xc) (exec G rm a) n r2 = .ok o, fun σ' H' w => ⟨n, Nat.lt_succ_self n, w⟩, ?_⟩
      refine ⟨O3, Z, _, fp3, ob, h3, eb, ?_⟩
      have nxt : ∀ r5, whileF (evB G xc) (exec G rm a) n r5 = .ok o → NxOk K pv (fun i => stores i a) Z σ H3 O3 fp3 r5 fun σ' H' => ∃ O2 r2 fp2, StOk K pv H' O2 Z σ' r2 fp2 ∧ Stp (fun i => stores i (.while_ xc a)) s H O fp σ' H' O2 fp2 ∧ whileF (evB G xc) (exec G rm a) n r2 = .ok o :=
        fun r5 e5 s' H' O' fp' h' x' sm ln => ⟨O', r5, fp', h', stp3.trans ⟨x', fun i hi => sm i (hst i hi), ln⟩, e5⟩
      cases ob with
      | nx r5 => exact nxt r5 e2
      | ct r5 => exact nxt r5 e2
      | bk r5 =>
        cases e2
        exact NxOk.step stp3 hst q
      | rt d r5 =>
        cases e2
        exact RtOk.step stp3 hst q
/-- behind a loop -/
theorem for_end {is : List Nat} {tf : List Addr} (h : StOk K pv H O Z s r fp) (x1 : Ext b H O (Mo (lkFp is r fp)) H1 O1 (Mo fp1)) (x2 : Ext true H1 O1 (Mo fp1) H2 O2 (MoT fp2 tf)) (h2 : StOk K pv H2 O2 (ZT Z tf) s2 r2 fp2)
    (hs : ∀ j, st j = false → s2[j]? = s[j]?) (hi : ∀ j, is.contains j = true → st j = false) (hl : s2.length = s.length) : ∃ fp3, StOk K pv H2 O2 (ZT Z tf) s2 (unl is st r r2) fp3 ∧ Ext true H O (Mo fp) H2 O2 (MoT fp3 tf) := by
  have x3 := x1.trans x2
  obtain ⟨fp4, h4, m4⟩ := unl_ok h h2 (x3.less fun a q => .inl q) (fun a z => by
    rcases z with z | z
    · exact .inl z
    · exact .inr (x3.sub a (.inr z))) hs hi hl
  exact ⟨fp4, h4, (unl_ext x3 m4).weak fun _ => rfl⟩
theorem for_read {G : Str → Option Fd} {t : Tg} {xi : Ex} {a : Sm} {Dn : Ends} (q : tS K pv G rm (.for_ t xi a) Dn s H) : tFor (tI K pv (!pureX G xi) t (evI G xi)) (tG K pv t) (tS K pv G rm a) Dn s H := by
  obtain ⟨O, Z, r, fp, o, h, e, q⟩ := q
  simp only [exec] at e
  split at e
  · cases e
  · rename_i hroots
    obtain ⟨⟨⟨m, ds⟩, p2⟩, e1, e⟩ := bind_ok_iff.mp e
    obtain ⟨oL, e2, e3⟩ := bind_ok_iff.mp e
    dsimp only at e2
    let st0 : Nat → Bool := fun i => stores i a || tgHas i t
    let stf : Nat → Bool := fun i => stores i (.for_ t xi a)
    have est : stf = st0 := by
      funext i
      show stores i (.for_ t xi a) = (stores i a || tgHas i t)
      simp only [stores]
      exact Bool.or_comm _ _
    have hr : ∀ j, (rootsX xi).contains j = true → st0 j = false := fun j hj => by
      simp only [List.any_eq_true, not_exists, not_and, Bool.not_eq_true] at hroots
      exact hroots j (by simpa using hj)
    let F : D → Env → R Out := fun d s => bindT m t d s >>= fun s => exec G rm a s
    have e2 : forL F ds p2 = .ok oL := e2
    refine ⟨O, Z, _, _, (m, ds), p2, h.lock (rootsX xi), e1, fun J H1 O1 fp1 h1 x1 wk => ?_⟩
    have wk := wk _ h1.mok fun a q => .inl q
    let S1 : Addr → Prop := fun a => (¬ (Mo fp1 a ∨ Z a)) ∧ ∃ o, H1 a = some o
    -- the ends
    have fin : ∀ r2 s2 H2 O2 fp2, o = .nx (unl (rootsX xi) st0 r r2) → StOk K pv H2 O2 Z s2 r2 fp2 → Stp stf s H1 O1 fp1 s2 H2 O2 fp2 → Dn.nx s2 H2 := fun r2 s2 H2 O2 fp2 eo h2 stp => by
      subst eo
      rw [← ZT.nil (Z := Z)] at h2
      have x2 := stp.x
      rw [← MoT.nil (fp := fp2)] at x2
      obtain ⟨fp3, h3, x3⟩ := for_end (st := st0) h x1 x2 h2 (fun j hj => stp.sm j (by rw [est]; exact hj)) hr stp.ln
      rw [ZT.nil] at h3
      rw [MoT.nil] at x3
      exact q s2 H2 O2 fp3 h3 x3 (fun i hi => stp.sm i hi) stp.ln
    have finR : ∀ d r2, o = .rt d (unl (rootsX xi) st0 r r2) → RtOk K pv rm stf Z s H1 O1 fp1 d r2 Dn.rt := fun d r2 eo x s2 H2 O2 fp2 tf h2 x2 w n sm ln => by
      subst eo
      obtain ⟨fp3, h3, x3⟩ := for_end (st := st0) h x1 x2 h2 (fun j hj => sm j (by rw [est]; exact hj)) hr ln
      exact q x s2 H2 O2 fp3 tf h3 x3 w n sm ln
    let Inv : Nat → L2.St → Hp → Prop := fun i σ H2 => ∃ O2 r2 fp2, StOk K pv H2 O2 Z σ r2 fp2 ∧ Stp stf s H1 O1 fp1 σ H2 O2 fp2 ∧ forL F (ds.drop i) r2 = .ok oL
    refine ⟨fun i k σ H2 => k = ds.length - i ∧ i ≤ ds.length ∧ Inv i σ H2, ⟨_, rfl, Nat.zero_le _, O1, p2, fp1, h1, .refl, by rw [List.drop_zero]; exact e2⟩, ?_⟩
    rintro i k σ H2 ⟨rfl, hi, O2, r2, fp2, h2, stp, e4⟩
    by_cases hlt : i < ds.length
    · have hd : ds[i]? = some ds[i] := List.getElem?_eq_getElem hlt
      rw [List.drop_eq_getElem_cons hlt] at e4
      unfold forL at e4
      obtain ⟨ob, eb, e4⟩ := bind_ok_iff.mp e4
      obtain ⟨r3, eb1, eb2⟩ := bind_ok_iff.mp eb
      refine .inr ⟨(wk _ _ _ _ stp.x).1 i hlt, Inv (i + 1), fun σ' H' I' => ⟨ds.length - (i + 1), by omega, rfl, hlt, I'⟩, fun x H3 y => ?_⟩
      have yk := (wk _ _ _ _ stp.x).2.2 i _ x H3 hd y
      have hS : ∀ a, S1 a → ¬ (Mo fp2 a ∨ Z a) := fun a ⟨q1, o, q2⟩ z => by
        rcases z with z | z
        · rcases stp.x.sub a z with w | w
          · exact q1 (.inl w)
          · rw [q2] at w; cases w
        · exact q1 (.inr z)
      obtain ⟨h3, x3, y3⟩ := yd_ok h2 yk hS
      refine ⟨O2, Z, r2, fp2, m, _, r3, h3, eb1, y3, fun σ4 fp4 h4 m4 sm4 => ?_⟩
      have stp4 : Stp stf s H1 O1 fp1 σ4 H3 O2 fp4 := by
        refine ⟨(stp.x.trans (x3.lessM m4)).weak fun _ => rfl, fun j hj => ?_, ?_⟩
        · have hj' : (tgHas j t || stores j a) = false := by simpa only [stores] using (show stores j (.for_ t xi a) = false from hj)
          rw [sm4 j (or_false_l hj'), stp.sm j hj]
        · rw [h4.len, bindT_len eb1, ← h2.len, stp.ln]
      have hsb : ∀ j, stf j = false → stores j a = false := fun j hj => or_false_r (a := tgHas j t) (by simpa only [stores] using (show stores j (.for_ t xi a) = false from hj))
      refine ⟨O2, Z, r3, fp4, ob, h4, eb2, ?_⟩
      have nxt : ∀ r5, forL F (ds.drop (i + 1)) r5 = .ok oL → NxOk K pv (fun i => stores i a) Z σ4 H3 O2 fp4 r5 (Inv (i + 1)) := fun r5 e5 s' H' O' fp' h' x' sm ln =>
        ⟨O', r5, fp', h', stp4.trans ⟨x', fun j hj => sm j (hsb j hj), ln⟩, e5⟩
      cases ob with
      | nx r5 => exact nxt r5 e4
      | ct r5 => exact nxt r5 e4
      | bk r5 =>
        cases e4
        have eo : o = .nx (unl (rootsX xi) st0 r r5) := by
          have e3 : outU (rootsX xi) st0 r (.nx r5) = .ok o := e3
          simp only [outU] at e3
          exact (Except.ok.inj e3).symm
        exact fun s' H' O' fp' h' x' sm ln => fin r5 s' H' O' fp' eo h' (stp4.trans ⟨x', fun j hj => sm j (hsb j hj), ln⟩)
      | rt d r5 =>
        cases e4
        have eo : o = .rt d (unl (rootsX xi) st0 r r5) := by
          have e3 : outU (rootsX xi) st0 r (.rt d r5) = .ok o := e3
          simp only [outU] at e3
          exact (Except.ok.inj e3).symm
        exact RtOk.step stp4 hsb (finR d r5 eo)
    · have ei : i = ds.length := by omega
      subst ei
      rw [List.drop_length] at e4
      unfold forL at e4
      cases e4
      have eo : o = .nx (unl (rootsX xi) st0 r r2) := by
        have e3 : outU (rootsX xi) st0 r (.nx r2) = .ok o := e3
        simp only [outU] at e3
        exact (Except.ok.inj e3).symm
      exact .inl ⟨(wk _ _ _ _ stp.x).2.1 _ (Nat.le_refl _), fin r2 σ H2 O2 fp2 eo h2 stp⟩
end
end VL
/-! VL: a list of one's own is changed. -/
namespace VL
open PySem PySem.Spec PyProof.Rows L2
section
variable {K : PySem.W.Frag} {pv : Nat → Option V} {H H' H1 H2 : Hp} {O O' O1 O2 M M' M1 M2 Z Z' Z2 N N' : Addr → Prop} {s s1 s2 : L2.St} {r r' r1 r2 : Env} {fp fp' fp1 fp2 : Fp} {b b2 : Bool}
/-- an owned slot -/
def OwAt (r : Env) (i n : Nat) (d : D) : Prop := r[i]? = some (.ow n d) ∨ r[i]? = some (.mt n d)
theorem StOk.mut (h : StOk K pv H O (ZT Z tf) s r fp) {i : Nat} {p : Addr} {v : V} {vs us : List V} {y' : Sl} {f' rf : List Addr} (hp : p ∈ fp i) (hH : H p = some (.lst vs)) (hs : s[i]? = some (some v))
    (hy : SlOk K (L2.upd H p (.lst us)) O (fun _ => True) (pv i) (some (some v)) y' f') (hlk : ∀ n d, y' ≠ .lk n d) (hn : f'.Nodup) (hsub : ∀ a ∈ f', a ∈ fp i ∨ a ∈ tf) (hrf : ∀ a ∈ rf, a ∈ fp i ∧ a ∉ f') (hZt : ∀ a, Z a → a ∉ tf) :
    StOk K pv (L2.upd H p (.lst us)) O (ZT Z rf) s (r.set i y') (upF fp i f') := by
  have hO : O p := (h.has hp).1
  have hi : i < r.length := by
    rcases Nat.lt_or_ge i r.length with q | q
    · exact q
    · rw [h.out i (List.getElem?_eq_none q)] at hp; cases hp
  have hM : ∀ a, Mo (upF fp i f') a → Mo fp a ∨ a ∈ tf := fun a ⟨j, hj⟩ => by
    by_cases ej : j = i
    · subst ej
      rw [upF_same] at hj
      exact (hsub a hj).imp (fun q => ⟨j, q⟩) fun q => q
    · rw [upF_ne ej] at hj; exact .inl ⟨j, hj⟩
  have nF : ∀ {T T' : Addr → Prop}, (∀ a, T a → a ≠ p ∧ T' a) → Keeps K H (L2.upd H p (.lst us)) T T' := fun {T T'} hT =>
    ⟨fun a ws e t => ⟨by rw [upd_ne (hT a t).1]; exact e, (hT a t).2⟩, fun a o u e => by
      rw [upd_ne fun z => ?_]; exact e
      rw [z, hH] at e; cases e⟩
  have live : ∀ a ws, H a = some (.lst ws) → ∃ o, L2.upd H p (.lst us) a = some o := fun a ws e => by
    by_cases ea : a = p
    · rw [ea]; exact ⟨_, upd_same⟩
    · rw [upd_ne ea]; exact ⟨_, e⟩
  refine ⟨by rw [List.length_set]; exact h.len, fun j x e => ?_, fun a z m => ?_, fun a z => ?_, fun j e => ?_, fun j => ?_, fun j k a g1 g2 => ?_⟩
  · by_cases ej : j = i
    · subst ej
      rw [List.getElem?_set_self hi] at e
      cases e
      rw [upF_same, hs]
      cases y' with
      | no => exact hy
      | fz d => exact hy
      | ow n d => exact hy
      | mt n d => exact hy
      | lk n d => exact absurd rfl (hlk n d)
    · rw [List.getElem?_set_ne (Ne.symm ej)] at e
      rw [upF_ne ej]
      refine (h.sl j x e).keep (nF fun a q => ⟨fun z => q (by rw [z]; exact hO), q⟩) (nF fun a q => ⟨fun z => q (.inl (by rw [z]; exact ⟨i, hp⟩)), fun z => ?_⟩) fun a ha ws e o => ⟨?_, o⟩
      · rcases z with z | z | z
        · rcases hM a z with z | z
          · exact q (.inl z)
          · exact q (.inr (.inr z))
        · exact q (.inr (.inl z))
        · exact q (.inl ⟨i, (hrf a z).1⟩)
      · rw [upd_ne fun z => ?_]
        · exact e
        · rw [z] at ha; exact ej (h.dj j i p ha hp)
  · obtain ⟨j, hj⟩ := m
    by_cases ej : j = i
    · subst ej
      rw [upF_same] at hj
      rcases z with z | z
      · rcases hsub a hj with q | q
        · exact h.zm a (.inl z) ⟨j, q⟩
        · exact hZt a z q
      · exact (hrf a z).2 hj
    · rw [upF_ne ej] at hj
      rcases z with z | z
      · exact h.zm a (.inl z) ⟨j, hj⟩
      · exact ej (h.dj j i a hj (hrf a z).1)
  · rcases z with z | z
    · by_cases ea : a = p
      · rw [ea]; exact ⟨_, upd_same⟩
      · rw [upd_ne ea]; exact h.ze a (.inl z)
    · obtain ⟨_, ws, e⟩ := h.has (hrf a z).1
      exact live a ws e
  · have ej : j ≠ i := fun z => by
      subst z
      rw [List.getElem?_eq_none_iff, List.length_set] at e
      omega
    rw [List.getElem?_set_ne (Ne.symm ej)] at e
    rw [upF_ne ej]
    exact h.out j e
  · by_cases ej : j = i
    · subst ej; rw [upF_same]; exact hn
    · rw [upF_ne ej]; exact h.nd j
  · have cross : ∀ j, j ≠ i → a ∈ fp j → a ∈ f' → False := fun j ej q1 q2 => by
      rcases hsub a q2 with q | q
      · exact ej (h.dj j i a q1 q)
      · exact h.zm a (.inr q) ⟨j, q1⟩
    by_cases ej : j = i
    · subst ej
      rw [upF_same] at g1
      by_cases ek : k = j
      · exact ek.symm
      · rw [upF_ne ek] at g2
        exact (cross k ek g2 g1).elim
    · rw [upF_ne ej] at g1
      by_cases ek : k = i
      · subst ek
        rw [upF_same] at g2
        exact (cross j ej g1 g2).elim
      · rw [upF_ne ek] at g2
        exact h.dj j k a g1 g2
theorem Ext.mut {p : Addr} {us : List V} {i : Nat} {f' rf tf : List Addr} (h : StOk K pv H O Z s r fp) (hp : p ∈ fp i) (hsub : ∀ a ∈ f', a ∈ fp i ∨ a ∈ tf) (hrf : ∀ a ∈ rf, a ∈ fp i) : Ext true H O (MoT fp tf) (L2.upd H p (.lst us)) O (MoT (upF fp i f') rf) where
  keep := fun a o e m => by
    rw [upd_ne fun z => m (.inl (by rw [z]; exact ⟨i, hp⟩))]; exact e
  own := fun _ _ _ _ => Iff.rfl
  live := fun a o e => by
    by_cases ea : a = p
    · rw [ea]; exact ⟨_, upd_same⟩
    · rw [upd_ne ea]; exact ⟨o, e⟩
  sub := fun a m => by
    rcases m with ⟨j, hj⟩ | m
    · by_cases ej : j = i
      · subst ej
        rw [upF_same] at hj
        exact .inl ((hsub a hj).imp (fun q => ⟨j, q⟩) fun q => q)
      · rw [upF_ne ej] at hj; exact .inl (.inl ⟨j, hj⟩)
    · exact .inl (.inl ⟨i, hrf a m⟩)
  same := fun e => by cases e
theorem flat_mem {L : List (List Addr)} {a : Addr} : a ∈ L.flatten ↔ ∃ g ∈ L, a ∈ g := List.mem_flatten
theorem flat_set_mem {a : Addr} {g' : List Addr} : ∀ {L : List (List Addr)} {j : Nat}, a ∈ (L.set j g').flatten → a ∈ g' ∨ a ∈ L.flatten
  | [], _, h => by simp at h
  | g :: L, 0, h => by
    simp only [List.set_cons_zero, List.flatten_cons, List.mem_append] at h ⊢
    rcases h with h | h
    · exact .inl h
    · exact .inr (.inr h)
  | g :: L, j + 1, h => by
    simp only [List.set_cons_succ, List.flatten_cons, List.mem_append] at h ⊢
    rcases h with h | h
    · exact .inr (.inl h)
    · exact (flat_set_mem h).imp (fun q => q) .inr
theorem flat_set_nodup {g' : List Addr} : ∀ {L : List (List Addr)} {j : Nat} {g : List Addr}, L[j]? = some g → L.flatten.Nodup → g'.Nodup → (∀ a ∈ g', a ∈ g ∨ a ∉ L.flatten) → (L.set j g').flatten.Nodup
  | [], _, _, h, _, _, _ => by simp at h
  | g0 :: L, 0, g, h, nd, n', hs => by
    simp at h
    subst h
    simp only [List.set_cons_zero, List.flatten_cons] at nd ⊢
    rw [List.nodup_append] at nd ⊢
    refine ⟨n', nd.2.1, fun a h1 c h2 e => ?_⟩
    subst e
    rcases hs a h1 with q | q
    · exact nd.2.2 a q a h2 rfl
    · exact q (by rw [List.flatten_cons, List.mem_append]; exact .inr h2)
  | g0 :: L, j + 1, g, h, nd, n', hs => by
    simp only [List.set_cons_succ, List.flatten_cons] at nd ⊢
    rw [List.nodup_append] at nd ⊢
    have hg : L[j]? = some g := by simpa using h
    have gin : ∀ a ∈ g, a ∈ L.flatten := fun a ha => flat_mem.mpr ⟨g, List.mem_of_getElem? hg, ha⟩
    refine ⟨nd.1, flat_set_nodup hg nd.2.1 n' fun a ha => (hs a ha).imp (fun q => q) fun q z => q (by rw [List.flatten_cons, List.mem_append]; exact .inr z), fun a h1 c h2 e => ?_⟩
    subst e
    rcases flat_set_mem h2 with q | q
    · rcases hs a q with q | q
      · exact nd.2.2 a h1 a (gin a q) rfl
      · exact q (by rw [List.flatten_cons, List.mem_append]; exact .inl h1)
    · exact nd.2.2 a h1 a q rfl
theorem Trip.at1 {A B C : Type} {F : A → B → C → Prop} : ∀ {l : List A} {m : List B} {n : List C} {i : Nat} {a : A}, Trip F l m n → l[i]? = some a → ∃ b c, m[i]? = some b ∧ n[i]? = some c ∧ F a b c
  | _, _, _, _, _, .nil, h => by simp at h
  | _, _, _, 0, _, .cons r _, h => by simp at h; subst h; exact ⟨_, _, rfl, rfl, r⟩
  | _, _, _, i + 1, _, .cons _ t, h => by
    obtain ⟨b, c, h1, h2, h3⟩ := t.at1 (i := i) (by simpa using h)
    exact ⟨b, c, by simpa using h1, by simpa using h2, h3⟩
theorem Trip.set {A B C : Type} {F : A → B → C → Prop} {a : A} {b : B} {c : C} : ∀ {l : List A} {m : List B} {n : List C} (i : Nat), Trip F l m n → F a b c → Trip F (l.set i a) (m.set i b) (n.set i c)
  | _, _, _, _, .nil, _ => .nil
  | _, _, _, 0, .cons _ t, q => .cons q t
  | _, _, _, i + 1, .cons r t, q => .cons r (t.set i q)
theorem Trip.erase {A B C : Type} {F : A → B → C → Prop} : ∀ {l : List A} {m : List B} {n : List C} (i : Nat), Trip F l m n → Trip F (l.eraseIdx i) (m.eraseIdx i) (n.eraseIdx i)
  | _, _, _, _, .nil => .nil
  | _, _, _, 0, .cons _ t => t
  | _, _, _, i + 1, .cons r t => .cons r (t.erase i)
theorem Trip.app {A B C : Type} {F : A → B → C → Prop} : ∀ {l l' : List A} {m m' : List B} {n n' : List C}, Trip F l m n → Trip F l' m' n' → Trip F (l ++ l') (m ++ m') (n ++ n')
  | _, _, _, _, _, _, .nil, q => q
  | _, _, _, _, _, _, .cons r t, q => .cons r (t.app q)
theorem Trip.take {A B C : Type} {F : A → B → C → Prop} : ∀ {l : List A} {m : List B} {n : List C} (i : Nat), Trip F l m n → Trip F (l.take i) (m.take i) (n.take i)
  | _, _, _, 0, _ => by simp only [List.take_zero]; exact .nil
  | _, _, _, _ + 1, .nil => .nil
  | _, _, _, i + 1, .cons r t => .cons r (t.take i)
theorem Trip.drop {A B C : Type} {F : A → B → C → Prop} : ∀ {l : List A} {m : List B} {n : List C} (i : Nat), Trip F l m n → Trip F (l.drop i) (m.drop i) (n.drop i)
  | _, _, _, 0, r => r
  | _, _, _, _ + 1, .nil => .nil
  | _, _, _, i + 1, .cons _ t => t.drop i
theorem Trip.impAt {A B C : Type} {F G : A → B → C → Prop} : ∀ {l : List A} {m : List B} {n : List C}, Trip F l m n → ∀ j, (∀ (k : Nat) a b c, k ≠ j → n[k]? = some c → F a b c → G a b c) → (∀ a b c, n[j]? = some c → F a b c → G a b c) → Trip G l m n
  | _, _, _, .nil, _, _, _ => .nil
  | _, _, _, .cons r t, 0, f, g => .cons (g _ _ _ rfl r) (t.imp fun a b c hc q => by
      obtain ⟨k, hk⟩ := List.getElem?_of_mem hc
      exact f (k + 1) a b c (by omega) (by simpa using hk) q)
  | _, _, _, .cons r t, j + 1, f, g => .cons (f 0 _ _ _ (by omega) rfl r) (t.impAt j (fun k a b c hk e q => f (k + 1) a b c (by omega) (by simpa using e) q) fun a b c e q => g a b c (by simpa using e) q)
end
end VL
/-! VL: a path's list is changed. -/
namespace VL
open PySem PySem.Spec PyProof.Rows L2
section
variable {K : PySem.W.Frag} {pv : Nat → Option V} {H H' H1 H2 : Hp} {O O' O1 O2 M M' M1 M2 Z Z' Z2 N N' : Addr → Prop} {s s1 s2 : L2.St} {r r' r1 r2 : Env} {fp fp' fp1 fp2 : Fp} {b b2 : Bool}
/-- the list at a is what the path p leads to from v -/
def PathV (H : Hp) (v : V) (p : Option Int) (a : Addr) : Prop :=
  match p with
  | none => v = .ref a
  | some k => ∃ a0 vs0, v = .ref a0 ∧ H a0 = some (.lst vs0) ∧ L2.atI vs0 k = some (.ref a)
theorem atI_of {A : Type} {xs : List A} {k : Int} {j : Nat} {x : A} (h : L2.ixN xs.length k = some j) (e : xs[j]? = some x) : L2.atI xs k = some x := by
  unfold L2.atI
  rw [h]
  exact e
theorem RepO.lref {n : Nat} {ds : List D} {v : V} {f : List Addr} (h : RepO K H O (n + 1) (.list ds) v f) : ∃ a vs fs, v = .ref a ∧ H a = some (.lst vs) ∧ O a ∧ f = a :: fs.flatten ∧ Trip (RepO K H O n) ds vs fs := by
  unfold RepO at h
  exact h
theorem RepO.mkL {n : Nat} {ds : List D} {a : Addr} {vs : List V} {fs : List (List Addr)} (h1 : H a = some (.lst vs)) (h2 : O a) (h3 : Trip (RepO K H O n) ds vs fs) : RepO K H O (n + 1) (.list ds) (.ref a) (a :: fs.flatten) := by
  unfold RepO
  exact ⟨a, vs, fs, rfl, h1, h2, rfl, h3⟩
theorem Trip.updD {n : Nat} {ds : List D} {vs : List V} {fs : List (List Addr)} {p : Addr} {xs ys : List V} (t : Trip (RepO K H O n) ds vs fs) (hp : H p = some (.lst xs)) (ho : O p) (hf : p ∉ fs.flatten) : Trip (RepO K (L2.upd H p (.lst ys)) O n) ds vs fs :=
  t.imp fun d v f h q => q.updD hp ho fun z => hf (List.mem_flatten.mpr ⟨f, h, z⟩)
theorem Trip.setAt {A B C : Type} {F G : A → B → C → Prop} {a : A} {b : B} {c : C} : ∀ {l : List A} {m : List B} {n : List C} (j : Nat), Trip F l m n → (∀ (k : Nat) x y z, k ≠ j → n[k]? = some z → F x y z → G x y z) → G a b c → Trip G (l.set j a) (m.set j b) (n.set j c)
  | _, _, _, _, .nil, _, _ => .nil
  | _, _, _, 0, .cons r t, f, g => .cons g (t.imp fun x y z hz q => by
      obtain ⟨k, hk⟩ := List.getElem?_of_mem hz
      exact f (k + 1) x y z (by omega) (by simpa using hk) q)
  | _, _, _, j + 1, .cons r t, f, g => .cons (f 0 _ _ _ (by omega) rfl r) (t.setAt j (fun k x y z hk e q => f (k + 1) x y z (by omega) (by simpa using e) q) g)
theorem flat_part {L : List (List Addr)} : ∀ {i : Nat} {g : List Addr}, L.flatten.Nodup → L[i]? = some g → g.Nodup := by
  induction L with
  | nil => intro i g _ h; simp at h
  | cons g0 L ih =>
    intro i g nd h
    rw [List.flatten_cons, List.nodup_append] at nd
    cases i with
    | zero => simp at h; subst h; exact nd.1
    | succ i => exact ih nd.2.1 (by simpa using h)
theorem flat_apart {L : List (List Addr)} {a : Addr} : ∀ {i j : Nat} {g g' : List Addr}, L.flatten.Nodup → L[i]? = some g → L[j]? = some g' → i ≠ j → a ∈ g → a ∈ g' → False := by
  induction L with
  | nil => intro i j g g' _ h; simp at h
  | cons g0 L ih =>
    intro i j g g' nd h1 h2 hij m1 m2
    rw [List.flatten_cons, List.nodup_append] at nd
    cases i with
    | zero =>
      cases j with
      | zero => exact hij rfl
      | succ j =>
        simp at h1
        subst h1
        exact nd.2.2 a m1 a (flat_mem.mpr ⟨g', List.mem_of_getElem? (by simpa using h2 : L[j]? = some g'), m2⟩) rfl
    | succ i =>
      cases j with
      | zero =>
        simp at h2
        subst h2
        exact nd.2.2 a m2 a (flat_mem.mpr ⟨g, List.mem_of_getElem? (by simpa using h1 : L[i]? = some g), m1⟩) rfl
      | succ j => exact ih nd.2.1 (by simpa using h1) (by simpa using h2) (by omega) m1 m2
theorem flat_set_mem' {a : Addr} {g' : List Addr} : ∀ {L : List (List Addr)} {j : Nat}, a ∈ (L.set j g').flatten → a ∈ g' ∨ ∃ (k : Nat) (z : List Addr), k ≠ j ∧ L[k]? = some z ∧ a ∈ z
  | [], _, h => by simp at h
  | g :: L, 0, h => by
    simp only [List.set_cons_zero, List.flatten_cons, List.mem_append] at h
    rcases h with h | h
    · exact .inl h
    · obtain ⟨z, hz, ha⟩ := flat_mem.mp h
      obtain ⟨k, hk⟩ := List.getElem?_of_mem hz
      exact .inr ⟨k + 1, z, by omega, by simpa using hk, ha⟩
  | g :: L, j + 1, h => by
    simp only [List.set_cons_succ, List.flatten_cons, List.mem_append] at h
    rcases h with h | h
    · exact .inr ⟨0, g, by omega, rfl, h⟩
    · rcases flat_set_mem' h with h | ⟨k, z, h1, h2, h3⟩
      · exact .inl h
      · exact .inr ⟨k + 1, z, by omega, by simpa using h2, h3⟩
theorem path_ok {n m : Nat} {d : D} {v : V} {f : List Addr} {p : Option Int} {xs : List D} {put : List D → D} (w : RepO K H O n d v f) (nd : f.Nodup) (e : pathL n d p = .ok (m, xs, put)) :
    ∃ a vs fs, PathV H v p a ∧ H a = some (.lst vs) ∧ O a ∧ a ∈ f ∧ Trip (RepO K H O m) xs vs fs ∧ (a :: fs.flatten).Nodup ∧ (∀ c ∈ fs.flatten, c ∈ f) ∧
      ∀ xs' vs' fs', Trip (RepO K H O m) xs' vs' fs' → (a :: fs'.flatten).Nodup → (∀ c ∈ fs'.flatten, c ∈ fs.flatten ∨ c ∉ f) →
        ∃ f', RepO K (L2.upd H a (.lst vs')) O n (put xs') v f' ∧ f'.Nodup ∧ ∀ c ∈ f', (c ∈ f ∧ (c ∈ fs.flatten → c ∈ fs'.flatten)) ∨ c ∈ fs'.flatten := by
  unfold pathL at e
  split at e
  · rename_i ds
    split at e
    · split at e
      · rename_i n'
        cases e
        obtain ⟨a, vs, fs, rfl, h1, h2, rfl, h3⟩ := w.lref
        refine ⟨a, vs, fs, rfl, h1, h2, List.mem_cons_self, h3, nd, fun c hc => List.mem_cons_of_mem _ hc, fun xs' vs' fs' t' nd' _ => ⟨a :: fs'.flatten, RepO.mkL upd_same h2 (t'.updD h1 h2 (List.nodup_cons.mp nd').1), nd', fun c hc => ?_⟩⟩
        rcases List.mem_cons.mp hc with rfl | hc
        · exact .inl ⟨List.mem_cons_self, fun z => absurd z (List.nodup_cons.mp nd).1⟩
        · exact .inr hc
      · cases e
    · rename_i k
      split at e
      · rename_i n'
        split at e
        · rename_i j ej
          split at e
          · rename_i ys ey
            injection e with e
            injection e with em e
            injection e with ex eput
            subst em ex eput
            obtain ⟨a0, vs0, fs0, rfl, h1, h2, rfl, h3⟩ := w.lref
            obtain ⟨v1, g, ev, eg, hr⟩ := h3.at1 ey
            obtain ⟨a, vs, fs, rfl, k1, k2, rfl, k3⟩ := hr.lref
            obtain ⟨nd1, nd2⟩ := List.nodup_cons.mp nd
            have gin : ∀ c ∈ a :: fs.flatten, c ∈ fs0.flatten := fun c hc => flat_mem.mpr ⟨_, List.mem_of_getElem? eg, hc⟩
            have hl := h3.len.1
            have ndg : (a :: fs.flatten).Nodup := flat_part nd2 eg
            refine ⟨a, vs, fs, ⟨a0, vs0, rfl, h1, atI_of (by rw [← hl]; exact ej) ev⟩, k1, k2, List.mem_cons_of_mem _ (gin a List.mem_cons_self), k3, ndg, fun c hc => List.mem_cons_of_mem _ (gin c (List.mem_cons_of_mem _ hc)), fun xs' vs' fs' t' nd' hs' => ?_⟩
            have na0 : a0 ≠ a := fun z => nd1 (by rw [z]; exact gin a List.mem_cons_self)
            have inner : RepO K (L2.upd H a (.lst vs')) O (n' + 1) (.list xs') (.ref a) (a :: fs'.flatten) := RepO.mkL upd_same k2 (t'.updD k1 k2 (List.nodup_cons.mp nd').1)
            have outer1 : Trip (RepO K (L2.upd H a (.lst vs')) O (n' + 1)) (ds.set j (.list xs')) (vs0.set j (.ref a)) (fs0.set j (a :: fs'.flatten)) :=
              h3.setAt j (fun k' x y z hk' ez q => q.updD k1 k2 fun ha => flat_apart nd2 ez eg hk' ha List.mem_cons_self) inner
            have evs : vs0.set j (.ref a) = vs0 := set_self ev
            rw [evs] at outer1
            refine ⟨a0 :: (fs0.set j (a :: fs'.flatten)).flatten, RepO.mkL (by rw [upd_ne na0]; exact h1) h2 outer1, List.nodup_cons.mpr ⟨fun z => ?_, flat_set_nodup eg nd2 nd' fun c hc => ?_⟩, fun c hc => ?_⟩
            · rcases flat_set_mem z with z | z
              · rcases List.mem_cons.mp z with z | z
                · exact na0 z
                · rcases hs' a0 z with q | q
                  · exact nd1 (gin a0 (List.mem_cons_of_mem _ q))
                  · exact q List.mem_cons_self
              · exact nd1 z
            · rcases List.mem_cons.mp hc with rfl | hc
              · exact .inl List.mem_cons_self
              · rcases hs' c hc with q | q
                · exact .inl (List.mem_cons_of_mem _ q)
                · exact .inr fun z => q (List.mem_cons_of_mem _ z)
            · rcases List.mem_cons.mp hc with rfl | hc
              · exact .inl ⟨List.mem_cons_self, fun z => absurd (gin _ (List.mem_cons_of_mem _ z)) nd1⟩
              · rcases flat_set_mem' hc with hc | ⟨k', z, q1, q2, q3⟩
                · rcases List.mem_cons.mp hc with rfl | hc
                  · exact .inl ⟨List.mem_cons_of_mem _ (gin _ List.mem_cons_self), fun z => absurd z (List.nodup_cons.mp ndg).1⟩
                  · exact .inr hc
                · exact .inl ⟨List.mem_cons_of_mem _ (flat_mem.mpr ⟨z, List.mem_of_getElem? q2, q3⟩), fun w => (flat_apart nd2 q2 eg q1 q3 (List.mem_cons_of_mem _ w)).elim⟩
          · cases e
        · cases e
      · cases e
  · cases e
end
end VL
/-! VL: append, pop and their like. -/
namespace VL
open PySem PySem.Spec PyProof.Rows L2
section
variable {K : PySem.W.Frag} {pv : Nat → Option V} {H H' H1 H2 : Hp} {O O' O1 O2 M M' M1 M2 Z Z' Z2 N N' : Addr → Prop} {s s1 s2 : L2.St} {r r' r1 r2 : Env} {fp fp' fp1 fp2 : Fp} {b b2 : Bool}
theorem mut_ok {tf : List Addr} {i : Nat} {p : Option Int} {f : List D → R (D × List D)} {rd : D} (h : StOk K pv H O (ZT Z tf) s r fp) (hZt : ∀ a, Z a → a ∉ tf) (e : updE i p f r = .ok (rd, r')) :
    ∃ v a vs fs m xs xs', s[i]? = some (some v) ∧ PathV H v p a ∧ H a = some (.lst vs) ∧ Trip (RepO K H O m) xs vs fs ∧ (a :: fs.flatten).Nodup ∧ (∀ c ∈ a :: fs.flatten, Mo fp c) ∧ depS i p r = .ok m ∧ f xs = .ok (rd, xs') ∧
      ∀ vs' fs' rf, Trip (RepO K H O m) xs' vs' fs' → (a :: fs'.flatten).Nodup → (∀ c ∈ fs'.flatten, c ∈ fs.flatten ∨ c ∈ tf) → (∀ c ∈ rf, c ∈ fs.flatten ∧ c ∉ fs'.flatten) →
        ∃ fp', StOk K pv (L2.upd H a (.lst vs')) O (ZT Z rf) s r' fp' ∧ Ext true H O (MoT fp tf) (L2.upd H a (.lst vs')) O (MoT fp' rf) := by
  have core : ∀ n d (mk : D → Sl), (∀ d', ∀ n' d'', mk d' ≠ .lk n' d'') → r[i]? = some (mk d) → (∃ v, s[i]? = some (some v) ∧ RepO K H O n d v (fp i) ∧ ∀ H2 d' f', RepO K H2 O n d' v f' → SlOk K H2 O (fun _ => True) (pv i) (some (some v)) (mk d') f') →
      (pathL n d p >>= fun q => f q.2.1 >>= fun w => .ok (w.1, r.set i (mk (q.2.2 w.2)))) = .ok (rd, r') → (∀ m xs put, pathL n d p = .ok (m, xs, put) → depS i p r = .ok m) →
      ∃ v a vs fs m xs xs', s[i]? = some (some v) ∧ PathV H v p a ∧ H a = some (.lst vs) ∧ Trip (RepO K H O m) xs vs fs ∧ (a :: fs.flatten).Nodup ∧ (∀ c ∈ a :: fs.flatten, Mo fp c) ∧ depS i p r = .ok m ∧ f xs = .ok (rd, xs') ∧
      ∀ vs' fs' rf, Trip (RepO K H O m) xs' vs' fs' → (a :: fs'.flatten).Nodup → (∀ c ∈ fs'.flatten, c ∈ fs.flatten ∨ c ∈ tf) → (∀ c ∈ rf, c ∈ fs.flatten ∧ c ∉ fs'.flatten) →
        ∃ fp', StOk K pv (L2.upd H a (.lst vs')) O (ZT Z rf) s r' fp' ∧ Ext true H O (MoT fp tf) (L2.upd H a (.lst vs')) O (MoT fp' rf) := by
    intro n d mk hmk hr ⟨v, es, w, hsl⟩ e hdep
    obtain ⟨⟨m, xs, put⟩, e1, e⟩ := bind_ok_iff.mp e
    obtain ⟨⟨rd', xs'⟩, e2, e⟩ := bind_ok_iff.mp e
    dsimp only at e2 e
    injection e with e
    injection e with ea eb
    subst ea eb
    obtain ⟨a, vs, fs, g1, g2, g3, g4, g5, g6, g7, g8⟩ := path_ok w (h.nd i) e1
    refine ⟨v, a, vs, fs, m, xs, xs', es, g1, g2, g5, g6, fun c hc => ?_, hdep m xs put e1, e2, fun vs' fs' rf t' nd' hs' hrf => ?_⟩
    · rcases List.mem_cons.mp hc with rfl | hc
      · exact ⟨i, g4⟩
      · exact ⟨i, g7 c hc⟩
    · obtain ⟨f', k1, k2, k3⟩ := g8 xs' vs' fs' t' nd' fun c hc => (hs' c hc).imp (fun q => q) fun q z => h.zm c (.inr q) ⟨i, z⟩
      have hsub : ∀ c ∈ f', c ∈ fp i ∨ c ∈ tf := fun c hc => by
        rcases k3 c hc with q | q
        · exact .inl q.1
        · exact (hs' c q).imp (g7 c) fun q => q
      have hrf' : ∀ c ∈ rf, c ∈ fp i ∧ c ∉ f' := fun c hc => by
        obtain ⟨q1, q2⟩ := hrf c hc
        refine ⟨g7 c q1, fun z => ?_⟩
        rcases k3 c z with q | q
        · exact q2 (q.2 q1)
        · exact q2 q
      exact ⟨upF fp i f', h.mut g4 g2 es (hsl _ _ _ k1) (hmk _) k2 hsub hrf' hZt, Ext.mut h g4 hsub fun c hc => (hrf' c hc).1⟩
  unfold updE at e
  split at e
  · rename_i n d hr
    refine core n d (fun d => .ow n d) (fun _ _ _ => nofun) hr ?_ e fun m xs put ep => ?_
    · obtain ⟨v, ev, w⟩ := h.sl i _ hr
      exact ⟨v, ev, w, fun H2 d' f' w' => ⟨v, rfl, w'⟩⟩
    · unfold depS
      rw [hr]
      dsimp only
      rw [ep]
      rfl
  · rename_i n d hr
    refine core n d (fun d => .mt n d) (fun _ _ _ => nofun) hr ?_ e fun m xs put ep => ?_
    · obtain ⟨v, ev, ep, w⟩ := h.sl i _ hr
      exact ⟨v, ev, w, fun H2 d' f' w' => ⟨v, rfl, ep, w'⟩⟩
    · unfold depS
      rw [hr]
      dsimp only
      rw [ep]
      rfl
  · cases e
theorem dep_ok {i m : Nat} {p : Option Int} (h : StOk K pv H O Z s r fp) (e : depS i p r = .ok m) : ∃ v a vs, s[i]? = some (some v) ∧ PathV H v p a ∧ H a = some (.lst vs) := by
  unfold depS at e
  split at e
  · rename_i n d hr
    obtain ⟨⟨m', xs, put⟩, e1, e⟩ := bind_ok_iff.mp e
    obtain ⟨v, ev, w⟩ := h.sl i _ hr
    obtain ⟨a, vs, fs, g1, g2, _⟩ := path_ok w (h.nd i) e1
    exact ⟨v, a, vs, ev, g1, g2⟩
  · rename_i n d hr
    obtain ⟨⟨m', xs, put⟩, e1, e⟩ := bind_ok_iff.mp e
    obtain ⟨v, ev, _, w⟩ := h.sl i _ hr
    obtain ⟨a, vs, fs, g1, g2, _⟩ := path_ok w (h.nd i) e1
    exact ⟨v, a, vs, ev, g1, g2⟩
  · cases e
theorem path_same {v : V} {p : Option Int} {a c : Addr} (hp : p = none ∨ ∀ a o, H a = some o → H' a = some o) (h : PathV H v p a) (h' : PathV H' v p c) : a = c := by
  cases p with
  | none =>
    have e1 : v = .ref a := h
    have e2 : v = .ref c := h'
    rw [e1] at e2
    cases e2
    rfl
  | some k =>
    obtain ⟨a0, vs0, e1, e2, e3⟩ := h
    obtain ⟨c0, us0, e4, e5, e6⟩ := h'
    rw [e1] at e4
    cases e4
    rcases hp with hp | hp
    · cases hp
    · have := hp a0 _ e2
      rw [e5] at this
      cases this
      rw [e3] at e6
      cases e6
      rfl
theorem ze_tf {tf : List Addr} (h : StOk K pv H O Z s r fp) (x : Ext b H O (Mo fp) H2 O2 (MoT fp2 tf)) : ∀ a, Z a → a ∉ tf := fun a z ha => by
  rcases x.sub a (.inr ha) with q | q
  · exact h.zm a z q
  · obtain ⟨o, e⟩ := h.ze a z
    rw [q] at e; cases e
/-- the reading of a list that is to be changed -/
def tOb (K : PySem.W.Frag) (pv : Nat → Option V) (G : Str → Option Fd) (i : Nat) (p : Ex) : TE := fun s H Q => ∃ O Z r fp v0 a r' m, StOk K pv H O Z s r fp ∧ rd i r = .ok v0 ∧ evP G p r = .ok (a, r') ∧ depS i a r' = .ok m ∧
  ∀ v c vs H' O' fp', StOk K pv H' O' Z s r' fp' → Ext (!pureX G p) H O (Mo fp) H' O' (Mo fp') → s[i]? = some (some v) → PathV H' v a c → H' c = some (.lst vs) → Q (.ref c) H'
end
theorem PE.ex {X : Cx} {e : Expr} {ι : Type} {t : ι → TE} (h : ∀ i, PE X e (t i)) : PE X e (fun s H Q => ∃ i, t i s H Q) := ⟨fun pins s σ H Q I ⟨i, w⟩ => (h i).run pins s σ H Q I w⟩
section
variable {X : Cx} {c : Cc}
structure VO (X : Cx) (c : Cc) (e : Expr) (i : Nat) (p : Ex) : Prop where
  obj : ∀ pv, PE X e (tOb X.K pv c.G i p)
theorem vo_name {e : Expr} {i : Nat} (h : VE X c e (.v i)) : VO X c e i .nil where
  obj := fun pv => PE.imp (h.var i rfl) fun s H Q q => by
    obtain ⟨O, Z, r, fp, v0, a, r', m, h, e0, e1, e2, q⟩ := q
    cases e1
    obtain ⟨v, a, vs, g1, g2, g3⟩ := dep_ok h e2
    have e3 : v = .ref a := g2
    exact ⟨v, g1, by rw [e3]; exact q v a vs H O fp h .refl g1 g2 g3⟩
theorem vo_ix {a j : Expr} {i : Nat} {xj : Ex} {pos : Pos} (ha : VE X c a (.v i)) (hj : VE X c j xj) (hs : PlainIx j) (hn : isNil xj = false) : VO X c (.Subscript a j pos) i xj where
  obj := fun pv => PE.imp (pe_ix ix_seq (ha.var i rfl) (PEtR (hj.val pv)) hs) fun s H Q q => by
    obtain ⟨O, Z, r, fp, v0, k, r', m, h, e0, e1, e2, q⟩ := q
    have ee : evP c.G xj r = (ev c.G xj r >>= fun q => asI q.1.d >>= fun i => .ok (some i, q.2)) := by cases xj <;> first | rfl | cases hn
    rw [ee] at e1
    obtain ⟨⟨w, r1⟩, e3, e1⟩ := bind_ok_iff.mp e1
    obtain ⟨n, e4, e1⟩ := bind_ok_iff.mp e1
    cases e1
    obtain ⟨xv, g0, _⟩ := h.rd e0
    refine ⟨xv, g0, O, Z, r, fp, w, _, h, e3, fun y H' O' fp' h' x' hy => ?_⟩
    obtain ⟨v, a, vs, g1, g2, g3⟩ := dep_ok h' e2
    rw [g0] at g1
    cases g1
    obtain ⟨a0, vs0, e5, e6, e7⟩ := id g2
    exact .inl ⟨a0, vs0, n, .ref a, e5, hy.ii e4, .inl (.inl e6), e7, q xv a vs H' O' fp' h' x' g0 g2 g3⟩
theorem few1 {e : Expr} {env : PySem.Env} {cpos : Pos} (hn : notStar e = true) : ((backTo cpos (starEach [e] env)).all (fun x => !x.1) && (backToKw cpos (keywordEach [] env)).all (fun x => x.1.isSome) && decide ([e].length + ([] : List Keyword).length + (if ([] : List Keyword).isEmpty then 0 else 1) < 30)) = true := by
  rw [starEach_cons hn]
  rfl
theorem nil_or {G : Str → Option Fd} {p e : Ex} {r r1 : Env} {a : Option Int} (h : (isNil p || pureX G e) = true) (ep : evP G p r = .ok (a, r1)) : a = none ∨ pureX G e = true := by
  rw [Bool.or_eq_true] at h
  rcases h with h | h
  · cases p <;> first | (cases ep; exact .inl rfl) | cases h
  · exact .inr h
theorem ve_app {o e : Expr} {i : Nat} {xp xe : Ex} {apos cpos : Pos} (ho : VO X c o i xp) (he : VE X c e xe) (hn : notStar e = true) (hbase : attributeBase o "append" X.env (eval o X.env) = eval o X.env) (hline : (apos.endLine == cpos.line) = true) :
    VE X c (.Call (.Attribute o "append" apos) [e] [] cpos) (.app i xp xe) where
  val := fun pv => by
    refine PE.imp (pe_bm PySem.F.plainAttrs_list PySem.F.slot_list_append rfl (show MtR X _ rAppend from mt_append) (ho.obj pv) (pa_cons (PE.ex fun m => he.tk (pv := pv) m) pa_nil (starEach_cons (es := []) (env := X.env) hn)) hbase (few1 hn) hline (starEach_cons (es := []) hn) rfl) fun s H Q q => ?_
    obtain ⟨O, Z, r, fp, v, r', h, e, q⟩ := q
    unfold ev at e
    obtain ⟨v0, e0, e⟩ := bind_ok_iff.mp e
    obtain ⟨⟨a, r1⟩, e1, e⟩ := bind_ok_iff.mp e
    obtain ⟨m, e2, e⟩ := bind_ok_iff.mp e
    dsimp only at e e2
    split at e
    · rename_i hc
      obtain ⟨⟨d, r2⟩, e3, e⟩ := bind_ok_iff.mp e
      obtain ⟨m', e4, e⟩ := bind_ok_iff.mp e
      dsimp only at e e4
      split at e
      · rename_i em
        rw [em] at e4
        obtain ⟨⟨rd, r3⟩, e5, e6⟩ := bind_ok_iff.mp e
        injection e6 with e6
        injection e6 with ea eb
        subst ea eb
        have e1' : evP c.G xp r = .ok (a, r1) := e1
        refine ⟨O, Z, r, fp, v0, a, r1, _, h, e0, e1', e2, fun v b vs H1 O1 fp1 h1 x1 es hp hb => ⟨.inl ⟨rfl, vs, .inl (.inl hb)⟩, m, O1, Z, r1, fp1, d, r2, h1, e3, fun y H2 O2 fp2 tf h2 x2 w n => ?_⟩⟩
        have hZt := ze_tf h1 x2
        obtain ⟨v', b', us, fs, mm, xs, xs', g1, g2, g3, g4, g5, g6, g7, g8, g9⟩ := mut_ok h2 hZt e5
        rw [es] at g1
        cases g1
        have eb : b = b' := path_same ((nil_or hc e1').imp (fun q => q) fun q => x2.same (by rw [q]; rfl)) hp g2
        subst eb
        rw [e4] at g7
        cases g7
        unfold appL at g8
        split at g8
        · rename_i hl
          cases g8
          have dis : ∀ c ∈ b :: fs.flatten, c ∉ tf := fun c hc z => h2.zm c (.inr z) (g6 c hc)
          have efl : (fs ++ [tf]).flatten = fs.flatten ++ tf := by simp
          obtain ⟨fp3, h3, x3⟩ := g9 (us ++ [y]) (fs ++ [tf]) [] (g4.app1 w) (by
            rw [efl, ← List.cons_append, List.nodup_append]
            exact ⟨g5, n, fun c h1 c' h2 e => by subst e; exact dis c h1 h2⟩) (fun c hc => by rw [efl, List.mem_append] at hc; exact hc) (fun c hc => by cases hc)
          refine ⟨b, us, y, rfl, rfl, g3, by rw [← g4.len.1]; exact lim_sz hl, q .non _ O2 fp3 [] h3 (((x1.trans x2).trans x3).weak fun _ => rfl) (.fz RepF.mkN)⟩
        · cases g8
      · cases e
    · cases e
  var := fun i e => by cases e
end
end VL
/-! VL: pop; x[k] = e. -/
namespace VL
open PySem PySem.Spec PyProof.Rows L2
theorem flat_erase_mem {a : Addr} : ∀ {L : List (List Addr)} {j : Nat}, a ∈ (L.eraseIdx j).flatten → ∃ (k : Nat) (z : List Addr), k ≠ j ∧ L[k]? = some z ∧ a ∈ z
  | [], _, h => by simp at h
  | g :: L, 0, h => by
    simp only [List.eraseIdx_cons_zero] at h
    obtain ⟨z, hz, ha⟩ := flat_mem.mp h
    obtain ⟨k, hk⟩ := List.getElem?_of_mem hz
    exact ⟨k + 1, z, by omega, by simpa using hk, ha⟩
  | g :: L, j + 1, h => by
    simp only [List.eraseIdx_cons_succ, List.flatten_cons, List.mem_append] at h
    rcases h with h | h
    · exact ⟨0, g, by omega, rfl, h⟩
    · obtain ⟨k, z, h1, h2, h3⟩ := flat_erase_mem h
      exact ⟨k + 1, z, by omega, by simpa using h2, h3⟩
theorem flat_erase_nodup : ∀ {L : List (List Addr)} {j : Nat}, L.flatten.Nodup → (L.eraseIdx j).flatten.Nodup
  | [], _, h => by simp
  | g :: L, 0, h => by
    rw [List.flatten_cons, List.nodup_append] at h
    simpa only [List.eraseIdx_cons_zero] using h.2.1
  | g :: L, j + 1, h => by
    rw [List.flatten_cons, List.nodup_append] at h
    simp only [List.eraseIdx_cons_succ, List.flatten_cons]
    rw [List.nodup_append]
    refine ⟨h.1, flat_erase_nodup h.2.1, fun a h1 c h2 e => ?_⟩
    obtain ⟨k, z, _, q2, q3⟩ := flat_erase_mem h2
    exact h.2.2 a h1 c (flat_mem.mpr ⟨z, List.mem_of_getElem? q2, q3⟩) e
section
variable {K : PySem.W.Frag} {pv : Nat → Option V} {H H' H1 H2 : Hp} {O O' O1 O2 M M' M1 M2 Z Z' Z2 N N' : Addr → Prop} {s s1 s2 : L2.St} {r r' r1 r2 : Env} {fp fp' fp1 fp2 : Fp} {b b2 : Bool}
def PopIx (k : Option Int) (n j : Nat) : Prop :=
  match k with
  | none => j = n - 1
  | some i => -(2 ^ 63) ≤ i ∧ i < 2 ^ 63 ∧ L2.ixN n i = some j
/-- an item is taken out -/
theorem pop_ok {i : Nat} {p : Option Int} {k : Option Int} {rd : D} {m : Nat} (h : StOk K pv H O Z s r fp) (em : depS i p r = .ok m) (e : updE i p (fun xs => popL k xs) r = .ok (rd, r')) :
    ∃ v a vs j y rf fp', s[i]? = some (some v) ∧ PathV H v p a ∧ H a = some (.lst vs) ∧ vs[j]? = some y ∧ PopIx k vs.length j ∧
      StOk K pv (L2.upd H a (.lst (vs.eraseIdx j))) O (ZT Z rf) s r' fp' ∧ Ext true H O (Mo fp) (L2.upd H a (.lst (vs.eraseIdx j))) O (MoT fp' rf) ∧ ValOk K (L2.upd H a (.lst (vs.eraseIdx j))) O ⟨true, m, rd⟩ y rf := by
  have hh := h
  rw [← ZT.nil (Z := Z)] at hh
  obtain ⟨v, a, vs, fs, mm, xs, xs', g1, g2, g3, g4, g5, g6, g7, g8, g9⟩ := mut_ok hh (fun _ _ z => by cases z) e
  rw [em] at g7
  cases g7
  have key : ∀ j, xs[j]? = some rd → xs' = xs.eraseIdx j → PopIx k vs.length j →
      ∃ v a vs j y rf fp', s[i]? = some (some v) ∧ PathV H v p a ∧ H a = some (.lst vs) ∧ vs[j]? = some y ∧ PopIx k vs.length j ∧
      StOk K pv (L2.upd H a (.lst (vs.eraseIdx j))) O (ZT Z rf) s r' fp' ∧ Ext true H O (Mo fp) (L2.upd H a (.lst (vs.eraseIdx j))) O (MoT fp' rf) ∧ ValOk K (L2.upd H a (.lst (vs.eraseIdx j))) O ⟨true, m, rd⟩ y rf := by
    intro j ej ex hk
    obtain ⟨y, g, e1, e2, w⟩ := g4.at1 ej
    obtain ⟨nd1, nd2⟩ := List.nodup_cons.mp g5
    have gin : ∀ c ∈ g, c ∈ fs.flatten := fun c hc => flat_mem.mpr ⟨g, List.mem_of_getElem? e2, hc⟩
    obtain ⟨fp3, h3, x3⟩ := g9 (vs.eraseIdx j) (fs.eraseIdx j) g (by rw [ex]; exact g4.erase j) (List.nodup_cons.mpr ⟨fun z => by
        obtain ⟨k', z', q1, q2, q3⟩ := flat_erase_mem z
        exact nd1 (flat_mem.mpr ⟨z', List.mem_of_getElem? q2, q3⟩), flat_erase_nodup nd2⟩) (fun c hc => by
        obtain ⟨k', z', q1, q2, q3⟩ := flat_erase_mem hc
        exact .inl (flat_mem.mpr ⟨z', List.mem_of_getElem? q2, q3⟩)) (fun c hc => ⟨gin c hc, fun z => by
        obtain ⟨k', z', q1, q2, q3⟩ := flat_erase_mem z
        exact flat_apart nd2 q2 e2 q1 q3 hc⟩)
    rw [MoT.nil] at x3
    refine ⟨v, a, vs, j, y, g, fp3, g1, g2, g3, e1, hk, h3, x3, ?_, flat_part nd2 e2⟩
    exact w.updD g3 (h.mok a (g6 a List.mem_cons_self)).1 fun z => nd1 (gin a z)
  have hl := g4.len.1
  unfold popL at g8
  cases k with
  | none =>
    dsimp only at g8
    split at g8
    · rename_i y ey
      cases g8
      refine key (xs.length - 1) ey ?_ (by rw [hl]; rfl)
      exact (PyProof.Rows.Copied.eraseIdx_last xs).symm
    · cases g8
  | some n =>
    dsimp only at g8
    split at g8
    · rename_i hn
      split at g8
      · rename_i j ej
        split at g8
        · rename_i y ey
          cases g8
          exact key j ey rfl ⟨hn.1, hn.2, by rw [← hl]; exact ej⟩
        · cases g8
      · cases g8
    · cases g8
theorem set_ok {tf : List Addr} {i : Nat} {p : Option Int} {n : Int} {d rd : D} {m : Nat} {y : V} (h : StOk K pv H O (ZT Z tf) s r fp) (hZt : ∀ a, Z a → a ∉ tf) (em : depS i p r = .ok m) (e : updE i p (fun xs => setL n d xs) r = .ok (rd, r')) (w : RepO K H O m d y tf) (ndt : tf.Nodup) :
    ∃ v a vs j fp', s[i]? = some (some v) ∧ PathV H v p a ∧ H a = some (.lst vs) ∧ L2.ixN vs.length n = some j ∧ StOk K pv (L2.upd H a (.lst (vs.set j y))) O Z s r' fp' ∧ Ext true H O (MoT fp tf) (L2.upd H a (.lst (vs.set j y))) O (Mo fp') := by
  obtain ⟨v, a, vs, fs, mm, xs, xs', g1, g2, g3, g4, g5, g6, g7, g8, g9⟩ := mut_ok h hZt e
  rw [em] at g7
  cases g7
  unfold setL at g8
  split at g8
  · rename_i j ej
    cases g8
    obtain ⟨nd1, nd2⟩ := List.nodup_cons.mp g5
    have hl := g4.len.1
    have hl2 := g4.len.2
    have hj : j < xs.length := (ixN_seq ej).2.1
    have dis : ∀ c, c ∈ tf → c ∉ a :: fs.flatten := fun c z hc => h.zm c (.inr z) (g6 c hc)
    have eg : fs[j]? = some (fs[j]'(by omega)) := List.getElem?_eq_getElem _
    obtain ⟨fp3, h3, x3⟩ := g9 (vs.set j y) (fs.set j tf) [] (g4.set j w) (List.nodup_cons.mpr ⟨fun z => by
        rcases flat_set_mem z with z | z
        · exact dis a z List.mem_cons_self
        · exact nd1 z, flat_set_nodup eg nd2 ndt fun c hc => .inr fun z => dis c hc (List.mem_cons_of_mem _ z)⟩) (fun c hc => (flat_set_mem hc).symm) (fun c hc => by cases hc)
    rw [ZT.nil] at h3
    rw [MoT.nil] at x3
    exact ⟨v, a, vs, j, fp3, g1, g2, g3, by rw [← hl]; exact ej, h3, x3⟩
  · cases g8
end
section
variable {X : Cx} {c : Cc}
theorem few0 {env : PySem.Env} : True := trivial
theorem ve_pop0 {o : Expr} {i : Nat} {xp : Ex} {apos cpos : Pos} (ho : VO X c o i xp) (hbase : attributeBase o "pop" X.env (eval o X.env) = eval o X.env) (hline : (apos.endLine == cpos.line) = true) :
    VE X c (.Call (.Attribute o "pop" apos) [] [] cpos) (.pop i xp .nil) where
  val := fun pv => by
    refine PE.imp (pe_bm0 PySem.F.plainAttrs_list PySem.F.slot_list_pop rfl (show MtR X _ rPop from mt_pop) (ho.obj pv) hbase hline) fun s H Q q => ?_
    obtain ⟨O, Z, r, fp, v, r', h, e, q⟩ := q
    unfold ev at e
    obtain ⟨v0, e0, e⟩ := bind_ok_iff.mp e
    obtain ⟨⟨a, r1⟩, e1, e⟩ := bind_ok_iff.mp e
    obtain ⟨m, e2, e⟩ := bind_ok_iff.mp e
    dsimp only at e e2
    split at e
    · obtain ⟨⟨b, r2⟩, e3, e⟩ := bind_ok_iff.mp e
      obtain ⟨m', e4, e⟩ := bind_ok_iff.mp e
      obtain ⟨⟨rd, r3⟩, e5, ef⟩ := bind_ok_iff.mp e
      cases e3
      injection ef with ef
      injection ef with ea eb
      subst ea eb
      have e1' : evP c.G xp r = .ok (a, r1) := e1
      refine ⟨O, Z, r, fp, v0, a, r1, _, h, e0, e1', e2, fun v b vs H1 O1 fp1 h1 x1 es hp hb => ⟨.inl ⟨rfl, vs, .inl (.inl hb)⟩, ?_⟩⟩
      obtain ⟨v', b', us, j, y, rf, fp3, g1, g2, g3, g4, g5, h3, x3, hv⟩ := pop_ok h1 e4 e5
      rw [es] at g1
      cases g1
      have eb : b = b' := path_same (.inr fun _ _ q => q) hp g2
      subst eb
      rw [hb] at g3
      cases g3
      have g5 : j = vs.length - 1 := g5
      subst g5
      rw [PyProof.Rows.Copied.eraseIdx_last] at h3 x3 hv
      exact ⟨b, vs, y, rfl, rfl, hb, g4, q y _ O1 fp3 rf h3 ((x1.trans x3).weak fun _ => rfl) hv⟩
    · cases e
  var := fun i e => by cases e
theorem ve_pop1 {o e : Expr} {i : Nat} {xp xe : Ex} {apos cpos : Pos} (ho : VO X c o i xp) (he : VE X c e xe) (hx : isNil xe = false) (hn : notStar e = true) (hbase : attributeBase o "pop" X.env (eval o X.env) = eval o X.env) (hline : (apos.endLine == cpos.line) = true) :
    VE X c (.Call (.Attribute o "pop" apos) [e] [] cpos) (.pop i xp xe) where
  val := fun pv => by
    refine PE.imp (pe_bm PySem.F.plainAttrs_list PySem.F.slot_list_pop rfl (show MtR X _ rPopAt from mt_popAt) (ho.obj pv) (pa_cons (PEtR (he.val pv)) pa_nil (starEach_cons (es := []) (env := X.env) hn)) hbase (few1 hn) hline (starEach_cons (es := []) hn) rfl) fun s H Q q => ?_
    obtain ⟨O, Z, r, fp, v, r', h, e, q⟩ := q
    unfold ev at e
    obtain ⟨v0, e0, e⟩ := bind_ok_iff.mp e
    obtain ⟨⟨a, r1⟩, e1, e⟩ := bind_ok_iff.mp e
    obtain ⟨m, e2, e⟩ := bind_ok_iff.mp e
    dsimp only at e e2
    split at e
    · rename_i hc
      obtain ⟨⟨b, r2⟩, e3, e⟩ := bind_ok_iff.mp e
      obtain ⟨m', e4, e⟩ := bind_ok_iff.mp e
      obtain ⟨⟨rd, r3⟩, e5, ef⟩ := bind_ok_iff.mp e
      injection ef with ef
      injection ef with ea eb
      subst ea eb
      have e1' : evP c.G xp r = .ok (a, r1) := e1
      have e3' : evP c.G xe r1 = .ok (b, r2) := e3
      have ee : evP c.G xe r1 = (ev c.G xe r1 >>= fun q => asI q.1.d >>= fun i => .ok (some i, q.2)) := by cases xe <;> first | rfl | cases hx
      rw [ee] at e3'
      obtain ⟨⟨w, r2'⟩, e6, e3'⟩ := bind_ok_iff.mp e3'
      obtain ⟨n, e7, e3'⟩ := bind_ok_iff.mp e3'
      injection e3' with e3'
      injection e3' with eb1 eb2
      subst eb1 eb2
      refine ⟨O, Z, r, fp, v0, a, r1, _, h, e0, e1', e2, fun v b vs H1 O1 fp1 h1 x1 es hp hb => ⟨.inl ⟨rfl, vs, .inl (.inl hb)⟩, O1, Z, r1, fp1, w, r2', h1, e6, fun z H2 O2 fp2 h2 x2 hz => ?_⟩⟩
      obtain ⟨v', b', us, j, y, rf, fp3, g1, g2, g3, g4, g5, h3, x3, hv⟩ := pop_ok h2 e4 e5
      rw [es] at g1
      cases g1
      have eb : b = b' := path_same ((nil_or hc e1').imp (fun q => q) fun q => x2.same (by rw [q]; rfl)) hp g2
      subst eb
      obtain ⟨k1, k2, k3⟩ := g5
      exact ⟨b, us, n, j, y, rfl, by rw [hz.ii e7], g3, k1, k2, (ixN_seq k3).1, g4, q y _ O2 fp3 rf h3 (((x1.trans x2).trans x3).weak fun _ => rfl) hv⟩
    · cases e
  var := fun i e => by cases e
/-- x[k] = e, x[p][k] = e -/
theorem sets_read {G : Str → Option Fd} {rm : Nat} {K : PySem.W.Frag} {pv : Nat → Option V} {i : Nat} {xp xk xe : Ex} {Dn : Ends} {s : L2.St} {H : Hp} (q : tS K pv G rm (.sets i xp xk xe) Dn s H) :
    tAsg (fun s H Q => ∃ m, tD K pv (!pureX G xe) m (tk m xe (ev G xe)) s H Q) (gSub (tOb K pv G i xp) (tR K pv (!pureX G xk) (ev G xk)) rSetL) Dn s H := by
  obtain ⟨O, Z, r, fp, o, h, e, q⟩ := q
  unfold exec at e
  obtain ⟨m, e0, e⟩ := bind_ok_iff.mp e
  obtain ⟨⟨d, r1⟩, e1, e⟩ := bind_ok_iff.mp e
  obtain ⟨v0, e2, e⟩ := bind_ok_iff.mp e
  obtain ⟨⟨a, r2⟩, e3, e⟩ := bind_ok_iff.mp e
  obtain ⟨m2, e4, e⟩ := bind_ok_iff.mp e
  dsimp only at e e2 e3 e4
  split at e
  · rename_i hc
    obtain ⟨⟨w, r3⟩, e5, e⟩ := bind_ok_iff.mp e
    obtain ⟨n, e6, e⟩ := bind_ok_iff.mp e
    obtain ⟨m', e7, e⟩ := bind_ok_iff.mp e
    dsimp only at e e6 e7
    split at e
    · rename_i em
      rw [em] at e7
      obtain ⟨⟨rd, r4⟩, e8, e⟩ := bind_ok_iff.mp e
      injection e with e
      subst e
      have e3' : evP G xp r1 = .ok (a, r2) := e3
      refine ⟨m, O, Z, r, fp, d, r1, h, e1, fun y H1 O1 fp1 tf h1 x1 wy ny => ?_⟩
      refine ⟨O1, ZT Z tf, r1, fp1, v0, a, r2, m2, h1, e2, e3', e4, fun v b vs H2 O2 fp2 h2 x2 es hp hb => ⟨O2, ZT Z tf, r2, fp2, w, r3, h2, e5, fun z H3 O3 fp3 h3 x3 hz => ?_⟩⟩
      have xx : Ext _ H O (Mo fp) H3 O3 (MoT fp3 tf) := (x1.held0 x2).held0 x3
      have wy3 : RepO K H3 O3 m d y tf := held_repO h2 (by rw [← MoT.nil (fp := fp3)] at x3; exact x3) (held_repO h1 (by rw [← MoT.nil (fp := fp2)] at x2; exact x2) wy)
      obtain ⟨v', b', us, j, fp4, g1, g2, g3, g4, h4, x4⟩ := set_ok h3 (ze_tf h xx) e7 e8 wy3 ny
      rw [es] at g1
      cases g1
      have eb : b = b' := path_same ((nil_or hc e3').imp (fun q => q) fun q => x3.same (by rw [q]; rfl)) hp g2
      subst eb
      exact ⟨b, us, n, j, rfl, hz.ii e6, g3, g4, q s _ O3 fp4 h4 ((xx.trans x4).weak fun _ => rfl) (fun _ _ => rfl) rfl⟩
    · cases e
  · cases e
end
end VL
/-! VL: extend. -/
namespace VL
open PySem PySem.Spec PyProof.Rows L2
section
variable {X : Cx} {c : Cc}
theorem ve_ext {o e : Expr} {i : Nat} {xp xe : Ex} {apos cpos : Pos} (ho : VO X c o i xp) (he : VE X c e xe) (hn : notStar e = true) (hbase : attributeBase o "extend" X.env (eval o X.env) = eval o X.env) (hline : (apos.endLine == cpos.line) = true) :
    VE X c (.Call (.Attribute o "extend" apos) [e] [] cpos) (.ext i xp xe) where
  val := fun pv => by
    refine PE.imp (pe_bm PySem.F.plainAttrs_list PySem.F.slot_list_extend rfl (show MtR X _ rExtend from mt_extend) (ho.obj pv) (pa_cons (he.tk (pv := pv) 0) pa_nil (starEach_cons (es := []) (env := X.env) hn)) hbase (few1 hn) hline (starEach_cons (es := []) hn) rfl) fun s H Q q => ?_
    obtain ⟨O, Z, r, fp, v, r', h, e, q⟩ := q
    unfold ev at e
    obtain ⟨v0, e0, e⟩ := bind_ok_iff.mp e
    obtain ⟨⟨a, r1⟩, e1, e⟩ := bind_ok_iff.mp e
    obtain ⟨m, e2, e⟩ := bind_ok_iff.mp e
    dsimp only at e e2
    split at e
    · rename_i hc
      obtain ⟨⟨d, r2⟩, e3, e⟩ := bind_ok_iff.mp e
      obtain ⟨m', e4, e⟩ := bind_ok_iff.mp e
      dsimp only at e e4
      split at e
      · rename_i em
        rw [em] at e4
        obtain ⟨ys, ey, e⟩ := bind_ok_iff.mp e
        obtain ⟨⟨rd, r3⟩, e5, ef⟩ := bind_ok_iff.mp e
        injection ef with ef
        injection ef with ea eb
        subst ea eb
        have e1' : evP c.G xp r = .ok (a, r1) := e1
        have hd : d = .list ys := by
          split at ey
          · cases ey; rfl
          · cases ey
        refine ⟨O, Z, r, fp, v0, a, r1, _, h, e0, e1', e2, fun v b vs H1 O1 fp1 h1 x1 es hp hb => ⟨.inl ⟨rfl, vs, .inl (.inl hb)⟩, O1, Z, r1, fp1, d, r2, h1, e3, fun y H2 O2 fp2 tf h2 x2 w n => ?_⟩⟩
        obtain ⟨w, etf⟩ := w
        subst etf
        rw [hd] at w
        obtain ⟨p2, zs, rfl, w1, w2, w3⟩ := w.ref
        obtain ⟨v', b', us, fs, mm, xs, xs', g1, g2, g3, g4, g5, g6, g7, g8, g9⟩ := mut_ok h2 (fun _ _ z => by cases z) e5
        rw [es] at g1
        cases g1
        have eb : b = b' := path_same ((nil_or hc e1').imp (fun q => q) fun q => x2.same (by rw [q]; rfl)) hp g2
        subst eb
        rw [e4] at g7
        cases g7
        unfold extL at g8
        split at g8
        · rename_i hl
          cases g8
          have efl : (fs ++ ys.map fun _ => []).flatten = fs.flatten := by rw [List.flatten_append, flat_nils, List.append_nil]
          obtain ⟨fp3, h3, x3⟩ := g9 (us ++ zs) (fs ++ ys.map fun _ => []) [] (g4.app (Trip.of0 w3)) (by rw [efl]; exact g5) (fun c hc => by rw [efl] at hc; exact .inl hc) (fun c hc => by cases hc)
          refine ⟨b, p2, us, zs, rfl, rfl, g3, w1, by rw [← g4.len.1, ← plen w3, ← lim_eq]; exact hl, q .non _ O2 fp3 [] h3 (((x1.trans x2).trans x3).weak fun _ => rfl) (.fz RepF.mkN)⟩
        · cases g8
      · cases e
    · cases e
  var := fun i e => by cases e
end
end VL
/-! VL: statements, the rules. -/
namespace VL
open PySem PySem.Spec PyProof.Rows L2
def notComp : Expr → Bool
  | .ListComp _ _ _ _ => false
  | .SetComp _ _ _ _ => false
  | .DictComp _ _ _ _ _ => false
  | _ => true
theorem notComp_sw {e : Expr} (h : notComp e = true) (t : Option Expr) (l : Nat) (env : PySem.Env) : swapsWith e t l env = pure false := by
  unfold swapsWith
  cases e <;> first | (cases h; done) | rfl
theorem notComp_sole {e tg : Expr} (h : notComp e = true) (l : Nat) (env : PySem.Env) : swapsWithSole [tg] e l env = pure false := notComp_sw h _ l env
def notTupE : Expr → Bool
  | .Tuple _ _ _ => false
  | _ => true
theorem notTup_sw {e tg : Expr} (h : notTupE e = true) (env : PySem.Env) : swappedStores [tg] e env = pure none := by
  unfold swappedStores
  cases e <;> first | (cases h; done) | (cases tg <;> rfl)
section
variable {X : Cx} {c : Cc} {rm : Nat}
structure VS (X : Cx) (c : Cc) (rm : Nat) (st : Stmt) (sm : Sm) : Prop where
  run : ∀ pv, PS X st (tS X.K pv c.G rm sm)
structure VSs (X : Cx) (c : Cc) (rm : Nat) (sts : List Stmt) (sm : Sm) : Prop where
  run : ∀ pv, PSs X sts (tS X.K pv c.G rm sm)
theorem nop_read {G : Str → Option Fd} {K : PySem.W.Frag} {pv : Nat → Option V} {Dn : Ends} {s : L2.St} {H : Hp} (q : tS K pv G rm .nop Dn s H) : tNext Dn s H := by
  obtain ⟨O, Z, r, fp, o, h, e, q⟩ := q
  simp only [exec] at e
  cases e
  exact q s H O fp h .refl (fun _ _ => rfl) rfl
theorem vss_nil : VSs X c rm [] .nop := ⟨fun pv => PSs.imp pss_nil fun D s H q => nop_read q⟩
theorem vss_one {st : Stmt} {a : Sm} (h : VS X c rm st a) : VSs X c rm [st] a := ⟨fun pv => pss_one (h.run pv)⟩
theorem vss_cons {st : Stmt} {rest : List Stmt} {a b : Sm} (h1 : VS X c rm st a) (h2 : VSs X c rm rest b) : VSs X c rm (st :: rest) (.seq a b) := ⟨fun pv => PSs.imp (pss_cons (h1.run pv) (h2.run pv)) fun D s H q => seq_read q⟩
theorem vs_pass {pos : Pos} : VS X c rm (.Pass pos) .nop := ⟨fun pv => PS.imp ps_pass fun D s H q => nop_read q⟩
theorem vs_brk {pos : Pos} : VS X c rm (.Break pos) .brk := ⟨fun pv => PS.imp ps_break fun D s H q => by
  obtain ⟨O, Z, r, fp, o, h, e, q⟩ := q
  simp only [exec] at e
  cases e
  exact q s H O fp h .refl (fun _ _ => rfl) rfl⟩
theorem vs_cont {pos : Pos} : VS X c rm (.Continue pos) .cont := ⟨fun pv => PS.imp ps_continue fun D s H q => by
  obtain ⟨O, Z, r, fp, o, h, e, q⟩ := q
  simp only [exec] at e
  cases e
  exact q s H O fp h .refl (fun _ _ => rfl) rfl⟩
theorem vs_ret {e : Expr} {xe : Ex} {pos : Pos} (he : VE X c e xe) : VS X c rm (.Return (some e) pos) (.ret xe) := ⟨fun pv => PS.imp (ps_ret (he.tk (pv := pv) rm)) fun D s H q => ret_read q⟩
theorem vs_drop {e : Expr} {xe : Ex} {pos : Pos} (he : VE X c e xe) (hn : notComp e = true) : VS X c rm (.Expr e pos) (.drop xe) := ⟨fun pv => PS.imp (ps_expr (he.val pv) (notComp_sw hn _ _ _)) fun D s H q => drop_read q⟩
theorem vs_if {e : Expr} {xe : Ex} {a b : List Stmt} {xa xb : Sm} {pos : Pos} (he : VT X c e xe) (ha : VSs X c rm a xa) (hb : VSs X c rm b xb) : VS X c rm (.If e a b pos) (.ife xe xa xb) := ⟨fun pv => PS.imp (ps_if (he.tst pv) (ha.run pv) (hb.run pv)) fun D s H q => if_read q⟩
theorem XOk.passes (hX : XOk X c) : PassesOwn (model X.prog X.w) X.A X.env X.xe := by
  rw [hX.xe]
  exact .never
theorem vs_while (hX : XOk X c) {e : Expr} {xe : Ex} {a : List Stmt} {xa : Sm} {pos : Pos} (he : VT X c e xe) (ha : VSs X c rm a xa) : VS X c rm (.While e a [] pos) (.while_ xe xa) := ⟨fun pv => PS.imp (ps_while hX.passes (he.tst pv) (ha.run pv)) fun D s H q => while_read q⟩
theorem vs_for (hX : XOk X c) {tg iter : Expr} {xi : Ex} {t : Tg} {a : List Stmt} {xa : Sm} {pos : Pos} (hi : VI X c tg iter xi t) (hg : VG X c tg t) (ha : VSs X c rm a xa) (hs : notSetD iter = true) : VS X c rm (.For tg iter a [] pos) (.for_ t xi xa) :=
  ⟨fun pv => PS.imp (ps_for hX.passes hX.calm (hi.it pv) (hg.tgt pv) (ha.run pv) (notSet_ok hs _)) fun D s H q => for_read q⟩
theorem vs_set (hX : XOk X c) {i m : Nat} {x : Str} {e : Expr} {xe : Ex} {p pos : Pos} (h : locN c i x = true) (he : VE X c e xe) (hn : notComp e = true) : VS X c rm (.Assign [.Name x p] e pos) (.set m (.nm i) xe) := ⟨fun pv => by
  obtain ⟨h1, h2, h3⟩ := locN_ok hX h
  exact PS.imp (ps_set hX.nd h1 h2 (he.tk (pv := pv) m) (notComp_sw hn _ _ _) h3) fun D s H q => set_read q⟩
theorem vs_setT {tg e : Expr} {xe : Ex} {a b : Tg} {pos : Pos} (hg : VG X c tg (.cons a b)) (he : VE X c e xe) (hn : notComp e = true) (ht : notTupE e = true) (hs : notStarT tg = true) : VS X c rm (.Assign [tg] e pos) (.set 0 (.cons a b) xe) := ⟨fun pv =>
  PS.imp (ps_asg (he.tk (pv := pv) 0) (hg.tgt pv) (notComp_sole hn _ _) (notTup_sw ht _) (by rw [assignEach_cons hs]; rfl)) fun D s H q => setT_read (m := 0) q⟩
/-- an index, no slice -/
def plainI : Expr → Bool
  | .Slice _ _ _ _ => false
  | _ => true
theorem sub_sole {o k e : Expr} {p : Pos} (line : Nat) (env : PySem.Env) : swapsWithSole [.Subscript o k p] e line env = pure false := by
  cases e <;> rfl
theorem sub_stores {o k e : Expr} {p : Pos} (env : PySem.Env) : swappedStores [.Subscript o k p] e env = pure none := by
  cases e <;> rfl
theorem vs_sets {o k e : Expr} {i : Nat} {xp xk xe : Ex} {p pos : Pos} (ho : VO X c o i xp) (hk : VE X c k xk) (he : VE X c e xe) (ha : plainI k = true) : VS X c rm (.Assign [.Subscript o k p] e pos) (.sets i xp xk xe) := ⟨fun pv =>
  PS.imp (ps_asg (PE.ex fun m => he.tk (pv := pv) m) (pg_sub (ho.obj pv) (PEtR (hk.val pv)) set_list (fun v => by cases k <;> first | rfl | cases ha)) (sub_sole _ _) (sub_stores _) rfl) fun D s H q => sets_read q⟩
theorem vs_add (hX : XOk X c) {i : Nat} {x : Str} {e : Expr} {xe : Ex} {p pos : Pos} (h : locN c i x = true) (he : VE X c e xe) : VS X c rm (.AugAssign (.Name x p) .Add e pos) (.aug i .Add xe) := ⟨fun pv => by
  obtain ⟨h1, h2, h3⟩ := locN_ok hX h
  refine PS.imp (ps_aug hX.nd h1 h2 (PEtR (he.val pv)) ip_add h3) fun D s H q => ?_
  rcases aug_read q with ⟨x, g, q⟩ | ⟨a, d, z, e, g⟩
  · refine ⟨x, g, ?_⟩
    obtain ⟨O, Z, r, fp, v, r', h, e, q⟩ := q
    exact ⟨O, Z, r, fp, v, r', h, e, fun y H' O' fp' h' x' hy => by
      obtain ⟨a, d, z, e1, e2, e3, q⟩ := q y H' O' fp' h' x' hy
      simp only [bop] at e3
      cases e3
      exact ⟨a, d, e1, e2, q _ rfl⟩⟩
  · simp only [bop] at e
    cases e
    exact absurd rfl (g _)⟩
theorem vs_sub (hX : XOk X c) {i : Nat} {x : Str} {e : Expr} {xe : Ex} {p pos : Pos} (h : locN c i x = true) (he : VE X c e xe) : VS X c rm (.AugAssign (.Name x p) .Sub e pos) (.aug i .Sub xe) := ⟨fun pv => by
  obtain ⟨h1, h2, h3⟩ := locN_ok hX h
  refine PS.imp (ps_aug hX.nd h1 h2 (PEtR (he.val pv)) ip_sub h3) fun D s H q => ?_
  rcases aug_read q with ⟨x, g, q⟩ | ⟨a, d, z, e, g⟩
  · refine ⟨x, g, ?_⟩
    obtain ⟨O, Z, r, fp, v, r', h, e, q⟩ := q
    exact ⟨O, Z, r, fp, v, r', h, e, fun y H' O' fp' h' x' hy => by
      obtain ⟨a, d, z, e1, e2, e3, q⟩ := q y H' O' fp' h' x' hy
      simp only [bop] at e3
      cases e3
      exact ⟨a, d, e1, e2, q _ rfl⟩⟩
  · simp only [bop] at e
    cases e
    exact absurd rfl (g _)⟩
/-- what a pair's store asks of the names and the two values -/
def parC (sc : Scope) (x y : Str) (lx ly : Nat) (a b : Expr) : Bool :=
  (match sc.kind with | .function => true | _ => false) && (match sc.names.lookup x with | some .local => true | _ => false) && (match sc.names.lookup y with | some .local => true | _ => false) && (lx == ly) && !(x == y) &&
    !([a, b].any fun | .Starred .. => true | _ => false) && !([a, b].all (foldedForSure 8)) && !([a, b].all (constantsAlone 8))
theorem par_sw (hX : XOk X c) {x y : Str} {px py pt pt2 : Pos} {kt k2 : Nat} {a b : Expr} (h : parC c.sc x y px.line py.line a b = true) : swappedStores [.Tuple [.Name x px, .Name y py] kt pt] (.Tuple [a, b] k2 pt2) X.env = pure (some [x, y]) := by
  unfold parC at h
  simp only [Bool.and_eq_true, Bool.not_eq_true', beq_iff_eq] at h
  obtain ⟨⟨⟨⟨⟨⟨⟨h1, h2⟩, h3⟩, h4⟩, h5⟩, h6⟩, h7⟩, h8⟩ := h
  have k1 : X.env.blockKind = .function := by
    unfold Env.blockKind
    rw [hX.sc]
    revert h1
    cases c.sc.kind <;> simp
  have k2' : X.env.kindOf x = some .local := by
    unfold Env.kindOf
    rw [hX.sc]
    revert h2
    split <;> simp_all
  have k3 : X.env.kindOf y = some .local := by
    unfold Env.kindOf
    rw [hX.sc]
    revert h3
    split <;> simp_all
  have h5' : x ≠ y := fun e => by rw [e] at h5; simp at h5
  have e1 : ([x, y].eraseDups.length != [x, y].length) = false := by
    have : (y == x) = false := by simpa using fun e => h5' e.symm
    simp [List.eraseDups_cons, List.filter, this, h5']
  unfold swappedStores
  simp only [List.head?_cons, Option.map_some, Option.getD_some, Expr.pos, List.filterMap_cons, k2', k3, k1, h4, h6, h7, h8, beq_self_eq_true, Bool.and_true, if_true, List.filterMap_nil]
  refine (if_neg ?_).trans ((if_neg ?_).trans ((if_neg ?_).trans ((if_neg Bool.false_ne_true).trans (if_neg Bool.false_ne_true))))
  · exact Bool.false_ne_true
  · exact fun z => Bool.false_ne_true (h6.symm.trans z)
  · intro z
    rw [e1, Bool.or_false] at z
    exact Bool.false_ne_true z
theorem vs_par (hX : XOk X c) {i j : Nat} {x y : Str} {px py pt pt2 pos : Pos} {kt k2 : Nat} {a b : Expr} {xa xb : Ex} (hi : c.N[i]? = some x) (hj : c.N[j]? = some y) (hij : i ≠ j) (h : parC c.sc x y px.line py.line a b = true) (ha : VE X c a xa) (hb : VE X c b xb) (hn : notStar a = true) (hm : notStar b = true) :
    VS X c rm (.Assign [.Tuple [.Name x px, .Name y py] kt pt] (.Tuple [a, b] k2 pt2) pos) (.par i j xa xb) := ⟨fun pv => by
  have hs := h
  unfold parC at h
  simp only [Bool.and_eq_true, Bool.not_eq_true', beq_iff_eq] at h
  obtain ⟨⟨⟨⟨⟨⟨⟨h1, h2⟩, h3⟩, h4⟩, h5⟩, h6⟩, h7⟩, h8⟩ := h
  have lx : X.env.scope.names.lookup x = some .local := by
    rw [hX.sc]
    revert h2
    split <;> simp_all
  have ly : X.env.scope.names.lookup y = some .local := by
    rw [hX.sc]
    revert h3
    split <;> simp_all
  exact PS.imp (ps_par hX.calm hX.nd (by rw [hX.N]; exact hi) (by rw [hX.N]; exact hj) hij lx ly (pa_cons (ha.tk (pv := pv) 0) (pa_cons (hb.tk (pv := pv) 0) pa_nil (starEach_cons (es := []) (env := X.env) hm)) (starEach_cons (es := [b]) (env := X.env) hn)) (par_sw hX hs) rfl) fun D s H q => par_read hij q⟩
/-- name = [..] on one line -/
theorem vs_setLc (hX : XOk X c) {i m n : Nat} {y : Str} {py pos spos : Pos} {elt tg iter : Expr} {ifs : List Expr} {scope : Scope} {own : List (Str × Nat)} {xe xi xc : Ex} {t : Tg} (hy : c.N[i]? = some y) (hyl : c.sc.names.lookup y = some .local) (hk : c.sc.kind = .function) (hl : (py.line == pos.line) = true)
    (hns : (scope.names.any fun (n, k) => n == y && (k == .local || k == .cell)) = false) (hi : VI X c tg iter xi t) (hb : blkC c.N c.sc scope own = true) (ht : tgIn (own.map (·.2)) t = true)
    (hg : ∀ X', XOk X' (c.blk scope) → VG X' (c.blk scope) tg t) (hc : ∀ X', XOk X' (c.blk scope) → VTs X' (c.blk scope) ifs xc) (he : ∀ X', XOk X' (c.blk scope) → VE X' (c.blk scope) elt xe) (hs : notSetD iter = true) :
    VS X c rm (.Assign [.Name y py] (.ListComp elt [⟨tg, iter, ifs, 0⟩] scope pos) spos) (.set m (.nm i) (.comp n xe t xi xc (own.map (·.2)))) := ⟨fun pv => by
  refine PS.imp (ps_setLc hX.calm hX.nd (by rw [hX.N]; exact hy) (by rw [hX.sc]; exact hyl) (sw_true (by rw [hX.sc]; exact hk) (by rw [hX.sc]; exact hyl) hl hns) (hi.it pv) (by rw [hX.N, hX.sc]; exact blkOk_by hb) (fun s H C cl fp => (hg _ (xok_blk hX s H scope C cl fp)).tgt pv) (fun s H C cl fp => (hc _ (xok_blk hX s H scope C cl fp)).tst pv)
    (fun s H C cl fp => (he _ (xok_blk hX s H scope C cl fp)).tk (pv := pv) (n - 1)) (notSet_ok hs _)) fun D s H q => lc_read (tgIn_ok ht) ?_
  obtain ⟨O, Z, r, fp, d, r', h, e, q⟩ := set_read q
  obtain ⟨⟨v, r1⟩, e1, e⟩ := bind_ok_iff.mp e
  obtain ⟨d1, e2, e⟩ := bind_ok_iff.mp e
  cases e
  refine ⟨O, Z, r, fp, v, _, h, e1, fun x H' O' fp' tf h' x' hv => ?_⟩
  obtain ⟨O2, tf2, g1, g2, g3, g4⟩ := at_ok (b := false) hv h' e2
  have y := x'.trans g2
  rw [Bool.or_false] at y
  exact q x H' O2 fp' tf2 g1 y g3 g4⟩
end
end VL
/-! VL: x *= e, x //= e. -/
namespace VL
open PySem PySem.Spec PyProof.Rows L2
def tipB (o : Operator) : TIp := fun x y H Q => ∃ a c d, x = .int a ∧ y = .int c ∧ bop o (.int a) (.int c) = .ok d ∧ ∀ z, d = .int z → Q (.int z) H
section
variable {X : Cx} {c : Cc} {rm : Nat}
theorem ip_mul : PIp X .Mult (tipB .Mult) := by
  intro pins s σ H x y v u Q I r1 r2 h
  obtain ⟨i, j, d, rfl, rfl, e, q⟩ := h
  obtain ⟨t, rfl⟩ := r1
  obtain ⟨w, rfl⟩ := r2
  simp only [bop] at e
  split at e
  · rename_i hz
    cases e
    rw [Bool.or_eq_true] at hz
    have hm : CMul i j := hz.imp mul_sm mul_sm
    exact imul_int ⟨.int _, H, I.tok _, ⟨_, rfl⟩, q _ rfl⟩ hm.ok
  · cases e
theorem ip_fdv : PIp X .FloorDiv (tipB .FloorDiv) := by
  intro pins s σ H x y v u Q I r1 r2 h
  obtain ⟨i, j, d, rfl, rfl, e, q⟩ := h
  obtain ⟨t, rfl⟩ := r1
  obtain ⟨w, rfl⟩ := r2
  simp only [bop] at e
  split at e
  · rename_i hz
    cases e
    exact ifloordiv_int hz.1 ⟨.int _, H, I.tok _, ⟨_, rfl⟩, q _ rfl⟩ (.inl (PyProof.noPylong_small hz.2))
  · cases e
theorem bop_int {o : Operator} (ho : o = .Mult ∨ o = .FloorDiv) {a c : Int} {d : D} (e : bop o (.int a) (.int c) = .ok d) : ∃ z, d = .int z := by
  rcases ho with rfl | rfl <;> (simp only [bop] at e; split at e <;> first | (cases e; exact ⟨_, rfl⟩) | cases e)
theorem vs_aug2 (hX : XOk X c) {i : Nat} {x : Str} {e : Expr} {xe : Ex} {o : Operator} {p pos : Pos} (ho : o = .Mult ∨ o = .FloorDiv) (h : locN c i x = true) (he : VE X c e xe) : VS X c rm (.AugAssign (.Name x p) o e pos) (.aug i o xe) := ⟨fun pv => by
  obtain ⟨h1, h2, h3⟩ := locN_ok hX h
  have hp : PIp X o (tipB o) := by
    rcases ho with rfl | rfl
    · exact ip_mul
    · exact ip_fdv
  refine PS.imp (ps_aug hX.nd h1 h2 (PEtR (he.val pv)) hp h3) fun D s H q => ?_
  rcases aug_read q with q | ⟨a, d, z, e, g⟩
  · exact q
  · obtain ⟨z', ez⟩ := bop_int ho e
    exact absurd ez (g z')⟩
end
end VL
/-! VL: defs and programs. -/
namespace VL
open PySem PySem.Spec PyProof.Rows L2
section
variable {K : PySem.W.Frag} {pv : Nat → Option V} {H H' : Hp} {O O' Z Z' : Addr → Prop} {s : L2.St} {r r' : Env} {fp fp' : Fp} {b : Bool}
theorem StOk.more (h : StOk K pv H O Z s r fp) (k : Nat) : StOk K pv H O Z (s ++ List.replicate k none) (r ++ List.replicate k .no) fp := by
  refine ⟨by rw [List.length_append, List.length_append, h.len, List.length_replicate, List.length_replicate], fun j y e => ?_, h.zm, h.ze, fun j e => ?_, h.nd, h.dj⟩
  · by_cases hj : j < r.length
    · rw [List.getElem?_append_left hj] at e
      rw [List.getElem?_append_left (by rw [h.len]; exact hj)]
      exact h.sl j y e
    · rw [List.getElem?_append_right (by omega)] at e
      obtain ⟨h1, h2⟩ := List.getElem?_eq_some_iff.mp e
      rw [List.getElem_replicate] at h2
      subst h2
      exact h.out j (List.getElem?_eq_none (by omega))
  · refine h.out j (List.getElem?_eq_none ?_)
    rw [List.getElem?_eq_none_iff, List.length_append] at e
    omega
/-- the slots of the parameters that may be changed -/
def pick : List Pm → Env → Env
  | [], _ => []
  | .mt _ :: ps, s :: r => s :: pick ps r
  | .mt _ :: ps, [] => .no :: pick ps []
  | .fz :: ps, r => .no :: pick ps r.tail
  | .lk _ :: ps, r => .no :: pick ps r.tail
theorem pick_len : ∀ {pm : List Pm} {r : Env}, (pick pm r).length = pm.length
  | [], _ => rfl
  | .mt _ :: ps, s :: r => by simp only [pick, List.length_cons, pick_len]
  | .mt _ :: ps, [] => by simp only [pick, List.length_cons, pick_len]
  | .fz :: ps, r => by simp only [pick, List.length_cons, pick_len]
  | .lk _ :: ps, r => by simp only [pick, List.length_cons, pick_len]
theorem pick_outs : ∀ {pm : List Pm} {r : Env} {ds : List D}, outsOf pm r = .ok ds → outsOf pm (pick pm r) = .ok ds ∧ ∀ (i : Nat) n, pm[i]? = some (Pm.mt n) → ∃ d, r[i]? = some (Sl.mt n d) ∧ (pick pm r)[i]? = some (Sl.mt n d)
  | [], _, _, e => ⟨e, fun i n h => by simp at h⟩
  | .mt n :: ps, [], _, e => by simp only [outsOf] at e; cases e
  | .mt n :: ps, s :: r, ds, e => by
    unfold outsOf at e
    split at e
    · rename_i n' d
      split at e
      · rename_i hn
        obtain ⟨ds', e1, e2⟩ := bind_ok_iff.mp e
        obtain ⟨g1, g2⟩ := pick_outs e1
        subst hn
        refine ⟨?_, fun i m hm => ?_⟩
        · show outsOf (.mt n' :: ps) (.mt n' d :: pick ps r) = _
          unfold outsOf
          dsimp only
          rw [if_pos rfl, g1]
          exact e2
        · cases i with
          | zero => simp at hm; subst hm; exact ⟨d, rfl, rfl⟩
          | succ i => simpa [pick] using g2 i m (by simpa using hm)
      · cases e
    · cases e
  | .fz :: ps, [], _, e => by simp only [outsOf] at e; cases e
  | .lk _ :: ps, [], _, e => by simp only [outsOf] at e; cases e
  | .fz :: ps, s :: r, ds, e => by
    simp only [outsOf] at e
    obtain ⟨g1, g2⟩ := pick_outs e
    refine ⟨by show outsOf (.fz :: ps) (.no :: pick ps r) = _; simp only [outsOf]; exact g1, fun i m hm => ?_⟩
    cases i with
    | zero => simp at hm
    | succ i => simpa [pick] using g2 i m (by simpa using hm)
  | .lk _ :: ps, s :: r, ds, e => by
    simp only [outsOf] at e
    obtain ⟨g1, g2⟩ := pick_outs e
    refine ⟨by show outsOf (.lk _ :: ps) (.no :: pick ps r) = _; simp only [outsOf]; exact g1, fun i m hm => ?_⟩
    cases i with
    | zero => simp at hm
    | succ i => simpa [pick] using g2 i m (by simpa using hm)
theorem pick_no : ∀ {pm : List Pm} {r : Env} {i : Nat} {y : Sl}, (pick pm r)[i]? = some y → (∃ n, pm[i]? = some (Pm.mt n)) ∨ y = .no
  | [], _, i, y, h => by simp [pick] at h
  | .mt n :: ps, s :: r, 0, y, h => .inl ⟨n, rfl⟩
  | .mt n :: ps, s :: r, i + 1, y, h => by simpa using pick_no (pm := ps) (by simpa [pick] using h)
  | .mt n :: ps, [], 0, y, h => .inl ⟨n, rfl⟩
  | .mt n :: ps, [], i + 1, y, h => by simpa using pick_no (pm := ps) (by simpa [pick] using h)
  | .fz :: ps, r, 0, y, h => by simp [pick] at h; exact .inr h.symm
  | .fz :: ps, r, i + 1, y, h => by simpa using pick_no (pm := ps) (by simpa [pick] using h)
  | .lk _ :: ps, r, 0, y, h => by simp [pick] at h; exact .inr h.symm
  | .lk _ :: ps, r, i + 1, y, h => by simpa using pick_no (pm := ps) (by simpa [pick] using h)
def mtAt (pm : List Pm) (i : Nat) : Bool := match pm[i]? with | some (.mt _) => true | _ => false
theorem mtAt_iff {pm : List Pm} {i : Nat} : mtAt pm i = true ↔ ∃ n, pm[i]? = some (Pm.mt n) := by
  unfold mtAt
  constructor
  · intro h
    split at h
    · exact ⟨_, by assumption⟩
    · cases h
  · rintro ⟨n, h⟩
    rw [h]
/-- behind a body: the parameters alone -/
theorem pick_ok {pm : List Pm} {vs : List V} {ds : List D} (h : StOk K pv H O Z s r fp) (hl : vs.length = pm.length) (e : outsOf pm r = .ok ds) (hp : ∀ (i : Nat) n, pm[i]? = some (Pm.mt n) → ∃ v, vs[i]? = some v ∧ pv i = some v) :
    StOk K pv H O Z (vs.map some) (pick pm r) (fun i => if mtAt pm i then fp i else []) := by
  obtain ⟨_, g2⟩ := pick_outs e
  have mem : ∀ i a, a ∈ (fun i => if mtAt pm i then fp i else []) i → a ∈ fp i ∧ mtAt pm i = true := fun i a ha => by
    dsimp only at ha
    split at ha
    · exact ⟨ha, by assumption⟩
    · cases ha
  have hM : ∀ a, Mo (fun i => if mtAt pm i then fp i else []) a → Mo fp a := fun a ⟨i, hi⟩ => ⟨i, (mem i a hi).1⟩
  refine ⟨by rw [List.length_map, pick_len, hl], fun i y ey => ?_, fun a z m => h.zm a z (hM a m), h.ze, fun i ei => ?_, fun i => ?_, fun i j a h1 h2 => h.dj i j a (mem i a h1).1 (mem j a h2).1⟩
  · rcases pick_no ey with ⟨n, hn⟩ | rfl
    · obtain ⟨d, g3, g4⟩ := g2 i n hn
      rw [g4] at ey
      cases ey
      have : mtAt pm i = true := mtAt_iff.mpr ⟨n, hn⟩
      rw [if_pos this]
      obtain ⟨v, ev, epv, w⟩ := h.sl i _ g3
      obtain ⟨v', e1, e2⟩ := hp i n hn
      rw [epv] at e2
      cases e2
      exact ⟨v, by rw [List.getElem?_map, e1]; rfl, epv, w⟩
    · show (if mtAt pm i then fp i else []) = []
      by_cases q : mtAt pm i = true
      · obtain ⟨n, hn⟩ := mtAt_iff.mp q
        obtain ⟨d, g3, g4⟩ := g2 i n hn
        rw [g4] at ey
        cases ey
      · rw [if_neg q]
  · rw [if_neg fun q => ?_]
    obtain ⟨n, hn⟩ := mtAt_iff.mp q
    obtain ⟨d, g3, g4⟩ := g2 i n hn
    rw [g4] at ei
    cases ei
  · split
    · exact h.nd i
    · exact List.nodup_nil
/-- a def without parameters that may be changed owns nothing at its start -/
theorem par_none {pm : List Pm} {ds : List D} {r0 : Env} (e : slsOf pm ds = .ok r0) (h : StOk K pv H O Z s r0 fp) (hp : pm.any isMt = false) : ∀ a, ¬ Mo fp a := by
  have hl : ds.length = pm.length := by
    clear h hp
    induction pm generalizing ds r0 with
    | nil => cases ds <;> simp only [slsOf] at e <;> first | rfl | cases e
    | cons p ps ih =>
      cases ds with
      | nil => simp only [slsOf] at e; cases e
      | cons d ds =>
        simp only [slsOf] at e
        obtain ⟨r1, e1, _⟩ := bind_ok_iff.mp e
        rw [List.length_cons, List.length_cons, ih e1]
  obtain ⟨r1, g1, g2, g3⟩ := slsOf_at hl
  rw [e] at g1
  cases g1
  rintro a ⟨i, hi⟩
  cases q : r0[i]? with
  | none => rw [h.out i q] at hi; cases hi
  | some y =>
    obtain ⟨p, d, e1, e2, rfl⟩ := g3 i y q
    have w := h.sl i _ q
    cases p with
    | fz => rw [w.2] at hi; cases hi
    | lk n => rw [w.2] at hi; cases hi
    | mt n =>
      simp only [List.any_eq_false] at hp
      exact hp _ (List.mem_of_getElem? e1) rfl
theorem sls_len : ∀ {pm : List Pm} {ds : List D} {r0 : Env}, slsOf pm ds = .ok r0 → r0.length = pm.length
  | [], [], _, e => by simp only [slsOf] at e; cases e; rfl
  | [], _ :: _, _, e => by simp only [slsOf] at e; cases e
  | _ :: _, [], _, e => by simp only [slsOf] at e; cases e
  | p :: ps, d :: ds, r0, e => by
    simp only [slsOf] at e
    obtain ⟨r1, e1, e⟩ := bind_ok_iff.mp e
    cases e
    rw [List.length_cons, List.length_cons, sls_len e1]
end
/-- a def, as the language tells it -/
structure DefT where
  fn : Fn
  N : List Str
  ps : List Str
  params : Arguments
  body : List Stmt
  scope : Scope
structure DefT.Ok (d : DefT) (S : Str → Option Sg) : Prop where
  sc : FnScope d.N d.ps d.scope
  len : d.ps.length = d.fn.sg.pm.length
  slots : d.fn.slots = d.N.length
  body : ∀ (G : Str → Option Fd), (∀ f g, G f = some g → S f = some g.sg) → ∀ X, XOk X ⟨d.N, d.scope, fun _ => true, G⟩ → VSs X ⟨d.N, d.scope, fun _ => true, G⟩ d.fn.sg.ret d.body d.fn.body
theorem prog_sg {P : Str → Option Fn} : ∀ {k : Nat} {f : Str} {g : Fd}, prog P k f = some g → (P f).map (·.sg) = some g.sg
  | 0, f, g, h => by simp [prog] at h
  | k + 1, f, g, h => by
    simp only [prog, Option.map_eq_some_iff] at h
    obtain ⟨fn, e, rfl⟩ := h
    rw [e]
    rfl
/-- a program's defs keep their promises -/
theorem prog_ok {T : Str → Option DefT} (hT : ∀ f d, T f = some d → d.Ok fun f => (T f).map (·.fn.sg)) {Q : Program} {w : World} {K : PySem.W.Frag} {mg : Str → Option Value} {base : Heap} (hfree : ∀ x ∈ frees, mg x = none)
    (hF : ∀ f d, T f = some d → ∃ a fd, FunD K f f d.params d.body d.scope [] [] a fd ∧ mg f = some (.ref a) ∧ PySem.W.keepIn K (.ref a) = true ∧ L2.Binds K fd d.ps []) :
    ∀ k f g, prog (fun f => (T f).map (·.fn)) k f = some g → ∃ a fd d, T f = some d ∧ g.sg = d.fn.sg ∧ FnOk Q w K mg base CX0 k a fd d.ps (spV K g) ∧ mg f = some (.ref a) ∧ PySem.W.keepIn K (.ref a) = true ∧ L2.Binds K fd d.ps [] ∧ FunD K f f d.params d.body d.scope [] [] a fd := by
  intro k
  induction k with
  | zero => intro f g h; simp [prog] at h
  | succ k ih =>
    intro f g h
    simp only [prog, Option.map_eq_some_iff] at h
    obtain ⟨fn, ⟨d, ed, rfl⟩, rfl⟩ := h
    obtain ⟨a, fd, F, hm, hk, hb⟩ := hF f d ed
    have D := hT f d ed
    refine ⟨a, fd, d, ed, rfl, ?_, hm, hk, hb, F⟩
    refine F.ok D.sc (fun vs H Q E h => ?_) fun cdv A outer s H vs Q' E hr hsp => ?_
    · obtain ⟨_, _, _, _, _, _, _, hl, _⟩ := h
      rw [D.len]; exact hl
    · obtain ⟨O, Z, pv, ds, fp, o, ⟨r0, e0, h0, hp1, hp2⟩, hl, er, q⟩ := hsp
      have hG : ∀ f g, prog (fun f => (T f).map (·.fn)) k f = some g → (T f).map (·.fn.sg) = some g.sg := fun f g h => by
        have := prog_sg h
        simpa [Option.map_map] using this
      have hX : XOk (cxOf CX0 Q w K mg base d.N f d.scope a cdv A outer s H E).nox ⟨d.N, d.scope, fun _ => true, prog (fun f => (T f).map (·.fn)) k⟩ := by
        refine ⟨rfl, D.sc.nd, rfl, rfl, rfl, ?_, rfl, hfree, fun f' g' hg' => ?_⟩
        · have := hr.un
          show (A.deeper _).units + 200 < cLine
          omega
        · obtain ⟨a', fd', d', h1, h2, h3, h4, h5, h6, _⟩ := ih f' g' hg'
          exact ⟨a', fd', k, d'.ps, h3, hr, h4, h5, h6, by rw [h2]; exact (hT f' d' h1).len⟩
      have B := D.body _ hG _ hX
      refine ⟨_, PSs.nox (B.run pv), ?_⟩
      -- the body's run
      have er' : runF (prog (fun f => (T f).map (·.fn)) k) d.fn ds = .ok o := er
      unfold runF at er'
      rw [e0] at er'
      obtain ⟨oo, e1, e2⟩ := bind_ok_iff.mp (show (exec (prog (fun f => (T f).map (·.fn)) k) d.fn.sg.ret d.fn.body (r0 ++ List.replicate (d.fn.slots - r0.length) .no) >>= fun o => match o with
        | .rt d' s => outsOf d.fn.sg.pm s >>= fun ds => .ok (d', ds)
        | .nx s => outsOf d.fn.sg.pm s >>= fun ds => .ok (.none, ds)
        | _ => stk) = .ok o from er')
      have hl0 := sls_len e0
      have hst : StOk K pv H O Z (L2.start d.N vs) (r0 ++ List.replicate (d.fn.slots - r0.length) .no) fp := by
        have := h0.more (d.fn.slots - r0.length)
        unfold L2.start
        have el : d.N.length - vs.length = d.fn.slots - r0.length := by rw [D.slots, hl0, hl]
        rw [el]
        exact this
      refine ⟨O, Z, _, fp, oo, hst, e1, ?_⟩
      have fin : ∀ x s' H' O' fp' tf d' r', StOk K pv H' O' (ZT Z tf) s' r' fp' → Ext true H O (Mo fp) H' O' (MoT fp' tf) → RepO K H' O' d.fn.sg.ret d' x tf → tf.Nodup → outsOf d.fn.sg.pm r' = .ok o.2 → o.1 = d' → Q' x H' := fun x s' H' O' fp' tf d' r' h' x' w n eo ed' => by
        obtain ⟨g1, g2⟩ := pick_outs eo
        have h2 := pick_ok (vs := vs) h' hl eo hp2
        refine q x H' O' _ tf _ h2 (fun i n hn => ?_) g1 ?_ ⟨by rw [ed']; exact w, n⟩
        · obtain ⟨d2, _, q2⟩ := g2 i n hn
          exact ⟨d2, q2⟩
        · have less : ∀ a, MoT (fun i => if mtAt d.fn.sg.pm i then fp' i else []) tf a → MoT fp' tf a := fun a m => m.imp (fun ⟨i, hi⟩ => by
            dsimp only at hi
            split at hi
            · exact ⟨i, hi⟩
            · cases hi) fun z => z
          refine ⟨x'.keep, x'.own, x'.live, fun a m => x'.sub a (less a m), fun e a u ea => ?_⟩
          exact x'.keep a u ea (par_none e0 h0 e a)
      cases oo with
      | rt d' r' =>
        obtain ⟨ds', e3, e4⟩ := bind_ok_iff.mp e2
        cases e4
        exact fun x s' H' O' fp' tf h' x' w n _ _ => fin x s' H' O' fp' tf d' r' h' x' w n e3 rfl
      | nx r' =>
        obtain ⟨ds', e3, e4⟩ := bind_ok_iff.mp e2
        cases e4
        exact fun s' H' O' fp' h' x' _ _ => fin .non s' H' O' fp' [] .none r' (by rw [ZT.nil]; exact h') (by rw [MoT.nil]; exact x') (RepF.mkN.flatO rfl) List.nodup_nil e3 rfl
      | bk r' => cases e2
      | ct r' => cases e2
end VL
/-! VL: list(range(..)), tuple(range(..)). -/
namespace VL
open PySem PySem.Spec PyProof.Rows L2
theorem rg_pair {K : PySem.W.Frag} {H : Hp} {T : Addr → Prop} {a b : Int} : Paired (RepF K H T) (rngL a (b - a).toNat) (rgV a b) := by
  unfold rngL rgV
  generalize (b - a).toNat = n
  have : ∀ l : List Nat, Paired (RepF K H T) (l.map fun (k : Nat) => PyData.int (a + (k : Int))) (l.map fun (i : Nat) => V.int (a + (i : Nat))) := fun l => by
    induction l with
    | nil => exact .nil
    | cons k l ih => exact .cons (.mkI _) ih
  exact this _
section
variable {X : Cx} {c : Cc}
/-- tuple(range): the new tuple's object is known -/
theorem pe_tupRgN {te : L2.St → Hp → (Int → Int → Hp → Prop) → Prop} {e : Expr} {p pos : Pos} (hg : Gl X "tuple") (hm : X.mg "tuple" = none) (hc : X.calm = true) (he : PRg X e te) (na : starEach [e] X.env = (false, eval e X.env) :: starEach [] X.env) :
    PE X (.Call (.Name "tuple" p) [e] [] pos) (fun σ H Q => te σ H fun a b H1 => RgOk a b ∧ nTup (rgV a b) H1 Q) := by
  refine ⟨fun pins s σ H Q I h => ?_⟩
  refine Call_ (ld_blt I hg hm boot_tuple (PyProof.Rows.callWith_type1 (args_cons (thn (he pins s σ H _ I h) fun x s1 ⟨r, a, b, t, u, v, H1, ex, hr, I1, ok, q⟩ => args_nil ?_) na) na))
  subst ex
  obtain ⟨g1, g2, g3, g4, g5⟩ := ok
  refine call_tuple_range (n := (b - a).toNat) (I1.ok.hd hc) hr (small_one g1 g2 g3 g4) (rangeSize_nat a b) g5 fun h2 tk acc hk hi => ?_
  have I2 : Inv X pins σ H1 { s1 with heap := h2, toks := tk } := I1.kept hk
  have w := q.here (s := { s1 with heap := h2, toks := tk }) I2 (vals_rg hi) (by rw [rgV_length, sizeLine_eq]; omega)
  have ea : acc.toList.toArray = acc := Array.toArray_toList ..
  unfold tupO at w
  rw [ea] at w
  exact w
def rgE (a b : Ex) : Ex := .rng a b
theorem rg_read {pv : Nat → Option V} {x1 x2 : Ex} {G : Str → Option Fd} {K : PySem.W.Frag} {s : L2.St} {H : Hp} {O Z : Addr → Prop} {r r' : Env} {fp : Fp} {ds : List D} {m : Nat} (e : evI G (.rng x1 x2) r = .ok ((m, ds), r')) :
    ∃ va vb r1 i j, ev G x1 r = .ok (va, r1) ∧ asI va.d = .ok i ∧ ev G x2 r1 = .ok (vb, r') ∧ asI vb.d = .ok j ∧ bnd i = true ∧ bnd j = true ∧ m = 0 ∧ ds = rngL i (j - i).toNat := by
  simp only [evI] at e
  obtain ⟨⟨va, r1⟩, e1, e⟩ := bind_ok_iff.mp e
  obtain ⟨i, ei, e⟩ := bind_ok_iff.mp e
  obtain ⟨⟨vb, r2⟩, e2, e⟩ := bind_ok_iff.mp e
  obtain ⟨j, ej, e⟩ := bind_ok_iff.mp e
  dsimp only at e
  split at e
  · rename_i hb
    rw [Bool.and_eq_true] at hb
    injection e with e
    injection e with e er
    injection e with em ed
    subst em ed er
    exact ⟨va, vb, r1, i, j, e1, ei, e2, ej, hb.1, hb.2, rfl, rfl⟩
  · cases e
theorem rgOk_of {i j : Int} (h1 : bnd i = true) (h2 : bnd j = true) (hl : (rngL i (j - i).toNat).length ≤ lim) : RgOk i j := by
  obtain ⟨a1, a2⟩ := bnd_ok h1
  obtain ⟨a3, a4⟩ := bnd_ok h2
  rw [rngL_len] at hl
  exact ⟨a1, a2, a3, a4, hl⟩
/-- the end of both -/
theorem lst1_end {pv : Nat → Option V} {Q : VK} {s : L2.St} {H : Hp} {x1 x2 : Ex} (q : tV X.K pv (!pureX c.G (.lst1 (.rng x1 x2))) (ev c.G (.lst1 (.rng x1 x2))) s H Q) :
    tR X.K pv (!pureX c.G x1) (ev c.G x1) s H fun x H1 => tR X.K pv (!pureX c.G x2) (ev c.G x2) s H1 fun y H2 => ∃ i j, x = .int i ∧ y = .int j ∧ RgOk i j ∧ ∀ p, H2 p = none → Q (.ref p) (L2.upd H2 p (.lst (rgV i j))) := by
  obtain ⟨O, Z, r, fp, v, r', h, e, q⟩ := q
  simp only [ev] at e
  obtain ⟨⟨⟨m, ds⟩, r2⟩, e1, e⟩ := bind_ok_iff.mp e
  dsimp only at e
  split at e
  · rename_i hz
    cases e
    obtain ⟨va, vb, r1, i, j, g1, g2, g3, g4, g5, g6, g7, g8⟩ := rg_read (pv := pv) (K := X.K) (s := s) (H := H) (O := O) (Z := Z) (fp := fp) e1
    subst g8
    exact two_read h g1 g2 g3 g4 fun H' O' fp' h' x' => ⟨i, j, rfl, rfl, rgOk_of g5 g6 hz.2, fun p hp => made_end q h' x' (fun e => by simp only [pureX]; simp_all) (Made.lst hp rg_pair)⟩
  · cases e
theorem tup1_end {pv : Nat → Option V} {Q : VK} {s : L2.St} {H : Hp} {x1 x2 : Ex} (q : tV X.K pv (!pureX c.G (.tup1 (.rng x1 x2))) (ev c.G (.tup1 (.rng x1 x2))) s H Q) :
    tR X.K pv (!pureX c.G x1) (ev c.G x1) s H fun x H1 => tR X.K pv (!pureX c.G x2) (ev c.G x2) s H1 fun y H2 => ∃ i j, x = .int i ∧ y = .int j ∧ RgOk i j ∧ nTup (rgV i j) H2 Q := by
  obtain ⟨O, Z, r, fp, v, r', h, e, q⟩ := q
  simp only [ev] at e
  obtain ⟨⟨⟨m, ds⟩, r2⟩, e1, e⟩ := bind_ok_iff.mp e
  dsimp only at e
  split at e
  · rename_i hz
    cases e
    obtain ⟨va, vb, r1, i, j, g1, g2, g3, g4, g5, g6, g7, g8⟩ := rg_read (pv := pv) (K := X.K) (s := s) (H := H) (O := O) (Z := Z) (fp := fp) e1
    subst g8
    exact two_read h g1 g2 g3 g4 fun H' O' fp' h' x' => ⟨i, j, rfl, rfl, rgOk_of g5 g6 hz.2, fun p o ho hp => made_end q h' x' (fun e => by simp only [pureX]; simp_all) (Made.tup ho hp rg_pair)⟩
  · cases e
theorem zero_read {K : PySem.W.Frag} {pv : Nat → Option V} {G : Str → Option Fd} {b : Bool} {s : L2.St} {H : Hp} {R : V → Hp → Prop} (q : tR K pv b (ev G (.c (.int 0))) s H R) : R (.int 0) H := by
  obtain ⟨O, Z, r, fp, v, r', h, e, q⟩ := q
  simp only [ev] at e
  cases e
  exact q (.int 0) H O fp h .refl (RdOk.mkI 0)
theorem ve_lrg1 (hX : XOk X c) {a : Expr} {xa : Ex} {p p2 pos pos2 : Pos} (hl : glN c.sc "list" = true) (hg : glN c.sc "range" = true) (ha : VE X c a xa) (hn : notStar a = true) : VE X c (.Call (.Name "list" p) [.Call (.Name "range" p2) [a] [] pos2] [] pos) (.lst1 (.rng (.c (.int 0)) xa)) where
  val := fun pv => PE.imp (pe_listRg hX.calm (hX.gl hl) (hX.free _ (by decide)) (prg_1 (hX.gl hg) (hX.free _ (by decide)) (PEtR (ha.val pv)) (starEach_cons (es := []) hn)) rfl) fun s H Q q => by
    obtain ⟨O, Z, r, fp, v, r', h, e, w⟩ := zero_read (lst1_end q)
    refine ⟨O, Z, r, fp, v, r', h, e, fun x H' O' fp' h' x' hx => ?_⟩
    obtain ⟨i, j, ei, ej, g1, g2⟩ := w x H' O' fp' h' x' hx
    cases ei
    exact ⟨j, ej, g1, g2⟩
  var := fun i e => by cases e
theorem ve_lrg2 (hX : XOk X c) {a b : Expr} {xa xb : Ex} {p p2 pos pos2 : Pos} (hl : glN c.sc "list" = true) (hg : glN c.sc "range" = true) (ha : VE X c a xa) (hb : VE X c b xb) (hn : notStar a = true) (hm : notStar b = true) : VE X c (.Call (.Name "list" p) [.Call (.Name "range" p2) [a, b] [] pos2] [] pos) (.lst1 (.rng xa xb)) where
  val := fun pv => by
    have hp : (backTo pos2 (starEach [b] X.env)).any (·.1) = false := by rw [starEach_cons hm]; rfl
    exact PE.imp (pe_listRg hX.calm (hX.gl hl) (hX.free _ (by decide)) (prg_2 (hX.gl hg) (hX.free _ (by decide)) (PEtR (ha.val pv)) (PEtR (hb.val pv)) (starEach_cons hn) (starEach_cons hm) hp) rfl) fun s H Q q => lst1_end q
  var := fun i e => by cases e
theorem ve_trg1 (hX : XOk X c) {a : Expr} {xa : Ex} {p p2 pos pos2 : Pos} (hl : glN c.sc "tuple" = true) (hg : glN c.sc "range" = true) (ha : VE X c a xa) (hn : notStar a = true) : VE X c (.Call (.Name "tuple" p) [.Call (.Name "range" p2) [a] [] pos2] [] pos) (.tup1 (.rng (.c (.int 0)) xa)) where
  val := fun pv => PE.imp (pe_tupRgN (hX.gl hl) (hX.free _ (by decide)) hX.calm (prg_1 (hX.gl hg) (hX.free _ (by decide)) (PEtR (ha.val pv)) (starEach_cons (es := []) hn)) rfl) fun s H Q q => by
    obtain ⟨O, Z, r, fp, v, r', h, e, w⟩ := zero_read (tup1_end q)
    refine ⟨O, Z, r, fp, v, r', h, e, fun x H' O' fp' h' x' hx => ?_⟩
    obtain ⟨i, j, ei, ej, g1, g2⟩ := w x H' O' fp' h' x' hx
    cases ei
    exact ⟨j, ej, g1, g2⟩
  var := fun i e => by cases e
theorem ve_trg2 (hX : XOk X c) {a b : Expr} {xa xb : Ex} {p p2 pos pos2 : Pos} (hl : glN c.sc "tuple" = true) (hg : glN c.sc "range" = true) (ha : VE X c a xa) (hb : VE X c b xb) (hn : notStar a = true) (hm : notStar b = true) : VE X c (.Call (.Name "tuple" p) [.Call (.Name "range" p2) [a, b] [] pos2] [] pos) (.tup1 (.rng xa xb)) where
  val := fun pv => by
    have hp : (backTo pos2 (starEach [b] X.env)).any (·.1) = false := by rw [starEach_cons hm]; rfl
    exact PE.imp (pe_tupRgN (hX.gl hl) (hX.free _ (by decide)) hX.calm (prg_2 (hX.gl hg) (hX.free _ (by decide)) (PEtR (ha.val pv)) (PEtR (hb.val pv)) (starEach_cons hn) (starEach_cons hm) hp) rfl) fun s H Q q => tup1_end q
  var := fun i e => by cases e
end
end VL
/-! VL: sets of numbers, made by a comprehension. -/
namespace VL
open PySem PySem.Spec PyProof.Rows L2
/-! ### the numbers of a list, each once, ascending -/
theorem insU_mem {k x : Int} : ∀ {l : List Int}, x ∈ insU k l ↔ x = k ∨ x ∈ l
  | [] => by simp [insU]
  | y :: r => by
    unfold insU
    split
    · simp
    · split
      · rename_i h; subst h; simp
      · rw [List.mem_cons, insU_mem, List.mem_cons]
        constructor
        · rintro (h | h | h)
          · exact .inr (.inl h)
          · exact .inl h
          · exact .inr (.inr h)
        · rintro (h | h | h)
          · exact .inr (.inl h)
          · exact .inl h
          · exact .inr (.inr h)
theorem insU_asc {k : Int} : ∀ {l : List Int}, l.Pairwise (· < ·) → (insU k l).Pairwise (· < ·)
  | [], _ => by simp [insU]
  | y :: r, h => by
    obtain ⟨h1, h2⟩ := List.pairwise_cons.mp h
    unfold insU
    split
    · rename_i hk
      refine List.pairwise_cons.mpr ⟨fun z hz => ?_, h⟩
      rcases List.mem_cons.mp hz with rfl | hz
      · exact hk
      · exact Int.lt_trans hk (h1 z hz)
    · split
      · exact h
      · rename_i hk hne
        refine List.pairwise_cons.mpr ⟨fun z hz => ?_, insU_asc h2⟩
        rcases insU_mem.mp hz with rfl | hz
        · omega
        · exact h1 z hz
theorem sortU_snoc (ns : List Int) (k : Int) : sortU (ns ++ [k]) = insU k (sortU ns) := by
  unfold sortU
  rw [List.foldl_append]
  rfl
theorem snocRec {A : Type} {P : List A → Prop} (h0 : P []) (h1 : ∀ l a, P l → P (l ++ [a])) (l : List A) : P l := by
  have key : ∀ m : List A, P m.reverse := fun m => by
    induction m with
    | nil => exact h0
    | cons a m ih => rw [List.reverse_cons]; exact h1 _ _ ih
  have q := key l.reverse
  rwa [List.reverse_reverse] at q
theorem sortU_mem (ns : List Int) : ∀ x, x ∈ sortU ns ↔ x ∈ ns := by
  refine snocRec (P := fun ns => ∀ x, x ∈ sortU ns ↔ x ∈ ns) (fun x => by simp [sortU]) (fun l a ih x => ?_) ns
  rw [sortU_snoc, insU_mem, ih, List.mem_append, List.mem_singleton]
  exact Or.comm
theorem sortU_asc (ns : List Int) : (sortU ns).Pairwise (· < ·) := by
  refine snocRec (P := fun ns => (sortU ns).Pairwise (· < ·)) (by simp [sortU]) (fun l a ih => ?_) ns
  rw [sortU_snoc]
  exact insU_asc ih
/-- two ascending lists with the same members -/
theorem asc_same : ∀ {l m : List Int}, l.Pairwise (· < ·) → m.Pairwise (· < ·) → (∀ x, x ∈ l ↔ x ∈ m) → l = m
  | [], [], _, _, _ => rfl
  | [], y :: m, _, _, h => absurd ((h y).mpr List.mem_cons_self) (by simp)
  | x :: l, [], _, _, h => absurd ((h x).mp List.mem_cons_self) (by simp)
  | x :: l, y :: m, hl, hm, h => by
    obtain ⟨a1, a2⟩ := List.pairwise_cons.mp hl
    obtain ⟨b1, b2⟩ := List.pairwise_cons.mp hm
    have e : x = y := by
      have p := List.mem_cons.mp ((h x).mp List.mem_cons_self)
      have q := List.mem_cons.mp ((h y).mpr List.mem_cons_self)
      rcases p with p | p
      · exact p
      · rcases q with q | q
        · exact q.symm
        · have := b1 x p
          have := a1 y q
          omega
    subst e
    rw [asc_same a2 b2 fun z => ?_]
    have w := h z
    constructor
    · intro hz
      rcases List.mem_cons.mp (w.mp (List.mem_cons_of_mem _ hz)) with q | q
      · have := a1 z hz; omega
      · exact q
    · intro hz
      rcases List.mem_cons.mp (w.mpr (List.mem_cons_of_mem _ hz)) with q | q
      · have := b1 z hz; omega
      · exact q
theorem insU_len {k : Int} : ∀ {l : List Int}, l.Pairwise (· < ·) → (insU k l).length = if k ∈ l then l.length else l.length + 1
  | [], _ => by simp [insU]
  | y :: r, h => by
    obtain ⟨h1, h2⟩ := List.pairwise_cons.mp h
    unfold insU
    split
    · rename_i hk
      have hn : k ∉ y :: r := fun z => by
        rcases List.mem_cons.mp z with rfl | z
        · omega
        · have := h1 k z; omega
      rw [if_neg hn]; rfl
    · split
      · rename_i hk; subst hk; simp
      · rename_i hk hne
        rw [List.length_cons, insU_len h2]
        by_cases hm : k ∈ r
        · rw [if_pos hm, if_pos (List.mem_cons_of_mem _ hm)]; rfl
        · rw [if_neg hm, if_neg (fun z => by rcases List.mem_cons.mp z with z | z; exact hne z; exact hm z)]; rfl
theorem insU_le {k : Int} {l : List Int} : (insU k l).length ≤ l.length + 1 := by
  induction l with
  | nil => simp [insU]
  | cons y r ih =>
    unfold insU
    split
    · simp
    · split
      · simp
      · simp only [List.length_cons]; omega
theorem sortU_le (ns : List Int) : (sortU ns).length ≤ ns.length := by
  refine snocRec (P := fun ns => (sortU ns).length ≤ ns.length) (by simp [sortU]) (fun l a ih => ?_) ns
  rw [sortU_snoc, List.length_append]
  have := insU_le (k := a) (l := sortU l)
  simp only [List.length_cons, List.length_nil]
  omega

/-! ### the set of the numbers ns at a -/
def NumS (w : World) (a : Addr) (ns : List Int) : HO := .ext fun h => SetR w h a (fun j => decide (j ∈ ns)) (sortU ns).length
theorem numS_ok {w : World} {P : Program} {H : Hp} {h : Heap} {a : Addr} {ns : List Int} (R : SetR w h a (fun j => decide (j ∈ ns)) (sortU ns).length) : ObjOk P w H h a (NumS w a ns) := by
  have ⟨o, _, _, _, q, _⟩ := R
  exact ⟨R, ⟨o, q⟩, fun h1 h2 p k => SetR.at p k⟩
section
variable {X : Cx} {pins : List (Addr × Obj)} {σ : L2.St} {H : Hp} {s : Shared}
theorem numS_get {a : Addr} {ns : List Int} (I : Inv X pins σ H s) (e : H a = some (NumS X.w a ns)) : SetR X.w s.heap a (fun j => decide (j ∈ ns)) (sortU ns).length := (I.hok a _ e).1
theorem numS_grow {h : Heap} {w : World} {a : Addr} {ns : List Int} {k : Int} (R : SetR w h a (fun j => decide (j ∈ ns) || decide (j = k)) (if decide (k ∈ ns) = true then (sortU ns).length else (sortU ns).length + 1)) : SetR w h a (fun j => decide (j ∈ ns ++ [k])) (sortU (ns ++ [k])).length := by
  have e : (sortU (ns ++ [k])).length = if decide (k ∈ ns) = true then (sortU ns).length else (sortU ns).length + 1 := by
    rw [sortU_snoc, insU_len (sortU_asc ns)]
    by_cases hm : k ∈ ns
    · rw [if_pos ((sortU_mem ns k).mpr hm), if_pos (decide_eq_true hm)]
    · rw [if_neg fun z => hm ((sortU_mem ns k).mp z), if_neg (by simp [hm])]
  have q : SetR w h a (fun j => decide (j ∈ ns ++ [k])) (if decide (k ∈ ns) = true then (sortU ns).length else (sortU ns).length + 1) := R.congr fun j => by simp [List.mem_append]
  rwa [← e] at q
theorem num_add {E : Value → Shared → Prop} {D : Addr} {ns : List Int} {y : Int} {tk : Tok} {Q : Value → Shared → Prop} (I : Inv X pins σ H s) (e : H D = some (NumS X.w D ns)) (room : ns.length + 1 < scanBound)
    (h : ∀ s', Inv X pins σ (upd H D (NumS X.w D (ns ++ [y]))) s' → Q .none s') : wpAny (model X.prog X.w) X.A (call (.builtin "set.add") [.ref D, .int y tk]) Q E s := by
  refine setR_add (numS_get I e) (by have := sortU_le ns; omega) fun h' sb new => ?_
  have new := numS_grow new
  have ex : ∃ u, h'.get? D = some u := by
    have ⟨o, _, _, _, q, _⟩ := new
    exact ⟨o, q⟩
  exact h _ (I.write (e := D) (t' := s.toks + 1) (by rw [e]; trivial) (.inl rfl) (fun b u hb hu => (sb.2 b hb).trans hu) ex (numS_ok new))
/-- sorted(a set) -/
def rSortN (w : World) : List V → Hp → VK → Prop := fun vs H Q => ∃ (D : Addr) (ns : List Int), vs = [V.ref D] ∧ H D = some (NumS w D ns) ∧ ns.length < 60 ∧ ∀ p, H p = none → Q (.ref p) (upd H p (.lst ((sortU ns).map V.int)))
/-- len(a set) -/
def rLenN (w : World) : List V → Hp → VK → Prop := fun vs H Q => ∃ (D : Addr) (ns : List Int), vs = [V.ref D] ∧ H D = some (NumS w D ns) ∧ ns.length < 60 ∧ Q (.int (sortU ns).length) H
theorem ints_rel : ∀ {vs : List Value} {ns : List Int}, IntsAre vs ns → Vals (ns.map V.int) vs
  | _, _, .nil => .nil
  | _, _, .cons k tk r => .cons ⟨tk, rfl⟩ (ints_rel r)
theorem cr_sortN (hc : X.calm = true) : CallR X (.builtin "sorted") (rSortN X.w) := by
  intro pins s σ H vs us Q I r h
  obtain ⟨D, ns, rfl, e, hl, q⟩ := h
  rw [Vals.ref1 r]
  refine sorted_set (numS_get I e) (I.ok.hd hc) (by have := sortU_le ns; omega) fun s' p out c ms k g o hp ho hi ha hm hn => ?_
  have em : ms = sortU ns := asc_same ha (sortU_asc ns) fun x => by rw [hm x, sortU_mem, decide_eq_true_eq]
  have I1 : Inv X pins σ H s' := I.call' (ch := []) o (Un.kept k) (I.hok.kept k) (by rw [g]; exact I.bare) (fun _ z => nomatch z)
  have new : ObjOk X.prog X.w (upd H p (.lst (ms.map V.int))) s'.heap p (.lst (ms.map V.int)) :=
    ⟨by rw [List.length_map, hn, sizeLine_eq]; have := sortU_le ns; omega, out.toList, c, ints_rel hi, ho⟩
  have hn0 : H p = none := I.hok.fresh hp
  refine ⟨.ref p, upd H p (.lst (ms.map V.int)), ?_, rfl, by rw [em]; exact q p hn0⟩
  exact I.call' (ch := []) o (Un.laid k hp hn0) (I.hok.laid k hp new) (by rw [g]; exact I.bare) (fun _ z => nomatch z)
theorem cr_lenN : CallR X (.builtin "len") (rLenN X.w) := by
  intro pins s σ H vs us Q I r h
  obtain ⟨D, ns, rfl, e, hl, q⟩ := h
  rw [Vals.ref1 r]
  obtain ⟨o, es, ep, t, ho, hex, hd, _, _, _, hb, hf, hn, _⟩ := numS_get I e
  exact call_len_set ho hex hd hf (by rw [hn]; have := sortU_le ns; omega) ⟨.int (sortU ns).length, H, I.tok _, ⟨_, by rw [hn]⟩, q⟩
end
end VL
/-! VL: {number for .. in .. if ..}: how it runs. -/
namespace VL
open PySem PySem.Spec PyProof.Rows L2
/-- what one turn of the block owes: a number goes to the set at D, or none -/
def sTurn (w : World) (D : Addr) (g : TG) (tt : TT) (te : TE) (vs : List Nat) (st : L2.St) (Nx : Hp → Prop) (x : V) (H : Hp) : Prop :=
  g x (wipe st vs) H fun st' H' => wipe st' vs = wipe st vs ∧ tt st' H' fun k H'' =>
    if k = true then te st' H'' fun y G => ∃ (c : Int) (ns : List Int), y = .int c ∧ G D = some (NumS w D ns) ∧ ns.length + 1 < scanBound ∧ Nx (upd G D (NumS w D (ns ++ [c]))) else Nx H''
/-- the walk over J with the set at D: W counts down -/
def sWalk (w : World) (D : Addr) (g : TG) (tt : TT) (te : TE) (vs : List Nat) (st : L2.St) (J : It) (fin : Hp → Prop) (W : Nat → Nat → Hp → Prop) : Prop := ∀ i m H, W i m H → (J.stop i H ∧ fin H) ∨
  (J.go i H ∧ ∃ Nx : Hp → Prop, (∀ H', Nx H' → ∃ m', m' < m ∧ W (i + 1) m' H') ∧ ∀ x H', J.yld i H x H' → sTurn w D g tt te vs st Nx x H')
/-- the reading of a set comprehension of numbers -/
def tSn (w : World) (wi : TI) (g : TG) (tt : TT) (te : TE) (vs : List Nat) : TE := fun st H Q => wi st H fun J H1 => ∀ D, H1 D = none →
  ∃ W : Nat → Nat → Hp → Prop, (∃ m, W 0 m (upd H1 D (NumS w D []))) ∧ sWalk w D g tt te vs st J (Q (.ref D)) W
/-- the world's empty set -/
abbrev noNums (w : World) : Obj := { cls := .type "set", dict := none, data := .set #[] 0 (.fresh 0 0 (!w.params.followText "set-order")) }
section
variable {X : Cx} {pins : List (Addr × Obj)} {st : L2.St} {H : Hp} {s : Shared}
/-- a fresh empty set is laid -/
theorem lay_nums (I : Inv X pins st H s) : Inv X pins st (upd H s.heap.objs.size (NumS X.w s.heap.objs.size [])) { s with heap := s.heap.push (noNums X.w) } := by
  refine I.laid (t' := s.toks) (fun b o e => Heap.get?_push_of_some _ e) (Nat.le_refl _) (numS_ok ?_)
  have q := setR_fresh (h := s.heap) X.w
  have e : (fun _ : Int => false) = fun j => decide (j ∈ ([] : List Int)) := by funext j; simp
  rw [e] at q
  exact q
/-- things that were free of the frame are so beside the new set -/
theorem free_nums {fp : List Addr} (old : ∀ b ∈ fp, b < s.heap.objs.size) (fr : ∀ b ∈ fp, FpOk X pins H b) :
    ∀ b ∈ fp, FpOk X pins (upd H s.heap.objs.size (NumS X.w s.heap.objs.size [])) b ∧ b < ({ s with heap := s.heap.push (noNums X.w) } : Shared).heap.objs.size := fun b hb => by
  have lt := old b hb
  have z := fr b hb
  refine ⟨⟨(upd_ne (Nat.ne_of_lt lt)).trans z.1, z.2⟩, ?_⟩
  show b < (s.heap.push (noNums X.w)).objs.size
  rw [Heap.size_push]
  exact Nat.lt_succ_of_lt lt
/-- the turns, one after another -/
theorem num_turns {tg iter elt : Expr} {ifs : List Expr} {scope : Scope} {pos : Pos} {g : TG} {tt : TT} {te : TE} {vs : List Nat} {J : It} {fp : List Addr} {it D : Addr} {tn : Nat → Heap → Prop} {ce : PySem.Env} {fin : Hp → Prop} {W : Nat → Nat → Hp → Prop} {Rr : Result → Shared → Prop}
    (hc : X.calm = true) (T : Turn X.prog X.w X.K tg J fp it tn) (pg : PG (X.blk s H scope ce fp) tg g) (pt : PTs (X.blk s H scope ce fp) ifs tt) (pe : PE (X.blk s H scope ce fp) elt te) (walk : sWalk X.w D g tt te vs st J fin W)
    (out : ∀ s' G, Inv (X.blk s H scope ce fp) [] (wipe st vs) G s' → fin G → Rr (.ok .next) s') {m0 : Nat} {s0 : Shared} {H0 : Hp} (I0 : Inv (X.blk s H scope ce fp) [] (wipe st vs) H0 s0) (t0 : tn 0 s0.heap) (n0 : ∀ b ∈ fp, H0 b = none) (w0 : W 0 m0 H0) :
    codeAny (model X.prog X.w) X.A (.compLoop (.SetComp elt [⟨tg, iter, ifs, 0⟩] scope pos) 0 (.ref it) (.ref D) ce) Rr s0 := by
  let Y := X.blk s H scope ce fp
  have still : ∀ {z : L2.St} {G : Hp} {s' : Shared}, Inv Y [] z G s' → (∀ b ∈ fp, G b = none) → ∀ b ∈ fp, FpOk Y [] G b := fun I n b hb =>
    ⟨n b hb, (I.ok.exf b hb).1, I.ok.exfs b hb, .inl hb, (I.ok.exf b hb).2, fun p hp => by have hp : p ∈ ([] : List (Addr × Obj)) ++ [] := hp; simp at hp⟩
  refine PpSet.compLoopS_any (fun m s' => ∃ i G, Inv Y [] (wipe st vs) G s' ∧ tn i s'.heap ∧ (∀ b ∈ fp, G b = none) ∧ W i m G) (fun m s1 ⟨i, G, I, t1, n1, w1⟩ => ?_) m0 ⟨0, H0, I0, t0, n0, w0⟩
  rcases walk i m G w1 with ⟨hstop, hfin⟩ | ⟨hgo, Nx, down, each⟩
  · exact thnF (T.done Y rfl rfl rfl hc i [] s1 _ G (fun _ _ => False) I (still I n1) t1 hstop) fun r s2 ⟨er, I2⟩ => by rw [er]; exact out s2 G I2 hfin
  refine thnF (T.item Y rfl rfl rfl hc i [] s1 _ G (fun _ _ => False) I (still I n1) t1 hgo) fun r s2 ⟨u, er, q2⟩ => ?_
  rw [er]
  refine thnF q2 fun _ s3 ⟨x, G3, I3, rx, hy, t3, n3⟩ => ?_
  have held := I3.pinned (still I3 n3) (T.obj _ _ t3)
  refine thnF (pg.run _ s3 _ G3 x u _ held rx (each x G3 hy)) fun _ s4 ⟨z, G4, I4, ez, q4⟩ => ?_
  -- from a turn's end to the next turn
  have close : ∀ {s' : Shared} {G' : Hp}, Inv Y ([] ++ pinsAt fp s3.heap) z G' s' → Nx G' → ∃ m', m' < m ∧ ∃ i G, Inv Y [] (wipe st vs) G s' ∧ tn i s'.heap ∧ (∀ b ∈ fp, G b = none) ∧ W i m' G := fun {s' G'} I' nx => by
    obtain ⟨m', lt, w'⟩ := down G' nx
    have pinned : ∀ b ∈ fp, ∀ o, s3.heap.get? b = some o → s'.heap.get? b = some o ∧ G' b = none := fun b hb o e => by
      obtain ⟨p1, p2, _⟩ := I'.pin (b, o) (List.mem_append_right _ (List.mem_append_right _ (mem_pinsAt hb e)))
      exact ⟨p1, p2⟩
    have sameLen : (wipe st vs).length = z.length := by rw [← ez, wipe_length]
    refine ⟨m', lt, i + 1, G', (I'.unpinned (pins := [])).weak sameLen fun j v e => ?_, T.keep _ _ _ t3 fun b hb o e => (pinned b hb o e).1, fun b hb => ?_, w'⟩
    · rw [← ez] at e; exact (wipe_some e).1
    · obtain ⟨o, e, _⟩ := T.obj _ _ t3 b hb; exact (pinned b hb o e).2
  refine thnF (pt.run _ s4 z G4 _ I4 q4) fun b s5 ⟨G5, I5, q5⟩ => ?_
  cases b
  · exact close I5 q5
  · refine thnF (pe.run _ s5 z G5 _ I5 q5) fun v s6 ⟨y, G6, I6, rv, c, ns, ey, e6, l6, nx⟩ => ?_
    rw [ey] at rv
    obtain ⟨tk, ev⟩ : ∃ tk, v = Value.int c tk := rv
    rw [ev]
    exact num_add (X := Y) I6 e6 l6 fun s7 I7 => close I7 nx
/-- the whole, as a value -/
theorem pe_sn {elt tg iter : Expr} {ifs : List Expr} {scope : Scope} {own : List (PySem.Str × Nat)} {pos : Pos} {wi : TI} {g : TG} {tt : TT} {te : TE} (hc : X.calm = true) (hN : X.N.Nodup) (hi : PI X tg iter wi) (bo : BlkOk X.N X.env.scope scope own)
    (hg : ∀ (s : Shared) (H : Hp) (C : Addr) (cl : List (PySem.Str × Addr)) (fp : List Addr), PG (X.blk s H scope (compEnvC scope cl C X.env) fp) tg g)
    (ht : ∀ (s : Shared) (H : Hp) (C : Addr) (cl : List (PySem.Str × Addr)) (fp : List Addr), PTs (X.blk s H scope (compEnvC scope cl C X.env) fp) ifs tt)
    (he : ∀ (s : Shared) (H : Hp) (C : Addr) (cl : List (PySem.Str × Addr)) (fp : List Addr), PE (X.blk s H scope (compEnvC scope cl C X.env) fp) elt te) (hs : ∀ x, foldedSetIterable iter X.env x = pure x) :
    PE X (.SetComp elt [⟨tg, iter, ifs, 0⟩] scope pos) (tSn X.w wi g tt te (own.map (·.2))) := by
  constructor
  intro pins s st H Q I h
  have cells : ∀ y ∈ scope.names, y.2 = .free → ∃ c, X.env.cells.lookup y.1 = some c := fun y hy e => (bo.free y hy e).elim (fun k => I.ok.has _ (.inl k)) fun k => I.ok.has _ (.inr k)
  rw [PpSet.eval_SetComp]
  refine wpAny_comprehension_free (use := none) rfl hs (closure_ok cells) bo.kind (fun y hy e => by rw [bo.uniq y hy, e]) ?_
  refine thn (hi.run pins s st H _ I h) fun xv s1 hx => thn hx fun itv s2 q2 => ?_
  obtain ⟨it, fp, tn, J, H2, ei, I2, T, t2, fr, q⟩ := q2
  rw [ei]
  have old : ∀ b ∈ fp, b < s2.heap.objs.size := fun b hb => let ⟨_, e, _⟩ := T.obj _ _ t2 b hb; Heap.lt_size e
  obtain ⟨W, ⟨m0, w0⟩, walk⟩ := q s2.heap.objs.size (I2.hok.fresh (Nat.le_refl _))
  have I3 := lay_nums I2
  have fr3 := free_nums (X := X) old fr
  refine PpSet.newSet_ok (newEnv_comp ?_)
  generalize NumS X.w s2.heap.objs.size [] = bag at w0 I3 fr3
  generalize (upd H2 s2.heap.objs.size bag) = H3 at w0 I3 fr3
  have t3 : tn 0 ({ s2 with heap := s2.heap.push (noNums X.w) } : Shared).heap := T.keep _ _ _ t2 fun b _ o e => Heap.get?_push_of_some _ e
  revert I3 fr3 t3
  show _ → _ → _ → codeAny _ _ _ _ { ({ s2 with heap := s2.heap.push (noNums X.w) } : Shared) with heap := pushCells (({ s2 with heap := s2.heap.push (noNums X.w) } : Shared).heap.push { cls := .type "dict", data := .dict #[] }) scope.names }
  generalize ({ s2 with heap := s2.heap.push (noNums X.w) } : Shared) = s3
  intro I3 fr3 t3
  have I4 := block_start I3 bo hN fr3
  have t4 := T.keep _ _ _ t3 fun b _ o e => pushCells_keeps scope.names _ _ _ (Heap.get?_push_of_some { cls := .type "dict", data := .dict #[] } e)
  have loop := num_turns (X := X) (iter := iter) (pos := pos) (Rr := compPost (model X.prog X.w) X.A X.xe none (EP X pins st Q) (.ref s2.heap.objs.size) s3.heap.objs.size) hc T (hg s3 H3 _ _ fp) (ht s3 H3 _ _ fp) (he s3 H3 _ _ fp) walk (fun s4 G J4 fin => ?_) I4 t4 (fun b hb => (fr3 b hb).1.1) w0
  · exact PpSet.codeAny_compStart_set loop (T.self X.A 0 _ _ _ t4 loop)
  -- the def goes on
  have none_ : G s3.heap.objs.size = none := J4.free
  obtain ⟨m, names, _⟩ := J4.loc
  have back : Inv X pins st G s4 := I3.call' (ch := fp) J4.os J4.base J4.hok J4.bare fun b hb => by
    obtain ⟨⟨_, z1, z2, z3, z4, z5⟩, _⟩ := fr3 b hb
    exact ⟨z3, z1, z4, z5⟩
  obtain ⟨y0, y1, y2, y3, y4, y5⟩ := I3.fpOk (Nat.le_refl _) none_
  exact ⟨m, names, fun h2 sb => ⟨.ref s2.heap.objs.size, G, back.turned (t' := s4.toks) (fun b o nb e => (sb.2 b nb).trans e) y0 y1 y3 y4 y5, rfl, fin⟩⟩
end
end VL
/-! VL: sorted({..}), len({..}) of numbers. -/
namespace VL
open PySem PySem.Spec PyProof.Rows L2
section
variable {K : PySem.W.Frag} {pv : Nat → Option V} {H H' H1 H2 : Hp} {O O' O1 O2 M M' M1 M2 Z Z' Z2 : Addr → Prop} {s s2 : L2.St} {r r' r2 : Env} {fp fp' fp2 : Fp} {b b2 : Bool} {w : World}
theorem StOk.updE (h : StOk K pv H O Z s r fp) {p : Addr} {φ : Heap → Prop} {o : HO} (hp : H p = some (.ext φ)) : StOk K pv (L2.upd H p o) O Z s r fp := by
  have ne : ∀ {a u}, H a = some u → u ≠ .ext φ → a ≠ p := fun {a u} e d z => by rw [z, hp] at e; exact d (Option.some.inj e).symm
  have kL : ∀ {T : Addr → Prop}, Keeps K H (L2.upd H p o) T T := fun {T} => ⟨fun a vs q t => ⟨by rw [upd_ne (ne q (fun z => nomatch z))]; exact q, t⟩, fun a o u q => by rw [upd_ne (ne q (fun z => nomatch z))]; exact q⟩
  refine ⟨h.len, fun i x e => (h.sl i x e).keep kL kL fun a ha vs e q => ⟨by rw [upd_ne (ne e (fun z => nomatch z))]; exact e, q⟩, h.zm, fun a z => ?_, h.out, h.nd, h.dj⟩
  by_cases e : a = p
  · exact ⟨o, by rw [e]; exact upd_same⟩
  · rw [upd_ne e]; exact h.ze a z
theorem allInt_map : ∀ {xs : List D} {ns : List Int}, allInt xs = some ns → xs = ns.map PyData.int
  | [], ns, e => by cases e; rfl
  | d :: ds, ns, e => by
    cases d <;> simp only [allInt] at e <;> first | (cases e; done) | skip
    rename_i i
    cases q : allInt ds with
    | none => rw [q] at e; cases e
    | some ms =>
      rw [q] at e
      cases e
      rw [allInt_map q]
      rfl
theorem RepO.num {n : Nat} {c : Int} {z : V} {f : List Addr} (h : RepO K H O n (.int c) z f) : z = .int c ∧ f = [] := by
  cases n with
  | zero => unfold RepO at h; exact ⟨h.1.int, h.2⟩
  | succ n => unfold RepO at h; exact ⟨h.1.int, h.2⟩
def SnI (w : World) (K : PySem.W.Frag) (pv : Nat → Option V) (s : L2.St) (vs : List Nat) (H1 : Hp) (O1 M1 Z : Addr → Prop) (B : Bool) (Dl : Addr) (F : D → Env → R (Option D × Env)) (ds : List D) (all : List Int) (rE : Env) (i : Nat) (H : Hp) : Prop :=
  ∃ O r fp ns rest, StOk K pv H O Z (wipe s vs) r fp ∧ Ext B H1 O1 M1 H O (Mo fp) ∧ H Dl = some (NumS w Dl ns) ∧ mapL F (ds.drop i) r = .ok (rest, rE) ∧ ns.map PyData.int ++ rest = all.map PyData.int
theorem sn_turn {G : Str → Option Fd} {n m i : Nat} {xe xc : Ex} {t : Tg} {own : List Nat} {Dl : Addr} {ds : List D} {all : List Int} {rE : Env} {x : V} {S1 : Addr → Prop} {d : D} {B : Bool} (ho : ∀ i, tgHas i t = true → i ∈ own)
    (hS : ∀ a, S1 a → (∃ o, H1 a = some o) ∧ ¬ M1 a ∧ ¬ Z a) (hB : (!pureX G xc || !pureX G xe) = true → B = true) (hD : H1 Dl = none) (hz : all.length < 60)
    (I : SnI w K pv s own H1 O1 M1 Z B Dl (turnF G n m xe t xc own) ds all rE i H) (hd : ds[i]? = some d) (y : ∀ O M, Ext B H1 O1 M1 H O M → YdOk K t H H' O S1 m d x) :
    tG K pv t x (wipe s own) H' fun σ2 H2 => wipe σ2 own = wipe s own ∧ tVT K pv (!pureX G xc) (tstF G xc) σ2 H2 fun b H3 =>
      if b = true then tD K pv (!pureX G xe) (n - 1) (tk (n - 1) xe (ev G xe)) σ2 H3 fun y H4 => ∃ (c : Int) (ns : List Int), y = .int c ∧ H4 Dl = some (NumS w Dl ns) ∧ ns.length + 1 < scanBound ∧
        SnI w K pv s own H1 O1 M1 Z B Dl (turnF G n m xe t xc own) ds all rE (i + 1) (L2.upd H4 Dl (NumS w Dl (ns ++ [c])))
      else SnI w K pv s own H1 O1 M1 Z B Dl (turnF G n m xe t xc own) ds all rE (i + 1) H3 := by
  obtain ⟨O, r, fp, ns, rest, h, x0, eD, em, ex⟩ := I
  have hi : i < ds.length := (List.getElem?_eq_some_iff.mp hd).1
  have edrop : ds.drop i = d :: ds.drop (i + 1) := by
    rw [List.drop_eq_getElem_cons hi]
    have := List.getElem?_eq_getElem hi
    rw [hd] at this
    rw [Option.some.inj this]
  rw [edrop] at em
  unfold mapL at em
  obtain ⟨⟨o, r1⟩, ef, em⟩ := bind_ok_iff.mp em
  obtain ⟨⟨rest1, rE'⟩, em1, em⟩ := bind_ok_iff.mp em
  dsimp only at em em1
  cases em
  unfold turnF at ef
  obtain ⟨rb, eb, ef⟩ := bind_ok_iff.mp ef
  obtain ⟨⟨vc, rc⟩, ec, ef⟩ := bind_ok_iff.mp ef
  obtain ⟨k, ek, ef⟩ := bind_ok_iff.mp ef
  dsimp only at ef ek
  have hS' : ∀ a, S1 a → ¬ (Mo fp a ∨ Z a) := fun a q z => by
    obtain ⟨⟨o, ho⟩, g1, g2⟩ := hS a q
    rcases z with z | z
    · rcases x0.sub a z with w | w
      · exact g1 w
      · rw [ho] at w; cases w
    · exact g2 z
  obtain ⟨h1, x1, y1⟩ := yd_ok h (y O _ x0) hS'
  have hnD : ¬ Mo fp Dl := fun m => by
    obtain ⟨_, vs, e⟩ := h.mok Dl m
    rw [eD] at e; cases e
  refine ⟨O, Z, r, fp, m, d, rb, h1, eb, y1, fun σ2 fpb hb mb sb => ?_⟩
  have ew : wipe σ2 own = wipe s own := by
    refine wipe_eq ?_ fun j hj => ?_
    · rw [hb.len, bindT_len eb, ← h.len, wipe_length]
    · refine sb j ?_
      cases q : tgHas j t with
      | false => rfl
      | true => exact absurd (ho j q) hj
  refine ⟨ew, O, Z, rb, fpb, k, rc, hb, ?_, fun H3 O3 fp3 h3 x3 => ?_⟩
  · show (ev G xc rb >>= fun p => truth p.1.d >>= fun b => .ok (fzB b, p.2)) = _
    rw [ec]
    show (truth vc.d >>= fun b => Except.ok (fzB b, rc)) = _
    rw [ek]
    rfl
  have y3 : Ext (false || !pureX G xc) H O (Mo fp) H3 O3 (Mo fp3) := (x1.lessM mb).trans x3
  cases k with
  | false =>
    simp only [Bool.false_eq_true, if_false]
    dsimp only at ef
    cases ef
    obtain ⟨fp5, h5, m5⟩ := wipe_ok own h3
    rw [ew] at h5
    refine ⟨O3, _, fp5, ns, rest1, h5, ((x0.trans y3).lessM m5).weak fun e => ?_, y3.keep Dl _ eD hnD, em1, ?_⟩
    · cases B with
      | true => rfl
      | false =>
        refine hB ?_
        simp only [Bool.false_or] at e
        rw [e]; rfl
    · rw [← ex]; rfl
  | true =>
    simp only [if_true]
    dsimp only at ef
    obtain ⟨⟨d', re⟩, ee, ef⟩ := bind_ok_iff.mp ef
    cases ef
    have hm : d' ∈ all.map PyData.int := by
      rw [← ex]
      exact List.mem_append_right _ (List.mem_append_left _ List.mem_cons_self)
    obtain ⟨c, _, ec'⟩ := List.mem_map.mp hm
    subst ec'
    refine ⟨O3, Z, rc, fp3, _, re, h3, ee, fun z H4 O4 fp4 tf h4 x4 w4 n4 => ?_⟩
    obtain ⟨rfl, rfl⟩ := w4.num
    rw [ZT.nil] at h4
    rw [MoT.nil] at x4
    have y4 : Ext ((false || !pureX G xc) || !pureX G xe) H O (Mo fp) H4 O4 (Mo fp4) := y3.trans x4
    have eD4 := y4.keep Dl _ eD hnD
    have h5 := h4.updE (o := NumS w Dl (ns ++ [c])) eD4
    obtain ⟨fp5, h5, m5⟩ := wipe_ok own h5
    rw [ew] at h5
    refine ⟨c, ns, rfl, eD4, ?_, O4, _, fp5, ns ++ [c], rest1, h5, ?_, upd_same, em1, ?_⟩
    · have q := congrArg List.length ex
      simp only [List.length_append, List.length_map, Option.toList, List.length_cons, List.length_nil] at q
      unfold scanBound
      omega
    · refine (((x0.trans y4).updNew (xs := []) hD).lessM m5).weak fun e => ?_
      cases B with
      | true => rfl
      | false =>
        refine hB ?_
        simpa only [Bool.false_or] using e
    · rw [← ex, List.map_append, List.append_assoc]; rfl
/-- what is made of the set -/
def SnEnd (w : World) (K : PySem.W.Frag) (f : B1) (rB : List V → Hp → VK → Prop) : Prop := ∀ (H : Hp) (O : Addr → Prop) (D : Addr) (ns : List Int) (v : Val) (n : Nat) (Q : VK), H D = some (NumS w D ns) → ns.length < 60 → b1D f ⟨true, n, .list (ns.map .int)⟩ = .ok v → (∀ z H', v.own = true → Made K H O v.n v.d z H' → Q z H') → rB [.ref D] H Q
theorem allInt_of (ns : List Int) : allInt (ns.map PyData.int) = some ns := by
  induction ns with
  | nil => rfl
  | cons n ns ih =>
    show (allInt (ns.map PyData.int)).map (n :: ·) = _
    rw [ih]
    rfl
theorem sn_sort : SnEnd w K .dsort (rSortN w) := fun H O D ns v n Q e hl ev q => by
  have z : b1D .dsort ⟨true, n, .list (ns.map .int)⟩ = .ok ⟨true, 1, .list ((sortU ns).map .int)⟩ := by
    simp only [b1D]
    rw [allInt_of]
    simp only [hl, if_true]
  rw [z] at ev
  cases ev
  refine ⟨D, ns, rfl, e, hl, fun p hp => q _ _ rfl (Made.lst hp ?_)⟩
  generalize sortU ns = ms
  induction ms with
  | nil => exact .nil
  | cons m ms ih => exact .cons (by rw [RepF]) ih
theorem sn_len : SnEnd w K .dlen (rLenN w) := fun H O D ns v n Q e hl ev q => by
  have z : b1D .dlen ⟨true, n, .list (ns.map .int)⟩ = .ok (fzv (.int (sortU ns).length)) := by
    simp only [b1D]
    rw [allInt_of]
    simp only [hl, if_true]
  rw [z] at ev
  cases ev
  exact ⟨D, ns, rfl, e, hl, q _ _ rfl (Made.int _)⟩
theorem sn_read {G : Str → Option Fd} {n : Nat} {xe xi xc : Ex} {t : Tg} {own : List Nat} {f : B1} {rB : List V → Hp → VK → Prop} {Q : VK} (hf : f = .dsort ∨ f = .dlen) (hE : SnEnd w K f rB) (ho : ∀ i, tgHas i t = true → i ∈ own)
    (q : tV K pv (!pureX G (.b1 f (.comp n xe t xi xc own))) (ev G (.b1 f (.comp n xe t xi xc own))) s H Q) :
    tSn w (tI K pv (!pureX G xi) t (evI G xi)) (tG K pv t) (tVT K pv (!pureX G xc) (tstF G xc)) (tD K pv (!pureX G xe) (n - 1) (tk (n - 1) xe (ev G xe))) own s H fun x H1 => rB [x] H1 Q := by
  obtain ⟨O, Z, r, fp, v, r', h, e, q⟩ := q
  have ep : pureX G (.b1 f (.comp n xe t xi xc own)) = pureX G (.comp n xe t xi xc own) := by rw [pureX]
  rw [ep] at q
  rw [ev] at e
  obtain ⟨⟨va, r2⟩, e0, e⟩ := bind_ok_iff.mp e
  obtain ⟨vb, e9, e⟩ := bind_ok_iff.mp e
  dsimp only at e e9
  cases e
  rw [ev] at e0
  split at e0
  · cases e0
  · rename_i hn
    obtain ⟨⟨⟨m, ds⟩, p2⟩, e1, e0⟩ := bind_ok_iff.mp e0
    obtain ⟨⟨xs, rE⟩, e2, e0⟩ := bind_ok_iff.mp e0
    obtain ⟨xs', e3, e0⟩ := bind_ok_iff.mp e0
    dsimp only at e0 e2 e3
    unfold lenOk at e3
    split at e3
    · rename_i hz
      cases e3
      cases e0
      obtain ⟨all, rfl, hl⟩ : ∃ all : List Int, xs = all.map PyData.int ∧ all.length < 60 := by
        rcases hf with rfl | rfl
        · simp only [b1D] at e9
          split at e9
          · rename_i ns en
            split at e9
            · rename_i hl
              exact ⟨ns, allInt_map en, hl⟩
            · cases e9
          · cases e9
        · simp only [b1D] at e9
          split at e9
          · rename_i ns en
            split at e9
            · rename_i hl
              exact ⟨ns, allInt_map en, hl⟩
            · cases e9
          · cases e9
      refine ⟨O, Z, _, _, (m, ds), p2, h.lock (rootsX xi), e1, fun J H1 O1 fp1 h1 x1 wk D hD => ?_⟩
      have e2 : mapL (turnF G n m xe t xc own) ds (wipeS own p2) = .ok (all.map PyData.int, rE) := e2
      have wk := wk _ h1.mok fun a q => .inl q
      let S1 : Addr → Prop := fun a => (¬ (Mo fp1 a ∨ Z a)) ∧ ∃ o, H1 a = some o
      let B := !pureX G (.comp n xe t xi xc own)
      have hB : (!pureX G xc || !pureX G xe) = true → B = true := comp_pure1
      have hBi : (!pureX G xi) = true → B = true := comp_pure2
      refine ⟨fun i k H => k = ds.length - i ∧ i ≤ ds.length ∧ SnI w K pv s own H1 O1 (Mo fp1) Z B D (turnF G n m xe t xc own) ds all rE i H, ⟨_, rfl, Nat.zero_le _, ?_⟩, ?_⟩
      · have h2 := h1.newZ (o := NumS w D []) (O' := O1) (Z' := Z) hD (fun _ _ => Iff.rfl) fun a z => .inl z
        obtain ⟨fp3, h3, m3⟩ := wipe_ok own h2
        exact ⟨O1, _, fp3, [], _, h3, Ext.lessM (fp := fp1) (Ext.new hD (fun _ _ => Iff.rfl) fun a q => .inl q) m3, upd_same, by rw [List.drop_zero]; exact e2, rfl⟩
      · rintro i k H2 ⟨rfl, hi, I⟩
        by_cases hlt : i < ds.length
        · obtain ⟨O2, _, fp2, _, _, _, x2, _⟩ := id I
          have hd : ds[i]? = some ds[i] := List.getElem?_eq_getElem hlt
          refine .inr ⟨(wk _ _ _ _ x2).1 i hlt, SnI w K pv s own H1 O1 (Mo fp1) Z B D (turnF G n m xe t xc own) ds all rE (i + 1), fun H' I' => ⟨ds.length - (i + 1), by omega, rfl, hlt, I'⟩, fun x H' y => ?_⟩
          exact sn_turn ho (S1 := S1) (fun a q => ⟨q.2, fun z => q.1 (.inl z), fun z => q.1 (.inr z)⟩) hB hD hl I hd fun O3 M3 x3 => (wk _ _ _ _ x3).2.2 i _ x H' hd y
        · have ei : i = ds.length := by omega
          subst ei
          obtain ⟨O2, r2, fp2, ns, rest, h2, x2, eD, em, ex⟩ := I
          refine .inl ⟨(wk _ _ _ _ x2).2.1 _ (Nat.le_refl _), ?_⟩
          rw [List.drop_length] at em
          unfold mapL at em
          cases em
          rw [List.append_nil] at ex
          have en : ns = all := by
            have z := congrArg allInt ex
            rw [allInt_of, allInt_of] at z
            exact Option.some.inj z
          subst en
          have h3 := back_ok h1 h2 x2
          have x3 := x1.trans x2
          obtain ⟨fp4, h4, m4⟩ := unl_ok (is := rootsX xi) (st := fun _ => false) (s2 := s) h h3 x3 (fun a z => .inl z) (fun _ _ => rfl) (fun _ _ => rfl) rfl
          have x4 : Ext (!pureX G xi || B) H O (Mo fp) H2 O2 (Mo fp4) := by
            have z := unl_ext (tf := []) (by rw [MoT.nil]; exact x3) m4
            rwa [MoT.nil] at z
          refine hE H2 O2 D ns v n Q eD hl e9 fun z H' ho mk => ?_
          obtain ⟨o, nn, dd⟩ := v
          cases (show o = true from ho)
          refine made_end q h4 x4 (fun e => ?_) mk
          rw [Bool.or_eq_true] at e
          exact e.elim hBi fun e => e
    · cases e3
end
section
variable {X : Cx} {c : Cc}
theorem ve_dset (hX : XOk X c) {f : B1} {elt tg iter : Expr} {ifs : List Expr} {scope : Scope} {own : List (Str × Nat)} {pos p pos2 : Pos} {n : Nat} {xe xi xc : Ex} {t : Tg} {nm : Str} (hf : (f = .dsort ∧ nm = "sorted") ∨ (f = .dlen ∧ nm = "len")) (hgl : glN c.sc nm = true)
    (hi : VI X c tg iter xi t) (hb : blkC c.N c.sc scope own = true) (ht : tgIn (own.map (·.2)) t = true)
    (hg : ∀ X', XOk X' (c.blk scope) → VG X' (c.blk scope) tg t) (hc : ∀ X', XOk X' (c.blk scope) → VTs X' (c.blk scope) ifs xc) (he : ∀ X', XOk X' (c.blk scope) → VE X' (c.blk scope) elt xe) (hs : notSetD iter = true) :
    VE X c (.Call (.Name nm p) [.SetComp elt [⟨tg, iter, ifs, 0⟩] scope pos] [] pos2) (.b1 f (.comp n xe t xi xc (own.map (·.2)))) where
  val := fun pv => by
    have hgl := hX.gl hgl
    have hr : ∀ x ∈ frees, X.mg x = none := hX.free
    have h0 : PE X (.SetComp elt [⟨tg, iter, ifs, 0⟩] scope pos) (tSn X.w (tI X.K pv (!pureX c.G xi) t (evI c.G xi)) (tG X.K pv t) (tVT X.K pv (!pureX c.G xc) (tstF c.G xc)) (tD X.K pv (!pureX c.G xe) (n - 1) (tk (n - 1) xe (ev c.G xe))) (own.map (·.2))) := pe_sn hX.calm hX.nd (hi.it pv) (by rw [hX.N, hX.sc]; exact blkOk_by hb) (fun s H C cl fp => (hg _ (xok_blk hX s H scope C cl fp)).tgt pv) (fun s H C cl fp => (hc _ (xok_blk hX s H scope C cl fp)).tst pv)
      (fun s H C cl fp => (he _ (xok_blk hX s H scope C cl fp)).tk (pv := pv) (n - 1)) (notSet_ok hs _)
    have hn : notStar (.SetComp elt [⟨tg, iter, ifs, 0⟩] scope pos) = true := rfl
    have pa := pa_cons h0 pa_nil (starEach_cons (es := []) (env := X.env) hn)
    rcases hf with ⟨rfl, rfl⟩ | ⟨rfl, rfl⟩
    · exact PE.imp (pe_callB (cr_sortN hX.calm) hgl (hr _ (by decide)) boot_sorted pa (he := starEach_cons hn)) fun s H Q q => sn_read (.inl rfl) sn_sort (tgIn_ok ht) q
    · exact PE.imp (pe_callB cr_lenN hgl (hr _ (by decide)) boot_len pa (he := starEach_cons hn)) fun s H Q q => sn_read (.inr rfl) sn_len (tgIn_ok ht) q
  var := fun i e => by cases e
end
end VL
/-! VL: comprehensions of two clauses. -/
namespace VL
open PySem PySem.Spec PyProof.Rows L2
section
variable {K : PySem.W.Frag} {pv : Nat → Option V} {H H' H1 H2 : Hp} {O O' O1 O2 M M' M1 M2 Z Z' Z2 : Addr → Prop} {s s2 : L2.St} {r r' r2 : Env} {fp fp' fp2 : Fp} {b b2 : Bool}
/-- the list at Dl grows, whatever else Y tells of what was changed -/
def LcG (K : PySem.W.Frag) (pv : Nat → Option V) (s : L2.St) (vs : List Nat) (H1 : Hp) (O1 M1 Z : Addr → Prop) (B : Bool) (n : Nat) (Dl : Addr) (Y : Hp → (Addr → Prop) → (Addr → Prop) → Prop) (F : D → Env → R (Option D × Env)) (ds : List D) (Ct : Env → List D → Prop) (xs : List D) (i : Nat) (H : Hp) : Prop :=
  ∃ O r fp acc av tfs rest rest2 rE, StOk K pv H O (ZT Z (Dl :: tfs.flatten)) (wipe s vs) r fp ∧ (Dl :: tfs.flatten).Nodup ∧ Ext B H1 O1 M1 H O (MoT fp (Dl :: tfs.flatten)) ∧ Y H O (MoT fp (Dl :: tfs.flatten)) ∧ H Dl = some (.lst av) ∧ O Dl ∧ Trip (RepO K H O (n - 1)) acc av tfs ∧
    mapL F (ds.drop i) r = .ok (rest, rE) ∧ Ct rE rest2 ∧ acc ++ (rest ++ rest2) = xs
theorem mapL_at {F : D → Env → R (Option D × Env)} {ds rest : List D} {rE : Env} {i : Nat} {d : D} (hd : ds[i]? = some d) (em : mapL F (ds.drop i) r = .ok (rest, rE)) : ∃ o r1 rest1, F d r = .ok (o, r1) ∧ mapL F (ds.drop (i + 1)) r1 = .ok (rest1, rE) ∧ rest = o.toList ++ rest1 := by
  obtain ⟨hi, ei⟩ := List.getElem?_eq_some_iff.mp hd
  rw [List.drop_eq_getElem_cons hi, ei] at em
  unfold mapL at em
  obtain ⟨⟨o, r1⟩, ef, em⟩ := bind_ok_iff.mp em
  obtain ⟨⟨rest1, rE'⟩, em1, em⟩ := bind_ok_iff.mp em
  cases em
  exact ⟨o, r1, rest1, ef, em1, rfl⟩
theorem catL_at {F : D → Env → R (List D × Env)} {ds rest : List D} {rE : Env} {i : Nat} {d : D} (hd : ds[i]? = some d) (em : catL F (ds.drop i) r = .ok (rest, rE)) : ∃ o r1 rest1, F d r = .ok (o, r1) ∧ catL F (ds.drop (i + 1)) r1 = .ok (rest1, rE) ∧ rest = o ++ rest1 := by
  obtain ⟨hi, ei⟩ := List.getElem?_eq_some_iff.mp hd
  rw [List.drop_eq_getElem_cons hi, ei] at em
  unfold catL at em
  obtain ⟨⟨o, r1⟩, ef, em⟩ := bind_ok_iff.mp em
  obtain ⟨⟨rest1, rE'⟩, em1, em⟩ := bind_ok_iff.mp em
  cases em
  exact ⟨o, r1, rest1, ef, em1, rfl⟩
theorem wipe_bound {own : List Nat} {t : Tg} {m : Nat} {d : D} {st : L2.St} {rb : Env} {fpb : Fp} (ho : ∀ i, tgHas i t = true → i ∈ own) (h : StOk K pv H O Z (wipe s own) r fp) (eb : bindT m t d r = .ok rb) (hb : StOk K pv H O Z st rb fpb) (sb : ∀ i, tgHas i t = false → st[i]? = (wipe s own)[i]?) : wipe st own = wipe s own := by
  refine wipe_eq ?_ fun j hj => sb j ?_
  · rw [hb.len, bindT_len eb, ← h.len, wipe_length]
  · cases q : tgHas j t with
    | false => rfl
    | true => exact absurd (ho j q) hj
theorem lg_turn {G : Str → Option Fd} {n m i : Nat} {xe xc : Ex} {t : Tg} {own : List Nat} {Dl : Addr} {ds xs : List D} {x : V} {S1 : Addr → Prop} {d : D} {B : Bool} {Y : Hp → (Addr → Prop) → (Addr → Prop) → Prop} {Ct : Env → List D → Prop} (ho : ∀ i, tgHas i t = true → i ∈ own)
    (hY1 : ∀ {bb H O M H' O' M'}, Y H O M → Ext bb H O M H' O' M' → Y H' O' M') (hY2 : ∀ {H O M o}, Y H O M → Y (L2.upd H Dl o) O M)
    (hS : ∀ (fp : Fp) (T : List Addr) O, Y H O (MoT fp T) → ∀ a, S1 a → ¬ (Mo fp a ∨ ZT Z T a)) (hB : (!pureX G xc || !pureX G xe) = true → B = true) (hD : H1 Dl = none) (hz : xs.length < lim)
    (I : LcG K pv s own H1 O1 M1 Z B n Dl Y (turnF G n m xe t xc own) ds Ct xs i H) (hd : ds[i]? = some d) (y : ∀ O M, Y H O M → YdOk K t H H' O S1 m d x) :
    tG K pv t x (wipe s own) H' fun σ2 H2 => wipe σ2 own = wipe s own ∧ tVT K pv (!pureX G xc) (tstF G xc) σ2 H2 fun b H3 =>
      if b = true then tD K pv (!pureX G xe) (n - 1) (tk (n - 1) xe (ev G xe)) σ2 H3 fun y H4 => ∃ acc, H4 Dl = some (.lst acc) ∧ acc.length < sizeLine ∧ LcG K pv s own H1 O1 M1 Z B n Dl Y (turnF G n m xe t xc own) ds Ct xs (i + 1) (L2.upd H4 Dl (.lst (acc ++ [y])))
      else LcG K pv s own H1 O1 M1 Z B n Dl Y (turnF G n m xe t xc own) ds Ct xs (i + 1) H3 := by
  obtain ⟨O, r, fp, acc, av, tfs, rest, rest2, rE, h, nd, x0, y0, eD, oD, tr, em, ct, ex⟩ := I
  obtain ⟨o, r1, rest1, ef, em1, er⟩ := mapL_at hd em
  subst er
  unfold turnF at ef
  obtain ⟨rb, eb, ef⟩ := bind_ok_iff.mp ef
  obtain ⟨⟨vc, rc⟩, ec, ef⟩ := bind_ok_iff.mp ef
  obtain ⟨k, ek, ef⟩ := bind_ok_iff.mp ef
  dsimp only at ef ek
  obtain ⟨h1, x1, y1⟩ := yd_ok h (y O _ y0) (hS fp _ O y0)
  refine ⟨O, _, r, fp, m, d, rb, h1, eb, y1, fun σ2 fpb hb mb sb => ?_⟩
  have ew := wipe_bound ho h1 eb hb sb
  refine ⟨ew, O, _, rb, fpb, k, rc, hb, ?_, fun H3 O3 fp3 h3 x3 => ?_⟩
  · show (ev G xc rb >>= fun p => truth p.1.d >>= fun b => .ok (fzB b, p.2)) = _
    rw [ec]
    show (truth vc.d >>= fun b => Except.ok (fzB b, rc)) = _
    rw [ek]
    rfl
  have y3 : Ext (false || !pureX G xc) H O (Mo fp) H3 O3 (Mo fp3) := (x1.lessM mb).trans x3
  have hnot : ∀ a, a ∈ Dl :: tfs.flatten → ¬ Mo fp a := fun a ha => h.zm a (.inr ha)
  have wk : ∀ {bb : Bool}, bb = true → bb = (!pureX G xc || !pureX G xe) ∨ (bb = true → (!pureX G xc || !pureX G xe) = true) → True := fun _ _ => trivial
  cases k with
  | false =>
    simp only [Bool.false_eq_true, if_false]
    dsimp only at ef
    cases ef
    obtain ⟨fp5, h5, m5⟩ := wipe_ok own h3
    rw [ew] at h5
    have xT : Ext (false || !pureX G xc) H O (MoT fp (Dl :: tfs.flatten)) H3 O3 (MoT fp5 (Dl :: tfs.flatten)) := (Ext.lessT ((Ext.refl (b := false)).held0 y3) m5).weak fun e => by simpa using e
    refine ⟨O3, _, fp5, acc, av, tfs, rest1, rest2, rE, h5, nd, (x0.trans xT).weak fun e => ?_, hY1 y0 xT, y3.keep Dl _ eD (hnot Dl List.mem_cons_self), (y3.own Dl _ eD (hnot Dl List.mem_cons_self)).mpr oD, ?_, em1, ct, ?_⟩
    · cases B with
      | true => rfl
      | false =>
        refine hB ?_
        simp only [Bool.false_or] at e
        rw [e]; rfl
    · exact tr.imp fun d v f hf q => y3.repO h.mok (fun a ha => hnot a (List.mem_cons_of_mem _ (List.mem_flatten.mpr ⟨f, hf, ha⟩))) q
    · rw [← ex]; rfl
  | true =>
    simp only [if_true]
    dsimp only at ef
    obtain ⟨⟨d', re⟩, ee, ef⟩ := bind_ok_iff.mp ef
    cases ef
    refine ⟨O3, _, rc, fp3, d', re, h3, ee, fun z H4 O4 fp4 tf h4 x4 w4 n4 => ?_⟩
    have y4 : Ext ((false || !pureX G xc) || !pureX G xe) H O (Mo fp) H4 O4 (MoT fp4 tf) := y3.trans x4
    have eD4 := y4.keep Dl _ eD (hnot Dl List.mem_cons_self)
    have oD4 := (y4.own Dl _ eD (hnot Dl List.mem_cons_self)).mpr oD
    have nd4 : ((Dl :: tfs.flatten) ++ tf).Nodup := held_nodup h y4 nd n4
    rw [ZT.app] at h4
    have h5 := h4.updZ (ys := av ++ [z]) eD4 oD4 (.inr (List.mem_append_left _ List.mem_cons_self))
    obtain ⟨fp5, h5, m5⟩ := wipe_ok own h5
    rw [ew] at h5
    have tr4 : Trip (RepO K H4 O4 (n - 1)) acc av tfs := tr.imp fun d v f hf q => y4.repO h.mok (fun a ha => hnot a (List.mem_cons_of_mem _ (List.mem_flatten.mpr ⟨f, hf, ha⟩))) q
    have hl := tr.len.1
    have eapp : Dl :: (tfs ++ [tf]).flatten = (Dl :: tfs.flatten) ++ tf := by simp
    have nDf : ∀ f ∈ tfs, Dl ∉ f := fun f hf z => (List.nodup_cons.mp nd).1 (List.mem_flatten.mpr ⟨f, hf, z⟩)
    have nDt : Dl ∉ tf := fun z => (List.nodup_append.mp nd4).2.2 Dl List.mem_cons_self Dl z rfl
    have xT : Ext ((false || !pureX G xc) || !pureX G xe) H O (MoT fp (Dl :: tfs.flatten)) H4 O4 (MoT fp4 ((Dl :: tfs.flatten) ++ tf)) := ((Ext.refl (b := false)).held y4).weak fun e => by simpa using e
    refine ⟨av, eD4, ?_, O4, _, fp5, acc ++ [d'], av ++ [z], tfs ++ [tf], rest1, rest2, rE, ?_, ?_, ?_, ?_, upd_same, oD4, ?_, em1, ct, ?_⟩
    · have := congrArg List.length ex
      simp only [Option.toList, List.length_append, List.length_cons, List.length_nil] at this
      exact lim_sz (by omega)
    · rw [eapp]; exact h5
    · rw [eapp]; exact nd4
    · rw [eapp]
      refine (((x0.trans xT).updNew (xs := av) hD).lessT m5).weak fun e => ?_
      cases B with
      | true => rfl
      | false =>
        refine hB ?_
        simpa only [Bool.false_or] using e
    · rw [eapp]
      exact hY1 (hY2 (hY1 y0 xT)) ((Ext.refl (b := false)).lessT m5)
    · exact Trip.app1 (tr4.imp fun d v f hf q => q.updD eD4 oD4 (nDf f hf)) (w4.updD eD4 oD4 nDt)
    · rw [← ex]; simp
end
end VL
/-! VL: comprehensions of two clauses, read. -/
namespace VL
open PySem PySem.Spec PyProof.Rows L2
section
variable {K : PySem.W.Frag} {pv : Nat → Option V} {H H' H1 H2 : Hp} {O O' O1 O2 M M' M1 M2 Z Z' Z2 : Addr → Prop} {s s2 : L2.St} {r r' r2 : Env} {fp fp' fp2 : Fp} {b b2 : Bool}
def turn2 (G : Str → Option Fd) (n m : Nat) (xe : Ex) (t : Tg) (xc xi1 : Ex) (t1 : Tg) (xc1 : Ex) (own own1 : List Nat) (d : D) (s : Env) : R (List D × Env) :=
  bindT m t d s >>= fun s => ev G xc s >>= fun k => truth k.1.d >>= fun b => match b with
    | true => evI G xi1 (lockE (rootsX xi1) k.2) >>= fun p1 => mapL (turnF G n p1.1.1 xe t1 xc1 own1) p1.1.2 (wipeS own1 p1.2) >>= fun q1 =>
        .ok (q1.1, wipeS own (unl (rootsX xi1) (fun j => own1.contains j) k.2 q1.2))
    | false => .ok ([], wipeS own k.2)
/-- the list at Dl grows, the outer clause's turns -/
def LcO (K : PySem.W.Frag) (pv : Nat → Option V) (s : L2.St) (vs : List Nat) (H1 : Hp) (O1 M1 Z : Addr → Prop) (B : Bool) (n : Nat) (Dl : Addr) (F : D → Env → R (List D × Env)) (ds xs : List D) (rE : Env) (i : Nat) (H : Hp) : Prop :=
  ∃ O r fp acc av tfs rest, StOk K pv H O (ZT Z (Dl :: tfs.flatten)) (wipe s vs) r fp ∧ (Dl :: tfs.flatten).Nodup ∧ Ext B H1 O1 M1 H O (MoT fp (Dl :: tfs.flatten)) ∧ H Dl = some (.lst av) ∧ O Dl ∧ Trip (RepO K H O (n - 1)) acc av tfs ∧
    catL F (ds.drop i) r = .ok (rest, rE) ∧ acc ++ rest = xs
theorem wipe_sub {s : L2.St} {own own1 : List Nat} (h : ∀ i ∈ own1, i ∈ own) : wipe (wipe s own1) own = wipe s own := by
  refine wipe_eq (wipe_length _ _) fun i hi => ?_
  rw [wipe_at, wipe_at, if_neg hi, if_neg fun q => hi (h i q)]
theorem mok_T {n : Nat} {Dl : Addr} {acc : List D} {av : List V} {tfs : List (List Addr)} (h : StOk K pv H O Z s r fp) (eD : H Dl = some (.lst av)) (oD : O Dl) (tr : Trip (RepO K H O n) acc av tfs) : MOk H O (MoT fp (Dl :: tfs.flatten)) := by
  intro a q
  rcases q with q | q
  · exact h.mok a q
  · rcases List.mem_cons.mp q with rfl | q
    · exact ⟨oD, av, eD⟩
    · obtain ⟨f, hf, ha⟩ := List.mem_flatten.mp q
      obtain ⟨d, v, w⟩ := tr.mem3 hf
      exact w.has' a ha
theorem Ext.updM {o : HO} {Dl : Addr} (x : Ext true H1 O1 M1 H O M) (hD : M1 Dl) : Ext true H1 O1 M1 (L2.upd H Dl o) O M := by
  refine ⟨fun a u e m => ?_, x.own, fun a u e => ?_, x.sub, fun e => by cases e⟩
  · rw [upd_ne fun z => m (by rw [z]; exact hD)]; exact x.keep a u e m
  · by_cases ha : a = Dl
    · subst ha; exact ⟨_, upd_same⟩
    · rw [upd_ne ha]; exact x.live a u e
theorem lo_turn {G : Str → Option Fd} {n m i : Nat} {xe xc xi1 xc1 : Ex} {t t1 : Tg} {own own1 : List Nat} {Dl : Addr} {ds xs : List D} {rE : Env} {x : V} {S1 : Addr → Prop} {d : D} {B : Bool} (ho : ∀ i, tgHas i t = true → i ∈ own) (ho1 : ∀ i, tgHas i t1 = true → i ∈ own1)
    (hsub : ∀ i ∈ own1, i ∈ own) (hrt : ∀ j, (rootsX xi1).contains j = true → own1.contains j = false)
    (hS : ∀ a, S1 a → (∃ o, H1 a = some o) ∧ ¬ M1 a ∧ ¬ Z a) (hB : (!pureX G xc || (!pureX G xi1 || (!pureX G xc1 || !pureX G xe))) = true → B = true) (hD : H1 Dl = none) (hz : xs.length < lim)
    (I : LcO K pv s own H1 O1 M1 Z B n Dl (turn2 G n m xe t xc xi1 t1 xc1 own own1) ds xs rE i H) (hd : ds[i]? = some d) (y : ∀ O M, Ext B H1 O1 M1 H O M → YdOk K t H H' O S1 m d x) :
    tG K pv t x (wipe s own) H' fun σ2 H2 => wipe σ2 own = wipe s own ∧ tVT K pv (!pureX G xc) (tstF G xc) σ2 H2 fun b H3 =>
      if b = true then tI K pv (!pureX G xi1) t1 (evI G xi1) σ2 H3 fun J1 H4 => ∃ W1 : Nat → Nat → Hp → Prop, (∃ m, W1 0 m H4) ∧ ∀ j k H, W1 j k H →
        (J1.stop j H ∧ LcO K pv s own H1 O1 M1 Z B n Dl (turn2 G n m xe t xc xi1 t1 xc1 own own1) ds xs rE (i + 1) H) ∨ (J1.go j H ∧ ∃ Nx1 : Hp → Prop, (∀ H', Nx1 H' → ∃ k', k' < k ∧ W1 (j + 1) k' H') ∧ ∀ x H', J1.yld j H x H' → tG K pv t1 x (wipe σ2 own1) H' fun σ3 H5 => wipe σ3 own1 = wipe σ2 own1 ∧ tVT K pv (!pureX G xc1) (tstF G xc1) σ3 H5 fun b H6 =>
          if b = true then tD K pv (!pureX G xe) (n - 1) (tk (n - 1) xe (ev G xe)) σ3 H6 fun y H7 => ∃ acc, H7 Dl = some (.lst acc) ∧ acc.length < sizeLine ∧ Nx1 (L2.upd H7 Dl (.lst (acc ++ [y]))) else Nx1 H6)
      else LcO K pv s own H1 O1 M1 Z B n Dl (turn2 G n m xe t xc xi1 t1 xc1 own own1) ds xs rE (i + 1) H3 := by
  obtain ⟨O, r, fp, acc, av, tfs, rest, h, nd, x0, eD, oD, tr, em, ex⟩ := I
  obtain ⟨o, r1, rest1, ef, em1, er⟩ := catL_at hd em
  subst er
  unfold turn2 at ef
  obtain ⟨rb, eb, ef⟩ := bind_ok_iff.mp ef
  obtain ⟨⟨vc, rc⟩, ec, ef⟩ := bind_ok_iff.mp ef
  obtain ⟨k, ek, ef⟩ := bind_ok_iff.mp ef
  dsimp only at ef ek
  obtain ⟨h1, x1, y1⟩ := yd_ok h (y O _ x0) fun a q z => by
    obtain ⟨⟨o, eo⟩, n1, n2⟩ := hS a q
    rcases z with z | z | z
    · rcases x0.sub a (.inl z) with w | w
      · exact n1 w
      · rw [eo] at w; cases w
    · exact n2 z
    · rcases x0.sub a (.inr z) with w | w
      · exact n1 w
      · rw [eo] at w; cases w
  refine ⟨O, _, r, fp, m, d, rb, h1, eb, y1, fun σ2 fpb hb mb sb => ?_⟩
  have ew := wipe_bound ho h1 eb hb sb
  refine ⟨ew, O, _, rb, fpb, k, rc, hb, ?_, fun H3 O3 fp3 h3 x3 => ?_⟩
  · show (ev G xc rb >>= fun p => truth p.1.d >>= fun b => .ok (fzB b, p.2)) = _
    rw [ec]
    show (truth vc.d >>= fun b => Except.ok (fzB b, rc)) = _
    rw [ek]
    rfl
  have y3 : Ext (false || !pureX G xc) H O (Mo fp) H3 O3 (Mo fp3) := (x1.lessM mb).trans x3
  have hnot : ∀ a, a ∈ Dl :: tfs.flatten → ¬ Mo fp a := fun a ha => h.zm a (.inr ha)
  have eD3 := y3.keep Dl _ eD (hnot Dl List.mem_cons_self)
  have oD3 := (y3.own Dl _ eD (hnot Dl List.mem_cons_self)).mpr oD
  have tr3 : Trip (RepO K H3 O3 (n - 1)) acc av tfs := tr.imp fun d v f hf q => y3.repO h.mok (fun a ha => hnot a (List.mem_cons_of_mem _ (List.mem_flatten.mpr ⟨f, hf, ha⟩))) q
  have x03 : Ext (B || (false || !pureX G xc)) H1 O1 M1 H3 O3 (MoT fp3 (Dl :: tfs.flatten)) := x0.held0 y3
  cases k with
  | false =>
    simp only [Bool.false_eq_true, if_false]
    dsimp only at ef
    cases ef
    obtain ⟨fp5, h5, m5⟩ := wipe_ok own h3
    rw [ew] at h5
    refine ⟨O3, _, fp5, acc, av, tfs, rest1, h5, nd, (x03.lessT m5).weak fun e => ?_, eD3, oD3, tr3, em1, by rw [← ex]; rfl⟩
    cases B with
    | true => rfl
    | false =>
      refine hB ?_
      simp only [Bool.false_or] at e
      rw [e]; rfl
  | true =>
    simp only [if_true]
    dsimp only at ef
    obtain ⟨⟨⟨m1, ds1⟩, p2⟩, ei, ef⟩ := bind_ok_iff.mp ef
    obtain ⟨⟨xs1, rE1⟩, em2, ef⟩ := bind_ok_iff.mp ef
    cases ef
    dsimp only at em1 em2 ex
    refine ⟨O3, _, _, _, (m1, ds1), p2, h3.lock (rootsX xi1), ei, fun J1 H4 O4 fp4 h4 x4 wk => ?_⟩
    have hnL : ∀ a, Mo (lkFp (rootsX xi1) rc fp3) a → Mo fp3 a := fun a q => by
      obtain ⟨j, h1, _⟩ := mo_lkFp q
      exact ⟨j, h1⟩
    have hnot3 : ∀ a, a ∈ Dl :: tfs.flatten → ¬ Mo (lkFp (rootsX xi1) rc fp3) a := fun a ha q => h3.zm a (.inr ha) (hnL a q)
    have eD4 := x4.keep Dl _ eD3 (hnot3 Dl List.mem_cons_self)
    have oD4 := (x4.own Dl _ eD3 (hnot3 Dl List.mem_cons_self)).mpr oD3
    have mok3 := h3.mok
    have mokL : MOk H3 O3 (Mo (lkFp (rootsX xi1) rc fp3)) := fun a q => mok3 a (hnL a q)
    have tr4 : Trip (RepO K H4 O4 (n - 1)) acc av tfs := tr3.imp fun d v f hf q => x4.repO mokL (fun a ha => hnot3 a (List.mem_cons_of_mem _ (List.mem_flatten.mpr ⟨f, hf, ha⟩))) q
    have mok4 := mok_T h4 eD4 oD4 tr4
    have wk := wk (MoT fp4 (Dl :: tfs.flatten)) mok4 fun a q => q.elim .inl fun q => .inr (.inr q)
    have x34 : Ext (false || !pureX G xi1) H3 O3 (MoT (lkFp (rootsX xi1) rc fp3) (Dl :: tfs.flatten)) H4 O4 (MoT fp4 (Dl :: tfs.flatten)) := (Ext.refl (b := false)).held0 x4
    let Y : Hp → (Addr → Prop) → (Addr → Prop) → Prop := fun H O M => Ext true H4 O4 (MoT fp4 (Dl :: tfs.flatten)) H O M
    let Ct : Env → List D → Prop := fun e l => catL (turn2 G n m xe t xc xi1 t1 xc1 own own1) (ds.drop (i + 1)) (wipeS own (unl (rootsX xi1) (fun j => own1.contains j) rc e)) = .ok (l, rE)
    have xT : Ext ((B || (false || !pureX G xc)) || (false || !pureX G xi1)) H1 O1 M1 H4 O4 (MoT fp4 (Dl :: tfs.flatten)) := (x03.lessT hnL).trans x34
    refine ⟨fun j k H => k = ds1.length - j ∧ j ≤ ds1.length ∧ LcG K pv σ2 own1 H1 O1 M1 Z B n Dl Y (turnF G n m1 xe t1 xc1 own1) ds1 Ct xs j H, ⟨_, rfl, Nat.zero_le _, ?_⟩, ?_⟩
    · obtain ⟨fp5, h5, m5⟩ := wipe_ok own1 h4
      refine ⟨O4, _, fp5, acc, av, tfs, xs1, rest1, rE1, h5, nd, (xT.lessT m5).weak fun e => ?_, (Ext.refl (b := true)).lessT m5, eD4, oD4, tr4, by rw [List.drop_zero]; exact em2, em1, ex⟩
      cases B with
      | true => rfl
      | false =>
        refine hB ?_
        revert e
        cases pureX G xc <;> cases pureX G xi1 <;> simp
    · rintro j k H5 ⟨rfl, hj, I⟩
      by_cases hlt : j < ds1.length
      · obtain ⟨O6, _, fp6, _, _, tfs6, _, _, _, _, _, _, x6, _⟩ := id I
        have hd1 : ds1[j]? = some ds1[j] := List.getElem?_eq_getElem hlt
        refine .inr ⟨(wk _ _ _ _ x6).1 j hlt, LcG K pv σ2 own1 H1 O1 M1 Z B n Dl Y (turnF G n m1 xe t1 xc1 own1) ds1 Ct xs (j + 1), fun H' I' => ⟨ds1.length - (j + 1), by omega, rfl, hlt, I'⟩, fun x H' y => ?_⟩
        refine lg_turn ho1 (S1 := fun a => (¬ (Mo fp4 a ∨ ZT Z (Dl :: tfs.flatten) a)) ∧ ∃ o, H4 a = some o) (fun y0 z => Ext.weak (Ext.trans y0 z) fun _ => rfl) (fun y0 => Ext.updM y0 (.inr List.mem_cons_self)) (fun fp T O y0 a q z => ?_) (fun e => hB ?_) hD hz I hd1 fun O7 M7 x7 => (wk _ _ _ _ x7).2.2 j _ x H' hd1 y
        · obtain ⟨n1, o, eo⟩ := q
          have w : MoT fp4 (Dl :: tfs.flatten) a ∨ Z a ∨ H4 a = none := by
            rcases z with z | z | z
            · exact (y0.sub a (.inl z)).imp id .inr
            · exact .inr (.inl z)
            · exact (y0.sub a (.inr z)).imp id .inr
          rcases w with w | w | w
          · exact n1 (w.imp id .inr)
          · exact n1 (.inr (.inl w))
          · rw [eo] at w; cases w
        · rw [e]; cases pureX G xc <;> cases pureX G xi1 <;> rfl
      · have ej : j = ds1.length := by omega
        subst ej
        obtain ⟨O6, r6, fp6, acc6, av6, tfs6, rest6, rest2, rE6, h6, nd6, x06, y6, eD6, oD6, tr6, em6, ct, ex6⟩ := I
        refine .inl ⟨(wk _ _ _ _ y6).2.1 _ (Nat.le_refl _), ?_⟩
        rw [List.drop_length] at em6
        unfold mapL at em6
        cases em6
        rw [List.nil_append] at ex6
        have x36 := x34.trans y6
        have mokT3 : MOk H3 O3 (MoT (lkFp (rootsX xi1) rc fp3) (Dl :: tfs.flatten)) := fun a q => mok_T h3 eD3 oD3 tr3 a (q.imp (hnL a) id)
        obtain ⟨fp7, h7, m7⟩ := unl_okM (is := rootsX xi1) (st := fun j => own1.contains j) h3 h6 x36 mokT3 (fun a q => q.imp id .inr) (fun a q => .inl q) (fun a q => by
          rcases q with q | q
          · exact .inl (.inl q)
          · rcases x36.sub a (.inr q) with w | w
            · exact w.elim (fun w => .inr (.inl w)) fun w => .inl (.inr w)
            · exact .inr (.inr w)) (fun j hj => by rw [wipe_at, if_neg fun q => by simp [q] at hj]) hrt (wipe_length _ _)
        obtain ⟨fp8, h8, m8⟩ := wipe_ok own h7
        rw [wipe_sub hsub, ew] at h8
        refine ⟨O6, _, fp8, acc6, av6, tfs6, rest2, h8, nd6, ⟨x06.keep, x06.own, x06.live, fun a q => ?_, x06.same⟩, eD6, oD6, tr6, ct, ex6⟩
        rcases q with q | q
        · rcases m7 a (m8 a q) with q | q
          · exact x06.sub a (.inl q)
          · exact x03.sub a (.inl q)
        · exact x06.sub a (.inr q)
theorem lc2_read {G : Str → Option Fd} {n : Nat} {xe xi xc xi1 xc1 : Ex} {t t1 : Tg} {own own1 : List Nat} {Q : VK} (ho : ∀ i, tgHas i t = true → i ∈ own) (ho1 : ∀ i, tgHas i t1 = true → i ∈ own1)
    (hsub : ∀ i ∈ own1, i ∈ own) (hrt : ∀ j, (rootsX xi1).contains j = true → own1.contains j = false) (q : tV K pv (!pureX G (.comp2 n xe t xi xc t1 xi1 xc1 own own1)) (ev G (.comp2 n xe t xi xc t1 xi1 xc1 own own1)) s H Q) :
    tLc2 (tI K pv (!pureX G xi) t (evI G xi)) (tG K pv t) (tVT K pv (!pureX G xc) (tstF G xc)) (tI K pv (!pureX G xi1) t1 (evI G xi1)) (tG K pv t1) (tVT K pv (!pureX G xc1) (tstF G xc1)) (tD K pv (!pureX G xe) (n - 1) (tk (n - 1) xe (ev G xe))) own own1 s H Q := by
  obtain ⟨O, Z, r, fp, v, r', h, e, q⟩ := q
  simp only [ev] at e
  split at e
  · cases e
  · rename_i hn
    obtain ⟨⟨⟨m, ds⟩, p2⟩, e1, e⟩ := bind_ok_iff.mp e
    obtain ⟨⟨xs, rE⟩, e2, e⟩ := bind_ok_iff.mp e
    obtain ⟨xs', e3, e⟩ := bind_ok_iff.mp e
    dsimp only at e e2 e3
    unfold lenOk at e3
    split at e3
    · rename_i hz
      cases e3
      cases e
      refine ⟨O, Z, _, _, (m, ds), p2, h.lock (rootsX xi), e1, fun J H1 O1 fp1 h1 x1 wk D hD => ?_⟩
      have e2 : catL (turn2 G n m xe t xc xi1 t1 xc1 own own1) ds (wipeS own p2) = .ok (xs, rE) := e2
      have wk := wk _ h1.mok fun a q => .inl q
      let S1 : Addr → Prop := fun a => (¬ (Mo fp1 a ∨ Z a)) ∧ ∃ o, H1 a = some o
      let B := !pureX G (.comp2 n xe t xi xc t1 xi1 xc1 own own1)
      have hB : (!pureX G xc || (!pureX G xi1 || (!pureX G xc1 || !pureX G xe))) = true → B = true := by
        show _ → (!pureX G (.comp2 n xe t xi xc t1 xi1 xc1 own own1)) = true
        simp only [pureX]
        cases pureX G xc <;> cases pureX G xi1 <;> cases pureX G xc1 <;> cases pureX G xe <;> cases pureX G xi <;> decide
      have hBi : (!pureX G xi) = true → B = true := by
        show _ → (!pureX G (.comp2 n xe t xi xc t1 xi1 xc1 own own1)) = true
        simp only [pureX]
        cases pureX G xc <;> cases pureX G xi1 <;> cases pureX G xc1 <;> cases pureX G xe <;> cases pureX G xi <;> decide
      let F := turn2 G n m xe t xc xi1 t1 xc1 own own1
      refine ⟨fun i k H => k = ds.length - i ∧ i ≤ ds.length ∧ LcO K pv s own H1 O1 (Mo fp1) Z B n D F ds xs rE i H, ⟨_, rfl, Nat.zero_le _, ?_⟩, ?_⟩
      · have h2 := h1.newZ (o := .lst []) (O' := fun a => O1 a ∨ a = D) (Z' := ZT Z [D]) hD (fun a na => ⟨fun q => q.elim id fun e => absurd e na, .inl⟩) fun a z => z.imp id List.mem_singleton.mp
        obtain ⟨fp3, h3, m3⟩ := wipe_ok own h2
        refine ⟨fun a => O1 a ∨ a = D, _, fp3, [], [], [], xs, h3, List.nodup_cons.mpr ⟨List.not_mem_nil, List.nodup_nil⟩, ?_, upd_same, .inr rfl, .nil, by rw [List.drop_zero]; exact e2, rfl⟩
        refine Ext.lessT (fp := fp1) (Ext.new hD (fun a na => ⟨fun q => q.elim id fun e => absurd e na, .inl⟩) fun a q => q.imp id fun q => List.mem_singleton.mp q) m3
      · rintro i k H2 ⟨rfl, hi, I⟩
        by_cases hlt : i < ds.length
        · obtain ⟨O2, _, fp2, _, _, _, _, _, _, x2, _⟩ := id I
          have hd : ds[i]? = some ds[i] := List.getElem?_eq_getElem hlt
          refine .inr ⟨(wk _ _ _ _ x2).1 i hlt, LcO K pv s own H1 O1 (Mo fp1) Z B n D F ds xs rE (i + 1), fun H' I' => ⟨ds.length - (i + 1), by omega, rfl, hlt, I'⟩, fun x H' y => ?_⟩
          refine lo_turn ho ho1 hsub hrt (S1 := S1) (fun a q => ⟨q.2, fun z => q.1 (.inl z), fun z => q.1 (.inr z)⟩) hB hD hz I hd fun O3 M3 x3 => (wk _ _ _ _ x3).2.2 i _ x H' hd y
        · have ei : i = ds.length := by omega
          subst ei
          obtain ⟨O2, r2, fp2, acc, av, tfs, rest, h2, nd, x2, eD, oD, tr, em, ex⟩ := I
          refine .inl ⟨(wk _ _ _ _ x2).2.1 _ (Nat.le_refl _), ?_⟩
          rw [List.drop_length] at em
          unfold catL at em
          cases em
          rw [List.append_nil] at ex
          rw [ex] at tr
          have h3 := back_ok h1 h2 x2
          have x3 := x1.trans x2
          obtain ⟨fp4, h4, m4⟩ := unl_ok (is := rootsX xi) (st := fun _ => false) (s2 := s) h h3 (x3.less fun a q => .inl q) (fun a z => by
            rcases z with z | z
            · exact .inl z
            · exact .inr (x3.sub a (.inr z))) (fun _ _ => rfl) (fun _ _ => rfl) rfl
          refine q (.ref D) H2 O2 fp4 (D :: tfs.flatten) h4 ((unl_ext x3 m4).weak fun e => ?_) ⟨?_, nd⟩
          · rw [Bool.or_eq_true] at e
            exact e.elim hBi fun e => e
          · show RepO K H2 O2 n (.list xs) (.ref D) (D :: tfs.flatten)
            obtain ⟨n', rfl⟩ : ∃ n', n = n' + 1 := ⟨n - 1, by omega⟩
            unfold RepO
            exact ⟨D, av, tfs, rfl, eD, oD, rfl, tr⟩
    · cases e3
end
section
variable {X : Cx} {c : Cc}
def notSetE (e : Expr) : Prop := ∀ env x, foldedSetIterable e env x = pure x
def apartN (a b : List Nat) : Bool := a.all fun j => !b.contains j
theorem apartN_ok {a b : List Nat} (h : apartN a b = true) : ∀ j, a.contains j = true → b.contains j = false := fun j hj => by
  have := List.all_eq_true.mp h j (by simpa using hj)
  simpa using this
def subN (a b : List Nat) : Bool := a.all fun j => b.contains j
theorem subN_ok {a b : List Nat} (h : subN a b = true) : ∀ i ∈ a, i ∈ b := fun i hi => by
  have := List.all_eq_true.mp h i hi
  simpa using this
theorem ve_comp2 (hX : XOk X c) {elt tg iter tg1 iter1 : Expr} {ifs ifs1 : List Expr} {scope : Scope} {own : List (Str × Nat)} {own1 : List Nat} {pos : Pos} {n : Nat} {xe xi xc xi1 xc1 : Ex} {t t1 : Tg} (hi : VI X c tg iter xi t) (hb : blkC c.N c.sc scope own = true) (ht : tgIn (own.map (·.2)) t = true)
    (ht1 : tgIn own1 t1 = true) (hs2 : subN own1 (own.map (·.2)) = true) (hr : apartN (rootsX xi1) own1 = true)
    (hg : ∀ X', XOk X' (c.blk scope) → VG X' (c.blk scope) tg t) (hc : ∀ X', XOk X' (c.blk scope) → VTs X' (c.blk scope) ifs xc)
    (hi1 : ∀ X', XOk X' (c.blk scope) → VI X' (c.blk scope) tg1 iter1 xi1 t1) (hg1 : ∀ X', XOk X' (c.blk scope) → VG X' (c.blk scope) tg1 t1) (hc1 : ∀ X', XOk X' (c.blk scope) → VTs X' (c.blk scope) ifs1 xc1)
    (he : ∀ X', XOk X' (c.blk scope) → VE X' (c.blk scope) elt xe) (hs : notSetD iter = true) (hs1 : notSetD iter1 = true) :
    VE X c (.ListComp elt [⟨tg, iter, ifs, 0⟩, ⟨tg1, iter1, ifs1, 0⟩] scope pos) (.comp2 n xe t xi xc t1 xi1 xc1 (own.map (·.2)) own1) where
  val := fun pv => PE.imp (pe_lc2 hX.calm hX.nd (hi.it pv) (by rw [hX.N, hX.sc]; exact blkOk_by hb) (subN_ok hs2) (fun s H C cl fp => (hg _ (xok_blk hX s H scope C cl fp)).tgt pv) (fun s H C cl fp => (hc _ (xok_blk hX s H scope C cl fp)).tst pv)
    (fun s H C cl fp => (hi1 _ (xok_blk hX s H scope C cl fp)).it pv) (fun s H C cl fp => (hg1 _ (xok_blk hX s H scope C cl fp)).tgt pv) (fun s H C cl fp => (hc1 _ (xok_blk hX s H scope C cl fp)).tst pv)
    (fun s H C cl fp => (he _ (xok_blk hX s H scope C cl fp)).tk (pv := pv) (n - 1)) (notSet_ok hs _) (fun env x => notSet_ok hs1 env x)) fun s H Q q => lc2_read (tgIn_ok ht) (tgIn_ok ht1) (subN_ok hs2) (apartN_ok hr) q
  var := fun i e => by cases e
/-- name = [.. for .. for ..] on one line -/
theorem vs_setLc2 {rm : Nat} (hX : XOk X c) {i m n : Nat} {y : Str} {py pos spos : Pos} {elt tg iter tg1 iter1 : Expr} {ifs ifs1 : List Expr} {scope : Scope} {own : List (Str × Nat)} {own1 : List Nat} {xe xi xc xi1 xc1 : Ex} {t t1 : Tg} (hy : c.N[i]? = some y) (hyl : c.sc.names.lookup y = some .local) (hk : c.sc.kind = .function) (hl : (py.line == pos.line) = true)
    (hns : (scope.names.any fun (n, k) => n == y && (k == .local || k == .cell)) = false) (hi : VI X c tg iter xi t) (hb : blkC c.N c.sc scope own = true) (ht : tgIn (own.map (·.2)) t = true)
    (ht1 : tgIn own1 t1 = true) (hs2 : subN own1 (own.map (·.2)) = true) (hr : apartN (rootsX xi1) own1 = true)
    (hg : ∀ X', XOk X' (c.blk scope) → VG X' (c.blk scope) tg t) (hc : ∀ X', XOk X' (c.blk scope) → VTs X' (c.blk scope) ifs xc)
    (hi1 : ∀ X', XOk X' (c.blk scope) → VI X' (c.blk scope) tg1 iter1 xi1 t1) (hg1 : ∀ X', XOk X' (c.blk scope) → VG X' (c.blk scope) tg1 t1) (hc1 : ∀ X', XOk X' (c.blk scope) → VTs X' (c.blk scope) ifs1 xc1)
    (he : ∀ X', XOk X' (c.blk scope) → VE X' (c.blk scope) elt xe) (hs : notSetD iter = true) (hs1 : notSetD iter1 = true) :
    VS X c rm (.Assign [.Name y py] (.ListComp elt [⟨tg, iter, ifs, 0⟩, ⟨tg1, iter1, ifs1, 0⟩] scope pos) spos) (.set m (.nm i) (.comp2 n xe t xi xc t1 xi1 xc1 (own.map (·.2)) own1)) := ⟨fun pv => by
  refine PS.imp (ps_setLc2 hX.calm hX.nd (by rw [hX.N]; exact hy) (by rw [hX.sc]; exact hyl) (sw_true (by rw [hX.sc]; exact hk) (by rw [hX.sc]; exact hyl) hl hns) (hi.it pv) (by rw [hX.N, hX.sc]; exact blkOk_by hb) (subN_ok hs2) (fun s H C cl fp => (hg _ (xok_blk hX s H scope C cl fp)).tgt pv) (fun s H C cl fp => (hc _ (xok_blk hX s H scope C cl fp)).tst pv)
    (fun s H C cl fp => (hi1 _ (xok_blk hX s H scope C cl fp)).it pv) (fun s H C cl fp => (hg1 _ (xok_blk hX s H scope C cl fp)).tgt pv) (fun s H C cl fp => (hc1 _ (xok_blk hX s H scope C cl fp)).tst pv)
    (fun s H C cl fp => (he _ (xok_blk hX s H scope C cl fp)).tk (pv := pv) (n - 1)) (notSet_ok hs _) (fun env x => notSet_ok hs1 env x)) fun D s H q => lc2_read (tgIn_ok ht) (tgIn_ok ht1) (subN_ok hs2) (apartN_ok hr) ?_
  obtain ⟨O, Z, r, fp, d, r', h, e, q⟩ := set_read q
  obtain ⟨⟨v, r1⟩, e1, e⟩ := bind_ok_iff.mp e
  obtain ⟨d1, e2, e⟩ := bind_ok_iff.mp e
  cases e
  refine ⟨O, Z, r, fp, v, _, h, e1, fun x H' O' fp' tf h' x' hv => ?_⟩
  obtain ⟨O2, tf2, g1, g2, g3, g4⟩ := at_ok (b := false) hv h' e2
  have y := x'.trans g2
  rw [Bool.or_false] at y
  exact q x H' O2 fp' tf2 g1 y g3 g4⟩
end
end VL
/-! VL: lists from behind. -/
namespace VL
open PySem PySem.Spec PyProof.Rows L2
section
variable {X : Cx} {c : Cc}
/-- x[::-1] of a list -/
theorem ve_rev (hX : XOk X c) {a : Expr} {xa : Ex} {k : Nat} {p1 p2 p3 pos : Pos} (ha : VE X c a xa) : VE X c (.Subscript a (.Slice none none (some (.UnaryOp .USub (.Constant (.int 1) k p1) p2)) p3) pos) (.b1 .rev xa) where
  val := fun pv => PE.imp (pe_revL (PEtR (ha.val pv))) fun s H Q q => by
    obtain ⟨O, Z, r, fp, v, r', h, e, q⟩ := q
    simp only [ev] at e
    obtain ⟨⟨va, r2⟩, e1, e⟩ := bind_ok_iff.mp e
    obtain ⟨d, e2, e⟩ := bind_ok_iff.mp e
    cases e
    refine ⟨O, Z, r, fp, va, r2, h, e1, fun x H' O' fp' h' x' hx => ?_⟩
    obtain ⟨o, n, dd⟩ := va
    simp only [b1D] at e2
    split at e2
    · split at e2
      · rename_i ds hz
        cases e2
        obtain ⟨a, vs, rfl, g1, g2⟩ := hx.items hz
        exact ⟨a, vs, rfl, .inl (.inl g1), fun p hp => made_end q h' x' (fun e => by simpa only [pureX] using e) (Made.lst hp (prev g2))⟩
      · cases e2
    · cases e2
  var := fun i e => by cases e
/-- tuple(reversed(x)), x a list: the new tuple's object is known -/
theorem pe_tupRevN {e : Expr} {te : TE} {p p2 pos pos2 : Pos} (hc : X.calm = true) (hg : Gl X "tuple") (hm : X.mg "tuple" = none) (hg2 : Gl X "reversed") (hm2 : X.mg "reversed" = none) (he : PE X e te)
    (na : starEach [e] X.env = (false, eval e X.env) :: starEach [] X.env) (nr : starEach [.Call (.Name "reversed" p2) [e] [] pos2] X.env = (false, eval (.Call (.Name "reversed" p2) [e] [] pos2) X.env) :: starEach [] X.env) :
    PE X (.Call (.Name "tuple" p) [.Call (.Name "reversed" p2) [e] [] pos2] [] pos) (fun σ H Q => te σ H fun v H1 => ∃ (a : Addr) (xs : List V), v = .ref a ∧ SqL X.K H1 a xs ∧ nTup xs.reverse H1 Q) := ⟨fun pins s σ H Q I h => by
  have inner : ∀ (u : Value) (s1 : Shared), (∃ v H1, L2.Inv X pins σ H1 s1 ∧ RelV v u ∧ ∃ (a : Addr) (xs : List V), v = .ref a ∧ SqL X.K H1 a xs ∧ nTup xs.reverse H1 Q) →
      wpAny (model X.prog X.w) X.A (call (.type "reversed") [u]) (fun z s2 => wpAny (model X.prog X.w) X.A (call (.type "tuple") [z]) (EP X pins σ Q) X.xe s2) X.xe s1 := fun u s1 ⟨v, H1, I1, r1, a, xs, ev, hq, q⟩ => by
    subst ev
    cases r1
    obtain ⟨its, rv, ht, hz⟩ := I1.list hq
    have hl := ht.isList
    refine call_reversed_list hl ?_
    obtain ⟨f0, f1, f2, f3, f4, f5⟩ := I1.fpOk (H' := H1) (b := s1.heap.objs.size) (Nat.le_refl _) (I1.hok.fresh (Nat.le_refl _))
    obtain ⟨ol, hol, _⟩ := id hl
    refine RT.call_tuple_rev (I1.ok.hd hc) ⟨_, Heap.get?_push_size _ rfl, rfl, rfl⟩ (hl.push _) (Nat.ne_of_lt (Heap.lt_size hol)) (by rw [List.size_toArray, ← rv.length]; exact hz) fun h' tk acc hk hi => ?_
    have I3 := (I1.kept (t' := s1.toks) fun b o e => Heap.get?_push_of_some _ e).turned (t' := tk) (fun b o hb e => hk b o hb e) f0 f1 f3 f4 f5
    have w := q.here (s := { s1 with heap := h', toks := tk }) I3 (RT.vals_rev rv hi) (by rw [List.length_reverse]; exact hz)
    unfold tupO at w
    rw [Array.toArray_toList] at w
    exact w
  refine Call_ (ld_blt I hg hm boot_tuple (PyProof.Rows.callWith_type1 (args_cons (Call_ (ld_blt I hg2 hm2 PyProof.Rows.boot_reversed (PyProof.Rows.callWith_type1 (args_cons (thn (he.run pins s σ H _ I h) fun u s1 w => args_nil ?_) na) na rfl))) nr) nr rfl))
  obtain ⟨v, H1, I1, r1, q1⟩ := w
  exact thn (inner u s1 ⟨v, H1, I1, r1, q1⟩) fun z s2 k => args_nil k⟩
theorem ve_trev (hX : XOk X c) {a : Expr} {xa : Ex} {p p2 pos pos2 : Pos} (ht : glN c.sc "tuple" = true) (hr : glN c.sc "reversed" = true) (ha : VE X c a xa) (hn : notStar a = true) : VE X c (.Call (.Name "tuple" p) [.Call (.Name "reversed" p2) [a] [] pos2] [] pos) (.b1 .trev xa) where
  val := fun pv => PE.imp (pe_tupRevN hX.calm (hX.gl ht) (hX.free _ (by decide)) (hX.gl hr) (hX.free _ (by decide)) (PEtR (ha.val pv)) (starEach_cons (es := []) hn) rfl) fun s H Q q => by
    obtain ⟨O, Z, r, fp, v, r', h, e, q⟩ := q
    simp only [ev] at e
    obtain ⟨⟨va, r2⟩, e1, e⟩ := bind_ok_iff.mp e
    obtain ⟨d, e2, e⟩ := bind_ok_iff.mp e
    cases e
    refine ⟨O, Z, r, fp, va, r2, h, e1, fun x H' O' fp' h' x' hx => ?_⟩
    obtain ⟨o, n, dd⟩ := va
    simp only [b1D] at e2
    split at e2
    · split at e2
      · rename_i ds hz
        cases e2
        obtain ⟨a, vs, rfl, g1, g2⟩ := hx.items hz
        exact ⟨a, vs, rfl, .inl (.inl g1), fun p o ho hp => made_end q h' x' (fun e => by simpa only [pureX] using e) (Made.tup ho hp (prev g2))⟩
      · cases e2
    · cases e2
  var := fun i e => by cases e
end
end VL
/-! VL: insert. -/
namespace VL
open PySem PySem.Spec PyProof.Rows L2
section
variable {X : Cx} {c : Cc}
theorem few2 {k e : Expr} {env : PySem.Env} {cpos : Pos} (hk : notStar k = true) (hn : notStar e = true) : ((backTo cpos (starEach [k, e] env)).all (fun x => !x.1) && (backToKw cpos (keywordEach [] env)).all (fun x => x.1.isSome) && decide ([k, e].length + ([] : List Keyword).length + (if ([] : List Keyword).isEmpty then 0 else 1) < 30)) = true := by
  rw [starEach_cons hk, starEach_cons hn]
  rfl
theorem ins_perm {A : Type} (a t b : List A) : (a ++ (t ++ b)).Perm ((a ++ b) ++ t) := by
  rw [List.append_assoc]
  exact List.Perm.append_left a List.perm_append_comm
theorem ins_flat {fs : List (List Addr)} {tf : List Addr} {j : Nat} : ((fs.take j ++ [tf]) ++ fs.drop j).flatten.Perm (fs.flatten ++ tf) := by
  have e : fs.flatten = (fs.take j).flatten ++ (fs.drop j).flatten := by rw [← List.flatten_append, List.take_append_drop]
  rw [e]
  simp only [List.flatten_append, List.flatten_cons, List.flatten_nil, List.append_nil, List.append_assoc]
  have := ins_perm (fs.take j).flatten tf (fs.drop j).flatten
  rwa [List.append_assoc] at this
theorem ve_ins {o k e : Expr} {i : Nat} {xp xk xe : Ex} {apos cpos : Pos} (ho : VO X c o i xp) (hk : VE X c k xk) (he : VE X c e xe) (hm : notStar k = true) (hn : notStar e = true) (hbase : attributeBase o "insert" X.env (eval o X.env) = eval o X.env) (hline : (apos.endLine == cpos.line) = true) :
    VE X c (.Call (.Attribute o "insert" apos) [k, e] [] cpos) (.ins i xp xk xe) where
  val := fun pv => by
    refine PE.imp (pe_bm PySem.F.plainAttrs_list PySem.F.slot_list_insert rfl mt_insert (ho.obj pv) (pa_cons (PEtR (hk.val pv)) (pa_cons (PE.ex fun m => he.tk (pv := pv) m) pa_nil (starEach_cons (es := []) (env := X.env) hn)) (starEach_cons (es := [e]) (env := X.env) hm)) hbase (few2 hm hn) hline (starEach_cons hm) (by rw [starEach_cons hn]; rfl)) fun s H Q q => ?_
    obtain ⟨O, Z, r, fp, v, r', h, e, q⟩ := q
    unfold ev at e
    obtain ⟨v0, e0, e⟩ := bind_ok_iff.mp e
    obtain ⟨⟨a, r1⟩, e1, e⟩ := bind_ok_iff.mp e
    obtain ⟨m, e2, e⟩ := bind_ok_iff.mp e
    dsimp only at e e2
    split at e
    · rename_i hc
      obtain ⟨⟨kv, r2⟩, ek, e⟩ := bind_ok_iff.mp e
      obtain ⟨n, en, e⟩ := bind_ok_iff.mp e
      obtain ⟨⟨d, r3⟩, e3, e⟩ := bind_ok_iff.mp e
      obtain ⟨m', e4, e⟩ := bind_ok_iff.mp e
      dsimp only at e e3 e4
      split at e
      · rename_i em
        rw [em] at e4
        obtain ⟨⟨rd, r4⟩, e5, e6⟩ := bind_ok_iff.mp e
        injection e6 with e6
        injection e6 with ea eb
        subst ea eb
        have e1' : evP c.G xp r = .ok (a, r1) := e1
        have hcp : a = none ∨ (pureX c.G xe && pureX c.G xk) = true := by
          rw [Bool.or_eq_true] at hc
          rcases hc with hc | hc
          · cases xp <;> first | (cases e1'; exact .inl rfl) | cases hc
          · exact .inr hc
        refine ⟨O, Z, r, fp, v0, a, r1, _, h, e0, e1', e2, fun v b vs H1 O1 fp1 h1 x1 es hp hb => ⟨.inl ⟨rfl, vs, .inl (.inl hb)⟩, O1, Z, r1, fp1, kv, r2, h1, ek, fun z H2 O2 fp2 h2 x2 hz => ⟨m, O2, Z, r2, fp2, d, r3, h2, e3, fun y H3 O3 fp3 tf h3 x3 w n3 => ?_⟩⟩⟩
        have hZt := ze_tf h2 x3
        obtain ⟨v', b', us, fs, mm, xs, xs', g1, g2, g3, g4, g5, g6, g7, g8, g9⟩ := mut_ok h3 hZt e5
        rw [es] at g1
        cases g1
        have eb : b = b' := path_same (hcp.imp (fun q => q) fun q => by
          rw [Bool.and_eq_true] at q
          exact (x2.trans x3).same (by rw [q.1, q.2]; rfl)) hp g2
        subst eb
        rw [e4] at g7
        cases g7
        unfold insL at g8
        split at g8
        · rename_i hl
          obtain ⟨hl0, hl1, hl2⟩ := hl
          cases g8
          have dis : ∀ c ∈ b :: fs.flatten, c ∉ tf := fun c hc z => h3.zm c (.inr z) (g6 c hc)
          have hp := ins_flat (fs := fs) (tf := tf) (j := n.toNat)
          obtain ⟨fp4, h4, x4⟩ := g9 ((us.take n.toNat ++ [y]) ++ us.drop n.toNat) ((fs.take n.toNat ++ [tf]) ++ fs.drop n.toNat) [] (((g4.take n.toNat).app1 w).app (g4.drop n.toNat)) (by
            rw [(List.Perm.cons b hp).nodup_iff, ← List.cons_append, List.nodup_append]
            exact ⟨g5, n3, fun c h1 c' h2 e => by subst e; exact dis c h1 h2⟩) (fun c hc => by rw [hp.mem_iff, List.mem_append] at hc; exact hc) (fun c hc => by cases hc)
          have ul : us.length = xs.length := g4.len.1.symm
          refine ⟨b, us, n, y, rfl, by rw [hz.ii en], g3, by rw [ul]; exact lim_sz hl2, hl0, ?_, q .non _ O3 fp4 [] h4 ((((x1.trans x2).trans x3).trans x4).weak fun _ => rfl) (.fz RepF.mkN)⟩
          rw [lim_eq, sizeLine_eq] at hl2
          omega
        · cases g8
      · cases e
    · cases e
  var := fun i e => by cases e
end
end VL
/-! VL: the checker: is a term the compiled form of an expression? -/
namespace VL
open PySem PySem.Spec PyProof.Rows L2
structure Ck where
  N : List Str
  sc : Scope
  fn : Str → Bool
  S : Str → Option Sg
def Ck.cc (k : Ck) (G : Str → Option Fd) : Cc := ⟨k.N, k.sc, k.fn, G⟩
def Ck.blk (k : Ck) (scope : Scope) : Ck := { k with sc := relS scope k.sc, fn := fun x => scope.names.lookup x == some .cell }
inductive Md | E | T | WA | WO | LA | LO | S | K | I (t : Tg)
inductive VEl (X : Cx) (c : Cc) : List Expr → Ex → Prop
  | nil : VEl X c [] .nil
  | cons {e es x xs} : VE X c e x → notStar e = true → VEl X c es xs → VEl X c (e :: es) (.cons x xs)
theorem VEl.ves {X : Cx} {c : Cc} {es : List Expr} {x : Ex} (h : VEl X c es x) : VEs X c es x := by
  induction h with
  | nil => exact ves_nil
  | cons h1 h2 _ ih => exact ves_cons h1 ih h2
theorem VEl.stars {X : Cx} {c : Cc} {es : List Expr} {x : Ex} (h : VEl X c es x) : noStars es = true := by
  induction h with
  | nil => rfl
  | cons h1 h2 _ ih =>
    unfold noStars at ih ⊢
    rw [List.all_cons, h2, ih]
    rfl
theorem VEl.vag {X : Cx} {c : Cc} {es : List Expr} {x : Ex} (h : VEl X c es x) : ∀ {pm : List Pm}, pm.length = es.length → VAg X c pm es x := by
  induction h with
  | nil =>
    intro pm hl
    cases pm with
    | nil => exact vag_nil
    | cons _ _ => cases hl
  | cons h1 h2 _ ih =>
    intro pm hl
    cases pm with
    | nil => cases hl
    | cons p pm => exact vag_cons h1 (ih (by simpa using hl)) h2
def Snd (m : Md) (k : Ck) (x : Ex) (es : List Expr) : Prop := ∀ G, (∀ f g, G f = some g → k.S f = some g.sg) → ∀ X, XOk X (k.cc G) → match m with
  | .E => ∀ e, es = [e] → VE X (k.cc G) e x
  | .T => ∀ e, es = [e] → VT X (k.cc G) e x
  | .WA => ∀ pos, VW X (k.cc G) .And es pos x
  | .WO => ∀ pos, VW X (k.cc G) .Or es pos x
  | .LA => ∀ pos, VL2 X (k.cc G) .And es pos x
  | .LO => ∀ pos, VL2 X (k.cc G) .Or es pos x
  | .S => VEl X (k.cc G) es x
  | .K => ∀ e, es = [e] → VK' X (k.cc G) e x
  | .I t => ∀ tg e, es = [tg, e] → VI X (k.cc G) tg e x t
abbrev Fk := Md → Ck → Ex → List Expr → Bool
def visN (k : Ck) (i : Nat) (y : Str) : Bool := decide (k.N[i]? = some y) && (match k.sc.names.lookup y with | some .local => true | some .cell => true | some .free => true | _ => false) && nameOk y
theorem visN_ok {k : Ck} {G : Str → Option Fd} {X : Cx} (hX : XOk X (k.cc G)) {i : Nat} {y : Str} {p : Pos} (h : visN k i y = true) : VE X (k.cc G) (.Name y p) (.v i) := by
  unfold visN nameOk at h
  simp only [Bool.and_eq_true, decide_eq_true_eq, Bool.not_eq_true'] at h
  obtain ⟨⟨h1, h2⟩, ⟨h3, h4⟩, h5⟩ := h
  refine ve_var (pe_var (by rw [hX.N]; exact h1) ?_ h3 h5)
  unfold L2.Vis
  rw [hX.sc]
  show k.sc.names.lookup y = _ ∨ k.sc.names.lookup y = _ ∨ k.sc.names.lookup y = _
  split at h2
  · exact .inl (by assumption)
  · exact .inr (.inl (by assumption))
  · exact .inr (.inr (by assumption))
  · cases h2
theorem plainI_ok {e : Expr} (h : plainI e = true) : PlainIx e := by
  intro o i
  cases e <;> first | rfl | cases h
def noCall : Expr → Bool
  | .Call _ _ _ _ => false
  | _ => true
theorem noCall_ok {e : Expr} (h : noCall e = true) (m : Str) (env : PySem.Env) : attributeBase e m env (eval e env) = eval e env := by
  cases e <;> first | rfl | cases h
def valT : Expr → Bool
  | .UnaryOp o _ _ => decide (o ≠ .Not)
  | .BoolOp _ _ _ => false
  | .IfExp _ _ _ _ => false
  | .Compare _ _ _ _ => false
  | _ => true
theorem valT_ok {e : Expr} (h : valT e = true) (env : PySem.Env) (whole : Sem Value) : isTrue e env whole = (do let v ← whole; standAt e.pos; holding [v] (truthy v)) := by
  cases e <;> first | rfl | (cases h; done) | skip
  rename_i o a p
  cases o <;> first | rfl | (simp [valT] at h)
def kConst (d : D) (e : Expr) : Bool :=
  match e with
  | .Constant q _ _ => match d with
    | .int i => decide (q = .int i)
    | .str i => decide (q = .str i)
    | .bool i => decide (q = .bool i)
    | .none => decide (q = .none)
    | _ => false
  | _ => false
theorem kConst_ok {X : Cx} {c : Cc} {d : D} {e : Expr} (h : kConst d e = true) : VE X c e (.c d) := by
  unfold kConst at h
  split at h
  · split at h
    · have := of_decide_eq_true h; subst this; exact ve_const pe_int fun H O => Made.int _
    · have := of_decide_eq_true h; subst this; exact ve_const pe_str fun H O => Made.str _
    · have := of_decide_eq_true h; subst this; exact ve_const pe_bl fun H O => Made.bool _
    · have := of_decide_eq_true h; subst this; exact ve_const pe_non fun H O => Made.none
    · cases h
  · cases h
def isNilX : Ex → Bool := isNil
def kPart (f : Fk) (k : Ck) (x : Ex) (o : Option Expr) : Bool :=
  match o with
  | none => isNil x
  | some e => !isNil x && f .E k x [e]
mutual
def chkG (k : Ck) : Tg → Expr → Bool
  | .nm i, e => match e with
    | .Name x _ => locN ⟨k.N, k.sc, k.fn, fun _ => none⟩ i x
    | _ => false
  | .nil, _ => false
  | .cons a b, e => match e with
    | .Tuple es _ _ => chkGs k (.cons a b) es
    | _ => false
def chkGs (k : Ck) : Tg → List Expr → Bool
  | .nil, es => match es with
    | [] => true
    | _ => false
  | .cons a b, es => match es with
    | e :: es => notStarT e && chkG k a e && chkGs k b es
    | [] => false
  | .nm _, _ => false
end
def kIfs (f : Fk) (k : Ck) (x : Ex) (ifs : List Expr) : Bool :=
  match ifs with
  | [] => match x with
    | .c (.bool true) => true
    | _ => false
  | [e] => f .T k x [e]
  | _ => false
def ownOf (k : Ck) (own : List Nat) : List (Str × Nat) := own.map fun i => ((k.N[i]?).getD "", i)
def lineC (a p : Pos) : Bool := a.endLine == p.line
def chkO (f : Fk) (k : Ck) (i : Nat) (p : Ex) (o : Expr) : Bool :=
  match p with
  | .nil => match o with
    | .Name y _ => visN k i y
    | _ => false
  | p => match o with
    | .Subscript a j _ => (match a with | .Name y _ => visN k i y | _ => false) && plainI j && !isNil p && f .E k p [j]
    | _ => false
def b1Ok : B1 → Bool
  | .rsorted => false
  | .dsort => false
  | .dlen => false
  | .rev => false
  | .trev => false
  | _ => true
def dName : B1 → Option Str
  | .dsort => some "sorted"
  | .dlen => some "len"
  | _ => none
/-- a set comprehension, sorted or counted -/
def chkD (f : Fk) (k : Ck) (nm : Str) (x : Ex) (e : Expr) : Bool :=
  match x with
  | .comp n xe t xi xc own => match e with
    | .Call (.Name z _) [.SetComp elt [⟨tg, iter, ifs, q⟩] scope _] [] _ => decide (z = nm) && decide (q = 0) && glN k.sc nm && blkC k.N k.sc scope (ownOf k own) && tgIn own t && notSetD iter && f (.I t) k xi [tg, iter] && chkG (k.blk scope) t tg && kIfs f (k.blk scope) xc ifs && f .E (k.blk scope) xe [elt]
    | _ => false
  | _ => false
def isRv : B1 → Option Bool
  | .rev => some false
  | .trev => some true
  | _ => none
/-- x[::-1], tuple(reversed(x)) -/
def chkR (f : Fk) (k : Ck) (t : Bool) (x : Ex) (e : Expr) : Bool :=
  match t with
  | false => match e with
    | .Subscript l (.Slice none none (some (.UnaryOp .USub (.Constant (.int 1) _ _) _)) _) _ => f .E k x [l]
    | _ => false
  | true => match e with
    | .Call (.Name y _) [.Call (.Name z _) [l] [] _] [] _ => decide (y = ("tuple" : Str)) && decide (z = ("reversed" : Str)) && glN k.sc "tuple" && glN k.sc "reversed" && notStar l && f .E k x [l]
    | _ => false
def kCall1 (y : Str) (e : Expr) (g : Expr → Bool) : Bool :=
  match e with
  | .Call (.Name z _) [a] [] _ => decide (z = y) && g a
  | _ => false
def chkE (f : Fk) (k : Ck) (x : Ex) (e : Expr) : Bool :=
  match x with
  | .c d => kConst d e
  | .v i => match e with
    | .Name y _ => visN k i y
    | _ => false
  | .bin o a b => match e with
    | .BinOp l o' r _ => decide (o = o') && f .E k a [l] && f .E k b [r]
    | _ => false
  | .un o a => match e with
    | .UnaryOp o' l _ => decide (o = o') && f .E k a [l]
    | _ => false
  | .tnot a => match e with
    | .UnaryOp o' l _ => decide (o' = .Not) && f .E k a [l]
    | _ => false
  | .vand a b => match e with
    | .BoolOp o (l :: r :: es) _ => decide (o = .And) && f .LA k (.vand a b) (l :: r :: es)
    | _ => false
  | .vor a b => match e with
    | .BoolOp o (l :: r :: es) _ => decide (o = .Or) && f .LO k (.vor a b) (l :: r :: es)
    | _ => false
  | .ife t a b => match e with
    | .IfExp t' a' b' _ => f .T k t [t'] && f .E k a [a'] && f .E k b [b']
    | _ => false
  | .cmp o a b => match e with
    | .Compare l [o'] [r] _ => decide (o = o') && !behindInMarks o r && f .E k a [l] && f .E k b [r]
    | _ => false
  | .chn o o2 a b d => match e with
    | .Compare l [o', o2'] [r, q] _ => decide (o = o') && decide (o2 = o2') && !lastMarks [o, o2] [r, q] && f .E k a [l] && f .E k b [r] && f .E k d [q]
    | _ => false
  | .tup xs => match e with
    | .Tuple es _ _ => f .S k xs es
    | _ => false
  | .lst n xs => match e with
    | .List es _ => f .S k xs es
    | _ => false
  | .ix a i => match e with
    | .Subscript l j _ => plainI j && f .E k a [l] && f .E k i [j]
    | _ => false
  | .sl a lo hi => match e with
    | .Subscript l (.Slice p q none _) _ => f .E k a [l] && kPart f k lo p && kPart f k hi q
    | _ => false
  | .b1 g a => match dName g with
    | some nm => chkD f k nm a e
    | none => match isRv g with
    | some t => chkR f k t a e
    | none => b1Ok g && glN k.sc (b1N g) && (match e with
      | .Call (.Name z _) [l] [] _ => decide (z = b1N g) && notStar l && f .E k a [l]
      | _ => false)
  | .b2 g a b => glN k.sc (b2N g) && (match e with
    | .Call (.Name z _) [l, r] [] _ => decide (z = b2N g) && notStar l && notStar r && f .E k a [l] && f .E k b [r]
    | _ => false)
  | .isi a t => glN k.sc "isinstance" && glN k.sc (tyS t) && (match e with
    | .Call (.Name z _) [l, .Name y _] [] _ => decide (z = ("isinstance" : Str)) && decide (y = tyS t) && notStar l && f .E k a [l]
    | _ => false)
  | .m1 g a b => match e with
    | .Call (.Attribute o m ap) [r] [] cp => decide (m = m1N g) && noCall o && lineC ap cp && notStar r && f .E k a [o] && f .E k b [r]
    | _ => false
  | .comp n xe t xi xc own => match e with
    | .ListComp elt [⟨tg, iter, ifs, z⟩] scope _ => decide (z = 0) && blkC k.N k.sc scope (ownOf k own) && tgIn own t && notSetD iter && f (.I t) k xi [tg, iter] && chkG (k.blk scope) t tg && kIfs f (k.blk scope) xc ifs && f .E (k.blk scope) xe [elt]
    | _ => false
  | .comp2 n xe t xi xc t1 xi1 xc1 own own1 => match e with
    | .ListComp elt [⟨tg, iter, ifs, z⟩, ⟨tg1, iter1, ifs1, z1⟩] scope _ => decide (z = 0) && decide (z1 = 0) && blkC k.N k.sc scope (ownOf k own) && tgIn own t && tgIn own1 t1 && subN own1 own && apartN (rootsX xi1) own1 && notSetD iter && notSetD iter1 &&
        f (.I t) k xi [tg, iter] && chkG (k.blk scope) t tg && kIfs f (k.blk scope) xc ifs && f (.I t1) (k.blk scope) xi1 [tg1, iter1] && chkG (k.blk scope) t1 tg1 && kIfs f (k.blk scope) xc1 ifs1 && f .E (k.blk scope) xe [elt]
    | _ => false
  | .lst1 it => match it with
    | .rng a b => glN k.sc "list" && glN k.sc "range" && (match e with
      | .Call (.Name y _) [.Call (.Name z _) [r] [] _] [] _ => decide (y = ("list" : Str)) && decide (z = ("range" : Str)) && notStar r && (match a with | .c (.int i) => decide (i = 0) | _ => false) && f .E k b [r]
      | .Call (.Name y _) [.Call (.Name z _) [l, r] [] _] [] _ => decide (y = ("list" : Str)) && decide (z = ("range" : Str)) && notStar l && notStar r && f .E k a [l] && f .E k b [r]
      | _ => false)
    | _ => false
  | .tup1 it => match it with
    | .rng a b => glN k.sc "tuple" && glN k.sc "range" && (match e with
      | .Call (.Name y _) [.Call (.Name z _) [r] [] _] [] _ => decide (y = ("tuple" : Str)) && decide (z = ("range" : Str)) && notStar r && (match a with | .c (.int i) => decide (i = 0) | _ => false) && f .E k b [r]
      | .Call (.Name y _) [.Call (.Name z _) [l, r] [] _] [] _ => decide (y = ("tuple" : Str)) && decide (z = ("range" : Str)) && notStar l && notStar r && f .E k a [l] && f .E k b [r]
      | _ => false)
    | _ => false
  | .call g xs => match e with
    | .Call (.Name z _) (a :: as) [] _ => decide (z = g) && glN k.sc g && nameOk g && (match k.S g with | some s => s.pm.length == (a :: as).length | none => false) && f .S k xs (a :: as)
    | _ => false
  | .app i p b => match e with
    | .Call (.Attribute o m ap) [r] [] cp => decide (m = ("append" : Str)) && noCall o && lineC ap cp && notStar r && chkO f k i p o && f .E k b [r]
    | _ => false
  | .ins i p xk b => match e with
    | .Call (.Attribute o m ap) [q, r] [] cp => decide (m = ("insert" : Str)) && noCall o && lineC ap cp && notStar q && notStar r && chkO f k i p o && f .E k xk [q] && f .E k b [r]
    | _ => false
  | .ext i p b => match e with
    | .Call (.Attribute o m ap) [r] [] cp => decide (m = ("extend" : Str)) && noCall o && lineC ap cp && notStar r && chkO f k i p o && f .E k b [r]
    | _ => false
  | .pop i p b => match e with
    | .Call (.Attribute o m ap) as [] cp => decide (m = ("pop" : Str)) && noCall o && lineC ap cp && chkO f k i p o && (match as with
      | [] => isNil b
      | [r] => !isNil b && notStar r && f .E k b [r]
      | _ => false)
    | _ => false
  | _ => false
def chkT (f : Fk) (k : Ck) (x : Ex) (e : Expr) : Bool :=
  match e with
  | .UnaryOp .Not l _ => (match x with
    | .tnot a => f .T k a [l]
    | _ => false)
  | .BoolOp o (l :: es) _ => (match o with
    | .And => f .WA k x (l :: es)
    | .Or => f .WO k x (l :: es))
  | .Compare l [o'] [r] _ => (match x with
    | .cmp o a b => decide (o = o') && !behindInMarks o r && f .E k a [l] && f .E k b [r]
    | _ => false)
  | .Compare l [o', o2'] [r, q] _ => (match x with
    | .chn o o2 a b d => decide (o = o') && decide (o2 = o2') && !lastMarks [o, o2] [r, q] && f .E k a [l] && f .E k b [r] && f .E k d [q]
    | _ => false)
  | e => valT e && f .E k x [e]
def isRng (e : Expr) : Bool :=
  match e with
  | .Call (.Name z _) [_] [] _ => decide (z = ("range" : Str))
  | .Call (.Name z _) [_, _] [] _ => decide (z = ("range" : Str))
  | _ => false
def isNm : Tg → Bool
  | .nm _ => true
  | _ => false
def chkI (f : Fk) (k : Ck) (t : Tg) (x : Ex) (tg e : Expr) : Bool :=
  match x with
  | .it a => f .K k a [e]
  | .rng a b => glN k.sc "range" && (match e with
    | .Call (.Name z _) [r] [] _ => decide (z = ("range" : Str)) && notStar r && (match a with | .c (.int i) => decide (i = 0) | _ => false) && f .E k b [r]
    | .Call (.Name z _) [l, r] [] _ => decide (z = ("range" : Str)) && notStar l && notStar r && f .E k a [l] && f .E k b [r]
    | _ => false)
  | .rngd a b => glN k.sc "range" && (match e with
    | .Call (.Name z _) [l, r, .UnaryOp .USub (.Constant (.int j) _ _) _] [] _ => decide (z = ("range" : Str)) && decide (j = 1) && notStar l && notStar r && f .E k a [l] && f .E k b [r]
    | _ => false)
  | .rrng a b => glN k.sc "range" && glN k.sc "reversed" && (match e with
    | .Call (.Name y _) [.Call (.Name z _) [r] [] _] [] _ => decide (y = ("reversed" : Str)) && decide (z = ("range" : Str)) && notStar r && (match a with | .c (.int i) => decide (i = 0) | _ => false) && f .E k b [r]
    | .Call (.Name y _) [.Call (.Name z _) [l, r] [] _] [] _ => decide (y = ("reversed" : Str)) && decide (z = ("range" : Str)) && notStar l && notStar r && f .E k a [l] && f .E k b [r]
    | _ => false)
  | .enum a => glN k.sc "enumerate" && !isNm t && (match tg with
    | .Tuple _ _ _ => (match e with
      | .Call (.Name z _) [l] [] _ => decide (z = ("enumerate" : Str)) && notStar l && f .K k a [l]
      | _ => false)
    | _ => false)
  | .zip a b => glN k.sc "zip" && !isNm t && (match tg with
    | .Tuple _ _ _ => (match e with
      | .Call (.Name z _) [l, r] [] _ => decide (z = ("zip" : Str)) && notStar l && notStar r && f .E k a [l] && f .E k b [r]
      | _ => false)
    | _ => false)
  | .rev a => glN k.sc "reversed" && (match e with
    | .Call (.Name z _) [l] [] _ => decide (z = ("reversed" : Str)) && notStar l && f .K k a [l]
    | _ => false)
  | _ => false
def chkK (f : Fk) (k : Ck) (x : Ex) (e : Expr) : Bool :=
  match x with
  | .ix (.v j) i => match e with
    | .Subscript (.Name y _) l _ => visN k j y && plainI l && f .E k i [l]
    | _ => false
  | x => f .E k x [e]
def chkL (f : Fk) (m : Md) (t : Md) (o : BoolOp) (k : Ck) (x : Ex) (es : List Expr) : Bool :=
  match es with
  | [] => false
  | [e] => f t k x [e]
  | e :: es => match o with
    | .And => (match x with
      | .tand a b => (match m with | .WA => f t k a [e] && f m k b es | _ => false)
      | .vand a b => (match m with | .LA => f t k a [e] && f m k b es | _ => false)
      | _ => false)
    | .Or => (match x with
      | .tor a b => (match m with | .WO => f t k a [e] && f m k b es | _ => false)
      | .vor a b => (match m with | .LO => f t k a [e] && f m k b es | _ => false)
      | _ => false)
def chkS (f : Fk) (k : Ck) (x : Ex) (es : List Expr) : Bool :=
  match x with
  | .nil => (match es with | [] => true | _ => false)
  | .cons a b => (match es with
    | e :: es => notStar e && f .E k a [e] && f .S k b es
    | [] => false)
  | _ => false
def chk : Nat → Fk
  | 0, _, _, _, _ => false
  | n + 1, m, k, x, es => match m with
    | .E => (match es with | [e] => chkE (chk n) k x e | _ => false)
    | .T => (match es with | [e] => chkT (chk n) k x e | _ => false)
    | .WA => chkL (chk n) .WA .T .And k x es
    | .WO => chkL (chk n) .WO .T .Or k x es
    | .LA => chkL (chk n) .LA .E .And k x es
    | .LO => chkL (chk n) .LO .E .Or k x es
    | .S => chkS (chk n) k x es
    | .K => (match es with | [e] => chkK (chk n) k x e | _ => false)
    | .I t => (match es with | [tg, e] => chkI (chk n) k t x tg e | _ => false)
end VL
/-! VL: the checker is right, expressions. -/
namespace VL
open PySem PySem.Spec PyProof.Rows L2
section
variable {f : Fk} {k : Ck} {G : Str → Option Fd} {X : Cx}
theorem own_map {k : Ck} {own : List Nat} : (ownOf k own).map (·.2) = own := by
  unfold ownOf
  rw [List.map_map]
  exact List.map_id'' (fun _ => rfl) own
mutual
theorem chkG_ok (hX : XOk X (k.cc G)) : ∀ {t : Tg} {e : Expr}, chkG k t e = true → VG X (k.cc G) e t
  | .nm i, e, h => by
    unfold chkG at h
    split at h
    · exact vg_name hX h
    · cases h
  | .nil, e, h => by simp only [chkG] at h; cases h
  | .cons a b, e, h => by
    unfold chkG at h
    split at h
    · exact vg_tup hX (chkGs_ok hX h)
    · cases h
theorem chkGs_ok (hX : XOk X (k.cc G)) : ∀ {t : Tg} {es : List Expr}, chkGs k t es = true → VGs X (k.cc G) es t
  | .nil, es, h => by
    unfold chkGs at h
    split at h
    · exact vgs_nil
    · cases h
  | .cons a b, es, h => by
    unfold chkGs at h
    split at h
    · simp only [Bool.and_eq_true] at h
      exact vgs_cons (chkG_ok hX h.1.2) (chkGs_ok hX h.2) h.1.1
    · cases h
  | .nm i, es, h => by simp only [chkGs] at h; cases h
end
theorem part_ok (hf : ∀ m k x es, f m k x es = true → Snd m k x es) (hG : ∀ f g, G f = some g → k.S f = some g.sg) (hX : XOk X (k.cc G)) {x : Ex} {o : Option Expr} (h : kPart f k x o = true) : VP X (k.cc G) o x where
  no := fun e => by
    subst e
    unfold kPart at h
    split at h
    · rfl
    · simp [isNil] at h
  so := fun e => by
    unfold kPart at h
    split at h
    · cases x <;> first | exact absurd rfl e | cases h
    · rename_i e'
      simp only [Bool.and_eq_true] at h
      exact ⟨e', rfl, hf _ _ _ _ h.2 G hG X hX e' rfl⟩
theorem ifs_ok (hf : ∀ m k x es, f m k x es = true → Snd m k x es) (hG : ∀ f g, G f = some g → k.S f = some g.sg) (hX : XOk X (k.cc G)) {x : Ex} {ifs : List Expr} (h : kIfs f k x ifs = true) : VTs X (k.cc G) ifs x := by
  unfold kIfs at h
  split at h
  · split at h
    · exact vts_nil
    · cases h
  · exact vts_one (hf _ _ _ _ h G hG X hX _ rfl)
  · cases h
theorem obj_ok (hf : ∀ m k x es, f m k x es = true → Snd m k x es) (hG : ∀ f g, G f = some g → k.S f = some g.sg) (hX : XOk X (k.cc G)) {i : Nat} {p : Ex} {o : Expr} (h : chkO f k i p o = true) : VO X (k.cc G) o i p := by
  unfold chkO at h
  split at h
  · split at h
    · exact vo_name (visN_ok hX h)
    · cases h
  · split at h
    · simp only [Bool.and_eq_true, Bool.not_eq_true'] at h
      obtain ⟨⟨⟨h1, h2⟩, h3⟩, h4⟩ := h
      split at h1
      · exact vo_ix (visN_ok hX h1) (hf _ _ _ _ h4 G hG X hX _ rfl) (plainI_ok h2) h3
      · cases h1
    · cases h
theorem ve_stuck {X : Cx} {c : Cc} {e : Expr} {x : Ex} (hx : ∀ r v, ev c.G x r ≠ .ok v) (hv : ∀ i, x ≠ .v i) : VE X c e x where
  val := fun pv => ⟨fun pins s σ H Q I w => by
    obtain ⟨O, Z, r, fp, v, r', _, e, _⟩ := w
    exact absurd e (hx r _)⟩
  var := fun i e => absurd e (hv i)
theorem zero_ok {a : Ex} (h : (match a with | .c (.int i) => decide (i = 0) | _ => false) = true) : a = .c (.int 0) := by
  split at h
  · rw [of_decide_eq_true h]
  · cases h
theorem chkD_ok (hf : ∀ m k x es, f m k x es = true → Snd m k x es) (hG : ∀ f g, G f = some g → k.S f = some g.sg) (hX : XOk X (k.cc G)) {g : B1} {nm : Str} {x : Ex} {e : Expr} (hd : dName g = some nm) (h : chkD f k nm x e = true) : VE X (k.cc G) e (.b1 g x) := by
  unfold chkD at h
  split at h
  · split at h
    · simp only [Bool.and_eq_true, decide_eq_true_eq] at h
      obtain ⟨⟨⟨⟨⟨⟨⟨⟨⟨rfl, rfl⟩, h0⟩, h1⟩, h2⟩, h3⟩, h4⟩, h5⟩, h6⟩, h7⟩ := h
      have hf' : ∀ z : Str, dName g = some z → (g = .dsort ∧ z = "sorted") ∨ (g = .dlen ∧ z = "len") := fun z hd => by
        cases g <;> first | (cases hd; done) | skip
        · cases hd; exact .inl ⟨rfl, rfl⟩
        · cases hd; exact .inr ⟨rfl, rfl⟩
      have q := fun n pos p pos2 => ve_dset (n := n) (pos := pos) (p := p) (pos2 := pos2) hX (hf' _ hd) h0 (hf _ _ _ _ h4 G hG X hX _ _ rfl) h1 (by rw [own_map]; exact h2) (fun X' hX' => chkG_ok (k := k.blk _) hX' h5) (fun X' hX' => ifs_ok (k := k.blk _) hf hG hX' h6) (fun X' hX' => hf _ (k.blk _) _ _ h7 G hG X' hX' _ rfl) h3
      simp only [own_map] at q
      exact q _ _ _ _
    · cases h
  · cases h
theorem chkR_ok (hf : ∀ m k x es, f m k x es = true → Snd m k x es) (hG : ∀ f g, G f = some g → k.S f = some g.sg) (hX : XOk X (k.cc G)) {g : B1} {t : Bool} {x : Ex} {e : Expr} (ht : isRv g = some t) (h : chkR f k t x e = true) : VE X (k.cc G) e (.b1 g x) := by
  unfold chkR at h
  cases t with
  | false =>
    obtain rfl : g = .rev := by cases g <;> first | rfl | cases ht
    dsimp only at h
    split at h
    · exact ve_rev hX (hf _ _ _ _ h G hG X hX _ rfl)
    · cases h
  | true =>
    obtain rfl : g = .trev := by cases g <;> first | rfl | cases ht
    dsimp only at h
    split at h
    · simp only [Bool.and_eq_true, decide_eq_true_eq] at h
      obtain ⟨⟨⟨⟨⟨rfl, rfl⟩, h1⟩, h2⟩, h3⟩, h4⟩ := h
      exact ve_trev hX h1 h2 (hf _ _ _ _ h4 G hG X hX _ rfl) h3
    · cases h
theorem chkE_ok (hf : ∀ m k x es, f m k x es = true → Snd m k x es) (hG : ∀ f g, G f = some g → k.S f = some g.sg) (hX : XOk X (k.cc G)) {x : Ex} {e : Expr} (h : chkE f k x e = true) : VE X (k.cc G) e x := by
  have rE : ∀ {k' : Ck} {x e}, f .E k' x [e] = true → (∀ f g, G f = some g → k'.S f = some g.sg) → ∀ X', XOk X' (k'.cc G) → VE X' (k'.cc G) e x := fun h hG X' hX' => hf _ _ _ _ h G hG X' hX' _ rfl
  have rT : ∀ {k' : Ck} {x e}, f .T k' x [e] = true → (∀ f g, G f = some g → k'.S f = some g.sg) → ∀ X', XOk X' (k'.cc G) → VT X' (k'.cc G) e x := fun h hG X' hX' => hf _ _ _ _ h G hG X' hX' _ rfl
  cases x with
  | c d => exact kConst_ok h
  | v i =>
    unfold chkE at h
    dsimp only at h
    split at h
    · exact visN_ok hX h
    · cases h
  | bin o a b =>
    unfold chkE at h
    dsimp only at h
    split at h
    · simp only [Bool.and_eq_true, decide_eq_true_eq] at h
      obtain ⟨⟨rfl, h1⟩, h2⟩ := h
      exact ve_bin (rE h1 hG X hX) (rE h2 hG X hX)
    · cases h
  | un o a =>
    unfold chkE at h
    dsimp only at h
    split at h
    · simp only [Bool.and_eq_true, decide_eq_true_eq] at h
      obtain ⟨rfl, h1⟩ := h
      exact ve_un (rE h1 hG X hX)
    · cases h
  | tnot a =>
    unfold chkE at h
    dsimp only at h
    split at h
    · simp only [Bool.and_eq_true, decide_eq_true_eq] at h
      obtain ⟨rfl, h1⟩ := h
      exact ve_not (rE h1 hG X hX)
    · cases h
  | vand a b =>
    unfold chkE at h
    dsimp only at h
    split at h
    · simp only [Bool.and_eq_true, decide_eq_true_eq] at h
      obtain ⟨rfl, h1⟩ := h
      exact VL2.ve (a := .Name "x" ⟨0, 0, 0, 0⟩) (b := .Name "x" ⟨0, 0, 0, 0⟩) (hf _ _ _ _ h1 G hG X hX _) nofun
    · cases h
  | vor a b =>
    unfold chkE at h
    dsimp only at h
    split at h
    · simp only [Bool.and_eq_true, decide_eq_true_eq] at h
      obtain ⟨rfl, h1⟩ := h
      exact VL2.ve (a := .Name "x" ⟨0, 0, 0, 0⟩) (b := .Name "x" ⟨0, 0, 0, 0⟩) (hf _ _ _ _ h1 G hG X hX _) nofun
    · cases h
  | ife t a b =>
    unfold chkE at h
    dsimp only at h
    split at h
    · simp only [Bool.and_eq_true] at h
      obtain ⟨⟨h1, h2⟩, h3⟩ := h
      exact ve_ife (rT h1 hG X hX) (rE h2 hG X hX) (rE h3 hG X hX)
    · cases h
  | cmp o a b =>
    unfold chkE at h
    dsimp only at h
    split at h
    · simp only [Bool.and_eq_true, decide_eq_true_eq, Bool.not_eq_true'] at h
      obtain ⟨⟨⟨rfl, h1⟩, h2⟩, h3⟩ := h
      exact ve_cmp hX (rE h2 hG X hX) (rE h3 hG X hX) h1
    · cases h
  | chn o o2 a b d =>
    unfold chkE at h
    dsimp only at h
    split at h
    · simp only [Bool.and_eq_true, decide_eq_true_eq, Bool.not_eq_true'] at h
      obtain ⟨⟨⟨⟨⟨rfl, rfl⟩, h1⟩, h2⟩, h3⟩, h4⟩ := h
      exact ve_chn hX (rE h2 hG X hX) (rE h3 hG X hX) (rE h4 hG X hX) h1
    · cases h
  | tup xs =>
    unfold chkE at h
    dsimp only at h
    split at h
    · exact ve_tup (VEl.ves (hf _ _ _ _ h G hG X hX))
    · cases h
  | lst n xs =>
    unfold chkE at h
    dsimp only at h
    split at h
    · exact ve_lst (VEl.ves (hf _ _ _ _ h G hG X hX))
    · cases h
  | ix a i =>
    unfold chkE at h
    dsimp only at h
    split at h
    · simp only [Bool.and_eq_true] at h
      exact ve_ix (rE h.1.2 hG X hX) (rE h.2 hG X hX) (plainI_ok h.1.1)
    · cases h
  | sl a lo hi =>
    unfold chkE at h
    dsimp only at h
    split at h
    · simp only [Bool.and_eq_true] at h
      exact ve_sl (rE h.1.1 hG X hX) (part_ok hf hG hX h.1.2) (part_ok hf hG hX h.2)
    · cases h
  | b1 g a =>
    unfold chkE at h
    dsimp only at h
    split at h
    · rename_i nm hd
      exact chkD_ok hf hG hX hd h
    split at h
    · rename_i t ht
      exact chkR_ok hf hG hX ht h
    · rw [Bool.and_eq_true, Bool.and_eq_true] at h
      obtain ⟨⟨h1, h2⟩, h⟩ := h
      split at h
      · simp only [Bool.and_eq_true, decide_eq_true_eq] at h
        obtain ⟨⟨rfl, h3⟩, h4⟩ := h
        exact ve_b1 hX (by cases g <;> first | rfl | cases h1) h2 (rE h4 hG X hX) h3
      · cases h
  | b2 g a b =>
    unfold chkE at h
    dsimp only at h
    rw [Bool.and_eq_true] at h
    obtain ⟨h2, h⟩ := h
    split at h
    · simp only [Bool.and_eq_true, decide_eq_true_eq] at h
      obtain ⟨⟨⟨⟨rfl, h3⟩, h4⟩, h5⟩, h6⟩ := h
      exact ve_b2 hX h2 (rE h5 hG X hX) (rE h6 hG X hX) h3 h4
    · cases h
  | isi a t =>
    unfold chkE at h
    dsimp only at h
    rw [Bool.and_eq_true, Bool.and_eq_true] at h
    obtain ⟨⟨h1, h2⟩, h⟩ := h
    split at h
    · simp only [Bool.and_eq_true, decide_eq_true_eq] at h
      obtain ⟨⟨⟨rfl, rfl⟩, h3⟩, h4⟩ := h
      exact ve_isi hX h1 h2 (rE h4 hG X hX) h3
    · cases h
  | m1 g a b =>
    unfold chkE at h
    dsimp only at h
    split at h
    · simp only [Bool.and_eq_true, decide_eq_true_eq] at h
      obtain ⟨⟨⟨⟨⟨rfl, h1⟩, h2⟩, h3⟩, h4⟩, h5⟩ := h
      exact ve_m1 hX (rE h4 hG X hX) (rE h5 hG X hX) h3 (noCall_ok h1 _ _) h2
    · cases h
  | comp n xe t xi xc own =>
    unfold chkE at h
    dsimp only at h
    split at h
    · simp only [Bool.and_eq_true, decide_eq_true_eq] at h
      obtain ⟨⟨⟨⟨⟨⟨⟨rfl, h1⟩, h2⟩, h3⟩, h4⟩, h5⟩, h6⟩, h7⟩ := h
      rename_i pos
      have q := ve_comp (n := n) (pos := pos) hX (hf _ _ _ _ h4 G hG X hX _ _ rfl) h1 (by rw [own_map]; exact h2) (fun X' hX' => chkG_ok (k := k.blk _) hX' h5) (fun X' hX' => ifs_ok (k := k.blk _) hf hG hX' h6) (fun X' hX' => rE (k' := k.blk _) h7 hG X' hX') h3
      rw [own_map] at q
      exact q
    · cases h
  | comp2 n xe t xi xc t1 xi1 xc1 own own1 =>
    unfold chkE at h
    dsimp only at h
    split at h
    · simp only [Bool.and_eq_true, decide_eq_true_eq] at h
      obtain ⟨⟨⟨⟨⟨⟨⟨⟨⟨⟨⟨⟨⟨⟨⟨rfl, rfl⟩, h1⟩, h2⟩, g2⟩, g3⟩, g4⟩, h3⟩, g5⟩, h4⟩, h5⟩, h6⟩, g6⟩, g7⟩, g8⟩, h7⟩ := h
      rename_i pos
      have q := ve_comp2 (n := n) (pos := pos) hX (hf _ _ _ _ h4 G hG X hX _ _ rfl) h1 (by rw [own_map]; exact h2) g2 (by rw [own_map]; exact g3) g4 (fun X' hX' => chkG_ok (k := k.blk _) hX' h5) (fun X' hX' => ifs_ok (k := k.blk _) hf hG hX' h6)
        (fun X' hX' => hf _ (k.blk _) _ _ g6 G hG X' hX' _ _ rfl) (fun X' hX' => chkG_ok (k := k.blk _) hX' g7) (fun X' hX' => ifs_ok (k := k.blk _) hf hG hX' g8) (fun X' hX' => rE (k' := k.blk _) h7 hG X' hX') h3 g5
      rw [own_map] at q
      exact q
    · cases h
  | lst1 it =>
    unfold chkE at h
    dsimp only at h
    split at h
    · rw [Bool.and_eq_true, Bool.and_eq_true] at h
      obtain ⟨⟨hl, hg⟩, h⟩ := h
      split at h
      · simp only [Bool.and_eq_true, decide_eq_true_eq] at h
        obtain ⟨⟨⟨⟨rfl, rfl⟩, h1⟩, h2⟩, h3⟩ := h
        rw [zero_ok h2]
        exact ve_lrg1 hX hl hg (rE h3 hG X hX) h1
      · simp only [Bool.and_eq_true, decide_eq_true_eq] at h
        obtain ⟨⟨⟨⟨⟨rfl, rfl⟩, h1⟩, h2⟩, h3⟩, h4⟩ := h
        exact ve_lrg2 hX hl hg (rE h3 hG X hX) (rE h4 hG X hX) h1 h2
      · cases h
    · cases h
  | tup1 it =>
    unfold chkE at h
    dsimp only at h
    split at h
    · rw [Bool.and_eq_true, Bool.and_eq_true] at h
      obtain ⟨⟨hl, hg⟩, h⟩ := h
      split at h
      · simp only [Bool.and_eq_true, decide_eq_true_eq] at h
        obtain ⟨⟨⟨⟨rfl, rfl⟩, h1⟩, h2⟩, h3⟩ := h
        rw [zero_ok h2]
        exact ve_trg1 hX hl hg (rE h3 hG X hX) h1
      · simp only [Bool.and_eq_true, decide_eq_true_eq] at h
        obtain ⟨⟨⟨⟨⟨rfl, rfl⟩, h1⟩, h2⟩, h3⟩, h4⟩ := h
        exact ve_trg2 hX hl hg (rE h3 hG X hX) (rE h4 hG X hX) h1 h2
      · cases h
    · cases h
  | call g xs =>
    unfold chkE at h
    dsimp only at h
    split at h
    · simp only [Bool.and_eq_true, decide_eq_true_eq] at h
      obtain ⟨⟨⟨⟨rfl, h1⟩, h2⟩, h3⟩, h4⟩ := h
      have hl : VEl X (k.cc G) _ _ := hf _ _ _ _ h4 G hG X hX
      rename_i z _ _ _ _
      cases eg : G z with
      | none =>
        refine ve_stuck (fun r v e => ?_) nofun
        simp only [ev] at e
        have eg' : (k.cc G).G z = none := eg
        rw [eg'] at e
        cases e
      | some g =>
        have hs := hG _ _ eg
        rw [hs] at h3
        exact ve_call hX (g := g) eg h1 h2 (hl.vag (by simpa using h3)) hl.stars
    · cases h
  | app i p b =>
    unfold chkE at h
    dsimp only at h
    split at h
    · simp only [Bool.and_eq_true, decide_eq_true_eq] at h
      obtain ⟨⟨⟨⟨⟨rfl, h1⟩, h2⟩, h3⟩, h4⟩, h5⟩ := h
      exact ve_app (obj_ok hf hG hX h4) (rE h5 hG X hX) h3 (noCall_ok h1 _ _) h2
    · cases h
  | ins i p xk b =>
    unfold chkE at h
    dsimp only at h
    split at h
    · simp only [Bool.and_eq_true, decide_eq_true_eq] at h
      obtain ⟨⟨⟨⟨⟨⟨⟨rfl, h1⟩, h2⟩, h3⟩, h4⟩, h5⟩, h6⟩, h7⟩ := h
      exact ve_ins (obj_ok hf hG hX h5) (rE h6 hG X hX) (rE h7 hG X hX) h3 h4 (noCall_ok h1 _ _) h2
    · cases h
  | ext i p b =>
    unfold chkE at h
    dsimp only at h
    split at h
    · simp only [Bool.and_eq_true, decide_eq_true_eq] at h
      obtain ⟨⟨⟨⟨⟨rfl, h1⟩, h2⟩, h3⟩, h4⟩, h5⟩ := h
      exact ve_ext (obj_ok hf hG hX h4) (rE h5 hG X hX) h3 (noCall_ok h1 _ _) h2
    · cases h
  | pop i p b =>
    unfold chkE at h
    dsimp only at h
    split at h
    · simp only [Bool.and_eq_true, decide_eq_true_eq] at h
      obtain ⟨⟨⟨⟨rfl, h1⟩, h2⟩, h4⟩, h5⟩ := h
      split at h5
      · cases b <;> first | exact ve_pop0 (obj_ok hf hG hX h4) (noCall_ok h1 _ _) h2 | cases h5
      · simp only [Bool.and_eq_true, Bool.not_eq_true'] at h5
        exact ve_pop1 (obj_ok hf hG hX h4) (rE h5.2 hG X hX) h5.1.1 h5.1.2 (noCall_ok h1 _ _) h2
      · cases h5
    · cases h
  | _ => cases h
end
end VL
/-! VL: the checker is right, the rest of the expressions. -/
namespace VL
open PySem PySem.Spec PyProof.Rows L2
section
variable {f : Fk} {k : Ck} {G : Str → Option Fd} {X : Cx}
theorem chkT_ok (hf : ∀ m k x es, f m k x es = true → Snd m k x es) (hG : ∀ f g, G f = some g → k.S f = some g.sg) (hX : XOk X (k.cc G)) {x : Ex} {e : Expr} (h : chkT f k x e = true) : VT X (k.cc G) e x := by
  have rE : ∀ {x e}, f .E k x [e] = true → VE X (k.cc G) e x := fun h => hf _ _ _ _ h G hG X hX _ rfl
  unfold chkT at h
  split at h
  · split at h
    · exact vt_not (hf _ _ _ _ h G hG X hX _ rfl)
    · cases h
  · split at h
    · exact VW.vt (hf _ _ _ _ h G hG X hX _)
    · exact VW.vt (hf _ _ _ _ h G hG X hX _)
  · split at h
    · simp only [Bool.and_eq_true, decide_eq_true_eq, Bool.not_eq_true'] at h
      obtain ⟨⟨⟨rfl, h1⟩, h2⟩, h3⟩ := h
      exact vt_cmp hX (rE h2) (rE h3) h1
    · cases h
  · split at h
    · simp only [Bool.and_eq_true, decide_eq_true_eq, Bool.not_eq_true'] at h
      obtain ⟨⟨⟨⟨⟨rfl, rfl⟩, h1⟩, h2⟩, h3⟩, h4⟩ := h
      exact vt_chn hX (rE h2) (rE h3) (rE h4) h1
    · cases h
  · rw [Bool.and_eq_true] at h
    exact vt_val hX (rE h.2) (valT_ok h.1 _)
theorem pe_neg1 {X : Cx} {q : Nat} {p p2 : Pos} : PE X (.UnaryOp .USub (.Constant (.int 1) q p) p2) (tC (.int (-1))) := by
  refine PE.imp (pe_un (ur_uop .USub) pe_int) fun s H Q q => ?_
  exact ⟨fun _ => False, fzv (.int 1), .int (-1), RdOk.mkI 1, rfl, fun z H' m => by
    rcases m with ⟨rfl, m, _⟩ | ⟨_, _, _, _, g, _, m, _⟩ | ⟨_, _, _, _, _, h, _⟩
    · rw [m.int]; exact q
    · have e := m.int
      rw [g] at e
      cases e
    · cases h⟩
theorem isNm_ok {t : Tg} (h : isNm t = false) : ∀ i, t ≠ .nm i := fun i e => by subst e; cases h
theorem chkK_ok (hf : ∀ m k x es, f m k x es = true → Snd m k x es) (hG : ∀ f g, G f = some g → k.S f = some g.sg) (hX : XOk X (k.cc G)) {x : Ex} {e : Expr} (h : chkK f k x e = true) : VK' X (k.cc G) e x := by
  have rE : ∀ {x e}, f .E k x [e] = true → VE X (k.cc G) e x := fun h => hf _ _ _ _ h G hG X hX _ rfl
  unfold chkK at h
  split at h
  · split at h
    · simp only [Bool.and_eq_true] at h
      exact vk_ix (visN_ok hX h.1.1) (rE h.2) (plainI_ok h.1.2)
    · cases h
  · rename_i hx
    by_cases hv : ∃ i, x = .v i
    · obtain ⟨i, rfl⟩ := hv
      exact vk_v (rE h)
    · refine vk_any (rE h) ?_
      cases x <;> first | rfl | exact absurd ⟨_, rfl⟩ hv | skip
      rename_i a b
      cases a <;> first | rfl | exact absurd rfl (hx _ _)
theorem chkI_ok (hf : ∀ m k x es, f m k x es = true → Snd m k x es) (hG : ∀ f g, G f = some g → k.S f = some g.sg) (hX : XOk X (k.cc G)) {x : Ex} {t : Tg} {tg e : Expr} (h : chkI f k t x tg e = true) : VI X (k.cc G) tg e x t := by
  have rE : ∀ {x e}, f .E k x [e] = true → VE X (k.cc G) e x := fun h => hf _ _ _ _ h G hG X hX _ rfl
  have rK : ∀ {x e}, f .K k x [e] = true → VK' X (k.cc G) e x := fun h => hf _ _ _ _ h G hG X hX _ rfl
  cases x with
  | it a => exact vi_it (rK h)
  | rng a b =>
    unfold chkI at h
    dsimp only at h
    rw [Bool.and_eq_true] at h
    obtain ⟨hg, h⟩ := h
    split at h
    · simp only [Bool.and_eq_true, decide_eq_true_eq] at h
      obtain ⟨⟨⟨rfl, h1⟩, h2⟩, h3⟩ := h
      rw [zero_ok h2]
      exact vi_rng1 hX hg (rE h3) h1
    · simp only [Bool.and_eq_true, decide_eq_true_eq] at h
      obtain ⟨⟨⟨⟨rfl, h1⟩, h2⟩, h3⟩, h4⟩ := h
      exact vi_rng2 hX hg (rE h3) (rE h4) h1 h2
    · cases h
  | rngd a b =>
    unfold chkI at h
    dsimp only at h
    rw [Bool.and_eq_true] at h
    obtain ⟨hg, h⟩ := h
    split at h
    · simp only [Bool.and_eq_true, decide_eq_true_eq] at h
      obtain ⟨⟨⟨⟨⟨rfl, rfl⟩, h1⟩, h2⟩, h3⟩, h4⟩ := h
      exact vi_rngd hX hg (rE h3) (rE h4) pe_neg1 h1 h2 rfl
    · cases h
  | rrng a b =>
    unfold chkI at h
    dsimp only at h
    rw [Bool.and_eq_true, Bool.and_eq_true] at h
    obtain ⟨⟨hg, hr⟩, h⟩ := h
    split at h
    · simp only [Bool.and_eq_true, decide_eq_true_eq] at h
      obtain ⟨⟨⟨⟨rfl, rfl⟩, h1⟩, h2⟩, h3⟩ := h
      rw [zero_ok h2]
      exact vi_rrng1 hX hg hr (rE h3) h1
    · simp only [Bool.and_eq_true, decide_eq_true_eq] at h
      obtain ⟨⟨⟨⟨⟨rfl, rfl⟩, h1⟩, h2⟩, h3⟩, h4⟩ := h
      exact vi_rrng2 hX hg hr (rE h3) (rE h4) h1 h2
    · cases h
  | enum a =>
    unfold chkI at h
    dsimp only at h
    rw [Bool.and_eq_true, Bool.and_eq_true, Bool.not_eq_true'] at h
    obtain ⟨⟨hg, ht⟩, h⟩ := h
    split at h
    · split at h
      · simp only [Bool.and_eq_true, decide_eq_true_eq] at h
        obtain ⟨⟨rfl, h1⟩, h2⟩ := h
        exact vi_enum hX hg (rK h2) h1 (isNm_ok ht)
      · cases h
    · cases h
  | zip a b =>
    unfold chkI at h
    dsimp only at h
    rw [Bool.and_eq_true, Bool.and_eq_true, Bool.not_eq_true'] at h
    obtain ⟨⟨hg, ht⟩, h⟩ := h
    split at h
    · split at h
      · simp only [Bool.and_eq_true, decide_eq_true_eq] at h
        obtain ⟨⟨⟨⟨rfl, h1⟩, h2⟩, h3⟩, h4⟩ := h
        exact vi_zip hX hg (rE h3) (rE h4) h1 h2 (isNm_ok ht)
      · cases h
    · cases h
  | rev a =>
    unfold chkI at h
    dsimp only at h
    rw [Bool.and_eq_true] at h
    obtain ⟨hg, h⟩ := h
    split at h
    · simp only [Bool.and_eq_true, decide_eq_true_eq] at h
      obtain ⟨⟨rfl, h1⟩, h2⟩ := h
      exact vi_rev hX hg (rK h2) h1
    · cases h
  | _ => cases h
theorem chkS_ok (hf : ∀ m k x es, f m k x es = true → Snd m k x es) (hG : ∀ f g, G f = some g → k.S f = some g.sg) (hX : XOk X (k.cc G)) {x : Ex} {es : List Expr} (h : chkS f k x es = true) : VEl X (k.cc G) es x := by
  unfold chkS at h
  split at h
  · split at h
    · exact .nil
    · cases h
  · split at h
    · simp only [Bool.and_eq_true] at h
      exact .cons (hf _ _ _ _ h.1.2 G hG X hX _ rfl) h.1.1 (hf _ _ _ _ h.2 G hG X hX)
    · cases h
  · cases h
/-- the checker is right -/
theorem chk_ok : ∀ n m k x es, chk n m k x es = true → Snd m k x es := by
  intro n
  induction n with
  | zero => intro m k x es h; cases h
  | succ n ih =>
    intro m k x es h G hG X hX
    cases m with
    | E =>
      intro e ee
      subst ee
      exact chkE_ok ih hG hX h
    | T =>
      intro e ee
      subst ee
      exact chkT_ok ih hG hX h
    | S => exact chkS_ok ih hG hX h
    | K =>
      intro e ee
      subst ee
      exact chkK_ok ih hG hX h
    | I t =>
      intro tg e ee
      subst ee
      exact chkI_ok ih hG hX h
    | WA =>
      intro pos
      have h : chkL (chk n) .WA .T .And k x es = true := h
      unfold chkL at h
      split at h
      · cases h
      · exact vw_and1 (ih _ _ _ _ h G hG X hX _ rfl)
      · rename_i _ e es hne _
        dsimp only at h
        split at h
        · rw [Bool.and_eq_true] at h
          cases es with
          | nil => exact absurd rfl hne
          | cons b r => exact vw_and (ih _ _ _ _ h.1 G hG X hX _ rfl) (ih _ _ _ _ h.2 G hG X hX pos)
        · cases h
        · cases h
    | WO =>
      intro pos
      have h : chkL (chk n) .WO .T .Or k x es = true := h
      unfold chkL at h
      split at h
      · cases h
      · exact vw_or1 (ih _ _ _ _ h G hG X hX _ rfl)
      · rename_i _ e es hne _
        dsimp only at h
        split at h
        · rw [Bool.and_eq_true] at h
          cases es with
          | nil => exact absurd rfl hne
          | cons b r => exact vw_or (ih _ _ _ _ h.1 G hG X hX _ rfl) (ih _ _ _ _ h.2 G hG X hX pos)
        · cases h
        · cases h
    | LA =>
      intro pos
      have h : chkL (chk n) .LA .E .And k x es = true := h
      unfold chkL at h
      split at h
      · cases h
      · exact vl_one (ih _ _ _ _ h G hG X hX _ rfl)
      · rename_i _ e es hne _
        dsimp only at h
        split at h
        · cases h
        · rw [Bool.and_eq_true] at h
          cases es with
          | nil => exact absurd rfl hne
          | cons b r => exact vl_and (ih _ _ _ _ h.1 G hG X hX _ rfl) (ih _ _ _ _ h.2 G hG X hX pos)
        · cases h
    | LO =>
      intro pos
      have h : chkL (chk n) .LO .E .Or k x es = true := h
      unfold chkL at h
      split at h
      · cases h
      · exact vl_one (ih _ _ _ _ h G hG X hX _ rfl)
      · rename_i _ e es hne _
        dsimp only at h
        split at h
        · cases h
        · rw [Bool.and_eq_true] at h
          cases es with
          | nil => exact absurd rfl hne
          | cons b r => exact vl_or (ih _ _ _ _ h.1 G hG X hX _ rfl) (ih _ _ _ _ h.2 G hG X hX pos)
        · cases h
end
end VL
/-! VL: the checker of statements. -/
namespace VL
open PySem PySem.Spec PyProof.Rows L2
/-- a comprehension's store that is no store on one line: the name is captured -/
theorem sw_cell {elt : Expr} {gs : List Comprehension} {scope : Scope} {pos py : Pos} {y : Str} {l : Nat} {env : PySem.Env} (hy : env.scope.names.lookup y = some .cell) : swapsWith (.ListComp elt gs scope pos) (some (.Name y py)) l env = pure false := by
  have ky : env.kindOf y = some .cell := hy
  unfold swapsWith
  simp only [ky]
  have e : (some NameKind.cell == some NameKind.local) = false := by decide
  rw [e, Bool.and_false, Bool.false_and, Bool.false_and]
def isLCell (sc : Scope) (y : Str) : Bool := match sc.names.lookup y with | some .cell => true | _ => false
def isLLoc (sc : Scope) (y : Str) : Bool := match sc.names.lookup y with | some .local => true | _ => false
/-- a comprehension stored on its line -/
def chkLc (f : Fk) (k : Ck) (y : Str) (py : Pos) (x : Ex) (e : Expr) : Bool :=
  match x with
  | .comp n xe t xi xc own => match e with
    | .ListComp elt [⟨tg, iter, ifs, z⟩] scope pos => decide (z = 0) && isLLoc k.sc y && decide (k.sc.kind = .function) && (py.line == pos.line) && !(scope.names.any fun (n, k) => n == y && (k == .local || k == .cell)) &&
        blkC k.N k.sc scope (ownOf k own) && tgIn own t && notSetD iter && f (.I t) k xi [tg, iter] && chkG (k.blk scope) t tg && kIfs f (k.blk scope) xc ifs && f .E (k.blk scope) xe [elt]
    | _ => false
  | .comp2 n xe t xi xc t1 xi1 xc1 own own1 => match e with
    | .ListComp elt [⟨tg, iter, ifs, z⟩, ⟨tg1, iter1, ifs1, z1⟩] scope pos => decide (z = 0) && decide (z1 = 0) && isLLoc k.sc y && decide (k.sc.kind = .function) && (py.line == pos.line) && !(scope.names.any fun (n, k) => n == y && (k == .local || k == .cell)) &&
        blkC k.N k.sc scope (ownOf k own) && tgIn own t && tgIn own1 t1 && subN own1 own && apartN (rootsX xi1) own1 && notSetD iter && notSetD iter1 &&
        f (.I t) k xi [tg, iter] && chkG (k.blk scope) t tg && kIfs f (k.blk scope) xc ifs && f (.I t1) (k.blk scope) xi1 [tg1, iter1] && chkG (k.blk scope) t1 tg1 && kIfs f (k.blk scope) xc1 ifs1 && f .E (k.blk scope) xe [elt]
    | _ => false
  | _ => false
abbrev Bk := Ck → Nat → Sm → List Stmt → Bool
def chkSt (f : Fk) (g : Bk) (k : Ck) (rm : Nat) (sm : Sm) (st : Stmt) : Bool :=
  match sm with
  | .nop => match st with
    | .Pass _ => true
    | _ => false
  | .set m t x => match t with
    | .nm i => match st with
      | .Assign [.Name y py] e _ => locN ⟨k.N, k.sc, k.fn, fun _ => none⟩ i y && (match e with
        | .ListComp _ _ _ _ => (isLCell k.sc y && f .E k x [e]) || (decide (k.N[i]? = some y) && chkLc f k y py x e)
        | e => notComp e && f .E k x [e])
      | _ => false
    | .cons a b => match st with
      | .Assign [tg] e _ => decide (m = 0) && chkG k (.cons a b) tg && notComp e && notTupE e && notStarT tg && f .E k x [e]
      | _ => false
    | _ => false
  | .sets i p j x => match st with
    | .Assign [.Subscript o q _] e _ => plainI q && chkO f k i p o && f .E k j [q] && f .E k x [e]
    | _ => false
  | .aug i op x => match st with
    | .AugAssign (.Name y _) op' e _ => decide (op = op') && (decide (op = .Add) || (decide (op = .Sub) || (decide (op = .Mult) || decide (op = .FloorDiv)))) && locN ⟨k.N, k.sc, k.fn, fun _ => none⟩ i y && f .E k x [e]
    | _ => false
  | .ife x a b => match st with
    | .If e as bs _ => f .T k x [e] && g k rm a as && g k rm b bs
    | _ => false
  | .for_ t xi b => match st with
    | .For tg iter bs [] _ => f (.I t) k xi [tg, iter] && chkG k t tg && notSetD iter && g k rm b bs
    | _ => false
  | .while_ x b => match st with
    | .While e bs [] _ => f .T k x [e] && g k rm b bs
    | _ => false
  | .ret x => match st with
    | .Return (some e) _ => f .E k x [e]
    | _ => false
  | .drop x => match st with
    | .Expr e _ => notComp e && f .E k x [e]
    | _ => false
  | .brk => match st with
    | .Break _ => true
    | _ => false
  | .cont => match st with
    | .Continue _ => true
    | _ => false
  | .par i j x1 x2 => match st with
    | .Assign [.Tuple [.Name y1 p1, .Name y2 p2] _ _] (.Tuple [e1, e2] _ _) _ => decide (k.N[i]? = some y1) && decide (k.N[j]? = some y2) && decide (i ≠ j) && parC k.sc y1 y2 p1.line p2.line e1 e2 && notStar e1 && notStar e2 && f .E k x1 [e1] && f .E k x2 [e2]
    | _ => false
  | _ => false
def chkB (F : Nat) : Nat → Bk
  | 0, _, _, _, _ => false
  | n + 1, k, rm, sm, sts => match sts with
    | [] => (match sm with | .nop => true | _ => false)
    | [st] => chkSt (chk F) (chkB F n) k rm sm st
    | st :: rest => (match sm with
      | .seq a b => chkSt (chk F) (chkB F n) k rm a st && chkB F n k rm b rest
      | _ => false)
section
variable {f : Fk} {g : Bk} {k : Ck} {G : Str → Option Fd} {X : Cx} {rm : Nat}
theorem locN_G {k : Ck} {G : Str → Option Fd} {i : Nat} {y : Str} (h : locN ⟨k.N, k.sc, k.fn, fun _ => none⟩ i y = true) : locN (k.cc G) i y = true := h
theorem isLCell_ok {sc : Scope} {y : Str} (h : isLCell sc y = true) : sc.names.lookup y = some .cell := by
  unfold isLCell at h
  split at h
  · assumption
  · cases h
theorem isLLoc_ok {sc : Scope} {y : Str} (h : isLLoc sc y = true) : sc.names.lookup y = some .local := by
  unfold isLLoc at h
  split at h
  · assumption
  · cases h
theorem vs_setSw (hX : XOk X (k.cc G)) {i m : Nat} {y : Str} {e : Expr} {xe : Ex} {p pos : Pos} (h : locN (k.cc G) i y = true) (he : VE X (k.cc G) e xe) (hs : swapsWith e (some (.Name y p)) pos.line X.env = pure false) : VS X (k.cc G) rm (.Assign [.Name y p] e pos) (.set m (.nm i) xe) := ⟨fun pv => by
  obtain ⟨h1, h2, h3⟩ := locN_ok hX h
  exact PS.imp (ps_set hX.nd h1 h2 (he.tk (pv := pv) m) hs h3) fun D s H q => set_read q⟩
theorem chkLc_ok (hf : ∀ m k x es, f m k x es = true → Snd m k x es) (hG : ∀ f g, G f = some g → k.S f = some g.sg) (hX : XOk X (k.cc G)) {i m : Nat} {y : Str} {py spos : Pos} {x : Ex} {e : Expr} (hy : k.N[i]? = some y) (h : chkLc f k y py x e = true) : VS X (k.cc G) rm (.Assign [.Name y py] e spos) (.set m (.nm i) x) := by
  cases x <;> first | (cases h; done) | skip
  · rename_i n xe t xi xc own
    unfold chkLc at h
    dsimp only at h
    split at h
    · simp only [Bool.and_eq_true, decide_eq_true_eq, Bool.not_eq_true'] at h
      obtain ⟨⟨⟨⟨⟨⟨⟨⟨⟨⟨⟨rfl, a1⟩, a2⟩, a3⟩, a4⟩, h1⟩, h2⟩, h3⟩, h4⟩, h5⟩, h6⟩, h7⟩ := h
      have q := vs_setLc (rm := rm) (m := m) (n := n) (spos := spos) hX hy (isLLoc_ok a1) a2 a3 a4 (hf _ _ _ _ h4 G hG X hX _ _ rfl) h1 (by rw [own_map]; exact h2) (fun X' hX' => chkG_ok (k := k.blk _) hX' h5) (fun X' hX' => ifs_ok (k := k.blk _) hf hG hX' h6) (fun X' hX' => hf _ (k.blk _) _ _ h7 G hG X' hX' _ rfl) h3
      rw [own_map] at q
      exact q
    · cases h
  · rename_i n xe t xi xc t1 xi1 xc1 own own1
    unfold chkLc at h
    dsimp only at h
    split at h
    · simp only [Bool.and_eq_true, decide_eq_true_eq, Bool.not_eq_true'] at h
      obtain ⟨⟨⟨⟨⟨⟨⟨⟨⟨⟨⟨⟨⟨⟨⟨⟨⟨⟨⟨rfl, rfl⟩, a1⟩, a2⟩, a3⟩, a4⟩, h1⟩, h2⟩, g2⟩, g3⟩, g4⟩, h3⟩, g5⟩, h4⟩, h5⟩, h6⟩, g6⟩, g7⟩, g8⟩, h7⟩ := h
      have q := vs_setLc2 (rm := rm) (m := m) (n := n) (spos := spos) hX hy (isLLoc_ok a1) a2 a3 a4 (hf _ _ _ _ h4 G hG X hX _ _ rfl) h1 (by rw [own_map]; exact h2) g2 (by rw [own_map]; exact g3) g4 (fun X' hX' => chkG_ok (k := k.blk _) hX' h5) (fun X' hX' => ifs_ok (k := k.blk _) hf hG hX' h6)
        (fun X' hX' => hf _ (k.blk _) _ _ g6 G hG X' hX' _ _ rfl) (fun X' hX' => chkG_ok (k := k.blk _) hX' g7) (fun X' hX' => ifs_ok (k := k.blk _) hf hG hX' g8) (fun X' hX' => hf _ (k.blk _) _ _ h7 G hG X' hX' _ rfl) h3 g5
      rw [own_map] at q
      exact q
    · cases h
theorem chkSt_ok (hf : ∀ m k x es, f m k x es = true → Snd m k x es) (hg : ∀ rm sm sts, g k rm sm sts = true → VSs X (k.cc G) rm sts sm) (hG : ∀ f g, G f = some g → k.S f = some g.sg) (hX : XOk X (k.cc G)) {sm : Sm} {st : Stmt} (h : chkSt f g k rm sm st = true) : VS X (k.cc G) rm st sm := by
  have rE : ∀ {x e}, f .E k x [e] = true → VE X (k.cc G) e x := fun h => hf _ _ _ _ h G hG X hX _ rfl
  cases sm with
  | nop =>
    unfold chkSt at h
    dsimp only at h
    split at h
    · exact vs_pass
    · cases h
  | set m t x =>
    unfold chkSt at h
    dsimp only at h
    split at h
    · split at h
      · rw [Bool.and_eq_true] at h
        obtain ⟨h1, h⟩ := h
        split at h
        · rw [Bool.or_eq_true] at h
          rcases h with h | h
          · rw [Bool.and_eq_true] at h
            exact vs_setSw hX h1 (rE h.2) (sw_cell (by rw [hX.sc]; exact isLCell_ok h.1))
          · rw [Bool.and_eq_true, decide_eq_true_eq] at h
            obtain ⟨hy, h⟩ := h
            exact chkLc_ok hf hG hX hy h
        · rw [Bool.and_eq_true] at h
          exact vs_set hX h1 (rE h.2) h.1
      · cases h
    · split at h
      · simp only [Bool.and_eq_true, decide_eq_true_eq] at h
        obtain ⟨⟨⟨⟨⟨rfl, h1⟩, h2⟩, h3⟩, h4⟩, h5⟩ := h
        exact vs_setT (chkG_ok hX h1) (rE h5) h2 h3 h4
      · cases h
    · cases h
  | sets i p j x =>
    unfold chkSt at h
    dsimp only at h
    split at h
    · simp only [Bool.and_eq_true] at h
      obtain ⟨⟨⟨h0, h1⟩, h2⟩, h3⟩ := h
      exact vs_sets (obj_ok hf hG hX h1) (rE h2) (rE h3) h0
    · cases h
  | aug i op x =>
    unfold chkSt at h
    dsimp only at h
    split at h
    · simp only [Bool.and_eq_true, decide_eq_true_eq, Bool.or_eq_true] at h
      obtain ⟨⟨⟨rfl, h1⟩, h2⟩, h3⟩ := h
      rcases h1 with rfl | rfl | h1
      · exact vs_add hX h2 (rE h3)
      · exact vs_sub hX h2 (rE h3)
      · exact vs_aug2 hX h1 h2 (rE h3)
    · cases h
  | ife x a b =>
    unfold chkSt at h
    dsimp only at h
    split at h
    · simp only [Bool.and_eq_true] at h
      obtain ⟨⟨h1, h2⟩, h3⟩ := h
      exact vs_if (hf _ _ _ _ h1 G hG X hX _ rfl) (hg _ _ _ h2) (hg _ _ _ h3)
    · cases h
  | for_ t xi b =>
    unfold chkSt at h
    dsimp only at h
    split at h
    · simp only [Bool.and_eq_true] at h
      obtain ⟨⟨⟨h1, h2⟩, h3⟩, h4⟩ := h
      exact vs_for hX (hf _ _ _ _ h1 G hG X hX _ _ rfl) (chkG_ok hX h2) (hg _ _ _ h4) h3
    · cases h
  | while_ x b =>
    unfold chkSt at h
    dsimp only at h
    split at h
    · simp only [Bool.and_eq_true] at h
      exact vs_while hX (hf _ _ _ _ h.1 G hG X hX _ rfl) (hg _ _ _ h.2)
    · cases h
  | ret x =>
    unfold chkSt at h
    dsimp only at h
    split at h
    · exact vs_ret (rE h)
    · cases h
  | drop x =>
    unfold chkSt at h
    dsimp only at h
    split at h
    · rw [Bool.and_eq_true] at h
      exact vs_drop (rE h.2) h.1
    · cases h
  | brk =>
    unfold chkSt at h
    dsimp only at h
    split at h
    · exact vs_brk
    · cases h
  | cont =>
    unfold chkSt at h
    dsimp only at h
    split at h
    · exact vs_cont
    · cases h
  | par i j x1 x2 =>
    unfold chkSt at h
    dsimp only at h
    split at h
    · simp only [Bool.and_eq_true, decide_eq_true_eq] at h
      obtain ⟨⟨⟨⟨⟨⟨⟨h1, h2⟩, h3⟩, h4⟩, h5⟩, h6⟩, h7⟩, h8⟩ := h
      exact vs_par hX h1 h2 h3 h4 (rE h7) (rE h8) h5 h6
    · cases h
  | _ => cases h
theorem chkB_ok {F : Nat} : ∀ n k rm sm sts, chkB F n k rm sm sts = true → ∀ G, (∀ f g, G f = some g → k.S f = some g.sg) → ∀ X, XOk X (k.cc G) → VSs X (k.cc G) rm sts sm := by
  intro n
  induction n with
  | zero => intro k rm sm sts h; cases h
  | succ n ih =>
    intro k rm sm sts h G hG X hX
    have hg : ∀ rm sm sts, chkB F n k rm sm sts = true → VSs X (k.cc G) rm sts sm := fun rm sm sts h => ih k rm sm sts h G hG X hX
    unfold chkB at h
    split at h
    · split at h
      · exact vss_nil
      · cases h
    · exact vss_one (chkSt_ok (chk_ok F) hg hG hX h)
    · split at h
      · rw [Bool.and_eq_true] at h
        exact vss_cons (chkSt_ok (chk_ok F) hg hG hX h.1) (hg _ _ _ h.2)
      · cases h
end
end VL
/-! VL: the end. -/
namespace VL
open PySem PySem.Spec PyProof.Rows L2
/-- a def as a datum: its stat, its names, its term -/
structure DefS where
  name : Str
  ps : List Str
  N : List Str
  sg : Sg
  body : Sm
/-- the text of a def -/
def stOf : Stmt → Option (Str × Arguments × List Stmt × Scope)
  | .FunctionDef n a b _ _ _ sc _ _ _ => some (n, a, b, sc)
  | _ => none
def textOf (top : List Stmt) (x : Str) : Option (Str × Arguments × List Stmt × Scope) := (top.filterMap stOf).find? fun q => q.1 == x
def findS (ds : List DefS) (x : Str) : Option DefS := ds.find? fun d => d.name == x
/-- the program's defs -/
def tabOf (top : List Stmt) (ds : List DefS) (x : Str) : Option DefT :=
  match findS ds x with
  | some d => match textOf top x with
    | some q => some ⟨⟨d.sg, d.N.length, d.body⟩, d.N, d.ps, q.2.1, q.2.2.1, q.2.2.2⟩
    | none => none
  | none => none
def sgOf (ds : List DefS) (x : Str) : Option Sg := (findS ds x).map (·.sg)
/-- the pure program -/
def fnOf (ds : List DefS) (x : Str) : Option Fn := (findS ds x).map fun d => ⟨d.sg, d.N.length, d.body⟩
def ckOf (ds : List DefS) (d : DefS) (sc : Scope) : Ck := ⟨d.N, sc, fun _ => true, sgOf ds⟩
def chkDef (F : Nat) (top : List Stmt) (ds : List DefS) (d : DefS) : Bool :=
  match textOf top d.name with
  | some q => C8.scC d.N d.ps q.2.2.2 && (d.ps.length == d.sg.pm.length) && chkB F F (ckOf ds d q.2.2.2) d.sg.ret d.body q.2.2.1
  | none => false
def chkAll (F : Nat) (top : List Stmt) (ds : List DefS) : Bool := ds.all (chkDef F top ds)
theorem find_name {ds : List DefS} {x : Str} {d : DefS} (h : findS ds x = some d) : d ∈ ds ∧ d.name = x := by
  unfold findS at h
  refine ⟨List.mem_of_find?_eq_some h, ?_⟩
  have := List.find?_some h
  simpa using this
theorem tab_fn {top : List Stmt} {ds : List DefS} {F : Nat} (h : chkAll F top ds = true) : (fun f => (tabOf top ds f).map (·.fn)) = fnOf ds := by
  funext x
  unfold tabOf fnOf
  cases e : findS ds x with
  | none => rfl
  | some d =>
    obtain ⟨h1, rfl⟩ := find_name e
    have q := List.all_eq_true.mp h d h1
    unfold chkDef at q
    dsimp only
    split at q
    · rename_i z ez
      rfl
    · cases q
theorem tab_sg {top : List Stmt} {ds : List DefS} {F : Nat} (h : chkAll F top ds = true) : (fun f => (tabOf top ds f).map (·.fn.sg)) = sgOf ds := by
  funext x
  unfold tabOf sgOf
  cases e : findS ds x with
  | none => rfl
  | some d =>
    obtain ⟨h1, rfl⟩ := find_name e
    have q := List.all_eq_true.mp h d h1
    unfold chkDef at q
    dsimp only
    split at q
    · rename_i z ez
      rfl
    · cases q
theorem tab_ok {top : List Stmt} {ds : List DefS} {F : Nat} (h : chkAll F top ds = true) : ∀ f d, tabOf top ds f = some d → d.Ok fun f => (tabOf top ds f).map (·.fn.sg) := by
  intro f d e
  rw [tab_sg h]
  unfold tabOf at e
  split at e
  · rename_i s es
    obtain ⟨h1, rfl⟩ := find_name es
    have q := List.all_eq_true.mp h s h1
    unfold chkDef at q
    split at e
    · rename_i z ez
      cases e
      rw [ez] at q
      simp only [Bool.and_eq_true, beq_iff_eq] at q
      obtain ⟨⟨q1, q2⟩, q3⟩ := q
      exact ⟨C8.fnScope_by q1, q2, rfl, fun G hG X hX => chkB_ok F (ckOf ds s z.2.2.2) _ _ _ q3 G hG X hX⟩
    · cases e
  · cases e
/-- the law's promise -/
theorem law_sp {K : PySem.W.Frag} {g : Fd} {H : Hp} {a : Addr} {ns : List Int} (hs : g.sg.pm = [.fz]) (hO : Only H) (hS : SqL K H a (ns.map V.int)) (e : g.run [.dict (scrK ns)] = .ok (.bool true, [])) :
    spV K g [.ref a] H (fun v _ => v = .bl true) fun _ _ _ => False := by
  have hsc : ScrAt K H a (ns.map V.int) := by
    rcases hS with h | h
    · rcases h with h | ⟨o, h⟩
      · rcases hO a with q | ⟨o, xs, q⟩
        · rw [q] at h; cases h
        · rw [q] at h; cases h
      · exact .inl ⟨o, h⟩
    · exact .inr h
  have hr : ∀ T, RepF K H T (.dict (scrK ns)) (.ref a) := fun T => by
    rw [RepF]
    exact ⟨a, ns, rfl, rfl, hsc⟩
  refine ⟨fun _ => False, fun _ => False, fun _ => none, [.dict (scrK ns)], fun _ => [], (.bool true, []), ?_, by rw [hs]; rfl, e, fun x H' O' fp' tf r' _ _ _ _ w => ?_⟩
  · rw [hs]
    refine ⟨[.fz (.dict (scrK ns))], rfl, ⟨rfl, fun i y ey => ?_, fun a z => z.elim, fun a z => z.elim, fun _ _ => rfl, fun _ => List.nodup_nil, fun i j a h1 => by cases h1⟩, fun i v ev => (by cases ev), fun i n hn => ?_⟩
    · cases i with
      | zero =>
        cases ey
        exact ⟨⟨_, rfl, hr _⟩, rfl⟩
      | succ i => cases ey
    · cases i with
      | zero => cases hn
      | succ i => cases hn
  · exact w.bool rfl
end VL
/-! VL: facts of the top. -/
namespace VL
open PySem PySem.Spec PyProof.Rows L2
/-- the parameters take the arguments one by one -/
def BindP (p : Arguments) (ps : List Str) : Prop := ∀ (x qual : Str) (body : List Stmt) (scope : Scope) (kV doc pm : Value) (an : Option Addr) (cdv ct : Value) (us : List Value), us.length = ps.length →
  bindArgs (PySem.W.fnOf x qual p body scope .none kV doc pm an cdv ct) ⟨us, []⟩ = pure (ps.zip us)
def prmOf (top : List Stmt) (x : Str) : Arguments := match textOf top x with
  | some q => q.2.1
  | none => ⟨[], [], none, [], [], none, []⟩
def dDef (q : Str × Arguments × List Stmt × Scope) : He.DefD := ⟨(q.1, none), q.1, q.1, q.2.1, q.2.2.1, q.2.2.2, [], []⟩
def fnList (top : List Stmt) : List He.DefD := (top.filterMap stOf).map dDef
def faList (top : List Stmt) : List He.Fa := (top.filterMap stOf).map (fun q => He.Fa.glo q.1) ++ frees.map He.Fa.free
theorem text_mem {top : List Stmt} {x : Str} {q : Str × Arguments × List Stmt × Scope} (h : textOf top x = some q) : q ∈ top.filterMap stOf ∧ q.1 = x := by
  unfold textOf at h
  refine ⟨List.mem_of_find?_eq_some h, ?_⟩
  have := List.find?_some h
  simpa using this
section
variable {top : List Stmt} {K : PySem.W.Frag} {h : Heap} {mg : Str → Option Value}
theorem head_free (X : K.In h) (G : h.Ns mainGlobals mg) (c : He.SaysD (faList top) (fnList top) K) : ∀ x ∈ frees, mg x = none := fun x hx => by
  have hm : He.Fa.free x ∈ faList top := List.mem_append_right _ (List.mem_map.mpr ⟨x, hx, rfl⟩)
  obtain ⟨i, hi⟩ := List.getElem?_of_mem hm
  exact He.free_ok X G (c.fact i hi)
theorem head_def (X : K.In h) (G : h.Ns mainGlobals mg) (c : He.SaysD (faList top) (fnList top) K) {x : Str} {q : Str × Arguments × List Stmt × Scope} (hq : textOf top x = some q) :
    ∃ fd, FunD K x x q.2.1 q.2.2.1 q.2.2.2 [] [] (He.fAd K (x, none)) fd ∧ mg x = some (.ref (He.fAd K (x, none))) := by
  obtain ⟨hm, rfl⟩ := text_mem hq
  have h1 : dDef q ∈ fnList top := List.mem_map.mpr ⟨q, hm, rfl⟩
  obtain ⟨i, hi⟩ := List.getElem?_of_mem h1
  obtain ⟨fd, F⟩ := c.def_ i hi
  have h2 : He.Fa.glo q.1 ∈ faList top := List.mem_append_left _ (List.mem_map.mpr ⟨q, hm, rfl⟩)
  obtain ⟨j, hj⟩ := List.getElem?_of_mem h2
  exact ⟨fd, F, He.glo_ok X G (c.fact j hj)⟩
/-- the defs' facts for a program's promise -/
theorem head_all {ds : List DefS} (ha : ∀ d ∈ ds, BindP (prmOf top d.name) d.ps) (X : K.In h) (G : h.Ns mainGlobals mg) (c : He.SaysD (faList top) (fnList top) K) :
    ∀ f d, tabOf top ds f = some d → ∃ a fd, FunD K f f d.params d.body d.scope [] [] a fd ∧ mg f = some (.ref a) ∧ PySem.W.keepIn K (.ref a) = true ∧ L2.Binds K fd d.ps [] := by
  intro f d e
  unfold tabOf at e
  split at e
  · rename_i s es
    obtain ⟨h1, rfl⟩ := find_name es
    split at e
    · rename_i q eq
      cases e
      obtain ⟨fd, F, hm⟩ := head_def X G c eq
      refine ⟨_, fd, F, hm, F.kp, FunD.bindsN F fun kV doc pm an cdv ct us hl => ?_⟩
      have hb := ha s h1
      unfold prmOf at hb
      rw [eq] at hb
      exact hb _ _ _ _ kV doc pm an cdv ct us hl
    · cases e
  · cases e
/-- the law's facts, of its def's promise -/
theorem law_facts {F : Nat} {ds : List DefS} {P : Program} {w : World} {g : Fd} {kk n : Nat} {fa : Addr} (hc : chkAll F top ds = true) (ha : ∀ d ∈ ds, BindP (prmOf top d.name) d.ps) (X : K.In h) (G : h.Ns mainGlobals mg) (c : He.SaysD (faList top) (fnList top) K)
    (hg : prog (fnOf ds) kk "law" = some g) (hs : g.sg.pm = [.fz]) (hps : ∀ d, findS ds "law" = some d → d.ps = [("script" : Str)]) (hfa : mg "law" = some (.ref fa)) (hrun : ∀ ns : List Int, ns.length ≤ n → g.run [.dict (scrK ns)] = .ok (.bool true, [])) :
    ∃ (fd : FuncData) (sp : Sp), (∀ (s : Shared) (u : Value), BindsTo s fd ⟨[u], []⟩ [("script", u)]) ∧
      (∀ (H : Hp) (a : Addr) (ns : List Int), ns.length ≤ n → Only H → SqL K H a (ns.map V.int) → sp [.ref a] H (fun v _ => v = .bl true) fun _ _ _ => False) ∧
      ∀ base : Heap, K.In base → base.Ns mainGlobals mg → FnOk P w K mg base CX0 kk fa fd ["script"] sp := by
  have hT := tab_ok hc
  have hA := head_all ha X G c
  have efn := tab_fn hc
  have G1 : ∀ base : Heap, ∃ a fd d, tabOf top ds "law" = some d ∧ g.sg = d.fn.sg ∧ FnOk P w K mg base CX0 kk a fd d.ps (spV K g) ∧ mg "law" = some (.ref a) ∧ PySem.W.keepIn K (.ref a) = true ∧ L2.Binds K fd d.ps [] ∧ FunD K "law" "law" d.params d.body d.scope [] [] a fd :=
    fun base => prog_ok hT (head_free X G c) hA kk "law" g (by rw [efn]; exact hg)
  obtain ⟨a, fd, d, e1, _, _, hm, _, _, FD⟩ := G1 h
  have ea : fa = a := by
    rw [hfa] at hm
    cases hm
    rfl
  subst ea
  have key : d.ps = [("script" : Str)] ∧ BindP d.params d.ps := by
    unfold tabOf at e1
    split at e1
    · rename_i s es
      split at e1
      · rename_i q eq
        cases e1
        have hb := ha s (find_name es).1
        rw [(find_name es).2] at hb
        unfold prmOf at hb
        rw [eq] at hb
        exact ⟨hps s es, hb⟩
      · cases e1
    · cases e1
  refine ⟨fd, spV K g, fun s u => ?_, fun H a ns hn hO hS => law_sp hs hO hS (hrun ns hn), fun base _ _ => ?_⟩
  · have q := FunD.bindsA (ps := d.ps) FD (fun kV doc pm an cdv ct us hl => key.2 _ _ _ _ kV doc pm an cdv ct us hl) s [u] (by rw [key.1]; rfl)
    rw [key.1] at q
    exact q
  · obtain ⟨a', fd', d', e2, _, F', hm', _, _, FD'⟩ := G1 base
    rw [e1] at e2
    cases e2
    rw [hm] at hm'
    cases hm'
    have efd : fd' = fd := by
      obtain ⟨_, _, _, _, _, _, _, _, _, _, rfl, l1, _⟩ := FD.ex
      obtain ⟨_, _, _, _, _, _, _, _, _, _, rfl, l2, _⟩ := FD'.ex
      rw [l1] at l2
      injection l2 with l2
      injection l2 with _ _ l2 _
      injection l2 with l2
      exact l2.symm
    rw [efd, key.1] at F'
    exact F'
end
end VL
/-! VP: reckoning with the evaluator. -/
namespace VL
open PySem
/-! ### places in lists -/
@[simp] theorem ixN_nat {n k : Nat} : L2.ixN n (k : Int) = if k < n then some k else none := by
  unfold L2.ixN
  rw [if_pos (Int.natCast_nonneg k)]
  by_cases h : k < n
  · rw [if_pos h, if_pos (Int.ofNat_lt.mpr h)]; rfl
  · rw [if_neg h, if_neg (fun z => h (Int.ofNat_lt.mp z))]
theorem atI_nat {A : Type} {xs : List A} {k : Nat} : L2.atI xs (k : Int) = xs[k]? := by
  unfold L2.atI
  rw [ixN_nat]
  by_cases h : k < xs.length
  · rw [if_pos h]; rfl
  · rw [if_neg h, List.getElem?_eq_none (by omega)]; rfl
theorem atI_eq {A : Type} {xs : List A} {i : Int} {k : Nat} (h : i = k) : L2.atI xs i = xs[k]? := by rw [h]; exact atI_nat
@[simp] theorem atI_0 {A : Type} {x : A} {xs : List A} : L2.atI (x :: xs) 0 = some x := atI_eq (k := 0) rfl
@[simp] theorem atI_1 {A : Type} {x y : A} {xs : List A} : L2.atI (x :: y :: xs) 1 = some y := atI_eq (k := 1) rfl
@[simp] theorem atI_2 {A : Type} {x y z : A} {xs : List A} : L2.atI (x :: y :: z :: xs) 2 = some z := atI_eq (k := 2) rfl
theorem atI_neg1 {A : Type} {xs : List A} (h : xs ≠ []) : L2.atI xs (-1) = xs.getLast? := by
  unfold L2.atI L2.ixN
  have hl := List.length_pos_iff.mpr h
  rw [if_neg (by decide), if_pos (by omega)]
  show xs[(-1 + (xs.length : Int)).toNat]? = _
  rw [List.getLast?_eq_getElem?]
  congr 1
  omega
/-! ### an environment's slots -/
@[simp] theorem rd_at {r : Env} {i : Nat} : rd i r = match r[i]? with | some s => rdS s | none => stk := id rfl
@[simp] theorem rdS_fz {d : D} : rdS (.fz d) = .ok ⟨true, 0, d⟩ := id rfl
@[simp] theorem rdS_ow {n : Nat} {d : D} : rdS (.ow n d) = .ok ⟨false, n, d⟩ := id rfl
@[simp] theorem rdS_lk {n : Nat} {d : D} : rdS (.lk n d) = .ok ⟨false, n, d⟩ := id rfl
@[simp] theorem rdS_mt {n : Nat} {d : D} : rdS (.mt n d) = .ok ⟨false, n, d⟩ := id rfl
/-! ### calls -/
/-- the def f, called -/
def cl (P : Str → Option Fn) (k : Nat) (f : Str) (ds : List D) : R (D × List D) :=
  match P f with
  | some fn => runF (prog P k) fn ds
  | none => stk
theorem prog_at {P : Str → Option Fn} {k : Nat} {f : Str} {fn : Fn} (h : P f = some fn) : prog P (k + 1) f = some ⟨fn.sg, runF (prog P k) fn⟩ := by
  show (P f).map _ = _
  rw [h]
  rfl
/-- the arguments' way through a call -/
def callW (P : Str → Option Fn) (k : Nat) (f : Str) (sg : Sg) (q : List Av × Env) : R (Val × Env) :=
  resAs q.2 q.1 sg.pm >>= fun ds => if apart (mtsOf q.1 sg.pm) (lksOf q.1 sg.pm) then
    cl P k f ds >>= fun o => putOuts (mtsOf q.1 sg.pm) o.2 q.2 >>= fun s => .ok (⟨true, sg.ret, o.1⟩, s) else stk
theorem ev_call {P : Str → Option Fn} {k : Nat} {f : Str} {fn : Fn} {es : Ex} {r : Env} (h : P f = some fn) : ev (prog P (k + 1)) (.call f es) r = ags (prog P (k + 1)) fn.sg.pm es r >>= callW P k f fn.sg := by
  rw [ev, prog_at h]
  unfold callW cl
  rw [h]
/-! ### comprehensions, loops -/
theorem mapL_map {f : D → Env → R (Option D × Env)} {g : D → Option D} {r : Env} : ∀ {ds : List D}, (∀ d ∈ ds, f d r = .ok (g d, r)) → mapL f ds r = .ok (ds.filterMap g, r)
  | [], _ => rfl
  | d :: ds, h => by
    unfold mapL
    rw [h d List.mem_cons_self, ok_bind]
    dsimp only
    rw [mapL_map fun e he => h e (List.mem_cons_of_mem _ he), ok_bind, List.filterMap_cons]
    cases g d <;> rfl
/-- a loop's turns, by an invariant of what is done -/
theorem forL_inv {f : D → Env → R Out} (I : List D → Env → Prop) {Q : Out → Prop} : ∀ {ds pre : List D} {r : Env}, I pre r →
    (∀ p d q s, pre ++ ds = p ++ d :: q → I p s → ∃ o, f d s = .ok o ∧ match o with | .nx s' => I (p ++ [d]) s' | .ct s' => I (p ++ [d]) s' | .bk s' => Q (.nx s') | .rt v s' => Q (.rt v s')) →
    (∀ s, I (pre ++ ds) s → Q (.nx s)) → ∃ o, forL f ds r = .ok o ∧ Q o
  | [], pre, r, h0, _, hE => ⟨.nx r, rfl, hE r (by rw [List.append_nil]; exact h0)⟩
  | d :: ds, pre, r, h0, hs, hE => by
    obtain ⟨o, ho, q⟩ := hs pre d ds r rfl h0
    have ha : pre ++ d :: ds = (pre ++ [d]) ++ ds := by simp
    have next : ∀ s', I (pre ++ [d]) s' → ∃ o, forL f ds s' = .ok o ∧ Q o := fun s' h' =>
      forL_inv I h' (fun p e q s hp => hs p e q s (by rw [ha]; exact hp)) fun s hp => hE s (by rw [ha]; exact hp)
    unfold forL
    rw [ho, ok_bind]
    cases o with
    | nx s' => exact next s' q
    | ct s' => exact next s' q
    | bk s' => exact ⟨_, rfl, q⟩
    | rt v s' => exact ⟨_, rfl, q⟩
/-- a while, by a measure -/
theorem whileF_inv {c : Env → R (Bool × Env)} {f : Env → R Out} (I : Env → Prop) (m : Env → Nat) {Q : Out → Prop}
    (hs : ∀ s, I s → ∃ b s1, c s = .ok (b, s1) ∧ match b with
      | false => Q (.nx s1)
      | true => ∃ o, f s1 = .ok o ∧ match o with | .nx s' => I s' ∧ m s' < m s | .ct s' => I s' ∧ m s' < m s | .bk s' => Q (.nx s') | .rt v s' => Q (.rt v s')) :
    ∀ n {r}, I r → m r < n → ∃ o, whileF c f n r = .ok o ∧ Q o
  | 0, _, _, h => absurd h (Nat.not_lt_zero _)
  | n + 1, r, h0, hm => by
    obtain ⟨b, s1, e, q⟩ := hs r h0
    unfold whileF
    rw [e, ok_bind]
    cases b with
    | false => exact ⟨_, rfl, q⟩
    | true =>
      obtain ⟨o, eo, q⟩ := q
      dsimp only
      rw [eo, ok_bind]
      cases o with
      | nx s' => exact whileF_inv I m hs n q.1 (by omega)
      | ct s' => exact whileF_inv I m hs n q.1 (by omega)
      | bk s' => exact ⟨_, rfl, q⟩
      | rt v s' => exact ⟨_, rfl, q⟩
end VL
/-! VP: the evaluator, step by step: each step waits for its first part alone. -/
namespace VL
open PySem
@[simp] theorem fzv_eq {d : D} : fzv d = ⟨true, 0, d⟩ := id rfl
@[simp] theorem fzB_eq {b : Bool} : fzB b = ⟨true, 0, .bool b⟩ := id rfl
@[simp] theorem isL_list {xs : List D} : isL (.list xs) = true := id rfl
@[simp] theorem isL_tuple {xs : List D} : isL (.tuple xs) = false := id rfl
@[simp] theorem isL_int {i : Int} : isL (.int i) = false := id rfl
@[simp] theorem isL_bool {i : Bool} : isL (.bool i) = false := id rfl
@[simp] theorem isL_str {i : Str} : isL (.str i) = false := id rfl
@[simp] theorem isL_none : isL (.none) = false := id rfl
@[simp] theorem isL_dict {i} : isL (.dict i) = false := id rfl
@[simp] theorem isNil_nil : isNil .nil = true := id rfl
def isV : Ex → Bool
  | .v _ => true
  | _ => false
section
variable {G : Str → Option Fd} {r r' : Env} {rm : Nat}
/-! ### names -/
def rv : Option Sl → R Val
  | some s => rdS s
  | none => stk
@[simp] theorem rv_fz {d : D} : rv (some (.fz d)) = .ok ⟨true, 0, d⟩ := id rfl
@[simp] theorem rv_ow {n : Nat} {d : D} : rv (some (.ow n d)) = .ok ⟨false, n, d⟩ := id rfl
@[simp] theorem rv_lk {n : Nat} {d : D} : rv (some (.lk n d)) = .ok ⟨false, n, d⟩ := id rfl
@[simp] theorem rv_mt {n : Nat} {d : D} : rv (some (.mt n d)) = .ok ⟨false, n, d⟩ := id rfl
theorem rd_rv {i : Nat} : rd i r = rv r[i]? := by
  unfold rd rv
  cases r[i]? <;> rfl
def prR (x : R Val) (r : Env) : R (Val × Env) := x >>= fun v => .ok (v, r)
@[simp] theorem prR_ok {v : Val} : prR (.ok v) r = .ok (v, r) := id rfl
theorem s_c {d : D} : ev G (.c d) r = .ok (⟨true, 0, d⟩, r) := by simp only [ev]; rfl
theorem s_v {i : Nat} : ev G (.v i) r = prR (rv r[i]?) r := by simp only [ev, rd_rv]; rfl
/-! ### values that are kept -/
def at1 (m : Nat) (v : Val) (r : Env) : R (D × Env) := v.at m >>= fun d => .ok (d, r)
@[simp] theorem at1_own {m n : Nat} {d : D} : at1 m ⟨true, n, d⟩ r = match isL d with | true => if m = 0 ∨ m = n then .ok (d, r) else stk | false => .ok (d, r) := by
  unfold at1 Val.at
  dsimp only
  cases isL d
  · rfl
  · dsimp only; split <;> rfl
@[simp] theorem at1_bor {m n : Nat} {d : D} : at1 m ⟨false, n, d⟩ r = match isL d with | true => if n = 0 ∧ m = 0 then .ok (d, r) else stk | false => .ok (d, r) := by
  unfold at1 Val.at
  dsimp only
  cases isL d
  · rfl
  · dsimp only; split <;> rfl
def tkE (G : Str → Option Fd) (m : Nat) (e : Ex) (r : Env) : R (D × Env) := tk m e (ev G e) r
theorem tk_tkE {m : Nat} {e : Ex} : tk m e (ev G e) r = tkE G m e r := id rfl
def tk1 (m : Nat) (x : R (Val × Env)) : R (D × Env) := x >>= fun p => at1 m p.1 p.2
@[simp] theorem tk1_ok {m : Nat} {v : Val} : tk1 m (.ok (v, r)) = at1 m v r := id rfl
def tkV (m i : Nat) (x : Option Sl) (r : Env) : R (D × Env) :=
  match x with
  | some (.ow n d) => match isL d with
    | true => if m = 0 then .ok (d, r.set i (.fz d)) else if m = n then .ok (d, r.set i .no) else stk
    | false => .ok (d, r)
  | x => rv x >>= fun v => at1 m v r
@[simp] theorem tkV_ow {m i n : Nat} {d : D} : tkV m i (some (.ow n d)) r = match isL d with
    | true => if m = 0 then .ok (d, r.set i (.fz d)) else if m = n then .ok (d, r.set i .no) else stk
    | false => .ok (d, r) := rfl
@[simp] theorem tkV_fz {m i : Nat} {d : D} : tkV m i (some (.fz d)) r = at1 m ⟨true, 0, d⟩ r := id rfl
@[simp] theorem tkV_lk {m i n : Nat} {d : D} : tkV m i (some (.lk n d)) r = at1 m ⟨false, n, d⟩ r := id rfl
@[simp] theorem tkV_mt {m i n : Nat} {d : D} : tkV m i (some (.mt n d)) r = at1 m ⟨false, n, d⟩ r := id rfl
@[simp] theorem tkE_v {m i : Nat} : tkE G m (.v i) r = tkV m i r[i]? r := by
  unfold tkE tk
  simp only [s_v]
  cases h : r[i]? with
  | none => rfl
  | some s => cases s <;> rfl
theorem tkE_o {m : Nat} {e : Ex} (h : isV e = false) : tkE G m e r = tk1 m (ev G e r) := by
  unfold tkE tk1
  cases e <;> first | rfl | cases h
/-! ### operands -/
def opE (G : Str → Option Fd) (pu : Bool) (e : Ex) (r : Env) : R ((Val ⊕ Nat) × Env) := op1 pu e (ev G e) r
def opV (i : Nat) (x : R Val) (r : Env) : R ((Val ⊕ Nat) × Env) := x >>= fun _ => .ok (.inr i, r)
@[simp] theorem opV_ok {i : Nat} {v : Val} : opV i (.ok v) r = .ok (.inr i, r) := id rfl
@[simp] theorem opE_v {pu : Bool} {i : Nat} : opE G pu (.v i) r = opV i (rv r[i]?) r := by
  show (rd i r >>= fun _ => _) = _
  rw [rd_rv]
  rfl
def op2 (pu : Bool) (x : R (Val × Env)) : R ((Val ⊕ Nat) × Env) := x >>= fun p => match isL p.1.d && !p.1.own && !pu with
    | true => stk
    | false => .ok (.inl p.1, p.2)
@[simp] theorem op2_ok {pu : Bool} {v : Val} : op2 pu (.ok (v, r)) = match isL v.d && !v.own && !pu with
    | true => stk
    | false => .ok (.inl v, r) := rfl
theorem opE_o {pu : Bool} {e : Ex} (h : isV e = false) : opE G pu e r = op2 pu (ev G e r) := by
  cases e <;> first | (cases h; done) | rfl
@[simp] theorem res1_l {v : Val} : res1 (.inl v) r = .ok v := id rfl
@[simp] theorem res1_r {i : Nat} : res1 (.inr i) r = rv r[i]? := rd_rv
/-- the first operand once more, the second one's value at hand -/
def bb (x : R Val) (v : Val) (r : Env) : R ((Val × Val) × Env) := x >>= fun u => .ok ((u, v), r)
@[simp] theorem bb_ok {u v : Val} : bb (.ok u) v r = .ok ((u, v), r) := id rfl
def bb2 (x : Val ⊕ Nat) (y : R (Val × Env)) : R ((Val × Val) × Env) := y >>= fun q => bb (res1 x q.2) q.1 q.2
@[simp] theorem bb2_ok {x : Val ⊕ Nat} {v : Val} : bb2 x (.ok (v, r)) = bb (res1 x r) v r := id rfl
def bb1 (G : Str → Option Fd) (b : Ex) (x : R ((Val ⊕ Nat) × Env)) : R ((Val × Val) × Env) := x >>= fun p => bb2 p.1 (ev G b p.2)
@[simp] theorem bb1_ok {b : Ex} {x : Val ⊕ Nat} : bb1 G b (.ok (x, r)) = bb2 x (ev G b r) := id rfl
theorem ops_bb {pu : Bool} {a b : Ex} : ops pu a (ev G a) (ev G b) r = bb1 G b (opE G pu a r) := id rfl
/-! ### what is made -/
def mk1 (x : R D) (r : Env) : R (Val × Env) := x >>= fun d => .ok (⟨true, 1, d⟩, r)
@[simp] theorem mk1_ok {d : D} : mk1 (.ok d) r = .ok (⟨true, 1, d⟩, r) := id rfl
def mk0 (x : R D) (r : Env) : R (Val × Env) := x >>= fun d => .ok (⟨true, 0, d⟩, r)
@[simp] theorem mk0_ok {d : D} : mk0 (.ok d) r = .ok (⟨true, 0, d⟩, r) := id rfl
def mkB (x : R Bool) (r : Env) : R (Val × Env) := x >>= fun d => .ok (⟨true, 0, .bool d⟩, r)
@[simp] theorem mkB_ok {d : Bool} : mkB (.ok d) r = .ok (⟨true, 0, .bool d⟩, r) := id rfl
/-- no item is someone's -/
def elv (v : Val) : Bool := v.own || decide (v.n ≤ 1) || !((items? v.d).toOption.getD []).any isL
@[simp] theorem elv_own {n : Nat} {d : D} : elv ⟨true, n, d⟩ = true := id rfl
@[simp] theorem elv_0 {d : D} : elv ⟨false, 0, d⟩ = true := id rfl
@[simp] theorem elv_1 {d : D} : elv ⟨false, 1, d⟩ = true := id rfl
@[simp] theorem elv_int {o : Bool} {n : Nat} {d : Int} : elv ⟨o, n, .int d⟩ = true := by simp [elv, items?, Except.toOption]
def bin1 (o : Operator) (x : R ((Val × Val) × Env)) : R (Val × Env) := x >>= fun p => if elv p.1.1 && elv p.1.2 then mk1 (bop o p.1.1.d p.1.2.d) p.2 else stk
@[simp] theorem bin1_ok {o : Operator} {u v : Val} : bin1 o (.ok ((u, v), r)) = if elv u && elv v then mk1 (bop o u.d v.d) r else stk := id rfl
theorem s_bin {o : Operator} {a b : Ex} : ev G (.bin o a b) r = bin1 o (bb1 G b (opE G (pureX G b) a r)) := by
  simp only [ev, ops_bb]
  rfl
def cmp1 (o : CmpOp) (x : R ((Val × Val) × Env)) : R (Val × Env) := x >>= fun p => mkB (cop o p.1.1.d p.1.2.d) p.2
@[simp] theorem cmp1_ok {o : CmpOp} {u v : Val} : cmp1 o (.ok ((u, v), r)) = mkB (cop o u.d v.d) r := id rfl
theorem s_cmp {o : CmpOp} {a b : Ex} : ev G (.cmp o a b) r = cmp1 o (bb1 G b (opE G (pureX G b) a r)) := by
  simp only [ev, ops_bb]
  rfl
def ix1 (x : R ((Val × Val) × Env)) : R (Val × Env) := x >>= fun p => prR (ixD p.1.1 p.1.2.d) p.2
@[simp] theorem ix1_ok {u v : Val} : ix1 (.ok ((u, v), r)) = prR (ixD u v.d) r := id rfl
theorem s_ix {a b : Ex} : ev G (.ix a b) r = ix1 (bb1 G b (opE G (pureX G b) a r)) := by
  simp only [ev, ops_bb]
  rfl
def ixL (o : Bool) (n : Nat) : Option D → R Val
  | some y => .ok ⟨o, if o then 0 else n - 1, y⟩
  | none => stk
@[simp] theorem ixL_some {o : Bool} {n : Nat} {y : D} : ixL o n (some y) = .ok ⟨o, if o then 0 else n - 1, y⟩ := id rfl
def ixT : Option D → R Val
  | some y => .ok ⟨true, 0, y⟩
  | none => stk
@[simp] theorem ixT_some {y : D} : ixT (some y) = .ok ⟨true, 0, y⟩ := id rfl
@[simp] theorem ixD_list {o : Bool} {n : Nat} {xs : List D} {k : Int} : ixD ⟨o, n, .list xs⟩ (.int k) = ixL o n (L2.atI xs k) := id rfl
@[simp] theorem ixD_tup {o : Bool} {n : Nat} {xs : List D} {k : Int} : ixD ⟨o, n, .tuple xs⟩ (.int k) = ixT (L2.atI xs k) := id rfl
@[simp] theorem ixD_scr {o : Bool} {n : Nat} {xs : List D} {k : Int} : ixD ⟨o, n, .dict [(.none, .list xs)]⟩ (.int k) = ixT (L2.atI xs k) := id rfl
def un1 (o : UnaryOp) (x : R (Val × Env)) : R (Val × Env) := x >>= fun p => mk0 (uop o p.1.d) p.2
@[simp] theorem un1_ok {o : UnaryOp} {v : Val} : un1 o (.ok (v, r)) = mk0 (uop o v.d) r := id rfl
theorem s_un {o : UnaryOp} {a : Ex} : ev G (.un o a) r = un1 o (ev G a r) := by simp only [ev]; rfl
/-! ### tests -/
def tr1 (x : R Bool) (r : Env) : R (Bool × Env) := x >>= fun b => .ok (b, r)
@[simp] theorem tr1_ok {b : Bool} : tr1 (.ok b) r = .ok (b, r) := id rfl
def trE (x : R (Val × Env)) : R (Bool × Env) := x >>= fun p => tr1 (truth p.1.d) p.2
@[simp] theorem trE_ok {v : Val} : trE (.ok (v, r)) = tr1 (truth v.d) r := id rfl
theorem s_evB {e : Ex} : evB G e r = trE (ev G e r) := id rfl
def not1 (x : R (Bool × Env)) : R (Val × Env) := x >>= fun p => .ok (⟨true, 0, .bool !p.1⟩, p.2)
@[simp] theorem not1_ok {b : Bool} : not1 (.ok (b, r)) = .ok (⟨true, 0, .bool !b⟩, r) := id rfl
theorem s_not {a : Ex} : ev G (.tnot a) r = not1 (trE (ev G a r)) := by
  simp only [ev, not1, trE, tr1, bind_assoc]
  rfl
def bv (x : R (Bool × Env)) : R (Val × Env) := x >>= fun p => .ok (⟨true, 0, .bool p.1⟩, p.2)
@[simp] theorem bv_ok {b : Bool} : bv (.ok (b, r)) = .ok (⟨true, 0, .bool b⟩, r) := id rfl
def and1 (G : Str → Option Fd) (b : Ex) (x : R (Bool × Env)) : R (Val × Env) := x >>= fun p => match p.1 with
  | true => bv (trE (ev G b p.2))
  | false => .ok (⟨true, 0, .bool false⟩, p.2)
@[simp] theorem and1_t {b : Ex} : and1 G b (.ok (true, r)) = bv (trE (ev G b r)) := id rfl
@[simp] theorem and1_f {b : Ex} : and1 G b (.ok (false, r)) = .ok (⟨true, 0, .bool false⟩, r) := id rfl
def or1 (G : Str → Option Fd) (b : Ex) (x : R (Bool × Env)) : R (Val × Env) := x >>= fun p => match p.1 with
  | true => .ok (⟨true, 0, .bool true⟩, p.2)
  | false => bv (trE (ev G b p.2))
@[simp] theorem or1_t {b : Ex} : or1 G b (.ok (true, r)) = .ok (⟨true, 0, .bool true⟩, r) := id rfl
@[simp] theorem or1_f {b : Ex} : or1 G b (.ok (false, r)) = bv (trE (ev G b r)) := id rfl
theorem bind_cases {A B : Type} {x : R A} {f g : A → R B} (h : ∀ a, f a = g a) : (x >>= f) = (x >>= g) := by
  cases x with
  | error e => rfl
  | ok a => exact h a
theorem s_tand {a b : Ex} : ev G (.tand a b) r = and1 G b (trE (ev G a r)) := by
  simp only [ev, and1, trE, tr1, bv, bind_assoc, ok_bind]
  refine bind_cases fun p => bind_cases fun k => ?_
  cases k <;> rfl
theorem s_tor {a b : Ex} : ev G (.tor a b) r = or1 G b (trE (ev G a r)) := by
  simp only [ev, or1, trE, tr1, bv, bind_assoc, ok_bind]
  refine bind_cases fun p => bind_cases fun k => ?_
  cases k <;> rfl
def tb1 (x : R (Val × Env)) : R (Bool × Env) := x >>= fun p => tr1 (asB p.1.d) p.2
@[simp] theorem tb1_ok {v : Val} : tb1 (.ok (v, r)) = tr1 (asB v.d) r := id rfl
@[simp] theorem asB_b {b : Bool} : asB (.bool b) = .ok b := id rfl
@[simp] theorem asI_i {i : Int} : asI (.int i) = .ok i := id rfl
def vand1 (G : Str → Option Fd) (b : Ex) (x : R (Bool × Env)) : R (Val × Env) := x >>= fun p => match p.1 with
  | true => bv (tb1 (ev G b p.2))
  | false => .ok (⟨true, 0, .bool false⟩, p.2)
@[simp] theorem vand1_t {b : Ex} : vand1 G b (.ok (true, r)) = bv (tb1 (ev G b r)) := id rfl
@[simp] theorem vand1_f {b : Ex} : vand1 G b (.ok (false, r)) = .ok (⟨true, 0, .bool false⟩, r) := id rfl
def vor1 (G : Str → Option Fd) (b : Ex) (x : R (Bool × Env)) : R (Val × Env) := x >>= fun p => match p.1 with
  | true => .ok (⟨true, 0, .bool true⟩, p.2)
  | false => bv (tb1 (ev G b p.2))
@[simp] theorem vor1_t {b : Ex} : vor1 G b (.ok (true, r)) = .ok (⟨true, 0, .bool true⟩, r) := id rfl
@[simp] theorem vor1_f {b : Ex} : vor1 G b (.ok (false, r)) = bv (tb1 (ev G b r)) := id rfl
theorem s_vand {a b : Ex} : ev G (.vand a b) r = vand1 G b (tb1 (ev G a r)) := by
  simp only [ev, vand1, tb1, tr1, bv, bind_assoc, ok_bind]
  refine bind_cases fun p => bind_cases fun k => ?_
  cases k <;> rfl
theorem s_vor {a b : Ex} : ev G (.vor a b) r = vor1 G b (tb1 (ev G a r)) := by
  simp only [ev, vor1, tb1, tr1, bv, bind_assoc, ok_bind]
  refine bind_cases fun p => bind_cases fun k => ?_
  cases k <;> rfl
def fv (x : R (D × Env)) : R (Val × Env) := x >>= fun q => .ok (⟨true, 0, q.1⟩, q.2)
@[simp] theorem fv_ok {d : D} : fv (.ok (d, r)) = .ok (⟨true, 0, d⟩, r) := id rfl
def ife1 (G : Str → Option Fd) (a b : Ex) (x : R (Bool × Env)) : R (Val × Env) := x >>= fun p => match p.1 with
  | true => fv (tkE G 0 a p.2)
  | false => fv (tkE G 0 b p.2)
@[simp] theorem ife1_t {a b : Ex} : ife1 G a b (.ok (true, r)) = fv (tkE G 0 a r) := id rfl
@[simp] theorem ife1_f {a b : Ex} : ife1 G a b (.ok (false, r)) = fv (tkE G 0 b r) := id rfl
theorem s_ife {t a b : Ex} : ev G (.ife t a b) r = ife1 G a b (trE (ev G t r)) := by
  simp only [ev, ife1, trE, tr1, fv, tk_tkE, bind_assoc, ok_bind]
  refine bind_cases fun p => bind_cases fun k => ?_
  cases k <;> rfl
/-- a number -/
def in2 (x : R Int) (r : Env) : R (Int × Env) := x >>= fun i => .ok (i, r)
@[simp] theorem in2_ok {i : Int} : in2 (.ok i) r = .ok (i, r) := id rfl
def in1 (x : R (Val × Env)) : R (Int × Env) := x >>= fun p => in2 (asI p.1.d) p.2
@[simp] theorem in1_ok {v : Val} : in1 (.ok (v, r)) = in2 (asI v.d) r := id rfl
def chn4 (o' : CmpOp) (j : Int) (x : R (Int × Env)) : R (Val × Env) := x >>= fun p => mkB (cop o' (.int j) (.int p.1)) p.2
@[simp] theorem chn4_ok {o' : CmpOp} {j l : Int} : chn4 o' j (.ok (l, r)) = mkB (cop o' (.int j) (.int l)) r := id rfl
def chn3 (G : Str → Option Fd) (o' : CmpOp) (c : Ex) (j : Int) (x : R Bool) (r : Env) : R (Val × Env) := x >>= fun k => match k with
  | true => chn4 o' j (in1 (ev G c r))
  | false => .ok (⟨true, 0, .bool false⟩, r)
@[simp] theorem chn3_t {o' : CmpOp} {c : Ex} {j : Int} : chn3 G o' c j (.ok true) r = chn4 o' j (in1 (ev G c r)) := id rfl
@[simp] theorem chn3_f {o' : CmpOp} {c : Ex} {j : Int} : chn3 G o' c j (.ok false) r = .ok (⟨true, 0, .bool false⟩, r) := id rfl
def chn2 (G : Str → Option Fd) (o o' : CmpOp) (c : Ex) (i : Int) (x : R (Int × Env)) : R (Val × Env) := x >>= fun p => chn3 G o' c p.1 (cop o (.int i) (.int p.1)) p.2
@[simp] theorem chn2_ok {o o' : CmpOp} {c : Ex} {i j : Int} : chn2 G o o' c i (.ok (j, r)) = chn3 G o' c j (cop o (.int i) (.int j)) r := id rfl
def chn1 (G : Str → Option Fd) (o o' : CmpOp) (b c : Ex) (x : R (Int × Env)) : R (Val × Env) := x >>= fun p => chn2 G o o' c p.1 (in1 (ev G b p.2))
@[simp] theorem chn1_ok {o o' : CmpOp} {b c : Ex} {i : Int} : chn1 G o o' b c (.ok (i, r)) = chn2 G o o' c i (in1 (ev G b r)) := id rfl
theorem s_chn {o o' : CmpOp} {a b c : Ex} : ev G (.chn o o' a b c) r = chn1 G o o' b c (in1 (ev G a r)) := by
  simp only [ev, chn1, chn2, chn3, chn4, in1, in2, mkB, bind_assoc, ok_bind]
  refine bind_cases fun p => bind_cases fun k => bind_cases fun q => bind_cases fun l => bind_cases fun z => ?_
  cases z
  · rfl
  · rfl
end
end VL
/-! VP: the evaluator, step by step, the rest. -/
namespace VL
open PySem
section
variable {G : Str → Option Fd} {r r' : Env} {rm : Nat}
/-! ### displays -/
def cs2 (d : D) (x : R (List D × Env)) : R (List D × Env) := x >>= fun q => .ok (d :: q.1, q.2)
@[simp] theorem cs2_ok {d : D} {ds : List D} : cs2 d (.ok (ds, r)) = .ok (d :: ds, r) := id rfl
def cs1 (G : Str → Option Fd) (m : Nat) (es : Ex) (x : R (D × Env)) : R (List D × Env) := x >>= fun p => cs2 p.1 (evs G m es p.2)
@[simp] theorem cs1_ok {m : Nat} {es : Ex} {d : D} : cs1 G m es (.ok (d, r)) = cs2 d (evs G m es r) := id rfl
theorem s_nil {m : Nat} : evs G m .nil r = .ok ([], r) := by simp only [evs]
theorem s_cons {m : Nat} {e es : Ex} : evs G m (.cons e es) r = cs1 G m es (tkE G m e r) := by simp only [evs]; rfl
def tup1 (x : R (List D × Env)) : R (Val × Env) := x >>= fun p => if p.1.length ≤ lim then .ok (⟨true, 0, .tuple p.1⟩, p.2) else stk
@[simp] theorem tup1_ok {ds : List D} : tup1 (.ok (ds, r)) = if ds.length ≤ lim then .ok (⟨true, 0, .tuple ds⟩, r) else stk := id rfl
theorem s_tup {es : Ex} : ev G (.tup es) r = tup1 (evs G 0 es r) := by simp only [ev]; rfl
def lst1 (n : Nat) (x : R (List D × Env)) : R (Val × Env) := x >>= fun p => if p.1.length ≤ lim then .ok (⟨true, n, .list p.1⟩, p.2) else stk
@[simp] theorem lst1_ok {n : Nat} {ds : List D} : lst1 n (.ok (ds, r)) = if ds.length ≤ lim then .ok (⟨true, n, .list ds⟩, r) else stk := id rfl
theorem s_lst {n : Nat} {es : Ex} : ev G (.lst (n + 1) es) r = lst1 (n + 1) (evs G n es r) := by
  rw [ev, if_neg (by omega)]
  rfl
@[simp] theorem lim_pos {n : Nat} (h : n ≤ 1000000) : (n ≤ lim) = True := by simp only [eq_iff_iff, iff_true]; unfold lim; omega
/-! ### slices -/
def so1 (x : R (Int × Env)) : R (Option Int × Env) := x >>= fun p => .ok (some p.1, p.2)
@[simp] theorem so1_ok {i : Int} : so1 (.ok (i, r)) = .ok (some i, r) := id rfl
def slP (G : Str → Option Fd) (e : Ex) (r : Env) : R (Option Int × Env) := match e with | .nil => .ok (none, r) | e => so1 (in1 (ev G e r))
@[simp] theorem slP_nil : slP G .nil r = .ok (none, r) := id rfl
theorem slP_o {e : Ex} (h : isNil e = false) : slP G e r = so1 (in1 (ev G e r)) := by cases e <;> first | rfl | cases h
def sl4 (l h : Option Int) (x : R Val) (r : Env) : R (Val × Env) := x >>= fun v => prR (slD v l h) r
@[simp] theorem sl4_ok {l h : Option Int} {v : Val} : sl4 l h (.ok v) r = prR (slD v l h) r := id rfl
def sl3 (u : Val ⊕ Nat) (l : Option Int) (x : R (Option Int × Env)) : R (Val × Env) := x >>= fun p => sl4 l p.1 (res1 u p.2) p.2
@[simp] theorem sl3_ok {u : Val ⊕ Nat} {l h : Option Int} : sl3 u l (.ok (h, r)) = sl4 l h (res1 u r) r := id rfl
def sl2 (G : Str → Option Fd) (hi : Ex) (u : Val ⊕ Nat) (x : R (Option Int × Env)) : R (Val × Env) := x >>= fun p => sl3 u p.1 (slP G hi p.2)
@[simp] theorem sl2_ok {hi : Ex} {u : Val ⊕ Nat} {l : Option Int} : sl2 G hi u (.ok (l, r)) = sl3 u l (slP G hi r) := id rfl
def sl1 (G : Str → Option Fd) (lo hi : Ex) (x : R ((Val ⊕ Nat) × Env)) : R (Val × Env) := x >>= fun p => sl2 G hi p.1 (slP G lo p.2)
@[simp] theorem sl1_ok {lo hi : Ex} {u : Val ⊕ Nat} : sl1 G lo hi (.ok (u, r)) = sl2 G hi u (slP G lo r) := id rfl
theorem s_sl {a lo hi : Ex} : ev G (.sl a lo hi) r = sl1 G lo hi (opE G (pureX G lo && pureX G hi) a r) := by
  rw [ev]
  refine bind_cases fun p => ?_
  show _ = sl2 G hi p.1 (slP G lo p.2)
  have key : ∀ (e : Ex) (r : Env), (match e with | .nil => (.ok (none, r) : R (Option Int × Env)) | e => ev G e r >>= fun q => asI q.1.d >>= fun i => .ok (some i, q.2)) = slP G e r := fun e r => by
    cases e <;> first | rfl | (simp only [slP, so1, in1, in2, bind_assoc, ok_bind])
  unfold sl2
  rw [← key lo]
  refine bind_cases fun l => ?_
  unfold sl3
  rw [← key hi]
  refine bind_cases fun h => ?_
  rfl
/-- a slice -/
def cutX {A : Type} (xs : List A) (lo hi : Option Int) : List A := (xs.drop (HT.sIx xs.length 0 lo)).take (HT.sIx xs.length xs.length hi - HT.sIx xs.length 0 lo)
theorem cutX_map {A B : Type} {f : A → B} {xs : List A} {lo hi : Option Int} : cutX (xs.map f) lo hi = (cutX xs lo hi).map f := by
  unfold cutX
  rw [List.length_map, List.map_take, List.map_drop]
theorem cutX_mem {A : Type} {xs : List A} {lo hi : Option Int} {x : A} (h : x ∈ cutX xs lo hi) : x ∈ xs := List.mem_of_mem_drop (List.mem_of_mem_take h)
theorem cutX_len {A : Type} {xs : List A} {lo hi : Option Int} : (cutX xs lo hi).length ≤ xs.length := by
  unfold cutX
  rw [List.length_take, List.length_drop]
  omega
@[simp] theorem slD_tup {o : Bool} {n : Nat} {xs : List D} {l h : Option Int} : slD ⟨o, n, .tuple xs⟩ l h = .ok ⟨true, 0, .tuple (cutX xs l h)⟩ := id rfl
@[simp] theorem slD_list {o : Bool} {n : Nat} {xs : List D} {l h : Option Int} : slD ⟨o, n, .list xs⟩ l h = if elz o n xs then .ok ⟨true, 1, .list (cutX xs l h)⟩ else stk := id rfl
@[simp] theorem elz_own {n : Nat} {xs : List D} : elz true n xs = true := id rfl
@[simp] theorem elz_0 {o : Bool} {xs : List D} : elz o 0 xs = true := by cases o <;> rfl
@[simp] theorem elz_1 {o : Bool} {xs : List D} : elz o 1 xs = true := by cases o <;> rfl
/-! ### built-in functions -/
def b11 (f : B1) (x : R (Val × Env)) : R (Val × Env) := x >>= fun p => prR (b1D f p.1) p.2
@[simp] theorem b11_ok {f : B1} {v : Val} : b11 f (.ok (v, r)) = prR (b1D f v) r := id rfl
theorem s_b1 {f : B1} {a : Ex} : ev G (.b1 f a) r = b11 f (ev G a r) := by simp only [ev]; rfl
def b22 (f : B2) (a : D) (x : R (Val × Env)) : R (Val × Env) := x >>= fun q => mk0 (b2D f a q.1.d) q.2
@[simp] theorem b22_ok {f : B2} {a : D} {v : Val} : b22 f a (.ok (v, r)) = mk0 (b2D f a v.d) r := id rfl
def b21 (G : Str → Option Fd) (f : B2) (b : Ex) (x : R (Val × Env)) : R (Val × Env) := x >>= fun p => b22 f p.1.d (ev G b p.2)
@[simp] theorem b21_ok {f : B2} {b : Ex} {v : Val} : b21 G f b (.ok (v, r)) = b22 f v.d (ev G b r) := id rfl
theorem s_b2 {f : B2} {a b : Ex} : ev G (.b2 f a b) r = b21 G f b (ev G a r) := by simp only [ev]; rfl
def isi1 (t : Ty) (x : R (Val × Env)) : R (Val × Env) := x >>= fun p => mkB (isT t p.1.d) p.2
@[simp] theorem isi1_ok {t : Ty} {v : Val} : isi1 t (.ok (v, r)) = mkB (isT t v.d) r := id rfl
theorem s_isi {t : Ty} {a : Ex} : ev G (.isi a t) r = isi1 t (ev G a r) := by simp only [ev]; rfl
def m12 (f : M1) (a : D) (x : R (Val × Env)) : R (Val × Env) := x >>= fun q => mk0 (m1D f a q.1.d) q.2
@[simp] theorem m12_ok {f : M1} {a : D} {v : Val} : m12 f a (.ok (v, r)) = mk0 (m1D f a v.d) r := id rfl
def m11 (G : Str → Option Fd) (f : M1) (b : Ex) (x : R (Val × Env)) : R (Val × Env) := x >>= fun p => if isSq p.1.d && (!isL p.1.d || p.1.own || pureX G b) then m12 f p.1.d (ev G b p.2) else stk
@[simp] theorem m11_ok {f : M1} {b : Ex} {v : Val} : m11 G f b (.ok (v, r)) = if isSq v.d && (!isL v.d || v.own || pureX G b) then m12 f v.d (ev G b r) else stk := id rfl
theorem s_m1 {f : M1} {a b : Ex} : ev G (.m1 f a b) r = m11 G f b (ev G a r) := by simp only [ev]; rfl
@[simp] theorem isSq_l {xs : List D} : isSq (.list xs) = true := id rfl
@[simp] theorem isSq_t {xs : List D} : isSq (.tuple xs) = true := id rfl
/-! ### iterables -/
def it1 (a : Ex) (x : R (Val × Env)) : R ((Nat × List D) × Env) := x >>= fun p => if wOk a p.1 p.2 then itemsV p.1 >>= fun q => .ok (q, p.2) else stk
def itQ (x : R (Nat × List D)) (r : Env) : R ((Nat × List D) × Env) := x >>= fun q => .ok (q, r)
@[simp] theorem itQ_ok {q : Nat × List D} : itQ (.ok q) r = .ok (q, r) := id rfl
@[simp] theorem it1_ok {a : Ex} {v : Val} : it1 a (.ok (v, r)) = if wOk a v r then itQ (itemsV v) r else stk := id rfl
theorem s_it {a : Ex} : evI G (.it a) r = it1 a (ev G a r) := by simp only [evI]; rfl
@[simp] theorem itemsV_list {o : Bool} {n : Nat} {xs : List D} : itemsV ⟨o, n, .list xs⟩ = .ok (if o then 0 else n - 1, xs) := id rfl
@[simp] theorem itemsV_tup {o : Bool} {n : Nat} {xs : List D} : itemsV ⟨o, n, .tuple xs⟩ = .ok (0, xs) := id rfl
@[simp] theorem wOk_own {a : Ex} {n : Nat} {d : D} : wOk a ⟨true, n, d⟩ r = true := id rfl
@[simp] theorem wOk_0 {a : Ex} {d : D} : wOk a ⟨false, 0, d⟩ r = true := id rfl
@[simp] theorem wOk_tup {a : Ex} {o : Bool} {n : Nat} {xs : List D} : wOk a ⟨o, n, .tuple xs⟩ r = true := by simp [wOk]
@[simp] theorem wOk1_own {a : Ex} {n : Nat} {d : D} : wOk1 a ⟨true, n, d⟩ r = true := id rfl
@[simp] theorem wOk1_0 {a : Ex} {d : D} : wOk1 a ⟨false, 0, d⟩ r = true := id rfl
@[simp] theorem wOk1_tup {a : Ex} {o : Bool} {n : Nat} {xs : List D} : wOk1 a ⟨o, n, .tuple xs⟩ r = true := by simp [wOk1]
def lkO : Option Sl → Bool
  | some (.lk _ _) => true
  | _ => false
@[simp] theorem lkO_lk {n : Nat} {d : D} : lkO (some (.lk n d)) = true := id rfl
theorem lkd_eq {i : Nat} : lkd i r = lkO r[i]? := by
  unfold lkd lkO
  cases r[i]? with
  | none => rfl
  | some s => cases s <;> rfl
@[simp] theorem wOk_v {i n : Nat} {xs : List D} : wOk (.v i) ⟨false, n + 1, .list xs⟩ r = lkO r[i]? := by
  simp [wOk, lkd_eq]
@[simp] theorem wOk_vix {i n : Nat} {e : Ex} {xs : List D} : wOk (.ix (.v i) e) ⟨false, n + 1, .list xs⟩ r = lkO r[i]? := by
  simp [wOk, lkd_eq]
@[simp] theorem wOk1_v {i n : Nat} {xs : List D} : wOk1 (.v i) ⟨false, n + 1, .list xs⟩ r = lkO r[i]? := by
  simp [wOk1, lkd_eq]
def rg2 (f : Int → Int → List D) (i : Int) (x : R (Int × Env)) : R ((Nat × List D) × Env) := x >>= fun q => if bnd i && bnd q.1 then .ok ((0, f i q.1), q.2) else stk
def rg3 (f : Int → Int → List D) (i j : Int) (r : Env) : Bool → Bool → R ((Nat × List D) × Env)
  | true, true => .ok ((0, f i j), r)
  | _, _ => stk
@[simp] theorem rg3_ok {f : Int → Int → List D} {i j : Int} : rg3 f i j r true true = .ok ((0, f i j), r) := id rfl
@[simp] theorem rg2_ok {f : Int → Int → List D} {i j : Int} : rg2 f i (.ok (j, r)) = rg3 f i j r (bnd i) (bnd j) := by
  unfold rg2
  rw [ok_bind]
  dsimp only
  cases bnd i <;> cases bnd j <;> rfl
def rg1 (G : Str → Option Fd) (f : Int → Int → List D) (hi : Ex) (x : R (Int × Env)) : R ((Nat × List D) × Env) := x >>= fun p => rg2 f p.1 (in1 (ev G hi p.2))
@[simp] theorem rg1_ok {f : Int → Int → List D} {hi : Ex} {i : Int} : rg1 G f hi (.ok (i, r)) = rg2 f i (in1 (ev G hi r)) := id rfl
def rngU (i j : Int) : List D := rngL i (j - i).toNat
def rngD (i j : Int) : List D := rngdL i (i - j).toNat
def rngR (i j : Int) : List D := rngdL (j - 1) (j - i).toNat
theorem s_rng {lo hi : Ex} : evI G (.rng lo hi) r = rg1 G rngU hi (in1 (ev G lo r)) := by
  simp only [evI, rg1, rg2, in1, in2, bind_assoc, ok_bind]; rfl
theorem s_rngd {lo hi : Ex} : evI G (.rngd lo hi) r = rg1 G rngD hi (in1 (ev G lo r)) := by
  simp only [evI, rg1, rg2, in1, in2, bind_assoc, ok_bind]; rfl
theorem s_rrng {lo hi : Ex} : evI G (.rrng lo hi) r = rg1 G rngR hi (in1 (ev G lo r)) := by
  simp only [evI, rg1, rg2, in1, in2, bind_assoc, ok_bind]; rfl
def en1 (a : Ex) (x : R (Val × Env)) : R ((Nat × List D) × Env) := x >>= fun p => if wOk a p.1 p.2 && isL p.1.d then itemsZ p.1 >>= fun xs => .ok ((0, enumL 0 xs), p.2) else stk
def enQ (x : R (List D)) (r : Env) : R ((Nat × List D) × Env) := x >>= fun xs => .ok ((0, enumL 0 xs), r)
@[simp] theorem enQ_ok {xs : List D} : enQ (.ok xs) r = .ok ((0, enumL 0 xs), r) := id rfl
@[simp] theorem en1_ok {a : Ex} {v : Val} : en1 a (.ok (v, r)) = if wOk a v r && isL v.d then enQ (itemsZ v) r else stk := id rfl
theorem s_enum {a : Ex} : evI G (.enum a) r = en1 a (ev G a r) := by simp only [evI]; rfl
@[simp] theorem itemsZ_l {o : Bool} {n : Nat} {xs : List D} : itemsZ ⟨o, n, .list xs⟩ = if elz o n xs then .ok xs else stk := id rfl
@[simp] theorem itemsZ_t {o : Bool} {n : Nat} {xs : List D} : itemsZ ⟨o, n, .tuple xs⟩ = .ok xs := id rfl
def zpR (xs : List D) (x : R (List D)) (r : Env) : R ((Nat × List D) × Env) := x >>= fun ys => .ok ((0, zipL xs ys), r)
@[simp] theorem zpR_ok {xs ys : List D} : zpR xs (.ok ys) r = .ok ((0, zipL xs ys), r) := id rfl
def zpQ (x y : R (List D)) (r : Env) : R ((Nat × List D) × Env) := x >>= fun xs => zpR xs y r
@[simp] theorem zpQ_ok {xs : List D} {y : R (List D)} : zpQ (.ok xs) y r = zpR xs y r := id rfl
def zp1 (a b : Ex) (x : R ((Val × Val) × Env)) : R ((Nat × List D) × Env) := x >>= fun p => if wOk1 a p.1.1 p.2 && wOk1 b p.1.2 p.2 && (isL p.1.1.d == isL p.1.2.d) then zpQ (itemsZ p.1.1) (itemsZ p.1.2) p.2 else stk
@[simp] theorem zp1_ok {a b : Ex} {u v : Val} : zp1 a b (.ok ((u, v), r)) = if wOk1 a u r && wOk1 b v r && (isL u.d == isL v.d) then zpQ (itemsZ u) (itemsZ v) r else stk := id rfl
theorem s_zip {a b : Ex} : evI G (.zip a b) r = zp1 a b (bb1 G b (opE G (pureX G b) a r)) := by simp only [evI, ops_bb]; rfl
def rvI1 (a : Ex) (x : R (Val × Env)) : R ((Nat × List D) × Env) := x >>= fun p => if wOk a p.1 p.2 then itemsV p.1 >>= fun q => .ok ((q.1, q.2.reverse), p.2) else stk
def rvQ (x : R (Nat × List D)) (r : Env) : R ((Nat × List D) × Env) := x >>= fun q => .ok ((q.1, q.2.reverse), r)
@[simp] theorem rvQ_ok {q : Nat × List D} : rvQ (.ok q) r = .ok ((q.1, q.2.reverse), r) := id rfl
@[simp] theorem rvI1_ok {a : Ex} {v : Val} : rvI1 a (.ok (v, r)) = if wOk a v r then rvQ (itemsV v) r else stk := id rfl
theorem s_rev {a : Ex} : evI G (.rev a) r = rvI1 a (ev G a r) := by simp only [evI]; rfl
def l11 (x : R ((Nat × List D) × Env)) : R (Val × Env) := x >>= fun p => if p.1.1 = 0 ∧ p.1.2.length ≤ lim then .ok (⟨true, 1, .list p.1.2⟩, p.2) else stk
@[simp] theorem l11_ok {n : Nat} {xs : List D} : l11 (.ok ((n, xs), r)) = if n = 0 ∧ xs.length ≤ lim then .ok (⟨true, 1, .list xs⟩, r) else stk := id rfl
theorem s_lst1 {it : Ex} : ev G (.lst1 it) r = l11 (evI G it r) := by rw [ev]; rfl
def t11 (x : R ((Nat × List D) × Env)) : R (Val × Env) := x >>= fun p => if p.1.1 = 0 ∧ p.1.2.length ≤ lim then .ok (⟨true, 0, .tuple p.1.2⟩, p.2) else stk
@[simp] theorem t11_ok {n : Nat} {xs : List D} : t11 (.ok ((n, xs), r)) = if n = 0 ∧ xs.length ≤ lim then .ok (⟨true, 0, .tuple xs⟩, r) else stk := id rfl
theorem s_tup1 {it : Ex} : ev G (.tup1 it) r = t11 (evI G it r) := by rw [ev]; rfl
/-! ### comprehensions -/
def some1 (own : List Nat) (x : R (D × Env)) : R (Option D × Env) := x >>= fun p => .ok (some p.1, wipeS own p.2)
@[simp] theorem some1_ok {own : List Nat} {d : D} : some1 own (.ok (d, r)) = .ok (some d, wipeS own r) := id rfl
def tn2 (G : Str → Option Fd) (m : Nat) (xe : Ex) (own : List Nat) (x : R (Bool × Env)) : R (Option D × Env) := x >>= fun p => match p.1 with
  | true => some1 own (tkE G m xe p.2)
  | false => .ok (none, wipeS own p.2)
@[simp] theorem tn2_t {m : Nat} {xe : Ex} {own : List Nat} : tn2 G m xe own (.ok (true, r)) = some1 own (tkE G m xe r) := id rfl
@[simp] theorem tn2_f {m : Nat} {xe : Ex} {own : List Nat} : tn2 G m xe own (.ok (false, r)) = .ok (none, wipeS own r) := id rfl
def tn1 (G : Str → Option Fd) (m : Nat) (xe xc : Ex) (own : List Nat) (x : R Env) : R (Option D × Env) := x >>= fun s => tn2 G m xe own (trE (ev G xc s))
@[simp] theorem tn1_ok {m : Nat} {xe xc : Ex} {own : List Nat} : tn1 G m xe xc own (.ok r) = tn2 G m xe own (trE (ev G xc r)) := id rfl
theorem s_turn {n m : Nat} {xe xc : Ex} {t : Tg} {own : List Nat} {d : D} : turnF G (n + 1) m xe t xc own d r = tn1 G n xe xc own (bindT m t d r) := by
  unfold turnF tn1 tn2 trE tr1
  simp only [bind_assoc, ok_bind]
  refine bind_cases fun s => bind_cases fun p => bind_cases fun b => ?_
  cases b <;> rfl
def cp2 (n : Nat) (own : List Nat) (it : Ex) (r p2 : Env) (x : R (List D × Env)) : R (Val × Env) := x >>= fun q => if q.1.length < lim then .ok (⟨true, n, .list q.1⟩, unl (rootsX it) (fun _ => false) r (backS own p2 q.2)) else stk
@[simp] theorem cp2_ok {n : Nat} {own : List Nat} {it : Ex} {p2 : Env} {xs : List D} : cp2 n own it r p2 (.ok (xs, r')) = if xs.length < lim then .ok (⟨true, n, .list xs⟩, unl (rootsX it) (fun _ => false) r (backS own p2 r')) else stk := id rfl
def cp1 (G : Str → Option Fd) (n : Nat) (xe : Ex) (t : Tg) (it xc : Ex) (own : List Nat) (r : Env) (x : R ((Nat × List D) × Env)) : R (Val × Env) := x >>= fun p => cp2 n own it r p.2 (mapL (turnF G n p.1.1 xe t xc own) p.1.2 (wipeS own p.2))
@[simp] theorem cp1_ok {n m : Nat} {xe : Ex} {t : Tg} {it xc : Ex} {own : List Nat} {ds : List D} : cp1 G n xe t it xc own r (.ok ((m, ds), r')) = cp2 n own it r r' (mapL (turnF G n m xe t xc own) ds (wipeS own r')) := id rfl
theorem s_comp {n : Nat} {xe : Ex} {t : Tg} {it xc : Ex} {own : List Nat} : ev G (.comp (n + 1) xe t it xc own) r = cp1 G (n + 1) xe t it xc own r (evI G it (lockE (rootsX it) r)) := by
  rw [ev, if_neg (by omega)]
  refine bind_cases fun p => ?_
  show _ = cp2 _ _ _ _ _ _
  unfold cp2
  refine bind_cases fun q => ?_
  unfold lenOk
  split <;> rfl
/-! ### comprehensions of two clauses -/
def dn4 (is own own1 : List Nat) (r : Env) (x : R (List D × Env)) : R (List D × Env) := x >>= fun q => .ok (q.1, wipeS own (unl is (fun j => own1.contains j) r q.2))
@[simp] theorem dn4_ok {is own own1 : List Nat} {xs : List D} : dn4 is own own1 r (.ok (xs, r')) = .ok (xs, wipeS own (unl is (fun j => own1.contains j) r r')) := id rfl
def dn3 (G : Str → Option Fd) (n : Nat) (xe xi1 : Ex) (t1 : Tg) (xc1 : Ex) (own own1 : List Nat) (r : Env) (x : R ((Nat × List D) × Env)) : R (List D × Env) := x >>= fun p => dn4 (rootsX xi1) own own1 r (mapL (turnF G n p.1.1 xe t1 xc1 own1) p.1.2 (wipeS own1 p.2))
@[simp] theorem dn3_ok {n m : Nat} {xe xi1 : Ex} {t1 : Tg} {xc1 : Ex} {own own1 : List Nat} {ds : List D} : dn3 G n xe xi1 t1 xc1 own own1 r (.ok ((m, ds), r')) = dn4 (rootsX xi1) own own1 r (mapL (turnF G n m xe t1 xc1 own1) ds (wipeS own1 r')) := id rfl
def dn2 (G : Str → Option Fd) (n : Nat) (xe xi1 : Ex) (t1 : Tg) (xc1 : Ex) (own own1 : List Nat) (x : R (Bool × Env)) : R (List D × Env) := x >>= fun p => match p.1 with
  | true => dn3 G n xe xi1 t1 xc1 own own1 p.2 (evI G xi1 (lockE (rootsX xi1) p.2))
  | false => .ok ([], wipeS own p.2)
@[simp] theorem dn2_t {n : Nat} {xe xi1 : Ex} {t1 : Tg} {xc1 : Ex} {own own1 : List Nat} : dn2 G n xe xi1 t1 xc1 own own1 (.ok (true, r)) = dn3 G n xe xi1 t1 xc1 own own1 r (evI G xi1 (lockE (rootsX xi1) r)) := id rfl
@[simp] theorem dn2_f {n : Nat} {xe xi1 : Ex} {t1 : Tg} {xc1 : Ex} {own own1 : List Nat} : dn2 G n xe xi1 t1 xc1 own own1 (.ok (false, r)) = .ok ([], wipeS own r) := id rfl
def dn1 (G : Str → Option Fd) (n : Nat) (xe xc xi1 : Ex) (t1 : Tg) (xc1 : Ex) (own own1 : List Nat) (x : R Env) : R (List D × Env) := x >>= fun s => dn2 G n xe xi1 t1 xc1 own own1 (trE (ev G xc s))
@[simp] theorem dn1_ok {n : Nat} {xe xc xi1 : Ex} {t1 : Tg} {xc1 : Ex} {own own1 : List Nat} : dn1 G n xe xc xi1 t1 xc1 own own1 (.ok r) = dn2 G n xe xi1 t1 xc1 own own1 (trE (ev G xc r)) := id rfl
theorem s_turn2 {n m : Nat} {xe xc xi1 xc1 : Ex} {t t1 : Tg} {own own1 : List Nat} {d : D} : turn2 G n m xe t xc xi1 t1 xc1 own own1 d r = dn1 G n xe xc xi1 t1 xc1 own own1 (bindT m t d r) := by
  unfold turn2 dn1 dn2 trE tr1
  simp only [bind_assoc, ok_bind]
  refine bind_cases fun s => bind_cases fun p => bind_cases fun b => ?_
  cases b <;> rfl
def cd1 (G : Str → Option Fd) (n : Nat) (xe : Ex) (t : Tg) (it xc : Ex) (t1 : Tg) (it1 xc1 : Ex) (own own1 : List Nat) (r : Env) (x : R ((Nat × List D) × Env)) : R (Val × Env) := x >>= fun p => cp2 n own it r p.2 (catL (turn2 G n p.1.1 xe t xc it1 t1 xc1 own own1) p.1.2 (wipeS own p.2))
@[simp] theorem cd1_ok {n m : Nat} {xe : Ex} {t : Tg} {it xc : Ex} {t1 : Tg} {it1 xc1 : Ex} {own own1 : List Nat} {ds : List D} : cd1 G n xe t it xc t1 it1 xc1 own own1 r (.ok ((m, ds), r')) = cp2 n own it r r' (catL (turn2 G n m xe t xc it1 t1 xc1 own own1) ds (wipeS own r')) := id rfl
theorem s_comp2 {n : Nat} {xe : Ex} {t : Tg} {it xc : Ex} {t1 : Tg} {it1 xc1 : Ex} {own own1 : List Nat} : ev G (.comp2 (n + 1) xe t it xc t1 it1 xc1 own own1) r = cd1 G (n + 1) xe t it xc t1 it1 xc1 own own1 r (evI G it (lockE (rootsX it) r)) := by
  rw [ev, if_neg (by omega)]
  refine bind_cases fun p => ?_
  show _ = cp2 _ _ _ _ _ _
  unfold cp2
  refine bind_cases fun q => ?_
  unfold lenOk
  split <;> rfl
/-! ### calls -/
def ag2 (a : Av) (x : R (List Av × Env)) : R (List Av × Env) := x >>= fun s => .ok (a :: s.1, s.2)
@[simp] theorem ag2_ok {a : Av} {as : List Av} : ag2 a (.ok (as, r)) = .ok (a :: as, r) := id rfl
def ag1 (G : Str → Option Fd) (ps : List Pm) (es : Ex) (x : R (Av × Env)) : R (List Av × Env) := x >>= fun q => ag2 q.1 (ags G ps es q.2)
@[simp] theorem ag1_ok {ps : List Pm} {es : Ex} {a : Av} : ag1 G ps es (.ok (a, r)) = ag2 a (ags G ps es r) := id rfl
def agD (x : R (D × Env)) : R (Av × Env) := x >>= fun q => .ok (Av.d q.1, q.2)
@[simp] theorem agD_ok {d : D} : agD (.ok (d, r)) = .ok (.d d, r) := id rfl
def agS (i : Nat) (x : R Val) (r : Env) : R (Av × Env) := x >>= fun _ => .ok (Av.s i, r)
@[simp] theorem agS_ok {i : Nat} {v : Val} : agS i (.ok v) r = .ok (.s i, r) := id rfl
def agE (G : Str → Option Fd) (p : Pm) (e : Ex) (r : Env) : R (Av × Env) := match argV p e with
  | 0 => agD (tkE G 0 e r)
  | 1 => stk
  | i + 2 => agS i (rv r[i]?) r
@[simp] theorem agE_fz {e : Ex} : agE G .fz e r = agD (tkE G 0 e r) := id rfl
@[simp] theorem agE_mt {n i : Nat} : agE G (.mt n) (.v i) r = agS i (rv r[i]?) r := id rfl
@[simp] theorem agE_lk {n i : Nat} : agE G (.lk n) (.v i) r = agS i (rv r[i]?) r := id rfl
theorem agE_lko {n : Nat} {e : Ex} (h : isV e = false) : agE G (.lk n) e r = agD (tkE G 0 e r) := by cases e <;> first | rfl | cases h
theorem s_ags0 : ags G [] .nil r = .ok ([], r) := by simp only [ags]
theorem s_ags {p : Pm} {ps : List Pm} {e es : Ex} : ags G (p :: ps) (.cons e es) r = ag1 G ps es (agE G p e r) := by
  rw [ags]
  unfold ag1 agE
  cases argV p e with
  | zero => rfl
  | succ n => cases n with
    | zero => rfl
    | succ i =>
      dsimp only
      rw [rd_rv]
      rfl
def ca4 (rt : Nat) (d : D) (x : R Env) : R (Val × Env) := x >>= fun s => .ok (⟨true, rt, d⟩, s)
@[simp] theorem ca4_ok {rt : Nat} {d : D} : ca4 rt d (.ok r) = .ok (⟨true, rt, d⟩, r) := id rfl
def ca3 (rt : Nat) (is : List Nat) (r : Env) (x : R (D × List D)) : R (Val × Env) := x >>= fun o => ca4 rt o.1 (putOuts is o.2 r)
@[simp] theorem ca3_ok {rt : Nat} {is : List Nat} {d : D} {os : List D} : ca3 rt is r (.ok (d, os)) = ca4 rt d (putOuts is os r) := id rfl
def ca2 (P : Str → Option Fn) (k : Nat) (f : Str) (sg : Sg) (as : List Av) (r : Env) (x : R (List D)) : R (Val × Env) := x >>= fun ds => if apart (mtsOf as sg.pm) (lksOf as sg.pm) then ca3 sg.ret (mtsOf as sg.pm) r (cl P k f ds) else stk
@[simp] theorem ca2_ok {P : Str → Option Fn} {k : Nat} {f : Str} {sg : Sg} {as : List Av} {ds : List D} : ca2 P k f sg as r (.ok ds) = if apart (mtsOf as sg.pm) (lksOf as sg.pm) then ca3 sg.ret (mtsOf as sg.pm) r (cl P k f ds) else stk := id rfl
def ca1 (P : Str → Option Fn) (k : Nat) (f : Str) (sg : Sg) (x : R (List Av × Env)) : R (Val × Env) := x >>= fun q => ca2 P k f sg q.1 q.2 (resAs q.2 q.1 sg.pm)
@[simp] theorem ca1_ok {P : Str → Option Fn} {k : Nat} {f : Str} {sg : Sg} {as : List Av} : ca1 P k f sg (.ok (as, r)) = ca2 P k f sg as r (resAs r as sg.pm) := id rfl
theorem s_call {P : Str → Option Fn} {k : Nat} {f : Str} {fn : Fn} {es : Ex} (h : P f = some fn) : ev (prog P (k + 1)) (.call f es) r = ca1 P k f fn.sg (ags (prog P (k + 1)) fn.sg.pm es r) := by
  rw [ev_call h]
  rfl
def rs2 (d : D) (x : R (List D)) : R (List D) := x >>= fun ds => .ok (d :: ds)
@[simp] theorem rs2_ok {d : D} {ds : List D} : rs2 d (.ok ds) = .ok (d :: ds) := id rfl
def rs1 (r : Env) (as : List Av) (ps : List Pm) (x : R D) : R (List D) := x >>= fun d => rs2 d (resAs r as ps)
@[simp] theorem rs1_ok {as : List Av} {ps : List Pm} {d : D} : rs1 r as ps (.ok d) = rs2 d (resAs r as ps) := id rfl
@[simp] theorem resAs_nil : resAs r [] [] = .ok [] := id rfl
@[simp] theorem resAs_cons {a : Av} {as : List Av} {p : Pm} {ps : List Pm} : resAs r (a :: as) (p :: ps) = rs1 r as ps (resA r a p) := id rfl
def rsL (n : Nat) : Option Sl → R D
  | some (.fz d) => .ok d
  | some (.ow m d) => if m ≤ n then .ok d else stk
  | some (.lk m d) => if m ≤ n then .ok d else stk
  | some (.mt m d) => if m ≤ n then .ok d else stk
  | _ => stk
def rsM (n : Nat) : Option Sl → R D
  | some (.ow m d) => if m = n then .ok d else stk
  | some (.mt m d) => if m = n then .ok d else stk
  | _ => stk
@[simp] theorem resA_d {d : D} : resA r (.d d) .fz = .ok d := id rfl
@[simp] theorem resA_dl {d : D} {n : Nat} : resA r (.d d) (.lk n) = .ok d := id rfl
@[simp] theorem resA_sl {i n : Nat} : resA r (.s i) (.lk n) = rsL n r[i]? := id rfl
@[simp] theorem resA_sm {i n : Nat} : resA r (.s i) (.mt n) = rsM n r[i]? := id rfl
@[simp] theorem rsL_fz {n : Nat} {d : D} : rsL n (some (.fz d)) = .ok d := id rfl
@[simp] theorem rsL_ow {n m : Nat} {d : D} : rsL n (some (.ow m d)) = if m ≤ n then .ok d else stk := id rfl
@[simp] theorem rsL_lk {n m : Nat} {d : D} : rsL n (some (.lk m d)) = if m ≤ n then .ok d else stk := id rfl
@[simp] theorem rsL_mt {n m : Nat} {d : D} : rsL n (some (.mt m d)) = if m ≤ n then .ok d else stk := id rfl
@[simp] theorem rsM_ow {n m : Nat} {d : D} : rsM n (some (.ow m d)) = if m = n then .ok d else stk := id rfl
@[simp] theorem rsM_mt {n m : Nat} {d : D} : rsM n (some (.mt m d)) = if m = n then .ok d else stk := id rfl
@[simp] theorem mtsOf_nil {ps : List Pm} : mtsOf [] ps = [] := id rfl
@[simp] theorem mtsOf_d {d : D} {as : List Av} {p : Pm} {ps : List Pm} : mtsOf (.d d :: as) (p :: ps) = mtsOf as ps := by cases p <;> rfl
@[simp] theorem mtsOf_s {i n : Nat} {as : List Av} {ps : List Pm} : mtsOf (.s i :: as) (.mt n :: ps) = i :: mtsOf as ps := id rfl
@[simp] theorem mtsOf_sl {i n : Nat} {as : List Av} {ps : List Pm} : mtsOf (.s i :: as) (.lk n :: ps) = mtsOf as ps := id rfl
@[simp] theorem lksOf_nil {ps : List Pm} : lksOf [] ps = [] := id rfl
@[simp] theorem lksOf_d {d : D} {as : List Av} {p : Pm} {ps : List Pm} : lksOf (.d d :: as) (p :: ps) = lksOf as ps := by cases p <;> rfl
@[simp] theorem lksOf_s {i n : Nat} {as : List Av} {ps : List Pm} : lksOf (.s i :: as) (.lk n :: ps) = i :: lksOf as ps := id rfl
@[simp] theorem lksOf_sm {i n : Nat} {as : List Av} {ps : List Pm} : lksOf (.s i :: as) (.mt n :: ps) = lksOf as ps := id rfl
@[simp] theorem apart_nil {ls : List Nat} : apart [] ls = true := id rfl
@[simp] theorem apart_one {i : Nat} : apart [i] [] = true := id rfl
@[simp] theorem putOuts_nil : putOuts [] [] r = .ok r := id rfl
def po1 (i : Nat) (is : List Nat) (d : D) (ds : List D) (r : Env) : Option Sl → R Env
  | some s => putOuts is ds (r.set i (reS s d))
  | none => stk
@[simp] theorem putOuts_cons {i : Nat} {is : List Nat} {d : D} {ds : List D} : putOuts (i :: is) (d :: ds) r = po1 i is d ds r r[i]? := by
  unfold po1
  rw [putOuts]
  all_goals (cases r[i]? <;> rfl)
@[simp] theorem po1_some {i : Nat} {is : List Nat} {d : D} {ds : List D} {s : Sl} : po1 i is d ds r (some s) = putOuts is ds (r.set i (reS s d)) := id rfl
@[simp] theorem reS_ow {n : Nat} {d e : D} : reS (.ow n e) d = .ow n d := id rfl
@[simp] theorem reS_mt {n : Nat} {d e : D} : reS (.mt n e) d = .mt n d := id rfl
end
end VL
/-! VP: changes and statements, step by step. -/
namespace VL
open PySem
section
variable {G : Str → Option Fd} {r r' : Env} {rm : Nat}
/-! ### paths -/
def ptE (G : Str → Option Fd) (p : Ex) (r : Env) : R (Option Int × Env) := match p with | .nil => .ok (none, r) | p => so1 (in1 (ev G p r))
@[simp] theorem ptE_nil : ptE G .nil r = .ok (none, r) := id rfl
theorem ptE_o {e : Ex} (h : isNil e = false) : ptE G e r = so1 (in1 (ev G e r)) := by cases e <;> first | rfl | cases h
theorem pt_eq {e : Ex} : (match e with | .nil => (.ok ((none : Option Int), r) : R (Option Int × Env)) | p => ev G p r >>= fun q => asI q.1.d >>= fun j => .ok (some j, q.2)) = ptE G e r := by
  cases e <;> first | rfl | (simp only [ptE, so1, in1, in2, bind_assoc, ok_bind])
theorem bind_both {A B : Type} {x y : R A} {f g : A → R B} (h : x = y) (k : ∀ a, f a = g a) : (x >>= f) = (y >>= g) := by
  subst h
  exact bind_cases k
def dpS (p : Option Int) : Option Sl → R Nat
  | some (.ow n d) => pathL n d p >>= fun q => .ok q.1
  | some (.mt n d) => pathL n d p >>= fun q => .ok q.1
  | _ => stk
theorem depS_eq {i : Nat} {p : Option Int} : depS i p r = dpS p r[i]? := by
  unfold depS dpS
  cases r[i]? with
  | none => rfl
  | some s => cases s <;> rfl
def fst1 (x : R (Nat × List D × (List D → D))) : R Nat := x >>= fun q => .ok q.1
@[simp] theorem fst1_ok {n : Nat} {xs : List D} {g : List D → D} : fst1 (.ok (n, xs, g)) = .ok n := id rfl
@[simp] theorem dpS_ow {p : Option Int} {n : Nat} {d : D} : dpS p (some (.ow n d)) = fst1 (pathL n d p) := id rfl
@[simp] theorem dpS_mt {p : Option Int} {n : Nat} {d : D} : dpS p (some (.mt n d)) = fst1 (pathL n d p) := id rfl
@[simp] theorem pathL_1 {n : Nat} {xs : List D} : pathL (n + 1) (.list xs) none = .ok (n, xs, fun ys => .list ys) := id rfl
def pth2 (n : Nat) (xs : List D) (j : Nat) : Option D → R (Nat × List D × (List D → D))
  | some (.list ys) => .ok (n, ys, fun zs => .list (xs.set j (.list zs)))
  | _ => stk
@[simp] theorem pth2_ok {n : Nat} {xs ys : List D} {j : Nat} : pth2 n xs j (some (.list ys)) = .ok (n, ys, fun zs => .list (xs.set j (.list zs))) := id rfl
def pth1 (n : Nat) (xs : List D) : Option Nat → R (Nat × List D × (List D → D))
  | some j => pth2 n xs j xs[j]?
  | none => stk
@[simp] theorem pth1_ok {n : Nat} {xs : List D} {j : Nat} : pth1 n xs (some j) = pth2 n xs j xs[j]? := id rfl
@[simp] theorem pathL_2 {n : Nat} {xs : List D} {k : Int} : pathL (n + 2) (.list xs) (some k) = pth1 n xs (L2.ixN xs.length k) := by
  unfold pth1
  rw [pathL]
  unfold VL.ixOf
  cases L2.ixN xs.length k with
  | none => rfl
  | some j =>
    dsimp only
    unfold pth2
    cases xs[j]? with
    | none => rfl
    | some d => cases d <;> rfl
def ut2 (i : Nat) (s : List D → Sl) (r : Env) (x : R (D × List D)) : R (D × Env) := x >>= fun w => .ok (w.1, r.set i (s w.2))
@[simp] theorem ut2_ok {i : Nat} {s : List D → Sl} {d : D} {xs : List D} : ut2 i s r (.ok (d, xs)) = .ok (d, r.set i (s xs)) := id rfl
def utO (i n : Nat) (f : List D → R (D × List D)) (r : Env) (x : R (Nat × List D × (List D → D))) : R (D × Env) := x >>= fun q => ut2 i (fun ys => .ow n (q.2.2 ys)) r (f q.2.1)
@[simp] theorem utO_ok {i n m : Nat} {f : List D → R (D × List D)} {xs : List D} {g : List D → D} : utO i n f r (.ok (m, xs, g)) = ut2 i (fun ys => .ow n (g ys)) r (f xs) := id rfl
def utM (i n : Nat) (f : List D → R (D × List D)) (r : Env) (x : R (Nat × List D × (List D → D))) : R (D × Env) := x >>= fun q => ut2 i (fun ys => .mt n (q.2.2 ys)) r (f q.2.1)
@[simp] theorem utM_ok {i n m : Nat} {f : List D → R (D × List D)} {xs : List D} {g : List D → D} : utM i n f r (.ok (m, xs, g)) = ut2 i (fun ys => .mt n (g ys)) r (f xs) := id rfl
def upS (i : Nat) (p : Option Int) (f : List D → R (D × List D)) (r : Env) : Option Sl → R (D × Env)
  | some (.ow n d) => utO i n f r (pathL n d p)
  | some (.mt n d) => utM i n f r (pathL n d p)
  | _ => stk
@[simp] theorem upS_ow {i n : Nat} {p : Option Int} {f : List D → R (D × List D)} {d : D} : upS i p f r (some (.ow n d)) = utO i n f r (pathL n d p) := id rfl
@[simp] theorem upS_mt {i n : Nat} {p : Option Int} {f : List D → R (D × List D)} {d : D} : upS i p f r (some (.mt n d)) = utM i n f r (pathL n d p) := id rfl
theorem updE_eq {i : Nat} {p : Option Int} {f : List D → R (D × List D)} : updE i p f r = upS i p f r r[i]? := by
  unfold updE upS
  cases r[i]? with
  | none => rfl
  | some s => cases s <;> rfl
/-! ### pop, append -/
def own1 (m : Nat) (x : R (D × Env)) : R (Val × Env) := x >>= fun q => .ok (⟨true, m, q.1⟩, q.2)
@[simp] theorem own1_ok {m : Nat} {d : D} : own1 m (.ok (d, r)) = .ok (⟨true, m, d⟩, r) := id rfl
def non1 (x : R (D × Env)) : R (Val × Env) := x >>= fun q => .ok (⟨true, 0, .none⟩, q.2)
@[simp] theorem non1_ok {d : D} : non1 (.ok (d, r)) = .ok (⟨true, 0, .none⟩, r) := id rfl
def pp4 (i : Nat) (p b : Option Int) (r : Env) (x : R Nat) : R (Val × Env) := x >>= fun m => own1 m (updE i p (popL b) r)
@[simp] theorem pp4_ok {i m : Nat} {p b : Option Int} : pp4 i p b r (.ok m) = own1 m (upS i p (popL b) r r[i]?) := by rw [← updE_eq]; rfl
def pp3 (i : Nat) (p : Option Int) (x : R (Option Int × Env)) : R (Val × Env) := x >>= fun b => pp4 i p b.1 b.2 (depS i p b.2)
@[simp] theorem pp3_ok {i : Nat} {p b : Option Int} : pp3 i p (.ok (b, r)) = pp4 i p b r (dpS p r[i]?) := by rw [← depS_eq]; rfl
def pp2 (G : Str → Option Fd) (i : Nat) (c : Bool) (k : Ex) (p : Option Int) (r : Env) (x : R Nat) : R (Val × Env) := x >>= fun _ => if c then pp3 i p (ptE G k r) else stk
@[simp] theorem pp2_ok {i m : Nat} {c : Bool} {k : Ex} {p : Option Int} : pp2 G i c k p r (.ok m) = if c then pp3 i p (ptE G k r) else stk := id rfl
def pp1 (G : Str → Option Fd) (i : Nat) (c : Bool) (k : Ex) (x : R (Option Int × Env)) : R (Val × Env) := x >>= fun a => pp2 G i c k a.1 a.2 (depS i a.1 a.2)
@[simp] theorem pp1_ok {i : Nat} {c : Bool} {k : Ex} {p : Option Int} : pp1 G i c k (.ok (p, r)) = pp2 G i c k p r (dpS p r[i]?) := by rw [← depS_eq]; rfl
def pp0 (G : Str → Option Fd) (i : Nat) (p k : Ex) (r : Env) (x : R Val) : R (Val × Env) := x >>= fun _ => pp1 G i (isNil p || pureX G k) k (ptE G p r)
@[simp] theorem pp0_ok {i : Nat} {p k : Ex} {v : Val} : pp0 G i p k r (.ok v) = pp1 G i (isNil p || pureX G k) k (ptE G p r) := id rfl
theorem s_pop {i : Nat} {p k : Ex} : ev G (.pop i p k) r = pp0 G i p k r (rv r[i]?) := by
  rw [ev.eq_def]
  dsimp only
  rw [rd_rv, pp0]
  refine bind_cases fun _ => ?_
  rw [pp1]
  refine bind_both (by cases p <;> first | rfl | (simp only [ptE, so1, in1, in2, bind_assoc, ok_bind])) fun a => ?_
  rw [pp2]
  refine bind_cases fun _ => ?_
  split
  · rw [pp3]
    refine bind_both (by cases k <;> first | rfl | (simp only [ptE, so1, in1, in2, bind_assoc, ok_bind])) fun b => ?_
    rw [pp4]
    refine bind_cases fun m => ?_
    rfl
  · rfl
def ap4 (i m : Nat) (p : Option Int) (d : D) (r : Env) (x : R Nat) : R (Val × Env) := x >>= fun m' => if m' = m then non1 (updE i p (appL d) r) else stk
@[simp] theorem ap4_ok {i m m' : Nat} {p : Option Int} {d : D} : ap4 i m p d r (.ok m') = if m' = m then non1 (upS i p (appL d) r r[i]?) else stk := by rw [← updE_eq]; rfl
def ap3 (i m : Nat) (p : Option Int) (x : R (D × Env)) : R (Val × Env) := x >>= fun x => ap4 i m p x.1 x.2 (depS i p x.2)
@[simp] theorem ap3_ok {i m : Nat} {p : Option Int} {d : D} : ap3 i m p (.ok (d, r)) = ap4 i m p d r (dpS p r[i]?) := by rw [← depS_eq]; rfl
def ap2 (G : Str → Option Fd) (i : Nat) (c : Bool) (e : Ex) (p : Option Int) (r : Env) (x : R Nat) : R (Val × Env) := x >>= fun m => if c then ap3 i m p (tkE G m e r) else stk
@[simp] theorem ap2_ok {i m : Nat} {c : Bool} {e : Ex} {p : Option Int} : ap2 G i c e p r (.ok m) = if c then ap3 i m p (tkE G m e r) else stk := id rfl
def ap1 (G : Str → Option Fd) (i : Nat) (c : Bool) (e : Ex) (x : R (Option Int × Env)) : R (Val × Env) := x >>= fun a => ap2 G i c e a.1 a.2 (depS i a.1 a.2)
@[simp] theorem ap1_ok {i : Nat} {c : Bool} {e : Ex} {p : Option Int} : ap1 G i c e (.ok (p, r)) = ap2 G i c e p r (dpS p r[i]?) := by rw [← depS_eq]; rfl
def ap0 (G : Str → Option Fd) (i : Nat) (p e : Ex) (r : Env) (x : R Val) : R (Val × Env) := x >>= fun _ => ap1 G i (isNil p || pureX G e) e (ptE G p r)
@[simp] theorem ap0_ok {i : Nat} {p e : Ex} {v : Val} : ap0 G i p e r (.ok v) = ap1 G i (isNil p || pureX G e) e (ptE G p r) := id rfl
theorem s_app {i : Nat} {p e : Ex} : ev G (.app i p e) r = ap0 G i p e r (rv r[i]?) := by
  rw [ev.eq_def]
  dsimp only
  rw [rd_rv, ap0]
  refine bind_cases fun _ => ?_
  rw [ap1]
  refine bind_both (by cases p <;> first | rfl | (simp only [ptE, so1, in1, in2, bind_assoc, ok_bind])) fun a => ?_
  rw [ap2]
  refine bind_cases fun m => ?_
  split
  · rw [ap3]
    refine bind_cases fun x => ?_
    rw [ap4]
    refine bind_cases fun m' => ?_
    split <;> rfl
  · rfl
def ns5 (i m : Nat) (p : Option Int) (j : Int) (d : D) (r : Env) (x : R Nat) : R (Val × Env) := x >>= fun m' => if m' = m then non1 (updE i p (insL j d) r) else stk
@[simp] theorem ns5_ok {i m m' : Nat} {p : Option Int} {j : Int} {d : D} : ns5 i m p j d r (.ok m') = if m' = m then non1 (upS i p (insL j d) r r[i]?) else stk := by rw [← updE_eq]; rfl
def ns4 (i m : Nat) (p : Option Int) (j : Int) (x : R (D × Env)) : R (Val × Env) := x >>= fun x => ns5 i m p j x.1 x.2 (depS i p x.2)
@[simp] theorem ns4_ok {i m : Nat} {p : Option Int} {j : Int} {d : D} : ns4 i m p j (.ok (d, r)) = ns5 i m p j d r (dpS p r[i]?) := by rw [← depS_eq]; rfl
def ns3 (G : Str → Option Fd) (i m : Nat) (e : Ex) (p : Option Int) (x : R (Int × Env)) : R (Val × Env) := x >>= fun q => ns4 i m p q.1 (tkE G m e q.2)
@[simp] theorem ns3_ok {i m : Nat} {e : Ex} {p : Option Int} {j : Int} : ns3 G i m e p (.ok (j, r)) = ns4 i m p j (tkE G m e r) := id rfl
def ns2 (G : Str → Option Fd) (i : Nat) (c : Bool) (k e : Ex) (p : Option Int) (r : Env) (x : R Nat) : R (Val × Env) := x >>= fun m => if c then ns3 G i m e p (in1 (ev G k r)) else stk
@[simp] theorem ns2_ok {i m : Nat} {c : Bool} {k e : Ex} {p : Option Int} : ns2 G i c k e p r (.ok m) = if c then ns3 G i m e p (in1 (ev G k r)) else stk := id rfl
def ns1 (G : Str → Option Fd) (i : Nat) (c : Bool) (k e : Ex) (x : R (Option Int × Env)) : R (Val × Env) := x >>= fun a => ns2 G i c k e a.1 a.2 (depS i a.1 a.2)
@[simp] theorem ns1_ok {i : Nat} {c : Bool} {k e : Ex} {p : Option Int} : ns1 G i c k e (.ok (p, r)) = ns2 G i c k e p r (dpS p r[i]?) := by rw [← depS_eq]; rfl
def ns0 (G : Str → Option Fd) (i : Nat) (p k e : Ex) (r : Env) (x : R Val) : R (Val × Env) := x >>= fun _ => ns1 G i (isNil p || (pureX G e && pureX G k)) k e (ptE G p r)
@[simp] theorem ns0_ok {i : Nat} {p k e : Ex} {v : Val} : ns0 G i p k e r (.ok v) = ns1 G i (isNil p || (pureX G e && pureX G k)) k e (ptE G p r) := id rfl
theorem s_ins {i : Nat} {p k e : Ex} : ev G (.ins i p k e) r = ns0 G i p k e r (rv r[i]?) := by
  rw [ev.eq_def]
  dsimp only
  rw [rd_rv, ns0]
  refine bind_cases fun _ => ?_
  rw [ns1]
  refine bind_both (by cases p <;> first | rfl | (simp only [ptE, so1, in1, in2, bind_assoc, ok_bind])) fun a => ?_
  rw [ns2]
  refine bind_cases fun m => ?_
  split
  · rw [ns3]
    simp only [in1, in2, bind_assoc, ok_bind]
    refine bind_cases fun kq => ?_
    refine bind_cases fun j => ?_
    rw [ns4]
    refine bind_cases fun x => ?_
    rw [ns5]
    refine bind_cases fun m' => ?_
    split <;> rfl
  · rfl
def lstD : D → R (List D)
  | .list ys => .ok ys
  | _ => stk
@[simp] theorem lstD_l {ys : List D} : lstD (.list ys) = .ok ys := id rfl
def ex5 (i : Nat) (p : Option Int) (r : Env) (x : R (List D)) : R (Val × Env) := x >>= fun ys => non1 (updE i p (extL ys) r)
@[simp] theorem ex5_ok {i : Nat} {p : Option Int} {ys : List D} : ex5 i p r (.ok ys) = non1 (upS i p (extL ys) r r[i]?) := by rw [← updE_eq]; rfl
def ex4 (i : Nat) (p : Option Int) (d : D) (r : Env) (x : R Nat) : R (Val × Env) := x >>= fun m' => if m' = 0 then ex5 i p r (lstD d) else stk
@[simp] theorem ex4_ok {i m' : Nat} {p : Option Int} {d : D} : ex4 i p d r (.ok m') = if m' = 0 then ex5 i p r (lstD d) else stk := id rfl
def ex3 (i : Nat) (p : Option Int) (x : R (D × Env)) : R (Val × Env) := x >>= fun x => ex4 i p x.1 x.2 (depS i p x.2)
@[simp] theorem ex3_ok {i : Nat} {p : Option Int} {d : D} : ex3 i p (.ok (d, r)) = ex4 i p d r (dpS p r[i]?) := by rw [← depS_eq]; rfl
def ex2 (G : Str → Option Fd) (i : Nat) (c : Bool) (e : Ex) (p : Option Int) (r : Env) (x : R Nat) : R (Val × Env) := x >>= fun _ => if c then ex3 i p (tkE G 0 e r) else stk
@[simp] theorem ex2_ok {i m : Nat} {c : Bool} {e : Ex} {p : Option Int} : ex2 G i c e p r (.ok m) = if c then ex3 i p (tkE G 0 e r) else stk := id rfl
def ex1 (G : Str → Option Fd) (i : Nat) (c : Bool) (e : Ex) (x : R (Option Int × Env)) : R (Val × Env) := x >>= fun a => ex2 G i c e a.1 a.2 (depS i a.1 a.2)
@[simp] theorem ex1_ok {i : Nat} {c : Bool} {e : Ex} {p : Option Int} : ex1 G i c e (.ok (p, r)) = ex2 G i c e p r (dpS p r[i]?) := by rw [← depS_eq]; rfl
def ex0 (G : Str → Option Fd) (i : Nat) (p e : Ex) (r : Env) (x : R Val) : R (Val × Env) := x >>= fun _ => ex1 G i (isNil p || pureX G e) e (ptE G p r)
@[simp] theorem ex0_ok {i : Nat} {p e : Ex} {v : Val} : ex0 G i p e r (.ok v) = ex1 G i (isNil p || pureX G e) e (ptE G p r) := id rfl
theorem s_ext {i : Nat} {p e : Ex} : ev G (.ext i p e) r = ex0 G i p e r (rv r[i]?) := by
  rw [ev.eq_def]
  dsimp only
  rw [rd_rv, ex0]
  refine bind_cases fun _ => ?_
  rw [ex1]
  refine bind_both (by cases p <;> first | rfl | (simp only [ptE, so1, in1, in2, bind_assoc, ok_bind])) fun a => ?_
  rw [ex2]
  refine bind_cases fun m => ?_
  split
  · rw [ex3]
    refine bind_cases fun x => ?_
    rw [ex4]
    refine bind_cases fun m' => ?_
    split
    · rw [ex5]
      refine bind_both (by cases x.1 <;> rfl) fun ys => ?_
      rfl
    · rfl
  · rfl
/-! ### statements -/
def put1 (i : Nat) (s : Sl) (r : Env) : Option Sl → R Env
  | some (.mt _ _) => stk
  | some _ => .ok (r.set i s)
  | none => stk
theorem putS_eq {i : Nat} {s : Sl} : putS i s r = put1 i s r r[i]? := by
  unfold putS put1
  cases r[i]? with
  | none => rfl
  | some s => cases s <;> rfl
@[simp] theorem put1_no {i : Nat} {s : Sl} : put1 i s r (some .no) = .ok (r.set i s) := id rfl
@[simp] theorem put1_fz {i : Nat} {s : Sl} {d : D} : put1 i s r (some (.fz d)) = .ok (r.set i s) := id rfl
@[simp] theorem put1_ow {i n : Nat} {s : Sl} {d : D} : put1 i s r (some (.ow n d)) = .ok (r.set i s) := id rfl
@[simp] theorem put1_lk {i n : Nat} {s : Sl} {d : D} : put1 i s r (some (.lk n d)) = .ok (r.set i s) := id rfl
/-- a slot that may be given anew -/
def free1 : Sl → Prop
  | .mt _ _ => False
  | _ => True
theorem put1_free {i : Nat} {s t : Sl} (h : free1 t) : put1 i s r (some t) = .ok (r.set i s) := by
  cases t <;> first | rfl | exact h.elim
@[simp] theorem free1_no : free1 .no := trivial
@[simp] theorem free1_fz {d : D} : free1 (.fz d) := trivial
@[simp] theorem free1_ow {n : Nat} {d : D} : free1 (.ow n d) := trivial
@[simp] theorem free1_lk {n : Nat} {d : D} : free1 (.lk n d) := trivial
@[simp] theorem stS_0 {d : D} : stS 0 d = .fz d := id rfl
@[simp] theorem stS_l {m : Nat} {xs : List D} : stS (m + 1) (.list xs) = .ow (m + 1) (.list xs) := id rfl
@[simp] theorem stS_i {m : Nat} {i : Int} : stS m (.int i) = .fz (.int i) := by simp [stS]
@[simp] theorem stS_t {m : Nat} {i : List D} : stS m (.tuple i) = .fz (.tuple i) := by simp [stS]
@[simp] theorem itS_0 {d : D} : itS 0 d = .fz d := id rfl
@[simp] theorem itS_s {m : Nat} {d : D} : itS (m + 1) d = .lk (m + 1) d := id rfl
theorem bindT_nm {m i : Nat} {d : D} : bindT m (.nm i) d r = put1 i (itS m d) r r[i]? := by rw [← putS_eq]; simp only [bindT]
theorem bindT_tup {m : Nat} {a b : Tg} {ds : List D} : bindT m (.cons a b) (.tuple ds) r = bindTs (.cons a b) ds r := by simp only [bindT]
def bts (b : Tg) (ds : List D) (x : R Env) : R Env := x >>= fun r => bindTs b ds r
@[simp] theorem bts_ok {b : Tg} {ds : List D} : bts b ds (.ok r) = bindTs b ds r := id rfl
theorem bindTs_cons {a b : Tg} {d : D} {ds : List D} : bindTs (.cons a b) (d :: ds) r = bts b ds (bindT 0 a d r) := by simp only [bindTs]; rfl
theorem bindTs_nil : bindTs .nil [] r = .ok r := by simp only [bindTs]
def nxR (x : R Env) : R Out := x >>= fun s => .ok (.nx s)
@[simp] theorem nxR_ok : nxR (.ok r) = .ok (.nx r) := id rfl
def se1 (m : Nat) (t : Tg) (x : R (D × Env)) : R Out := x >>= fun p => nxR (setT m t p.1 p.2)
@[simp] theorem se1_ok {m : Nat} {t : Tg} {d : D} : se1 m t (.ok (d, r)) = nxR (setT m t d r) := id rfl
theorem x_set {m : Nat} {t : Tg} {e : Ex} : VL.exec G rm (.set m t e) r = se1 m t (tkE G m e r) := by simp only [VL.exec]; rfl
theorem setT_nm {m i : Nat} {d : D} : setT m (.nm i) d r = put1 i (stS m d) r r[i]? := by rw [← putS_eq]; rfl
theorem setT_tup {m : Nat} {a b : Tg} {ds : List D} : setT m (.cons a b) (.tuple ds) r = bindTs (.cons a b) ds r := by
  show bindT 0 (.cons a b) (.tuple ds) r = _
  rw [bindT_tup]
theorem x_nop : VL.exec G rm .nop r = .ok (.nx r) := by simp only [VL.exec]
theorem x_brk : VL.exec G rm .brk r = .ok (.bk r) := by simp only [VL.exec]
theorem x_cont : VL.exec G rm .cont r = .ok (.ct r) := by simp only [VL.exec]
def sq1 (G : Str → Option Fd) (rm : Nat) (b : Sm) (x : R Out) : R Out := x >>= fun o => match o with
  | .nx s => VL.exec G rm b s
  | o => .ok o
@[simp] theorem sq1_nx {b : Sm} : sq1 G rm b (.ok (.nx r)) = VL.exec G rm b r := id rfl
@[simp] theorem sq1_rt {b : Sm} {d : D} : sq1 G rm b (.ok (.rt d r)) = .ok (.rt d r) := id rfl
@[simp] theorem sq1_bk {b : Sm} : sq1 G rm b (.ok (.bk r)) = .ok (.bk r) := id rfl
@[simp] theorem sq1_ct {b : Sm} : sq1 G rm b (.ok (.ct r)) = .ok (.ct r) := id rfl
theorem x_seq {a b : Sm} : VL.exec G rm (.seq a b) r = sq1 G rm b (VL.exec G rm a r) := by
  rw [VL.exec, sq1]
  all_goals (refine bind_cases fun o => ?_; cases o <;> rfl)
def if1 (G : Str → Option Fd) (rm : Nat) (a b : Sm) (x : R (Bool × Env)) : R Out := x >>= fun p => match p.1 with
  | true => VL.exec G rm a p.2
  | false => VL.exec G rm b p.2
@[simp] theorem if1_t {a b : Sm} : if1 G rm a b (.ok (true, r)) = VL.exec G rm a r := id rfl
@[simp] theorem if1_f {a b : Sm} : if1 G rm a b (.ok (false, r)) = VL.exec G rm b r := id rfl
theorem x_if {c : Ex} {a b : Sm} : VL.exec G rm (.ife c a b) r = if1 G rm a b (trE (ev G c r)) := by
  rw [VL.exec, if1, s_evB]
  all_goals (refine bind_cases fun p => ?_; obtain ⟨b, s⟩ := p; cases b <;> rfl)
def rt1 (x : R (D × Env)) : R Out := x >>= fun p => .ok (.rt p.1 p.2)
@[simp] theorem rt1_ok {d : D} : rt1 (.ok (d, r)) = .ok (.rt d r) := id rfl
theorem x_ret {e : Ex} : VL.exec G rm (.ret e) r = rt1 (tkE G rm e r) := by simp only [VL.exec]; rfl
def dr1 (x : R (Val × Env)) : R Out := x >>= fun p => .ok (.nx p.2)
@[simp] theorem dr1_ok {v : Val} : dr1 (.ok (v, r)) = .ok (.nx r) := id rfl
theorem x_drop {e : Ex} : VL.exec G rm (.drop e) r = dr1 (ev G e r) := by simp only [VL.exec]; rfl
/-! ### loops -/
def bodyF (G : Str → Option Fd) (rm m : Nat) (t : Tg) (b : Sm) (d : D) (s : Env) : R Out := bindT m t d s >>= fun s => VL.exec G rm b s
def bd1 (G : Str → Option Fd) (rm : Nat) (b : Sm) (x : R Env) : R Out := x >>= fun s => VL.exec G rm b s
@[simp] theorem bd1_ok {b : Sm} : bd1 G rm b (.ok r) = VL.exec G rm b r := id rfl
theorem x_body {m : Nat} {t : Tg} {b : Sm} {d : D} : bodyF G rm m t b d r = bd1 G rm b (bindT m t d r) := id rfl
def fo2 (is : List Nat) (st : Nat → Bool) (r : Env) (x : R Out) : R Out := x >>= fun o => outU is st r o
@[simp] theorem fo2_nx {is : List Nat} {st : Nat → Bool} : fo2 is st r (.ok (.nx r')) = .ok (.nx (unl is st r r')) := id rfl
@[simp] theorem fo2_rt {is : List Nat} {st : Nat → Bool} {d : D} : fo2 is st r (.ok (.rt d r')) = .ok (.rt d (unl is st r r')) := id rfl
def stF (t : Tg) (b : Sm) (i : Nat) : Bool := stores i b || tgHas i t
def fo1 (G : Str → Option Fd) (rm : Nat) (t : Tg) (it : Ex) (b : Sm) (r : Env) (x : R ((Nat × List D) × Env)) : R Out := x >>= fun p => fo2 (rootsX it) (stF t b) r (forL (bodyF G rm p.1.1 t b) p.1.2 p.2)
@[simp] theorem fo1_ok {t : Tg} {it : Ex} {b : Sm} {m : Nat} {ds : List D} : fo1 G rm t it b r (.ok ((m, ds), r')) = fo2 (rootsX it) (stF t b) r (forL (bodyF G rm m t b) ds r') := id rfl
theorem x_for {t : Tg} {it : Ex} {b : Sm} : VL.exec G rm (.for_ t it b) r = if (rootsX it).any (stF t b) then stk else fo1 G rm t it b r (evI G it (lockE (rootsX it) r)) := by
  rw [VL.exec]
  rfl
theorem x_while {c : Ex} {b : Sm} : VL.exec G rm (.while_ c b) r = whileF (evB G c) (VL.exec G rm b) fuel r := by simp only [VL.exec]
/-- a loop over what no one may change: by an invariant -/
theorem for_inv {t : Tg} {it : Ex} {b : Sm} {m : Nat} {ds : List D} {r0 : Env} {Q : Out → Prop} (hr : (rootsX it).any (stF t b) = false) (hi : evI G it (lockE (rootsX it) r) = .ok ((m, ds), r0)) (I : List D → Env → Prop) (h0 : I [] r0)
    (hs : ∀ p d q s, ds = p ++ d :: q → I p s → ∃ o, bodyF G rm m t b d s = .ok o ∧ match o with | .nx s' => I (p ++ [d]) s' | .ct s' => I (p ++ [d]) s' | .bk s' => Q (.nx (unl (rootsX it) (stF t b) r s')) | .rt v s' => Q (.rt v (unl (rootsX it) (stF t b) r s')))
    (hE : ∀ s, I ds s → Q (.nx (unl (rootsX it) (stF t b) r s))) : ∃ o, VL.exec G rm (.for_ t it b) r = .ok o ∧ Q o := by
  rw [x_for, hr, hi]
  obtain ⟨o, e, q⟩ := forL_inv (f := bodyF G rm m t b) (Q := fun o => match o with | .nx s' => Q (.nx (unl (rootsX it) (stF t b) r s')) | .rt v s' => Q (.rt v (unl (rootsX it) (stF t b) r s')) | _ => False) I h0 (fun p d q s e h => by
    obtain ⟨o, eo, w⟩ := hs p d q s e h
    exact ⟨o, eo, by cases o <;> exact w⟩) hE
  simp only [Bool.false_eq_true, if_false, fo1_ok]
  rw [e]
  cases o with
  | nx s => exact ⟨_, rfl, q⟩
  | rt v s => exact ⟨_, rfl, q⟩
  | bk s => exact q.elim
  | ct s => exact q.elim
/-- one statement behind another -/
theorem seq_to {a b : Sm} {Q Q1 : Out → Prop} (h : ∃ o, VL.exec G rm a r = .ok o ∧ Q1 o) (k : ∀ o, Q1 o → match o with | .nx s => ∃ o, VL.exec G rm b s = .ok o ∧ Q o | o => Q o) : ∃ o, VL.exec G rm (.seq a b) r = .ok o ∧ Q o := by
  obtain ⟨o, e, q⟩ := h
  have w := k o q
  rw [x_seq, e]
  cases o with
  | nx s => exact w
  | rt v s => exact ⟨_, rfl, w⟩
  | bk s => exact ⟨_, rfl, w⟩
  | ct s => exact ⟨_, rfl, w⟩
/-! ### x[k] = e, x += e, a pair's store -/
def sx5 (i : Nat) (p : Option Int) (j : Int) (m : Nat) (d : D) (r : Env) (x : R Nat) : R Out := x >>= fun m' => if m' = m then updE i p (setL j d) r >>= fun q => .ok (.nx q.2) else stk
def nxD (x : R (D × Env)) : R Out := x >>= fun q => .ok (.nx q.2)
@[simp] theorem nxD_ok {d : D} : nxD (.ok (d, r)) = .ok (.nx r) := id rfl
@[simp] theorem sx5_ok {i m m' : Nat} {p : Option Int} {j : Int} {d : D} : sx5 i p j m d r (.ok m') = if m' = m then nxD (upS i p (setL j d) r r[i]?) else stk := by rw [← updE_eq]; rfl
def sx4 (i : Nat) (p : Option Int) (m : Nat) (d : D) (x : R (Int × Env)) : R Out := x >>= fun q => sx5 i p q.1 m d q.2 (depS i p q.2)
@[simp] theorem sx4_ok {i m : Nat} {p : Option Int} {j : Int} {d : D} : sx4 i p m d (.ok (j, r)) = sx5 i p j m d r (dpS p r[i]?) := by rw [← depS_eq]; rfl
def sx3 (G : Str → Option Fd) (i : Nat) (c : Bool) (k : Ex) (m : Nat) (d : D) (p : Option Int) (r : Env) (x : R Nat) : R Out := x >>= fun _ => if c then sx4 i p m d (in1 (ev G k r)) else stk
@[simp] theorem sx3_ok {i m m' : Nat} {c : Bool} {k : Ex} {p : Option Int} {d : D} : sx3 G i c k m d p r (.ok m') = if c then sx4 i p m d (in1 (ev G k r)) else stk := id rfl
def sx2 (G : Str → Option Fd) (i : Nat) (c : Bool) (k : Ex) (m : Nat) (d : D) (x : R (Option Int × Env)) : R Out := x >>= fun a => sx3 G i c k m d a.1 a.2 (depS i a.1 a.2)
@[simp] theorem sx2_ok {i m : Nat} {c : Bool} {k : Ex} {p : Option Int} {d : D} : sx2 G i c k m d (.ok (p, r)) = sx3 G i c k m d p r (dpS p r[i]?) := by rw [← depS_eq]; rfl
def sx1 (G : Str → Option Fd) (i : Nat) (p k : Ex) (m : Nat) (d : D) (r : Env) (x : R Val) : R Out := x >>= fun _ => sx2 G i (isNil p || pureX G k) k m d (ptE G p r)
@[simp] theorem sx1_ok {i m : Nat} {p k : Ex} {d : D} {v : Val} : sx1 G i p k m d r (.ok v) = sx2 G i (isNil p || pureX G k) k m d (ptE G p r) := id rfl
def sx0 (G : Str → Option Fd) (i : Nat) (p k : Ex) (m : Nat) (x : R (D × Env)) : R Out := x >>= fun x => sx1 G i p k m x.1 x.2 (rd i x.2)
@[simp] theorem sx0_ok {i m : Nat} {p k : Ex} {d : D} : sx0 G i p k m (.ok (d, r)) = sx1 G i p k m d r (rv r[i]?) := by rw [← rd_rv]; rfl
def sx (G : Str → Option Fd) (i : Nat) (p k e : Ex) (r : Env) (x : R Nat) : R Out := x >>= fun m => sx0 G i p k m (tkE G m e r)
@[simp] theorem sx_ok {i m : Nat} {p k e : Ex} : sx G i p k e r (.ok m) = sx0 G i p k m (tkE G m e r) := id rfl
def dpB (p : Bool) : Option Sl → R Nat
  | some (.ow n _) => .ok (if p then n - 1 else n - 2)
  | some (.mt n _) => .ok (if p then n - 1 else n - 2)
  | _ => stk
@[simp] theorem dpB_ow {p : Bool} {n : Nat} {d : D} : dpB p (some (.ow n d)) = .ok (if p then n - 1 else n - 2) := id rfl
@[simp] theorem dpB_mt {p : Bool} {n : Nat} {d : D} : dpB p (some (.mt n d)) = .ok (if p then n - 1 else n - 2) := id rfl
theorem x_sets {i : Nat} {p k e : Ex} : VL.exec G rm (.sets i p k e) r = sx G i p k e r (dpB (isNil p) r[i]?) := by
  have e0 : depB i (isNil p) r = dpB (isNil p) r[i]? := by
    unfold depB dpB
    cases r[i]? with
    | none => rfl
    | some s => cases s <;> rfl
  rw [VL.exec.eq_def]
  dsimp only
  rw [e0, sx]
  refine bind_cases fun m => ?_
  rw [tk_tkE, sx0]
  refine bind_cases fun x => ?_
  rw [sx1]
  refine bind_cases fun v => ?_
  rw [sx2]
  refine bind_both (by cases p <;> first | rfl | (simp only [ptE, so1, in1, in2, bind_assoc, ok_bind])) fun a => ?_
  rw [sx3]
  refine bind_cases fun m0 => ?_
  split
  · rw [sx4, in1]
    simp only [bind_assoc]
    refine bind_cases fun q => ?_
    rw [in2]
    simp only [bind_assoc, ok_bind]
    refine bind_cases fun j => ?_
    rw [sx5]
  · rfl
def au5 (i : Nat) (r : Env) (x : R D) : R Out := x >>= fun d => nxR (putS i (.fz d) r)
@[simp] theorem au5_ok {i : Nat} {d : D} : au5 i r (.ok d) = nxR (put1 i (.fz d) r r[i]?) := by rw [← putS_eq]; rfl
def au4 (i : Nat) (o : Operator) (x : Int) (y : R (Int × Env)) : R Out := y >>= fun q => au5 i q.2 (bop o (.int x) (.int q.1))
@[simp] theorem au4_ok {i : Nat} {o : Operator} {x y : Int} : au4 i o x (.ok (y, r)) = au5 i r (bop o (.int x) (.int y)) := id rfl
def au3 (G : Str → Option Fd) (i : Nat) (o : Operator) (e : Ex) (r : Env) (x : R Int) : R Out := x >>= fun x => au4 i o x (in1 (ev G e r))
@[simp] theorem au3_ok {i : Nat} {o : Operator} {e : Ex} {x : Int} : au3 G i o e r (.ok x) = au4 i o x (in1 (ev G e r)) := id rfl
def au2 (G : Str → Option Fd) (i : Nat) (o : Operator) (e : Ex) (r : Env) (x : R Val) : R Out := x >>= fun v => au3 G i o e r (asI v.d)
@[simp] theorem au2_ok {i : Nat} {o : Operator} {e : Ex} {v : Val} : au2 G i o e r (.ok v) = au3 G i o e r (asI v.d) := id rfl
theorem x_aug {i : Nat} {o : Operator} {e : Ex} : VL.exec G rm (.aug i o e) r = au2 G i o e r (rv r[i]?) := by
  rw [VL.exec, rd_rv, au2]
  refine bind_cases fun v => ?_
  rw [au3]
  refine bind_cases fun x => ?_
  rw [au4, in1]
  simp only [bind_assoc]
  refine bind_cases fun q => ?_
  rw [in2]
  simp only [bind_assoc, ok_bind]
  refine bind_cases fun j => ?_
  rw [au5]
  refine bind_cases fun d => ?_
  rfl
def pa3 (j : Nat) (d : D) (x : R Env) : R Out := x >>= fun s => nxR (putS j (.fz d) s)
@[simp] theorem pa3_ok {j : Nat} {d : D} : pa3 j d (.ok r) = nxR (put1 j (.fz d) r r[j]?) := by rw [← putS_eq]; rfl
def pa2 (i j : Nat) (d : D) (x : R (D × Env)) : R Out := x >>= fun q => pa3 j q.1 (putS i (.fz d) q.2)
@[simp] theorem pa2_ok {i j : Nat} {d e : D} : pa2 i j d (.ok (e, r)) = pa3 j e (put1 i (.fz d) r r[i]?) := by rw [← putS_eq]; rfl
def pa1 (G : Str → Option Fd) (i j : Nat) (b : Ex) (x : R (D × Env)) : R Out := x >>= fun p => pa2 i j p.1 (tkE G 0 b p.2)
@[simp] theorem pa1_ok {i j : Nat} {b : Ex} {d : D} : pa1 G i j b (.ok (d, r)) = pa2 i j d (tkE G 0 b r) := id rfl
theorem x_par {i j : Nat} {a b : Ex} : VL.exec G rm (.par i j a b) r = pa1 G i j b (tkE G 0 a r) := by
  rw [VL.exec, tk_tkE, pa1]
  refine bind_cases fun p => ?_
  rw [tk_tkE, pa2]
  refine bind_cases fun q => ?_
  rw [pa3]
  refine bind_cases fun s => ?_
  rfl
/-! ### a def's run -/
def sl2R (s : Sl) (x : R Env) : R Env := x >>= fun r => .ok (s :: r)
@[simp] theorem sl2R_ok {s : Sl} : sl2R s (.ok r) = .ok (s :: r) := id rfl
@[simp] theorem slsOf_nil : slsOf [] [] = .ok [] := id rfl
@[simp] theorem slsOf_cons {p : Pm} {ps : List Pm} {d : D} {ds : List D} : slsOf (p :: ps) (d :: ds) = sl2R (slOf p d) (slsOf ps ds) := id rfl
@[simp] theorem slOf_fz {d : D} : slOf .fz d = .fz d := id rfl
@[simp] theorem slOf_lk {n : Nat} {d : D} : slOf (.lk n) d = .lk n d := id rfl
@[simp] theorem slOf_mt {n : Nat} {d : D} : slOf (.mt n) d = .mt n d := id rfl
def ouC (d : D) (x : R (List D)) : R (List D) := x >>= fun ds => .ok (d :: ds)
@[simp] theorem ouC_ok {d : D} {ds : List D} : ouC d (.ok ds) = .ok (d :: ds) := id rfl
@[simp] theorem outsOf_nil : outsOf [] r = .ok [] := by cases r <;> rfl
@[simp] theorem outsOf_fz {ps : List Pm} {s : Sl} : outsOf (.fz :: ps) (s :: r) = outsOf ps r := id rfl
@[simp] theorem outsOf_lk {ps : List Pm} {n : Nat} {s : Sl} : outsOf (.lk n :: ps) (s :: r) = outsOf ps r := id rfl
@[simp] theorem outsOf_mt {ps : List Pm} {n : Nat} {d : D} : outsOf (.mt n :: ps) (.mt n d :: r) = ouC d (outsOf ps r) := by
  rw [outsOf, if_pos rfl]
  rfl
def enQ2 (d : D) (x : R (List D)) : R (D × List D) := x >>= fun ds => .ok (d, ds)
@[simp] theorem enQ2_ok {d : D} {ds : List D} : enQ2 d (.ok ds) = .ok (d, ds) := id rfl
def en2 (pm : List Pm) (x : R Out) : R (D × List D) := x >>= fun o => match o with
  | .rt d s => enQ2 d (outsOf pm s)
  | .nx s => enQ2 .none (outsOf pm s)
  | _ => stk
@[simp] theorem en2_rt {pm : List Pm} {d : D} : en2 pm (.ok (.rt d r)) = enQ2 d (outsOf pm r) := id rfl
@[simp] theorem en2_nx {pm : List Pm} : en2 pm (.ok (.nx r)) = enQ2 .none (outsOf pm r) := id rfl
def rn1 (G : Str → Option Fd) (f : Fn) (x : R Env) : R (D × List D) := x >>= fun r => en2 f.sg.pm (VL.exec G f.sg.ret f.body (r ++ List.replicate (f.slots - r.length) .no))
@[simp] theorem rn1_ok {f : Fn} : rn1 G f (.ok r) = en2 f.sg.pm (VL.exec G f.sg.ret f.body (r ++ List.replicate (f.slots - r.length) .no)) := id rfl
theorem s_run {f : Fn} {ds : List D} : runF G f ds = rn1 G f (slsOf f.sg.pm ds) := by
  rw [runF, rn1]
  refine bind_cases fun r => ?_
  rw [en2]
  refine bind_cases fun o => ?_
  cases o <;> rfl
theorem cl_eq {P : Str → Option Fn} {k : Nat} {f : Str} {fn : Fn} {ds : List D} (h : P f = some fn) : cl P k f ds = rn1 (prog P k) fn (slsOf fn.sg.pm ds) := by
  unfold cl
  rw [h, ← s_run]
end
end VL
/-! VP: small facts for rewriting. -/
namespace VL
open PySem
@[simp] theorem isV_c {d} : isV (.c d) = false := id rfl
@[simp] theorem isNil_c {d} : isNil (.c d) = false := id rfl
@[simp] theorem isV_bin {o a b} : isV (.bin o a b) = false := id rfl
@[simp] theorem isNil_bin {o a b} : isNil (.bin o a b) = false := id rfl
@[simp] theorem isV_un {o a} : isV (.un o a) = false := id rfl
@[simp] theorem isNil_un {o a} : isNil (.un o a) = false := id rfl
@[simp] theorem isV_tnot {a} : isV (.tnot a) = false := id rfl
@[simp] theorem isNil_tnot {a} : isNil (.tnot a) = false := id rfl
@[simp] theorem isV_tand {a b} : isV (.tand a b) = false := id rfl
@[simp] theorem isNil_tand {a b} : isNil (.tand a b) = false := id rfl
@[simp] theorem isV_tor {a b} : isV (.tor a b) = false := id rfl
@[simp] theorem isNil_tor {a b} : isNil (.tor a b) = false := id rfl
@[simp] theorem isV_vand {a b} : isV (.vand a b) = false := id rfl
@[simp] theorem isNil_vand {a b} : isNil (.vand a b) = false := id rfl
@[simp] theorem isV_vor {a b} : isV (.vor a b) = false := id rfl
@[simp] theorem isNil_vor {a b} : isNil (.vor a b) = false := id rfl
@[simp] theorem isV_ife {a b c} : isV (.ife a b c) = false := id rfl
@[simp] theorem isNil_ife {a b c} : isNil (.ife a b c) = false := id rfl
@[simp] theorem isV_cmp {o a b} : isV (.cmp o a b) = false := id rfl
@[simp] theorem isNil_cmp {o a b} : isNil (.cmp o a b) = false := id rfl
@[simp] theorem isV_chn {o p a b c} : isV (.chn o p a b c) = false := id rfl
@[simp] theorem isNil_chn {o p a b c} : isNil (.chn o p a b c) = false := id rfl
@[simp] theorem isV_tup {a} : isV (.tup a) = false := id rfl
@[simp] theorem isNil_tup {a} : isNil (.tup a) = false := id rfl
@[simp] theorem isV_lst {n a} : isV (.lst n a) = false := id rfl
@[simp] theorem isNil_lst {n a} : isNil (.lst n a) = false := id rfl
@[simp] theorem isV_ix {a b} : isV (.ix a b) = false := id rfl
@[simp] theorem isNil_ix {a b} : isNil (.ix a b) = false := id rfl
@[simp] theorem isV_sl {a b c} : isV (.sl a b c) = false := id rfl
@[simp] theorem isNil_sl {a b c} : isNil (.sl a b c) = false := id rfl
@[simp] theorem isV_b1 {f a} : isV (.b1 f a) = false := id rfl
@[simp] theorem isNil_b1 {f a} : isNil (.b1 f a) = false := id rfl
@[simp] theorem isV_b2 {f a b} : isV (.b2 f a b) = false := id rfl
@[simp] theorem isNil_b2 {f a b} : isNil (.b2 f a b) = false := id rfl
@[simp] theorem isV_isi {a t} : isV (.isi a t) = false := id rfl
@[simp] theorem isNil_isi {a t} : isNil (.isi a t) = false := id rfl
@[simp] theorem isV_m1 {f a b} : isV (.m1 f a b) = false := id rfl
@[simp] theorem isNil_m1 {f a b} : isNil (.m1 f a b) = false := id rfl
@[simp] theorem isV_lst1 {a} : isV (.lst1 a) = false := id rfl
@[simp] theorem isNil_lst1 {a} : isNil (.lst1 a) = false := id rfl
@[simp] theorem isV_tup1 {a} : isV (.tup1 a) = false := id rfl
@[simp] theorem isNil_tup1 {a} : isNil (.tup1 a) = false := id rfl
@[simp] theorem isV_comp {n e t i c o} : isV (.comp n e t i c o) = false := id rfl
@[simp] theorem isNil_comp {n e t i c o} : isNil (.comp n e t i c o) = false := id rfl
@[simp] theorem isV_comp2 {n e t i c t1 i1 c1 o o1} : isV (.comp2 n e t i c t1 i1 c1 o o1) = false := id rfl
@[simp] theorem isNil_comp2 {n e t i c t1 i1 c1 o o1} : isNil (.comp2 n e t i c t1 i1 c1 o o1) = false := id rfl
@[simp] theorem isV_call {f a} : isV (.call f a) = false := id rfl
@[simp] theorem isNil_call {f a} : isNil (.call f a) = false := id rfl
@[simp] theorem isV_pop {i p k} : isV (.pop i p k) = false := id rfl
@[simp] theorem isNil_pop {i p k} : isNil (.pop i p k) = false := id rfl
@[simp] theorem isV_app {i p e} : isV (.app i p e) = false := id rfl
@[simp] theorem isNil_app {i p e} : isNil (.app i p e) = false := id rfl
@[simp] theorem isV_ext {i p e} : isV (.ext i p e) = false := id rfl
@[simp] theorem isNil_ext {i p e} : isNil (.ext i p e) = false := id rfl
@[simp] theorem isV_ins {i p k e} : isV (.ins i p k e) = false := id rfl
@[simp] theorem isNil_ins {i p k e} : isNil (.ins i p k e) = false := id rfl
@[simp] theorem isNil_v {i} : isNil (.v i) = false := id rfl
@[simp] theorem isV_v {i} : isV (.v i) = true := id rfl
section
variable {G : Str → Option Fd} {r : Env}
@[simp] theorem tkE_c {m : Nat} {d} : tkE G m (.c d) r = tk1 m (ev G (.c d) r) := id rfl
@[simp] theorem opE_c {pu : Bool} {d} : opE G pu (.c d) r = op2 pu (ev G (.c d) r) := id rfl
@[simp] theorem slP_c {d} : slP G (.c d) r = so1 (in1 (ev G (.c d) r)) := id rfl
@[simp] theorem ptE_c {d} : ptE G (.c d) r = so1 (in1 (ev G (.c d) r)) := id rfl
@[simp] theorem agE_lk_c {n : Nat} {d} : agE G (.lk n) (.c d) r = agD (tkE G 0 (.c d) r) := id rfl
@[simp] theorem tkE_bin {m : Nat} {o a b} : tkE G m (.bin o a b) r = tk1 m (ev G (.bin o a b) r) := id rfl
@[simp] theorem opE_bin {pu : Bool} {o a b} : opE G pu (.bin o a b) r = op2 pu (ev G (.bin o a b) r) := id rfl
@[simp] theorem slP_bin {o a b} : slP G (.bin o a b) r = so1 (in1 (ev G (.bin o a b) r)) := id rfl
@[simp] theorem ptE_bin {o a b} : ptE G (.bin o a b) r = so1 (in1 (ev G (.bin o a b) r)) := id rfl
@[simp] theorem agE_lk_bin {n : Nat} {o a b} : agE G (.lk n) (.bin o a b) r = agD (tkE G 0 (.bin o a b) r) := id rfl
@[simp] theorem tkE_un {m : Nat} {o a} : tkE G m (.un o a) r = tk1 m (ev G (.un o a) r) := id rfl
@[simp] theorem opE_un {pu : Bool} {o a} : opE G pu (.un o a) r = op2 pu (ev G (.un o a) r) := id rfl
@[simp] theorem slP_un {o a} : slP G (.un o a) r = so1 (in1 (ev G (.un o a) r)) := id rfl
@[simp] theorem ptE_un {o a} : ptE G (.un o a) r = so1 (in1 (ev G (.un o a) r)) := id rfl
@[simp] theorem agE_lk_un {n : Nat} {o a} : agE G (.lk n) (.un o a) r = agD (tkE G 0 (.un o a) r) := id rfl
@[simp] theorem tkE_tnot {m : Nat} {a} : tkE G m (.tnot a) r = tk1 m (ev G (.tnot a) r) := id rfl
@[simp] theorem opE_tnot {pu : Bool} {a} : opE G pu (.tnot a) r = op2 pu (ev G (.tnot a) r) := id rfl
@[simp] theorem slP_tnot {a} : slP G (.tnot a) r = so1 (in1 (ev G (.tnot a) r)) := id rfl
@[simp] theorem ptE_tnot {a} : ptE G (.tnot a) r = so1 (in1 (ev G (.tnot a) r)) := id rfl
@[simp] theorem agE_lk_tnot {n : Nat} {a} : agE G (.lk n) (.tnot a) r = agD (tkE G 0 (.tnot a) r) := id rfl
@[simp] theorem tkE_tand {m : Nat} {a b} : tkE G m (.tand a b) r = tk1 m (ev G (.tand a b) r) := id rfl
@[simp] theorem opE_tand {pu : Bool} {a b} : opE G pu (.tand a b) r = op2 pu (ev G (.tand a b) r) := id rfl
@[simp] theorem slP_tand {a b} : slP G (.tand a b) r = so1 (in1 (ev G (.tand a b) r)) := id rfl
@[simp] theorem ptE_tand {a b} : ptE G (.tand a b) r = so1 (in1 (ev G (.tand a b) r)) := id rfl
@[simp] theorem agE_lk_tand {n : Nat} {a b} : agE G (.lk n) (.tand a b) r = agD (tkE G 0 (.tand a b) r) := id rfl
@[simp] theorem tkE_tor {m : Nat} {a b} : tkE G m (.tor a b) r = tk1 m (ev G (.tor a b) r) := id rfl
@[simp] theorem opE_tor {pu : Bool} {a b} : opE G pu (.tor a b) r = op2 pu (ev G (.tor a b) r) := id rfl
@[simp] theorem slP_tor {a b} : slP G (.tor a b) r = so1 (in1 (ev G (.tor a b) r)) := id rfl
@[simp] theorem ptE_tor {a b} : ptE G (.tor a b) r = so1 (in1 (ev G (.tor a b) r)) := id rfl
@[simp] theorem agE_lk_tor {n : Nat} {a b} : agE G (.lk n) (.tor a b) r = agD (tkE G 0 (.tor a b) r) := id rfl
@[simp] theorem tkE_vand {m : Nat} {a b} : tkE G m (.vand a b) r = tk1 m (ev G (.vand a b) r) := id rfl
@[simp] theorem opE_vand {pu : Bool} {a b} : opE G pu (.vand a b) r = op2 pu (ev G (.vand a b) r) := id rfl
@[simp] theorem slP_vand {a b} : slP G (.vand a b) r = so1 (in1 (ev G (.vand a b) r)) := id rfl
@[simp] theorem ptE_vand {a b} : ptE G (.vand a b) r = so1 (in1 (ev G (.vand a b) r)) := id rfl
@[simp] theorem agE_lk_vand {n : Nat} {a b} : agE G (.lk n) (.vand a b) r = agD (tkE G 0 (.vand a b) r) := id rfl
@[simp] theorem tkE_vor {m : Nat} {a b} : tkE G m (.vor a b) r = tk1 m (ev G (.vor a b) r) := id rfl
@[simp] theorem opE_vor {pu : Bool} {a b} : opE G pu (.vor a b) r = op2 pu (ev G (.vor a b) r) := id rfl
@[simp] theorem slP_vor {a b} : slP G (.vor a b) r = so1 (in1 (ev G (.vor a b) r)) := id rfl
@[simp] theorem ptE_vor {a b} : ptE G (.vor a b) r = so1 (in1 (ev G (.vor a b) r)) := id rfl
@[simp] theorem agE_lk_vor {n : Nat} {a b} : agE G (.lk n) (.vor a b) r = agD (tkE G 0 (.vor a b) r) := id rfl
@[simp] theorem tkE_ife {m : Nat} {a b c} : tkE G m (.ife a b c) r = tk1 m (ev G (.ife a b c) r) := id rfl
@[simp] theorem opE_ife {pu : Bool} {a b c} : opE G pu (.ife a b c) r = op2 pu (ev G (.ife a b c) r) := id rfl
@[simp] theorem slP_ife {a b c} : slP G (.ife a b c) r = so1 (in1 (ev G (.ife a b c) r)) := id rfl
@[simp] theorem ptE_ife {a b c} : ptE G (.ife a b c) r = so1 (in1 (ev G (.ife a b c) r)) := id rfl
@[simp] theorem agE_lk_ife {n : Nat} {a b c} : agE G (.lk n) (.ife a b c) r = agD (tkE G 0 (.ife a b c) r) := id rfl
@[simp] theorem tkE_cmp {m : Nat} {o a b} : tkE G m (.cmp o a b) r = tk1 m (ev G (.cmp o a b) r) := id rfl
@[simp] theorem opE_cmp {pu : Bool} {o a b} : opE G pu (.cmp o a b) r = op2 pu (ev G (.cmp o a b) r) := id rfl
@[simp] theorem slP_cmp {o a b} : slP G (.cmp o a b) r = so1 (in1 (ev G (.cmp o a b) r)) := id rfl
@[simp] theorem ptE_cmp {o a b} : ptE G (.cmp o a b) r = so1 (in1 (ev G (.cmp o a b) r)) := id rfl
@[simp] theorem agE_lk_cmp {n : Nat} {o a b} : agE G (.lk n) (.cmp o a b) r = agD (tkE G 0 (.cmp o a b) r) := id rfl
@[simp] theorem tkE_chn {m : Nat} {o p a b c} : tkE G m (.chn o p a b c) r = tk1 m (ev G (.chn o p a b c) r) := id rfl
@[simp] theorem opE_chn {pu : Bool} {o p a b c} : opE G pu (.chn o p a b c) r = op2 pu (ev G (.chn o p a b c) r) := id rfl
@[simp] theorem slP_chn {o p a b c} : slP G (.chn o p a b c) r = so1 (in1 (ev G (.chn o p a b c) r)) := id rfl
@[simp] theorem ptE_chn {o p a b c} : ptE G (.chn o p a b c) r = so1 (in1 (ev G (.chn o p a b c) r)) := id rfl
@[simp] theorem agE_lk_chn {n : Nat} {o p a b c} : agE G (.lk n) (.chn o p a b c) r = agD (tkE G 0 (.chn o p a b c) r) := id rfl
@[simp] theorem tkE_tup {m : Nat} {a} : tkE G m (.tup a) r = tk1 m (ev G (.tup a) r) := id rfl
@[simp] theorem opE_tup {pu : Bool} {a} : opE G pu (.tup a) r = op2 pu (ev G (.tup a) r) := id rfl
@[simp] theorem slP_tup {a} : slP G (.tup a) r = so1 (in1 (ev G (.tup a) r)) := id rfl
@[simp] theorem ptE_tup {a} : ptE G (.tup a) r = so1 (in1 (ev G (.tup a) r)) := id rfl
@[simp] theorem agE_lk_tup {n : Nat} {a} : agE G (.lk n) (.tup a) r = agD (tkE G 0 (.tup a) r) := id rfl
@[simp] theorem tkE_lst {m : Nat} {n a} : tkE G m (.lst n a) r = tk1 m (ev G (.lst n a) r) := id rfl
@[simp] theorem opE_lst {pu : Bool} {n a} : opE G pu (.lst n a) r = op2 pu (ev G (.lst n a) r) := id rfl
@[simp] theorem slP_lst {n a} : slP G (.lst n a) r = so1 (in1 (ev G (.lst n a) r)) := id rfl
@[simp] theorem ptE_lst {n a} : ptE G (.lst n a) r = so1 (in1 (ev G (.lst n a) r)) := id rfl
@[simp] theorem agE_lk_lst {n : Nat} {n a} : agE G (.lk n) (.lst n a) r = agD (tkE G 0 (.lst n a) r) := id rfl
@[simp] theorem tkE_ix {m : Nat} {a b} : tkE G m (.ix a b) r = tk1 m (ev G (.ix a b) r) := id rfl
@[simp] theorem opE_ix {pu : Bool} {a b} : opE G pu (.ix a b) r = op2 pu (ev G (.ix a b) r) := id rfl
@[simp] theorem slP_ix {a b} : slP G (.ix a b) r = so1 (in1 (ev G (.ix a b) r)) := id rfl
@[simp] theorem ptE_ix {a b} : ptE G (.ix a b) r = so1 (in1 (ev G (.ix a b) r)) := id rfl
@[simp] theorem agE_lk_ix {n : Nat} {a b} : agE G (.lk n) (.ix a b) r = agD (tkE G 0 (.ix a b) r) := id rfl
@[simp] theorem tkE_sl {m : Nat} {a b c} : tkE G m (.sl a b c) r = tk1 m (ev G (.sl a b c) r) := id rfl
@[simp] theorem opE_sl {pu : Bool} {a b c} : opE G pu (.sl a b c) r = op2 pu (ev G (.sl a b c) r) := id rfl
@[simp] theorem slP_sl {a b c} : slP G (.sl a b c) r = so1 (in1 (ev G (.sl a b c) r)) := id rfl
@[simp] theorem ptE_sl {a b c} : ptE G (.sl a b c) r = so1 (in1 (ev G (.sl a b c) r)) := id rfl
@[simp] theorem agE_lk_sl {n : Nat} {a b c} : agE G (.lk n) (.sl a b c) r = agD (tkE G 0 (.sl a b c) r) := id rfl
@[simp] theorem tkE_b1 {m : Nat} {f a} : tkE G m (.b1 f a) r = tk1 m (ev G (.b1 f a) r) := id rfl
@[simp] theorem opE_b1 {pu : Bool} {f a} : opE G pu (.b1 f a) r = op2 pu (ev G (.b1 f a) r) := id rfl
@[simp] theorem slP_b1 {f a} : slP G (.b1 f a) r = so1 (in1 (ev G (.b1 f a) r)) := id rfl
@[simp] theorem ptE_b1 {f a} : ptE G (.b1 f a) r = so1 (in1 (ev G (.b1 f a) r)) := id rfl
@[simp] theorem agE_lk_b1 {n : Nat} {f a} : agE G (.lk n) (.b1 f a) r = agD (tkE G 0 (.b1 f a) r) := id rfl
@[simp] theorem tkE_b2 {m : Nat} {f a b} : tkE G m (.b2 f a b) r = tk1 m (ev G (.b2 f a b) r) := id rfl
@[simp] theorem opE_b2 {pu : Bool} {f a b} : opE G pu (.b2 f a b) r = op2 pu (ev G (.b2 f a b) r) := id rfl
@[simp] theorem slP_b2 {f a b} : slP G (.b2 f a b) r = so1 (in1 (ev G (.b2 f a b) r)) := id rfl
@[simp] theorem ptE_b2 {f a b} : ptE G (.b2 f a b) r = so1 (in1 (ev G (.b2 f a b) r)) := id rfl
@[simp] theorem agE_lk_b2 {n : Nat} {f a b} : agE G (.lk n) (.b2 f a b) r = agD (tkE G 0 (.b2 f a b) r) := id rfl
@[simp] theorem tkE_isi {m : Nat} {a t} : tkE G m (.isi a t) r = tk1 m (ev G (.isi a t) r) := id rfl
@[simp] theorem opE_isi {pu : Bool} {a t} : opE G pu (.isi a t) r = op2 pu (ev G (.isi a t) r) := id rfl
@[simp] theorem slP_isi {a t} : slP G (.isi a t) r = so1 (in1 (ev G (.isi a t) r)) := id rfl
@[simp] theorem ptE_isi {a t} : ptE G (.isi a t) r = so1 (in1 (ev G (.isi a t) r)) := id rfl
@[simp] theorem agE_lk_isi {n : Nat} {a t} : agE G (.lk n) (.isi a t) r = agD (tkE G 0 (.isi a t) r) := id rfl
@[simp] theorem tkE_m1 {m : Nat} {f a b} : tkE G m (.m1 f a b) r = tk1 m (ev G (.m1 f a b) r) := id rfl
@[simp] theorem opE_m1 {pu : Bool} {f a b} : opE G pu (.m1 f a b) r = op2 pu (ev G (.m1 f a b) r) := id rfl
@[simp] theorem slP_m1 {f a b} : slP G (.m1 f a b) r = so1 (in1 (ev G (.m1 f a b) r)) := id rfl
@[simp] theorem ptE_m1 {f a b} : ptE G (.m1 f a b) r = so1 (in1 (ev G (.m1 f a b) r)) := id rfl
@[simp] theorem agE_lk_m1 {n : Nat} {f a b} : agE G (.lk n) (.m1 f a b) r = agD (tkE G 0 (.m1 f a b) r) := id rfl
@[simp] theorem tkE_lst1 {m : Nat} {a} : tkE G m (.lst1 a) r = tk1 m (ev G (.lst1 a) r) := id rfl
@[simp] theorem opE_lst1 {pu : Bool} {a} : opE G pu (.lst1 a) r = op2 pu (ev G (.lst1 a) r) := id rfl
@[simp] theorem slP_lst1 {a} : slP G (.lst1 a) r = so1 (in1 (ev G (.lst1 a) r)) := id rfl
@[simp] theorem ptE_lst1 {a} : ptE G (.lst1 a) r = so1 (in1 (ev G (.lst1 a) r)) := id rfl
@[simp] theorem agE_lk_lst1 {n : Nat} {a} : agE G (.lk n) (.lst1 a) r = agD (tkE G 0 (.lst1 a) r) := id rfl
@[simp] theorem tkE_tup1 {m : Nat} {a} : tkE G m (.tup1 a) r = tk1 m (ev G (.tup1 a) r) := id rfl
@[simp] theorem opE_tup1 {pu : Bool} {a} : opE G pu (.tup1 a) r = op2 pu (ev G (.tup1 a) r) := id rfl
@[simp] theorem slP_tup1 {a} : slP G (.tup1 a) r = so1 (in1 (ev G (.tup1 a) r)) := id rfl
@[simp] theorem ptE_tup1 {a} : ptE G (.tup1 a) r = so1 (in1 (ev G (.tup1 a) r)) := id rfl
@[simp] theorem agE_lk_tup1 {n : Nat} {a} : agE G (.lk n) (.tup1 a) r = agD (tkE G 0 (.tup1 a) r) := id rfl
@[simp] theorem tkE_comp {m : Nat} {n e t i c o} : tkE G m (.comp n e t i c o) r = tk1 m (ev G (.comp n e t i c o) r) := id rfl
@[simp] theorem opE_comp {pu : Bool} {n e t i c o} : opE G pu (.comp n e t i c o) r = op2 pu (ev G (.comp n e t i c o) r) := id rfl
@[simp] theorem slP_comp {n e t i c o} : slP G (.comp n e t i c o) r = so1 (in1 (ev G (.comp n e t i c o) r)) := id rfl
@[simp] theorem ptE_comp {n e t i c o} : ptE G (.comp n e t i c o) r = so1 (in1 (ev G (.comp n e t i c o) r)) := id rfl
@[simp] theorem agE_lk_comp {n : Nat} {n e t i c o} : agE G (.lk n) (.comp n e t i c o) r = agD (tkE G 0 (.comp n e t i c o) r) := id rfl
@[simp] theorem tkE_comp2 {m : Nat} {n e t i c t1 i1 c1 o o1} : tkE G m (.comp2 n e t i c t1 i1 c1 o o1) r = tk1 m (ev G (.comp2 n e t i c t1 i1 c1 o o1) r) := id rfl
@[simp] theorem opE_comp2 {pu : Bool} {n e t i c t1 i1 c1 o o1} : opE G pu (.comp2 n e t i c t1 i1 c1 o o1) r = op2 pu (ev G (.comp2 n e t i c t1 i1 c1 o o1) r) := id rfl
@[simp] theorem slP_comp2 {n e t i c t1 i1 c1 o o1} : slP G (.comp2 n e t i c t1 i1 c1 o o1) r = so1 (in1 (ev G (.comp2 n e t i c t1 i1 c1 o o1) r)) := id rfl
@[simp] theorem ptE_comp2 {n e t i c t1 i1 c1 o o1} : ptE G (.comp2 n e t i c t1 i1 c1 o o1) r = so1 (in1 (ev G (.comp2 n e t i c t1 i1 c1 o o1) r)) := id rfl
@[simp] theorem agE_lk_comp2 {n : Nat} {n e t i c t1 i1 c1 o o1} : agE G (.lk n) (.comp2 n e t i c t1 i1 c1 o o1) r = agD (tkE G 0 (.comp2 n e t i c t1 i1 c1 o o1) r) := id rfl
@[simp] theorem tkE_call {m : Nat} {f a} : tkE G m (.call f a) r = tk1 m (ev G (.call f a) r) := id rfl
@[simp] theorem opE_call {pu : Bool} {f a} : opE G pu (.call f a) r = op2 pu (ev G (.call f a) r) := id rfl
@[simp] theorem slP_call {f a} : slP G (.call f a) r = so1 (in1 (ev G (.call f a) r)) := id rfl
@[simp] theorem ptE_call {f a} : ptE G (.call f a) r = so1 (in1 (ev G (.call f a) r)) := id rfl
@[simp] theorem agE_lk_call {n : Nat} {f a} : agE G (.lk n) (.call f a) r = agD (tkE G 0 (.call f a) r) := id rfl
@[simp] theorem tkE_pop {m : Nat} {i p k} : tkE G m (.pop i p k) r = tk1 m (ev G (.pop i p k) r) := id rfl
@[simp] theorem opE_pop {pu : Bool} {i p k} : opE G pu (.pop i p k) r = op2 pu (ev G (.pop i p k) r) := id rfl
@[simp] theorem slP_pop {i p k} : slP G (.pop i p k) r = so1 (in1 (ev G (.pop i p k) r)) := id rfl
@[simp] theorem ptE_pop {i p k} : ptE G (.pop i p k) r = so1 (in1 (ev G (.pop i p k) r)) := id rfl
@[simp] theorem agE_lk_pop {n : Nat} {i p k} : agE G (.lk n) (.pop i p k) r = agD (tkE G 0 (.pop i p k) r) := id rfl
@[simp] theorem tkE_app {m : Nat} {i p e} : tkE G m (.app i p e) r = tk1 m (ev G (.app i p e) r) := id rfl
@[simp] theorem opE_app {pu : Bool} {i p e} : opE G pu (.app i p e) r = op2 pu (ev G (.app i p e) r) := id rfl
@[simp] theorem slP_app {i p e} : slP G (.app i p e) r = so1 (in1 (ev G (.app i p e) r)) := id rfl
@[simp] theorem ptE_app {i p e} : ptE G (.app i p e) r = so1 (in1 (ev G (.app i p e) r)) := id rfl
@[simp] theorem agE_lk_app {n : Nat} {i p e} : agE G (.lk n) (.app i p e) r = agD (tkE G 0 (.app i p e) r) := id rfl
@[simp] theorem tkE_ext {m : Nat} {i p e} : tkE G m (.ext i p e) r = tk1 m (ev G (.ext i p e) r) := id rfl
@[simp] theorem opE_ext {pu : Bool} {i p e} : opE G pu (.ext i p e) r = op2 pu (ev G (.ext i p e) r) := id rfl
@[simp] theorem slP_ext {i p e} : slP G (.ext i p e) r = so1 (in1 (ev G (.ext i p e) r)) := id rfl
@[simp] theorem ptE_ext {i p e} : ptE G (.ext i p e) r = so1 (in1 (ev G (.ext i p e) r)) := id rfl
@[simp] theorem agE_lk_ext {n : Nat} {i p e} : agE G (.lk n) (.ext i p e) r = agD (tkE G 0 (.ext i p e) r) := id rfl
@[simp] theorem tkE_ins {m : Nat} {i p k e} : tkE G m (.ins i p k e) r = tk1 m (ev G (.ins i p k e) r) := id rfl
@[simp] theorem opE_ins {pu : Bool} {i p k e} : opE G pu (.ins i p k e) r = op2 pu (ev G (.ins i p k e) r) := id rfl
@[simp] theorem slP_ins {i p k e} : slP G (.ins i p k e) r = so1 (in1 (ev G (.ins i p k e) r)) := id rfl
@[simp] theorem ptE_ins {i p k e} : ptE G (.ins i p k e) r = so1 (in1 (ev G (.ins i p k e) r)) := id rfl
@[simp] theorem agE_lk_ins {n : Nat} {i p k e} : agE G (.lk n) (.ins i p k e) r = agD (tkE G 0 (.ins i p k e) r) := id rfl
@[simp] theorem slP_v {i : Nat} : slP G (.v i) r = so1 (in1 (ev G (.v i) r)) := id rfl
@[simp] theorem ptE_v {i : Nat} : ptE G (.v i) r = so1 (in1 (ev G (.v i) r)) := id rfl
end
/-! ### operations -/
@[simp] theorem bop_add {i j : Int} : bop .Add (.int i) (.int j) = .ok (.int (i + j)) := id rfl
@[simp] theorem bop_sub {i j : Int} : bop .Sub (.int i) (.int j) = .ok (.int (i - j)) := id rfl
def mulR (i j : Int) : Bool → R D
  | true => .ok (.int (i * j))
  | false => stk
@[simp] theorem mulR_t {i j : Int} : mulR i j true = .ok (.int (i * j)) := id rfl
@[simp] theorem bop_mul {i j : Int} : bop .Mult (.int i) (.int j) = mulR i j (smI i || smI j) := by
  rw [bop]
  cases smI i || smI j <;> rfl
@[simp] theorem bop_fdiv {i j : Int} : bop .FloorDiv (.int i) (.int j) = if j ≠ 0 ∧ j.natAbs < 1073741824 then .ok (.int (i.fdiv j)) else stk := id rfl
@[simp] theorem bop_mod {i j : Int} : bop .Mod (.int i) (.int j) = if j ≠ 0 then .ok (.int (i.fmod j)) else stk := id rfl
@[simp] theorem bop_pow {i j : Int} : bop .Pow (.int i) (.int j) = if 0 ≤ j ∧ j ≤ 1000000 ∧ i.natAbs < 2 ^ 64 then .ok (.int (i ^ j.toNat)) else stk := id rfl
@[simp] theorem bop_addL {xs ys : List D} : bop .Add (.list xs) (.list ys) = if xs.length + ys.length ≤ lim then .ok (.list (xs ++ ys)) else stk := id rfl
@[simp] theorem bop_addT {xs ys : List D} : bop .Add (.tuple xs) (.tuple ys) = if xs.length + ys.length ≤ lim then .ok (.tuple (xs ++ ys)) else stk := id rfl
@[simp] theorem uop_neg {i : Int} : uop .USub (.int i) = .ok (.int (-i)) := id rfl
theorem smI_of {i : Int} (h : -(2 ^ 64) < i ∧ i < 2 ^ 64) : smI i = true := by
  unfold smI
  exact decide_eq_true h
@[simp] theorem ltD_i {i j : Int} : ltD (.int i) (.int j) = .ok (decide (i < j)) := id rfl
@[simp] theorem notR_k {b : Bool} : notR (.ok b) = .ok (!b) := id rfl
@[simp] theorem cop_lt {a b : D} : cop .Lt a b = ltD a b := id rfl
@[simp] theorem cop_gt {a b : D} : cop .Gt a b = ltD b a := id rfl
@[simp] theorem cop_le {a b : D} : cop .LtE a b = notR (ltD b a) := id rfl
@[simp] theorem cop_ge {a b : D} : cop .GtE a b = notR (ltD a b) := id rfl
@[simp] theorem cop_eq {a b : D} : cop .Eq a b = eqD a b := id rfl
@[simp] theorem cop_ne {a b : D} : cop .NotEq a b = notR (eqD a b) := id rfl
@[simp] theorem cop_in {a b : D} : cop .In a b = inD a b := id rfl
@[simp] theorem cop_nin {a b : D} : cop .NotIn a b = notR (inD a b) := id rfl
@[simp] theorem cop_is {a b : D} : cop .Is a b = isC a b := id rfl
@[simp] theorem cop_isn {a b : D} : cop .IsNot a b = notR (isC a b) := id rfl
@[simp] theorem truth_b {b : Bool} : truth (.bool b) = .ok b := id rfl
@[simp] theorem truth_i {i : Int} : truth (.int i) = .ok (i != 0) := id rfl
@[simp] theorem truth_l {xs : List D} : truth (.list xs) = .ok (!xs.isEmpty) := id rfl
@[simp] theorem truth_t {xs : List D} : truth (.tuple xs) = .ok (!xs.isEmpty) := id rfl
@[simp] theorem b1_lenL {o : Bool} {n : Nat} {xs : List D} : b1D .len ⟨o, n, .list xs⟩ = .ok ⟨true, 0, .int xs.length⟩ := id rfl
@[simp] theorem b1_lenT {o : Bool} {n : Nat} {xs : List D} : b1D .len ⟨o, n, .tuple xs⟩ = .ok ⟨true, 0, .int xs.length⟩ := id rfl
@[simp] theorem b1_lenS {o : Bool} {n : Nat} {xs : List D} : b1D .len ⟨o, n, .dict [(.none, .list xs)]⟩ = .ok ⟨true, 0, .int xs.length⟩ := id rfl
@[simp] theorem b1_int {o : Bool} {n : Nat} {i : Int} : b1D .int ⟨o, n, .int i⟩ = .ok ⟨true, 0, .int i⟩ := id rfl
@[simp] theorem b1_intB {o : Bool} {n : Nat} {b : Bool} : b1D .int ⟨o, n, .bool b⟩ = .ok ⟨true, 0, .int (if b then 1 else 0)⟩ := id rfl
@[simp] theorem b1_listL {o : Bool} {n : Nat} {xs : List D} : b1D .list ⟨o, n, .list xs⟩ = if elz o n xs then .ok ⟨true, 1, .list xs⟩ else stk := id rfl
@[simp] theorem b1_listT {o : Bool} {n : Nat} {xs : List D} : b1D .list ⟨o, n, .tuple xs⟩ = .ok ⟨true, 1, .list xs⟩ := id rfl
@[simp] theorem b1_tupL {o : Bool} {n : Nat} {xs : List D} : b1D .tuple ⟨o, n, .list xs⟩ = if elz o n xs then .ok ⟨true, 0, .tuple xs⟩ else stk := id rfl
@[simp] theorem b1_tupT {o : Bool} {n : Nat} {xs : List D} : b1D .tuple ⟨o, n, .tuple xs⟩ = .ok ⟨true, 0, .tuple xs⟩ := id rfl
@[simp] theorem b2_max {i j : Int} : b2D .max (.int i) (.int j) = .ok (.int (if j > i then j else i)) := id rfl
@[simp] theorem b2_min {i j : Int} : b2D .min (.int i) (.int j) = .ok (.int (if j < i then j else i)) := id rfl
@[simp] theorem allInt_ints {ns : List Int} : allInt (ns.map .int) = some ns := allInt_of ns
theorem allBl_bools (bs : List Bool) : allBl (bs.map .bool) = some bs := by
  induction bs with
  | nil => rfl
  | cons n ns ih =>
    show (allBl (ns.map .bool)).map (n :: ·) = _
    rw [ih]
    rfl
def sumR : Option (List Int) → R Val
  | some ns => .ok ⟨true, 0, .int ns.sum⟩
  | none => stk
@[simp] theorem sumR_some {ns : List Int} : sumR (some ns) = .ok ⟨true, 0, .int ns.sum⟩ := id rfl
@[simp] theorem b1_sum {o : Bool} {n : Nat} {xs : List D} : b1D .sum ⟨o, n, .list xs⟩ = sumR (allInt xs) := by
  unfold sumR; simp only [b1D]; cases allInt xs <;> rfl
def anyR : Option (List Bool) → R Val
  | some bs => .ok ⟨true, 0, .bool (bs.any id)⟩
  | none => stk
@[simp] theorem anyR_some {bs : List Bool} : anyR (some bs) = .ok ⟨true, 0, .bool (bs.any id)⟩ := id rfl
@[simp] theorem b1_any {o : Bool} {n : Nat} {xs : List D} : b1D .any ⟨o, n, .list xs⟩ = anyR (allBl xs) := by
  unfold anyR; simp only [b1D]; cases allBl xs <;> rfl
def allR : Option (List Bool) → R Val
  | some bs => .ok ⟨true, 0, .bool (bs.all id)⟩
  | none => stk
@[simp] theorem allR_some {bs : List Bool} : allR (some bs) = .ok ⟨true, 0, .bool (bs.all id)⟩ := id rfl
@[simp] theorem b1_all {o : Bool} {n : Nat} {xs : List D} : b1D .all ⟨o, n, .list xs⟩ = allR (allBl xs) := by
  unfold allR; simp only [b1D]; cases allBl xs <;> rfl
def dsR : Option (List Int) → R Val
  | some ns => if ns.length < 60 then .ok ⟨true, 1, .list ((sortU ns).map .int)⟩ else stk
  | none => stk
@[simp] theorem dsR_some {ns : List Int} : dsR (some ns) = if ns.length < 60 then .ok ⟨true, 1, .list ((sortU ns).map .int)⟩ else stk := id rfl
@[simp] theorem b1_dsort {o : Bool} {n : Nat} {xs : List D} : b1D .dsort ⟨o, n, .list xs⟩ = dsR (allInt xs) := by
  unfold dsR; simp only [b1D]; all_goals (cases allInt xs <;> rfl)
def dlR : Option (List Int) → R Val
  | some ns => if ns.length < 60 then .ok ⟨true, 0, .int (sortU ns).length⟩ else stk
  | none => stk
@[simp] theorem dlR_some {ns : List Int} : dlR (some ns) = if ns.length < 60 then .ok ⟨true, 0, .int (sortU ns).length⟩ else stk := id rfl
@[simp] theorem b1_dlen {o : Bool} {n : Nat} {xs : List D} : b1D .dlen ⟨o, n, .list xs⟩ = dlR (allInt xs) := by
  unfold dlR; simp only [b1D]; all_goals (cases allInt xs <;> rfl)
@[simp] theorem b1_rev {o : Bool} {n : Nat} {xs : List D} : b1D .rev ⟨o, n, .list xs⟩ = if elz o n xs = true then .ok ⟨true, 1, .list xs.reverse⟩ else stk := id rfl
@[simp] theorem b1_trev {o : Bool} {n : Nat} {xs : List D} : b1D .trev ⟨o, n, .list xs⟩ = if elz o n xs = true then .ok ⟨true, 0, .tuple xs.reverse⟩ else stk := id rfl
def mxQ : Option Int → R Val
  | some m => .ok ⟨true, 0, .int m⟩
  | none => stk
@[simp] theorem mxQ_some {m : Int} : mxQ (some m) = .ok ⟨true, 0, .int m⟩ := id rfl
def mxR (f : List Int → Option Int) : Option (List Int) → R Val
  | some ns => mxQ (f ns)
  | none => stk
@[simp] theorem mxR_some {f : List Int → Option Int} {ns : List Int} : mxR f (some ns) = mxQ (f ns) := id rfl
@[simp] theorem b1_max {o : Bool} {n : Nat} {xs : List D} : b1D .max ⟨o, n, .list xs⟩ = mxR listMax (allInt xs) := by
  unfold mxR mxQ; simp only [b1D]; cases allInt xs with
  | none => rfl
  | some ns => dsimp only; cases listMax ns <;> rfl
@[simp] theorem b1_min {o : Bool} {n : Nat} {xs : List D} : b1D .min ⟨o, n, .list xs⟩ = mxR listMin (allInt xs) := by
  unfold mxR mxQ; simp only [b1D]; cases allInt xs with
  | none => rfl
  | some ns => dsimp only; cases listMin ns <;> rfl
def setQ (x : D) (xs : List D) : Option Nat → R (D × List D)
  | some k => .ok (.none, xs.set k x)
  | none => stk
@[simp] theorem setQ_some {x : D} {xs : List D} {k : Nat} : setQ x xs (some k) = .ok (.none, xs.set k x) := id rfl
@[simp] theorem setL_eq {j : Int} {x : D} {xs : List D} : setL j x xs = setQ x xs (L2.ixN xs.length j) := by
  unfold setQ setL VL.ixOf; cases L2.ixN xs.length j <;> rfl
def popQ (xs : List D) (k : Nat) : Option D → R (D × List D)
  | some y => .ok (y, xs.eraseIdx k)
  | none => stk
@[simp] theorem popQ_some {xs : List D} {k : Nat} {y : D} : popQ xs k (some y) = .ok (y, xs.eraseIdx k) := id rfl
def popK (xs : List D) : Option Nat → R (D × List D)
  | some k => popQ xs k xs[k]?
  | none => stk
@[simp] theorem popK_some {xs : List D} {k : Nat} : popK xs (some k) = popQ xs k xs[k]? := id rfl
theorem popL_at {j : Int} {xs : List D} (h : -(2 ^ 63) ≤ j ∧ j < 2 ^ 63) : popL (some j) xs = popK xs (L2.ixN xs.length j) := by
  unfold popL popK popQ VL.ixOf
  dsimp only
  rw [if_pos h]
  all_goals (cases L2.ixN xs.length j with
    | none => rfl
    | some k => dsimp only; cases xs[k]? <;> rfl)
def popE (xs : List D) : Option D → R (D × List D)
  | some y => .ok (y, xs.dropLast)
  | none => stk
@[simp] theorem popE_some {xs : List D} {y : D} : popE xs (some y) = .ok (y, xs.dropLast) := id rfl
@[simp] theorem popL_end {xs : List D} : popL none xs = popE xs xs.getLast? := by
  unfold popL popE
  dsimp only
  rw [List.getLast?_eq_getElem?]
  all_goals (cases xs[xs.length - 1]? <;> rfl)
@[simp] theorem ixN_0 {n : Nat} : L2.ixN n 0 = if 0 < n then some 0 else none := ixN_nat (k := 0)
@[simp] theorem ixN_1 {n : Nat} : L2.ixN n 1 = if 1 < n then some 1 else none := ixN_nat (k := 1)
@[simp] theorem ixN_2 {n : Nat} : L2.ixN n 2 = if 2 < n then some 2 else none := ixN_nat (k := 2)
@[simp] theorem isC_none {d : D} : isC d .none = .ok (match d with | .none => true | _ => false) := id rfl
@[simp] theorem isC_bool {d : D} {k : Bool} : isC d (.bool k) = .ok (match d with | .bool j => j == k | _ => false) := id rfl
theorem insL_ok {j : Int} {x : D} {xs : List D} (h0 : 0 ≤ j) (h1 : j ≤ xs.length) (h : xs.length < 1000000) : insL j x xs = .ok (.none, xs.take j.toNat ++ [x] ++ xs.drop j.toNat) := by
  unfold insL
  rw [if_pos (by unfold lim; omega)]
@[simp] theorem appL_ok {x : D} {xs : List D} (h : xs.length < 1000000) : appL x xs = .ok (.none, xs ++ [x]) := by
  unfold appL
  rw [if_pos (by unfold lim; omega)]
@[simp] theorem isT_int {t : Ty} {i : Int} : isT t (.int i) = .ok (isTb t (.int i)) := id rfl
@[simp] theorem isT_str {t : Ty} {i : Str} : isT t (.str i) = .ok (isTb t (.str i)) := id rfl
@[simp] theorem isT_none {t : Ty} : isT t .none = .ok (isTb t .none) := id rfl
@[simp] theorem isT_bool {t : Ty} {i : Bool} : isT t (.bool i) = .ok (isTb t (.bool i)) := id rfl
@[simp] theorem isT_list {t : Ty} {i : List D} : isT t (.list i) = .ok (isTb t (.list i)) := id rfl
@[simp] theorem isT_tuple {t : Ty} {i : List D} : isT t (.tuple i) = .ok (isTb t (.tuple i)) := id rfl
/-! ### nothing is changed -/
section
variable {G : Str → Option Fd} {a b c d e : Ex}
@[simp] theorem pX_c {d : D} : pureX G (.c d) = true := by simp only [pureX]
@[simp] theorem pX_v {i : Nat} : pureX G (.v i) = true := by simp only [pureX]
@[simp] theorem pX_nil : pureX G .nil = true := by simp only [pureX]
@[simp] theorem pX_bin {o} : pureX G (.bin o a b) = (pureX G a && pureX G b) := by simp only [pureX]
@[simp] theorem pX_tand : pureX G (.tand a b) = (pureX G a && pureX G b) := by simp only [pureX]
@[simp] theorem pX_tor : pureX G (.tor a b) = (pureX G a && pureX G b) := by simp only [pureX]
@[simp] theorem pX_vand : pureX G (.vand a b) = (pureX G a && pureX G b) := by simp only [pureX]
@[simp] theorem pX_vor : pureX G (.vor a b) = (pureX G a && pureX G b) := by simp only [pureX]
@[simp] theorem pX_cmp {o} : pureX G (.cmp o a b) = (pureX G a && pureX G b) := by simp only [pureX]
@[simp] theorem pX_cons : pureX G (.cons a b) = (pureX G a && pureX G b) := by simp only [pureX]
@[simp] theorem pX_ix : pureX G (.ix a b) = (pureX G a && pureX G b) := by simp only [pureX]
@[simp] theorem pX_b2 {o} : pureX G (.b2 o a b) = (pureX G a && pureX G b) := by simp only [pureX]
@[simp] theorem pX_m1 {o} : pureX G (.m1 o a b) = (pureX G a && pureX G b) := by simp only [pureX]
@[simp] theorem pX_rng : pureX G (.rng a b) = (pureX G a && pureX G b) := by simp only [pureX]
@[simp] theorem pX_rngd : pureX G (.rngd a b) = (pureX G a && pureX G b) := by simp only [pureX]
@[simp] theorem pX_rrng : pureX G (.rrng a b) = (pureX G a && pureX G b) := by simp only [pureX]
@[simp] theorem pX_zip : pureX G (.zip a b) = (pureX G a && pureX G b) := by simp only [pureX]
@[simp] theorem pX_un {o} : pureX G (.un o a) = pureX G a := by simp only [pureX]
@[simp] theorem pX_tnot  : pureX G (.tnot a) = pureX G a := by simp only [pureX]
@[simp] theorem pX_tup  : pureX G (.tup a) = pureX G a := by simp only [pureX]
@[simp] theorem pX_lst {n} : pureX G (.lst n a) = pureX G a := by simp only [pureX]
@[simp] theorem pX_b1 {f} : pureX G (.b1 f a) = pureX G a := by simp only [pureX]
@[simp] theorem pX_isi {t} : pureX G (.isi a t) = pureX G a := by simp only [pureX]
@[simp] theorem pX_enum  : pureX G (.enum a) = pureX G a := by simp only [pureX]
@[simp] theorem pX_rev  : pureX G (.rev a) = pureX G a := by simp only [pureX]
@[simp] theorem pX_lst1  : pureX G (.lst1 a) = pureX G a := by simp only [pureX]
@[simp] theorem pX_tup1  : pureX G (.tup1 a) = pureX G a := by simp only [pureX]
@[simp] theorem pX_it  : pureX G (.it a) = pureX G a := by simp only [pureX]
@[simp] theorem pX_ife  : pureX G (.ife a b c) = (pureX G a && pureX G b && pureX G c) := by simp only [pureX]
@[simp] theorem pX_chn {o p} : pureX G (.chn o p a b c) = (pureX G a && pureX G b && pureX G c) := by simp only [pureX]
@[simp] theorem pX_sl  : pureX G (.sl a b c) = (pureX G a && pureX G b && pureX G c) := by simp only [pureX]
@[simp] theorem pX_comp {n t own} : pureX G (.comp n a t b c own) = (pureX G a && pureX G b && pureX G c) := by simp only [pureX]
@[simp] theorem pX_pop {i} : pureX G (.pop i a b) = false := by simp only [pureX]
theorem pX_call {P : Str → Option Fn} {k : Nat} {f : Str} {fn : Fn} (h : P f = some fn) : pureX (prog P (k + 1)) (.call f a) = (!fn.sg.pm.any isMt && pureX (prog P (k + 1)) a) := by
  simp only [pureX, prog_at h]
@[simp] theorem isMt_fz : isMt .fz = false := id rfl
@[simp] theorem isMt_lk {n} : isMt (.lk n) = false := id rfl
@[simp] theorem isMt_mt {n} : isMt (.mt n) = true := id rfl
end

section
variable {G : Str → Option Fd} {r : Env}
@[simp high] theorem at1_own0 {n : Nat} {d : D} : at1 0 ⟨true, n, d⟩ r = .ok (d, r) := by
  rw [at1_own]
  cases isL d <;> simp
@[simp high] theorem at1_bor0 {d : D} : at1 0 ⟨false, 0, d⟩ r = .ok (d, r) := by
  rw [at1_bor]
  cases isL d <;> simp
theorem s_call2 {P : Str → Option Fn} {k : Nat} {f : Str} {fn : Fn} {sg : Sg} {es : Ex} (h : P f = some fn) (hs : fn.sg = sg) : ev (prog P (k + 1)) (.call f es) r = ca1 P k f sg (ags (prog P (k + 1)) sg.pm es r) := by
  rw [s_call h, hs]
theorem pX_call2 {P : Str → Option Fn} {k : Nat} {f : Str} {fn : Fn} {sg : Sg} {es : Ex} (h : P f = some fn) (hs : fn.sg = sg) : pureX (prog P (k + 1)) (.call f es) = (!sg.pm.any isMt && pureX (prog P (k + 1)) es) := by
  rw [pX_call h, hs]
end
end VL
/-! VP: loops over numbers, over lists. -/
namespace VL
open PySem
theorem rngU_len {i j : Int} : (rngU i j).length = (j - i).toNat := by unfold rngU; exact rngL_len
theorem split_mem {A : Type} {l p q : List A} {d : A} (h : l = p ++ d :: q) : d ∈ l := by rw [h]; exact List.mem_append_right _ List.mem_cons_self
theorem split_len {A : Type} {l p q : List A} {d : A} (h : l = p ++ d :: q) : p.length < l.length := by rw [h, List.length_append, List.length_cons]; omega
theorem rngU_at {i j : Int} {p q : List D} {d : D} (e : rngU i j = p ++ d :: q) : d = .int (i + p.length) ∧ (p.length : Int) < j - i := by
  have h1 : (rngU i j)[p.length]? = some d := by rw [e]; simp
  refine ⟨rng_at h1, ?_⟩
  have h2 := split_len e
  rw [rngU_len] at h2
  omega
theorem unl_nil {st : Nat → Bool} {r s : Env} : unl [] st r s = s := rfl
section
variable {G : Str → Option Fd} {r r' : Env} {rm : Nat}
/-- for i in range(lo, hi) -/
theorem for_rng {t : Tg} {lo hi : Int} {a c : Ex} {b : Sm} {r0 : Env} {Q : Out → Prop} (he : evI G (.rng a c) r = .ok ((0, rngU lo hi), r0)) (I : Nat → Env → Prop) (h0 : I 0 r0)
    (hs : ∀ (n : Nat) s, (n : Int) < hi - lo → I n s → ∃ o, bodyF G rm 0 t b (.int (lo + n)) s = .ok o ∧ match o with | .nx s' => I (n + 1) s' | .ct s' => I (n + 1) s' | .bk s' => Q (.nx s') | .rt v s' => Q (.rt v s'))
    (hE : ∀ s, I (hi - lo).toNat s → Q (.nx s)) : ∃ o, VL.exec G rm (.for_ t (.rng a c) b) r = .ok o ∧ Q o := by
  have hl : lockE (rootsX (.rng a c)) r = r := by
    unfold lockE
    show r.mapIdx (fun j x => if ([] : List Nat).contains j then lockS x else x) = r
    apply List.ext_getElem?
    intro j
    rw [List.getElem?_mapIdx]
    cases r[j]? <;> rfl
  refine for_inv (m := 0) (ds := rngU lo hi) (r0 := r0) rfl (by rw [hl]; exact he) (fun p s => I p.length s) h0 (fun p d q s e h => ?_) fun s h => ?_
  · obtain ⟨rfl, hn⟩ := rngU_at e
    obtain ⟨o, eo, w⟩ := hs _ s hn h
    refine ⟨o, eo, ?_⟩
    cases o with
    | nx s' => rw [List.length_append]; exact w
    | ct s' => rw [List.length_append]; exact w
    | bk s' => exact w
    | rt v s' => exact w
  · rw [rngU_len] at h
    exact hE s h
/-- for x in xs, xs told as a list of things -/
theorem for_lst {A : Type} {enc : A → D} {xs : List A} {m : Nat} {t : Tg} {it : Ex} {b : Sm} {r0 : Env} {Q : Out → Prop} (hr : (rootsX it).any (stF t b) = false) (he : evI G it (lockE (rootsX it) r) = .ok ((m, xs.map enc), r0)) (I : List A → Env → Prop) (h0 : I [] r0)
    (hs : ∀ p d q s, xs = p ++ d :: q → I p s → ∃ o, bodyF G rm m t b (enc d) s = .ok o ∧ match o with | .nx s' => I (p ++ [d]) s' | .ct s' => I (p ++ [d]) s' | .bk s' => Q (.nx (unl (rootsX it) (stF t b) r s')) | .rt v s' => Q (.rt v (unl (rootsX it) (stF t b) r s')))
    (hE : ∀ s, I xs s → Q (.nx (unl (rootsX it) (stF t b) r s))) : ∃ o, VL.exec G rm (.for_ t it b) r = .ok o ∧ Q o := by
  refine for_inv (m := m) (ds := xs.map enc) (r0 := r0) hr he (fun p s => ∃ p', p = p'.map enc ∧ p' <+: xs ∧ I p' s) ⟨[], rfl, List.nil_prefix, h0⟩ (fun p d q s e h => ?_) fun s h => ?_
  · obtain ⟨p', rfl, hp, h⟩ := h
    obtain ⟨q', rfl⟩ := hp
    rw [List.map_append] at e
    have e2 := List.append_cancel_left e
    cases q' with
    | nil => cases e2
    | cons d' q' =>
      injection e2 with e2 e3
      subst e2
      obtain ⟨o, eo, w⟩ := hs p' d' q' s rfl h
      refine ⟨o, eo, ?_⟩
      cases o with
      | nx s' => exact ⟨p' ++ [d'], by simp, ⟨q', by simp⟩, w⟩
      | ct s' => exact ⟨p' ++ [d'], by simp, ⟨q', by simp⟩, w⟩
      | bk s' => exact w
      | rt v s' => exact w
  · obtain ⟨p', e, hp, h⟩ := h
    obtain ⟨q', rfl⟩ := hp
    have : q' = [] := by
      have := congrArg List.length e
      simp only [List.length_map, List.length_append] at this
      exact List.eq_nil_of_length_eq_zero (by omega)
    subst this
    rw [List.append_nil] at hE
    exact hE s h
/-- while -/
theorem while_inv {c : Ex} {b : Sm} {Q : Out → Prop} (I : Env → Prop) (m : Env → Nat) (h0 : I r) (hm : m r < fuel)
    (hs : ∀ s, I s → ∃ k s1, trE (ev G c s) = .ok (k, s1) ∧ match k with
      | false => Q (.nx s1)
      | true => ∃ o, VL.exec G rm b s1 = .ok o ∧ match o with | .nx s' => I s' ∧ m s' < m s | .ct s' => I s' ∧ m s' < m s | .bk s' => Q (.nx s') | .rt v s' => Q (.rt v s')) :
    ∃ o, VL.exec G rm (.while_ c b) r = .ok o ∧ Q o := by
  rw [x_while]
  exact whileF_inv I m hs fuel h0 hm
end
/-! ### roots, locks -/
section
variable {r r2 : Env}
@[simp] theorem rootsX_it {a : Ex} : rootsX (.it a) = (rootX a).toList := id rfl
@[simp] theorem rootsX_enum {a : Ex} : rootsX (.enum a) = (rootX a).toList := id rfl
@[simp] theorem rootsX_rev {a : Ex} : rootsX (.rev a) = (rootX a).toList := id rfl
@[simp] theorem rootsX_zip {a b : Ex} : rootsX (.zip a b) = (rootX a).toList ++ (rootX b).toList := id rfl
@[simp] theorem rootsX_rng {a b : Ex} : rootsX (.rng a b) = [] := id rfl
@[simp] theorem rootsX_rngd {a b : Ex} : rootsX (.rngd a b) = [] := id rfl
@[simp] theorem rootsX_rrng {a b : Ex} : rootsX (.rrng a b) = [] := id rfl
@[simp] theorem rootX_v {i : Nat} : rootX (.v i) = some i := id rfl
@[simp] theorem rootX_ix {a b : Ex} : rootX (.ix a b) = rootX a := id rfl
@[simp] theorem rootX_call {f : Str} {a : Ex} : rootX (.call f a) = none := id rfl
@[simp] theorem rootX_b1 {f : B1} {a : Ex} : rootX (.b1 f a) = none := id rfl
@[simp] theorem rootX_tup {a : Ex} : rootX (.tup a) = none := id rfl
@[simp] theorem rootX_lst {n : Nat} {a : Ex} : rootX (.lst n a) = none := id rfl
@[simp] theorem rootX_sl {a b c : Ex} : rootX (.sl a b c) = none := id rfl
@[simp] theorem rootX_bin {o : Operator} {a b : Ex} : rootX (.bin o a b) = none := id rfl
@[simp] theorem rootX_comp {n : Nat} {e : Ex} {t : Tg} {i c : Ex} {o : List Nat} : rootX (.comp n e t i c o) = none := id rfl
@[simp] theorem lockE_nil : lockE [] r = r := by
  unfold lockE
  apply List.ext_getElem?
  intro j
  rw [List.getElem?_mapIdx]
  cases r[j]? <;> rfl
@[simp] theorem lockS_fz {d : D} : lockS (.fz d) = .fz d := id rfl
@[simp] theorem lockS_ow {n : Nat} {d : D} : lockS (.ow n d) = .lk n d := id rfl
@[simp] theorem lockS_mt {n : Nat} {d : D} : lockS (.mt n d) = .lk n d := id rfl
@[simp] theorem lockS_lk {n : Nat} {d : D} : lockS (.lk n d) = .lk n d := id rfl
@[simp] theorem isOm_fz {d : D} : isOm (some (.fz d)) = false := id rfl
@[simp] theorem isOm_lk {n : Nat} {d : D} : isOm (some (.lk n d)) = false := id rfl
@[simp] theorem isOm_ow {n : Nat} {d : D} : isOm (some (.ow n d)) = true := id rfl
@[simp] theorem isOm_mt {n : Nat} {d : D} : isOm (some (.mt n d)) = true := id rfl
@[simp] theorem isOm_no : isOm (some .no) = false := id rfl
@[simp] theorem unl_none {st : Nat → Bool} : unl [] st r r2 = r2 := id rfl
def unl1 (b k : Bool) (y x : Sl) : Sl := if b && isOm (some y) then y else match x with
  | .lk _ _ => match y with
    | .lk n d => if k then .no else .lk n d
    | _ => .no
  | x => x
def unlA (b k : Bool) (x : Sl) : Option Sl → Sl
  | some y => unl1 b k y x
  | none => x
@[simp] theorem unlA_some {b k : Bool} {x y : Sl} : unlA b k x (some y) = unl1 b k y x := id rfl
theorem unl_eq {is : List Nat} {st : Nat → Bool} : unl is st r r2 = if is.any fun i => isOm r[i]? then r2.mapIdx fun j x => unlA (is.contains j) (st j) x r[j]? else r2 := by
  unfold unl
  split
  · congr 1
  · rfl
@[simp] theorem unl1_ow {k : Bool} {n : Nat} {d : D} {x : Sl} : unl1 true k (.ow n d) x = .ow n d := id rfl
@[simp] theorem unl1_mt {k : Bool} {n : Nat} {d : D} {x : Sl} : unl1 true k (.mt n d) x = .mt n d := id rfl
@[simp] theorem unl1_xfz {k : Bool} {y : Sl} {d : D} : unl1 false k y (.fz d) = .fz d := id rfl
@[simp] theorem unl1_xow {k : Bool} {y : Sl} {n : Nat} {d : D} : unl1 false k y (.ow n d) = .ow n d := id rfl
@[simp] theorem unl1_xmt {k : Bool} {y : Sl} {n : Nat} {d : D} : unl1 false k y (.mt n d) = .mt n d := id rfl
@[simp] theorem unl1_xno {k : Bool} {y : Sl} : unl1 false k y .no = .no := id rfl
@[simp] theorem unl1_xlk {y : Sl} {n m : Nat} {d e : D} : unl1 false false (.lk m e) (.lk n d) = .lk m e := id rfl
@[simp] theorem unl1_tfz {k : Bool} {d e : D} : unl1 true k (.fz d) (.fz e) = .fz e := id rfl
@[simp] theorem unl1_self {a : Sl} : unl1 false false a a = a := by cases a <;> rfl
theorem unl1_free {b k : Bool} {y x : Sl} (hy : free1 y) (hx : free1 x) : free1 (unl1 b k y x) := by
  unfold unl1
  split
  · exact hy
  · cases x <;> first | trivial | exact hx | skip
    cases y <;> first | trivial | skip
    cases k <;> trivial
@[simp] theorem bk1_fz {d : D} : bk1 (some (.fz d)) = .fz d := id rfl
@[simp] theorem bk1_no : bk1 (some .no) = .no := id rfl
end
end VL
/-! VP: data of numbers: equality, membership. -/
namespace VL
open PySem
mutual
/-- no truth values, no dicts -/
def noB : D → Bool
  | .none => true
  | .bool _ => false
  | .int _ => true
  | .str _ => true
  | .list xs => noBs xs
  | .tuple xs => noBs xs
  | .dict _ => false
def noBs : List D → Bool
  | [] => true
  | x :: xs => noB x && noBs xs
end
theorem noBs_iff : ∀ {xs : List D}, noBs xs = true ↔ ∀ x ∈ xs, noB x = true
  | [] => by simp [noBs]
  | x :: xs => by rw [noBs, Bool.and_eq_true, noBs_iff]; simp
mutual
theorem eqv_iff : ∀ (a b : D), noB a = true → noB b = true → (PyData.eqv a b = true ↔ a = b)
  | .none, b, _, hb => by cases b <;> simp [PyData.eqv]
  | .bool _, _, ha, _ => by simp [noB] at ha
  | .int i, b, _, hb => by cases b <;> first | (simp [noB] at hb; done) | simp [PyData.eqv]
  | .str i, b, _, hb => by cases b <;> first | (simp [noB] at hb; done) | simp [PyData.eqv]
  | .list xs, b, ha, hb => by
    cases b <;> first | (simp [noB] at hb; done) | (simp [PyData.eqv]; done) | skip
    rename_i ys
    rw [PyData.eqv, eqvs_iff xs ys (by simpa [noB] using ha) (by simpa [noB] using hb)]
    simp
  | .tuple xs, b, ha, hb => by
    cases b <;> first | (simp [noB] at hb; done) | (simp [PyData.eqv]; done) | skip
    rename_i ys
    rw [PyData.eqv, eqvs_iff xs ys (by simpa [noB] using ha) (by simpa [noB] using hb)]
    simp
  | .dict _, _, ha, _ => by simp [noB] at ha
theorem eqvs_iff : ∀ (a b : List D), noBs a = true → noBs b = true → (PyData.eqvAll a b = true ↔ a = b)
  | [], [], _, _ => by simp [PyData.eqvAll]
  | [], _ :: _, _, _ => by simp [PyData.eqvAll]
  | _ :: _, [], _, _ => by simp [PyData.eqvAll]
  | x :: xs, y :: ys, ha, hb => by
    rw [noBs, Bool.and_eq_true] at ha hb
    rw [PyData.eqvAll, Bool.and_eq_true, eqv_iff x y ha.1 hb.1, eqvs_iff xs ys ha.2 hb.2]
    simp
end
/-- numbers, None, texts, rows of these, to the depth n -/
def Tame (n : Nat) (d : D) : Prop := noB d = true ∧ d.plain = true ∧ d.depth ≤ n
theorem plainAll_iff : ∀ {xs : List D}, PyData.plainAll xs = true ↔ ∀ x ∈ xs, PyData.plain x = true
  | [] => by simp [PyData.plainAll]
  | x :: xs => by rw [PyData.plainAll, Bool.and_eq_true, plainAll_iff]; simp
theorem depthAll_le {n : Nat} : ∀ {xs : List D}, PyData.depthAll xs ≤ n ↔ ∀ x ∈ xs, PyData.depth x ≤ n
  | [] => by simp [PyData.depthAll]
  | x :: xs => by rw [PyData.depthAll, Nat.max_le, depthAll_le]; simp
theorem Tame.int {n : Nat} {i : Int} : Tame n (.int i) := ⟨rfl, rfl, Nat.zero_le _⟩
theorem Tame.none {n : Nat} : Tame n (.none) := ⟨rfl, rfl, Nat.zero_le _⟩
theorem Tame.str {n : Nat} {i : Str} : Tame n (.str i) := ⟨rfl, rfl, Nat.zero_le _⟩
theorem Tame.list {n : Nat} {xs : List D} (h : ∀ x ∈ xs, Tame n x) : Tame (n + 1) (.list xs) :=
  ⟨by rw [noB]; exact noBs_iff.mpr fun x hx => (h x hx).1, by rw [PyData.plain]; exact plainAll_iff.mpr fun x hx => (h x hx).2.1, by rw [PyData.depth]; exact Nat.succ_le_succ (depthAll_le.mpr fun x hx => (h x hx).2.2)⟩
theorem Tame.tuple {n : Nat} {xs : List D} (h : ∀ x ∈ xs, Tame n x) : Tame (n + 1) (.tuple xs) :=
  ⟨by rw [noB]; exact noBs_iff.mpr fun x hx => (h x hx).1, by rw [PyData.plain]; exact plainAll_iff.mpr fun x hx => (h x hx).2.1, by rw [PyData.depth]; exact Nat.succ_le_succ (depthAll_le.mpr fun x hx => (h x hx).2.2)⟩
theorem Tame.ints {n : Nat} {ns : List Int} : ∀ x ∈ ns.map PyData.int, Tame n x := fun x hx => by
  obtain ⟨i, _, rfl⟩ := List.mem_map.mp hx
  exact .int
theorem Tame.okD {n : Nat} {d : D} (h : Tame n d) (hn : n ≤ 60) : VL.okD d = true := by
  unfold VL.okD
  rw [h.2.1, Bool.true_and]
  exact decide_eq_true (Nat.le_trans h.2.2 hn)
theorem Tame.okDs {n : Nat} {ds : List D} (h : ∀ d ∈ ds, Tame n d) (hn : n ≤ 60) : VL.okDs ds = true := by
  unfold VL.okDs
  rw [plainAll_iff.mpr fun x hx => (h x hx).2.1, Bool.true_and]
  exact decide_eq_true (Nat.le_trans (depthAll_le.mpr fun x hx => (h x hx).2.2) hn)
theorem beq_dec {p : Prop} [Decidable p] {k : Bool} (h : k = true ↔ p) : k = decide p := by
  by_cases e : p
  · rw [decide_eq_true e]; exact h.mpr e
  · rw [decide_eq_false e]
    cases k with
    | true => exact absurd (h.mp rfl) e
    | false => rfl
theorem eqD_tame {n : Nat} {a b : D} {p : Prop} [Decidable p] (ha : Tame n a) (hb : Tame n b) (hn : n ≤ 60) (hp : a = b ↔ p) : eqD a b = .ok (decide p) := by
  unfold eqD
  rw [ha.okD hn, hb.okD hn]
  simp only [Bool.and_self, if_true]
  rw [beq_dec ((eqv_iff a b ha.1 hb.1).trans hp)]
@[simp] theorem eqD_int {i j : Int} : eqD (.int i) (.int j) = .ok (decide (i = j)) := eqD_tame (n := 0) .int .int (by decide) (by simp)
@[simp] theorem eqD_str {i j : Str} : eqD (.str i) (.str j) = .ok (decide (i = j)) := eqD_tame (n := 0) .str .str (by decide) (by simp)
theorem any_eqv {n : Nat} {x : D} {ys : List D} {p : Prop} [Decidable p] (hx : Tame n x) (hy : ∀ y ∈ ys, Tame n y) (hp : x ∈ ys ↔ p) : (ys.any fun y => PyData.eqv y x) = decide p := by
  refine beq_dec (Iff.trans ?_ hp)
  rw [List.any_eq_true]
  constructor
  · rintro ⟨y, hm, e⟩
    rw [eqv_iff y x (hy y hm).1 hx.1] at e
    exact e ▸ hm
  · intro hm
    exact ⟨x, hm, (eqv_iff x x hx.1 hx.1).mpr rfl⟩
theorem inD_list {n : Nat} {x : D} {ys : List D} {p : Prop} [Decidable p] (hx : Tame n x) (hy : ∀ y ∈ ys, Tame n y) (hn : n ≤ 60) (hp : x ∈ ys ↔ p) : inD x (.list ys) = .ok (decide p) := by
  unfold inD
  dsimp only
  rw [Tame.okDs hy hn, hx.okD hn]
  simp only [Bool.and_self, if_true]
  rw [any_eqv hx hy hp]
theorem inD_tuple {n : Nat} {x : D} {ys : List D} {p : Prop} [Decidable p] (hx : Tame n x) (hy : ∀ y ∈ ys, Tame n y) (hn : n ≤ 60) (hp : x ∈ ys ↔ p) : inD x (.tuple ys) = .ok (decide p) := by
  unfold inD
  dsimp only
  rw [Tame.okDs hy hn, hx.okD hn]
  simp only [Bool.and_self, if_true]
  rw [any_eqv hx hy hp]
theorem mem_ints {i : Int} {ns : List Int} : PyData.int i ∈ ns.map PyData.int ↔ i ∈ ns := by simp
@[simp] theorem inD_ints {i : Int} {ns : List Int} : inD (.int i) (.list (ns.map .int)) = .ok (decide (i ∈ ns)) := inD_list (n := 0) .int Tame.ints (by decide) mem_ints
@[simp] theorem inD_intsT {i : Int} {ns : List Int} : inD (.int i) (.tuple (ns.map .int)) = .ok (decide (i ∈ ns)) := inD_tuple (n := 0) .int Tame.ints (by decide) mem_ints
/-! ### a pair of numbers -/
def prD (p : Int × Int) : D := .tuple [.int p.1, .int p.2]
theorem Tame.pair {n : Nat} {p : Int × Int} : Tame (n + 1) (prD p) := .tuple fun x hx => by
  simp only [List.mem_cons, List.not_mem_nil, or_false] at hx
  rcases hx with rfl | rfl <;> exact .int
theorem prD_inj {p q : Int × Int} (h : prD p = prD q) : p = q := by
  unfold prD at h
  simp only [PyData.tuple.injEq, List.cons.injEq, PyData.int.injEq, and_true] at h
  exact Prod.ext h.1 h.2
theorem mem_prD {p : Int × Int} {ps : List (Int × Int)} : prD p ∈ ps.map prD ↔ p ∈ ps := by
  constructor
  · intro h
    obtain ⟨q, hq, e⟩ := List.mem_map.mp h
    exact prD_inj e ▸ hq
  · exact fun h => List.mem_map.mpr ⟨p, h, rfl⟩
/-! ### sorted lists of data -/
theorem alike_int {i j : Int} : W.alike (.int i) (.int j) = true := by rw [W.alike]
theorem sortable_ints (ns : List Int) : sortable (ns.map .int) = true := by
  unfold sortable
  simp only [Bool.and_eq_true, Bool.or_eq_true, List.all_eq_true, List.mem_map]
  refine ⟨⟨?_, ?_⟩, .inr ?_⟩
  · rintro _ ⟨i, _, rfl⟩ _ ⟨j, _, rfl⟩; exact alike_int
  · rintro _ ⟨i, _, rfl⟩; exact Tame.okD (n := 0) .int (by decide)
  · rintro _ ⟨i, _, rfl⟩; rfl
end VL
/-! the defs that many laws share -/
namespace VL
open PySem
-- 0:script 1:k
def T_cell : Fn := ⟨⟨[.fz, .fz], 0⟩, 2,
  (.seq (.ife (.cmp .Lt (.v 1) (.b1 .len (.v 0)))
  (.ret (.ix (.v 0) (.v 1)))
  .nop)
  (.ret (.c (.int 0))))⟩
-- 0:box 1:many
def T_draw : Fn := ⟨⟨[.mt 1, .fz], 0⟩, 2,
  (.seq (.sets 0 .nil (.c (.int 1)) (.bin .Add (.ix (.v 0) (.c (.int 1))) (.c (.int 1))))
  (.seq (.ife (.cmp .Gt (.ix (.v 0) (.c (.int 1))) (.b1 .len (.ix (.v 0) (.c (.int 0)))))
  (.ret (.bin .Mod (.b1 .int (.bin .Add (.bin .Mult (.ix (.v 0) (.c (.int 1))) (.c (.int 7))) (.c (.int 3)))) (.v 1)))
  .nop)
  (.ret (.bin .Mod (.b1 .int (.ix (.ix (.v 0) (.c (.int 0))) (.bin .Sub (.ix (.v 0) (.c (.int 1))) (.c (.int 1))))) (.v 1)))))⟩
-- 0:told 1:due 2:k
def B1_same : Sm := (.ife (.tnot (.call "_law_same" (.cons (.ix (.v 0) (.v 2)) (.cons (.ix (.v 1) (.v 2)) .nil))))
  (.ret (.c (.bool false)))
  .nop)
def T_same : Fn := ⟨⟨[.fz, .fz], 0⟩, 3,
  (.seq (.ife (.cmp .Is (.v 1) (.c .none))
  (.ret (.cmp .Is (.v 0) (.c .none)))
  .nop)
  (.seq (.ife (.cmp .Is (.v 1) (.c (.bool true)))
  (.ret (.cmp .Is (.v 0) (.c (.bool true))))
  .nop)
  (.seq (.ife (.cmp .Is (.v 1) (.c (.bool false)))
  (.ret (.cmp .Is (.v 0) (.c (.bool false))))
  .nop)
  (.seq (.ife (.isi (.v 1) .str)
  (.ret (.vand (.isi (.v 0) .str) (.cmp .Eq (.b1 .repr (.v 0)) (.b1 .repr (.v 1)))))
  .nop)
  (.seq (.ife (.isi (.v 1) .int)
  (.ret (.vand (.isi (.v 0) .int) (.vand (.tnot (.isi (.v 0) .bool)) (.cmp .Eq (.b1 .repr (.v 0)) (.b1 .repr (.v 1))))))
  .nop)
  (.seq (.ife (.tor (.tand (.isi (.v 1) .tuple) (.tnot (.isi (.v 0) .tuple))) (.tand (.isi (.v 1) .list) (.tnot (.isi (.v 0) .list))))
  (.ret (.c (.bool false)))
  .nop)
  (.seq (.ife (.cmp .NotEq (.b1 .len (.v 0)) (.b1 .len (.v 1)))
  (.ret (.c (.bool false)))
  .nop)
  (.seq (.for_ (.nm 2) (.rng (.c (.int 0)) (.b1 .len (.v 1))) B1_same)
  (.ret (.c (.bool true)))))))))))⟩
-- 0:script 1:first 2:last 3:digits 4:k 5:cell 6:turn 7:seed
def B1_digitsB : Sm := (.ife (.cmp .Gt (.v 5) (.c (.int 0)))
  (.seq (.drop (.app 3 .nil (.bin .Mod (.b1 .int (.v 5)) (.c (.int 1000)))))
  (.set 0 (.nm 5) (.bin .FloorDiv (.v 5) (.c (.int 1000)))))
  .nop)
def B2_digitsB : Sm := (.seq (.set 0 (.nm 7) (.bin .Mod (.b1 .int (.bin .Add (.bin .Add (.bin .Mult (.v 7) (.c (.int 16807))) (.bin .Mult (.c (.int 7)) (.v 6))) (.c (.int 1)))) (.c (.int 2147483647))))
  (.drop (.app 3 .nil (.bin .Mod (.b1 .int (.bin .FloorDiv (.v 7) (.c (.int 997)))) (.c (.int 1000))))))
def B3_digitsB : Sm := (.seq (.set 0 (.nm 5) (.call "_law_cell" (.cons (.v 0) (.cons (.v 4) .nil))))
  (.seq (.ife (.cmp .Lt (.v 5) (.c (.int 0)))
  (.set 0 (.nm 5) (.bin .Sub (.c (.int 1)) (.bin .Mult (.c (.int 2)) (.v 5))))
  .nop)
  (.ife (.cmp .GtE (.v 5) (.bin .Pow (.c (.int 10)) (.c (.int 18))))
  (.for_ (.nm 6) (.rng (.c (.int 0)) (.c (.int 60))) B1_digitsB)
  (.seq (.set 0 (.nm 7) (.bin .Mod (.b1 .int (.bin .Add (.bin .Add (.bin .Mult (.v 5) (.c (.int 48271))) (.bin .Mult (.v 4) (.c (.int 69621)))) (.c (.int 11)))) (.c (.int 2147483647))))
  (.for_ (.nm 6) (.rng (.c (.int 0)) (.c (.int 12))) B2_digitsB)))))
def T_digitsB : Fn := ⟨⟨[.fz, .fz, .fz], 0⟩, 8,
  (.seq (.set 1 (.nm 3) (.lst 1 .nil))
  (.seq (.for_ (.nm 4) (.rng (.v 1) (.v 2)) B3_digitsB)
  (.ret (.v 3))))⟩
-- 0:script 1:last 2:digits 3:k 4:cell 5:turn 6:seed
def B1_digitsA : Sm := (.ife (.cmp .Gt (.v 4) (.c (.int 0)))
  (.seq (.drop (.app 2 .nil (.bin .Mod (.b1 .int (.v 4)) (.c (.int 1000)))))
  (.set 0 (.nm 4) (.bin .FloorDiv (.v 4) (.c (.int 1000)))))
  .nop)
def B2_digitsA : Sm := (.seq (.set 0 (.nm 6) (.bin .Mod (.b1 .int (.bin .Add (.bin .Add (.bin .Mult (.v 6) (.c (.int 16807))) (.bin .Mult (.c (.int 7)) (.v 5))) (.c (.int 1)))) (.c (.int 2147483647))))
  (.drop (.app 2 .nil (.bin .Mod (.b1 .int (.bin .FloorDiv (.v 6) (.c (.int 997)))) (.c (.int 1000))))))
def B3_digitsA : Sm := (.seq (.set 0 (.nm 4) (.call "_law_cell" (.cons (.v 0) (.cons (.v 3) .nil))))
  (.seq (.ife (.cmp .Lt (.v 4) (.c (.int 0)))
  (.set 0 (.nm 4) (.bin .Sub (.c (.int 1)) (.bin .Mult (.c (.int 2)) (.v 4))))
  .nop)
  (.ife (.cmp .GtE (.v 4) (.bin .Pow (.c (.int 10)) (.c (.int 18))))
  (.for_ (.nm 5) (.rng (.c (.int 0)) (.c (.int 60))) B1_digitsA)
  (.seq (.set 0 (.nm 6) (.bin .Mod (.b1 .int (.bin .Add (.bin .Add (.bin .Mult (.v 4) (.c (.int 48271))) (.bin .Mult (.v 3) (.c (.int 69621)))) (.c (.int 11)))) (.c (.int 2147483647))))
  (.for_ (.nm 5) (.rng (.c (.int 0)) (.c (.int 12))) B2_digitsA)))))
def T_digitsA : Fn := ⟨⟨[.fz, .fz], 0⟩, 7,
  (.seq (.set 1 (.nm 2) (.lst 1 .nil))
  (.seq (.for_ (.nm 3) (.rng (.c (.int 0)) (.v 1)) B3_digitsA)
  (.ret (.v 2))))⟩
-- 0:box 1:row
def T_pickB : Fn := ⟨⟨[.mt 1, .fz], 0⟩, 2,
  (.ret (.ix (.v 1) (.bin .Mod (.b1 .int (.call "_law_draw" (.cons (.v 0) (.cons (.c (.int 1000)) .nil)))) (.b1 .len (.v 1)))))⟩
-- 0:box 1:row
def T_pickA : Fn := ⟨⟨[.mt 1, .fz], 0⟩, 2,
  (.ret (.ix (.v 1) (.call "_law_draw" (.cons (.v 0) (.cons (.b1 .len (.v 1)) .nil)))))⟩
-- 0:box 1:row 2:left 3:found 4:k
def B1_mixedB : Sm := (.drop (.app 3 .nil (.pop 2 .nil (.bin .Mod (.b1 .int (.call "_law_draw" (.cons (.v 0) (.cons (.c (.int 1000)) .nil)))) (.b1 .len (.v 2))))))
def T_mixedB : Fn := ⟨⟨[.mt 1, .fz], 0⟩, 5,
  (.seq (.set 1 (.nm 2) (.b1 .list (.v 1)))
  (.seq (.set 1 (.nm 3) (.lst 1 .nil))
  (.seq (.for_ (.nm 4) (.rng (.c (.int 0)) (.b1 .len (.v 1))) B1_mixedB)
  (.ret (.v 3)))))⟩
-- 0:box 1:row 2:left 3:found 4:k
def B1_mixedA : Sm := (.drop (.app 3 .nil (.pop 2 .nil (.call "_law_draw" (.cons (.v 0) (.cons (.b1 .len (.v 2)) .nil))))))
def T_mixedA : Fn := ⟨⟨[.mt 1, .fz], 0⟩, 5,
  (.seq (.set 1 (.nm 2) (.b1 .list (.v 1)))
  (.seq (.set 1 (.nm 3) (.lst 1 .nil))
  (.seq (.for_ (.nm 4) (.rng (.c (.int 0)) (.b1 .len (.v 1))) B1_mixedA)
  (.ret (.v 3)))))⟩
-- 0:box 1:most 2:many 3:names 4:thick 5:waits 6:late 7:early
def B1_worksC : Sm := (.ife (.cmp .Lt (.call "_law_draw" (.cons (.v 0) (.cons (.c (.int 10)) .nil))) (.v 4))
  (.drop (.app 5 .nil (.tup (.cons (.ix (.v 3) (.v 7)) (.cons (.ix (.v 3) (.v 6)) .nil)))))
  .nop)
def B2_worksC : Sm := (.for_ (.nm 7) (.rng (.c (.int 0)) (.v 6)) B1_worksC)
def T_worksC : Fn := ⟨⟨[.mt 1, .fz], 0⟩, 8,
  (.seq (.set 0 (.nm 2) (.bin .Add (.c (.int 1)) (.call "_law_draw" (.cons (.v 0) (.cons (.v 1) .nil)))))
  (.seq (.set 0 (.nm 3) (.call "_law_mixed" (.cons (.v 0) (.cons (.lst1 (.rng (.c (.int 0)) (.v 2))) .nil))))
  (.seq (.set 0 (.nm 4) (.call "_law_pick" (.cons (.v 0) (.cons (.lst 1 (.cons (.c (.int 0)) (.cons (.c (.int 1)) (.cons (.c (.int 2)) (.cons (.c (.int 3)) (.cons (.c (.int 5)) (.cons (.c (.int 8)) .nil))))))) .nil))))
  (.seq (.set 1 (.nm 5) (.lst 1 .nil))
  (.seq (.for_ (.nm 6) (.rng (.c (.int 0)) (.v 2)) B2_worksC)
  (.ret (.tup (.cons (.v 2) (.cons (.b1 .tuple (.call "_law_mixed" (.cons (.v 0) (.cons (.v 5) .nil)))) .nil)))))))))⟩
-- 0:box 1:many 2:names 3:kind 4:thick 5:half 6:waits 7:late 8:up 9:early 10:free
def B1_worksB : Sm := (.seq (.set 0 (.nm 10) (.cmp .Lt (.call "_law_draw" (.cons (.v 0) (.cons (.c (.int 100)) .nil))) (.v 4)))
  (.seq (.ife (.tand (.cmp .Eq (.v 3) (.c (.int 0))) (.tand (.cmp .Gt (.v 1) (.c (.int 5))) (.tand (.cmp .Lt (.v 7) (.bin .Sub (.v 1) (.c (.int 3)))) (.cmp .Eq (.v 7) (.bin .Add (.v 9) (.c (.int 1)))))))
  (.set 0 (.nm 10) (.c (.bool true)))
  (.ife (.cmp .Eq (.v 3) (.c (.int 1)))
  (.set 0 (.nm 10) (.cmp .Eq (.v 9) (.bin .Sub (.v 8) (.c (.int 1)))))
  (.ife (.cmp .Eq (.v 3) (.c (.int 2)))
  (.set 0 (.nm 10) (.vand (.cmp .Lt (.v 9) (.v 5)) (.vand (.cmp .GtE (.v 7) (.v 5)) (.cmp .NotEq (.bin .Sub (.v 7) (.v 5)) (.v 9)))))
  (.ife (.cmp .Eq (.v 3) (.c (.int 3)))
  (.set 0 (.nm 10) (.vor (.cmp .Eq (.bin .Sub (.v 7) (.v 9)) (.c (.int 2))) (.vand (.v 10) (.cmp .Eq (.bin .Sub (.v 7) (.v 9)) (.c (.int 3))))))
  (.ife (.cmp .Eq (.v 3) (.c (.int 4)))
  (.set 0 (.nm 10) (.cmp .Lt (.bin .FloorDiv (.bin .Mult (.v 9) (.c (.int 3))) (.v 1)) (.bin .FloorDiv (.bin .Mult (.v 7) (.c (.int 3))) (.v 1))))
  .nop)))))
  (.ife (.v 10)
  (.drop (.app 6 .nil (.tup (.cons (.ix (.v 2) (.v 9)) (.cons (.ix (.v 2) (.v 7)) .nil)))))
  .nop)))
def B2_worksB : Sm := (.seq (.set 0 (.nm 8) (.b2 .max (.call "_law_draw" (.cons (.v 0) (.cons (.bin .Add (.v 7) (.c (.int 1))) .nil))) (.b2 .min (.v 7) (.b1 .int (.cmp .Gt (.v 1) (.c (.int 5)))))))
  (.for_ (.nm 9) (.rng (.c (.int 0)) (.v 7)) B1_worksB))
def T_worksB : Fn := ⟨⟨[.mt 1, .fz], 0⟩, 11,
  (.seq (.set 0 (.nm 2) (.call "_law_mixed" (.cons (.v 0) (.cons (.lst1 (.rng (.c (.int 0)) (.v 1))) .nil))))
  (.seq (.set 0 (.nm 3) (.call "_law_pick" (.cons (.v 0) (.cons (.lst 1 (.cons (.c (.int 0)) (.cons (.c (.int 1)) (.cons (.c (.int 0)) (.cons (.c (.int 2)) (.cons (.c (.int 3)) (.cons (.c (.int 0)) (.cons (.c (.int 4)) (.cons (.c (.int 0)) .nil))))))))) .nil))))
  (.seq (.set 0 (.nm 4) (.call "_law_pick" (.cons (.v 0) (.cons (.lst 1 (.cons (.c (.int 35)) (.cons (.c (.int 55)) (.cons (.c (.int 20)) (.cons (.c (.int 75)) (.cons (.c (.int 45)) (.cons (.c (.int 100)) (.cons (.c (.int 0)) (.cons (.c (.int 60)) .nil))))))))) .nil))))
  (.seq (.set 0 (.nm 5) (.bin .FloorDiv (.v 1) (.c (.int 2))))
  (.seq (.set 1 (.nm 6) (.lst 1 .nil))
  (.seq (.for_ (.nm 7) (.rng (.c (.int 0)) (.v 1)) B2_worksB)
  (.ret (.tup (.cons (.v 1) (.cons (.b1 .tuple (.call "_law_mixed" (.cons (.v 0) (.cons (.v 6) .nil)))) .nil))))))))))⟩
-- 0:box 1:many 2:names 3:kind 4:thick 5:waits 6:late 7:lone 8:early 9:keep
def B1_worksD : Sm := (.seq (.set 0 (.nm 9) (.cmp .Lt (.call "_law_draw" (.cons (.v 0) (.cons (.c (.int 5)) .nil))) (.v 4)))
  (.seq (.ife (.cmp .Eq (.v 3) (.c (.int 0)))
  (.set 0 (.nm 9) (.vor (.v 9) (.cmp .Eq (.v 8) (.bin .Sub (.v 6) (.c (.int 1))))))
  (.ife (.cmp .Eq (.v 3) (.c (.int 1)))
  (.set 0 (.nm 9) (.c (.bool false)))
  (.ife (.cmp .Eq (.v 3) (.c (.int 2)))
  (.set 0 (.nm 9) (.cmp .Lt (.bin .FloorDiv (.v 8) (.c (.int 2))) (.bin .FloorDiv (.v 6) (.c (.int 2)))))
  (.ife (.cmp .Eq (.v 3) (.c (.int 3)))
  (.set 0 (.nm 9) (.cmp .Eq (.v 8) (.v 7)))
  (.ife (.cmp .Eq (.v 3) (.c (.int 4)))
  (.set 0 (.nm 9) (.vand (.v 9) (.chn .Lt .LtE (.v 8) (.bin .FloorDiv (.v 1) (.c (.int 2))) (.v 6))))
  .nop)))))
  (.ife (.v 9)
  (.drop (.app 5 .nil (.tup (.cons (.ix (.v 2) (.v 8)) (.cons (.ix (.v 2) (.v 6)) .nil)))))
  .nop)))
def B2_worksD : Sm := (.seq (.set 0 (.nm 7) (.call "_law_draw" (.cons (.v 0) (.cons (.bin .Add (.v 6) (.c (.int 1))) .nil))))
  (.for_ (.nm 8) (.rng (.c (.int 0)) (.v 6)) B1_worksD))
def T_worksD : Fn := ⟨⟨[.mt 1, .fz], 0⟩, 10,
  (.seq (.set 0 (.nm 2) (.call "_law_mixed" (.cons (.v 0) (.cons (.lst1 (.rng (.c (.int 0)) (.v 1))) .nil))))
  (.seq (.set 0 (.nm 3) (.call "_law_draw" (.cons (.v 0) (.cons (.c (.int 9)) .nil))))
  (.seq (.set 0 (.nm 4) (.bin .Add (.c (.int 1)) (.call "_law_draw" (.cons (.v 0) (.cons (.c (.int 4)) .nil)))))
  (.seq (.set 1 (.nm 5) (.lst 1 .nil))
  (.seq (.for_ (.nm 6) (.rng (.c (.int 1)) (.v 1)) B2_worksD)
  (.ret (.tup (.cons (.v 1) (.cons (.b1 .tuple (.call "_law_mixed" (.cons (.v 0) (.cons (.v 5) .nil)))) .nil)))))))))⟩
-- 0:works 1:work 2:early 3:late
def T_straight_behind : Fn := ⟨⟨[.fz, .fz], 0⟩, 4,
  (.ret (.b1 .dsort (.comp 1 (.v 3) (.cons (.nm 2) (.cons (.nm 3) .nil)) (.it (.ix (.v 0) (.c (.int 1)))) (.cmp .Eq (.v 2) (.v 1)) [2, 3])))⟩
-- 0:works 1:work 2:found 3:waiting 4:late
def B1_behind : Sm := (.ife (.cmp .NotIn (.v 4) (.v 2))
  (.seq (.drop (.app 2 .nil (.v 4)))
  (.drop (.app 3 .nil (.v 4))))
  .nop)
def B2_behind : Sm := (.for_ (.nm 4) (.it (.call "straight_behind" (.cons (.v 0) (.cons (.pop 3 .nil .nil) .nil)))) B1_behind)
def T_behind : Fn := ⟨⟨[.fz, .fz], 0⟩, 5,
  (.seq (.set 1 (.nm 2) (.lst 1 .nil))
  (.seq (.set 1 (.nm 3) (.lst 1 (.cons (.v 1) .nil)))
  (.seq (.while_ (.cmp .Gt (.b1 .len (.v 3)) (.c (.int 0))) B2_behind)
  (.ret (.b1 .sorted (.v 2))))))⟩
-- 0:works 1:work
def T_table : Fn := ⟨⟨[.fz], 0⟩, 2,
  (.ret (.comp 1 (.call "behind" (.cons (.v 0) (.cons (.v 1) .nil))) (.nm 1) (.rng (.c (.int 0)) (.ix (.v 0) (.c (.int 0)))) (.c (.bool true)) [1]))⟩
end VL
set_option maxHeartbeats 1000000
/-! the laws' own small defs: draws -/
namespace VL
open PySem
local macro_rules | `(tactic| walk_at "go") => `(tactic| simp [s_c, s_v, s_bin, s_cmp, s_ix, s_un, s_not, s_tand, s_tor, s_vand, s_vor, s_ife, s_chn, s_nil, s_cons, s_tup, s_lst, s_sl, s_b1, s_b2, s_isi, s_m1, s_it, s_rng, s_rngd, s_rrng, s_enum, s_zip, s_rev, s_lst1, s_tup1, s_comp, s_ags0, s_ags, s_pop, s_app, s_ext, x_set, x_nop, x_brk, x_cont, x_seq, x_if, x_ret, x_drop, x_sets, x_aug, x_par, setT_nm, setT_tup, bindT_nm, bindT_tup, bindTs_cons, bindTs_nil, wipeS, backS, lockE, unl_eq, stF, stores, tgHas, *])
section
variable {P : Str → Option Fn} {k : Nat}
def box (ds : List Int) (p : Int) : D := .list [.list (ds.map .int), .int p]
def IsBox (b : D) : Prop := ∃ ds p, b = box ds p ∧ 0 ≤ p
def drawN (ds : List Int) (p m : Int) : Int := if p + 1 > ds.length then ((p + 1) * 7 + 3).fmod m else (ds[p.toNat]?.getD 0).fmod m
@[simp] theorem smI_7 : smI 7 = true := by decide
theorem run_draw (hP : P "_law_draw" = some T_draw) (ds : List Int) (p m : Int) (hp : 0 ≤ p) (hm : 0 < m) : cl P k "_law_draw" [box ds p, .int m] = .ok (.int (drawN ds p m), [box ds (p + 1)]) := by
  have hm0 : m ≠ 0 := by omega
  rw [cl_eq hP]
  by_cases h : p + 1 > ds.length
  · have h2 : decide ((ds.length : Int) < p + 1) = true := by simpa using h
    simp only [T_draw, box, drawN, if_pos h]
    walk_at "go"
  · have h2 : decide ((ds.length : Int) < p + 1) = false := by simpa using h
    obtain ⟨q, rfl⟩ : ∃ q : Nat, p = q := ⟨p.toNat, by omega⟩
    have hq : q < ds.length := by omega
    have h3 : L2.atI (ds.map PyData.int) (q : Int) = some (.int ds[q]) := by rw [atI_nat]; simp [hq]
    simp only [T_draw, box, drawN, if_neg h]
    walk_at "go"
theorem draw_ok (hP : P "_law_draw" = some T_draw) {b : D} (hb : IsBox b) {m : Int} (hm : 0 < m) : ∃ v b', cl P k "_law_draw" [b, .int m] = .ok (.int v, [b']) ∧ 0 ≤ v ∧ v < m ∧ IsBox b' := by
  obtain ⟨ds, p, rfl, hp⟩ := hb
  refine ⟨_, _, run_draw hP ds p m hp hm, ?_, ?_, ds, p + 1, rfl, by omega⟩
  · unfold drawN; split <;> exact Int.fmod_nonneg_of_pos _ hm
  · unfold drawN; split <;> exact Int.fmod_lt_of_pos _ hm
/-- what the laws' own defs are -/
structure HasDraw (P : Str → Option Fn) : Prop where
  draw : P "_law_draw" = some T_draw
  cell : P "_law_cell" = some T_cell
theorem pickA_ok (hB : HasDraw P) (hP : P "_law_pick" = some T_pickA) {b : D} (hb : IsBox b) {xs : List D} (hx : xs ≠ []) : ∃ x b', cl P (k + 1) "_law_pick" [b, .list xs] = .ok (x, [b']) ∧ x ∈ xs ∧ IsBox b' := by
  have hl := List.length_pos_iff.mpr hx
  obtain ⟨v, b', h, h0, h1, hb'⟩ := draw_ok (k := k) hB.draw hb (m := xs.length) (by omega)
  obtain ⟨q, rfl⟩ : ∃ q : Nat, v = q := ⟨v.toNat, by omega⟩
  have hq : q < xs.length := by omega
  have h3 : L2.atI xs (q : Int) = some xs[q] := by rw [atI_nat]; simp [hq]
  refine ⟨xs[q], b', ?_, List.getElem_mem _, hb'⟩
  have c1 := @s_call2 (sg := ⟨[.mt 1, .fz], 0⟩) (h := hB.draw) (hs := rfl)
  have c2 := @pX_call2 (sg := ⟨[.mt 1, .fz], 0⟩) (h := hB.draw) (hs := rfl)
  rw [cl_eq hP]
  simp only [T_pickA]
  walk_at "go"
theorem fmod_nat {a b : Nat} : Int.fmod (a : Int) (b : Int) = ((a % b : Nat) : Int) := by
  rw [Int.fmod_eq_emod_of_nonneg _ (Int.natCast_nonneg _)]
  rfl
theorem pickB_ok (hB : HasDraw P) (hP : P "_law_pick" = some T_pickB) {b : D} (hb : IsBox b) {xs : List D} (hx : xs ≠ []) : ∃ x b', cl P (k + 1) "_law_pick" [b, .list xs] = .ok (x, [b']) ∧ x ∈ xs ∧ IsBox b' := by
  have hl := List.length_pos_iff.mpr hx
  obtain ⟨v, b', h, h0, h1, hb'⟩ := draw_ok (k := k) hB.draw hb (m := 1000) (by omega)
  obtain ⟨q, rfl⟩ : ∃ q : Nat, v = q := ⟨v.toNat, by omega⟩
  have hq : q % xs.length < xs.length := Nat.mod_lt _ hl
  have h3 : L2.atI xs (Int.fmod (q : Int) (xs.length : Int)) = some xs[q % xs.length] := by rw [fmod_nat, atI_nat]; simp [hq]
  have h4 : ¬ xs.length = 0 := by omega
  have h5 : ¬ (xs.length : Int) = 0 := by omega
  refine ⟨xs[q % xs.length], b', ?_, List.getElem_mem _, hb'⟩
  have c1 := @s_call2 (sg := ⟨[.mt 1, .fz], 0⟩) (h := hB.draw) (hs := rfl)
  have c2 := @pX_call2 (sg := ⟨[.mt 1, .fz], 0⟩) (h := hB.draw) (hs := rfl)
  rw [cl_eq hP]
  simp only [T_pickB]
  walk_at "go"
theorem rng0_at {n : Nat} : rngU 0 (n : Int) = (List.range n).map fun (k : Nat) => PyData.int (k : Int) := by
  unfold rngU rngL
  have e : ((n : Int) - 0).toNat = n := by omega
  rw [e]
  refine List.map_congr_left fun k _ => ?_
  rw [Int.zero_add]
theorem bnd_nat {n : Nat} (h : n < 1000000000) : bnd (n : Int) = true := by
  unfold bnd
  refine decide_eq_true ⟨?_, ?_⟩ <;> omega
@[simp] theorem bnd_0 : bnd 0 = true := by decide
@[simp] theorem bnd_1 : bnd 1 = true := by decide
theorem mixedB_ok (hB : HasDraw P) (hP : P "_law_mixed" = some T_mixedB) {b : D} (hb : IsBox b) {xs : List D} (hx : xs.length < 1000000) : ∃ ys b', cl P (k + 1) "_law_mixed" [b, .list xs] = .ok (.list ys, [b']) ∧ ys.Perm xs ∧ IsBox b' := by
  have c1 := @s_call2 (sg := ⟨[.mt 1, .fz], 0⟩) (h := hB.draw) (hs := rfl)
  have c2 := @pX_call2 (sg := ⟨[.mt 1, .fz], 0⟩) (h := hB.draw) (hs := rfl)
  have hbn : bnd (xs.length : Int) = true := bnd_nat (by omega)
  obtain ⟨o, ho, ys, b', s4, rfl, hp, hb'⟩ := for_inv (G := prog P (k + 1)) (rm := 0) (t := .nm 4) (it := .rng (.c (.int 0)) (.b1 .len (.v 1)))
    (b := B1_mixedB)
    (r := [.mt 1 b, .fz (.list xs), .ow 1 (.list xs), .ow 1 (.list []), .no]) (m := 0) (ds := rngU 0 (xs.length : Int)) (r0 := [.mt 1 b, .fz (.list xs), .ow 1 (.list xs), .ow 1 (.list []), .no])
    (Q := fun o => ∃ ys b' s4, o = .nx [.mt 1 b', .fz (.list xs), .ow 1 (.list []), .ow 1 (.list ys), s4] ∧ ys.Perm xs ∧ IsBox b')
    rfl (by simp only [rootsX, lockE, List.mapIdx_cons, List.mapIdx_nil]; walk_at "go")
    (fun p s => ∃ left found b' s4, s = [.mt 1 b', .fz (.list xs), .ow 1 (.list left), .ow 1 (.list found), s4] ∧ left.length + p.length = xs.length ∧ (found ++ left).Perm xs ∧ IsBox b' ∧ free1 s4)
    ⟨xs, [], b, .no, rfl, by simp, by simp, hb, trivial⟩
    (by
      rintro p d q s e ⟨left, found, b1, s4, rfl, hl, hp, hb1, hf⟩
      have hlt := split_len e
      rw [rng0_at, List.length_map, List.length_range] at hlt
      have hl0 : 0 < left.length := by omega
      obtain ⟨v, b2, h, h0, h1, hb2⟩ := draw_ok (k := k) hB.draw hb1 (m := 1000) (by omega)
      obtain ⟨u, rfl⟩ : ∃ q : Nat, v = q := ⟨v.toNat, by omega⟩
      have hq : u % left.length < left.length := Nat.mod_lt _ hl0
      have h5 : ¬ (left.length : Int) = 0 := by omega
      have h6 : left ≠ [] := List.length_pos_iff.mp hl0
      have hfl : found.length < 1000000 := by have := hp.length_eq; rw [List.length_append] at this; omega
      have h7 : popL (some (Int.fmod (u : Int) (left.length : Int))) left = .ok (left[u % left.length], left.eraseIdx (u % left.length)) := by
        rw [fmod_nat, popL_at (by have := Nat.mod_lt u hl0; omega), ixN_nat, if_pos hq, popK_some, List.getElem?_eq_getElem hq]
        rfl
      have h8 : put1 4 (Sl.fz d) [Sl.mt 1 b1, Sl.fz (PyData.list xs), Sl.ow 1 (PyData.list left), Sl.ow 1 (PyData.list found), s4] (some s4) = .ok [Sl.mt 1 b1, Sl.fz (PyData.list xs), Sl.ow 1 (PyData.list left), Sl.ow 1 (PyData.list found), .fz d] := put1_free hf
      refine ⟨.nx [.mt 1 b2, .fz (.list xs), .ow 1 (.list (left.eraseIdx (u % left.length))), .ow 1 (.list (found ++ [left[u % left.length]])), .fz d], ?_, left.eraseIdx (u % left.length), found ++ [left[u % left.length]], b2, .fz d, rfl, ?_, ?_, hb2, trivial⟩
      · rw [x_body, B1_mixedB]
        walk_at "go"
      · rw [List.length_eraseIdx, if_pos hq, List.length_append]
        simp only [List.length_cons, List.length_nil]
        omega
      · refine List.Perm.trans ?_ hp
        rw [List.append_assoc]
        refine List.Perm.append_left _ ?_
        exact L2.erase_perm left (u % left.length) left[u % left.length] (List.getElem?_eq_getElem hq))
    (by
      rintro s ⟨left, found, b1, s4, rfl, hl, hp, hb1, hf⟩
      rw [rng0_at, List.length_map, List.length_range] at hl
      have : left = [] := List.eq_nil_of_length_eq_zero (by omega)
      subst this
      rw [List.append_nil] at hp
      exact ⟨found, b1, s4, rfl, hp, hb1⟩)
  refine ⟨ys, b', ?_, hp, hb'⟩
  rw [cl_eq hP]
  simp only [T_mixedB]
  walk_at "go"
theorem mixedA_ok (hB : HasDraw P) (hP : P "_law_mixed" = some T_mixedA) {b : D} (hb : IsBox b) {xs : List D} (hx : xs.length < 1000000) : ∃ ys b', cl P (k + 1) "_law_mixed" [b, .list xs] = .ok (.list ys, [b']) ∧ ys.Perm xs ∧ IsBox b' := by
  have c1 := @s_call2 (sg := ⟨[.mt 1, .fz], 0⟩) (h := hB.draw) (hs := rfl)
  have c2 := @pX_call2 (sg := ⟨[.mt 1, .fz], 0⟩) (h := hB.draw) (hs := rfl)
  have hbn : bnd (xs.length : Int) = true := bnd_nat (by omega)
  obtain ⟨o, ho, ys, b', s4, rfl, hp, hb'⟩ := for_inv (G := prog P (k + 1)) (rm := 0) (t := .nm 4) (it := .rng (.c (.int 0)) (.b1 .len (.v 1)))
    (b := B1_mixedA)
    (r := [.mt 1 b, .fz (.list xs), .ow 1 (.list xs), .ow 1 (.list []), .no]) (m := 0) (ds := rngU 0 (xs.length : Int)) (r0 := [.mt 1 b, .fz (.list xs), .ow 1 (.list xs), .ow 1 (.list []), .no])
    (Q := fun o => ∃ ys b' s4, o = .nx [.mt 1 b', .fz (.list xs), .ow 1 (.list []), .ow 1 (.list ys), s4] ∧ ys.Perm xs ∧ IsBox b')
    rfl (by simp only [rootsX, lockE, List.mapIdx_cons, List.mapIdx_nil]; walk_at "go")
    (fun p s => ∃ left found b' s4, s = [.mt 1 b', .fz (.list xs), .ow 1 (.list left), .ow 1 (.list found), s4] ∧ left.length + p.length = xs.length ∧ (found ++ left).Perm xs ∧ IsBox b' ∧ free1 s4)
    ⟨xs, [], b, .no, rfl, by simp, by simp, hb, trivial⟩
    (by
      rintro p d q s e ⟨left, found, b1, s4, rfl, hl, hp, hb1, hf⟩
      have hlt := split_len e
      rw [rng0_at, List.length_map, List.length_range] at hlt
      have hl0 : 0 < left.length := by omega
      obtain ⟨v, b2, h, h0, h1, hb2⟩ := draw_ok (k := k) hB.draw hb1 (m := left.length) (by omega)
      obtain ⟨u, rfl⟩ : ∃ q : Nat, v = q := ⟨v.toNat, by omega⟩
      have hq : u < left.length := by omega
      have h5 : ¬ (left.length : Int) = 0 := by omega
      have h6 : left ≠ [] := List.length_pos_iff.mp hl0
      have hfl : found.length < 1000000 := by have := hp.length_eq; rw [List.length_append] at this; omega
      have h7 : popL (some (u : Int)) left = .ok (left[u], left.eraseIdx (u)) := by
        rw [popL_at (by omega), ixN_nat, if_pos hq, popK_some, List.getElem?_eq_getElem hq]
        rfl
      have h8 : put1 4 (Sl.fz d) [Sl.mt 1 b1, Sl.fz (PyData.list xs), Sl.ow 1 (PyData.list left), Sl.ow 1 (PyData.list found), s4] (some s4) = .ok [Sl.mt 1 b1, Sl.fz (PyData.list xs), Sl.ow 1 (PyData.list left), Sl.ow 1 (PyData.list found), .fz d] := put1_free hf
      refine ⟨.nx [.mt 1 b2, .fz (.list xs), .ow 1 (.list (left.eraseIdx (u))), .ow 1 (.list (found ++ [left[u]])), .fz d], ?_, left.eraseIdx (u), found ++ [left[u]], b2, .fz d, rfl, ?_, ?_, hb2, trivial⟩
      · rw [x_body, B1_mixedA]
        walk_at "go"
      · rw [List.length_eraseIdx, if_pos hq, List.length_append]
        simp only [List.length_cons, List.length_nil]
        omega
      · refine List.Perm.trans ?_ hp
        rw [List.append_assoc]
        refine List.Perm.append_left _ ?_
        exact L2.erase_perm left (u) left[u] (List.getElem?_eq_getElem hq))
    (by
      rintro s ⟨left, found, b1, s4, rfl, hl, hp, hb1, hf⟩
      rw [rng0_at, List.length_map, List.length_range] at hl
      have : left = [] := List.eq_nil_of_length_eq_zero (by omega)
      subst this
      rw [List.append_nil] at hp
      exact ⟨found, b1, s4, rfl, hp, hb1⟩)
  refine ⟨ys, b', ?_, hp, hb'⟩
  rw [cl_eq hP]
  simp only [T_mixedA]
  walk_at "go"
end
end VL
/-! the laws' own small defs: digits -/
namespace VL
open PySem
local macro_rules | `(tactic| walk_at "go") => `(tactic| simp [s_c, s_v, s_bin, s_cmp, s_ix, s_un, s_not, s_tand, s_tor, s_vand, s_vor, s_ife, s_chn, s_nil, s_cons, s_tup, s_lst, s_sl, s_b1, s_b2, s_isi, s_m1, s_it, s_rng, s_rngd, s_rrng, s_enum, s_zip, s_rev, s_lst1, s_tup1, s_comp, s_ags0, s_ags, s_pop, s_app, s_ext, x_set, x_nop, x_brk, x_cont, x_seq, x_if, x_ret, x_drop, x_sets, x_aug, x_par, setT_nm, setT_tup, bindT_nm, bindT_tup, bindTs_cons, bindTs_nil, wipeS, backS, lockE, unl_eq, stF, stores, tgHas, *])
section
variable {P : Str → Option Fn} {k : Nat}
theorem cell_ok (hP : P "_law_cell" = some T_cell) (ns : List Int) (i : Nat) : ∃ c, cl P k "_law_cell" [.dict (scrK ns), .int i] = .ok (.int c, []) := by
  by_cases h : i < ns.length
  · refine ⟨ns[i], ?_⟩
    have h2 : decide ((i : Int) < (ns.length : Int)) = true := by simpa using h
    have h3 : L2.atI (ns.map PyData.int) (i : Int) = some (.int ns[i]) := by rw [atI_nat]; simp [h]
    rw [cl_eq hP]
    simp only [T_cell, scrK]
    walk_at "go"
  · refine ⟨0, ?_⟩
    have h2 : decide ((i : Int) < (ns.length : Int)) = false := by simpa using h
    rw [cl_eq hP]
    simp only [T_cell, scrK]
    walk_at "go"
@[simp] theorem smI_2 : smI 2 = true := by decide
@[simp] theorem smI_16807 : smI 16807 = true := by decide
@[simp] theorem smI_48271 : smI 48271 = true := by decide
@[simp] theorem smI_69621 : smI 69621 = true := by decide
@[simp] theorem bnd_12 : bnd 12 = true := by decide
@[simp] theorem bnd_60 : bnd 60 = true := by decide

theorem dig1_B {s0 s1 s2 s6 s7 : Sl} {ds : List Int} {i c : Int} (f6 : free1 s6) (hl : ds.length < 900000) : ∃ o, VL.exec (prog P k) 0 (.for_ (.nm 6) (.rng (.c (.int 0)) (.c (.int 60))) B1_digitsB) [s0, s1, s2, .ow 1 (.list (ds.map .int)), .fz (.int i), .fz (.int c), s6, s7] = .ok o ∧
    ∃ (ds' : List Int) (c' : Int) (s6' : Sl), o = .nx [s0, s1, s2, .ow 1 (.list (ds'.map .int)), .fz (.int i), .fz (.int c'), s6', s7] ∧ ds'.length ≤ ds.length + 60 ∧ free1 s6' := by
  refine for_rng (lo := 0) (hi := 60) (r0 := [s0, s1, s2, .ow 1 (.list (ds.map .int)), .fz (.int i), .fz (.int c), s6, s7]) (by walk_at "go") (fun n s => ∃ (ds' : List Int) (c' : Int) (s6' : Sl), s = [s0, s1, s2, .ow 1 (.list (ds'.map .int)), .fz (.int i), .fz (.int c'), s6', s7] ∧ ds'.length ≤ ds.length + n ∧ free1 s6') ⟨ds, c, s6, rfl, by omega, f6⟩ ?_ ?_
  · rintro n s hn ⟨ds', c', s6', rfl, hl', f6'⟩
    have hp := fun i s r => put1_free (i := i) (s := s) (r := r) f6'
    have hl2 : ds'.length < 1000000 := by omega
    by_cases hc : 0 < c'
    · refine ⟨.nx [s0, s1, s2, .ow 1 (.list ((ds' ++ [c'.fmod 1000]).map .int)), .fz (.int i), .fz (.int (c'.fdiv 1000)), .fz (.int (0 + n)), s7], ?_, ds' ++ [c'.fmod 1000], c'.fdiv 1000, _, rfl, ?_, trivial⟩
      · rw [x_body, B1_digitsB]
        walk_at "go"
      · rw [List.length_append]; simp only [List.length_cons, List.length_nil]; omega
    · refine ⟨.nx [s0, s1, s2, .ow 1 (.list (ds'.map .int)), .fz (.int i), .fz (.int c'), .fz (.int (0 + n)), s7], ?_, ds', c', _, rfl, by omega, trivial⟩
      rw [x_body, B1_digitsB]
      walk_at "go"
  · rintro s ⟨ds', c', s6', rfl, hl', f6'⟩
    exact ⟨ds', c', s6', rfl, by omega, f6'⟩
theorem dig2_B {s0 s1 s2 s5 s6 : Sl} {ds : List Int} {i c : Int} (f6 : free1 s6) (hl : ds.length < 900000) : ∃ o, VL.exec (prog P k) 0 (.for_ (.nm 6) (.rng (.c (.int 0)) (.c (.int 12))) B2_digitsB) [s0, s1, s2, .ow 1 (.list (ds.map .int)), .fz (.int i), s5, s6, .fz (.int c)] = .ok o ∧
    ∃ (ds' : List Int) (c' : Int) (s6' : Sl), o = .nx [s0, s1, s2, .ow 1 (.list (ds'.map .int)), .fz (.int i), s5, s6', .fz (.int c')] ∧ ds'.length ≤ ds.length + 60 ∧ free1 s6' := by
  refine for_rng (lo := 0) (hi := 12) (r0 := [s0, s1, s2, .ow 1 (.list (ds.map .int)), .fz (.int i), s5, s6, .fz (.int c)]) (by walk_at "go") (fun n s => ∃ (ds' : List Int) (c' : Int) (s6' : Sl), s = [s0, s1, s2, .ow 1 (.list (ds'.map .int)), .fz (.int i), s5, s6', .fz (.int c')] ∧ ds'.length ≤ ds.length + n ∧ free1 s6') ⟨ds, c, s6, rfl, by omega, f6⟩ ?_ ?_
  · rintro n s hn ⟨ds', c', s6', rfl, hl', f6'⟩
    have hp := fun i s r => put1_free (i := i) (s := s) (r := r) f6'
    have hl2 : ds'.length < 1000000 := by omega
    refine ⟨.nx [s0, s1, s2, .ow 1 (.list ((ds' ++ [(((c' * 16807 + 7 * (0 + n) + 1).fmod 2147483647).fdiv 997).fmod 1000]).map .int)), .fz (.int i), s5, .fz (.int (0 + n)), .fz (.int ((c' * 16807 + 7 * (0 + n) + 1).fmod 2147483647))], ?_, ds' ++ [_], _, _, rfl, ?_, trivial⟩
    · rw [x_body, B2_digitsB]
      walk_at "go"
    · rw [List.length_append]; simp only [List.length_cons, List.length_nil]; omega
  · rintro s ⟨ds', c', s6', rfl, hl', f6'⟩
    exact ⟨ds', c', s6', rfl, by omega, f6'⟩
theorem dig3_B (hC : P "_law_cell" = some T_cell) {s1 s2 s4 s5 s6 s7 : Sl} {ns ds : List Int} {i : Nat} (f4 : free1 s4) (f5 : free1 s5) (f6 : free1 s6) (f7 : free1 s7) (hl : ds.length < 900000) : ∃ o, bodyF (prog P (k + 1)) 0 0 (.nm 4) B3_digitsB (.int i) [(.fz (.dict (scrK ns))), s1, s2, .ow 1 (.list (ds.map .int)), s4, s5, s6, s7] = .ok o ∧
    ∃ (ds' : List Int) (s4' s5' s6' s7' : Sl), o = .nx [(.fz (.dict (scrK ns))), s1, s2, .ow 1 (.list (ds'.map .int)), s4', s5', s6', s7'] ∧ ds'.length ≤ ds.length + 60 ∧ free1 s4' ∧ free1 s5' ∧ free1 s6' ∧ free1 s7' := by
  obtain ⟨c, h⟩ := cell_ok (k := k) hC ns i
  have c1 := @s_call2 (sg := ⟨[.fz, .fz], 0⟩) (h := hC) (hs := rfl)
  have hp4 := fun i s r => put1_free (i := i) (s := s) (r := r) f4
  have hp5 := fun i s r => put1_free (i := i) (s := s) (r := r) f5
  rw [x_body, B3_digitsB]
  obtain ⟨c', hc'⟩ : ∃ c' : Int, VL.exec (prog P (k + 1)) 0 (.ife (.cmp .Lt (.v 5) (.c (.int 0)))
  (.set 0 (.nm 5) (.bin .Sub (.c (.int 1)) (.bin .Mult (.c (.int 2)) (.v 5))))
  .nop) [(.fz (.dict (scrK ns))), s1, s2, .ow 1 (.list (ds.map .int)), .fz (.int i), .fz (.int c), s6, s7] = .ok (.nx [(.fz (.dict (scrK ns))), s1, s2, .ow 1 (.list (ds.map .int)), .fz (.int i), .fz (.int c'), s6, s7]) := by
    by_cases hc : c < 0
    · exact ⟨_, by walk_at "go"; rfl⟩
    · exact ⟨c, by walk_at "go"⟩
  by_cases hb : c' < 10 ^ 18
  · have hp7 := fun i s r => put1_free (i := i) (s := s) (r := r) f7
    obtain ⟨o, ho, ds', c2, s6', rfl, hl', f6'⟩ := dig2_B (P := P) (k := k + 1) (s0 := .fz (.dict (scrK ns))) (s1 := s1) (s2 := s2) (s5 := .fz (.int c')) (s6 := s6) (ds := ds) (i := i) (c := (c' * 48271 + i * 69621 + 11).fmod 2147483647) f6 hl
    have hb2 : decide (c' < 1000000000000000000) = true := decide_eq_true hb
    refine ⟨_, ?_, ds', .fz (.int i), .fz (.int c'), s6', .fz (.int c2), rfl, hl', trivial, trivial, f6', trivial⟩
    have hb3 : c' < 1000000000000000000 := hb
    walk_at "go"
  · obtain ⟨o, ho, ds', c2, s6', rfl, hl', f6'⟩ := dig1_B (P := P) (k := k + 1) (s0 := .fz (.dict (scrK ns))) (s1 := s1) (s2 := s2) (s6 := s6) (s7 := s7) (ds := ds) (i := i) (c := c') f6 hl
    have hb3 : ¬ c' < 1000000000000000000 := hb
    refine ⟨_, ?_, ds', .fz (.int i), .fz (.int c2), s6', s7, rfl, hl', trivial, trivial, f6', f7⟩
    walk_at "go"
theorem digitsB_ok (hC : P "_law_cell" = some T_cell) (hP : P "_law_digits" = some T_digitsB) (ns : List Int) (m : Nat) (hm : m < 10000) : ∃ ds : List Int, cl P (k + 1) "_law_digits" [.dict (scrK ns), .int 0, .int m] = .ok (.list (ds.map .int), []) := by
  have hbn : bnd (m : Int) = true := bnd_nat (by omega)
  obtain ⟨o, ho, ds, s4, s5, s6, s7, rfl⟩ := for_rng (G := prog P (k + 1)) (rm := 0) (t := .nm 4) (lo := 0) (hi := m) (a := .v 1) (c := .v 2) (b := B3_digitsB)
    (r := [.fz (.dict (scrK ns)), .fz (.int 0), .fz (.int m), .ow 1 (.list []), .no, .no, .no, .no]) (r0 := [.fz (.dict (scrK ns)), .fz (.int 0), .fz (.int m), .ow 1 (.list []), .no, .no, .no, .no])
    (Q := fun o => ∃ (ds : List Int) (s4 s5 s6 s7 : Sl), o = .nx [.fz (.dict (scrK ns)), .fz (.int 0), .fz (.int m), .ow 1 (.list (ds.map .int)), s4, s5, s6, s7]) (by walk_at "go")
    (fun n s => ∃ (ds : List Int) (s4 s5 s6 s7 : Sl), s = [.fz (.dict (scrK ns)), .fz (.int 0), .fz (.int m), .ow 1 (.list (ds.map .int)), s4, s5, s6, s7] ∧ ds.length ≤ 60 * n ∧ free1 s4 ∧ free1 s5 ∧ free1 s6 ∧ free1 s7)
    ⟨[], .no, .no, .no, .no, rfl, by simp, trivial, trivial, trivial, trivial⟩
    (by
      rintro n s hn ⟨ds, s4, s5, s6, s7, rfl, hl, f4, f5, f6, f7⟩
      obtain ⟨o, ho, ds', t4, t5, t6, t7, rfl, hl', g4, g5, g6, g7⟩ := dig3_B (k := k) hC (ns := ns) (ds := ds) (i := n) (s1 := .fz (.int 0)) (s2 := .fz (.int m)) f4 f5 f6 f7 (by omega)
      exact ⟨.nx _, by rw [Int.zero_add]; exact ho, ds', t4, t5, t6, t7, rfl, by omega, g4, g5, g6, g7⟩)
    (by
      rintro s ⟨ds, s4, s5, s6, s7, h, _⟩
      subst h
      exact ⟨ds, s4, s5, s6, s7, rfl⟩)
  refine ⟨ds, ?_⟩
  rw [cl_eq hP]
  simp only [T_digitsB]
  walk_at "go"

theorem dig1_A {s0 s1 s6 s7 : Sl} {ds : List Int} {i c : Int} (f6 : free1 s6) (hl : ds.length < 900000) : ∃ o, VL.exec (prog P k) 0 (.for_ (.nm 5) (.rng (.c (.int 0)) (.c (.int 60))) B1_digitsA) [s0, s1, .ow 1 (.list (ds.map .int)), .fz (.int i), .fz (.int c), s6, s7] = .ok o ∧
    ∃ (ds' : List Int) (c' : Int) (s6' : Sl), o = .nx [s0, s1, .ow 1 (.list (ds'.map .int)), .fz (.int i), .fz (.int c'), s6', s7] ∧ ds'.length ≤ ds.length + 60 ∧ free1 s6' := by
  refine for_rng (lo := 0) (hi := 60) (r0 := [s0, s1, .ow 1 (.list (ds.map .int)), .fz (.int i), .fz (.int c), s6, s7]) (by walk_at "go") (fun n s => ∃ (ds' : List Int) (c' : Int) (s6' : Sl), s = [s0, s1, .ow 1 (.list (ds'.map .int)), .fz (.int i), .fz (.int c'), s6', s7] ∧ ds'.length ≤ ds.length + n ∧ free1 s6') ⟨ds, c, s6, rfl, by omega, f6⟩ ?_ ?_
  · rintro n s hn ⟨ds', c', s6', rfl, hl', f6'⟩
    have hp := fun i s r => put1_free (i := i) (s := s) (r := r) f6'
    have hl2 : ds'.length < 1000000 := by omega
    by_cases hc : 0 < c'
    · refine ⟨.nx [s0, s1, .ow 1 (.list ((ds' ++ [c'.fmod 1000]).map .int)), .fz (.int i), .fz (.int (c'.fdiv 1000)), .fz (.int (0 + n)), s7], ?_, ds' ++ [c'.fmod 1000], c'.fdiv 1000, _, rfl, ?_, trivial⟩
      · rw [x_body, B1_digitsA]
        walk_at "go"
      · rw [List.length_append]; simp only [List.length_cons, List.length_nil]; omega
    · refine ⟨.nx [s0, s1, .ow 1 (.list (ds'.map .int)), .fz (.int i), .fz (.int c'), .fz (.int (0 + n)), s7], ?_, ds', c', _, rfl, by omega, trivial⟩
      rw [x_body, B1_digitsA]
      walk_at "go"
  · rintro s ⟨ds', c', s6', rfl, hl', f6'⟩
    exact ⟨ds', c', s6', rfl, by omega, f6'⟩
theorem dig2_A {s0 s1 s5 s6 : Sl} {ds : List Int} {i c : Int} (f6 : free1 s6) (hl : ds.length < 900000) : ∃ o, VL.exec (prog P k) 0 (.for_ (.nm 5) (.rng (.c (.int 0)) (.c (.int 12))) B2_digitsA) [s0, s1, .ow 1 (.list (ds.map .int)), .fz (.int i), s5, s6, .fz (.int c)] = .ok o ∧
    ∃ (ds' : List Int) (c' : Int) (s6' : Sl), o = .nx [s0, s1, .ow 1 (.list (ds'.map .int)), .fz (.int i), s5, s6', .fz (.int c')] ∧ ds'.length ≤ ds.length + 60 ∧ free1 s6' := by
  refine for_rng (lo := 0) (hi := 12) (r0 := [s0, s1, .ow 1 (.list (ds.map .int)), .fz (.int i), s5, s6, .fz (.int c)]) (by walk_at "go") (fun n s => ∃ (ds' : List Int) (c' : Int) (s6' : Sl), s = [s0, s1, .ow 1 (.list (ds'.map .int)), .fz (.int i), s5, s6', .fz (.int c')] ∧ ds'.length ≤ ds.length + n ∧ free1 s6') ⟨ds, c, s6, rfl, by omega, f6⟩ ?_ ?_
  · rintro n s hn ⟨ds', c', s6', rfl, hl', f6'⟩
    have hp := fun i s r => put1_free (i := i) (s := s) (r := r) f6'
    have hl2 : ds'.length < 1000000 := by omega
    refine ⟨.nx [s0, s1, .ow 1 (.list ((ds' ++ [(((c' * 16807 + 7 * (0 + n) + 1).fmod 2147483647).fdiv 997).fmod 1000]).map .int)), .fz (.int i), s5, .fz (.int (0 + n)), .fz (.int ((c' * 16807 + 7 * (0 + n) + 1).fmod 2147483647))], ?_, ds' ++ [_], _, _, rfl, ?_, trivial⟩
    · rw [x_body, B2_digitsA]
      walk_at "go"
    · rw [List.length_append]; simp only [List.length_cons, List.length_nil]; omega
  · rintro s ⟨ds', c', s6', rfl, hl', f6'⟩
    exact ⟨ds', c', s6', rfl, by omega, f6'⟩
theorem dig3_A (hC : P "_law_cell" = some T_cell) {s1 s4 s5 s6 s7 : Sl} {ns ds : List Int} {i : Nat} (f4 : free1 s4) (f5 : free1 s5) (f6 : free1 s6) (f7 : free1 s7) (hl : ds.length < 900000) : ∃ o, bodyF (prog P (k + 1)) 0 0 (.nm 3) B3_digitsA (.int i) [(.fz (.dict (scrK ns))), s1, .ow 1 (.list (ds.map .int)), s4, s5, s6, s7] = .ok o ∧
    ∃ (ds' : List Int) (s4' s5' s6' s7' : Sl), o = .nx [(.fz (.dict (scrK ns))), s1, .ow 1 (.list (ds'.map .int)), s4', s5', s6', s7'] ∧ ds'.length ≤ ds.length + 60 ∧ free1 s4' ∧ free1 s5' ∧ free1 s6' ∧ free1 s7' := by
  obtain ⟨c, h⟩ := cell_ok (k := k) hC ns i
  have c1 := @s_call2 (sg := ⟨[.fz, .fz], 0⟩) (h := hC) (hs := rfl)
  have hp4 := fun i s r => put1_free (i := i) (s := s) (r := r) f4
  have hp5 := fun i s r => put1_free (i := i) (s := s) (r := r) f5
  rw [x_body, B3_digitsA]
  obtain ⟨c', hc'⟩ : ∃ c' : Int, VL.exec (prog P (k + 1)) 0 (.ife (.cmp .Lt (.v 4) (.c (.int 0)))
  (.set 0 (.nm 4) (.bin .Sub (.c (.int 1)) (.bin .Mult (.c (.int 2)) (.v 4))))
  .nop) [(.fz (.dict (scrK ns))), s1, .ow 1 (.list (ds.map .int)), .fz (.int i), .fz (.int c), s6, s7] = .ok (.nx [(.fz (.dict (scrK ns))), s1, .ow 1 (.list (ds.map .int)), .fz (.int i), .fz (.int c'), s6, s7]) := by
    by_cases hc : c < 0
    · exact ⟨_, by walk_at "go"; rfl⟩
    · exact ⟨c, by walk_at "go"⟩
  by_cases hb : c' < 10 ^ 18
  · have hp7 := fun i s r => put1_free (i := i) (s := s) (r := r) f7
    obtain ⟨o, ho, ds', c2, s6', rfl, hl', f6'⟩ := dig2_A (P := P) (k := k + 1) (s0 := .fz (.dict (scrK ns))) (s1 := s1)  (s5 := .fz (.int c')) (s6 := s6) (ds := ds) (i := i) (c := (c' * 48271 + i * 69621 + 11).fmod 2147483647) f6 hl
    have hb2 : decide (c' < 1000000000000000000) = true := decide_eq_true hb
    refine ⟨_, ?_, ds', .fz (.int i), .fz (.int c'), s6', .fz (.int c2), rfl, hl', trivial, trivial, f6', trivial⟩
    have hb3 : c' < 1000000000000000000 := hb
    walk_at "go"
  · obtain ⟨o, ho, ds', c2, s6', rfl, hl', f6'⟩ := dig1_A (P := P) (k := k + 1) (s0 := .fz (.dict (scrK ns))) (s1 := s1)  (s6 := s6) (s7 := s7) (ds := ds) (i := i) (c := c') f6 hl
    have hb3 : ¬ c' < 1000000000000000000 := hb
    refine ⟨_, ?_, ds', .fz (.int i), .fz (.int c2), s6', s7, rfl, hl', trivial, trivial, f6', f7⟩
    walk_at "go"
theorem digitsA_ok (hC : P "_law_cell" = some T_cell) (hP : P "_law_digits" = some T_digitsA) (ns : List Int) (m : Nat) (hm : m < 10000) : ∃ ds : List Int, cl P (k + 1) "_law_digits" [.dict (scrK ns), .int m] = .ok (.list (ds.map .int), []) := by
  have hbn : bnd (m : Int) = true := bnd_nat (by omega)
  obtain ⟨o, ho, ds, s4, s5, s6, s7, rfl⟩ := for_rng (G := prog P (k + 1)) (rm := 0) (t := .nm 3) (lo := 0) (hi := m) (a := .c (.int 0)) (c := .v 1) (b := B3_digitsA)
    (r := [.fz (.dict (scrK ns)), .fz (.int m), .ow 1 (.list []), .no, .no, .no, .no]) (r0 := [.fz (.dict (scrK ns)), .fz (.int m), .ow 1 (.list []), .no, .no, .no, .no])
    (Q := fun o => ∃ (ds : List Int) (s4 s5 s6 s7 : Sl), o = .nx [.fz (.dict (scrK ns)), .fz (.int m), .ow 1 (.list (ds.map .int)), s4, s5, s6, s7]) (by walk_at "go")
    (fun n s => ∃ (ds : List Int) (s4 s5 s6 s7 : Sl), s = [.fz (.dict (scrK ns)), .fz (.int m), .ow 1 (.list (ds.map .int)), s4, s5, s6, s7] ∧ ds.length ≤ 60 * n ∧ free1 s4 ∧ free1 s5 ∧ free1 s6 ∧ free1 s7)
    ⟨[], .no, .no, .no, .no, rfl, by simp, trivial, trivial, trivial, trivial⟩
    (by
      rintro n s hn ⟨ds, s4, s5, s6, s7, rfl, hl, f4, f5, f6, f7⟩
      obtain ⟨o, ho, ds', t4, t5, t6, t7, rfl, hl', g4, g5, g6, g7⟩ := dig3_A (k := k) hC (ns := ns) (ds := ds) (i := n) (s1 := .fz (.int m)) f4 f5 f6 f7 (by omega)
      exact ⟨.nx _, by rw [Int.zero_add]; exact ho, ds', t4, t5, t6, t7, rfl, by omega, g4, g5, g6, g7⟩)
    (by
      rintro s ⟨ds, s4, s5, s6, s7, h, _⟩
      subst h
      exact ⟨ds, s4, s5, s6, s7, rfl⟩)
  refine ⟨ds, ?_⟩
  rw [cl_eq hP]
  simp only [T_digitsA]
  walk_at "go"
end
end VL
/-! the laws' own small defs: the same -/
namespace VL
open PySem
local macro_rules | `(tactic| walk_at "go") => `(tactic| simp [s_c, s_v, s_bin, s_cmp, s_ix, s_un, s_not, s_tand, s_tor, s_vand, s_vor, s_ife, s_chn, s_nil, s_cons, s_tup, s_lst, s_sl, s_b1, s_b2, s_isi, s_m1, s_it, s_rng, s_rngd, s_rrng, s_enum, s_zip, s_rev, s_lst1, s_tup1, s_comp, s_ags0, s_ags, s_pop, s_app, s_ext, x_set, x_nop, x_brk, x_cont, x_seq, x_if, x_ret, x_drop, x_sets, x_aug, x_par, setT_nm, setT_tup, bindT_nm, bindT_tup, bindTs_cons, bindTs_nil, wipeS, backS, lockE, unl_eq, stF, stores, tgHas, *])
section
variable {P : Str → Option Fn} {k : Nat}
/-- data that the laws' comparison takes -/
def Nice : Nat → D → Prop
  | _, .none => True
  | _, .bool _ => True
  | _, .int i => i.natAbs.log2 < 1920
  | _, .str _ => False
  | 0, .list _ => False
  | 0, .tuple _ => False
  | n + 1, .list xs => xs.length < 1000000 ∧ ∀ x ∈ xs, Nice n x
  | n + 1, .tuple xs => xs.length < 1000000 ∧ ∀ x ∈ xs, Nice n x
  | _, .dict _ => False
@[simp] theorem isTb_ii {i : Int} : isTb .int (.int i) = true := id rfl
@[simp] theorem isTb_ib {i : Bool} : isTb .int (.bool i) = true := id rfl
@[simp] theorem isTb_bi {i : Int} : isTb .bool (.int i) = false := id rfl
@[simp] theorem isTb_si {i : Int} : isTb .str (.int i) = false := id rfl
@[simp] theorem isTb_sl {i : List D} : isTb .str (.list i) = false := id rfl
@[simp] theorem isTb_st {i : List D} : isTb .str (.tuple i) = false := id rfl
@[simp] theorem isTb_il {i : List D} : isTb .int (.list i) = false := id rfl
@[simp] theorem isTb_it {i : List D} : isTb .int (.tuple i) = false := id rfl
@[simp] theorem isTb_tt {i : List D} : isTb .tuple (.tuple i) = true := id rfl
@[simp] theorem isTb_tl {i : List D} : isTb .tuple (.list i) = false := id rfl
@[simp] theorem isTb_lt {i : List D} : isTb .list (.tuple i) = false := id rfl
@[simp] theorem isTb_ll {i : List D} : isTb .list (.list i) = true := id rfl
theorem same_loop (hS : P "_law_same" = some T_same) {xs : List D} {d : D} (hd : d = .list xs ∨ d = .tuple xs) (hl : xs.length < 1000000) (ih : ∀ x ∈ xs, cl P k "_law_same" [x, x] = .ok (.bool true, [])) :
    ∃ o, VL.exec (prog P (k + 1)) 0 (.for_ (.nm 2) (.rng (.c (.int 0)) (.b1 .len (.v 1))) B1_same) [.fz d, .fz d, .no] = .ok o ∧ ∃ s, o = .nx [.fz d, .fz d, s] := by
  have hbn : bnd (xs.length : Int) = true := bnd_nat (by omega)
  have c1 := @s_call2 (sg := ⟨[.fz, .fz], 0⟩) (h := hS) (hs := rfl)
  refine for_rng (lo := 0) (hi := xs.length) (r0 := [.fz d, .fz d, .no]) (by rcases hd with rfl | rfl <;> walk_at "go") (fun n s => ∃ s2, s = [.fz d, .fz d, s2] ∧ free1 s2) ⟨.no, rfl, trivial⟩ ?_ ?_
  · rintro n s hn ⟨s2, rfl, f2⟩
    have hn' : n < xs.length := by omega
    have p2 := fun i s r => put1_free (i := i) (s := s) (r := r) f2
    have h3 : L2.atI xs (n : Int) = some xs[n] := by rw [atI_nat]; simp [hn']
    have hr := ih xs[n] (List.getElem_mem _)
    refine ⟨.nx [.fz d, .fz d, .fz (.int (0 + n))], ?_, _, rfl, trivial⟩
    rw [x_body, B1_same]
    rcases hd with rfl | rfl <;> walk_at "go"
  · rintro s ⟨s2, rfl, f2⟩
    exact ⟨s2, rfl⟩
theorem same_ok (hS : P "_law_same" = some T_same) : ∀ (n : Nat) (d : D), Nice n d → ∀ k, n ≤ k → cl P k "_law_same" [d, d] = .ok (.bool true, []) := by
  intro n
  induction n with
  | zero =>
    intro d hd k _
    rw [cl_eq hS]
    simp only [T_same]
    cases d <;> first | exact hd.elim | skip
    · walk_at "go"
    · rename_i b; cases b <;> walk_at "go"
    · rename_i i
      have hi : i.natAbs.log2 < 1920 := hd
      have hr : ∀ o m, b1D .repr ⟨o, m, .int i⟩ = .ok (fzv (.str (toString i))) := fun o m => by simp only [b1D]; rw [if_pos hi]
      walk_at "go"
  | succ n ih =>
    intro d hd k hk
    cases d with
    | none => rw [cl_eq hS]; simp only [T_same]; walk_at "go"
    | bool b => rw [cl_eq hS]; simp only [T_same]; cases b <;> walk_at "go"
    | int i =>
      have hi : i.natAbs.log2 < 1920 := hd
      have hr : ∀ o m, b1D .repr ⟨o, m, .int i⟩ = .ok (fzv (.str (toString i))) := fun o m => by simp only [b1D]; rw [if_pos hi]
      rw [cl_eq hS]; simp only [T_same]
      walk_at "go"
    | str s => exact hd.elim
    | dict s => exact hd.elim
    | list xs =>
      obtain ⟨hl, hx⟩ : xs.length < 1000000 ∧ ∀ x ∈ xs, Nice n x := hd
      obtain ⟨k', rfl⟩ : ∃ k', k = k' + 1 := ⟨k - 1, by omega⟩
      obtain ⟨o, ho, s, rfl⟩ := same_loop (k := k') hS (d := .list xs) (.inl rfl) hl fun x h => ih x (hx x h) k' (by omega)
      rw [cl_eq hS]; simp only [T_same]
      walk_at "go"
    | tuple xs =>
      obtain ⟨hl, hx⟩ : xs.length < 1000000 ∧ ∀ x ∈ xs, Nice n x := hd
      obtain ⟨k', rfl⟩ : ∃ k', k = k' + 1 := ⟨k - 1, by omega⟩
      obtain ⟨o, ho, s, rfl⟩ := same_loop (k := k') hS (d := .tuple xs) (.inr rfl) hl fun x h => ih x (hx x h) k' (by omega)
      rw [cl_eq hS]; simp only [T_same]
      walk_at "go"
theorem Nice.int {n : Nat} {i : Int} (h : i.natAbs < 2 ^ 64) : Nice n (.int i) := by
  have q : i.natAbs.log2 < 1920 := by
    by_cases e : i.natAbs = 0
    · rw [e]; decide
    · have := (Nat.log2_lt e).mpr h
      omega
  cases n <;> exact q
theorem Nice.ints {n : Nat} {ns : List Int} (h : ∀ i ∈ ns, i.natAbs < 2 ^ 64) (hl : ns.length < 1000000) : Nice (n + 1) (.list (ns.map .int)) :=
  ⟨by rw [List.length_map]; exact hl, fun x hx => by
    obtain ⟨i, hi, rfl⟩ := List.mem_map.mp hx
    exact .int (h i hi)⟩
end
end VL
/-! works: who waits for whom -/
namespace VL
open PySem
local macro_rules | `(tactic| walk_at "go") => `(tactic| simp [s_c, s_v, s_bin, s_cmp, s_ix, s_un, s_not, s_tand, s_tor, s_vand, s_vor, s_ife, s_chn, s_nil, s_cons, s_tup, s_lst, s_sl, s_b1, s_b2, s_isi, s_m1, s_it, s_rng, s_rngd, s_rrng, s_enum, s_zip, s_rev, s_lst1, s_tup1, s_comp, s_ags0, s_ags, s_pop, s_app, s_ext, x_set, x_nop, x_brk, x_cont, x_seq, x_if, x_ret, x_drop, x_sets, x_aug, x_par, setT_nm, setT_tup, bindT_nm, bindT_tup, bindTs_cons, bindTs_nil, wipeS, backS, lockE, unl_eq, stF, stores, tgHas, *])

/-! ### the plain side -/
def wkD (n : Int) (ws : List (Int × Int)) : D := .tuple [.int n, .tuple (ws.map prD)]
@[simp] theorem ixD_wk0 {o : Bool} {m : Nat} {n : Int} {ws : List (Int × Int)} : ixD ⟨o, m, wkD n ws⟩ (.int 0) = .ok ⟨true, 0, .int n⟩ := by simp [wkD]
@[simp] theorem ixD_wk1 {o : Bool} {m : Nat} {n : Int} {ws : List (Int × Int)} : ixD ⟨o, m, wkD n ws⟩ (.int 1) = .ok ⟨true, 0, .tuple (ws.map prD)⟩ := by simp [wkD]
@[simp] theorem isL_wk {n : Int} {ws : List (Int × Int)} : isL (wkD n ws) = false := id rfl
def lates (ws : List (Int × Int)) (w : Int) : List Int := (ws.filter fun p => decide (p.1 = w)).map (·.2)
theorem lates_mem {ws : List (Int × Int)} {w x : Int} : x ∈ lates ws w ↔ (w, x) ∈ ws := by
  unfold lates
  simp only [List.mem_map, List.mem_filter, decide_eq_true_eq]
  constructor
  · rintro ⟨⟨a, b⟩, ⟨h, rfl⟩, rfl⟩; exact h
  · exact fun h => ⟨(w, x), ⟨h, rfl⟩, rfl⟩
theorem lates_len {ws : List (Int × Int)} {w : Int} : (lates ws w).length ≤ ws.length := by
  unfold lates
  rw [List.length_map]
  exact List.length_filter_le _ _
/-- waits for, straight or not -/
inductive Reach (ws : List (Int × Int)) : Int → Int → Prop
  | one {a b : Int} : (a, b) ∈ ws → Reach ws a b
  | more {a b c : Int} : Reach ws a b → (b, c) ∈ ws → Reach ws a c
theorem Reach.trans {ws : List (Int × Int)} {a b c : Int} (h : Reach ws a b) (k : Reach ws b c) : Reach ws a c := by
  induction k with
  | one h1 => exact .more h h1
  | more _ h1 ih => exact .more ih h1
theorem Reach.head {ws : List (Int × Int)} {a b c : Int} (h : (a, b) ∈ ws) (k : Reach ws b c) : Reach ws a c := Reach.trans (.one h) k
theorem Reach.last {ws : List (Int × Int)} {a b : Int} (h : Reach ws a b) : ∃ z, (z, b) ∈ ws := by
  cases h with
  | one h => exact ⟨_, h⟩
  | more _ h => exact ⟨_, h⟩
theorem Reach.first {ws : List (Int × Int)} {a b : Int} (h : Reach ws a b) : ∃ z, (a, z) ∈ ws ∧ (z = b ∨ Reach ws z b) := by
  induction h with
  | one h => exact ⟨_, h, .inl rfl⟩
  | more h1 h2 ih =>
    obtain ⟨z, hz, k⟩ := ih
    refine ⟨z, hz, .inr ?_⟩
    rcases k with rfl | k
    · exact .one h2
    · exact .more k h2
noncomputable def behL (ws : List (Int × Int)) (w : Int) : List Int := sortU ((ws.map (·.2)).filter fun x => @decide (Reach ws w x) (Classical.propDecidable _))
theorem behL_asc (ws : List (Int × Int)) (w : Int) : (behL ws w).Pairwise (· < ·) := sortU_asc _
theorem behL_mem {ws : List (Int × Int)} {w x : Int} : x ∈ behL ws w ↔ Reach ws w x := by
  unfold behL
  rw [sortU_mem, List.mem_filter]
  constructor
  · exact fun h => @of_decide_eq_true _ (Classical.propDecidable _) h.2
  · intro h
    obtain ⟨z, hz⟩ := h.last
    exact ⟨List.mem_map.mpr ⟨_, hz, rfl⟩, @decide_eq_true _ (Classical.propDecidable _) h⟩
theorem behL_len {ws : List (Int × Int)} {w : Int} : (behL ws w).length ≤ ws.length := by
  unfold behL
  refine Nat.le_trans (sortU_le _) (Nat.le_trans (List.length_filter_le _ _) ?_)
  rw [List.length_map]
  exact Nat.le_refl _
theorem nodup_len {A : Type} [DecidableEq A] : ∀ {l m : List A}, l.Nodup → (∀ x ∈ l, x ∈ m) → l.length ≤ m.length
  | [], _, _, _ => Nat.zero_le _
  | x :: l, m, hn, hs => by
    obtain ⟨h1, h2⟩ := List.nodup_cons.mp hn
    have hx : x ∈ m := hs x List.mem_cons_self
    have ih := nodup_len (m := m.erase x) h2 fun y hy => (List.mem_erase_of_ne (fun (e : y = x) => h1 (by rw [← e]; exact hy))).2 (hs y (List.mem_cons_of_mem _ hy))
    have e := List.length_erase_of_mem hx
    have hp : 0 < m.length := List.length_pos_of_mem hx
    rw [List.length_cons]
    omega
/-- a sorted list of numbers, each there once -/
def isrt (ns : List Int) : List Int := ns.mergeSort fun a b => decide (a ≤ b)
theorem sortD_ints (ns : List Int) : sortD false (ns.map .int) = (isrt ns).map .int := by
  unfold sortD isrt
  rw [List.map_mergeSort]
  intro a _ b _
  have e := congrFun (congrFun (W.dataLe_int (β := Int) id) a) b
  exact e.symm
theorem isrt_perm (ns : List Int) : (isrt ns).Perm ns := List.mergeSort_perm _ _
theorem isrt_le (ns : List Int) : (isrt ns).Pairwise (· ≤ ·) := by
  have h := List.pairwise_mergeSort (le := fun a b : Int => decide (a ≤ b)) (fun a b c h1 h2 => by simp only [decide_eq_true_eq] at *; omega) (fun a b => by simp only [Bool.or_eq_true, decide_eq_true_eq]; omega) ns
  exact h.imp fun h => of_decide_eq_true h
theorem isrt_lt {ns : List Int} (h : ns.Nodup) : (isrt ns).Pairwise (· < ·) := L2.lt_of_le_nodup _ (isrt_le ns) ((isrt_perm ns).nodup_iff.mpr h)
theorem b1_sorted {o : Bool} {n : Nat} {ns : List Int} (h : elz o n (ns.map .int) = true) : b1D .sorted ⟨o, n, .list (ns.map .int)⟩ = .ok ⟨true, 1, .list ((isrt ns).map .int)⟩ := by
  simp only [b1D]
  rw [h, sortable_ints, sortD_ints]
  rfl
section
variable {P : Str → Option Fn} {k : Nat}
theorem allInt_filterMap {A : Type} {xs : List A} {f : A → Option Int} : allInt (xs.filterMap fun a => (f a).map PyData.int) = some (xs.filterMap f) := by
  have e : (xs.filterMap fun a => (f a).map PyData.int) = (xs.filterMap f).map PyData.int := by rw [List.map_filterMap]
  rw [e, allInt_ints]
theorem straight_ok (hP : P "straight_behind" = some T_straight_behind) {n w : Int} {ws : List (Int × Int)} (hw : ws.length < 60) : cl P k "straight_behind" [wkD n ws, .int w] = .ok (.list ((sortU (lates ws w)).map .int), []) := by
  have hl := lates_len (ws := ws) (w := w)
  have hm : mapL (turnF (prog P k) 1 0 (.v 3) (.cons (.nm 2) (.cons (.nm 3) .nil)) (.cmp .Eq (.v 2) (.v 1)) [2, 3]) (ws.map prD) [.fz (wkD n ws), .fz (.int w), .no, .no] = .ok ((lates ws w).map .int, [.fz (wkD n ws), .fz (.int w), .no, .no]) := by
    rw [mapL_map (g := fun d => match d with | .tuple [.int a, .int b] => if a = w then some (.int b) else none | _ => none) (fun d hd => ?_)]
    · congr 2
      unfold lates
      rw [List.filterMap_map]
      clear hw hl
      induction ws with
      | nil => rfl
      | cons p ws ih =>
        rw [List.filterMap_cons, List.filter_cons]
        simp only [Function.comp_def, prD] at ih ⊢
        by_cases e : p.1 = w
        · simp only [e, if_true, decide_true, List.map_cons]
          rw [ih]
        · simp only [e, if_false, decide_false, Bool.false_eq_true]
          rw [ih]
    · obtain ⟨p, hp, rfl⟩ := List.mem_map.mp hd
      rw [s_turn]
      by_cases e : p.1 = w
      · simp only [prD, wkD]
        walk_at "go"
      · simp only [prD, wkD]
        walk_at "go"
  have h1 : (lates ws w).length < lim := by unfold lim; omega
  have h2 : (lates ws w).length < 60 := by omega
  rw [cl_eq hP]
  simp only [T_straight_behind]
  have e3 : evI (prog P k) (.it (.ix (.v 0) (.c (.int 1)))) [Sl.fz (wkD n ws), .fz (.int w), .no, .no] = .ok ((0, ws.map prD), [Sl.fz (wkD n ws), .fz (.int w), .no, .no]) := by
    simp only [wkD]
    walk_at "go"
  walk_at "go"
/-- what the search knows -/
structure BInv (ws : List (Int × Int)) (w : Int) (fo wa : List Int) : Prop where
  nd : fo.Nodup
  sub : ∀ x ∈ fo, Reach ws w x
  wt : ∀ x ∈ wa, x = w ∨ x ∈ fo
theorem BInv.len {ws : List (Int × Int)} {w : Int} {fo wa : List Int} (h : BInv ws w fo wa) : fo.length ≤ ws.length := by
  have := nodup_len (m := ws.map (·.2)) h.nd fun x hx => by
    obtain ⟨z, hz⟩ := (h.sub x hx).last
    exact List.mem_map.mpr ⟨_, hz, rfl⟩
  rwa [List.length_map] at this
/-- the row of one work's successors, taken in -/
theorem behind_row (hP : P "straight_behind" = some T_straight_behind) {n w x : Int} {ws : List (Int × Int)} (hw : ws.length < 60) {fo wa : List Int} {s4 : Sl} (f4 : free1 s4) (h : BInv ws w fo (wa ++ [x])) (hx : x = w ∨ x ∈ fo) (hwl : wa.length < 1000) :
    ∃ o, VL.exec (prog P (k + 1)) 0 B2_behind [.fz (wkD n ws), .fz (.int w), .ow 1 (.list (fo.map .int)), .ow 1 (.list ((wa ++ [x]).map .int)), s4] = .ok o ∧
      ∃ (fo' wa' : List Int) (s4' : Sl), o = .nx [.fz (wkD n ws), .fz (.int w), .ow 1 (.list (fo'.map .int)), .ow 1 (.list (wa'.map .int)), s4'] ∧ free1 s4' ∧ BInv ws w fo' wa' ∧ 2 * fo.length + wa'.length ≤ 2 * fo'.length + wa.length - (fo'.length - fo.length) ∧ fo.length ≤ fo'.length ∧ (∀ y ∈ wa, y ∈ wa') ∧
        (∀ y ∈ fo, y ∈ fo') ∧ (∀ y, (x, y) ∈ ws → y ∈ fo') ∧ (∀ y ∈ fo', y ∈ fo ∨ y ∈ wa') := by
  have c1 := @s_call2 (sg := ⟨[.fz, .fz], 0⟩) (h := hP) (hs := rfl)
  have hr := straight_ok (k := k) (n := n) (w := x) hP hw
  have hlast : ((wa ++ [x]).map PyData.int).getLast? = some (.int x) := by simp
  have hdrop : ((wa ++ [x]).map PyData.int).dropLast = wa.map PyData.int := by simp
  have hpop : popL none ((wa ++ [x]).map PyData.int) = .ok (.int x, wa.map .int) := by rw [popL_end, hlast, popE_some, hdrop]
  have hlf := h.len
  unfold B2_behind
  refine for_lst (enc := PyData.int) (xs := sortU (lates ws x)) (m := 0) (r0 := [.fz (wkD n ws), .fz (.int w), .ow 1 (.list (fo.map .int)), .ow 1 (.list (wa.map .int)), s4]) rfl ?_
    (fun p s => ∃ (fo' wa' : List Int) (s4' : Sl), s = [.fz (wkD n ws), .fz (.int w), .ow 1 (.list (fo'.map .int)), .ow 1 (.list (wa'.map .int)), s4'] ∧ free1 s4' ∧ BInv ws w fo' wa' ∧ fo.length ≤ fo'.length ∧ wa'.length + fo.length = wa.length + fo'.length ∧ (∀ y ∈ wa, y ∈ wa') ∧ (∀ y ∈ fo, y ∈ fo') ∧ (∀ y ∈ p, y ∈ fo') ∧ (∀ y ∈ fo', y ∈ fo ∨ y ∈ wa'))
    ⟨fo, wa, s4, rfl, f4, ⟨h.nd, h.sub, fun y hy => h.wt y (List.mem_append_left _ hy)⟩, Nat.le_refl _, by omega, fun _ h => h, fun _ h => h, (fun _ h => absurd h (by simp)), fun _ h => .inl h⟩ ?_ ?_
  · simp only [List.map_append, List.map_cons, List.map_nil] at hpop
    walk_at "go"
  · rintro p d q s e ⟨fo', wa', s4', rfl, f4', h', hl, hl2, w1, w2, w3, w4⟩
    have hlf' := h'.len
    have p4 := fun i s r => put1_free (i := i) (s := s) (r := r) f4'
    have hd : (x, d) ∈ ws := lates_mem.mp ((sortU_mem _ _).mp (split_mem e))
    by_cases hm : d ∈ fo'
    · refine ⟨.nx [.fz (wkD n ws), .fz (.int w), .ow 1 (.list (fo'.map .int)), .ow 1 (.list (wa'.map .int)), .fz (.int d)], ?_, fo', wa', _, rfl, trivial, h', hl, hl2, w1, w2, ?_, w4⟩
      · rw [x_body, B1_behind]
        walk_at "go"
      · intro y hy
        rcases List.mem_append.mp hy with hy | hy
        · exact w3 y hy
        · rw [List.mem_singleton.mp hy]; exact hm
    · have l1 : fo'.length < 1000000 := by omega
      have l2 : wa'.length < 1000000 := by omega
      refine ⟨.nx [.fz (wkD n ws), .fz (.int w), .ow 1 (.list ((fo' ++ [d]).map .int)), .ow 1 (.list ((wa' ++ [d]).map .int)), .fz (.int d)], ?_, fo' ++ [d], wa' ++ [d], _, rfl, trivial, ?_, ?_, ?_, fun y hy => List.mem_append_left _ (w1 y hy), fun y hy => List.mem_append_left _ (w2 y hy), ?_, ?_⟩
      · rw [x_body, B1_behind]
        walk_at "go"
      · refine ⟨?_, fun y hy => ?_, fun y hy => ?_⟩
        · rw [List.nodup_append]
          refine ⟨h'.nd, by simp, fun a ha b hb => ?_⟩
          rw [List.mem_singleton.mp hb]
          rintro rfl
          exact hm ha
        · rcases List.mem_append.mp hy with hy | hy
          · exact h'.sub y hy
          · rw [List.mem_singleton.mp hy]
            rcases hx with rfl | hx
            · exact .one hd
            · exact .more (h'.sub x (w2 x hx)) hd
        · rcases List.mem_append.mp hy with hy | hy
          · exact (h'.wt y hy).imp id fun z => List.mem_append_left _ z
          · exact .inr (List.mem_append_right _ hy)
      · rw [List.length_append]; omega
      · rw [List.length_append, List.length_append]; omega
      · intro y hy
        rcases List.mem_append.mp hy with hy | hy
        · exact List.mem_append_left _ (w3 y hy)
        · exact List.mem_append_right _ hy
      · intro y hy
        rcases List.mem_append.mp hy with hy | hy
        · exact (w4 y hy).imp id fun z => List.mem_append_left _ z
        · exact .inr (List.mem_append_right _ hy)
  · rintro s ⟨fo', wa', s4', rfl, f4', h', hl, hl2, w1, w2, w3, w4⟩
    exact ⟨fo', wa', s4', rfl, f4', h', by omega, hl, w1, w2, fun y hy => w3 y ((sortU_mem _ _).mpr (lates_mem.mpr hy)), w4⟩
theorem behind_ok (hP : P "straight_behind" = some T_straight_behind) (hB : P "behind" = some T_behind) {n w : Int} {ws : List (Int × Int)} (hw : ws.length < 60) : cl P (k + 1) "behind" [wkD n ws, .int w] = .ok (.list ((behL ws w).map .int), []) := by
  obtain ⟨o, ho, fo, s4, rfl, hI, hc⟩ := while_inv (G := prog P (k + 1)) (rm := 0) (c := .cmp .Gt (.b1 .len (.v 3)) (.c (.int 0))) (b := B2_behind)
    (r := [.fz (wkD n ws), .fz (.int w), .ow 1 (.list []), .ow 1 (.list [.int w]), .no])
    (Q := fun o => ∃ (fo : List Int) (s4 : Sl), o = .nx [.fz (wkD n ws), .fz (.int w), .ow 1 (.list (fo.map .int)), .ow 1 (.list []), s4] ∧ BInv ws w fo [] ∧ ∀ x, x = w ∨ x ∈ fo → ∀ y, (x, y) ∈ ws → y ∈ fo)
    (fun s => ∃ (fo wa : List Int) (s4 : Sl), s = [.fz (wkD n ws), .fz (.int w), .ow 1 (.list (fo.map .int)), .ow 1 (.list (wa.map .int)), s4] ∧ free1 s4 ∧ BInv ws w fo wa ∧ wa.length ≤ fo.length + 1 ∧ ∀ x, x = w ∨ x ∈ fo → x ∈ wa ∨ ∀ y, (x, y) ∈ ws → y ∈ fo)
    (fun s => match s with | [_, _, .ow _ (.list fo), .ow _ (.list wa), _] => 2 * ws.length + wa.length - 2 * fo.length | _ => 0)
    ⟨[], [w], .no, rfl, trivial, ⟨List.nodup_nil, fun _ h => (by cases h), fun x hx => .inl (List.mem_singleton.mp hx)⟩, by simp, fun x hx => .inl (by rcases hx with rfl | hx; exact List.mem_singleton.mpr rfl; cases hx)⟩
    (by show 2 * ws.length + 1 - 0 < fuel; unfold fuel; omega)
    (by
      rintro s ⟨fo, wa, s4, rfl, f4, h, hl, hc⟩
      have hlf := h.len
      rcases List.eq_nil_or_concat wa with rfl | ⟨wa, x, rfl⟩
      · refine ⟨false, _, by walk_at "go", fo, s4, rfl, h, fun x hx => ?_⟩
        exact (hc x hx).resolve_left (by simp)
      · have hx := h.wt x (by simp)
        rw [List.concat_eq_append] at *
        have hwl : wa.length < 1000 := by rw [List.length_append] at hl; simp only [List.length_cons, List.length_nil] at hl; omega
        obtain ⟨o, ho, fo', wa', s4', rfl, f4', h', m1, m2, w1, w2, w3, w4⟩ := behind_row (k := k) hP (n := n) hw f4 h hx hwl
        have hlf' := h'.len
        refine ⟨true, _, by walk_at "go", _, ho, ⟨fo', wa', s4', rfl, f4', h', ?_, ?_⟩, ?_⟩
        · rw [List.length_append] at hl
          simp only [List.length_cons, List.length_nil] at hl
          omega
        · intro z hz
          have key : ∀ z, z = w ∨ z ∈ fo → z ∈ wa' ∨ ∀ y, (z, y) ∈ ws → y ∈ fo' := fun z hz => by
            rcases hc z hz with q | q
            · rcases List.mem_append.mp q with q | q
              · exact .inl (w1 z q)
              · rw [List.mem_singleton.mp q]; exact .inr w3
            · exact .inr fun y hy => w2 y (q y hy)
          rcases hz with hz | hz
          · exact key z (.inl hz)
          · rcases w4 z hz with q | q
            · exact key z (.inr q)
            · exact .inl q
        · show 2 * ws.length + (wa'.map PyData.int).length - 2 * (fo'.map PyData.int).length < 2 * ws.length + ((wa ++ [x]).map PyData.int).length - 2 * (fo.map PyData.int).length
          simp only [List.length_map, List.length_append, List.length_cons, List.length_nil]
          omega)
  have hb : isrt fo = behL ws w := by
    refine asc_same (isrt_lt hI.nd) (behL_asc ws w) fun x => ?_
    rw [(isrt_perm fo).mem_iff, behL_mem]
    refine ⟨hI.sub x, fun hr => ?_⟩
    induction hr with
    | one h1 => exact hc w (.inl rfl) _ h1
    | more _ h1 ih => exact hc _ (.inr ih) _ h1
  have hs := b1_sorted (o := false) (n := 1) (ns := fo) rfl
  rw [hb] at hs
  rw [cl_eq hB]
  simp only [T_behind]
  walk_at "go"
noncomputable def tabD (n : Nat) (ws : List (Int × Int)) : List D := (List.range n).map fun (w : Nat) => .list ((behL ws (w : Int)).map .int)
theorem rngU0 {n : Nat} : rngU 0 (n : Int) = (List.range n).map fun (k : Nat) => PyData.int (k : Int) := rng0_at
theorem table_ok (hP : P "straight_behind" = some T_straight_behind) (hB : P "behind" = some T_behind) (hT : P "table" = some T_table) {n : Nat} (hn : n < 100000) {ws : List (Int × Int)} (hw : ws.length < 60) : cl P (k + 2) "table" [wkD n ws] = .ok (.list (tabD n ws), []) := by
  have c1 := @s_call2 (sg := ⟨[.fz, .fz], 0⟩) (h := hB) (hs := rfl)
  have hbn : bnd (n : Int) = true := bnd_nat (by omega)
  have hm : mapL (turnF (prog P (k + 2)) 1 0 (.call "behind" (.cons (.v 0) (.cons (.v 1) .nil))) (.nm 1) (.c (.bool true)) [1]) (rngU 0 n) [.fz (wkD n ws), .no] = .ok (tabD n ws, [.fz (wkD n ws), .no]) := by
    rw [mapL_map (g := fun d => match d with | .int a => some (.list ((behL ws a).map .int)) | _ => none) (fun d hd => ?_)]
    · refine congrArg (fun l => Except.ok (l, [Sl.fz (wkD n ws), Sl.no])) ?_
      rw [rngU0, List.filterMap_map]
      unfold tabD
      rw [show (List.range n).map (fun (w : Nat) => PyData.list ((behL ws (w : Int)).map .int)) = (List.range n).filterMap (some ∘ fun (w : Nat) => PyData.list ((behL ws (w : Int)).map .int)) from (congrFun (List.filterMap_eq_map (f := fun (w : Nat) => PyData.list ((behL ws (w : Int)).map .int))) _).symm]
      rfl
    · rw [rngU0] at hd
      obtain ⟨j, hj, rfl⟩ := List.mem_map.mp hd
      have hb := behind_ok (k := k) hP hB (n := n) (w := j) hw
      rw [s_turn]
      walk_at "go"
  have hl : (tabD n ws).length < lim := by unfold tabD lim; rw [List.length_map, List.length_range]; omega
  have hi : evI (prog P (k + 2)) (.rng (.c (.int 0)) (.ix (.v 0) (.c (.int 0)))) [.fz (wkD n ws), .no] = .ok ((0, rngU 0 n), [.fz (wkD n ws), .no]) := by
    simp only [wkD]
    walk_at "go"
  rw [cl_eq hT]
  simp only [T_table]
  walk_at "go"
end
end VL
/-! works: as the laws draw them -/
namespace VL
open PySem
local macro_rules | `(tactic| walk_at "go") => `(tactic| simp [s_c, s_v, s_bin, s_cmp, s_ix, s_un, s_not, s_tand, s_tor, s_vand, s_vor, s_ife, s_chn, s_nil, s_cons, s_tup, s_lst, s_sl, s_b1, s_b2, s_isi, s_m1, s_it, s_rng, s_rngd, s_rrng, s_enum, s_zip, s_rev, s_lst1, s_tup1, s_comp, s_ags0, s_ags, s_pop, s_app, s_ext, x_set, x_nop, x_brk, x_cont, x_seq, x_if, x_ret, x_drop, x_sets, x_aug, x_par, setT_nm, setT_tup, bindT_nm, bindT_tup, bindTs_cons, bindTs_nil, wipeS, backS, lockE, unl_eq, stF, stores, tgHas, *])

theorem perm_map {A B : Type} {f : A → B} : ∀ {ys : List B} {xs : List A}, ys.Perm (xs.map f) → ∃ zs : List A, ys = zs.map f ∧ zs.Perm xs := by
  intro ys xs h
  have h' := h.symm
  clear h
  generalize e : xs.map f = ms at h'
  induction h' generalizing xs with
  | nil => exact ⟨[], rfl, by rw [List.map_eq_nil_iff.mp e]⟩
  | cons x _ ih =>
    cases xs with
    | nil => cases e
    | cons a xs =>
      injection e with e1 e2
      obtain ⟨zs, h1, h2⟩ := ih e2
      exact ⟨a :: zs, by rw [List.map_cons, e1, h1], h2.cons a⟩
  | swap x y l =>
    cases xs with
    | nil => cases e
    | cons a xs => cases xs with
      | nil => cases e
      | cons b xs =>
        injection e with e1 e2
        injection e2 with e2 e3
        exact ⟨b :: a :: xs, by rw [List.map_cons, List.map_cons, e1, e2, e3], List.Perm.swap _ _ _⟩
  | trans _ _ ih1 ih2 =>
    obtain ⟨zs, h1, h2⟩ := ih1 e
    obtain ⟨us, h3, h4⟩ := ih2 h1.symm
    exact ⟨us, h3, h4.trans h2⟩
/-- works that can be done: waits of works that there are, each once, from earlier to later -/
structure WOk (n : Nat) (ws : List (Int × Int)) : Prop where
  rng : ∀ p ∈ ws, (0 ≤ p.1 ∧ p.1 < n) ∧ (0 ≤ p.2 ∧ p.2 < n)
  rank : ∃ r : Int → Nat, (∀ p ∈ ws, r p.1 < r p.2) ∧ ∀ x : Int, 0 ≤ x → x < n → r x < n
  nd : ws.Nodup
  len : 2 * ws.length ≤ n * (n - 1)
theorem WOk.perm {n : Nat} {ws vs : List (Int × Int)} (h : WOk n ws) (p : vs.Perm ws) : WOk n vs where
  rng := fun q hq => h.rng q (p.mem_iff.mp hq)
  rank := by
    obtain ⟨r, h1, h2⟩ := h.rank
    exact ⟨r, fun q hq => h1 q (p.mem_iff.mp hq), h2⟩
  nd := p.nodup_iff.mpr h.nd
  len := by rw [p.length_eq]; exact h.len
/-- a drawn order of n works -/
structure NmOk (n : Nat) (nm : List Int) : Prop where
  len : nm.length = n
  nd : nm.Nodup
  mem : ∀ x, x ∈ nm ↔ 0 ≤ x ∧ x < n
theorem nm_of_perm {n : Nat} {ys : List D} (h : ys.Perm (rngU 0 n)) : ∃ nm : List Int, ys = nm.map .int ∧ NmOk n nm := by
  rw [rngU0] at h
  have e : (List.range n).map (fun (k : Nat) => PyData.int (k : Int)) = ((List.range n).map fun (k : Nat) => (k : Int)).map PyData.int := by rw [List.map_map]; rfl
  rw [e] at h
  obtain ⟨nm, h1, h2⟩ := perm_map h
  refine ⟨nm, h1, by rw [h2.length_eq, List.length_map, List.length_range], h2.nodup_iff.mpr ?_, fun x => ?_⟩
  · rw [List.nodup_iff_pairwise_ne, List.pairwise_map]
    exact List.nodup_range.imp fun h z => h (by omega)
  · rw [h2.mem_iff]
    simp only [List.mem_map, List.mem_range]
    constructor
    · rintro ⟨a, ha, rfl⟩; omega
    · exact fun h => ⟨x.toNat, by omega, by omega⟩
/-- the waits drawn so far: late works below l all, those of l below e -/
structure DrOk (nm : List Int) (l e : Nat) (ws : List (Int × Int)) : Prop where
  from_ : ∀ p ∈ ws, ∃ i j, i < j ∧ (j < l ∨ (j = l ∧ i < e)) ∧ nm[i]? = some p.1 ∧ nm[j]? = some p.2
  nd : ws.Nodup
  len : 2 * ws.length ≤ l * (l - 1) + 2 * e
theorem DrOk.start {nm : List Int} : DrOk nm 0 0 [] := ⟨fun _ h => (by cases h), List.nodup_nil, by simp⟩
theorem nm_inj {n : Nat} {nm : List Int} (h : NmOk n nm) {i j : Nat} {x : Int} (hi : nm[i]? = some x) (hj : nm[j]? = some x) : i = j := by
  obtain ⟨h1, e1⟩ := List.getElem?_eq_some_iff.mp hi
  obtain ⟨h2, e2⟩ := List.getElem?_eq_some_iff.mp hj
  have hp := List.pairwise_iff_getElem.mp (List.nodup_iff_pairwise_ne.mp h.nd)
  rcases Nat.lt_trichotomy i j with c | c | c
  · exact absurd (e1.trans e2.symm) (hp i j h1 h2 c)
  · exact c
  · exact absurd (e2.trans e1.symm) (hp j i h2 h1 c)
theorem DrOk.skip {nm : List Int} {l e : Nat} {ws : List (Int × Int)} (h : DrOk nm l e ws) : DrOk nm l (e + 1) ws :=
  ⟨fun p hp => by
    obtain ⟨i, j, h1, h2, h3⟩ := h.from_ p hp
    exact ⟨i, j, h1, by omega, h3⟩, h.nd, by have := h.len; omega⟩
theorem DrOk.put {n : Nat} {nm : List Int} (hn : NmOk n nm) {l e : Nat} {ws : List (Int × Int)} (h : DrOk nm l e ws) {a b : Int} (ha : nm[e]? = some a) (hb : nm[l]? = some b) (hl : e < l) : DrOk nm l (e + 1) (ws ++ [(a, b)]) := by
  refine ⟨fun p hp => ?_, ?_, ?_⟩
  · rcases List.mem_append.mp hp with hp | hp
    · obtain ⟨i, j, h1, h2, h3⟩ := h.from_ p hp
      exact ⟨i, j, h1, by omega, h3⟩
    · rw [List.mem_singleton.mp hp]
      exact ⟨e, l, hl, .inr ⟨rfl, by omega⟩, ha, hb⟩
  · rw [List.nodup_append]
    refine ⟨h.nd, by simp, fun p hp q hq => ?_⟩
    rw [List.mem_singleton.mp hq]
    rintro rfl
    obtain ⟨i, j, h1, h2, h3, h4⟩ := h.from_ _ hp
    have e1 := nm_inj hn h3 ha
    have e2 := nm_inj hn h4 hb
    omega
  · rw [List.length_append]
    have := h.len
    simp only [List.length_cons, List.length_nil]
    omega
theorem DrOk.next {nm : List Int} {l : Nat} {ws : List (Int × Int)} (h : DrOk nm l l ws) : DrOk nm (l + 1) 0 ws :=
  ⟨fun p hp => by
    obtain ⟨i, j, h1, h2, h3⟩ := h.from_ p hp
    exact ⟨i, j, h1, by omega, h3⟩, h.nd, by
    have := h.len
    cases l with
    | zero => omega
    | succ l =>
      have e : (l + 1 + 1) * (l + 1 + 1 - 1) = (l + 1) * (l + 1 - 1) + 2 * (l + 1) := by
        simp only [Nat.add_sub_cancel]
        rw [Nat.mul_comm (l + 1 + 1) (l + 1), show l + 1 + 1 = l + 2 from rfl, Nat.mul_add, Nat.mul_comm (l + 1) 2]
      omega⟩
theorem DrOk.ok {n : Nat} {nm : List Int} (hn : NmOk n nm) {ws : List (Int × Int)} (h : DrOk nm n 0 ws) : WOk n ws where
  rng := fun p hp => by
    obtain ⟨i, j, _, _, h3, h4⟩ := h.from_ p hp
    exact ⟨(hn.mem _).mp (List.mem_of_getElem? h3), (hn.mem _).mp (List.mem_of_getElem? h4)⟩
  rank := by
    refine ⟨fun x => nm.idxOf x, fun p hp => ?_, fun x h0 h1 => ?_⟩
    · obtain ⟨i, j, h1, _, h3, h4⟩ := h.from_ p hp
      have key : ∀ {k : Nat} {x : Int}, nm[k]? = some x → nm.idxOf x = k := fun {k x} hk => by
        have hm := List.mem_of_getElem? hk
        have hlt := List.idxOf_lt_length_iff.mpr hm
        exact nm_inj hn (by rw [List.getElem?_eq_getElem hlt, List.getElem_idxOf hlt]) hk
      show nm.idxOf p.1 < nm.idxOf p.2
      rw [key h3, key h4]
      exact h1
    · have := List.idxOf_lt_length_iff.mpr ((hn.mem x).mpr ⟨h0, h1⟩)
      rw [hn.len] at this
      exact this
  nd := h.nd
  len := by have := h.len; omega
section
variable {P : Str → Option Fn} {k : Nat}
/-- the laws' defs that draw works -/
structure HasMixB (P : Str → Option Fn) : Prop extends HasDraw P where
  pick : P "_law_pick" = some T_pickB
  mixed : P "_law_mixed" = some T_mixedB
theorem nm_at {n : Nat} {nm : List Int} (h : NmOk n nm) {i : Nat} (hi : i < n) : ∃ a, nm[i]? = some a ∧ L2.atI (nm.map PyData.int) (i : Int) = some (.int a) := by
  have hl : i < nm.length := by rw [h.len]; exact hi
  refine ⟨nm[i], List.getElem?_eq_getElem hl, ?_⟩
  rw [atI_nat, List.getElem?_map, List.getElem?_eq_getElem hl]
  rfl
theorem worksC_row (hB : HasMixB P) {n l : Nat} {nm : List Int} (hn : NmOk n nm) (hl : l < n) (hn2 : n < 100) {b : D} (hb : IsBox b) {ws : List (Int × Int)} (h : DrOk nm l 0 ws) {th : Int} {s1 s7 : Sl} (f7 : free1 s7) :
    ∃ o, VL.exec (prog P (k + 2)) 0 B2_worksC [.mt 1 b, s1, .fz (.int n), .fz (.list (nm.map .int)), .fz (.int th), .ow 1 (.list (ws.map prD)), .fz (.int l), s7] = .ok o ∧
      ∃ (b' : D) (ws' : List (Int × Int)) (s7' : Sl), o = .nx [.mt 1 b', s1, .fz (.int n), .fz (.list (nm.map .int)), .fz (.int th), .ow 1 (.list (ws'.map prD)), .fz (.int l), s7'] ∧ IsBox b' ∧ DrOk nm l l ws' ∧ free1 s7' := by
  have c1 := @s_call2 (sg := ⟨[.mt 1, .fz], 0⟩) (h := hB.draw) (hs := rfl)
  have c2 := @pX_call2 (sg := ⟨[.mt 1, .fz], 0⟩) (h := hB.draw) (hs := rfl)
  have hbn : bnd (l : Int) = true := bnd_nat (by omega)
  unfold B2_worksC
  refine for_rng (lo := 0) (hi := l) (r0 := [.mt 1 b, s1, .fz (.int n), .fz (.list (nm.map .int)), .fz (.int th), .ow 1 (.list (ws.map prD)), .fz (.int l), s7]) (by walk_at "go")
    (fun e s => ∃ (b' : D) (ws' : List (Int × Int)) (s7' : Sl), s = [.mt 1 b', s1, .fz (.int n), .fz (.list (nm.map .int)), .fz (.int th), .ow 1 (.list (ws'.map prD)), .fz (.int l), s7'] ∧ IsBox b' ∧ DrOk nm l e ws' ∧ free1 s7') ⟨b, ws, s7, rfl, hb, h, f7⟩ ?_ ?_
  · rintro e s he ⟨b1, ws1, t7, rfl, hb1, h1, g7⟩
    have he' : e < l := by omega
    have p7 := fun i s r => put1_free (i := i) (s := s) (r := r) g7
    obtain ⟨v, b2, hv, _, _, hb2⟩ := draw_ok (k := k + 1) hB.draw hb1 (m := 10) (by omega)
    obtain ⟨x, hx, hx2⟩ := nm_at hn (show e < n by omega)
    obtain ⟨y, hy, hy2⟩ := nm_at hn hl
    have hlen := h1.len
    have hwl : ws1.length < 1000000 := by
      have : l * (l - 1) ≤ 100 * 100 := Nat.mul_le_mul (by omega) (by omega)
      omega
    by_cases hc : v < th
    · refine ⟨.nx [.mt 1 b2, s1, .fz (.int n), .fz (.list (nm.map .int)), .fz (.int th), .ow 1 (.list ((ws1 ++ [(x, y)]).map prD)), .fz (.int l), .fz (.int (0 + e))], ?_, b2, ws1 ++ [(x, y)], _, rfl, hb2, h1.put hn hx hy he', trivial⟩
      rw [x_body, B1_worksC, List.map_append]
      simp only [List.map_cons, List.map_nil]
      simp only [prD]
      walk_at "go"
    · refine ⟨.nx [.mt 1 b2, s1, .fz (.int n), .fz (.list (nm.map .int)), .fz (.int th), .ow 1 (.list (ws1.map prD)), .fz (.int l), .fz (.int (0 + e))], ?_, b2, ws1, _, rfl, hb2, h1.skip, trivial⟩
      rw [x_body, B1_worksC]
      walk_at "go"
  · rintro s ⟨b1, ws1, t7, rfl, hb1, h1, g7⟩
    refine ⟨b1, ws1, t7, rfl, hb1, ?_, g7⟩
    have e : ((l : Int) - 0).toNat = l := by omega
    rwa [e] at h1
theorem worksC_ok (hB : HasMixB P) (hP : P "_law_works" = some T_worksC) {b : D} (hb : IsBox b) {most : Nat} (hm : 0 < most) (hm2 : most < 100) : ∃ (n : Nat) (ws : List (Int × Int)) (b' : D), cl P (k + 2) "_law_works" [b, .int most] = .ok (wkD n ws, [b']) ∧ 1 ≤ n ∧ n ≤ most ∧ WOk n ws ∧ IsBox b' := by
  have c1 := @s_call2 (sg := ⟨[.mt 1, .fz], 0⟩) (h := hB.draw) (hs := rfl)
  have c2 := @pX_call2 (sg := ⟨[.mt 1, .fz], 0⟩) (h := hB.draw) (hs := rfl)
  have c3 := @s_call2 (sg := ⟨[.mt 1, .fz], 0⟩) (h := hB.pick) (hs := rfl)
  have c5 := @s_call2 (sg := ⟨[.mt 1, .fz], 0⟩) (h := hB.mixed) (hs := rfl)
  obtain ⟨v, b1, h1, h1a, h1b, hb1⟩ := draw_ok (k := k + 1) hB.draw hb (m := most) (by omega)
  obtain ⟨n, hn⟩ : ∃ n : Nat, 1 + v = n := ⟨(1 + v).toNat, by omega⟩
  have hbn : bnd (n : Int) = true := bnd_nat (by omega)
  have hln : (rngU 0 (n : Int)).length = n := by rw [rngU_len]; omega
  obtain ⟨ys, b2, h2, hp2, hb2⟩ := mixedB_ok (k := k) hB.toHasDraw hB.mixed hb1 (xs := rngU 0 (n : Int)) (by omega)
  obtain ⟨nm, rfl, hnm⟩ := nm_of_perm hp2
  obtain ⟨th, b3, h3, hm3, hb3⟩ := pickB_ok (k := k) hB.toHasDraw hB.pick hb2 (xs := [.int 0, .int 1, .int 2, .int 3, .int 5, .int 8]) (by simp)
  obtain ⟨th, rfl⟩ : ∃ i, th = .int i := by
    simp only [List.mem_cons, List.not_mem_nil, or_false] at hm3
    rcases hm3 with rfl | rfl | rfl | rfl | rfl | rfl <;> exact ⟨_, rfl⟩
  obtain ⟨o, ho, b4, ws, s6, s7, rfl, hb4, hd⟩ := for_rng (G := prog P (k + 2)) (rm := 0) (t := .nm 6) (lo := 0) (hi := n) (a := .c (.int 0)) (c := .v 2) (b := B2_worksC)
    (r := [.mt 1 b3, .fz (.int most), .fz (.int n), .fz (.list (nm.map .int)), .fz (.int th), .ow 1 (.list []), .no, .no]) (r0 := [.mt 1 b3, .fz (.int most), .fz (.int n), .fz (.list (nm.map .int)), .fz (.int th), .ow 1 (.list []), .no, .no])
    (Q := fun o => ∃ (b4 : D) (ws : List (Int × Int)) (s6 s7 : Sl), o = .nx [.mt 1 b4, .fz (.int most), .fz (.int n), .fz (.list (nm.map .int)), .fz (.int th), .ow 1 (.list (ws.map prD)), s6, s7] ∧ IsBox b4 ∧ DrOk nm n 0 ws) (by walk_at "go")
    (fun l s => ∃ (b4 : D) (ws : List (Int × Int)) (s6 s7 : Sl), s = [.mt 1 b4, .fz (.int most), .fz (.int n), .fz (.list (nm.map .int)), .fz (.int th), .ow 1 (.list (ws.map prD)), s6, s7] ∧ IsBox b4 ∧ DrOk nm l 0 ws ∧ free1 s6 ∧ free1 s7)
    ⟨b3, [], .no, .no, rfl, hb3, .start, trivial, trivial⟩
    (by
      rintro l s hl ⟨b4, ws, s6, s7, rfl, hb4, hd, f6, f7⟩
      have p6 := fun i s r => put1_free (i := i) (s := s) (r := r) f6
      have hl' : l < n := by omega
      obtain ⟨o, ho, b5, ws5, t7, rfl, hb5, hd5, g7⟩ := worksC_row (k := k) hB hnm hl' (by omega) hb4 hd (th := th) (s1 := .fz (.int most)) f7
      refine ⟨.nx _, ?_, b5, ws5, .fz (.int l), t7, rfl, hb5, hd5.next, trivial, g7⟩
      rw [x_body]
      walk_at "go")
    (by
      rintro s ⟨b4, ws, s6, s7, rfl, hb4, hd, _⟩
      have e : ((n : Int) - 0).toNat = n := by omega
      rw [e] at hd
      exact ⟨b4, ws, s6, s7, rfl, hb4, hd⟩)
  have hwok := hd.ok hnm
  have hwl : ws.length < 1000000 := by
    have := hwok.len
    have : n * (n - 1) ≤ 100 * 100 := Nat.mul_le_mul (by omega) (by omega)
    omega
  obtain ⟨zs, b6, h6, hp6, hb6⟩ := mixedB_ok (k := k) hB.toHasDraw hB.mixed hb4 (xs := ws.map prD) (by rw [List.length_map]; exact hwl)
  obtain ⟨ws', rfl, hpw⟩ := perm_map hp6
  refine ⟨n, ws', b6, ?_, by omega, by omega, hwok.perm hpw, hb6⟩
  have hln2 : n ≤ 1000000 := by omega
  rw [cl_eq hP]
  simp only [T_worksC, wkD]
  walk_at "go"
end
end VL
/-! lemmas that more than one law uses (k47 has its own copies) -/
namespace VL
open PySem
section
variable {P : Str → Option Fn} {k : Nat}
def at_ (f : List Int) (v : Int) : Int := f[v.toNat]?.getD 0
theorem at_set {f : List Int} {a v x : Int} (ha : 0 ≤ a ∧ a < f.length) (hv : 0 ≤ v) : at_ (f.set a.toNat x) v = if v = a then x else at_ f v := by
  unfold at_
  by_cases e : v = a
  · subst e
    rw [if_pos rfl, List.getElem?_set_self (by omega)]
    rfl
  · rw [if_neg e, List.getElem?_set_ne (by omega)]
theorem atI_at {f : List Int} {a : Int} (h : 0 ≤ a ∧ a < f.length) : L2.atI (f.map PyData.int) a = some (.int (at_ f a)) := by
  obtain ⟨q, rfl⟩ : ∃ q : Nat, a = q := ⟨a.toNat, by omega⟩
  have hq : q < f.length := by omega
  rw [atI_nat]
  unfold at_
  rw [Int.toNat_natCast, List.getElem?_map, List.getElem?_eq_getElem hq]
  rfl
theorem ixN_at {n : Nat} {a : Int} (h : 0 ≤ a ∧ a < n) : L2.ixN n a = some a.toNat := by
  obtain ⟨q, rfl⟩ : ∃ q : Nat, a = q := ⟨a.toNat, by omega⟩
  rw [ixN_nat, if_pos (by omega)]
  rfl
theorem min_if {x y : Int} : (if y < x then y else x) = min x y := by
  rw [Int.min_def]
  split <;> split <;> omega
theorem listMax_some {ns : List Int} (h : ns ≠ []) : listMax ns = some ((listMax ns).getD 0) := by
  cases ns with
  | nil => exact absurd rfl h
  | cons a r => rfl
theorem sortU_nodup (ns : List Int) : (sortU ns).length = ns.length ↔ ns.Nodup := by
  constructor
  · refine snocRec (P := fun ns => (sortU ns).length = ns.length → ns.Nodup) (fun _ => List.nodup_nil) (fun l a ih h => ?_) ns
    rw [sortU_snoc, insU_len (sortU_asc l), List.length_append] at h
    have hl := sortU_le l
    simp only [List.length_cons, List.length_nil] at h
    by_cases hm : a ∈ sortU l
    · rw [if_pos hm] at h; omega
    · rw [if_neg hm] at h
      rw [List.nodup_append]
      refine ⟨ih (by omega), by simp, fun x hx y hy => ?_⟩
      rw [List.mem_singleton.mp hy]
      rintro rfl
      exact hm ((sortU_mem l x).mpr hx)
  · refine snocRec (P := fun ns => ns.Nodup → (sortU ns).length = ns.length) (fun _ => rfl) (fun l a ih h => ?_) ns
    rw [List.nodup_append] at h
    rw [sortU_snoc, insU_len (sortU_asc l), List.length_append]
    have hm : a ∉ sortU l := fun z => h.2.2 a ((sortU_mem l a).mp z) a (List.mem_singleton.mpr rfl) rfl
    rw [if_neg hm, ih h.1]
    rfl
theorem count_ints {ns : List Int} {i : Int} : m1D .count (.list (ns.map .int)) (.int i) = .ok (.int (ns.count i)) := by
  simp only [m1D]
  rw [Tame.okDs (n := 0) Tame.ints (by decide), Tame.okD (n := 0) .int (by decide)]
  simp only [Bool.and_self, if_true]
  congr 3
  rw [List.countP_map]
  unfold List.count
  refine List.countP_congr fun x _ => ?_
  simp only [Function.comp_apply, eqv_iff (.int x) (.int i) rfl rfl, PyData.int.injEq, beq_iff_eq]
theorem filterMap_some {A B : Type} {f : A → B} {xs : List A} : xs.filterMap (fun x => some (f x)) = xs.map f := by
  induction xs with
  | nil => rfl
  | cons x xs ih => rw [List.filterMap_cons, ih]; rfl
theorem mapL_enc {A : Type} {enc : A → D} {f : D → Env → R (Option D × Env)} {g : A → Option D} {r : Env} {xs : List A} (h : ∀ x ∈ xs, f (enc x) r = .ok (g x, r)) : mapL f (xs.map enc) r = .ok (xs.filterMap g, r) := by
  induction xs with
  | nil => rfl
  | cons x xs ih =>
    rw [List.map_cons]
    unfold mapL
    rw [h x List.mem_cons_self, ok_bind]
    dsimp only
    rw [ih fun y hy => h y (List.mem_cons_of_mem _ hy), ok_bind, List.filterMap_cons]
    cases g x <;> rfl
theorem mapL_all {A : Type} {enc : A → D} {f : D → Env → R (Option D × Env)} {g : A → D} {r : Env} {xs : List A} (h : ∀ x ∈ xs, f (enc x) r = .ok (some (g x), r)) : mapL f (xs.map enc) r = .ok (xs.map g, r) := by
  rw [mapL_enc (g := fun x => some (g x)) h, filterMap_some]
@[simp] theorem lim_0 : 0 < lim := by unfold lim; omega
theorem lenlim {n : Nat} (h : n ≤ 1000000) : n < lim := by unfold lim; omega
theorem alike_pr {p q : Int × Int} : W.alike (prD p) (prD q) = true := by simp [prD, W.alike, W.alikeAll]
theorem sortable_prs (ps : List (Int × Int)) : sortable (ps.map prD) = true := by
  unfold sortable
  simp only [Bool.and_eq_true, Bool.or_eq_true, List.all_eq_true, List.mem_map]
  refine ⟨⟨?_, ?_⟩, .inl ?_⟩
  · rintro _ ⟨i, _, rfl⟩ _ ⟨j, _, rfl⟩; exact alike_pr
  · rintro _ ⟨i, _, rfl⟩; exact Tame.okD (n := 1) .pair (by decide)
  · rintro _ ⟨i, _, rfl⟩; rfl
theorem sorted_prs (ps : List (Int × Int)) : ∃ qs : List (Int × Int), b1D .sorted ⟨true, 1, .list (ps.map prD)⟩ = .ok ⟨true, 1, .list (qs.map prD)⟩ ∧ qs.Perm ps := by
  obtain ⟨qs, e, p⟩ := perm_map (f := prD) (ys := sortD false (ps.map prD)) (xs := ps) (List.mergeSort_perm _ _)
  refine ⟨qs, ?_, p⟩
  simp only [b1D]
  rw [sortable_prs, e]
  rfl
theorem mapL_box {f : D → Env → R (Option D × Env)} {E : D → Env} {φ : D → Prop} : ∀ {ds : List D} {b : D}, IsBox b → (∀ d ∈ ds, ∀ b, IsBox b → ∃ x b', f d (E b) = .ok (some x, E b') ∧ IsBox b' ∧ φ x) →
    ∃ xs b', mapL f ds (E b) = .ok (xs, E b') ∧ IsBox b' ∧ xs.length = ds.length ∧ ∀ x ∈ xs, φ x
  | [], b, hb, _ => ⟨[], b, rfl, hb, rfl, fun _ h => by cases h⟩
  | d :: ds, b, hb, h => by
    obtain ⟨x, b1, e1, hb1, hx⟩ := h d List.mem_cons_self b hb
    obtain ⟨xs, b2, e2, hb2, hl, hxs⟩ := mapL_box (ds := ds) hb1 fun e he => h e (List.mem_cons_of_mem _ he)
    refine ⟨x :: xs, b2, ?_, hb2, by simp [hl], fun y hy => ?_⟩
    · unfold mapL
      rw [e1, ok_bind]
      dsimp only
      rw [e2, ok_bind]
      rfl
    · rcases List.mem_cons.mp hy with rfl | hy
      · exact hx
      · exact hxs y hy
theorem ints_of_all : ∀ {xs : List D}, (∀ x ∈ xs, ∃ i : Int, x = .int i) → ∃ ns : List Int, xs = ns.map .int
  | [], _ => ⟨[], rfl⟩
  | x :: xs, h => by
    obtain ⟨i, rfl⟩ := h x List.mem_cons_self
    obtain ⟨ns, rfl⟩ := ints_of_all fun y hy => h y (List.mem_cons_of_mem _ hy)
    exact ⟨i :: ns, rfl⟩
/-- a loop that asks each item and says no at the first that fails -/
theorem for_chk {G : Str → Option Fd} {rm : Nat} {r : Env} {A : Type} {enc : A → D} {xs : List A} {m : Nat} {t : Tg} {it : Ex} {b : Sm} {r0 : Env} (c : A → Bool) (I J : Env → Prop) (hr : (rootsX it).any (stF t b) = false) (he : evI G it (lockE (rootsX it) r) = .ok ((m, xs.map enc), r0)) (h0 : I r0)
    (hs : ∀ d ∈ xs, ∀ s, I s → ∃ s', I s' ∧ bodyF G rm m t b (enc d) s = .ok (if c d = true then .nx s' else .rt (.bool false) s')) (hu : ∀ s, I s → J (unl (rootsX it) (stF t b) r s)) :
    ∃ s', J s' ∧ VL.exec G rm (.for_ t it b) r = .ok (if xs.all c = true then .nx s' else .rt (.bool false) s') := by
  obtain ⟨o, ho, s', hj, rfl⟩ := for_lst (Q := fun o => ∃ s', J s' ∧ o = if xs.all c = true then .nx s' else .rt (.bool false) s') hr he (fun p s => p.all c = true ∧ I s) ⟨rfl, h0⟩ (fun p d q s e h => by
    obtain ⟨s', hi, eb⟩ := hs d (split_mem e) s h.2
    refine ⟨_, eb, ?_⟩
    cases hc : c d with
    | true =>
      simp only [if_true]
      exact ⟨by rw [List.all_append, h.1]; simp [hc], hi⟩
    | false =>
      simp only [Bool.false_eq_true, if_false]
      refine ⟨_, hu _ hi, ?_⟩
      have hf : xs.all c = false := by rw [e, List.all_append, List.all_cons, hc]; simp
      rw [hf]
      rfl) (fun s h => ⟨_, hu _ h.2, by rw [h.1]; rfl⟩)
  exact ⟨s', hj, ho⟩
end
end VL
/-! works: as the laws k21 to k40 draw them -/
namespace VL
open PySem
local macro_rules | `(tactic| walk_at "go") => `(tactic| simp [s_c, s_v, s_bin, s_cmp, s_ix, s_un, s_not, s_tand, s_tor, s_vand, s_vor, s_ife, s_chn, s_nil, s_cons, s_tup, s_lst, s_sl, s_b1, s_b2, s_isi, s_m1, s_it, s_rng, s_rngd, s_rrng, s_enum, s_zip, s_rev, s_lst1, s_tup1, s_comp, s_comp2, s_ags0, s_ags, s_pop, s_app, s_ins, s_ext, x_set, x_nop, x_brk, x_cont, x_seq, x_if, x_ret, x_drop, x_sets, x_aug, x_par, setT_nm, setT_tup, bindT_nm, bindT_tup, bindTs_cons, bindTs_nil, wipeS, backS, lockE, unl_eq, stF, stores, tgHas, *])
def Bk_worksB : Sm := (.ife (.tand (.cmp .Eq (.v 3) (.c (.int 0))) (.tand (.cmp .Gt (.v 1) (.c (.int 5))) (.tand (.cmp .Lt (.v 7) (.bin .Sub (.v 1) (.c (.int 3)))) (.cmp .Eq (.v 7) (.bin .Add (.v 9) (.c (.int 1)))))))
  (.set 0 (.nm 10) (.c (.bool true)))
  (.ife (.cmp .Eq (.v 3) (.c (.int 1)))
  (.set 0 (.nm 10) (.cmp .Eq (.v 9) (.bin .Sub (.v 8) (.c (.int 1)))))
  (.ife (.cmp .Eq (.v 3) (.c (.int 2)))
  (.set 0 (.nm 10) (.vand (.cmp .Lt (.v 9) (.v 5)) (.vand (.cmp .GtE (.v 7) (.v 5)) (.cmp .NotEq (.bin .Sub (.v 7) (.v 5)) (.v 9)))))
  (.ife (.cmp .Eq (.v 3) (.c (.int 3)))
  (.set 0 (.nm 10) (.vor (.cmp .Eq (.bin .Sub (.v 7) (.v 9)) (.c (.int 2))) (.vand (.v 10) (.cmp .Eq (.bin .Sub (.v 7) (.v 9)) (.c (.int 3))))))
  (.ife (.cmp .Eq (.v 3) (.c (.int 4)))
  (.set 0 (.nm 10) (.cmp .Lt (.bin .FloorDiv (.bin .Mult (.v 9) (.c (.int 3))) (.v 1)) (.bin .FloorDiv (.bin .Mult (.v 7) (.c (.int 3))) (.v 1))))
  .nop)))))
section
variable {P : Str → Option Fn} {k : Nat}
theorem worksB_kind {G : Str → Option Fd} {s0 s2 s4 s6 : Sl} {n kind half l up e : Nat} {fr : Bool} (hn : n < 100) (hn0 : 0 < n) (hk : kind < 5) (hh : half < 1000) (hl : l < 100) (hu : up < 1000) (he : e < 100) :
    ∃ β : Bool, VL.exec G 0 Bk_worksB [s0, .fz (.int n), s2, .fz (.int kind), s4, .fz (.int half), s6, .fz (.int l), .fz (.int up), .fz (.int e), .fz (.bool fr)] = .ok (.nx [s0, .fz (.int n), s2, .fz (.int kind), s4, .fz (.int half), s6, .fz (.int l), .fz (.int up), .fz (.int e), .fz (.bool β)]) := by
  rw [Bk_worksB]
  have hc : kind = 0 ∨ kind = 1 ∨ kind = 2 ∨ kind = 3 ∨ kind = 4 := by omega
  rcases hc with rfl | rfl | rfl | rfl | rfl
  · by_cases h1 : (5 : Int) < n
    · by_cases h2 : (l : Int) < n - 3
      · by_cases h3 : (l : Int) = e + 1
        · have h4 : (e : Int) + 1 < n - 3 := by omega
          exact ⟨true, by walk_at "go"⟩
        · exact ⟨fr, by walk_at "go"⟩
      · exact ⟨fr, by walk_at "go"⟩
    · exact ⟨fr, by walk_at "go"⟩
  · exact ⟨decide ((e : Int) = up - 1), by walk_at "go"⟩
  · by_cases h1 : (e : Int) < half
    · by_cases h2 : (half : Int) ≤ l
      · have h4 : ¬ (l < half) := by omega
        exact ⟨!decide ((l : Int) - half = e), by walk_at "go"⟩
      · have h4 : l < half := by omega
        exact ⟨false, by walk_at "go"⟩
    · exact ⟨false, by walk_at "go"⟩
  · by_cases h1 : (l : Int) - e = 2
    · exact ⟨true, by walk_at "go"⟩
    · cases fr with
      | true => exact ⟨decide ((l : Int) - e = 3), by walk_at "go"⟩
      | false => exact ⟨false, by walk_at "go"⟩
  · have q1 : smI (e : Int) = true := smI_of ⟨by omega, by omega⟩
    have q2 : smI (l : Int) = true := smI_of ⟨by omega, by omega⟩
    have q3 : smI (n : Int) = true := smI_of ⟨by omega, by omega⟩
    have q4 : smI 3 = true := by decide
    have q5 : ¬ (n = 0) := by omega
    have q8 : n < 1073741824 := by omega
    have q6 : smI ((e : Int) * 3) = true := smI_of ⟨by omega, by omega⟩
    have q7 : smI ((l : Int) * 3) = true := smI_of ⟨by omega, by omega⟩
    exact ⟨decide (((e : Int) * 3).fdiv n < ((l : Int) * 3).fdiv n), by walk_at "go"⟩
theorem worksB_up (hB : HasMixB P) {n l : Nat} (hn : n < 100) (hl : l < 100) {b : D} (hb : IsBox b) {s2 s3 s4 s5 s6 s8 s9 s10 : Sl} (f8 : free1 s8) :
    ∃ (up : Nat) (b' : D), VL.exec (prog P (k + 2)) 0 (.set 0 (.nm 8) (.b2 .max (.call "_law_draw" (.cons (.v 0) (.cons (.bin .Add (.v 7) (.c (.int 1))) .nil))) (.b2 .min (.v 7) (.b1 .int (.cmp .Gt (.v 1) (.c (.int 5))))))) [.mt 1 b, .fz (.int n), s2, s3, s4, s5, s6, .fz (.int l), s8, s9, s10] =
      .ok (.nx [.mt 1 b', .fz (.int n), s2, s3, s4, s5, s6, .fz (.int l), .fz (.int up), s9, s10]) ∧ up < 1000 ∧ IsBox b' := by
  have c1 := @s_call2 (sg := ⟨[.mt 1, .fz], 0⟩) (h := hB.draw) (hs := rfl)
  have c2 := @pX_call2 (sg := ⟨[.mt 1, .fz], 0⟩) (h := hB.draw) (hs := rfl)
  have p8 := fun i s r => put1_free (i := i) (s := s) (r := r) f8
  obtain ⟨v, b2, hv, v0, v1, hb2⟩ := draw_ok (k := k + 1) hB.draw hb (m := (l : Int) + 1) (by omega)
  obtain ⟨u, rfl⟩ : ∃ u : Nat, v = u := ⟨v.toNat, by omega⟩
  by_cases h1 : (5 : Int) < n
  · by_cases h2 : (1 : Int) < l
    · by_cases h3 : u < 1
      · exact ⟨1, b2, by (walk_at "go") <;> omega, by omega, hb2⟩
      · exact ⟨u, b2, by (walk_at "go") <;> omega, by omega, hb2⟩
    · by_cases h3 : u < l
      · exact ⟨l, b2, by (walk_at "go") <;> omega, by omega, hb2⟩
      · exact ⟨u, b2, by (walk_at "go") <;> omega, by omega, hb2⟩
  · by_cases h2 : 0 < l
    · exact ⟨u, b2, by (walk_at "go") <;> omega, by omega, hb2⟩
    · by_cases h3 : u < l
      · omega
      · exact ⟨u, b2, by (walk_at "go") <;> omega, by omega, hb2⟩
theorem worksB_step (hB : HasMixB P) {n l e kind half up : Nat} {nm : List Int} (hn : NmOk n nm) (hl : l < n) (hn2 : n < 100) (hk : kind < 5) (hh : half < 1000) (hu : up < 1000) (he : e < l) {b : D} (hb : IsBox b) {ws : List (Int × Int)} (h : DrOk nm l e ws) {th : Int} {s9 s10 : Sl} (f9 : free1 s9) (f10 : free1 s10) :
    ∃ (b' : D) (ws' : List (Int × Int)) (β : Bool), bodyF (prog P (k + 2)) 0 0 (.nm 9) B1_worksB (.int e) [.mt 1 b, .fz (.int n), .fz (.list (nm.map .int)), .fz (.int kind), .fz (.int th), .fz (.int half), .ow 1 (.list (ws.map prD)), .fz (.int l), .fz (.int up), s9, s10] =
      .ok (.nx [.mt 1 b', .fz (.int n), .fz (.list (nm.map .int)), .fz (.int kind), .fz (.int th), .fz (.int half), .ow 1 (.list (ws'.map prD)), .fz (.int l), .fz (.int up), .fz (.int e), .fz (.bool β)]) ∧ IsBox b' ∧ DrOk nm l (e + 1) ws' := by
  have c1 := @s_call2 (sg := ⟨[.mt 1, .fz], 0⟩) (h := hB.draw) (hs := rfl)
  have c2 := @pX_call2 (sg := ⟨[.mt 1, .fz], 0⟩) (h := hB.draw) (hs := rfl)
  have p9 := fun i s r => put1_free (i := i) (s := s) (r := r) f9
  have p10 := fun i s r => put1_free (i := i) (s := s) (r := r) f10
  obtain ⟨v, b2, hv, _, _, hb2⟩ := draw_ok (k := k + 1) hB.draw hb (m := 100) (by omega)
  obtain ⟨x, hx, hx2⟩ := nm_at hn (show e < n by omega)
  obtain ⟨y, hy, hy2⟩ := nm_at hn hl
  have hlen := h.len
  have hwl : ws.length < 1000000 := by
    have : l * (l - 1) ≤ 100 * 100 := Nat.mul_le_mul (by omega) (by omega)
    omega
  have e0 : bindT 0 (.nm 9) (.int e) [.mt 1 b, .fz (.int n), .fz (.list (nm.map .int)), .fz (.int kind), .fz (.int th), .fz (.int half), .ow 1 (.list (ws.map prD)), .fz (.int l), .fz (.int up), s9, s10] = .ok [.mt 1 b, .fz (.int n), .fz (.list (nm.map .int)), .fz (.int kind), .fz (.int th), .fz (.int half), .ow 1 (.list (ws.map prD)), .fz (.int l), .fz (.int up), .fz (.int e), s10] := by walk_at "go"
  have e1 : VL.exec (prog P (k + 2)) 0 (.set 0 (.nm 10) (.cmp .Lt (.call "_law_draw" (.cons (.v 0) (.cons (.c (.int 100)) .nil))) (.v 4))) [.mt 1 b, .fz (.int n), .fz (.list (nm.map .int)), .fz (.int kind), .fz (.int th), .fz (.int half), .ow 1 (.list (ws.map prD)), .fz (.int l), .fz (.int up), .fz (.int e), s10] =
      .ok (.nx [.mt 1 b2, .fz (.int n), .fz (.list (nm.map .int)), .fz (.int kind), .fz (.int th), .fz (.int half), .ow 1 (.list (ws.map prD)), .fz (.int l), .fz (.int up), .fz (.int e), .fz (.bool (decide (v < th)))]) := by walk_at "go"
  obtain ⟨β, e2⟩ := worksB_kind (G := prog P (k + 2)) (s0 := .mt 1 b2) (s2 := .fz (.list (nm.map .int))) (s4 := .fz (.int th)) (s6 := .ow 1 (.list (ws.map prD))) (fr := decide (v < th)) hn2 (by omega) hk hh (show l < 100 by omega) hu (show e < 100 by omega)
  rw [Bk_worksB] at e2
  rw [x_body, e0, bd1_ok, B1_worksB, x_seq, e1, sq1_nx, x_seq, e2, sq1_nx]
  cases β with
  | true =>
    refine ⟨b2, ws ++ [(x, y)], true, ?_, hb2, h.put hn hx hy he⟩
    rw [List.map_append]
    simp only [List.map_cons, List.map_nil]
    simp only [prD]
    walk_at "go"
  | false => exact ⟨b2, ws, false, by walk_at "go", hb2, h.skip⟩
theorem worksB_row (hB : HasMixB P) {n l kind half : Nat} {nm : List Int} (hn : NmOk n nm) (hl : l < n) (hn2 : n < 100) (hk : kind < 5) (hh : half < 1000) {b : D} (hb : IsBox b) {ws : List (Int × Int)} (h : DrOk nm l 0 ws) {th : Int} {s8 s9 s10 : Sl} (f8 : free1 s8) (f9 : free1 s9) (f10 : free1 s10) :
    ∃ (b' : D) (ws' : List (Int × Int)) (t8 t9 t10 : Sl), VL.exec (prog P (k + 2)) 0 B2_worksB [.mt 1 b, .fz (.int n), .fz (.list (nm.map .int)), .fz (.int kind), .fz (.int th), .fz (.int half), .ow 1 (.list (ws.map prD)), .fz (.int l), s8, s9, s10] =
      .ok (.nx [.mt 1 b', .fz (.int n), .fz (.list (nm.map .int)), .fz (.int kind), .fz (.int th), .fz (.int half), .ow 1 (.list (ws'.map prD)), .fz (.int l), t8, t9, t10]) ∧ IsBox b' ∧ DrOk nm l l ws' ∧ free1 t8 ∧ free1 t9 ∧ free1 t10 := by
  have hbn : bnd (l : Int) = true := bnd_nat (by omega)
  obtain ⟨up, b1, e1, hu, hb1⟩ := worksB_up (k := k) hB hn2 (show l < 100 by omega) hb (s2 := .fz (.list (nm.map .int))) (s3 := .fz (.int kind)) (s4 := .fz (.int th)) (s5 := .fz (.int half)) (s6 := .ow 1 (.list (ws.map prD))) (s9 := s9) (s10 := s10) f8
  rw [B2_worksB, x_seq, e1, sq1_nx]
  obtain ⟨o, ho, b', ws', t9, t10, rfl, h1, h2, g9, g10⟩ := for_rng (G := prog P (k + 2)) (rm := 0) (t := .nm 9) (lo := 0) (hi := l) (a := .c (.int 0)) (c := .v 7) (b := B1_worksB)
    (r := [.mt 1 b1, .fz (.int n), .fz (.list (nm.map .int)), .fz (.int kind), .fz (.int th), .fz (.int half), .ow 1 (.list (ws.map prD)), .fz (.int l), .fz (.int up), s9, s10]) (r0 := [.mt 1 b1, .fz (.int n), .fz (.list (nm.map .int)), .fz (.int kind), .fz (.int th), .fz (.int half), .ow 1 (.list (ws.map prD)), .fz (.int l), .fz (.int up), s9, s10])
    (Q := fun o => ∃ (b' : D) (ws' : List (Int × Int)) (t9 t10 : Sl), o = .nx [.mt 1 b', .fz (.int n), .fz (.list (nm.map .int)), .fz (.int kind), .fz (.int th), .fz (.int half), .ow 1 (.list (ws'.map prD)), .fz (.int l), .fz (.int up), t9, t10] ∧ IsBox b' ∧ DrOk nm l l ws' ∧ free1 t9 ∧ free1 t10) (by walk_at "go")
    (fun e s => ∃ (b' : D) (ws' : List (Int × Int)) (t9 t10 : Sl), s = [.mt 1 b', .fz (.int n), .fz (.list (nm.map .int)), .fz (.int kind), .fz (.int th), .fz (.int half), .ow 1 (.list (ws'.map prD)), .fz (.int l), .fz (.int up), t9, t10] ∧ IsBox b' ∧ DrOk nm l e ws' ∧ free1 t9 ∧ free1 t10)
    ⟨b1, ws, s9, s10, rfl, hb1, h, f9, f10⟩
    (by
      rintro e s he ⟨b2, ws2, t9, t10, rfl, hb2, h2, g9, g10⟩
      obtain ⟨b3, ws3, β, e3, hb3, h3⟩ := worksB_step (k := k) hB hn hl hn2 hk hh hu (show e < l by omega) hb2 h2 (th := th) g9 g10
      refine ⟨.nx [.mt 1 b3, .fz (.int n), .fz (.list (nm.map .int)), .fz (.int kind), .fz (.int th), .fz (.int half), .ow 1 (.list (ws3.map prD)), .fz (.int l), .fz (.int up), .fz (.int e), .fz (.bool β)], ?_, b3, ws3, _, _, rfl, hb3, h3, trivial, trivial⟩
      rw [Int.zero_add]
      exact e3)
    (by
      rintro s ⟨b2, ws2, t9, t10, rfl, hb2, h2, g9, g10⟩
      have e : ((l : Int) - 0).toNat = l := by omega
      rw [e] at h2
      exact ⟨b2, ws2, t9, t10, rfl, hb2, h2, g9, g10⟩)
  exact ⟨b', ws', .fz (.int up), t9, t10, ho, h1, h2, trivial, g9, g10⟩
theorem worksB_ok (hB : HasMixB P) (hP : P "_law_works" = some T_worksB) {b : D} (hb : IsBox b) {n : Nat} (hn0 : 0 < n) (hn2 : n < 100) : ∃ (ws : List (Int × Int)) (b' : D), cl P (k + 2) "_law_works" [b, .int n] = .ok (wkD n ws, [b']) ∧ WOk n ws ∧ IsBox b' := by
  have c1 := @s_call2 (sg := ⟨[.mt 1, .fz], 0⟩) (h := hB.draw) (hs := rfl)
  have c2 := @pX_call2 (sg := ⟨[.mt 1, .fz], 0⟩) (h := hB.draw) (hs := rfl)
  have c3 := @s_call2 (sg := ⟨[.mt 1, .fz], 0⟩) (h := hB.pick) (hs := rfl)
  have c5 := @s_call2 (sg := ⟨[.mt 1, .fz], 0⟩) (h := hB.mixed) (hs := rfl)
  have hbn : bnd (n : Int) = true := bnd_nat (by omega)
  have hln : (rngU 0 (n : Int)).length = n := by rw [rngU_len]; omega
  obtain ⟨ys, b2, h2, hp2, hb2⟩ := mixedB_ok (k := k) hB.toHasDraw hB.mixed hb (xs := rngU 0 (n : Int)) (by omega)
  obtain ⟨nm, rfl, hnm⟩ := nm_of_perm hp2
  obtain ⟨kd, b3, h3, hm3, hb3⟩ := pickB_ok (k := k) hB.toHasDraw hB.pick hb2 (xs := [.int 0, .int 1, .int 0, .int 2, .int 3, .int 0, .int 4, .int 0]) (by simp)
  obtain ⟨kd, rfl, hkd⟩ : ∃ i : Nat, kd = .int i ∧ i < 5 := by
    simp only [List.mem_cons, List.not_mem_nil, or_false] at hm3
    rcases hm3 with rfl | rfl | rfl | rfl | rfl | rfl | rfl | rfl
    · exact ⟨0, rfl, by omega⟩
    · exact ⟨1, rfl, by omega⟩
    · exact ⟨0, rfl, by omega⟩
    · exact ⟨2, rfl, by omega⟩
    · exact ⟨3, rfl, by omega⟩
    · exact ⟨0, rfl, by omega⟩
    · exact ⟨4, rfl, by omega⟩
    · exact ⟨0, rfl, by omega⟩
  obtain ⟨th, b4, h4, hm4, hb4⟩ := pickB_ok (k := k) hB.toHasDraw hB.pick hb3 (xs := [.int 35, .int 55, .int 20, .int 75, .int 45, .int 100, .int 0, .int 60]) (by simp)
  obtain ⟨th, rfl⟩ : ∃ i, th = .int i := by
    simp only [List.mem_cons, List.not_mem_nil, or_false] at hm4
    rcases hm4 with rfl | rfl | rfl | rfl | rfl | rfl | rfl | rfl <;> exact ⟨_, rfl⟩
  obtain ⟨half, hhe, hh⟩ : ∃ half : Nat, (n : Int).fdiv 2 = half ∧ half < 1000 := ⟨n / 2, by rw [Int.fdiv_eq_ediv_of_nonneg _ (by omega)]; omega, by omega⟩
  obtain ⟨o, ho, b5, ws, s7, s8, s9, s10, rfl, hb5, hd⟩ := for_rng (G := prog P (k + 2)) (rm := 0) (t := .nm 7) (lo := 0) (hi := n) (a := .c (.int 0)) (c := .v 1) (b := B2_worksB)
    (r := [.mt 1 b4, .fz (.int n), .fz (.list (nm.map .int)), .fz (.int kd), .fz (.int th), .fz (.int half), .ow 1 (.list []), .no, .no, .no, .no]) (r0 := [.mt 1 b4, .fz (.int n), .fz (.list (nm.map .int)), .fz (.int kd), .fz (.int th), .fz (.int half), .ow 1 (.list []), .no, .no, .no, .no])
    (Q := fun o => ∃ (b5 : D) (ws : List (Int × Int)) (s7 s8 s9 s10 : Sl), o = .nx [.mt 1 b5, .fz (.int n), .fz (.list (nm.map .int)), .fz (.int kd), .fz (.int th), .fz (.int half), .ow 1 (.list (ws.map prD)), s7, s8, s9, s10] ∧ IsBox b5 ∧ DrOk nm n 0 ws) (by walk_at "go")
    (fun l s => ∃ (b5 : D) (ws : List (Int × Int)) (s7 s8 s9 s10 : Sl), s = [.mt 1 b5, .fz (.int n), .fz (.list (nm.map .int)), .fz (.int kd), .fz (.int th), .fz (.int half), .ow 1 (.list (ws.map prD)), s7, s8, s9, s10] ∧ IsBox b5 ∧ DrOk nm l 0 ws ∧ free1 s7 ∧ free1 s8 ∧ free1 s9 ∧ free1 s10)
    ⟨b4, [], .no, .no, .no, .no, rfl, hb4, .start, trivial, trivial, trivial, trivial⟩
    (by
      rintro l s hl ⟨b5, ws, s7, s8, s9, s10, rfl, hb5, hd, f7, f8, f9, f10⟩
      have p7 := fun i s r => put1_free (i := i) (s := s) (r := r) f7
      have hl' : l < n := by omega
      obtain ⟨b6, ws6, t8, t9, t10, ho, hb6, hd6, g8, g9, g10⟩ := worksB_row (k := k) hB hnm hl' hn2 hkd hh hb5 hd (th := th) f8 f9 f10
      refine ⟨.nx _, ?_, b6, ws6, .fz (.int l), t8, t9, t10, rfl, hb6, hd6.next, trivial, g8, g9, g10⟩
      rw [x_body]
      walk_at "go")
    (by
      rintro s ⟨b5, ws, s7, s8, s9, s10, rfl, hb5, hd, _⟩
      have e : ((n : Int) - 0).toNat = n := by omega
      rw [e] at hd
      exact ⟨b5, ws, s7, s8, s9, s10, rfl, hb5, hd⟩)
  have hwok := hd.ok hnm
  have hwl : ws.length < 1000000 := by
    have := hwok.len
    have : n * (n - 1) ≤ 100 * 100 := Nat.mul_le_mul (by omega) (by omega)
    omega
  obtain ⟨zs, b6, h6, hp6, hb6⟩ := mixedB_ok (k := k) hB.toHasDraw hB.mixed hb5 (xs := ws.map prD) (by rw [List.length_map]; exact hwl)
  obtain ⟨ws', rfl, hpw⟩ := perm_map hp6
  refine ⟨ws', b6, ?_, hwok.perm hpw, hb6⟩
  have hln2 : n ≤ 1000000 := by omega
  rw [cl_eq hP]
  simp only [T_worksB, wkD]
  walk_at "go"
end
end VL
/-! tables of truth: what comes before what -/
namespace VL
open PySem
local macro_rules | `(tactic| walk_at "go") => `(tactic| simp [s_c, s_v, s_bin, s_cmp, s_ix, s_un, s_not, s_tand, s_tor, s_vand, s_vor, s_ife, s_chn, s_nil, s_cons, s_tup, s_lst, s_sl, s_b1, s_b2, s_isi, s_m1, s_it, s_rng, s_rngd, s_rrng, s_enum, s_zip, s_rev, s_lst1, s_tup1, s_comp, s_comp2, s_ags0, s_ags, s_pop, s_app, s_ins, s_ext, x_set, x_nop, x_brk, x_cont, x_seq, x_if, x_ret, x_drop, x_sets, x_aug, x_par, setT_nm, setT_tup, bindT_nm, bindT_tup, bindTs_cons, bindTs_nil, wipeS, backS, lockE, unl_eq, stF, stores, tgHas, *])
-- 0:works 1:many 2:less 3:mid 4:early 5:late 6:one 7:two
def B1_law_less : Sm := (.ife (.tand (.ix (.ix (.v 2) (.v 4)) (.v 3)) (.ix (.ix (.v 2) (.v 3)) (.v 5)))
  (.sets 2 (.v 4) (.v 5) (.c (.bool true)))
  .nop)
def B2_law_less : Sm := (.for_ (.nm 5) (.rng (.c (.int 0)) (.v 1)) B1_law_less)
def B3_law_less : Sm := (.for_ (.nm 4) (.rng (.c (.int 0)) (.v 1)) B2_law_less)
def T_law_less : Fn := ⟨⟨[.fz], 0⟩, 8,
  (.seq (.set 0 (.nm 1) (.ix (.v 0) (.c (.int 0))))
  (.seq (.set 2 (.nm 2) (.comp 2 (.comp 1 (.cmp .In (.tup (.cons (.v 6) (.cons (.v 7) .nil))) (.ix (.v 0) (.c (.int 1)))) (.nm 7) (.rng (.c (.int 0)) (.v 1)) (.c (.bool true)) [7]) (.nm 6) (.rng (.c (.int 0)) (.v 1)) (.c (.bool true)) [6]))
  (.seq (.for_ (.nm 3) (.rng (.c (.int 0)) (.v 1)) B3_law_less)
  (.ret (.v 2)))))⟩
-- 0:less 1:found 2:early 3:late
def B1_law_closed : Sm := (.set 0 (.nm 1) (.bin .Add (.v 1) (.comp 1 (.tup (.cons (.v 2) (.cons (.v 3) .nil))) (.nm 3) (.rng (.c (.int 0)) (.b1 .len (.v 0))) (.ix (.ix (.v 0) (.v 2)) (.v 3)) [3])))
def T_law_closed : Fn := ⟨⟨[.fz], 0⟩, 4,
  (.seq (.set 0 (.nm 1) (.lst 1 .nil))
  (.seq (.for_ (.nm 2) (.rng (.c (.int 0)) (.b1 .len (.v 0))) B1_law_closed)
  (.ret (.tup (.cons (.b1 .len (.v 0)) (.cons (.b1 .tuple (.v 1)) .nil))))))⟩
/-- n rows of n truth values -/
def matD (n : Nat) (f : Nat → Nat → Bool) : D := .list ((List.range n).map fun i => .list ((List.range n).map fun j => .bool (f i j)))
section
variable {P : Str → Option Fn} {k : Nat}
theorem rng_get {A : Type} {n i : Nat} {f : Nat → A} (h : i < n) : ((List.range n).map f)[i]? = some (f i) := by
  rw [List.getElem?_map, List.getElem?_range h]
  rfl
theorem rng_set {A : Type} {n i : Nat} {f : Nat → A} {x : A} : ((List.range n).map f).set i x = (List.range n).map fun j => if j = i then x else f j := by
  apply List.ext_getElem
  · simp
  · intro j h1 h2
    rw [List.getElem_set, List.getElem_map, List.getElem_map, List.getElem_range]
    by_cases h : i = j
    · subst h; simp
    · rw [if_neg h, if_neg fun e => h e.symm]
theorem atI_mat {n i : Nat} {f : Nat → Nat → Bool} (h : i < n) : L2.atI ((List.range n).map fun i => PyData.list ((List.range n).map fun j => .bool (f i j))) (i : Int) = some (.list ((List.range n).map fun j => .bool (f i j))) := by
  rw [atI_nat, rng_get h]
theorem atI_row {n j : Nat} {f : Nat → Bool} (h : j < n) : L2.atI ((List.range n).map fun j => PyData.bool (f j)) (j : Int) = some (.bool (f j)) := by
  rw [atI_nat, rng_get h]
/-- one change -/
def put2 (f : Nat → Nat → Bool) (e l : Nat) : Nat → Nat → Bool := fun i j => if i = e ∧ j = l then true else f i j
theorem less_body {G : Str → Option Fd} {n m e l : Nat} {f : Nat → Nat → Bool} (hm : m < n) (he : e < n) (hl : l < n) (hn : n < 1000) {s0 s1 s5 s6 s7 : Sl} (f5 : free1 s5) :
    bodyF G 0 0 (.nm 5) B1_law_less (.int l) [s0, s1, .ow 2 (matD n f), .fz (.int m), .fz (.int e), s5, s6, s7] =
      .ok (.nx [s0, s1, .ow 2 (matD n (if (f e m && f m l) = true then put2 f e l else f)), .fz (.int m), .fz (.int e), .fz (.int l), s6, s7]) := by
  have p5 := fun i s r => put1_free (i := i) (s := s) (r := r) f5
  rw [x_body, B1_law_less]
  have a1 := atI_mat (f := f) he
  have a2 := atI_mat (f := f) hm
  have a3 := atI_row (f := f e) hm
  have a4 := atI_row (f := f m) hl
  simp only [matD]
  cases h1 : f e m with
  | false => walk_at "go"
  | true =>
    cases h2 : f m l with
    | false => walk_at "go"
    | true =>
      walk_at "go"
      rw [rng_set, rng_set]
      congr 1
      funext i
      by_cases hi : i = e
      · subst hi
        rw [if_pos rfl]
        congr 2
        funext j
        unfold put2
        by_cases hj : j = l
        · rw [if_pos hj, if_pos ⟨rfl, hj⟩]
        · rw [if_neg hj, if_neg fun z => hj z.2]
      · rw [if_neg hi]
        congr 2
        funext j
        unfold put2
        rw [if_neg fun z => hi z.1]
theorem matD_ext {n : Nat} {f g : Nat → Nat → Bool} (h : ∀ i j, i < n → j < n → f i j = g i j) : matD n f = matD n g := by
  unfold matD
  congr 1
  apply List.map_congr_left
  intro i hi
  congr 1
  apply List.map_congr_left
  intro j hj
  rw [h i j (List.mem_range.mp hi) (List.mem_range.mp hj)]
/-- one middle -/
def wst (f : Nat → Nat → Bool) (m : Nat) : Nat → Nat → Bool := fun i j => f i j || (f i m && f m j)
def wstG (f : Nat → Nat → Bool) (m e l : Nat) : Nat → Nat → Bool := fun i j => if i < e ∨ (i = e ∧ j < l) then wst f m i j else f i j
theorem wst_col {f : Nat → Nat → Bool} {m i : Nat} : wst f m i m = f i m := by
  unfold wst
  cases f i m <;> rfl
theorem wst_row {f : Nat → Nat → Bool} {m j : Nat} : wst f m m j = f m j := by
  unfold wst
  cases f m j <;> cases f m m <;> rfl
theorem wstG_step {f : Nat → Nat → Bool} {m e l : Nat} : (if (wstG f m e l e m && wstG f m e l m l) = true then put2 (wstG f m e l) e l else wstG f m e l) = wstG f m e (l + 1) := by
  have h1 : wstG f m e l e m = f e m := by unfold wstG; split <;> first | exact wst_col | rfl
  have h2 : wstG f m e l m l = f m l := by unfold wstG; split <;> first | exact wst_row | rfl
  rw [h1, h2]
  funext i j
  by_cases hc : i = e ∧ j = l
  · obtain ⟨rfl, rfl⟩ := hc
    have hr : wstG f m i (j + 1) i j = wst f m i j := if_pos (.inr ⟨rfl, by omega⟩)
    have hr2 : wstG f m i j i j = f i j := if_neg (by omega)
    rw [hr]
    unfold wst
    by_cases hv : (f i m && f m j) = true
    · rw [if_pos hv, hv, Bool.or_true]
      exact if_pos ⟨rfl, rfl⟩
    · rw [if_neg hv, hr2]
      have : (f i m && f m j) = false := by simpa using hv
      rw [this, Bool.or_false]
  · have e1 : wstG f m e (l + 1) i j = wstG f m e l i j := by
      unfold wstG
      by_cases hq : i < e ∨ (i = e ∧ j < l)
      · rw [if_pos hq, if_pos (by omega)]
      · rw [if_neg hq, if_neg (by omega)]
    rw [e1]
    split
    · exact if_neg hc
    · rfl
def wsts (f : Nat → Nat → Bool) : Nat → Nat → Nat → Bool
  | 0 => f
  | m + 1 => wst (wsts f m) m
theorem wst_true {f : Nat → Nat → Bool} {m i j : Nat} : wst f m i j = true ↔ f i j = true ∨ (f i m = true ∧ f m j = true) := by
  unfold wst
  rw [Bool.or_eq_true, Bool.and_eq_true]
theorem wsts_sub {f : Nat → Nat → Bool} {R : Nat → Nat → Prop} (ht : ∀ a b c, R a b → R b c → R a c) (h : ∀ i j, f i j = true → R i j) : ∀ m i j, wsts f m i j = true → R i j
  | 0, i, j, w => h i j w
  | m + 1, i, j, w => by
    rcases wst_true.mp w with w | ⟨w1, w2⟩
    · exact wsts_sub ht h m i j w
    · exact ht i m j (wsts_sub ht h m i m w1) (wsts_sub ht h m m j w2)
theorem wsts_up {f : Nat → Nat → Bool} : ∀ m i j, f i j = true → wsts f m i j = true
  | 0, _, _, w => w
  | m + 1, i, j, w => wst_true.mpr (.inl (wsts_up m i j w))
theorem wsts_closed {f : Nat → Nat → Bool} : ∀ m mid i j, mid < m → wsts f m i mid = true → wsts f m mid j = true → wsts f m i j = true
  | 0, _, _, _, h, _, _ => by omega
  | m + 1, mid, i, j, h, w1, w2 => by
    by_cases hm : mid = m
    · subst hm
      have a1 : wst (wsts f mid) mid i mid = true := w1
      have a2 : wst (wsts f mid) mid mid j = true := w2
      rw [wst_col] at a1
      rw [wst_row] at a2
      exact wst_true.mpr (.inr ⟨a1, a2⟩)
    · have ih := fun i j => wsts_closed (f := f) m mid i j (by omega)
      have ih' := fun a i j => wsts_closed (f := f) m mid a j (by omega)
      rcases wst_true.mp w1 with a | ⟨a1, a2⟩
      · rcases wst_true.mp w2 with b | ⟨b1, b2⟩
        · exact wst_true.mpr (.inl (ih i j a b))
        · exact wst_true.mpr (.inr ⟨ih i m a b1, b2⟩)
      · rcases wst_true.mp w2 with b | ⟨b1, b2⟩
        · exact wst_true.mpr (.inr ⟨a1, ih m j a2 b⟩)
        · exact wst_true.mpr (.inr ⟨a1, b2⟩)
theorem inD_prsT {a b : Int} {ps : List (Int × Int)} : inD (.tuple [.int a, .int b]) (.tuple (ps.map prD)) = .ok (decide ((a, b) ∈ ps)) :=
  inD_tuple (n := 1) (x := prD (a, b)) Tame.pair (fun y hy => by
    obtain ⟨q, _, rfl⟩ := List.mem_map.mp hy
    exact Tame.pair) (by decide) mem_prD
def inW (ws : List (Int × Int)) (i j : Nat) : Bool := decide (((i : Int), (j : Int)) ∈ ws)
theorem less_m2 {G : Str → Option Fd} {n : Nat} (hn : n < 1000) {ws : List (Int × Int)} : mapL (turnF G 2 0 (.comp 1 (.cmp .In (.tup (.cons (.v 6) (.cons (.v 7) .nil))) (.ix (.v 0) (.c (.int 1)))) (.nm 7) (.rng (.c (.int 0)) (.v 1)) (.c (.bool true)) [7]) (.nm 6) (.c (.bool true)) [6]) ((List.range n).map fun (j : Nat) => PyData.int (j : Int)) [.fz (wkD n ws), .fz (.int n), .no, .no, .no, .no, .no, .no] =
      .ok ((List.range n).map fun i => .list ((List.range n).map fun j => .bool (inW ws i j)), [.fz (wkD n ws), .fz (.int n), .no, .no, .no, .no, .no, .no]) := by
  have hbn : bnd (n : Int) = true := bnd_nat (by omega)
  have hr := rng0_at (n := n)
  have hl1 : n < lim := lenlim (by omega)
  have m1 : ∀ i : Nat, mapL (turnF G 1 0 (.cmp .In (.tup (.cons (.v 6) (.cons (.v 7) .nil))) (.ix (.v 0) (.c (.int 1)))) (.nm 7) (.c (.bool true)) [7]) ((List.range n).map fun (j : Nat) => PyData.int (j : Int)) [.fz (wkD n ws), .fz (.int n), .no, .no, .no, .no, .fz (.int i), .no] =
      .ok ((List.range n).map fun j => .bool (inW ws i j), [.fz (wkD n ws), .fz (.int n), .no, .no, .no, .no, .fz (.int i), .no]) := fun i => by
    rw [mapL_all (enc := fun (j : Nat) => PyData.int (j : Int)) (g := fun j => .bool (inW ws i j)) (fun j hj => ?_)]
    have d1 := inD_prsT (a := (i : Int)) (b := (j : Int)) (ps := ws)
    rw [s_turn]
    simp only [wkD, inW]
    walk_at "go"
  rw [mapL_all (enc := fun (j : Nat) => PyData.int (j : Int)) (g := fun i => .list ((List.range n).map fun j => .bool (inW ws i j))) (fun i hi => ?_)]
  have d1 := m1 i
  rw [s_turn]
  walk_at "go"
theorem less_row {G : Str → Option Fd} {n m e : Nat} {f : Nat → Nat → Bool} (hm : m < n) (he : e < n) (hn : n < 1000) {s0 s5 s6 s7 : Sl} (f5 : free1 s5) :
    ∃ t5, VL.exec G 0 B2_law_less [s0, .fz (.int n), .ow 2 (matD n (wstG f m e 0)), .fz (.int m), .fz (.int e), s5, s6, s7] = .ok (.nx [s0, .fz (.int n), .ow 2 (matD n (wstG f m (e + 1) 0)), .fz (.int m), .fz (.int e), t5, s6, s7]) ∧ free1 t5 := by
  have hbn : bnd (n : Int) = true := bnd_nat (by omega)
  have ee : matD n (wstG f m (e + 1) 0) = matD n (wstG f m e n) := matD_ext fun i j hi hj => by
    unfold wstG
    by_cases h : i < e ∨ (i = e ∧ j < n)
    · rw [if_pos h, if_pos (by omega)]
    · rw [if_neg h, if_neg (by omega)]
  rw [ee]
  unfold B2_law_less
  obtain ⟨o, ho, t5, rfl, g5⟩ := for_rng (G := G) (rm := 0) (t := .nm 5) (lo := 0) (hi := n) (a := .c (.int 0)) (c := .v 1) (b := B1_law_less)
    (r := [s0, .fz (.int n), .ow 2 (matD n (wstG f m e 0)), .fz (.int m), .fz (.int e), s5, s6, s7]) (r0 := [s0, .fz (.int n), .ow 2 (matD n (wstG f m e 0)), .fz (.int m), .fz (.int e), s5, s6, s7])
    (Q := fun o => ∃ t5, o = .nx [s0, .fz (.int n), .ow 2 (matD n (wstG f m e n)), .fz (.int m), .fz (.int e), t5, s6, s7] ∧ free1 t5) (by walk_at "go")
    (fun l s => ∃ t5, s = [s0, .fz (.int n), .ow 2 (matD n (wstG f m e l)), .fz (.int m), .fz (.int e), t5, s6, s7] ∧ free1 t5) ⟨s5, rfl, f5⟩
    (by
      rintro l s hl ⟨t5, rfl, g5⟩
      have hl' : l < n := by omega
      have hb := less_body (G := G) (f := wstG f m e l) hm he hl' hn (s0 := s0) (s1 := .fz (.int n)) (s6 := s6) (s7 := s7) g5
      rw [wstG_step] at hb
      refine ⟨.nx [s0, .fz (.int n), .ow 2 (matD n (wstG f m e (l + 1))), .fz (.int m), .fz (.int e), .fz (.int l), s6, s7], ?_, _, rfl, trivial⟩
      rw [Int.zero_add]
      exact hb)
    (by
      rintro s ⟨t5, rfl, g5⟩
      have e : ((n : Int) - 0).toNat = n := by omega
      rw [e]
      exact ⟨t5, rfl, g5⟩)
  exact ⟨t5, ho, g5⟩
theorem less_mid {G : Str → Option Fd} {n m : Nat} {f : Nat → Nat → Bool} (hm : m < n) (hn : n < 1000) {s0 s4 s5 s6 s7 : Sl} (f4 : free1 s4) (f5 : free1 s5) :
    ∃ t4 t5, VL.exec G 0 B3_law_less [s0, .fz (.int n), .ow 2 (matD n f), .fz (.int m), s4, s5, s6, s7] = .ok (.nx [s0, .fz (.int n), .ow 2 (matD n (wst f m)), .fz (.int m), t4, t5, s6, s7]) ∧ free1 t4 ∧ free1 t5 := by
  have hbn : bnd (n : Int) = true := bnd_nat (by omega)
  have e0 : matD n f = matD n (wstG f m 0 0) := matD_ext fun i j hi hj => by
    unfold wstG
    rw [if_neg (by omega)]
  have e1 : matD n (wst f m) = matD n (wstG f m n 0) := matD_ext fun i j hi hj => by
    unfold wstG
    rw [if_pos (by omega)]
  rw [e0, e1]
  unfold B3_law_less
  obtain ⟨o, ho, t4, t5, rfl, g4, g5⟩ := for_rng (G := G) (rm := 0) (t := .nm 4) (lo := 0) (hi := n) (a := .c (.int 0)) (c := .v 1) (b := B2_law_less)
    (r := [s0, .fz (.int n), .ow 2 (matD n (wstG f m 0 0)), .fz (.int m), s4, s5, s6, s7]) (r0 := [s0, .fz (.int n), .ow 2 (matD n (wstG f m 0 0)), .fz (.int m), s4, s5, s6, s7])
    (Q := fun o => ∃ t4 t5, o = .nx [s0, .fz (.int n), .ow 2 (matD n (wstG f m n 0)), .fz (.int m), t4, t5, s6, s7] ∧ free1 t4 ∧ free1 t5) (by walk_at "go")
    (fun e s => ∃ t4 t5, s = [s0, .fz (.int n), .ow 2 (matD n (wstG f m e 0)), .fz (.int m), t4, t5, s6, s7] ∧ free1 t4 ∧ free1 t5) ⟨s4, s5, rfl, f4, f5⟩
    (by
      rintro e s he ⟨t4, t5, rfl, g4, g5⟩
      have p4 := fun i s r => put1_free (i := i) (s := s) (r := r) g4
      obtain ⟨u5, hb, h5⟩ := less_row (G := G) (f := f) hm (show e < n by omega) hn (s0 := s0) (s6 := s6) (s7 := s7) g5
      refine ⟨.nx [s0, .fz (.int n), .ow 2 (matD n (wstG f m (e + 1) 0)), .fz (.int m), .fz (.int e), u5, s6, s7], ?_, _, u5, rfl, trivial, h5⟩
      rw [x_body]
      walk_at "go")
    (by
      rintro s ⟨t4, t5, rfl, g4, g5⟩
      have e : ((n : Int) - 0).toNat = n := by omega
      rw [e]
      exact ⟨t4, t5, rfl, g4, g5⟩)
  exact ⟨t4, t5, ho, g4, g5⟩
theorem less_ok (hP : P "_law_less" = some T_law_less) {n : Nat} (hn : n < 1000) {ws : List (Int × Int)} : cl P k "_law_less" [wkD n ws] = .ok (matD n (wsts (inW ws) n), []) := by
  have hbn : bnd (n : Int) = true := bnd_nat (by omega)
  obtain ⟨o, ho, t3, t4, t5, rfl⟩ := for_rng (G := prog P k) (rm := 0) (t := .nm 3) (lo := 0) (hi := n) (a := .c (.int 0)) (c := .v 1) (b := B3_law_less)
    (r := [.fz (wkD n ws), .fz (.int n), .ow 2 (matD n (inW ws)), .no, .no, .no, .no, .no]) (r0 := [.fz (wkD n ws), .fz (.int n), .ow 2 (matD n (inW ws)), .no, .no, .no, .no, .no])
    (Q := fun o => ∃ t3 t4 t5, o = .nx [.fz (wkD n ws), .fz (.int n), .ow 2 (matD n (wsts (inW ws) n)), t3, t4, t5, .no, .no]) (by walk_at "go")
    (fun m s => ∃ t3 t4 t5, s = [.fz (wkD n ws), .fz (.int n), .ow 2 (matD n (wsts (inW ws) m)), t3, t4, t5, .no, .no] ∧ free1 t3 ∧ free1 t4 ∧ free1 t5) ⟨.no, .no, .no, rfl, trivial, trivial, trivial⟩
    (by
      rintro m s hm ⟨t3, t4, t5, rfl, g3, g4, g5⟩
      have p3 := fun i s r => put1_free (i := i) (s := s) (r := r) g3
      obtain ⟨u4, u5, hb, h4, h5⟩ := less_mid (G := prog P k) (f := wsts (inW ws) m) (show m < n by omega) hn (s0 := .fz (wkD n ws)) (s6 := .no) (s7 := .no) g4 g5
      refine ⟨.nx [.fz (wkD n ws), .fz (.int n), .ow 2 (matD n (wsts (inW ws) (m + 1))), .fz (.int m), u4, u5, .no, .no], ?_, _, u4, u5, rfl, trivial, h4, h5⟩
      rw [x_body]
      walk_at "go"
      rfl)
    (by
      rintro s ⟨t3, t4, t5, rfl, _⟩
      have e : ((n : Int) - 0).toNat = n := by omega
      rw [e]
      exact ⟨t3, t4, t5, rfl⟩)
  rw [cl_eq hP]
  simp only [T_law_less]
  have m2 := less_m2 (G := prog P k) hn (ws := ws)
  have hr := rng0_at (n := n)
  have hl1 : n < lim := lenlim (by omega)
  simp only [matD, wkD] at *
  walk_at "go"
/-! ### sorted pairs -/
def leP (p q : Int × Int) : Bool := decide (p.1 < q.1 ∨ (p.1 = q.1 ∧ p.2 ≤ q.2))
def sortP (ps : List (Int × Int)) : List (Int × Int) := ps.mergeSort leP
theorem sortP_eq (ps : List (Int × Int)) : sortD false (ps.map prD) = (sortP ps).map prD := by
  unfold sortD sortP
  rw [List.map_mergeSort]
  intro a _ b _
  have e := congrFun (congrFun (W.dataLe_ii (β := Int × Int) (fun p => p.1) (fun p => p.2)) a) b
  exact e.symm
theorem sortP_perm (ps : List (Int × Int)) : (sortP ps).Perm ps := List.mergeSort_perm _ _
theorem sortP_sorted (ps : List (Int × Int)) : (sortP ps).Pairwise fun a b => leP a b = true :=
  List.pairwise_mergeSort (le := leP) (fun a b c h1 h2 => by unfold leP at *; simp only [decide_eq_true_eq] at *; omega) (fun a b => by unfold leP; simp only [Bool.or_eq_true, decide_eq_true_eq]; omega) ps
theorem sortP_idem (ps : List (Int × Int)) : sortP (sortP ps) = sortP ps := List.mergeSort_of_pairwise (sortP_sorted ps)
theorem sortP_of_perm {ps qs : List (Int × Int)} (h : ps.Perm qs) : sortP ps = sortP qs :=
  List.Perm.eq_of_pairwise (le := fun a b => leP a b = true) (fun a b _ _ h1 h2 => by unfold leP at h1 h2; simp only [decide_eq_true_eq] at h1 h2; exact Prod.ext (by omega) (by omega)) (sortP_sorted ps) (sortP_sorted qs) (((sortP_perm ps).trans h).trans (sortP_perm qs).symm)
theorem b1_sortP {o : Bool} {n : Nat} {ps : List (Int × Int)} (h : elz o n (ps.map prD) = true) : b1D .sorted ⟨o, n, .list (ps.map prD)⟩ = .ok ⟨true, 1, .list ((sortP ps).map prD)⟩ := by
  simp only [b1D]
  rw [sortable_prs, h, sortP_eq]
  rfl
theorem elz_prs {o : Bool} {n : Nat} {ps : List (Int × Int)} : elz o n (ps.map prD) = true := by
  unfold elz
  have : (ps.map prD).any isL = false := by
    rw [List.any_eq_false]
    intro x hx
    obtain ⟨q, _, rfl⟩ := List.mem_map.mp hx
    exact Bool.false_ne_true
  rw [this]
  simp
/-! ### the pairs of a table -/
def clo (n : Nat) (f : Nat → Nat → Bool) (e : Nat) : List (Int × Int) := (List.range e).flatMap fun i => ((List.range n).filter (f i)).map fun (j : Nat) => ((i : Int), (j : Int))
theorem clo_succ {n e : Nat} {f : Nat → Nat → Bool} : clo n f (e + 1) = clo n f e ++ ((List.range n).filter (f e)).map fun (j : Nat) => ((e : Int), (j : Int)) := by
  unfold clo
  rw [List.range_succ, List.flatMap_append]
  simp
theorem clo_mem {n e : Nat} {f : Nat → Nat → Bool} {p : Int × Int} : p ∈ clo n f e ↔ ∃ i j : Nat, p = ((i : Int), (j : Int)) ∧ i < e ∧ j < n ∧ f i j = true := by
  unfold clo
  rw [List.mem_flatMap]
  constructor
  · rintro ⟨i, hi, h⟩
    obtain ⟨j, hj, rfl⟩ := List.mem_map.mp h
    obtain ⟨h1, h2⟩ := List.mem_filter.mp hj
    exact ⟨i, j, rfl, List.mem_range.mp hi, List.mem_range.mp h1, h2⟩
  · rintro ⟨i, j, rfl, h1, h2, h3⟩
    exact ⟨i, List.mem_range.mpr h1, List.mem_map.mpr ⟨j, List.mem_filter.mpr ⟨List.mem_range.mpr h2, h3⟩, rfl⟩⟩
theorem clo_len {n : Nat} {f : Nat → Nat → Bool} : ∀ {e : Nat}, (clo n f e).length ≤ e * n
  | 0 => Nat.zero_le _
  | e + 1 => by
    rw [clo_succ, List.length_append, List.length_map]
    have h1 := clo_len (n := n) (f := f) (e := e)
    have h2 := List.length_filter_le (f e) (List.range n)
    rw [List.length_range] at h2
    rw [Nat.add_mul]
    omega
theorem filt_map {A B : Type} {c : A → Bool} {g : A → B} : ∀ {xs : List A}, (xs.filterMap fun j => if c j = true then some (g j) else none) = (xs.filter c).map g
  | [] => rfl
  | x :: xs => by
    rw [List.filterMap_cons, List.filter_cons, filt_map]
    cases c x <;> rfl
theorem closed_ok (hP : P "_law_closed" = some T_law_closed) {n : Nat} (hn : n < 100) {f : Nat → Nat → Bool} : cl P k "_law_closed" [matD n f] = .ok (wkD n (clo n f n), []) := by
  have hbn : bnd (n : Int) = true := bnd_nat (by omega)
  have hr := rng0_at (n := n)
  obtain ⟨o, ho, s2, rfl⟩ := for_rng (G := prog P k) (rm := 0) (t := .nm 2) (lo := 0) (hi := n) (a := .c (.int 0)) (c := .b1 .len (.v 0)) (b := B1_law_closed)
    (r := [.fz (matD n f), .fz (.list []), .no, .no]) (r0 := [.fz (matD n f), .fz (.list []), .no, .no])
    (Q := fun o => ∃ s2, o = .nx [.fz (matD n f), .fz (.list ((clo n f n).map prD)), s2, .no]) (by unfold matD; walk_at "go")
    (fun e s => ∃ s2, s = [.fz (matD n f), .fz (.list ((clo n f e).map prD)), s2, .no] ∧ free1 s2) ⟨.no, rfl, trivial⟩
    (by
      rintro e s he ⟨s2, rfl, g2⟩
      have he' : e < n := by omega
      have p2 := fun i s r => put1_free (i := i) (s := s) (r := r) g2
      have a1 := atI_mat (f := f) he'
      have hcl := clo_len (n := n) (f := f) (e := e)
      have hee : e * n ≤ 100 * 100 := Nat.mul_le_mul (by omega) (by omega)
      have hfl := List.length_filter_le (f e) (List.range n)
      rw [List.length_range] at hfl
      have m1 : mapL (turnF (prog P k) 1 0 (.tup (.cons (.v 2) (.cons (.v 3) .nil))) (.nm 3) (.ix (.ix (.v 0) (.v 2)) (.v 3)) [3]) ((List.range n).map fun (j : Nat) => PyData.int (j : Int)) [.fz (matD n f), .fz (.list ((clo n f e).map prD)), .fz (.int e), .no] =
          .ok ((((List.range n).filter (f e)).map fun (j : Nat) => ((e : Int), (j : Int))).map prD, [.fz (matD n f), .fz (.list ((clo n f e).map prD)), .fz (.int e), .no]) := by
        rw [mapL_enc (enc := fun (j : Nat) => PyData.int (j : Int)) (g := fun j => if f e j = true then some (prD ((e : Int), (j : Int))) else none) (fun j hj => ?_)]
        · rw [filt_map (c := f e) (g := fun (j : Nat) => prD ((e : Int), (j : Int))), List.map_map]
          rfl
        · have a2 := atI_row (f := f e) (List.mem_range.mp hj)
          rw [s_turn]
          simp only [matD, prD]
          cases hv : f e j with
          | true => rw [hv] at a2; walk_at "go"
          | false => rw [hv] at a2; walk_at "go"
      refine ⟨.nx [.fz (matD n f), .fz (.list ((clo n f (e + 1)).map prD)), .fz (.int e), .no], ?_, _, rfl, trivial⟩
      rw [x_body, B1_law_closed, clo_succ, List.map_append]
      have hl1 : ((((List.range n).filter (f e)).map fun (j : Nat) => ((e : Int), (j : Int))).map prD).length < lim := lenlim (by rw [List.length_map, List.length_map]; omega)
      have hl2 : ((clo n f e).map prD).length + ((((List.range n).filter (f e)).map fun (j : Nat) => ((e : Int), (j : Int))).map prD).length ≤ lim := Nat.le_of_lt (lenlim (by rw [List.length_map, List.length_map, List.length_map]; omega))
      generalize (((List.range n).filter (f e)).map fun (j : Nat) => ((e : Int), (j : Int))).map prD = L at *
      generalize (clo n f e).map prD = M at *
      clear hcl hee hfl
      simp only [matD] at *
      walk_at "go")
    (by
      rintro s ⟨s2, rfl, g2⟩
      have e : ((n : Int) - 0).toNat = n := by omega
      rw [e]
      exact ⟨s2, rfl⟩)
  rw [cl_eq hP]
  simp only [T_law_closed, wkD]
  simp only [matD] at *
  walk_at "go"
end
end VL
/-! the defs of k28 -/
namespace VL
open PySem
-- 0:pairs 1:one 2:other
def T_is_pair : Fn := ⟨⟨[.fz, .fz, .fz], 0⟩, 3,
  (.ret (.cmp .In (.tup (.cons (.b2 .min (.v 1) (.v 2)) (.cons (.b2 .max (.v 1) (.v 2)) .nil))) (.v 0)))⟩
-- 0:pairs 1:arrow 2:other
def T_forces : Fn := ⟨⟨[.fz, .fz, .fz], 0⟩, 3,
  (.seq (.ife (.cmp .Eq (.v 1) (.v 2))
  (.ret (.c (.bool false)))
  .nop)
  (.seq (.ife (.cmp .Eq (.ix (.v 1) (.c (.int 0))) (.ix (.v 2) (.c (.int 0))))
  (.ret (.vand (.cmp .NotEq (.ix (.v 1) (.c (.int 1))) (.ix (.v 2) (.c (.int 1)))) (.tnot (.call "is_pair" (.cons (.v 0) (.cons (.ix (.v 1) (.c (.int 1))) (.cons (.ix (.v 2) (.c (.int 1))) .nil)))))))
  .nop)
  (.seq (.ife (.cmp .Eq (.ix (.v 1) (.c (.int 1))) (.ix (.v 2) (.c (.int 1))))
  (.ret (.tnot (.call "is_pair" (.cons (.v 0) (.cons (.ix (.v 1) (.c (.int 0))) (.cons (.ix (.v 2) (.c (.int 0))) .nil))))))
  .nop)
  (.ret (.c (.bool false))))))⟩
-- 0:pairs 1:row 2:arrow 3:other 4:one
def T_shows_clash : Fn := ⟨⟨[.fz, .fz], 0⟩, 5,
  (.seq (.ife (.tor (.cmp .Lt (.b1 .len (.v 1)) (.c (.int 2))) (.tnot (.b1 .all (.comp 1 (.vand (.cmp .NotEq (.v 4) (.v 3)) (.call "is_pair" (.cons (.v 0) (.cons (.v 4) (.cons (.v 3) .nil))))) (.cons (.nm 4) (.cons (.nm 3) .nil)) (.it (.v 1)) (.c (.bool true)) [4, 3]))))
  (.ret (.c (.bool false)))
  .nop)
  (.seq (.ife (.cmp .NotEq (.ix (.v 1) (.un .USub (.c (.int 1)))) (.tup (.cons (.ix (.ix (.v 1) (.c (.int 0))) (.c (.int 1))) (.cons (.ix (.ix (.v 1) (.c (.int 0))) (.c (.int 0))) .nil))))
  (.ret (.c (.bool false)))
  .nop)
  (.ret (.b1 .all (.comp 1 (.call "forces" (.cons (.v 0) (.cons (.v 2) (.cons (.v 3) .nil)))) (.cons (.nm 2) (.cons (.nm 3) .nil)) (.zip (.v 1) (.sl (.v 1) (.c (.int 1)) .nil)) (.c (.bool true)) [2, 3])))))⟩
-- 0:arrows 1:begin 2:middle 3:start 4:end
def B1_is_straight : Sm := (.ife (.tand (.cmp .Eq (.v 2) (.v 3)) (.cmp .NotIn (.tup (.cons (.v 1) (.cons (.v 4) .nil))) (.v 0)))
  (.ret (.c (.bool false)))
  .nop)
def B2_is_straight : Sm := (.for_ (.cons (.nm 3) (.cons (.nm 4) .nil)) (.it (.v 0)) B1_is_straight)
def T_is_straight : Fn := ⟨⟨[.fz], 0⟩, 5,
  (.seq (.for_ (.cons (.nm 1) (.cons (.nm 2) .nil)) (.it (.v 0)) B2_is_straight)
  (.ret (.c (.bool true))))⟩
-- 0:pairs 1:arrows 2:plain 3:one 4:other
def T_shows_directed : Fn := ⟨⟨[.fz, .fz], 0⟩, 5,
  (.seq (.set 0 (.nm 2) (.b1 .sorted (.comp 1 (.tup (.cons (.b2 .min (.v 3) (.v 4)) (.cons (.b2 .max (.v 3) (.v 4)) .nil))) (.cons (.nm 3) (.cons (.nm 4) .nil)) (.it (.v 1)) (.c (.bool true)) [3, 4])))
  (.ret (.vand (.cmp .Eq (.v 2) (.b1 .sorted (.v 0))) (.call "is_straight" (.cons (.v 1) .nil)))))⟩
-- 0:pairs 1:low 2:high
def T_law_arrows : Fn := ⟨⟨[.fz], 0⟩, 3,
  (.ret (.b1 .sorted (.bin .Add (.b1 .list (.v 0)) (.comp 1 (.tup (.cons (.v 2) (.cons (.v 1) .nil))) (.cons (.nm 1) (.cons (.nm 2) .nil)) (.it (.v 0)) (.c (.bool true)) [1, 2]))))⟩
-- 0:pairs 1:one 2:other
def T_law_forces : Fn := ⟨⟨[.fz, .fz, .fz], 0⟩, 3,
  (.seq (.ife (.tand (.cmp .Eq (.ix (.v 1) (.c (.int 0))) (.ix (.v 2) (.c (.int 0)))) (.cmp .NotEq (.ix (.v 1) (.c (.int 1))) (.ix (.v 2) (.c (.int 1)))))
  (.ret (.cmp .NotIn (.tup (.cons (.b2 .min (.ix (.v 1) (.c (.int 1))) (.ix (.v 2) (.c (.int 1)))) (.cons (.b2 .max (.ix (.v 1) (.c (.int 1))) (.ix (.v 2) (.c (.int 1)))) .nil))) (.v 0)))
  .nop)
  (.seq (.ife (.tand (.cmp .Eq (.ix (.v 1) (.c (.int 1))) (.ix (.v 2) (.c (.int 1)))) (.cmp .NotEq (.ix (.v 1) (.c (.int 0))) (.ix (.v 2) (.c (.int 0)))))
  (.ret (.cmp .NotIn (.tup (.cons (.b2 .min (.ix (.v 1) (.c (.int 0))) (.ix (.v 2) (.c (.int 0)))) (.cons (.b2 .max (.ix (.v 1) (.c (.int 0))) (.ix (.v 2) (.c (.int 0)))) .nil))) (.v 0)))
  .nop)
  (.ret (.c (.bool false)))))⟩
-- 0:pairs 1:row 2:one 3:other 4:k
def B1_law_clash_shown : Sm := (.ife (.tor (.cmp .Eq (.v 2) (.v 3)) (.cmp .NotIn (.tup (.cons (.b2 .min (.v 2) (.v 3)) (.cons (.b2 .max (.v 2) (.v 3)) .nil))) (.v 0)))
  (.ret (.c (.bool false)))
  .nop)
def B2_law_clash_shown : Sm := (.ife (.tnot (.call "_law_forces" (.cons (.v 0) (.cons (.ix (.v 1) (.v 4)) (.cons (.ix (.v 1) (.bin .Add (.v 4) (.c (.int 1)))) .nil)))))
  (.ret (.c (.bool false)))
  .nop)
def T_law_clash_shown : Fn := ⟨⟨[.fz, .fz], 0⟩, 5,
  (.seq (.ife (.cmp .Lt (.b1 .len (.v 1)) (.c (.int 2)))
  (.ret (.c (.bool false)))
  .nop)
  (.seq (.for_ (.cons (.nm 2) (.cons (.nm 3) .nil)) (.it (.v 1)) B1_law_clash_shown)
  (.seq (.ife (.tor (.cmp .NotEq (.ix (.ix (.v 1) (.un .USub (.c (.int 1)))) (.c (.int 0))) (.ix (.ix (.v 1) (.c (.int 0))) (.c (.int 1)))) (.cmp .NotEq (.ix (.ix (.v 1) (.un .USub (.c (.int 1)))) (.c (.int 1))) (.ix (.ix (.v 1) (.c (.int 0))) (.c (.int 0)))))
  (.ret (.c (.bool false)))
  .nop)
  (.seq (.for_ (.nm 4) (.rng (.c (.int 0)) (.bin .Sub (.b1 .len (.v 1)) (.c (.int 1)))) B2_law_clash_shown)
  (.ret (.c (.bool true)))))))⟩
-- 0:arrows 1:one 2:other
def B1_law_is_straight : Sm := (.ife (.tand (.cmp .Eq (.ix (.v 1) (.c (.int 1))) (.ix (.v 2) (.c (.int 0)))) (.cmp .NotIn (.tup (.cons (.ix (.v 1) (.c (.int 0))) (.cons (.ix (.v 2) (.c (.int 1))) .nil))) (.v 0)))
  (.ret (.c (.bool false)))
  .nop)
def B2_law_is_straight : Sm := (.for_ (.nm 2) (.it (.v 0)) B1_law_is_straight)
def T_law_is_straight : Fn := ⟨⟨[.fz], 0⟩, 3,
  (.seq (.for_ (.nm 1) (.it (.v 0)) B2_law_is_straight)
  (.ret (.c (.bool true))))⟩
-- 0:pairs 1:arrows 2:plain 3:one 4:other
def T_law_directs : Fn := ⟨⟨[.fz, .fz], 0⟩, 5,
  (.seq (.set 0 (.nm 2) (.b1 .sorted (.comp 1 (.tup (.cons (.b2 .min (.v 3) (.v 4)) (.cons (.b2 .max (.v 3) (.v 4)) .nil))) (.cons (.nm 3) (.cons (.nm 4) .nil)) (.it (.v 1)) (.c (.bool true)) [3, 4])))
  (.ret (.vand (.cmp .Eq (.v 2) (.b1 .sorted (.v 0))) (.call "_law_is_straight" (.cons (.v 1) .nil)))))⟩
-- 0:box 1:many 2:names 3:kind 4:thick 5:less 6:found 7:high 8:low 9:free 10:ring
def B1_law_pairs : Sm := (.seq (.set 0 (.nm 9) (.cmp .Lt (.call "_law_draw" (.cons (.v 0) (.cons (.c (.int 100)) .nil))) (.v 4)))
  (.seq (.set 0 (.nm 10) (.vor (.cmp .Eq (.bin .Sub (.v 7) (.v 8)) (.c (.int 1))) (.cmp .Eq (.bin .Sub (.v 7) (.v 8)) (.bin .Sub (.v 1) (.c (.int 1))))))
  (.seq (.ife (.cmp .Eq (.v 3) (.c (.int 1)))
  (.set 0 (.nm 9) (.v 10))
  (.ife (.cmp .Eq (.v 3) (.c (.int 2)))
  (.set 0 (.nm 9) (.vor (.ix (.ix (.v 5) (.v 8)) (.v 7)) (.ix (.ix (.v 5) (.v 7)) (.v 8))))
  (.ife (.cmp .Eq (.v 3) (.c (.int 3)))
  (.set 0 (.nm 9) (.vor (.v 10) (.v 9)))
  .nop)))
  (.ife (.v 9)
  (.drop (.app 6 .nil (.tup (.cons (.b2 .min (.ix (.v 2) (.v 8)) (.ix (.v 2) (.v 7))) (.cons (.b2 .max (.ix (.v 2) (.v 8)) (.ix (.v 2) (.v 7))) .nil)))))
  .nop))))
def B2_law_pairs : Sm := (.for_ (.nm 8) (.rng (.c (.int 0)) (.v 7)) B1_law_pairs)
def T_law_pairs : Fn := ⟨⟨[.mt 1, .fz], 1⟩, 11,
  (.seq (.set 0 (.nm 2) (.call "_law_mixed" (.cons (.v 0) (.cons (.lst1 (.rng (.c (.int 0)) (.v 1))) .nil))))
  (.seq (.set 0 (.nm 3) (.call "_law_pick" (.cons (.v 0) (.cons (.lst 1 (.cons (.c (.int 0)) (.cons (.c (.int 1)) (.cons (.c (.int 2)) (.cons (.c (.int 0)) (.cons (.c (.int 3)) (.cons (.c (.int 2)) .nil))))))) .nil))))
  (.seq (.set 0 (.nm 4) (.call "_law_pick" (.cons (.v 0) (.cons (.lst 1 (.cons (.c (.int 50)) (.cons (.c (.int 30)) (.cons (.c (.int 70)) (.cons (.c (.int 100)) (.cons (.c (.int 15)) .nil)))))) .nil))))
  (.seq (.set 0 (.nm 5) (.call "_law_less" (.cons (.call "_law_works" (.cons (.v 0) (.cons (.v 1) .nil))) .nil)))
  (.seq (.set 1 (.nm 6) (.lst 1 .nil))
  (.seq (.for_ (.nm 7) (.rng (.c (.int 0)) (.v 1)) B2_law_pairs)
  (.ret (.b1 .sorted (.v 6)))))))))⟩
-- 0:pairs 1:every 2:arrow 3:rows 4:seen 5:turn 6:row 7:other
def B1_law_a_clash : Sm := (.ife (.tand (.cmp .NotIn (.v 7) (.v 4)) (.call "_law_forces" (.cons (.v 0) (.cons (.ix (.ix (.v 3) (.v 5)) (.un .USub (.c (.int 1)))) (.cons (.v 7) .nil)))))
  (.seq (.drop (.app 4 .nil (.v 7)))
  (.drop (.app 3 .nil (.bin .Add (.ix (.v 3) (.v 5)) (.lst 1 (.cons (.v 7) .nil))))))
  .nop)
def B2_law_a_clash : Sm := (.ife (.cmp .Lt (.v 5) (.b1 .len (.v 3)))
  (.for_ (.nm 7) (.it (.v 1)) B1_law_a_clash)
  .nop)
def B3_law_a_clash : Sm := (.ife (.cmp .Eq (.ix (.v 6) (.un .USub (.c (.int 1)))) (.tup (.cons (.ix (.v 2) (.c (.int 1))) (.cons (.ix (.v 2) (.c (.int 0))) .nil))))
  (.ret (.v 6))
  .nop)
def B4_law_a_clash : Sm := (.seq (.set 1 (.nm 3) (.lst 1 (.cons (.lst 1 (.cons (.v 2) .nil)) .nil)))
  (.seq (.set 1 (.nm 4) (.lst 1 (.cons (.v 2) .nil)))
  (.seq (.for_ (.nm 5) (.rng (.c (.int 0)) (.b1 .len (.v 1))) B2_law_a_clash)
  (.for_ (.nm 6) (.it (.v 3)) B3_law_a_clash))))
def T_law_a_clash : Fn := ⟨⟨[.fz], 0⟩, 8,
  (.seq (.set 0 (.nm 1) (.call "_law_arrows" (.cons (.v 0) .nil)))
  (.seq (.for_ (.nm 2) (.it (.v 1)) B4_law_a_clash)
  (.ret (.lst 1 .nil))))⟩
-- 0:box 1:many 2:row 3:which 4:found 5:at 6:other 7:kept 8:k 9:arrow
def B1_law_bent_clash : Sm := (.seq (.ife (.cmp .Eq (.ix (.ix (.v 4) (.v 8)) (.c (.int 0))) (.ix (.ix (.v 4) (.bin .Sub (.v 8) (.c (.int 1)))) (.c (.int 0))))
  (.drop (.ins 4 .nil (.v 8) (.tup (.cons (.ix (.ix (.v 4) (.v 8)) (.c (.int 0))) (.cons (.bin .Add (.v 1) (.v 3)) .nil)))))
  (.ife (.cmp .Eq (.ix (.ix (.v 4) (.v 8)) (.c (.int 1))) (.ix (.ix (.v 4) (.bin .Sub (.v 8) (.c (.int 1)))) (.c (.int 1))))
  (.drop (.ins 4 .nil (.v 8) (.tup (.cons (.bin .Add (.v 1) (.v 3)) (.cons (.ix (.ix (.v 4) (.v 8)) (.c (.int 1))) .nil)))))
  .nop))
  (.ife (.tand (.cmp .Eq (.v 3) (.c (.int 18))) (.cmp .Gt (.b1 .len (.v 4)) (.b1 .len (.v 2))))
  .brk
  .nop))
def T_law_bent_clash : Fn := ⟨⟨[.mt 1, .fz, .fz, .fz], 0⟩, 10,
  (.seq (.set 1 (.nm 4) (.b1 .list (.v 2)))
  (.seq (.set 0 (.nm 5) (.call "_law_draw" (.cons (.v 0) (.cons (.b1 .len (.v 4)) .nil))))
  (.seq (.ife (.cmp .Eq (.v 3) (.c (.int 1)))
  (.set 1 (.nm 4) (.bin .Add (.sl (.v 4) .nil (.c (.int 2))) (.v 4)))
  (.ife (.cmp .Eq (.v 3) (.c (.int 2)))
  (.drop (.pop 4 .nil (.c (.int 0))))
  (.ife (.cmp .Eq (.v 3) (.c (.int 3)))
  (.drop (.pop 4 .nil .nil))
  (.ife (.cmp .Eq (.v 3) (.c (.int 4)))
  (.drop (.pop 4 .nil (.v 5)))
  (.ife (.cmp .Eq (.v 3) (.c (.int 5)))
  (.sets 4 .nil (.v 5) (.tup (.cons (.ix (.ix (.v 4) (.v 5)) (.c (.int 1))) (.cons (.ix (.ix (.v 4) (.v 5)) (.c (.int 0))) .nil))))
  (.ife (.cmp .Eq (.v 3) (.c (.int 6)))
  (.sets 4 .nil (.v 5) (.tup (.cons (.ix (.ix (.v 4) (.v 5)) (.c (.int 0))) (.cons (.ix (.ix (.v 4) (.v 5)) (.c (.int 0))) .nil))))
  (.ife (.cmp .Eq (.v 3) (.c (.int 7)))
  (.sets 4 .nil (.v 5) (.tup (.cons (.ix (.ix (.v 4) (.v 5)) (.c (.int 0))) (.cons (.bin .Add (.v 1) (.call "_law_draw" (.cons (.v 0) (.cons (.c (.int 3)) .nil)))) .nil))))
  (.ife (.cmp .Eq (.v 3) (.c (.int 8)))
  (.drop (.ins 4 .nil (.v 5) (.ix (.v 4) (.v 5))))
  (.ife (.cmp .Eq (.v 3) (.c (.int 9)))
  (.set 1 (.nm 4) (.b1 .rev (.v 4)))
  (.ife (.cmp .Eq (.v 3) (.c (.int 10)))
  (.set 1 (.nm 4) (.comp 1 (.tup (.cons (.ix (.v 9) (.c (.int 1))) (.cons (.ix (.v 9) (.c (.int 0))) .nil))) (.nm 9) (.it (.v 4)) (.c (.bool true)) [9]))
  (.ife (.cmp .Eq (.v 3) (.c (.int 11)))
  (.seq (.set 0 (.nm 6) (.call "_law_draw" (.cons (.v 0) (.cons (.b1 .len (.v 4)) .nil))))
  (.seq (.set 0 (.nm 7) (.ix (.v 4) (.v 5)))
  (.seq (.sets 4 .nil (.v 5) (.ix (.v 4) (.v 6)))
  (.sets 4 .nil (.v 6) (.v 7)))))
  (.ife (.cmp .Eq (.v 3) (.c (.int 12)))
  (.set 1 (.nm 4) (.lst 1 .nil))
  (.ife (.cmp .Eq (.v 3) (.c (.int 13)))
  (.set 1 (.nm 4) (.lst 1 (.cons (.ix (.v 4) (.c (.int 0))) (.cons (.ix (.v 4) (.un .USub (.c (.int 1)))) .nil))))
  (.ife (.cmp .Eq (.v 3) (.c (.int 14)))
  (.sets 4 .nil (.v 5) (.tup (.cons (.un .USub (.c (.int 1))) (.cons (.ix (.ix (.v 4) (.v 5)) (.c (.int 1))) .nil))))
  (.ife (.cmp .Gt (.v 3) (.c (.int 17)))
  (.for_ (.nm 8) (.rngd (.bin .Sub (.b1 .len (.v 4)) (.c (.int 1))) (.c (.int 0))) B1_law_bent_clash)
  .nop)))))))))))))))
  (.ret (.b1 .tuple (.v 4))))))⟩
-- 0:box 1:many 2:pairs 3:row 4:which 5:bent 6:some 7:one 8:other
def B1_law_clashes_judged : Sm := (.seq (.set 0 (.nm 5) (.call "_law_bent_clash" (.cons (.v 0) (.cons (.v 1) (.cons (.v 3) (.cons (.v 4) .nil))))))
  (.seq (.set 1 (.nm 6) (.b1 .list (.v 2)))
  (.seq (.ife (.tand (.cmp .Eq (.v 4) (.c (.int 15))) (.cmp .NotEq (.v 6) (.lst 1 .nil)))
  (.drop (.pop 6 .nil (.call "_law_draw" (.cons (.v 0) (.cons (.b1 .len (.v 6)) .nil)))))
  .nop)
  (.seq (.ife (.cmp .In (.v 4) (.tup (.cons (.c (.int 16)) (.cons (.c (.int 17)) .nil))))
  (.seq (.set 0 (.nm 7) (.call "_law_draw" (.cons (.v 0) (.cons (.v 1) .nil))))
  (.seq (.set 0 (.nm 8) (.bin .Mod (.b1 .int (.bin .Add (.bin .Add (.v 7) (.c (.int 1))) (.call "_law_draw" (.cons (.v 0) (.cons (.bin .Sub (.v 1) (.c (.int 1))) .nil))))) (.v 1)))
  (.ife (.cmp .NotIn (.tup (.cons (.b2 .min (.v 7) (.v 8)) (.cons (.b2 .max (.v 7) (.v 8)) .nil))) (.v 6))
  (.set 1 (.nm 6) (.b1 .sorted (.bin .Add (.v 6) (.lst 1 (.cons (.tup (.cons (.b2 .min (.v 7) (.v 8)) (.cons (.b2 .max (.v 7) (.v 8)) .nil))) .nil)))))
  .nop)))
  .nop)
  (.ife (.tnot (.call "_law_same" (.cons (.call "shows_clash" (.cons (.b1 .list (.v 6)) (.cons (.v 5) .nil))) (.cons (.call "_law_clash_shown" (.cons (.v 6) (.cons (.v 5) .nil))) .nil))))
  (.ret (.c (.bool false)))
  .nop)))))
def T_law_clashes_judged : Fn := ⟨⟨[.mt 1, .fz, .fz], 0⟩, 9,
  (.seq (.set 0 (.nm 3) (.call "_law_a_clash" (.cons (.v 2) .nil)))
  (.seq (.ife (.cmp .Eq (.v 3) (.lst 1 .nil))
  (.set 0 (.nm 3) (.call "_law_mixed" (.cons (.v 0) (.cons (.bin .Add (.call "_law_arrows" (.cons (.v 2) .nil)) (.lst 1 (.cons (.tup (.cons (.c (.int 0)) (.cons (.c (.int 1)) .nil))) .nil))) .nil))))
  .nop)
  (.seq (.for_ (.nm 4) (.rng (.c (.int 0)) (.c (.int 20))) B1_law_clashes_judged)
  (.ret (.c (.bool true))))))⟩
-- 0:box 1:many 2:row 3:which 4:found 5:at 6:arrow
def T_law_bent_arrows : Fn := ⟨⟨[.mt 1, .fz, .fz, .fz], 0⟩, 7,
  (.seq (.set 1 (.nm 4) (.b1 .list (.v 2)))
  (.seq (.ife (.cmp .Eq (.v 3) (.c (.int 9)))
  (.set 1 (.nm 4) (.comp 1 (.tup (.cons (.ix (.v 6) (.c (.int 1))) (.cons (.ix (.v 6) (.c (.int 0))) .nil))) (.nm 6) (.it (.v 4)) (.c (.bool true)) [6]))
  .nop)
  (.seq (.ife (.tor (.cmp .Eq (.v 4) (.lst 1 .nil)) (.tor (.cmp .Eq (.v 3) (.c (.int 0))) (.cmp .Gt (.v 3) (.c (.int 8)))))
  (.ret (.v 4))
  .nop)
  (.seq (.set 0 (.nm 5) (.call "_law_draw" (.cons (.v 0) (.cons (.b1 .len (.v 4)) .nil))))
  (.seq (.set 0 (.nm 6) (.ix (.v 4) (.v 5)))
  (.seq (.ife (.cmp .Lt (.v 3) (.c (.int 3)))
  (.sets 4 .nil (.v 5) (.tup (.cons (.ix (.v 6) (.c (.int 1))) (.cons (.ix (.v 6) (.c (.int 0))) .nil))))
  (.ife (.cmp .Eq (.v 3) (.c (.int 3)))
  (.drop (.pop 4 .nil (.v 5)))
  (.ife (.cmp .Eq (.v 3) (.c (.int 4)))
  (.drop (.app 4 .nil (.tup (.cons (.ix (.v 6) (.c (.int 1))) (.cons (.ix (.v 6) (.c (.int 0))) .nil)))))
  (.ife (.cmp .Eq (.v 3) (.c (.int 5)))
  (.sets 4 .nil (.v 5) (.tup (.cons (.ix (.v 6) (.c (.int 0))) (.cons (.v 1) .nil))))
  (.ife (.cmp .Eq (.v 3) (.c (.int 6)))
  (.drop (.app 4 .nil (.v 6)))
  (.ife (.cmp .Eq (.v 3) (.c (.int 7)))
  (.sets 4 .nil (.v 5) (.tup (.cons (.ix (.v 6) (.c (.int 0))) (.cons (.ix (.v 6) (.c (.int 0))) .nil))))
  (.ife (.cmp .Eq (.v 3) (.c (.int 8)))
  (.sets 4 .nil (.v 5) (.tup (.cons (.call "_law_draw" (.cons (.v 0) (.cons (.v 1) .nil))) (.cons (.call "_law_draw" (.cons (.v 0) (.cons (.v 1) .nil))) .nil))))
  .nop)))))))
  (.ret (.v 4))))))))⟩
-- 0:box 1:many 2:pairs 3:row 4:which 5:bent 6:handed
def B1_law_arrows_judged : Sm := (.seq (.set 0 (.nm 5) (.call "_law_bent_arrows" (.cons (.v 0) (.cons (.v 1) (.cons (.v 3) (.cons (.v 4) .nil))))))
  (.seq (.ife (.cmp .Eq (.bin .Mod (.b1 .int (.v 4)) (.c (.int 2))) (.c (.int 0)))
  (.set 0 (.nm 5) (.b1 .sorted (.v 5)))
  .nop)
  (.seq (.set 0 (.nm 6) (.b1 .list (.v 5)))
  (.seq (.ife (.tnot (.call "_law_same" (.cons (.call "is_straight" (.cons (.v 6) .nil)) (.cons (.call "_law_is_straight" (.cons (.v 5) .nil)) .nil))))
  (.ret (.c (.bool false)))
  .nop)
  (.ife (.tor (.tnot (.call "_law_same" (.cons (.call "shows_directed" (.cons (.b1 .list (.v 2)) (.cons (.v 6) .nil))) (.cons (.call "_law_directs" (.cons (.v 2) (.cons (.v 5) .nil))) .nil)))) (.tnot (.call "_law_same" (.cons (.v 6) (.cons (.v 5) .nil)))))
  (.ret (.c (.bool false)))
  .nop)))))
def T_law_arrows_judged : Fn := ⟨⟨[.mt 1, .fz, .fz, .fz], 0⟩, 7,
  (.seq (.for_ (.nm 4) (.rng (.c (.int 0)) (.c (.int 11))) B1_law_arrows_judged)
  (.ret (.c (.bool true))))⟩
-- 0:script 1:box 2:many 3:names 4:pairs 5:low 6:high 7:loose 8:waits 9:plain 10:k 11:one 12:other
def B1_law28 : Sm := (.ife (.tand (.cmp .NotIn (.tup (.cons (.v 5) (.cons (.v 6) .nil))) (.v 4)) (.cmp .Eq (.call "_law_draw" (.cons (.v 1) (.cons (.c (.int 4)) .nil))) (.c (.int 0))))
  (.drop (.app 4 .nil (.tup (.cons (.v 5) (.cons (.v 6) .nil)))))
  .nop)
def T_law28 : Fn := ⟨⟨[.fz], 0⟩, 13,
  (.seq (.set 1 (.nm 1) (.lst 1 (.cons (.call "_law_digits" (.cons (.v 0) (.cons (.c (.int 0)) (.cons (.c (.int 22)) .nil)))) (.cons (.c (.int 0)) .nil))))
  (.seq (.set 0 (.nm 2) (.bin .Add (.c (.int 5)) (.call "_law_draw" (.cons (.v 1) (.cons (.c (.int 2)) .nil)))))
  (.seq (.set 0 (.nm 3) (.call "_law_mixed" (.cons (.v 1) (.cons (.lst1 (.rng (.c (.int 0)) (.v 2))) .nil))))
  (.seq (.set 1 (.nm 4) (.comp 1 (.tup (.cons (.b2 .min (.ix (.v 3) (.v 10)) (.ix (.v 3) (.bin .Mod (.bin .Add (.v 10) (.c (.int 1))) (.c (.int 5))))) (.cons (.b2 .max (.ix (.v 3) (.v 10)) (.ix (.v 3) (.bin .Mod (.bin .Add (.v 10) (.c (.int 1))) (.c (.int 5))))) .nil))) (.nm 10) (.rng (.c (.int 0)) (.c (.int 5))) (.c (.bool true)) [10]))
  (.seq (.for_ (.cons (.nm 5) (.cons (.nm 6) .nil)) (.it (.call "_law_pairs" (.cons (.v 1) (.cons (.v 2) .nil)))) B1_law28)
  (.seq (.set 1 (.nm 4) (.b1 .sorted (.v 4)))
  (.seq (.ife (.cmp .Eq (.call "_law_draw" (.cons (.v 1) (.cons (.c (.int 4)) .nil))) (.c (.int 0)))
  (.set 1 (.nm 4) (.call "_law_pairs" (.cons (.v 1) (.cons (.v 2) .nil))))
  .nop)
  (.seq (.ife (.tnot (.call "_law_clashes_judged" (.cons (.v 1) (.cons (.v 2) (.cons (.v 4) .nil)))))
  (.ret (.c (.bool false)))
  .nop)
  (.seq (.set 0 (.nm 7) (.comp 1 (.call "_law_pick" (.cons (.v 1) (.cons (.lst 1 (.cons (.tup (.cons (.v 5) (.cons (.v 6) .nil))) (.cons (.tup (.cons (.v 6) (.cons (.v 5) .nil))) .nil))) .nil))) (.cons (.nm 5) (.cons (.nm 6) .nil)) (.it (.v 4)) (.c (.bool true)) [5, 6]))
  (.seq (.ife (.tnot (.call "_law_arrows_judged" (.cons (.v 1) (.cons (.v 2) (.cons (.v 4) (.cons (.v 7) .nil))))))
  (.ret (.c (.bool false)))
  .nop)
  (.seq (.set 0 (.nm 8) (.ix (.call "_law_closed" (.cons (.call "_law_less" (.cons (.call "_law_works" (.cons (.v 1) (.cons (.v 2) .nil))) .nil)) .nil)) (.c (.int 1))))
  (.seq (.set 0 (.nm 9) (.b1 .sorted (.comp 1 (.tup (.cons (.b2 .min (.v 11) (.v 12)) (.cons (.b2 .max (.v 11) (.v 12)) .nil))) (.cons (.nm 11) (.cons (.nm 12) .nil)) (.it (.v 8)) (.c (.bool true)) [11, 12])))
  (.ret (.vand (.call "_law_arrows_judged" (.cons (.v 1) (.cons (.v 2) (.cons (.v 9) (.cons (.b1 .list (.v 8)) .nil))))) (.cmp .Is (.call "shows_directed" (.cons (.b1 .list (.v 9)) (.cons (.b1 .list (.v 8)) .nil))) (.c (.bool true)))))))))))))))))⟩
end VL
/-! k28: the judges, both ways -/
namespace VL
open PySem
local macro_rules | `(tactic| walk_at "go") => `(tactic| simp [s_c, s_v, s_bin, s_cmp, s_ix, s_un, s_not, s_tand, s_tor, s_vand, s_vor, s_ife, s_chn, s_nil, s_cons, s_tup, s_lst, s_sl, s_b1, s_b2, s_isi, s_m1, s_it, s_rng, s_rngd, s_rrng, s_enum, s_zip, s_rev, s_lst1, s_tup1, s_comp, s_comp2, s_ags0, s_ags, s_pop, s_app, s_ins, s_ext, x_set, x_nop, x_brk, x_cont, x_seq, x_if, x_ret, x_drop, x_sets, x_aug, x_par, setT_nm, setT_tup, bindT_nm, bindT_tup, bindTs_cons, bindTs_nil, wipeS, backS, lockE, unl_eq, stF, stores, tgHas, *])
def nrm (a b : Int) : Int × Int := (min a b, max a b)
def frc (ps : List (Int × Int)) (a o : Int × Int) : Bool := if a = o then false else if a.1 = o.1 then decide (nrm a.2 o.2 ∉ ps) else if a.2 = o.2 then decide (nrm a.1 o.1 ∉ ps) else false
def onp (ps : List (Int × Int)) (p : Int × Int) : Bool := decide (p.1 ≠ p.2) && decide (nrm p.1 p.2 ∈ ps)
def prs (ps : List (Int × Int)) : D := .list (ps.map prD)
theorem min_if' {x y : Int} : (if y < x then y else x) = min x y := min_if
theorem max_if' {x y : Int} : (if x < y then y else x) = max x y := by
  rw [Int.max_def]
  split <;> split <;> omega
theorem inD_prs {p : Int × Int} {ps : List (Int × Int)} : inD (.tuple [.int p.1, .int p.2]) (.list (ps.map prD)) = .ok (decide (p ∈ ps)) :=
  inD_list (n := 1) (x := prD p) Tame.pair (fun y hy => by
    obtain ⟨q, _, rfl⟩ := List.mem_map.mp hy
    exact Tame.pair) (by decide) mem_prD
theorem inD_nrm {a b : Int} {ps : List (Int × Int)} : inD (.tuple [.int (min a b), .int (max a b)]) (.list (ps.map prD)) = .ok (decide (nrm a b ∈ ps)) := inD_prs (p := nrm a b)
theorem inD_mk {a b : Int} {ps : List (Int × Int)} : inD (.tuple [.int a, .int b]) (.list (ps.map prD)) = .ok (decide ((a, b) ∈ ps)) := inD_prs (p := (a, b))
theorem eqD_pr {p q : Int × Int} : eqD (.tuple [.int p.1, .int p.2]) (.tuple [.int q.1, .int q.2]) = .ok (decide (p = q)) :=
  eqD_tame (n := 1) (a := prD p) (b := prD q) Tame.pair Tame.pair (by decide) ⟨fun h => prD_inj h, fun h => by rw [h]⟩
section
variable {P : Str → Option Fn} {k : Nat}
theorem is_pair_ok (hP : P "is_pair" = some T_is_pair) {ps : List (Int × Int)} {a b : Int} : cl P k "is_pair" [.list (ps.map prD), .int a, .int b] = .ok (.bool (decide (nrm a b ∈ ps)), []) := by
  rw [cl_eq hP]
  simp only [T_is_pair]
  have h := inD_nrm (a := a) (b := b) (ps := ps)
  rw [← min_if', ← max_if'] at h
  walk_at "go"
theorem forces_ok (hI : P "is_pair" = some T_is_pair) (hP : P "forces" = some T_forces) {ps : List (Int × Int)} {a o : Int × Int} : cl P (k + 1) "forces" [.list (ps.map prD), prD a, prD o] = .ok (.bool (frc ps a o), []) := by
  obtain ⟨a1, a2⟩ := a
  obtain ⟨o1, o2⟩ := o
  rw [cl_eq hP]
  simp only [T_forces, prD]
  have he := eqD_pr (p := (a1, a2)) (q := (o1, o2))
  have c1 := fun es r => @s_call2 r P k "is_pair" T_is_pair ⟨[.fz, .fz, .fz], 0⟩ es hI rfl
  have d1 := @is_pair_ok P k hI ps a2 o2
  have d2 := @is_pair_ok P k hI ps a1 o1
  unfold frc
  by_cases h1 : a1 = o1
  · subst h1
    by_cases h2 : a2 = o2
    · subst h2
      walk_at "go"
    · walk_at "go"
  · by_cases h2 : a2 = o2
    · subst h2
      walk_at "go"
    · walk_at "go"
theorem lforces_ok (hP : P "_law_forces" = some T_law_forces) {ps : List (Int × Int)} {a o : Int × Int} : cl P k "_law_forces" [.list (ps.map prD), prD a, prD o] = .ok (.bool (frc ps a o), []) := by
  obtain ⟨a1, a2⟩ := a
  obtain ⟨o1, o2⟩ := o
  rw [cl_eq hP]
  simp only [T_law_forces, prD]
  have d1 := inD_nrm (a := a2) (b := o2) (ps := ps)
  have d2 := inD_nrm (a := a1) (b := o1) (ps := ps)
  rw [← min_if', ← max_if'] at d1 d2
  unfold frc
  by_cases h1 : a1 = o1
  · subst h1
    by_cases h2 : a2 = o2
    · subst h2
      walk_at "go"
    · walk_at "go"
  · by_cases h2 : a2 = o2
    · subst h2
      walk_at "go"
    · walk_at "go"
theorem cut1 {A : Type} {xs : List A} : cutX xs (some 1) none = xs.tail := by
  rw [← List.drop_one]
  unfold cutX
  have e : HT.sIx xs.length 0 (some 1) = min 1 xs.length := HT.sIx_nat xs.length 0 1
  rw [e]
  show (xs.drop (min 1 xs.length)).take (xs.length - min 1 xs.length) = _
  cases xs with
  | nil => rfl
  | cons x xs =>
    have e2 : min 1 (x :: xs).length = 1 := by rw [List.length_cons]; omega
    rw [e2]
    exact List.take_of_length_le (by rw [List.length_drop]; omega)
def prP (q : (Int × Int) × (Int × Int)) : D := .tuple [prD q.1, prD q.2]
theorem zip_prs {xs ys : List (Int × Int)} : zipL (xs.map prD) (ys.map prD) = (xs.zip ys).map prP := by
  induction xs generalizing ys with
  | nil => rfl
  | cons x xs ih =>
    cases ys with
    | nil => rfl
    | cons y ys => simp only [List.map_cons, zipL, List.zip_cons_cons, ih]; rfl
def shn (ps row : List (Int × Int)) : Bool := decide (2 ≤ row.length) && (row.all (onp ps) && (decide (row.getLast?.map Prod.swap = row.head?) && (row.zip (row.tail)).all fun q => frc ps q.1 q.2))
theorem last_prs {h : Int × Int} {t : List (Int × Int)} : ∃ l : Int × Int, (h :: t).getLast? = some l ∧ L2.atI (prD h :: t.map prD) (-1) = some (.tuple [.int l.1, .int l.2]) := by
  refine ⟨(h :: t).getLast (by simp), List.getLast?_eq_some_getLast _, ?_⟩
  rw [← List.map_cons, atI_neg1 (by simp), List.getLast?_map, List.getLast?_eq_some_getLast (l := h :: t) (by simp)]
  rfl
theorem shows_clash_ok (hI : P "is_pair" = some T_is_pair) (hF : P "forces" = some T_forces) (hP : P "shows_clash" = some T_shows_clash) {ps row : List (Int × Int)} (hl : row.length < 10000) : cl P (k + 2) "shows_clash" [.list (ps.map prD), .tuple (row.map prD)] = .ok (.bool (shn ps row), []) := by
  rw [cl_eq hP]
  simp only [T_shows_clash]
  have c1 := fun es r => @s_call2 r P (k + 1) "is_pair" T_is_pair ⟨[.fz, .fz, .fz], 0⟩ es hI rfl
  have c2 := fun es r => @s_call2 r P (k + 1) "forces" T_forces ⟨[.fz, .fz, .fz], 0⟩ es hF rfl
  have m1 : ∀ s2, free1 s2 → mapL (turnF (prog P (k + 2)) 1 0 (.vand (.cmp .NotEq (.v 4) (.v 3)) (.call "is_pair" (.cons (.v 0) (.cons (.v 4) (.cons (.v 3) .nil))))) (.cons (.nm 4) (.cons (.nm 3) .nil)) (.c (.bool true)) [4, 3]) (row.map prD) [.fz (.list (ps.map prD)), .fz (.tuple (row.map prD)), s2, .no, .no] = .ok ((row.map (onp ps)).map .bool, [.fz (.list (ps.map prD)), .fz (.tuple (row.map prD)), s2, .no, .no]) := fun s2 f2 => by
    rw [mapL_all (g := fun x => .bool (onp ps x)) (fun x hx => ?_)]
    · rw [List.map_map]; rfl
    · obtain ⟨x1, x2⟩ := x
      have d1 := @is_pair_ok P (k + 1) hI ps x1 x2
      rw [s_turn]
      simp only [prD, onp]
      by_cases h : x1 = x2
      · subst h
        walk_at "go"
      · walk_at "go"
  have m2 : mapL (turnF (prog P (k + 2)) 1 0 (.call "forces" (.cons (.v 0) (.cons (.v 2) (.cons (.v 3) .nil)))) (.cons (.nm 2) (.cons (.nm 3) .nil)) (.c (.bool true)) [2, 3]) ((row.zip (row.tail)).map prP) [.fz (.list (ps.map prD)), .fz (.tuple (row.map prD)), .no, .no, .no] = .ok (((row.zip (row.tail)).map fun q => frc ps q.1 q.2).map .bool, [.fz (.list (ps.map prD)), .fz (.tuple (row.map prD)), .no, .no, .no]) := by
    rw [mapL_all (g := fun q => .bool (frc ps q.1 q.2)) (fun q hq => ?_)]
    · rw [List.map_map]; rfl
    · have d1 := @forces_ok P k hI hF ps q.1 q.2
      rw [s_turn]
      simp only [prP]
      walk_at "go"
  replace m1 := m1 .no trivial
  have hz := zip_prs (xs := row) (ys := row.tail)
  rw [List.map_tail] at hz
  have hc := cut1 (xs := row.map prD)
  have hb1 := allBl_bools (row.map (onp ps))
  have hb2 := allBl_bools ((row.zip (row.tail)).map fun q => frc ps q.1 q.2)
  have hl1 : row.length < lim := lenlim (by omega)
  by_cases hlen : row.length < 2
  · have hn2 : (row.length : Int) < 2 := by omega
    have hn3 : decide (2 ≤ row.length) = false := decide_eq_false (by omega)
    unfold shn
    rw [hn3]
    walk_at "go"
  have hends : ∃ h l : Int × Int, L2.atI (row.map prD) 0 = some (.tuple [.int h.1, .int h.2]) ∧ L2.atI (row.map prD) (-1) = some (.tuple [.int l.1, .int l.2]) ∧ row.head? = some h ∧ row.getLast? = some l := by
    cases row with
    | nil => simp at hlen
    | cons h t =>
      obtain ⟨l, e1, e2⟩ := last_prs (h := h) (t := t)
      exact ⟨h, l, by rw [List.map_cons, atI_0]; rfl, e2, rfl, e1⟩
  obtain ⟨h, l, e0, e1, e2, e3⟩ := hends
  have he := eqD_pr (p := l) (q := (h.2, h.1))
  dsimp only at he
  have hn2 : ¬ ((row.length : Int) < 2) := by omega
  have hsw : decide (row.getLast?.map Prod.swap = row.head?) = decide (l = (h.2, h.1)) := by
    rw [e2, e3, decide_eq_decide]
    simp only [Option.map_some, Option.some.injEq, Prod.swap]
    constructor
    · intro z; rw [← z]
    · intro z; rw [z]
  have hn3 : decide (2 ≤ row.length) = true := decide_eq_true (by omega)
  have hb3 : (row.map (onp ps)).all id = row.all (onp ps) := by rw [List.all_map]; rfl
  have hb4 : ((row.zip (row.tail)).map fun q => frc ps q.1 q.2).all id = (row.zip (row.tail)).all fun q => frc ps q.1 q.2 := by rw [List.all_map]; rfl
  have hzl : (row.zip (row.tail)).length < lim := lenlim (by rw [List.length_zip, List.length_tail]; omega)
  unfold shn
  rw [hsw, hn3]
  clear hsw hn3 e2 e3 hlen
  have hB1 : (row.map (onp ps)).length < lim := by rw [List.length_map]; exact hl1
  have hB2 : ((row.zip (row.tail)).map fun q => frc ps q.1 q.2).length < lim := by rw [List.length_map]; exact hzl
  generalize (row.zip (row.tail)).map (fun q => frc ps q.1 q.2) = B2 at m2 hb2 hb4 hB2
  generalize row.map (onp ps) = B1 at m1 hb1 hb3 hB1
  rw [← hb3, ← hb4]
  clear hb3 hb4 hP hI hF
  cases hv : B1.all id with
  | false => walk_at "go"
  | true =>
    by_cases hle : l = (h.2, h.1)
    · have hd : decide (l = (h.2, h.1)) = true := decide_eq_true hle
      rw [hd] at he ⊢
      clear hd hle
      walk_at "go"
    · have hd : decide (l = (h.2, h.1)) = false := decide_eq_false hle
      rw [hd] at he ⊢
      clear hd hle
      walk_at "go"
def strB (ar : List (Int × Int)) : Bool := ar.all fun p => ar.all fun q => !(decide (p.2 = q.1) && !decide ((p.1, q.2) ∈ ar))
theorem is_straight_ok (hP : P "is_straight" = some T_is_straight) {ar : List (Int × Int)} : cl P k "is_straight" [.list (ar.map prD)] = .ok (.bool (strB ar), []) := by
  rw [cl_eq hP]
  simp only [T_is_straight]
  obtain ⟨s, ⟨s1, s2, s3, s4, rfl⟩, hx⟩ := for_chk (G := prog P k) (rm := 0) (r := [.fz (.list (ar.map prD)), .no, .no, .no, .no]) (r0 := [.fz (.list (ar.map prD)), .no, .no, .no, .no]) (enc := prD) (xs := ar) (m := 0) (t := .cons (.nm 1) (.cons (.nm 2) .nil)) (it := .it (.v 0)) (b := B2_is_straight)
    (fun p => ar.all fun q => !(decide (p.2 = q.1) && !decide ((p.1, q.2) ∈ ar))) (fun s => ∃ s1 s2 s3 s4, s = [.fz (.list (ar.map prD)), s1, s2, s3, s4] ∧ free1 s1 ∧ free1 s2 ∧ free1 s3 ∧ free1 s4) (fun s => ∃ s1 s2 s3 s4, s = [.fz (.list (ar.map prD)), s1, s2, s3, s4]) rfl (by walk_at "go") ⟨.no, .no, .no, .no, rfl, trivial, trivial, trivial, trivial⟩
    (by
      rintro ⟨a1, a2⟩ ha s ⟨s1, s2, s3, s4, rfl, f1, f2, f3, f4⟩
      have p1 := fun i s r => put1_free (i := i) (s := s) (r := r) f1
      have p2 := fun i s r => put1_free (i := i) (s := s) (r := r) f2
      obtain ⟨s', ⟨t3, t4, rfl, g3, g4⟩, hy⟩ := for_chk (G := prog P k) (rm := 0) (r := [.fz (.list (ar.map prD)), .fz (.int a1), .fz (.int a2), s3, s4]) (r0 := [.fz (.list (ar.map prD)), .fz (.int a1), .fz (.int a2), s3, s4]) (enc := prD) (xs := ar) (m := 0) (t := .cons (.nm 3) (.cons (.nm 4) .nil)) (it := .it (.v 0)) (b := B1_is_straight)
        (fun q => !(decide (a2 = q.1) && !decide ((a1, q.2) ∈ ar))) (fun s => ∃ s3 s4, s = [.fz (.list (ar.map prD)), .fz (.int a1), .fz (.int a2), s3, s4] ∧ free1 s3 ∧ free1 s4) (fun s => ∃ s3 s4, s = [.fz (.list (ar.map prD)), .fz (.int a1), .fz (.int a2), s3, s4] ∧ free1 s3 ∧ free1 s4) rfl (by walk_at "go") ⟨s3, s4, rfl, f3, f4⟩
        (by
          rintro ⟨b1, b2⟩ hb s ⟨t3, t4, rfl, g3, g4⟩
          have p3 := fun i s r => put1_free (i := i) (s := s) (r := r) g3
          have p4 := fun i s r => put1_free (i := i) (s := s) (r := r) g4
          have hi := inD_mk (a := a1) (b := b2) (ps := ar)
          refine ⟨[.fz (.list (ar.map prD)), .fz (.int a1), .fz (.int a2), .fz (.int b1), .fz (.int b2)], ⟨_, _, rfl, trivial, trivial⟩, ?_⟩
          rw [x_body, B1_is_straight]
          simp only [prD]
          by_cases h1 : a2 = b1
          · by_cases h2 : (a1, b2) ∈ ar
            · walk_at "go"
            · walk_at "go"
          · walk_at "go")
        (by
          rintro s ⟨t3, t4, rfl, g3, g4⟩
          exact ⟨t3, t4, rfl, g3, g4⟩)
      refine ⟨[.fz (.list (ar.map prD)), .fz (.int a1), .fz (.int a2), t3, t4], ⟨_, _, t3, t4, rfl, trivial, trivial, g3, g4⟩, ?_⟩
      rw [x_body, B2_is_straight]
      simp only [prD]
      walk_at "go")
    (by
      rintro s ⟨s1, s2, s3, s4, rfl, _⟩
      exact ⟨s1, s2, s3, s4, rfl⟩)
  have e : strB ar = ar.all fun p => ar.all fun q => !(decide (p.2 = q.1) && !decide ((p.1, q.2) ∈ ar)) := rfl
  rw [← e] at hx
  cases hv : strB ar with
  | true => rw [hv] at hx; walk_at "go"
  | false => rw [hv] at hx; walk_at "go"
theorem lstraight_ok (hP : P "_law_is_straight" = some T_law_is_straight) {ar : List (Int × Int)} : cl P k "_law_is_straight" [.list (ar.map prD)] = .ok (.bool (strB ar), []) := by
  rw [cl_eq hP]
  simp only [T_law_is_straight]
  obtain ⟨s, ⟨s1, s2, rfl⟩, hx⟩ := for_chk (G := prog P k) (rm := 0) (r := [.fz (.list (ar.map prD)), .no, .no]) (r0 := [.fz (.list (ar.map prD)), .no, .no]) (enc := prD) (xs := ar) (m := 0) (t := .nm 1) (it := .it (.v 0)) (b := B2_law_is_straight)
    (fun p => ar.all fun q => !(decide (p.2 = q.1) && !decide ((p.1, q.2) ∈ ar))) (fun s => ∃ s1 s2, s = [.fz (.list (ar.map prD)), s1, s2] ∧ free1 s1 ∧ free1 s2) (fun s => ∃ s1 s2, s = [.fz (.list (ar.map prD)), s1, s2]) rfl (by walk_at "go") ⟨.no, .no, rfl, trivial, trivial⟩
    (by
      rintro ⟨a1, a2⟩ ha s ⟨s1, s2, rfl, f1, f2⟩
      have p1 := fun i s r => put1_free (i := i) (s := s) (r := r) f1
      obtain ⟨s', ⟨t2, rfl, g2⟩, hy⟩ := for_chk (G := prog P k) (rm := 0) (r := [.fz (.list (ar.map prD)), .fz (prD (a1, a2)), s2]) (r0 := [.fz (.list (ar.map prD)), .fz (prD (a1, a2)), s2]) (enc := prD) (xs := ar) (m := 0) (t := .nm 2) (it := .it (.v 0)) (b := B1_law_is_straight)
        (fun q => !(decide (a2 = q.1) && !decide ((a1, q.2) ∈ ar))) (fun s => ∃ s2, s = [.fz (.list (ar.map prD)), .fz (prD (a1, a2)), s2] ∧ free1 s2) (fun s => ∃ s2, s = [.fz (.list (ar.map prD)), .fz (prD (a1, a2)), s2] ∧ free1 s2) rfl (by walk_at "go") ⟨s2, rfl, f2⟩
        (by
          rintro ⟨b1, b2⟩ hb s ⟨t2, rfl, g2⟩
          have p2 := fun i s r => put1_free (i := i) (s := s) (r := r) g2
          have hi := inD_mk (a := a1) (b := b2) (ps := ar)
          refine ⟨[.fz (.list (ar.map prD)), .fz (prD (a1, a2)), .fz (prD (b1, b2))], ⟨_, rfl, trivial⟩, ?_⟩
          rw [x_body, B1_law_is_straight]
          simp only [prD]
          by_cases h1 : a2 = b1
          · by_cases h2 : (a1, b2) ∈ ar
            · walk_at "go"
            · walk_at "go"
          · walk_at "go")
        (by
          rintro s ⟨t2, rfl, g2⟩
          exact ⟨t2, rfl, g2⟩)
      refine ⟨[.fz (.list (ar.map prD)), .fz (prD (a1, a2)), t2], ⟨_, t2, rfl, trivial, g2⟩, ?_⟩
      rw [x_body, B2_law_is_straight]
      walk_at "go")
    (by
      rintro s ⟨s1, s2, rfl, _⟩
      exact ⟨s1, s2, rfl⟩)
  have e : strB ar = ar.all fun p => ar.all fun q => !(decide (p.2 = q.1) && !decide ((p.1, q.2) ∈ ar)) := rfl
  rw [← e] at hx
  cases hv : strB ar with
  | true => rw [hv] at hx; walk_at "go"
  | false => rw [hv] at hx; walk_at "go"
theorem eqD_prs {ps qs : List (Int × Int)} : eqD (.list (ps.map prD)) (.list (qs.map prD)) = .ok (decide (ps = qs)) :=
  eqD_tame (n := 2) (.list fun x hx => by obtain ⟨q, _, rfl⟩ := List.mem_map.mp hx; exact Tame.pair) (.list fun x hx => by obtain ⟨q, _, rfl⟩ := List.mem_map.mp hx; exact Tame.pair) (by decide) (by
    constructor
    · intro h
      injection h with h
      exact (List.map_inj_right fun a b => prD_inj).mp h
    · intro h; rw [h])
def dirB (ps ar : List (Int × Int)) : Bool := decide (sortP (ar.map fun p => nrm p.1 p.2) = sortP ps) && strB ar
theorem directed_ok (hS : P "is_straight" = some T_is_straight) (hP : P "shows_directed" = some T_shows_directed) {ps ar : List (Int × Int)} (hl : ar.length < 10000) : cl P (k + 1) "shows_directed" [.list (ps.map prD), .list (ar.map prD)] = .ok (.bool (dirB ps ar), []) := by
  rw [cl_eq hP]
  simp only [T_shows_directed]
  have c1 := fun es r => @s_call2 r P k "is_straight" T_is_straight ⟨[.fz], 0⟩ es hS rfl
  have d1 := @is_straight_ok P k hS ar
  have m1 : mapL (turnF (prog P (k + 1)) 1 0 (.tup (.cons (.b2 .min (.v 3) (.v 4)) (.cons (.b2 .max (.v 3) (.v 4)) .nil))) (.cons (.nm 3) (.cons (.nm 4) .nil)) (.c (.bool true)) [3, 4]) (ar.map prD) [.fz (.list (ps.map prD)), .fz (.list (ar.map prD)), .no, .no, .no] = .ok ((ar.map fun p => nrm p.1 p.2).map prD, [.fz (.list (ps.map prD)), .fz (.list (ar.map prD)), .no, .no, .no]) := by
    rw [mapL_all (g := fun p => prD (nrm p.1 p.2)) (fun p hp => ?_)]
    · rw [List.map_map]; rfl
    · rw [s_turn]
      simp only [prD, nrm, ← min_if', ← max_if']
      walk_at "go"
  have hl1 : (ar.map fun p => nrm p.1 p.2).length < lim := lenlim (by rw [List.length_map]; omega)
  have hs2 := b1_sortP (o := true) (n := 0) (ps := ps) rfl
  unfold dirB
  generalize (ar.map fun p => nrm p.1 p.2) = nr at *
  have hs1 := b1_sortP (o := true) (n := 1) (ps := nr) rfl
  have he := eqD_prs (ps := sortP nr) (qs := sortP ps)
  cases hv : decide (sortP nr = sortP ps) with
  | true => rw [hv] at he; walk_at "go"
  | false => rw [hv] at he; walk_at "go"
theorem ldirects_ok (hS : P "_law_is_straight" = some T_law_is_straight) (hP : P "_law_directs" = some T_law_directs) {ps ar : List (Int × Int)} (hl : ar.length < 10000) : cl P (k + 1) "_law_directs" [.list (ps.map prD), .list (ar.map prD)] = .ok (.bool (dirB ps ar), []) := by
  rw [cl_eq hP]
  simp only [T_law_directs]
  have c1 := fun es r => @s_call2 r P k "_law_is_straight" T_law_is_straight ⟨[.fz], 0⟩ es hS rfl
  have d1 := @lstraight_ok P k hS ar
  have m1 : mapL (turnF (prog P (k + 1)) 1 0 (.tup (.cons (.b2 .min (.v 3) (.v 4)) (.cons (.b2 .max (.v 3) (.v 4)) .nil))) (.cons (.nm 3) (.cons (.nm 4) .nil)) (.c (.bool true)) [3, 4]) (ar.map prD) [.fz (.list (ps.map prD)), .fz (.list (ar.map prD)), .no, .no, .no] = .ok ((ar.map fun p => nrm p.1 p.2).map prD, [.fz (.list (ps.map prD)), .fz (.list (ar.map prD)), .no, .no, .no]) := by
    rw [mapL_all (g := fun p => prD (nrm p.1 p.2)) (fun p hp => ?_)]
    · rw [List.map_map]; rfl
    · rw [s_turn]
      simp only [prD, nrm, ← min_if', ← max_if']
      walk_at "go"
  have hl1 : (ar.map fun p => nrm p.1 p.2).length < lim := lenlim (by rw [List.length_map]; omega)
  have hs2 := b1_sortP (o := true) (n := 0) (ps := ps) rfl
  unfold dirB
  generalize (ar.map fun p => nrm p.1 p.2) = nr at *
  have hs1 := b1_sortP (o := true) (n := 1) (ps := nr) rfl
  have he := eqD_prs (ps := sortP nr) (qs := sortP ps)
  cases hv : decide (sortP nr = sortP ps) with
  | true => rw [hv] at he; walk_at "go"
  | false => rw [hv] at he; walk_at "go"
theorem zip_rng {row : List (Int × Int)} {d : Int × Int} : row.zip row.tail = (List.range (row.length - 1)).map fun k => (row.getD k d, row.getD (k + 1) d) := by
  apply List.ext_getElem
  · rw [List.length_zip, List.length_map, List.length_range, List.length_tail]; omega
  · intro i h1 h2
    rw [List.length_map, List.length_range] at h2
    rw [List.getElem_zip, List.getElem_map, List.getElem_range, List.getElem_tail]
    simp only [List.getD_eq_getElem?_getD]
    rw [List.getElem?_eq_getElem (by omega), List.getElem?_eq_getElem (by omega)]
    rfl
theorem atI_getD {row : List (Int × Int)} {i : Nat} (h : i < row.length) : L2.atI (row.map prD) (i : Int) = some (prD (row.getD i (0, 0))) := by
  rw [atI_nat, List.getElem?_map, List.getD_eq_getElem?_getD, List.getElem?_eq_getElem h]
  rfl
theorem lclash_ok (hF : P "_law_forces" = some T_law_forces) (hP : P "_law_clash_shown" = some T_law_clash_shown) {ps row : List (Int × Int)} (hl : row.length < 10000) : cl P (k + 1) "_law_clash_shown" [.list (ps.map prD), .tuple (row.map prD)] = .ok (.bool (shn ps row), []) := by
  rw [cl_eq hP]
  simp only [T_law_clash_shown]
  by_cases hlen : row.length < 2
  · have hn2 : (row.length : Int) < 2 := by omega
    have hn3 : decide (2 ≤ row.length) = false := decide_eq_false (by omega)
    unfold shn
    rw [hn3]
    walk_at "go"
  have hn2 : ¬ ((row.length : Int) < 2) := by omega
  have hn3 : decide (2 ≤ row.length) = true := decide_eq_true (by omega)
  have hends : ∃ h l : Int × Int, L2.atI (row.map prD) 0 = some (.tuple [.int h.1, .int h.2]) ∧ L2.atI (row.map prD) (-1) = some (.tuple [.int l.1, .int l.2]) ∧ row.head? = some h ∧ row.getLast? = some l := by
    cases row with
    | nil => simp at hlen
    | cons h t =>
      obtain ⟨l, e1, e2⟩ := last_prs (h := h) (t := t)
      exact ⟨h, l, by rw [List.map_cons, atI_0]; rfl, e2, rfl, e1⟩
  obtain ⟨h, l, e0, e1, e2, e3⟩ := hends
  have hsw : decide (row.getLast?.map Prod.swap = row.head?) = (decide (l.1 = h.2) && decide (l.2 = h.1)) := by
    rw [e2, e3, ← Bool.decide_and, decide_eq_decide]
    obtain ⟨l1, l2⟩ := l
    obtain ⟨h1, h2⟩ := h
    simp only [Option.map_some, Option.some.injEq, Prod.swap, Prod.mk.injEq]
    exact And.comm
  obtain ⟨s, ⟨t2, t3, rfl, g2, g3⟩, hx⟩ := for_chk (G := prog P (k + 1)) (rm := 0) (r := [.fz (.list (ps.map prD)), .fz (.tuple (row.map prD)), .no, .no, .no]) (r0 := [.fz (.list (ps.map prD)), .fz (.tuple (row.map prD)), .no, .no, .no]) (enc := prD) (xs := row) (m := 0) (t := .cons (.nm 2) (.cons (.nm 3) .nil)) (it := .it (.v 1)) (b := B1_law_clash_shown)
    (onp ps) (fun s => ∃ s2 s3, s = [.fz (.list (ps.map prD)), .fz (.tuple (row.map prD)), s2, s3, .no] ∧ free1 s2 ∧ free1 s3) (fun s => ∃ s2 s3, s = [.fz (.list (ps.map prD)), .fz (.tuple (row.map prD)), s2, s3, .no] ∧ free1 s2 ∧ free1 s3) rfl (by walk_at "go") ⟨.no, .no, rfl, trivial, trivial⟩
    (by
      rintro ⟨a1, a2⟩ ha s ⟨s2, s3, rfl, f2, f3⟩
      have p2 := fun i s r => put1_free (i := i) (s := s) (r := r) f2
      have p3 := fun i s r => put1_free (i := i) (s := s) (r := r) f3
      have d1 := inD_nrm (a := a1) (b := a2) (ps := ps)
      rw [← min_if', ← max_if'] at d1
      refine ⟨[.fz (.list (ps.map prD)), .fz (.tuple (row.map prD)), .fz (.int a1), .fz (.int a2), .no], ⟨_, _, rfl, trivial, trivial⟩, ?_⟩
      rw [x_body, B1_law_clash_shown]
      simp only [prD, onp]
      by_cases h1 : a1 = a2
      · subst h1
        walk_at "go"
      · by_cases h2 : nrm a1 a2 ∈ ps
        · walk_at "go"
        · walk_at "go")
    (by
      rintro s ⟨s2, s3, rfl, f2, f3⟩
      exact ⟨s2, s3, rfl, f2, f3⟩)
  have hle : ((row.length : Int) - 1) = ((row.length - 1 : Nat) : Int) := by omega
  have hbn : bnd ((row.length - 1 : Nat) : Int) = true := bnd_nat (by omega)
  have c1 := fun es r => @s_call2 r P k "_law_forces" T_law_forces ⟨[.fz, .fz, .fz], 0⟩ es hF rfl
  obtain ⟨s, ⟨u4, rfl⟩, hy⟩ := for_chk (G := prog P (k + 1)) (rm := 0) (r := [.fz (.list (ps.map prD)), .fz (.tuple (row.map prD)), t2, t3, .no]) (r0 := [.fz (.list (ps.map prD)), .fz (.tuple (row.map prD)), t2, t3, .no]) (enc := fun (i : Nat) => PyData.int (i : Int)) (xs := List.range (row.length - 1)) (m := 0) (t := .nm 4) (it := .rng (.c (.int 0)) (.bin .Sub (.b1 .len (.v 1)) (.c (.int 1)))) (b := B2_law_clash_shown)
    (fun i => frc ps (row.getD i (0, 0)) (row.getD (i + 1) (0, 0))) (fun s => ∃ s4, s = [.fz (.list (ps.map prD)), .fz (.tuple (row.map prD)), t2, t3, s4] ∧ free1 s4) (fun s => ∃ s4, s = [.fz (.list (ps.map prD)), .fz (.tuple (row.map prD)), t2, t3, s4]) rfl (by
      have hr := rng0_at (n := row.length - 1)
      rw [← hr]
      walk_at "go") ⟨.no, rfl, trivial⟩
    (by
      rintro i hi s ⟨s4, rfl, f4⟩
      have hi := List.mem_range.mp hi
      have p4 := fun i s r => put1_free (i := i) (s := s) (r := r) f4
      have a1 := atI_getD (row := row) (i := i) (by omega)
      have a2 := atI_getD (row := row) (i := i + 1) (by omega)
      have a2 : L2.atI (row.map prD) ((i : Int) + 1) = some (prD (row.getD (i + 1) (0, 0))) := a2
      have d1 := @lforces_ok P k hF ps (row.getD i (0, 0)) (row.getD (i + 1) (0, 0))
      refine ⟨[.fz (.list (ps.map prD)), .fz (.tuple (row.map prD)), t2, t3, .fz (.int i)], ⟨_, rfl, trivial⟩, ?_⟩
      rw [x_body, B2_law_clash_shown]
      generalize row.getD i (0, 0) = q1 at *
      generalize row.getD (i + 1) (0, 0) = q2 at *
      cases hv : frc ps q1 q2 with
      | true => rw [hv] at d1; walk_at "go"
      | false => rw [hv] at d1; walk_at "go")
    (by
      rintro s ⟨s4, rfl, f4⟩
      exact ⟨s4, rfl⟩)
  have hzz : ((row.zip row.tail).all fun q => frc ps q.1 q.2) = (List.range (row.length - 1)).all fun i => frc ps (row.getD i (0, 0)) (row.getD (i + 1) (0, 0)) := by
    rw [zip_rng (d := (0, 0)), List.all_map]
    rfl
  unfold shn
  rw [hn3, hsw, hzz]
  generalize ((List.range (row.length - 1)).all fun i => frc ps (row.getD i (0, 0)) (row.getD (i + 1) (0, 0))) = Z at *
  generalize row.all (onp ps) = W at *
  clear hsw hzz hn3 c1 e2 e3
  cases W with
  | false =>
    simp only [Bool.false_eq_true, if_false] at hx
    walk_at "go"
  | true =>
    simp only [if_true] at hx
    by_cases k1 : l.1 = h.2
    · by_cases k2 : l.2 = h.1
      · have k3 : decide (l.1 = h.2) = true := decide_eq_true k1
        have k4 : decide (l.2 = h.1) = true := decide_eq_true k2
        rw [k3, k4]
        rw [k1, k2] at e1
        clear k1 k2 k3 k4
        cases Z with
        | false =>
          simp only [Bool.false_eq_true, if_false] at hy
          walk_at "go"
        | true =>
          simp only [if_true] at hy
          walk_at "go"
      · walk_at "go"
    · walk_at "go"
end
end VL
/-! k28: arrows bent and judged -/
namespace VL
open PySem
local macro_rules | `(tactic| walk_at "go") => `(tactic| simp [s_c, s_v, s_bin, s_cmp, s_ix, s_un, s_not, s_tand, s_tor, s_vand, s_vor, s_ife, s_chn, s_nil, s_cons, s_tup, s_lst, s_sl, s_b1, s_b2, s_isi, s_m1, s_it, s_rng, s_rngd, s_rrng, s_enum, s_zip, s_rev, s_lst1, s_tup1, s_comp, s_comp2, s_ags0, s_ags, s_pop, s_app, s_ins, s_ext, x_set, x_nop, x_brk, x_cont, x_seq, x_if, x_ret, x_drop, x_sets, x_aug, x_par, setT_nm, setT_tup, bindT_nm, bindT_tup, bindTs_cons, bindTs_nil, wipeS, backS, lockE, unl_eq, stF, stores, tgHas, *])
/-- pairs of small numbers -/
def Bdp (p : Int × Int) : Prop := p.1.natAbs < 1000 ∧ p.2.natAbs < 1000
def RB (L : Nat) (row : List (Int × Int)) : Prop := row.length ≤ L ∧ ∀ p ∈ row, Bdp p
theorem RB.set {L i : Nat} {row : List (Int × Int)} {p : Int × Int} (h : RB L row) (hp : Bdp p) : RB L (row.set i p) := ⟨by rw [List.length_set]; exact h.1, fun q hq => (List.mem_or_eq_of_mem_set hq).elim (h.2 q) fun e => by rw [e]; exact hp⟩
theorem RB.erase {L i : Nat} {row : List (Int × Int)} (h : RB L row) : RB L (row.eraseIdx i) := ⟨Nat.le_trans (List.length_eraseIdx_le _ _) h.1, fun q hq => h.2 q (List.mem_of_mem_eraseIdx hq)⟩
theorem RB.push {L : Nat} {row : List (Int × Int)} {p : Int × Int} (h : RB L row) (hp : Bdp p) : RB (L + 1) (row ++ [p]) := ⟨by rw [List.length_append]; exact Nat.succ_le_succ h.1, fun q hq => (List.mem_append.mp hq).elim (h.2 q) fun e => by rw [List.mem_singleton.mp e]; exact hp⟩
theorem RB.more {L M : Nat} {row : List (Int × Int)} (h : RB L row) (hm : L ≤ M) : RB M row := ⟨Nat.le_trans h.1 hm, h.2⟩
theorem RB.swap {L : Nat} {row : List (Int × Int)} (h : RB L row) : RB L (row.map Prod.swap) := ⟨by rw [List.length_map]; exact h.1, fun q hq => by
  obtain ⟨p, hp, rfl⟩ := List.mem_map.mp hq
  exact ⟨(h.2 p hp).2, (h.2 p hp).1⟩⟩
theorem at_prs {row : List (Int × Int)} {v : Int} (h0 : 0 ≤ v) (h1 : v < row.length) : ∃ (i : Nat) (a : Int × Int), v = i ∧ i < row.length ∧ a ∈ row ∧ row[i]? = some a ∧ L2.atI (row.map prD) (i : Int) = some (.tuple [.int a.1, .int a.2]) ∧ L2.ixN row.length (i : Int) = some i := by
  obtain ⟨i, rfl⟩ : ∃ i : Nat, v = i := ⟨v.toNat, by omega⟩
  have hi : i < row.length := by omega
  refine ⟨i, row[i], rfl, hi, List.getElem_mem _, List.getElem?_eq_getElem _, ?_, ?_⟩
  · rw [atI_nat, List.getElem?_map, List.getElem?_eq_getElem hi]
    rfl
  · have := ixN_at (n := row.length) (a := (i : Int)) ⟨by omega, by omega⟩
    simpa using this
theorem erase_map {A B : Type} {f : A → B} {l : List A} {i : Nat} : (l.map f).eraseIdx i = (l.eraseIdx i).map f := by
  rw [List.eraseIdx_eq_take_drop_succ, List.eraseIdx_eq_take_drop_succ, List.map_append, List.map_take, List.map_drop]
theorem pop_prs {row : List (Int × Int)} {i : Nat} {a : Int × Int} (hi : i < row.length) (hg : row[i]? = some a) (hix : L2.ixN row.length (i : Int) = some i) (hl : row.length < 100000 := by omega) : popL (some (i : Int)) (row.map prD) = .ok (.tuple [.int a.1, .int a.2], (row.map prD).eraseIdx i) := by
  rw [popL_at (by omega), List.length_map, hix, popK_some, List.getElem?_map, hg]
  rfl
section
variable {P : Str → Option Fn} {k : Nat}
theorem swap_map {row : List (Int × Int)} {G : Str → Option Fd} {s0 s1 s2 s3 s4 s5 : Sl} : mapL (turnF G 1 0 (.tup (.cons (.ix (.v 6) (.c (.int 1))) (.cons (.ix (.v 6) (.c (.int 0))) .nil))) (.nm 6) (.c (.bool true)) [6]) (row.map prD) [s0, s1, s2, s3, s4, s5, .no] =
    .ok ((row.map Prod.swap).map prD, [s0, s1, s2, s3, s4, s5, .no]) := by
  rw [mapL_all (g := fun p => prD p.swap) (fun p hp => ?_)]
  · rw [List.map_map]; rfl
  · rw [s_turn]
    simp only [prD, Prod.swap]
    walk_at "go"
theorem eqD_nil {row : List (Int × Int)} : eqD (.list (row.map prD)) (.list []) = .ok (decide (row = [])) := eqD_prs (qs := [])
theorem bent_arrows_ok (hB : HasDraw P) (hP : P "_law_bent_arrows" = some T_law_bent_arrows) {b : D} (hb : IsBox b) {n w : Nat} (hn0 : 0 < n) (hn : n < 100) (hw : w < 11) {row : List (Int × Int)} {L : Nat} (hL : L < 1000) (h : RB L row) :
    ∃ (row' : List (Int × Int)) (b' : D), cl P (k + 1) "_law_bent_arrows" [b, .int n, .list (row.map prD), .int w] = .ok (.list (row'.map prD), [b']) ∧ RB (L + 1) row' ∧ IsBox b' := by
  have c1 := @s_call2 (sg := ⟨[.mt 1, .fz], 0⟩) (h := hB.draw) (hs := rfl)
  have c2 := @pX_call2 (sg := ⟨[.mt 1, .fz], 0⟩) (h := hB.draw) (hs := rfl)
  have he := eqD_nil (row := row)
  have hel : elz false 0 (row.map prD) = true := elz_prs
  have hel2 : elz true 0 (row.map prD) = true := elz_prs
  have hl := h.1
  have hl1 : row.length < lim := lenlim (by omega)
  have hc : w = 9 ∨ (w = 0 ∨ w = 10) ∨ (1 ≤ w ∧ w ≤ 8) := by omega
  rcases hc with rfl | hc | hc
  · have he2 := eqD_nil (row := row.map Prod.swap)
    refine ⟨row.map Prod.swap, b, ?_, h.swap.more (by omega), hb⟩
    rw [cl_eq hP]
    simp only [T_law_bent_arrows]
    have m1 := swap_map (row := row) (G := prog P (k + 1)) (s0 := .mt 1 b) (s1 := .fz (.int n)) (s2 := .fz (.list (row.map prD))) (s3 := .fz (.int 9)) (s4 := .lk 1 (.list (row.map prD))) (s5 := .no)
    have hl2 : ((row.map Prod.swap).map prD).length < lim := by rw [List.length_map, List.length_map]; exact hl1
    generalize hg : (row.map Prod.swap).map prD = L2 at *
    cases hd : decide (row.map Prod.swap = []) with
    | true => rw [hd] at he2; walk_at "go"
    | false => rw [hd] at he2; walk_at "go"
  · refine ⟨row, b, ?_, h.more (by omega), hb⟩
    rw [cl_eq hP]
    simp only [T_law_bent_arrows]
    cases hd : decide (row = []) with
    | true => rw [hd] at he; rcases hc with rfl | rfl <;> walk_at "go"
    | false => rw [hd] at he; rcases hc with rfl | rfl <;> walk_at "go"
  · by_cases h0 : row = []
    · subst h0
      refine ⟨[], b, ?_, h.more (by omega), hb⟩
      rw [cl_eq hP]
      simp only [T_law_bent_arrows]
      have a1 : ¬ ((w : Int) = 9) := by omega
      simp only [List.map_nil] at *
      walk_at "go"
    · have hlp : 0 < row.length := List.length_pos_iff.mpr h0
      obtain ⟨v, b2, hv, v0, v1, hb2⟩ := draw_ok (k := k) hB.draw hb (m := (row.length : Int)) (by omega)
      obtain ⟨i, a, rfl, hi, ha, hg, hat, hix⟩ := at_prs (row := row) v0 (by omega)
      have hba := h.2 a ha
      have hpop := pop_prs hi hg hix
      have hd : decide (row = []) = false := decide_eq_false h0
      rw [hd] at he
      clear hd h0
      have hl3 : row.length < 1000000 := by omega
      have hcc : (w = 1 ∨ w = 2) ∨ w = 3 ∨ w = 4 ∨ w = 5 ∨ w = 6 ∨ w = 7 ∨ w = 8 := by omega
      rcases hcc with hcc | rfl | rfl | rfl | rfl | rfl | rfl
      · refine ⟨row.set i (a.2, a.1), b2, ?_, (h.set (p := (a.2, a.1)) ⟨hba.2, hba.1⟩).more (by omega), hb2⟩
        rw [cl_eq hP]
        simp only [T_law_bent_arrows, List.map_set, prD]
        rcases hcc with rfl | rfl <;> walk_at "go"
      · refine ⟨row.eraseIdx i, b2, ?_, h.erase.more (by omega), hb2⟩
        rw [cl_eq hP, ← erase_map]
        simp only [T_law_bent_arrows]
        walk_at "go"
      · refine ⟨row ++ [(a.2, a.1)], b2, ?_, h.push ⟨hba.2, hba.1⟩, hb2⟩
        rw [cl_eq hP, List.map_append]
        simp only [T_law_bent_arrows, List.map_cons, List.map_nil, prD]
        walk_at "go"
      · refine ⟨row.set i (a.1, n), b2, ?_, (h.set (p := (a.1, (n : Int))) ⟨hba.1, by show (n : Int).natAbs < 1000; omega⟩).more (by omega), hb2⟩
        rw [cl_eq hP]
        simp only [T_law_bent_arrows, List.map_set, prD]
        walk_at "go"
      · refine ⟨row ++ [a], b2, ?_, h.push hba, hb2⟩
        rw [cl_eq hP, List.map_append]
        simp only [T_law_bent_arrows, List.map_cons, List.map_nil, prD]
        walk_at "go"
      · refine ⟨row.set i (a.1, a.1), b2, ?_, (h.set (p := (a.1, a.1)) ⟨hba.1, hba.1⟩).more (by omega), hb2⟩
        rw [cl_eq hP]
        simp only [T_law_bent_arrows, List.map_set, prD]
        walk_at "go"
      · obtain ⟨x, b3, hx, x0, x1, hb3⟩ := draw_ok (k := k) hB.draw hb2 (m := (n : Int)) (by omega)
        obtain ⟨y, b4, hy, y0, y1, hb4⟩ := draw_ok (k := k) hB.draw hb3 (m := (n : Int)) (by omega)
        refine ⟨row.set i (x, y), b4, ?_, (h.set (p := (x, y)) ⟨by show x.natAbs < 1000; omega, by show y.natAbs < 1000; omega⟩).more (by omega), hb4⟩
        rw [cl_eq hP]
        simp only [T_law_bent_arrows, List.map_set, prD]
        walk_at "go"
theorem RB.sorted {L : Nat} {row : List (Int × Int)} (h : RB L row) : RB L (sortP row) := ⟨by rw [(sortP_perm row).length_eq]; exact h.1, fun p hp => h.2 p ((sortP_perm row).mem_iff.mp hp)⟩
structure HasJ (P : Str → Option Fn) : Prop extends HasDraw P where
  is_pair : P "is_pair" = some T_is_pair
  forces : P "forces" = some T_forces
  clash : P "shows_clash" = some T_shows_clash
  straight : P "is_straight" = some T_is_straight
  directed : P "shows_directed" = some T_shows_directed
  lforces : P "_law_forces" = some T_law_forces
  lclash : P "_law_clash_shown" = some T_law_clash_shown
  lstraight : P "_law_is_straight" = some T_law_is_straight
  ldirects : P "_law_directs" = some T_law_directs
  same : P "_law_same" = some T_same
  bent : P "_law_bent_arrows" = some T_law_bent_arrows
theorem nice_prs {L : Nat} (hL : L < 100000) {row : List (Int × Int)} (h : RB L row) : Nice 2 (.list (row.map prD)) := by
  refine ⟨by rw [List.length_map]; have := h.1; omega, fun x hx => ?_⟩
  obtain ⟨p, hp, rfl⟩ := List.mem_map.mp hx
  have hb := h.2 p hp
  refine ⟨by simp, fun y hy => ?_⟩
  simp only [List.mem_cons, List.not_mem_nil, or_false] at hy
  rcases hy with rfl | rfl
  · exact .int (Nat.lt_trans hb.1 (by decide))
  · exact .int (Nat.lt_trans hb.2 (by decide))
theorem judge_step (hJ : HasJ P) {b : D} (hb : IsBox b) {n w : Nat} (hn0 : 0 < n) (hn : n < 100) (hw : w < 11) {ps row : List (Int × Int)} {L : Nat} (hL : L < 999) (h : RB L row) {s4 s5 s6 : Sl} (f4 : free1 s4) (f5 : free1 s5) (f6 : free1 s6) :
    ∃ (b' : D) (t5 t6 : Sl), bodyF (prog P (k + 4)) 0 0 (.nm 4) B1_law_arrows_judged (.int w) [.mt 1 b, .fz (.int n), .fz (.list (ps.map prD)), .fz (.list (row.map prD)), s4, s5, s6] =
      .ok (.nx [.mt 1 b', .fz (.int n), .fz (.list (ps.map prD)), .fz (.list (row.map prD)), .fz (.int w), t5, t6]) ∧ IsBox b' ∧ free1 t5 ∧ free1 t6 := by
  have p4 := fun i s r => put1_free (i := i) (s := s) (r := r) f4
  have p5 := fun i s r => put1_free (i := i) (s := s) (r := r) f5
  have p6 := fun i s r => put1_free (i := i) (s := s) (r := r) f6
  have c1 := @s_call2 (sg := ⟨[.mt 1, .fz, .fz, .fz], 0⟩) (h := hJ.bent) (hs := rfl)
  have c2 := @s_call2 (sg := ⟨[.fz, .fz], 0⟩) (h := hJ.same) (hs := rfl)
  have c3 := @s_call2 (sg := ⟨[.fz], 0⟩) (h := hJ.straight) (hs := rfl)
  have c4 := @s_call2 (sg := ⟨[.fz], 0⟩) (h := hJ.lstraight) (hs := rfl)
  have c5 := @s_call2 (sg := ⟨[.fz, .fz], 0⟩) (h := hJ.directed) (hs := rfl)
  have c6 := @s_call2 (sg := ⟨[.fz, .fz], 0⟩) (h := hJ.ldirects) (hs := rfl)
  obtain ⟨row2, b2, hbe, hr2, hb2⟩ := bent_arrows_ok (k := k + 2) hJ.toHasDraw hJ.bent hb hn0 hn hw (by omega) h
  have hel : ∀ o n (ps : List (Int × Int)), elz o n (ps.map prD) = true := fun _ _ _ => elz_prs
  have hso : ∀ o n (ps : List (Int × Int)), b1D .sorted ⟨o, n, .list (ps.map prD)⟩ = .ok ⟨true, 1, .list ((sortP ps).map prD)⟩ := fun o n ps => b1_sortP elz_prs
  have hm : Int.fmod (w : Int) 2 = ((w % 2 : Nat) : Int) := fmod_nat (b := 2)
  have key : ∀ r2 : List (Int × Int), RB (L + 1) r2 → (cl P (k + 3) "is_straight" [.list (r2.map prD)] = .ok (.bool (strB r2), [])) ∧ (cl P (k + 3) "_law_is_straight" [.list (r2.map prD)] = .ok (.bool (strB r2), [])) ∧
      (cl P (k + 3) "shows_directed" [.list (ps.map prD), .list (r2.map prD)] = .ok (.bool (dirB ps r2), [])) ∧ (cl P (k + 3) "_law_directs" [.list (ps.map prD), .list (r2.map prD)] = .ok (.bool (dirB ps r2), [])) ∧
      (cl P (k + 3) "_law_same" [.bool (strB r2), .bool (strB r2)] = .ok (.bool true, [])) ∧ (cl P (k + 3) "_law_same" [.bool (dirB ps r2), .bool (dirB ps r2)] = .ok (.bool true, [])) ∧ (cl P (k + 3) "_law_same" [.list (r2.map prD), .list (r2.map prD)] = .ok (.bool true, [])) := fun r2 hr =>
    ⟨is_straight_ok hJ.straight, lstraight_ok hJ.lstraight, directed_ok hJ.straight hJ.directed (by have := hr.1; omega), ldirects_ok hJ.lstraight hJ.ldirects (by have := hr.1; omega), same_ok hJ.same 0 (.bool (strB r2)) trivial _ (by omega), same_ok hJ.same 0 (.bool (dirB ps r2)) trivial _ (by omega), same_ok hJ.same 2 _ (nice_prs (L := L + 1) (by omega) hr) _ (by omega)⟩
  by_cases hw2 : w % 2 = 0
  · obtain ⟨k1, k2, k3, k4, k5, k6, k7⟩ := key (sortP row2) hr2.sorted
    have hm2 : Int.fmod (w : Int) 2 = 0 := by rw [hm, hw2]; rfl
    clear key hm
    refine ⟨b2, .fz (.list ((sortP row2).map prD)), .fz (.list ((sortP row2).map prD)), ?_, hb2, trivial, trivial⟩
    rw [x_body, B1_law_arrows_judged]
    walk_at "go"
  · obtain ⟨k1, k2, k3, k4, k5, k6, k7⟩ := key row2 hr2
    have hm2 : ¬ (Int.fmod (w : Int) 2 = 0) := by rw [hm]; omega
    clear key hm
    refine ⟨b2, .fz (.list (row2.map prD)), .fz (.list (row2.map prD)), ?_, hb2, trivial, trivial⟩
    rw [x_body, B1_law_arrows_judged]
    walk_at "go"
theorem arrows_judged_ok (hJ : HasJ P) (hP : P "_law_arrows_judged" = some T_law_arrows_judged) {b : D} (hb : IsBox b) {n : Nat} (hn0 : 0 < n) (hn : n < 100) {ps row : List (Int × Int)} {L : Nat} (hL : L < 999) (h : RB L row) :
    ∃ b', cl P (k + 4) "_law_arrows_judged" [b, .int n, .list (ps.map prD), .list (row.map prD)] = .ok (.bool true, [b']) ∧ IsBox b' := by
  have hbn : bnd 11 = true := by decide
  obtain ⟨o, ho, b1, s4, s5, s6, rfl, hb1⟩ := for_rng (G := prog P (k + 4)) (rm := 0) (t := .nm 4) (lo := 0) (hi := 11) (a := .c (.int 0)) (c := .c (.int 11)) (b := B1_law_arrows_judged)
    (r := [.mt 1 b, .fz (.int n), .fz (.list (ps.map prD)), .fz (.list (row.map prD)), .no, .no, .no]) (r0 := [.mt 1 b, .fz (.int n), .fz (.list (ps.map prD)), .fz (.list (row.map prD)), .no, .no, .no])
    (Q := fun o => ∃ b1 s4 s5 s6, o = .nx [.mt 1 b1, .fz (.int n), .fz (.list (ps.map prD)), .fz (.list (row.map prD)), s4, s5, s6] ∧ IsBox b1) (by walk_at "go")
    (fun w s => ∃ b1 s4 s5 s6, s = [.mt 1 b1, .fz (.int n), .fz (.list (ps.map prD)), .fz (.list (row.map prD)), s4, s5, s6] ∧ IsBox b1 ∧ free1 s4 ∧ free1 s5 ∧ free1 s6) ⟨b, .no, .no, .no, rfl, hb, trivial, trivial, trivial⟩
    (by
      rintro w s hw ⟨b1, s4, s5, s6, rfl, hb1, f4, f5, f6⟩
      obtain ⟨b2, t5, t6, hx, hb2, g5, g6⟩ := judge_step (k := k) hJ hb1 hn0 hn (show w < 11 by omega) hL h (ps := ps) f4 f5 f6
      refine ⟨.nx [.mt 1 b2, .fz (.int n), .fz (.list (ps.map prD)), .fz (.list (row.map prD)), .fz (.int w), t5, t6], ?_, b2, _, t5, t6, rfl, hb2, trivial, g5, g6⟩
      rw [Int.zero_add]
      exact hx)
    (by
      rintro s ⟨b1, s4, s5, s6, rfl, hb1, _⟩
      exact ⟨b1, s4, s5, s6, rfl, hb1⟩)
  refine ⟨b1, ?_, hb1⟩
  rw [cl_eq hP]
  simp only [T_law_arrows_judged]
  walk_at "go"
end
end VL
/-! k28: rows of arrows that force one another -/
namespace VL
open PySem
local macro_rules | `(tactic| walk_at "go") => `(tactic| simp [s_c, s_v, s_bin, s_cmp, s_ix, s_un, s_not, s_tand, s_tor, s_vand, s_vor, s_ife, s_chn, s_nil, s_cons, s_tup, s_lst, s_sl, s_b1, s_b2, s_isi, s_m1, s_it, s_rng, s_rngd, s_rrng, s_enum, s_zip, s_rev, s_lst1, s_tup1, s_comp, s_comp2, s_ags0, s_ags, s_pop, s_app, s_ins, s_ext, x_set, x_nop, x_brk, x_cont, x_seq, x_if, x_ret, x_drop, x_sets, x_aug, x_par, setT_nm, setT_tup, bindT_nm, bindT_tup, bindTs_cons, bindTs_nil, wipeS, backS, lockE, unl_eq, stF, stores, tgHas, *])
def prsD (r : List (Int × Int)) : D := .list (r.map prD)
structure AI (ev : List (Int × Int)) (rows : List (List (Int × Int))) (seen : List (Int × Int)) : Prop where
  nd : seen.Nodup
  sub : ∀ p ∈ seen, p ∈ ev
  len : rows.length = seen.length
  row : ∀ i r, rows[i]? = some r → r ≠ [] ∧ r.length ≤ i + 1 ∧ ∀ p ∈ r, p ∈ ev
theorem AI.few {ev : List (Int × Int)} {rows : List (List (Int × Int))} {seen : List (Int × Int)} (h : AI ev rows seen) : rows.length ≤ ev.length := by
  rw [h.len]
  exact nodup_len h.nd h.sub
theorem AI.start {ev : List (Int × Int)} {a : Int × Int} (ha : a ∈ ev) : AI ev [[a]] [a] := ⟨by simp, fun p hp => by rw [List.mem_singleton.mp hp]; exact ha, rfl, fun i r h => by
  cases i with
  | zero => simp at h; subst h; exact ⟨by simp, by simp, fun p hp => by rw [List.mem_singleton.mp hp]; exact ha⟩
  | succ i => simp at h⟩
theorem AI.push {ev : List (Int × Int)} {rows : List (List (Int × Int))} {seen : List (Int × Int)} (h : AI ev rows seen) {o : Int × Int} (ho : o ∈ ev) (hs : o ∉ seen) {t : Nat} {r : List (Int × Int)} (hr : rows[t]? = some r) : AI ev (rows ++ [r ++ [o]]) (seen ++ [o]) := by
  obtain ⟨r1, r2, r3⟩ := h.row t r hr
  have ht : t < rows.length := (List.getElem?_eq_some_iff.mp hr).1
  refine ⟨?_, fun p hp => ?_, by rw [List.length_append, List.length_append, h.len]; rfl, fun i q hq => ?_⟩
  · rw [List.nodup_append]
    exact ⟨h.nd, by simp, fun a ha b hb e => hs (by rw [List.mem_singleton.mp hb] at e; rw [← e]; exact ha)⟩
  · rcases List.mem_append.mp hp with hp | hp
    · exact h.sub p hp
    · rw [List.mem_singleton.mp hp]; exact ho
  · by_cases hi : i < rows.length
    · rw [List.getElem?_append_left hi] at hq
      exact h.row i q hq
    · rw [List.getElem?_append_right (by omega)] at hq
      have hi2 : i = rows.length := by
        have := (List.getElem?_eq_some_iff.mp hq).1
        simp only [List.length_singleton] at this
        omega
      subst hi2
      simp only [Nat.sub_self, List.getElem?_cons_zero, Option.some.injEq] at hq
      subst hq
      refine ⟨by simp, by rw [List.length_append]; simp only [List.length_singleton]; omega, fun p hp => ?_⟩
      rcases List.mem_append.mp hp with hp | hp
      · exact r3 p hp
      · rw [List.mem_singleton.mp hp]; exact ho
section
variable {P : Str → Option Fn} {k : Nat}
theorem last_of {r : List (Int × Int)} (h : r ≠ []) : ∃ l : Int × Int, L2.atI (r.map prD) (-1) = some (.tuple [.int l.1, .int l.2]) := by
  cases r with
  | nil => exact absurd rfl h
  | cons a t =>
    obtain ⟨l, _, e⟩ := last_prs (h := a) (t := t)
    exact ⟨l, e⟩
theorem ac_other (hF : P "_law_forces" = some T_law_forces) {ps ev : List (Int × Int)} (hev : ev.length ≤ 100) {rows : List (List (Int × Int))} {seen : List (Int × Int)} (h : AI ev rows seen) {t : Nat} (ht : t < rows.length) {o : Int × Int} (ho : o ∈ ev) {s2 s6 s7 : Sl} (f7 : free1 s7) :
    ∃ rows' seen', bodyF (prog P (k + 1)) 0 0 (.nm 7) B1_law_a_clash (prD o) [.fz (.list (ps.map prD)), .fz (.list (ev.map prD)), s2, .ow 1 (.list (rows.map prsD)), .ow 1 (.list (seen.map prD)), .fz (.int t), s6, s7] =
      .ok (.nx [.fz (.list (ps.map prD)), .fz (.list (ev.map prD)), s2, .ow 1 (.list (rows'.map prsD)), .ow 1 (.list (seen'.map prD)), .fz (.int t), s6, .fz (prD o)]) ∧ AI ev rows' seen' ∧ t < rows'.length := by
  have p7 := fun i s r => put1_free (i := i) (s := s) (r := r) f7
  have c1 := @s_call2 (sg := ⟨[.fz, .fz, .fz], 0⟩) (h := hF) (hs := rfl)
  have hr : rows[t]? = some rows[t] := List.getElem?_eq_getElem ht
  generalize rows[t] = r at hr
  obtain ⟨r1, r2, r3⟩ := h.row t r hr
  obtain ⟨l, hl⟩ := last_of r1
  have ha : L2.atI (rows.map prsD) (t : Int) = some (.list (r.map prD)) := by rw [atI_nat, List.getElem?_map, hr]; rfl
  have hi := inD_prs (p := o) (ps := seen)
  have d1 := @lforces_ok P k hF ps l o
  simp only [prD] at d1
  have hf := h.few
  have hlen := h.len
  rw [x_body, B1_law_a_clash]
  by_cases h1 : o ∈ seen
  · refine ⟨rows, seen, ?_, h, ht⟩
    simp only [prD]
    walk_at "go"
  · cases h2 : frc ps l o with
    | false =>
      rw [h2] at d1
      refine ⟨rows, seen, ?_, h, ht⟩
      simp only [prD]
      walk_at "go"
    | true =>
      rw [h2] at d1
      refine ⟨rows ++ [r ++ [o]], seen ++ [o], ?_, h.push ho h1 hr, by rw [List.length_append]; omega⟩
      have q1 : rows.length < 1000000 := by omega
      have q2 : seen.length < 1000000 := by omega
      have q3 : r.length + 1 ≤ lim := Nat.le_of_lt (lenlim (by omega))
      have q4 : prsD (r ++ [o]) = .list (r.map prD ++ [.tuple [.int o.1, .int o.2]]) := by simp [prsD, prD]
      rw [List.map_append, List.map_append]
      simp only [List.map_cons, List.map_nil, q4]
      have q5 : prD o = .tuple [.int o.1, .int o.2] := rfl
      simp only [q5]
      clear q4 q5
      walk_at "go"
theorem ac_turn (hF : P "_law_forces" = some T_law_forces) {ps ev : List (Int × Int)} (hev : ev.length ≤ 100) {rows : List (List (Int × Int))} {seen : List (Int × Int)} (h : AI ev rows seen) {t : Nat} {s2 s5 s6 s7 : Sl} (f5 : free1 s5) (f7 : free1 s7) :
    ∃ rows' seen' t7, bodyF (prog P (k + 1)) 0 0 (.nm 5) B2_law_a_clash (.int t) [.fz (.list (ps.map prD)), .fz (.list (ev.map prD)), s2, .ow 1 (.list (rows.map prsD)), .ow 1 (.list (seen.map prD)), s5, s6, s7] =
      .ok (.nx [.fz (.list (ps.map prD)), .fz (.list (ev.map prD)), s2, .ow 1 (.list (rows'.map prsD)), .ow 1 (.list (seen'.map prD)), .fz (.int t), s6, t7]) ∧ AI ev rows' seen' ∧ free1 t7 := by
  have p5 := fun i s r => put1_free (i := i) (s := s) (r := r) f5
  rw [x_body, B2_law_a_clash]
  by_cases ht : t < rows.length
  · have ht2 : (t : Int) < rows.length := by omega
    obtain ⟨o, ho, rows', seen', t7, rfl, h', g7⟩ := for_lst (G := prog P (k + 1)) (rm := 0) (r := [.fz (.list (ps.map prD)), .fz (.list (ev.map prD)), s2, .ow 1 (.list (rows.map prsD)), .ow 1 (.list (seen.map prD)), .fz (.int t), s6, s7]) (r0 := [.fz (.list (ps.map prD)), .fz (.list (ev.map prD)), s2, .ow 1 (.list (rows.map prsD)), .ow 1 (.list (seen.map prD)), .fz (.int t), s6, s7])
      (enc := prD) (xs := ev) (m := 0) (t := .nm 7) (it := .it (.v 1)) (b := B1_law_a_clash) (Q := fun o => ∃ rows' seen' t7, o = .nx [.fz (.list (ps.map prD)), .fz (.list (ev.map prD)), s2, .ow 1 (.list (rows'.map prsD)), .ow 1 (.list (seen'.map prD)), .fz (.int t), s6, t7] ∧ AI ev rows' seen' ∧ free1 t7) rfl (by walk_at "go")
      (fun p s => ∃ rows' seen' t7, s = [.fz (.list (ps.map prD)), .fz (.list (ev.map prD)), s2, .ow 1 (.list (rows'.map prsD)), .ow 1 (.list (seen'.map prD)), .fz (.int t), s6, t7] ∧ AI ev rows' seen' ∧ t < rows'.length ∧ free1 t7) ⟨rows, seen, s7, rfl, h, ht, f7⟩
      (by
        rintro p d q s e ⟨rows1, seen1, t7, rfl, h1, ht1, g7⟩
        obtain ⟨rows2, seen2, e2, h2, ht2⟩ := ac_other (k := k) hF (ps := ps) hev h1 ht1 (split_mem e) (s2 := s2) (s6 := s6) g7
        exact ⟨_, e2, rows2, seen2, _, rfl, h2, ht2, trivial⟩)
      (by
        rintro s ⟨rows1, seen1, t7, rfl, h1, ht1, g7⟩
        exact ⟨rows1, seen1, t7, rfl, h1, g7⟩)
    refine ⟨rows', seen', t7, ?_, h', g7⟩
    walk_at "go"
  · have ht2 : ¬ (t : Int) < rows.length := by omega
    refine ⟨rows, seen, s7, ?_, h, f7⟩
    walk_at "go"
/-- a row that was found, or none -/
def acQ (ps ev : List (Int × Int)) (o : Out) : Prop := (∃ s2 s3 s4 s5 s6 s7, o = .nx [.fz (.list (ps.map prD)), .fz (.list (ev.map prD)), s2, s3, s4, s5, s6, s7] ∧ free1 s2 ∧ free1 s3 ∧ free1 s4 ∧ free1 s5 ∧ free1 s6 ∧ free1 s7) ∨ ∃ (r : List (Int × Int)) (s : Env), o = .rt (.list (r.map prD)) s ∧ s.length = 8 ∧ r.length ≤ 101 ∧ ∀ p ∈ r, p ∈ ev
theorem ac_arrow (hF : P "_law_forces" = some T_law_forces) {ps ev : List (Int × Int)} (hev : ev.length ≤ 100) {a : Int × Int} (ha : a ∈ ev) {s2 s3 s4 s5 s6 s7 : Sl} (f2 : free1 s2) (f3 : free1 s3) (f4 : free1 s4) (f5 : free1 s5) (f6 : free1 s6) (f7 : free1 s7) :
    ∃ o, bodyF (prog P (k + 1)) 0 0 (.nm 2) B4_law_a_clash (prD a) [.fz (.list (ps.map prD)), .fz (.list (ev.map prD)), s2, s3, s4, s5, s6, s7] = .ok o ∧ acQ ps ev o := by
  have p2 := fun i s r => put1_free (i := i) (s := s) (r := r) f2
  have p3 := fun i s r => put1_free (i := i) (s := s) (r := r) f3
  have p4 := fun i s r => put1_free (i := i) (s := s) (r := r) f4
  have hbn : bnd (ev.length : Int) = true := bnd_nat (by omega)
  have hel : (ev.map prD).length = ev.length := List.length_map ..
  obtain ⟨o, ho, rows, seen, t5, t7, rfl, h, g5, g7⟩ := for_rng (G := prog P (k + 1)) (rm := 0) (t := .nm 5) (lo := 0) (hi := ev.length) (a := .c (.int 0)) (c := .b1 .len (.v 1)) (b := B2_law_a_clash)
    (r := [.fz (.list (ps.map prD)), .fz (.list (ev.map prD)), .fz (prD a), .ow 1 (.list ([[a]].map prsD)), .ow 1 (.list ([a].map prD)), s5, s6, s7]) (r0 := [.fz (.list (ps.map prD)), .fz (.list (ev.map prD)), .fz (prD a), .ow 1 (.list ([[a]].map prsD)), .ow 1 (.list ([a].map prD)), s5, s6, s7])
    (Q := fun o => ∃ rows seen t5 t7, o = .nx [.fz (.list (ps.map prD)), .fz (.list (ev.map prD)), .fz (prD a), .ow 1 (.list (rows.map prsD)), .ow 1 (.list (seen.map prD)), t5, s6, t7] ∧ AI ev rows seen ∧ free1 t5 ∧ free1 t7) (by walk_at "go")
    (fun t s => ∃ rows seen t5 t7, s = [.fz (.list (ps.map prD)), .fz (.list (ev.map prD)), .fz (prD a), .ow 1 (.list (rows.map prsD)), .ow 1 (.list (seen.map prD)), t5, s6, t7] ∧ AI ev rows seen ∧ free1 t5 ∧ free1 t7) ⟨[[a]], [a], s5, s7, rfl, AI.start ha, f5, f7⟩
    (by
      rintro t s ht ⟨rows, seen, t5, t7, rfl, h, g5, g7⟩
      obtain ⟨rows2, seen2, u7, e2, h2, k7⟩ := ac_turn (k := k) hF (ps := ps) hev h (t := t) (s2 := .fz (prD a)) (s6 := s6) g5 g7
      refine ⟨.nx [.fz (.list (ps.map prD)), .fz (.list (ev.map prD)), .fz (prD a), .ow 1 (.list (rows2.map prsD)), .ow 1 (.list (seen2.map prD)), .fz (.int t), s6, u7], ?_, rows2, seen2, _, u7, rfl, h2, trivial, k7⟩
      rw [Int.zero_add]
      exact e2)
    (by
      rintro s ⟨rows, seen, t5, t7, rfl, h, g5, g7⟩
      exact ⟨rows, seen, t5, t7, rfl, h, g5, g7⟩)
  have hfew := h.few
  obtain ⟨o, ho2, hq⟩ := for_lst (G := prog P (k + 1)) (rm := 0) (r := [.fz (.list (ps.map prD)), .fz (.list (ev.map prD)), .fz (prD a), .ow 1 (.list (rows.map prsD)), .ow 1 (.list (seen.map prD)), t5, s6, t7]) (r0 := [.fz (.list (ps.map prD)), .fz (.list (ev.map prD)), .fz (prD a), .lk 1 (.list (rows.map prsD)), .ow 1 (.list (seen.map prD)), t5, s6, t7])
    (enc := prsD) (xs := rows) (m := 0) (t := .nm 6) (it := .it (.v 3)) (b := B3_law_a_clash) (Q := acQ ps ev) rfl (by walk_at "go")
    (fun p s => ∃ t6, s = [.fz (.list (ps.map prD)), .fz (.list (ev.map prD)), .fz (prD a), .lk 1 (.list (rows.map prsD)), .ow 1 (.list (seen.map prD)), t5, t6, t7] ∧ free1 t6) ⟨s6, rfl, f6⟩
    (by
      rintro p r q s e ⟨t6, rfl, g6⟩
      have p6 := fun i s r => put1_free (i := i) (s := s) (r := r) g6
      obtain ⟨i, hi, er⟩ := List.mem_iff_getElem.mp (split_mem e)
      obtain ⟨r1, r2, r3⟩ := h.row i r (by rw [← er]; exact List.getElem?_eq_getElem hi)
      obtain ⟨l, hl⟩ := last_of r1
      have he := eqD_pr (p := l) (q := (a.2, a.1))
      dsimp only at he
      rw [x_body, B3_law_a_clash]
      cases hd : decide (l = (a.2, a.1)) with
      | true =>
        rw [hd] at he
        refine ⟨.rt (.list (r.map prD)) [.fz (.list (ps.map prD)), .fz (.list (ev.map prD)), .fz (prD a), .lk 1 (.list (rows.map prsD)), .ow 1 (.list (seen.map prD)), t5, .fz (prsD r), t7], ?_, .inr ⟨r, _, rfl, by rw [unl_len]; rfl, by omega, r3⟩⟩
        simp only [prsD, prD]
        walk_at "go"
      | false =>
        rw [hd] at he
        refine ⟨.nx [.fz (.list (ps.map prD)), .fz (.list (ev.map prD)), .fz (prD a), .lk 1 (.list (rows.map prsD)), .ow 1 (.list (seen.map prD)), t5, .fz (prsD r), t7], ?_, _, rfl, trivial⟩
        simp only [prsD, prD]
        walk_at "go")
    (by
      rintro s ⟨t6, rfl, g6⟩
      refine .inl ⟨.fz (prD a), .ow 1 (.list (rows.map prsD)), .ow 1 (.list (seen.map prD)), unl1 false false t5 t5, unl1 false true s6 t6, unl1 false false t7 t7, ?_, trivial, trivial, trivial, unl1_free g5 g5, unl1_free f6 g6, unl1_free g7 g7⟩
      rw [unl_eq]
      rfl)
  refine ⟨o, ?_, hq⟩
  rw [x_body, B4_law_a_clash]
  simp only [prsD, List.map_cons, List.map_nil] at ho
  walk_at "go"
def arr (ps : List (Int × Int)) : List (Int × Int) := sortP (ps ++ ps.map Prod.swap)
theorem RB.arr {L : Nat} {ps : List (Int × Int)} (h : RB L ps) : RB (L + L) (arr ps) := by
  have hs := h.swap
  have : RB (L + L) (ps ++ ps.map Prod.swap) := ⟨by rw [List.length_append]; exact Nat.add_le_add h.1 hs.1, fun p hp => (List.mem_append.mp hp).elim (h.2 p) (hs.2 p)⟩
  exact this.sorted
theorem arrows_ok (hP : P "_law_arrows" = some T_law_arrows) {ps : List (Int × Int)} (hl : ps.length < 10000) : cl P k "_law_arrows" [.list (ps.map prD)] = .ok (.list ((arr ps).map prD), []) := by
  have hel : ∀ o n (ps : List (Int × Int)), elz o n (ps.map prD) = true := fun _ _ _ => elz_prs
  have m1 : mapL (turnF (prog P k) 1 0 (.tup (.cons (.v 2) (.cons (.v 1) .nil))) (.cons (.nm 1) (.cons (.nm 2) .nil)) (.c (.bool true)) [1, 2]) (ps.map prD) [.fz (.list (ps.map prD)), .no, .no] = .ok ((ps.map Prod.swap).map prD, [.fz (.list (ps.map prD)), .no, .no]) := by
    rw [mapL_all (g := fun p => prD p.swap) (fun p hp => ?_)]
    · rw [List.map_map]; rfl
    · rw [s_turn]
      simp only [prD, Prod.swap]
      walk_at "go"
  have hso := b1_sortP (o := true) (n := 1) (ps := ps ++ ps.map Prod.swap) elz_prs
  rw [List.map_append] at hso
  have hl1 : ((ps.map Prod.swap).map prD).length < lim := lenlim (by rw [List.length_map, List.length_map]; omega)
  have hl2 : (ps.map prD).length + ((ps.map Prod.swap).map prD).length ≤ lim := Nat.le_of_lt (lenlim (by rw [List.length_map, List.length_map, List.length_map]; omega))
  have hel1 := hel true 0 ps
  unfold arr
  rw [cl_eq hP]
  simp only [T_law_arrows]
  generalize (ps.map Prod.swap).map prD = S at *
  generalize hR : sortP (ps ++ ps.map Prod.swap) = R at *
  generalize ps.map prD = M at *
  clear hel hR
  walk_at "go"
theorem a_clash_ok (hF : P "_law_forces" = some T_law_forces) (hA : P "_law_arrows" = some T_law_arrows) (hP : P "_law_a_clash" = some T_law_a_clash) {ps : List (Int × Int)} (h : RB 50 ps) :
    ∃ row, cl P (k + 1) "_law_a_clash" [.list (ps.map prD)] = .ok (.list (row.map prD), []) ∧ RB 101 row := by
  have c1 := @s_call2 (sg := ⟨[.fz], 0⟩) (h := hA) (hs := rfl)
  have d1 := arrows_ok (k := k) hA (ps := ps) (by have := h.1; omega)
  have hev := h.arr
  generalize arr ps = ev at *
  obtain ⟨o, ho, hq⟩ := for_lst (G := prog P (k + 1)) (rm := 0) (r := [.fz (.list (ps.map prD)), .fz (.list (ev.map prD)), .no, .no, .no, .no, .no, .no]) (r0 := [.fz (.list (ps.map prD)), .fz (.list (ev.map prD)), .no, .no, .no, .no, .no, .no])
    (enc := prD) (xs := ev) (m := 0) (t := .nm 2) (it := .it (.v 1)) (b := B4_law_a_clash) (Q := acQ ps ev) rfl (by walk_at "go")
    (fun p s => ∃ s2 s3 s4 s5 s6 s7, s = [.fz (.list (ps.map prD)), .fz (.list (ev.map prD)), s2, s3, s4, s5, s6, s7] ∧ free1 s2 ∧ free1 s3 ∧ free1 s4 ∧ free1 s5 ∧ free1 s6 ∧ free1 s7) ⟨.no, .no, .no, .no, .no, .no, rfl, trivial, trivial, trivial, trivial, trivial, trivial⟩
    (by
      rintro p a q s e ⟨s2, s3, s4, s5, s6, s7, rfl, f2, f3, f4, f5, f6, f7⟩
      obtain ⟨o, ho, hq⟩ := ac_arrow (k := k) hF (ps := ps) (show ev.length ≤ 100 from hev.1) (split_mem e) f2 f3 f4 f5 f6 f7
      refine ⟨o, ho, ?_⟩
      rcases hq with ⟨t2, t3, t4, t5, t6, t7, rfl, g⟩ | ⟨r, s, rfl, hs, hr1, hr2⟩
      · exact ⟨t2, t3, t4, t5, t6, t7, rfl, g⟩
      · exact .inr ⟨r, _, rfl, by rw [unl_len]; exact hs, hr1, hr2⟩)
    (by
      rintro s ⟨s2, s3, s4, s5, s6, s7, rfl, g⟩
      exact .inl ⟨s2, s3, s4, s5, s6, s7, rfl, g⟩)
  rcases hq with ⟨t2, t3, t4, t5, t6, t7, rfl, g⟩ | ⟨r, s, rfl, hs, hr1, hr2⟩
  · refine ⟨[], ?_, ⟨by simp, by simp⟩⟩
    rw [cl_eq hP]
    simp only [T_law_a_clash, List.map_nil]
    clear g
    walk_at "go"
  · refine ⟨r, ?_, ⟨hr1, fun p hp => hev.2 p (hr2 p hp)⟩⟩
    have hs8 : ∃ x0 x1 x2 x3 x4 x5 x6 x7, s = [x0, x1, x2, x3, x4, x5, x6, x7] := by
      match s, hs with
      | [x0, x1, x2, x3, x4, x5, x6, x7], _ => exact ⟨x0, x1, x2, x3, x4, x5, x6, x7, rfl⟩
    obtain ⟨x0, x1, x2, x3, x4, x5, x6, x7, rfl⟩ := hs8
    rw [cl_eq hP]
    simp only [T_law_a_clash]
    clear hs hr1 hr2 hev h
    walk_at "go"
end
end VL
/-! k28: clashes bent and judged -/
namespace VL
open PySem
local macro_rules | `(tactic| walk_at "go") => `(tactic| simp [s_c, s_v, s_bin, s_cmp, s_ix, s_un, s_not, s_tand, s_tor, s_vand, s_vor, s_ife, s_chn, s_nil, s_cons, s_tup, s_lst, s_sl, s_b1, s_b2, s_isi, s_m1, s_it, s_rng, s_rngd, s_rrng, s_enum, s_zip, s_rev, s_lst1, s_tup1, s_comp, s_comp2, s_ags0, s_ags, s_pop, s_app, s_ins, s_ext, x_set, x_nop, x_brk, x_cont, x_seq, x_if, x_ret, x_drop, x_sets, x_aug, x_par, setT_nm, setT_tup, bindT_nm, bindT_tup, bindTs_cons, bindTs_nil, wipeS, backS, lockE, unl_eq, stF, stores, tgHas, *])
theorem RB.ins {L i : Nat} {row : List (Int × Int)} {p : Int × Int} (h : RB L row) (hp : Bdp p) : RB (L + 1) (row.take i ++ [p] ++ row.drop i) := by
  refine ⟨?_, fun q hq => ?_⟩
  · have := h.1
    simp only [List.length_append, List.length_take, List.length_drop, List.length_singleton]
    omega
  · rcases List.mem_append.mp hq with hq | hq
    · rcases List.mem_append.mp hq with hq | hq
      · exact h.2 q (List.mem_of_mem_take hq)
      · rw [List.mem_singleton.mp hq]; exact hp
    · exact h.2 q (List.mem_of_mem_drop hq)
def Ak_bent : Sm := (.ife (.cmp .Eq (.ix (.ix (.v 4) (.v 8)) (.c (.int 0))) (.ix (.ix (.v 4) (.bin .Sub (.v 8) (.c (.int 1)))) (.c (.int 0))))
  (.drop (.ins 4 .nil (.v 8) (.tup (.cons (.ix (.ix (.v 4) (.v 8)) (.c (.int 0))) (.cons (.bin .Add (.v 1) (.v 3)) .nil)))))
  (.ife (.cmp .Eq (.ix (.ix (.v 4) (.v 8)) (.c (.int 1))) (.ix (.ix (.v 4) (.bin .Sub (.v 8) (.c (.int 1)))) (.c (.int 1))))
  (.drop (.ins 4 .nil (.v 8) (.tup (.cons (.bin .Add (.v 1) (.v 3)) (.cons (.ix (.ix (.v 4) (.v 8)) (.c (.int 1))) .nil)))))
  .nop))
section
variable {P : Str → Option Fn} {k : Nat}
theorem bent_ins {G : Str → Option Fd} {n w i L : Nat} (hn : n < 100) (hw : w < 20) (hL : L < 100000) {f : List (Int × Int)} (h : RB L f) (h1 : 1 ≤ i) (hi : i < f.length) {s0 s2 s5 s6 s7 s9 : Sl} :
    ∃ f', VL.exec G 0 Ak_bent [s0, .fz (.int n), s2, .fz (.int w), .ow 1 (.list (f.map prD)), s5, s6, s7, .fz (.int i), s9] = .ok (.nx [s0, .fz (.int n), s2, .fz (.int w), .ow 1 (.list (f'.map prD)), s5, s6, s7, .fz (.int i), s9]) ∧ RB (L + 1) f' ∧ f.length ≤ f'.length := by
  obtain ⟨j, a, e1, hj, ha, hg, hat, hix⟩ := at_prs (row := f) (v := (i : Int)) (by omega) (by omega)
  obtain ⟨j2, c, e2, hj2, hc, hg2, hat2, hix2⟩ := at_prs (row := f) (v := (i : Int) - 1) (by omega) (by omega)
  rw [← e1] at hat
  rw [← e2] at hat2
  have hq : ∀ x, insL (i : Int) x (f.map prD) = .ok (.none, (f.map prD).take (i : Int).toNat ++ [x] ++ (f.map prD).drop (i : Int).toNat) := fun x => insL_ok (by omega) (by rw [List.length_map]; omega) (by rw [List.length_map]; have := h.1; omega)
  rw [Int.toNat_natCast] at hq
  have hlen : f.length ≤ (f.take i ++ [a] ++ f.drop i).length := by
    simp only [List.length_append, List.length_take, List.length_drop, List.length_singleton]
    omega
  have hba := h.2 a ha
  rw [Ak_bent]
  by_cases c1 : a.1 = c.1
  · refine ⟨f.take i ++ [(a.1, (n : Int) + w)] ++ f.drop i, ?_, h.ins ⟨hba.1, by show ((n : Int) + w).natAbs < 1000; omega⟩, ?_⟩
    · rw [List.map_append, List.map_append, List.map_take, List.map_drop]
      simp only [List.map_cons, List.map_nil, prD]
      clear hg hg2 hix hix2 hlen ha hc e1 e2
      walk_at "go"
    · simp only [List.length_append, List.length_take, List.length_drop, List.length_singleton]
      omega
  · by_cases c2 : a.2 = c.2
    · refine ⟨f.take i ++ [((n : Int) + w, a.2)] ++ f.drop i, ?_, h.ins ⟨by show ((n : Int) + w).natAbs < 1000; omega, hba.2⟩, ?_⟩
      · rw [List.map_append, List.map_append, List.map_take, List.map_drop]
        simp only [List.map_cons, List.map_nil, prD]
        clear hg hg2 hix hix2 hlen ha hc e1 e2
        walk_at "go"
      · simp only [List.length_append, List.length_take, List.length_drop, List.length_singleton]
        omega
    · refine ⟨f, ?_, h.more (by omega), Nat.le_refl _⟩
      clear hg hg2 hix hix2 hlen ha hc e1 e2
      walk_at "go"
theorem bent_loop {G : Str → Option Fd} {n w : Nat} (hn : n < 100) (hw : w < 20) {row : List (Int × Int)} (h : RB 101 row) (h0 : row ≠ []) {s0 s5 s6 s7 s8 s9 : Sl} (f8 : free1 s8) :
    ∃ o, VL.exec G 0 (.for_ (.nm 8) (.rngd (.bin .Sub (.b1 .len (.v 4)) (.c (.int 1))) (.c (.int 0))) B1_law_bent_clash) [s0, .fz (.int n), .fz (.list (row.map prD)), .fz (.int w), .ow 1 (.list (row.map prD)), s5, s6, s7, s8, s9] = .ok o ∧
      ∃ f t8, o = .nx [s0, .fz (.int n), .fz (.list (row.map prD)), .fz (.int w), .ow 1 (.list (f.map prD)), s5, s6, s7, t8, s9] ∧ RB 300 f := by
  have hlp : 0 < row.length := List.length_pos_iff.mpr h0
  have hl := h.1
  have b0 : bnd ((row.length : Int) - 1) = true := by
    have : ((row.length : Int) - 1) = ((row.length - 1 : Nat) : Int) := by omega
    rw [this]
    exact bnd_nat (by omega)
  have hr : rngD ((row.length : Int) - 1) 0 = (List.range (row.length - 1)).map fun (k : Nat) => PyData.int ((row.length : Int) - 1 - (k : Int)) := by
    unfold rngD rngdL
    have : ((row.length : Int) - 1 - 0).toNat = row.length - 1 := by omega
    rw [this]
  refine for_lst (r0 := [s0, .fz (.int n), .fz (.list (row.map prD)), .fz (.int w), .ow 1 (.list (row.map prD)), s5, s6, s7, s8, s9]) (enc := fun (k : Nat) => PyData.int ((row.length : Int) - 1 - (k : Int))) (xs := List.range (row.length - 1)) (m := 0) rfl (by rw [← hr]; walk_at "go")
    (fun p s => ∃ f t8, s = [s0, .fz (.int n), .fz (.list (row.map prD)), .fz (.int w), .ow 1 (.list (f.map prD)), s5, s6, s7, t8, s9] ∧ free1 t8 ∧ RB (101 + p.length) f ∧ row.length ≤ f.length) ⟨row, s8, rfl, f8, h, Nat.le_refl _⟩ ?_ ?_
  · rintro p d q s e ⟨f, t8, rfl, g8, hf, hfl⟩
    have p8 := fun i s r => put1_free (i := i) (s := s) (r := r) g8
    have hd := List.mem_range.mp (split_mem e)
    have hpl := split_len e
    rw [List.length_range] at hpl
    obtain ⟨i, hi, hi1, hi2⟩ : ∃ i : Nat, (row.length : Int) - 1 - (d : Int) = (i : Int) ∧ 1 ≤ i ∧ i < row.length := ⟨row.length - 1 - d, by omega, by omega, by omega⟩
    rw [hi]
    obtain ⟨f', e1, hf', hl'⟩ := bent_ins (G := G) (n := n) (w := w) hn hw (show 101 + p.length < 100000 by omega) hf hi1 (by omega) (s0 := s0) (s2 := .fz (.list (row.map prD))) (s5 := s5) (s6 := s6) (s7 := s7) (s9 := s9)
    have e0 : bindT 0 (.nm 8) (.int (i : Int)) [s0, .fz (.int n), .fz (.list (row.map prD)), .fz (.int w), .ow 1 (.list (f.map prD)), s5, s6, s7, t8, s9] = .ok [s0, .fz (.int n), .fz (.list (row.map prD)), .fz (.int w), .ow 1 (.list (f.map prD)), s5, s6, s7, .fz (.int i), s9] := by
      clear e1 hi hd hpl e
      walk_at "go"
    rw [Ak_bent] at e1
    rw [x_body, e0, bd1_ok, B1_law_bent_clash, x_seq, e1, sq1_nx]
    clear e0 e1 hr b0
    by_cases c1 : w = 18
    · subst c1
      by_cases c2 : row.length < f'.length
      · refine ⟨.bk [s0, .fz (.int n), .fz (.list (row.map prD)), .fz (.int (18 : Nat)), .ow 1 (.list (f'.map prD)), s5, s6, s7, .fz (.int i), s9], ?_, f', _, rfl, hf'.more (by omega)⟩
        have c3 : (row.length : Int) < f'.length := by omega
        clear hi e
        walk_at "go"
      · refine ⟨.nx [s0, .fz (.int n), .fz (.list (row.map prD)), .fz (.int (18 : Nat)), .ow 1 (.list (f'.map prD)), s5, s6, s7, .fz (.int i), s9], ?_, f', _, rfl, trivial, hf'.more (by rw [List.length_append]; simp only [List.length_singleton]; omega), by omega⟩
        have c3 : ¬ (row.length : Int) < f'.length := by omega
        clear hi e
        walk_at "go"
    · refine ⟨.nx [s0, .fz (.int n), .fz (.list (row.map prD)), .fz (.int w), .ow 1 (.list (f'.map prD)), s5, s6, s7, .fz (.int i), s9], ?_, f', _, rfl, trivial, hf'.more (by rw [List.length_append]; simp only [List.length_singleton]; omega), by omega⟩
      have c3 : ¬ ((w : Int) = 18) := by omega
      clear hi e
      walk_at "go"
  · rintro s ⟨f, t8, rfl, g8, hf, hfl⟩
    rw [List.length_range] at hf
    exact ⟨f, t8, rfl, hf.more (by omega)⟩
theorem swap_map9 {row : List (Int × Int)} {G : Str → Option Fd} {s0 s1 s2 s3 s4 s5 s6 s7 s8 : Sl} : mapL (turnF G 1 0 (.tup (.cons (.ix (.v 9) (.c (.int 1))) (.cons (.ix (.v 9) (.c (.int 0))) .nil))) (.nm 9) (.c (.bool true)) [9]) (row.map prD) [s0, s1, s2, s3, s4, s5, s6, s7, s8, .no] =
    .ok ((row.map Prod.swap).map prD, [s0, s1, s2, s3, s4, s5, s6, s7, s8, .no]) := by
  rw [mapL_all (g := fun p => prD p.swap) (fun p hp => ?_)]
  · rw [List.map_map]; rfl
  · rw [s_turn]
    simp only [prD, Prod.swap]
    walk_at "go"
theorem cut2 {A : Type} {xs : List A} : cutX xs none (some 2) = xs.take 2 := by
  unfold cutX
  have e : HT.sIx xs.length xs.length (some 2) = min 2 xs.length := HT.sIx_nat xs.length xs.length 2
  rw [e]
  show (xs.drop 0).take (min 2 xs.length - 0) = _
  rw [List.drop_zero, Nat.sub_zero]
  apply List.ext_getElem?
  intro i
  rw [List.getElem?_take, List.getElem?_take]
  by_cases h : i < xs.length
  · by_cases h2 : i < 2
    · rw [if_pos (by omega), if_pos h2]
    · rw [if_neg (by omega), if_neg h2]
  · rw [List.getElem?_eq_none (by omega)]
    simp
theorem bent_clash_ok (hB : HasDraw P) (hP : P "_law_bent_clash" = some T_law_bent_clash) {b : D} (hb : IsBox b) {n w : Nat} (hn0 : 0 < n) (hn : n < 100) (hw : w < 20) {row : List (Int × Int)} (h : RB 101 row) (h0 : row ≠ []) :
    ∃ (row' : List (Int × Int)) (b' : D), cl P (k + 1) "_law_bent_clash" [b, .int n, .list (row.map prD), .int w] = .ok (.tuple (row'.map prD), [b']) ∧ RB 300 row' ∧ IsBox b' := by
  have c1 := @s_call2 (sg := ⟨[.mt 1, .fz], 0⟩) (h := hB.draw) (hs := rfl)
  have c2 := @pX_call2 (sg := ⟨[.mt 1, .fz], 0⟩) (h := hB.draw) (hs := rfl)
  have hl := h.1
  have hlp : 0 < row.length := List.length_pos_iff.mpr h0
  obtain ⟨v, b2, hv, v0, v1, hb2⟩ := draw_ok (k := k) hB.draw hb (m := (row.length : Int)) (by omega)
  obtain ⟨i, a, rfl, hi, ha, hg, hat, hix⟩ := at_prs (row := row) v0 (by omega)
  have hba := h.2 a ha
  have hel : ∀ o n (ps : List (Int × Int)), elz o n (ps.map prD) = true := fun _ _ _ => elz_prs
  have hl1 : row.length < lim := lenlim (by omega)
  have hl3 : row.length < 1000000 := by omega
  have hq : ∀ x, insL (i : Int) x (row.map prD) = .ok (.none, (row.map prD).take (i : Int).toNat ++ [x] ++ (row.map prD).drop (i : Int).toNat) := fun x => insL_ok (by omega) (by rw [List.length_map]; omega) (by rw [List.length_map]; omega)
  rw [Int.toNat_natCast] at hq
  have hsame : (w = 0 ∨ w = 15 ∨ w = 16 ∨ w = 17) ∨ w = 1 ∨ w = 2 ∨ w = 3 ∨ w = 4 ∨ w = 5 ∨ w = 6 ∨ w = 7 ∨ w = 8 ∨ w = 9 ∨ w = 10 ∨ w = 11 ∨ w = 12 ∨ w = 13 ∨ w = 14 ∨ (w = 18 ∨ w = 19) := by omega
  rcases hsame with hw1 | rfl | rfl | rfl | rfl | rfl | rfl | rfl | rfl | rfl | rfl | rfl | rfl | rfl | rfl | hw1
  · refine ⟨row, b2, ?_, h.more (by omega), hb2⟩
    rw [cl_eq hP]
    simp only [T_law_bent_clash]
    clear hq hg hix
    rcases hw1 with rfl | rfl | rfl | rfl <;> walk_at "go"
  · refine ⟨row.take 2 ++ row, b2, ?_, ⟨by rw [List.length_append, List.length_take]; omega, fun p hp => (List.mem_append.mp hp).elim (fun q => h.2 p (List.mem_of_mem_take q)) (h.2 p)⟩, hb2⟩
    rw [cl_eq hP, List.map_append, List.map_take]
    simp only [T_law_bent_clash]
    have hc := cut2 (xs := row.map prD)
    have hl2 : min 2 row.length + row.length ≤ lim := Nat.le_of_lt (lenlim (by omega))
    clear hq hg hix
    walk_at "go"
  · obtain ⟨j, a2, e0, hj, ha2, hg2, hat2, hix2⟩ := at_prs (row := row) (v := 0) (by omega) (by omega)
    obtain rfl : j = 0 := by omega
    have hpop : popL (some 0) (row.map prD) = .ok (.tuple [.int a2.1, .int a2.2], (row.map prD).eraseIdx 0) := pop_prs hj hg2 hix2
    refine ⟨row.eraseIdx 0, b2, ?_, h.erase.more (by omega), hb2⟩
    rw [cl_eq hP, ← erase_map]
    simp only [T_law_bent_clash]
    generalize (row.map prD).eraseIdx 0 = E at *
    clear hq hg hg2 hix hix2 e0 hat2
    walk_at "go"
  · have hlast : ∃ l, (row.map prD).getLast? = some (prD l) := by
      rw [List.getLast?_map, List.getLast?_eq_some_getLast h0]
      exact ⟨_, rfl⟩
    obtain ⟨l, hlast⟩ := hlast
    refine ⟨row.dropLast, b2, ?_, ⟨by rw [List.length_dropLast]; omega, fun p hp => h.2 p ((List.dropLast_sublist row).subset hp)⟩, hb2⟩
    rw [cl_eq hP, List.map_dropLast]
    have hpop : popL none (row.map prD) = .ok (prD l, (row.map prD).dropLast) := by rw [popL_end, hlast]; rfl
    simp only [T_law_bent_clash]
    generalize (row.map prD).dropLast = E at *
    clear hq hg hix hlast
    walk_at "go"
  · refine ⟨row.eraseIdx i, b2, ?_, h.erase.more (by omega), hb2⟩
    have hpop := pop_prs hi hg hix
    rw [cl_eq hP, ← erase_map]
    simp only [T_law_bent_clash]
    clear hq hg
    walk_at "go"
  · refine ⟨row.set i (a.2, a.1), b2, ?_, (h.set (p := (a.2, a.1)) ⟨hba.2, hba.1⟩).more (by omega), hb2⟩
    rw [cl_eq hP]
    simp only [T_law_bent_clash, List.map_set, prD]
    clear hq hg
    walk_at "go"
  · refine ⟨row.set i (a.1, a.1), b2, ?_, (h.set (p := (a.1, a.1)) ⟨hba.1, hba.1⟩).more (by omega), hb2⟩
    rw [cl_eq hP]
    simp only [T_law_bent_clash, List.map_set, prD]
    clear hq hg
    walk_at "go"
  · obtain ⟨x, b3, hx, x0, x1, hb3⟩ := draw_ok (k := k) hB.draw hb2 (m := 3) (by omega)
    refine ⟨row.set i (a.1, (n : Int) + x), b3, ?_, (h.set (p := (a.1, (n : Int) + x)) ⟨hba.1, by show ((n : Int) + x).natAbs < 1000; omega⟩).more (by omega), hb3⟩
    rw [cl_eq hP]
    simp only [T_law_bent_clash, List.map_set, prD]
    clear hq hg
    walk_at "go"
  · refine ⟨row.take i ++ [a] ++ row.drop i, b2, ?_, (h.ins hba).more (by omega), hb2⟩
    rw [cl_eq hP, List.map_append, List.map_append, List.map_take, List.map_drop]
    simp only [T_law_bent_clash, List.map_cons, List.map_nil, prD]
    clear hg hix
    walk_at "go"
  · refine ⟨row.reverse, b2, ?_, ⟨by rw [List.length_reverse]; omega, fun p hp => h.2 p (List.mem_reverse.mp hp)⟩, hb2⟩
    rw [cl_eq hP, List.map_reverse]
    simp only [T_law_bent_clash]
    clear hq hg hix
    walk_at "go"
  · refine ⟨row.map Prod.swap, b2, ?_, h.swap.more (by omega), hb2⟩
    have m1 := swap_map9 (row := row) (G := prog P (k + 1)) (s0 := .mt 1 b2) (s1 := .fz (.int n)) (s2 := .fz (.list (row.map prD))) (s3 := .fz (.int 10)) (s4 := .lk 1 (.list (row.map prD))) (s5 := .fz (.int i)) (s6 := .no) (s7 := .no) (s8 := .no)
    have hl2 : ((row.map Prod.swap).map prD).length < lim := by rw [List.length_map, List.length_map]; exact hl1
    have hel2 := hel true 1 (row.map Prod.swap)
    rw [cl_eq hP]
    simp only [T_law_bent_clash]
    clear hq hg hix
    generalize (row.map Prod.swap).map prD = L2 at *
    walk_at "go"
  · obtain ⟨x, b3, hx, x0, x1, hb3⟩ := draw_ok (k := k) hB.draw hb2 (m := (row.length : Int)) (by omega)
    obtain ⟨j, c, rfl, hj, hc, hg2, hat2, hix2⟩ := at_prs (row := row) x0 (by omega)
    refine ⟨(row.set i c).set j a, b3, ?_, ((h.set (h.2 c hc)).set hba).more (by omega), hb3⟩
    rw [cl_eq hP]
    simp only [T_law_bent_clash, List.map_set, prD]
    clear hq hg hg2
    walk_at "go"
  · refine ⟨[], b2, ?_, ⟨by simp, by simp⟩, hb2⟩
    rw [cl_eq hP]
    simp only [T_law_bent_clash, List.map_nil]
    clear hq hg hix
    walk_at "go"
  · obtain ⟨j, a2, e0, hj, ha2, hg2, hat2, hix2⟩ := at_prs (row := row) (v := 0) (by omega) (by omega)
    rw [← e0] at hat2
    have hlast : ∃ l, L2.atI (row.map prD) (-1) = some (.tuple [.int l.1, .int l.2]) ∧ l ∈ row := by
      rw [atI_neg1 (by simpa using h0), List.getLast?_map, List.getLast?_eq_some_getLast h0]
      exact ⟨_, rfl, List.getLast_mem h0⟩
    obtain ⟨l, hl4, hl5⟩ := hlast
    refine ⟨[a2, l], b2, ?_, ⟨by simp, fun p hp => by
      simp only [List.mem_cons, List.not_mem_nil, or_false] at hp
      rcases hp with rfl | rfl
      · exact h.2 _ ha2
      · exact h.2 _ hl5⟩, hb2⟩
    rw [cl_eq hP]
    simp only [T_law_bent_clash, List.map_cons, List.map_nil, prD]
    clear hq hg hg2 hix hix2 e0
    walk_at "go"
  · refine ⟨row.set i (-1, a.2), b2, ?_, (h.set (p := (-1, a.2)) ⟨by show (-1 : Int).natAbs < 1000; decide, hba.2⟩).more (by omega), hb2⟩
    rw [cl_eq hP]
    simp only [T_law_bent_clash, List.map_set, prD]
    clear hq hg
    walk_at "go"
  · obtain ⟨o, ho, f, t8, rfl, hf⟩ := bent_loop (G := prog P (k + 1)) (n := n) (w := w) hn hw h h0 (s0 := .mt 1 b2) (s5 := .fz (.int i)) (s6 := .no) (s7 := .no) (s8 := .no) (s9 := .no) trivial
    refine ⟨f, b2, ?_, hf, hb2⟩
    rw [cl_eq hP]
    simp only [T_law_bent_clash]
    clear hq hg hix
    rcases hw1 with rfl | rfl
    · rw [show ((18 : Nat) : Int) = 18 from rfl] at ho
      walk_at "go"
    · rw [show ((19 : Nat) : Int) = 19 from rfl] at ho
      walk_at "go"
end
end VL
/-! k28: clashes judged -/
namespace VL
open PySem
local macro_rules | `(tactic| walk_at "go") => `(tactic| simp [s_c, s_v, s_bin, s_cmp, s_ix, s_un, s_not, s_tand, s_tor, s_vand, s_vor, s_ife, s_chn, s_nil, s_cons, s_tup, s_lst, s_sl, s_b1, s_b2, s_isi, s_m1, s_it, s_rng, s_rngd, s_rrng, s_enum, s_zip, s_rev, s_lst1, s_tup1, s_comp, s_comp2, s_ags0, s_ags, s_pop, s_app, s_ins, s_ext, x_set, x_nop, x_brk, x_cont, x_seq, x_if, x_ret, x_drop, x_sets, x_aug, x_par, setT_nm, setT_tup, bindT_nm, bindT_tup, bindTs_cons, bindTs_nil, wipeS, backS, lockE, unl_eq, stF, stores, tgHas, *])
section
variable {P : Str → Option Fn} {k : Nat}
structure HasK (P : Str → Option Fn) : Prop extends HasJ P where
  pick : P "_law_pick" = some T_pickB
  mixed : P "_law_mixed" = some T_mixedB
  arrows : P "_law_arrows" = some T_law_arrows
  aclash : P "_law_a_clash" = some T_law_a_clash
  bentc : P "_law_bent_clash" = some T_law_bent_clash
theorem cj_step (hK : HasK P) {b : D} (hb : IsBox b) {n w : Nat} (hn0 : 2 ≤ n) (hn : n < 100) (hw : w < 20) {ps row : List (Int × Int)} (hps : ps.length ≤ 50) (h : RB 101 row) (h0 : row ≠ []) {s4 s5 s6 s7 s8 : Sl} (f4 : free1 s4) (f5 : free1 s5) (f6 : free1 s6) (f7 : free1 s7) (f8 : free1 s8) :
    ∃ (b' : D) (t5 t6 t7 t8 : Sl), bodyF (prog P (k + 3)) 0 0 (.nm 4) B1_law_clashes_judged (.int w) [.mt 1 b, .fz (.int n), .fz (.list (ps.map prD)), .fz (.list (row.map prD)), s4, s5, s6, s7, s8] =
      .ok (.nx [.mt 1 b', .fz (.int n), .fz (.list (ps.map prD)), .fz (.list (row.map prD)), .fz (.int w), t5, t6, t7, t8]) ∧ IsBox b' ∧ free1 t5 ∧ free1 t6 ∧ free1 t7 ∧ free1 t8 := by
  have p4 := fun i s r => put1_free (i := i) (s := s) (r := r) f4
  have p5 := fun i s r => put1_free (i := i) (s := s) (r := r) f5
  have p6 := fun i s r => put1_free (i := i) (s := s) (r := r) f6
  have p7 := fun i s r => put1_free (i := i) (s := s) (r := r) f7
  have p8 := fun i s r => put1_free (i := i) (s := s) (r := r) f8
  have c1 := @s_call2 (sg := ⟨[.mt 1, .fz, .fz, .fz], 0⟩) (h := hK.bentc) (hs := rfl)
  have c2 := @s_call2 (sg := ⟨[.fz, .fz], 0⟩) (h := hK.same) (hs := rfl)
  have c3 := @s_call2 (sg := ⟨[.fz, .fz], 0⟩) (h := hK.clash) (hs := rfl)
  have c4 := @s_call2 (sg := ⟨[.fz, .fz], 0⟩) (h := hK.lclash) (hs := rfl)
  have c5 := @s_call2 (sg := ⟨[.mt 1, .fz], 0⟩) (h := hK.draw) (hs := rfl)
  have c6 := @pX_call2 (sg := ⟨[.mt 1, .fz], 0⟩) (h := hK.draw) (hs := rfl)
  obtain ⟨bent, b2, hbe, hr2, hb2⟩ := bent_clash_ok (k := k + 1) hK.toHasDraw hK.bentc hb (by omega) hn hw h h0
  have hel : ∀ o n (ps : List (Int × Int)), elz o n (ps.map prD) = true := fun _ _ _ => elz_prs
  have key : ∀ qs : List (Int × Int), (cl P (k + 2) "shows_clash" [.list (qs.map prD), .tuple (bent.map prD)] = .ok (.bool (shn qs bent), [])) ∧ (cl P (k + 2) "_law_clash_shown" [.list (qs.map prD), .tuple (bent.map prD)] = .ok (.bool (shn qs bent), [])) ∧ (cl P (k + 2) "_law_same" [.bool (shn qs bent), .bool (shn qs bent)] = .ok (.bool true, [])) := fun qs =>
    ⟨shows_clash_ok hK.is_pair hK.forces hK.clash (by have := hr2.1; omega), lclash_ok hK.lforces hK.lclash (by have := hr2.1; omega), same_ok hK.same 0 (.bool (shn qs bent)) trivial _ (by omega)⟩
  have hin : inD (.int (w : Int)) (.tuple [.int 16, .int 17]) = .ok (decide ((w : Int) ∈ [(16 : Int), 17])) := inD_intsT (ns := [16, 17])
  have he := eqD_nil (row := ps)
  have hlp : ps.length < lim := lenlim (by omega)
  by_cases h15 : w = 15
  · subst h15
    rw [show ((15 : Nat) : Int) = 15 from rfl] at hbe hin ⊢
    by_cases hpn : ps = []
    · subst hpn
      obtain ⟨k1, k2, k3⟩ := key []
      refine ⟨b2, .fz (.tuple (bent.map prD)), .fz (.list []), s7, s8, ?_, hb2, trivial, trivial, f7, f8⟩
      rw [x_body, B1_law_clashes_judged]
      clear key
      simp only [List.map_nil] at *
      walk_at "go"
    · obtain ⟨v, b3, hv, v0, v1, hb3⟩ := draw_ok (k := k + 2) hK.draw hb2 (m := (ps.length : Int)) (by have := List.length_pos_iff.mpr hpn; omega)
      obtain ⟨i, a, rfl, hi, ha, hg, hat, hix⟩ := at_prs (row := ps) v0 (by omega)
      have hpop := pop_prs hi hg hix
      obtain ⟨k1, k2, k3⟩ := key (ps.eraseIdx i)
      rw [← erase_map] at k1 k2
      refine ⟨b3, .fz (.tuple (bent.map prD)), .fz (.list ((ps.eraseIdx i).map prD)), s7, s8, ?_, hb3, trivial, trivial, f7, f8⟩
      have hd : decide (ps = []) = false := decide_eq_false hpn
      rw [hd] at he
      rw [x_body, B1_law_clashes_judged, ← erase_map]
      have hel3 : ∀ o n, elz o n ((ps.map prD).eraseIdx i) = true := fun o n => by rw [erase_map]; exact elz_prs
      clear key hg hat hd hpn
      generalize (ps.map prD).eraseIdx i = E at *
      walk_at "go"
  · by_cases h16 : w = 16 ∨ w = 17
    · obtain ⟨x, b3, hx, x0, x1, hb3⟩ := draw_ok (k := k + 2) hK.draw hb2 (m := (n : Int)) (by omega)
      obtain ⟨y, b4, hy, y0, y1, hb4⟩ := draw_ok (k := k + 2) hK.draw hb3 (m := (n : Int) - 1) (by omega)
      have hn1 : ¬ (n = 0) := by omega
      obtain ⟨z, hz⟩ : ∃ z, Int.fmod (x + 1 + y) n = z := ⟨_, rfl⟩
      have hi := inD_nrm (a := x) (b := z) (ps := ps)
      by_cases hm : nrm x z ∈ ps
      · obtain ⟨k1, k2, k3⟩ := key ps
        refine ⟨b4, .fz (.tuple (bent.map prD)), .fz (.list (ps.map prD)), .fz (.int x), .fz (.int z), ?_, hb4, trivial, trivial, trivial, trivial⟩
        rw [← min_if', ← max_if'] at hi
        rw [x_body, B1_law_clashes_judged]
        clear key
        rcases h16 with rfl | rfl
        · rw [show ((16 : Nat) : Int) = 16 from rfl] at hbe hin ⊢
          walk_at "go"
        · rw [show ((17 : Nat) : Int) = 17 from rfl] at hbe hin ⊢
          walk_at "go"
      · obtain ⟨k1, k2, k3⟩ := key (sortP (ps ++ [nrm x z]))
        have hso := b1_sortP (o := true) (n := 1) (ps := ps ++ [nrm x z]) elz_prs
        refine ⟨b4, .fz (.tuple (bent.map prD)), .fz (.list ((sortP (ps ++ [nrm x z])).map prD)), .fz (.int x), .fz (.int z), ?_, hb4, trivial, trivial, trivial, trivial⟩
        have hl2 : ps.length + 1 ≤ lim := Nat.le_of_lt (lenlim (by omega))
        rw [x_body, B1_law_clashes_judged]
        clear key
        generalize sortP (ps ++ [nrm x z]) = R at *
        rw [List.map_append] at hso
        simp only [List.map_cons, List.map_nil, prD, nrm, ← min_if', ← max_if'] at hso
        rw [← min_if', ← max_if'] at hi
        rcases h16 with rfl | rfl
        · rw [show ((16 : Nat) : Int) = 16 from rfl] at hbe hin ⊢
          walk_at "go"
        · rw [show ((17 : Nat) : Int) = 17 from rfl] at hbe hin ⊢
          walk_at "go"
    · obtain ⟨k1, k2, k3⟩ := key ps
      have hd : decide ((w : Int) ∈ [(16 : Int), 17]) = false := decide_eq_false (by
        simp only [List.mem_cons, List.not_mem_nil, or_false]
        omega)
      rw [hd] at hin
      have h15' : ¬ ((w : Int) = 15) := by omega
      refine ⟨b2, .fz (.tuple (bent.map prD)), .fz (.list (ps.map prD)), s7, s8, ?_, hb2, trivial, trivial, f7, f8⟩
      rw [x_body, B1_law_clashes_judged]
      clear key hd h15 h16
      walk_at "go"
theorem cj_loop (hK : HasK P) {b : D} (hb : IsBox b) {n : Nat} (hn0 : 2 ≤ n) (hn : n < 100) {ps row : List (Int × Int)} (hps : ps.length ≤ 50) (h : RB 101 row) (h0 : row ≠ []) :
    ∃ o, VL.exec (prog P (k + 3)) 0 (.for_ (.nm 4) (.rng (.c (.int 0)) (.c (.int 20))) B1_law_clashes_judged) [.mt 1 b, .fz (.int n), .fz (.list (ps.map prD)), .fz (.list (row.map prD)), .no, .no, .no, .no, .no] = .ok o ∧
      ∃ b1 s4 s5 s6 s7 s8, o = .nx [.mt 1 b1, .fz (.int n), .fz (.list (ps.map prD)), .fz (.list (row.map prD)), s4, s5, s6, s7, s8] ∧ IsBox b1 := by
  have hbn : bnd 20 = true := by decide
  refine for_rng (G := prog P (k + 3)) (rm := 0) (t := .nm 4) (lo := 0) (hi := 20) (a := .c (.int 0)) (c := .c (.int 20)) (b := B1_law_clashes_judged)
    (r := [.mt 1 b, .fz (.int n), .fz (.list (ps.map prD)), .fz (.list (row.map prD)), .no, .no, .no, .no, .no]) (r0 := [.mt 1 b, .fz (.int n), .fz (.list (ps.map prD)), .fz (.list (row.map prD)), .no, .no, .no, .no, .no])
    (Q := fun o => ∃ b1 s4 s5 s6 s7 s8, o = .nx [.mt 1 b1, .fz (.int n), .fz (.list (ps.map prD)), .fz (.list (row.map prD)), s4, s5, s6, s7, s8] ∧ IsBox b1) (by walk_at "go")
    (fun w s => ∃ b1 s4 s5 s6 s7 s8, s = [.mt 1 b1, .fz (.int n), .fz (.list (ps.map prD)), .fz (.list (row.map prD)), s4, s5, s6, s7, s8] ∧ IsBox b1 ∧ free1 s4 ∧ free1 s5 ∧ free1 s6 ∧ free1 s7 ∧ free1 s8) ⟨b, .no, .no, .no, .no, .no, rfl, hb, trivial, trivial, trivial, trivial, trivial⟩
    (by
      rintro w s hw ⟨b1, s4, s5, s6, s7, s8, rfl, hb1, f4, f5, f6, f7, f8⟩
      obtain ⟨b2, t5, t6, t7, t8, hx, hb2, g5, g6, g7, g8⟩ := cj_step (k := k) hK hb1 hn0 hn (show w < 20 by omega) hps h h0 f4 f5 f6 f7 f8
      refine ⟨.nx [.mt 1 b2, .fz (.int n), .fz (.list (ps.map prD)), .fz (.list (row.map prD)), .fz (.int w), t5, t6, t7, t8], ?_, b2, _, t5, t6, t7, t8, rfl, hb2, trivial, g5, g6, g7, g8⟩
      rw [Int.zero_add]
      exact hx)
    (by
      rintro s ⟨b1, s4, s5, s6, s7, s8, rfl, hb1, _⟩
      exact ⟨b1, s4, s5, s6, s7, s8, rfl, hb1⟩)
theorem clashes_judged_ok (hK : HasK P) (hP : P "_law_clashes_judged" = some T_law_clashes_judged) {b : D} (hb : IsBox b) {n : Nat} (hn0 : 2 ≤ n) (hn : n < 100) {ps : List (Int × Int)} (h : RB 50 ps) :
    ∃ b', cl P (k + 3) "_law_clashes_judged" [b, .int n, .list (ps.map prD)] = .ok (.bool true, [b']) ∧ IsBox b' := by
  have c1 := @s_call2 (sg := ⟨[.fz], 0⟩) (h := hK.aclash) (hs := rfl)
  have c2 := @s_call2 (sg := ⟨[.fz], 0⟩) (h := hK.arrows) (hs := rfl)
  have c3 := @s_call2 (sg := ⟨[.mt 1, .fz], 0⟩) (h := hK.mixed) (hs := rfl)
  obtain ⟨row, d1, hr⟩ := a_clash_ok (k := k + 1) hK.lforces hK.arrows hK.aclash h
  by_cases h0 : row = []
  · subst h0
    have ha := arrows_ok (k := k + 2) hK.arrows (ps := ps) (by have := h.1; omega)
    have hra := h.arr
    obtain ⟨ys, b2, hm, hp, hb2⟩ := mixedB_ok (k := k + 1) hK.toHasDraw hK.mixed hb (xs := (arr ps ++ [(0, 1)]).map prD) (by rw [List.length_map, List.length_append]; have := hra.1; simp only [List.length_singleton]; omega)
    obtain ⟨zs, rfl, hpz⟩ := perm_map hp
    have hrz : RB 101 zs := by
      have hq : RB 101 (arr ps ++ [(0, 1)]) := hra.push ⟨by decide, by decide⟩
      exact ⟨by rw [hpz.length_eq]; exact hq.1, fun p hp => hq.2 p (hpz.mem_iff.mp hp)⟩
    have hz0 : zs ≠ [] := fun e => by
      rw [e] at hpz
      have := hpz.length_eq
      simp at this
    obtain ⟨o, ho, b3, s4, s5, s6, s7, s8, rfl, hb3⟩ := cj_loop (k := k) hK hb2 hn0 hn (ps := ps) h.1 hrz hz0
    refine ⟨b3, ?_, hb3⟩
    have hl2 : (arr ps).length + 1 ≤ lim := Nat.le_of_lt (lenlim (by have := hra.1; omega))
    rw [cl_eq hP]
    simp only [T_law_clashes_judged]
    rw [List.map_append] at hm
    simp only [List.map_cons, List.map_nil, prD] at hm d1
    have he : eqD (.list []) (.list []) = .ok true := eqD_nil (row := [])
    clear hp hpz hz0
    walk_at "go"
  · obtain ⟨o, ho, b3, s4, s5, s6, s7, s8, rfl, hb3⟩ := cj_loop (k := k) hK hb hn0 hn (ps := ps) h.1 hr h0
    have he := eqD_nil (row := row)
    have hd : decide (row = []) = false := decide_eq_false h0
    rw [hd] at he
    refine ⟨b3, ?_, hb3⟩
    rw [cl_eq hP]
    simp only [T_law_clashes_judged]
    clear hd h0
    walk_at "go"
end
end VL
/-! k28: pairs drawn -/
namespace VL
open PySem
local macro_rules | `(tactic| walk_at "go") => `(tactic| simp [s_c, s_v, s_bin, s_cmp, s_ix, s_un, s_not, s_tand, s_tor, s_vand, s_vor, s_ife, s_chn, s_nil, s_cons, s_tup, s_lst, s_sl, s_b1, s_b2, s_isi, s_m1, s_it, s_rng, s_rngd, s_rrng, s_enum, s_zip, s_rev, s_lst1, s_tup1, s_comp, s_comp2, s_ags0, s_ags, s_pop, s_app, s_ins, s_ext, x_set, x_nop, x_brk, x_cont, x_seq, x_if, x_ret, x_drop, x_sets, x_aug, x_par, setT_nm, setT_tup, bindT_nm, bindT_tup, bindTs_cons, bindTs_nil, wipeS, backS, lockE, unl_eq, stF, stores, tgHas, *])
def Kp : Sm := (.ife (.cmp .Eq (.v 3) (.c (.int 1)))
  (.set 0 (.nm 9) (.v 10))
  (.ife (.cmp .Eq (.v 3) (.c (.int 2)))
  (.set 0 (.nm 9) (.vor (.ix (.ix (.v 5) (.v 8)) (.v 7)) (.ix (.ix (.v 5) (.v 7)) (.v 8))))
  (.ife (.cmp .Eq (.v 3) (.c (.int 3)))
  (.set 0 (.nm 9) (.vor (.v 10) (.v 9)))
  .nop)))
section
variable {P : Str → Option Fn} {k : Nat}
theorem kp_ok {G : Str → Option Fd} {n kind h l : Nat} {f : Nat → Nat → Bool} (hk : kind < 4) (hh : h < n) (hl : l < n) {s0 s1 s2 s4 s6 : Sl} {fr rg : Bool} :
    ∃ β : Bool, VL.exec G 1 Kp [s0, s1, s2, .fz (.int kind), s4, .fz (matD n f), s6, .fz (.int h), .fz (.int l), .fz (.bool fr), .fz (.bool rg)] = .ok (.nx [s0, s1, s2, .fz (.int kind), s4, .fz (matD n f), s6, .fz (.int h), .fz (.int l), .fz (.bool β), .fz (.bool rg)]) := by
  rw [Kp]
  have hc : kind = 0 ∨ kind = 1 ∨ kind = 2 ∨ kind = 3 := by omega
  have a1 := atI_mat (f := f) hl
  have a2 := atI_mat (f := f) hh
  have a3 := atI_row (f := f l) hh
  have a4 := atI_row (f := f h) hl
  simp only [matD]
  rcases hc with rfl | rfl | rfl | rfl
  · exact ⟨fr, by walk_at "go"⟩
  · exact ⟨rg, by walk_at "go"⟩
  · cases h1 : f l h with
    | true => rw [h1] at a3; exact ⟨true, by walk_at "go"⟩
    | false => rw [h1] at a3; exact ⟨f h l, by walk_at "go"⟩
  · cases rg with
    | true => exact ⟨true, by walk_at "go"⟩
    | false => exact ⟨fr, by walk_at "go"⟩
theorem pairs_step (hB : HasMixB P) {n h l kind : Nat} {nm : List Int} {f : Nat → Nat → Bool} (hn : NmOk n nm) (hn2 : n < 8) (hk : kind < 4) (hh : h < n) (hl : l < h) {b : D} (hb : IsBox b) {ps : List (Int × Int)} {L : Nat} (hL : L < 1000) (hp : RB L ps) {th : Int} {s8 s9 s10 : Sl} (f8 : free1 s8) (f9 : free1 s9) (f10 : free1 s10) :
    ∃ (b' : D) (ps' : List (Int × Int)) (t8 t9 t10 : Sl), bodyF (prog P (k + 2)) 1 0 (.nm 8) B1_law_pairs (.int l) [.mt 1 b, .fz (.int n), .fz (.list (nm.map .int)), .fz (.int kind), .fz (.int th), .fz (matD n f), .ow 1 (.list (ps.map prD)), .fz (.int h), s8, s9, s10] =
      .ok (.nx [.mt 1 b', .fz (.int n), .fz (.list (nm.map .int)), .fz (.int kind), .fz (.int th), .fz (matD n f), .ow 1 (.list (ps'.map prD)), .fz (.int h), t8, t9, t10]) ∧ IsBox b' ∧ RB (L + 1) ps' ∧ free1 t8 ∧ free1 t9 ∧ free1 t10 := by
  have c1 := @s_call2 (sg := ⟨[.mt 1, .fz], 0⟩) (h := hB.draw) (hs := rfl)
  have c2 := @pX_call2 (sg := ⟨[.mt 1, .fz], 0⟩) (h := hB.draw) (hs := rfl)
  have p8 := fun i s r => put1_free (i := i) (s := s) (r := r) f8
  have p9 := fun i s r => put1_free (i := i) (s := s) (r := r) f9
  have p10 := fun i s r => put1_free (i := i) (s := s) (r := r) f10
  obtain ⟨v, b2, hv, _, _, hb2⟩ := draw_ok (k := k + 1) hB.draw hb (m := 100) (by omega)
  obtain ⟨x, hx, hx2⟩ := nm_at hn (show l < n by omega)
  obtain ⟨y, hy, hy2⟩ := nm_at hn hh
  have hxb : x.natAbs < 1000 := by have := ((hn.mem x).mp (List.mem_of_getElem? hx)); omega
  have hyb : y.natAbs < 1000 := by have := ((hn.mem y).mp (List.mem_of_getElem? hy)); omega
  have hwl : ps.length < 1000000 := by have := hp.1; omega
  have e0 : bindT 0 (.nm 8) (.int l) [.mt 1 b, .fz (.int n), .fz (.list (nm.map .int)), .fz (.int kind), .fz (.int th), .fz (matD n f), .ow 1 (.list (ps.map prD)), .fz (.int h), s8, s9, s10] = .ok [.mt 1 b, .fz (.int n), .fz (.list (nm.map .int)), .fz (.int kind), .fz (.int th), .fz (matD n f), .ow 1 (.list (ps.map prD)), .fz (.int h), .fz (.int l), s9, s10] := by walk_at "go"
  have e1 : VL.exec (prog P (k + 2)) 1 (.set 0 (.nm 9) (.cmp .Lt (.call "_law_draw" (.cons (.v 0) (.cons (.c (.int 100)) .nil))) (.v 4))) [.mt 1 b, .fz (.int n), .fz (.list (nm.map .int)), .fz (.int kind), .fz (.int th), .fz (matD n f), .ow 1 (.list (ps.map prD)), .fz (.int h), .fz (.int l), s9, s10] =
      .ok (.nx [.mt 1 b2, .fz (.int n), .fz (.list (nm.map .int)), .fz (.int kind), .fz (.int th), .fz (matD n f), .ow 1 (.list (ps.map prD)), .fz (.int h), .fz (.int l), .fz (.bool (decide (v < th))), s10]) := by walk_at "go"
  have e2 : ∃ rg : Bool, VL.exec (prog P (k + 2)) 1 (.set 0 (.nm 10) (.vor (.cmp .Eq (.bin .Sub (.v 7) (.v 8)) (.c (.int 1))) (.cmp .Eq (.bin .Sub (.v 7) (.v 8)) (.bin .Sub (.v 1) (.c (.int 1)))))) [.mt 1 b2, .fz (.int n), .fz (.list (nm.map .int)), .fz (.int kind), .fz (.int th), .fz (matD n f), .ow 1 (.list (ps.map prD)), .fz (.int h), .fz (.int l), .fz (.bool (decide (v < th))), s10] =
      .ok (.nx [.mt 1 b2, .fz (.int n), .fz (.list (nm.map .int)), .fz (.int kind), .fz (.int th), .fz (matD n f), .ow 1 (.list (ps.map prD)), .fz (.int h), .fz (.int l), .fz (.bool (decide (v < th))), .fz (.bool rg)]) := by
    by_cases q : (h : Int) - l = 1
    · exact ⟨true, by walk_at "go"⟩
    · exact ⟨decide ((h : Int) - l = n - 1), by walk_at "go"⟩
  obtain ⟨rg, e2⟩ := e2
  obtain ⟨β, e3⟩ := kp_ok (G := prog P (k + 2)) (f := f) (n := n) (s0 := .mt 1 b2) (s1 := .fz (.int n)) (s2 := .fz (.list (nm.map .int))) (s4 := .fz (.int th)) (s6 := .ow 1 (.list (ps.map prD))) (fr := decide (v < th)) (rg := rg) hk hh (show l < n by omega)
  rw [Kp] at e3
  rw [x_body, e0, bd1_ok, B1_law_pairs, x_seq, e1, sq1_nx, x_seq, e2, sq1_nx, x_seq, e3, sq1_nx]
  cases β with
  | true =>
    refine ⟨b2, ps ++ [(min x y, max x y)], .fz (.int l), .fz (.bool true), .fz (.bool rg), ?_, hb2, hp.push ⟨by show (min x y).natAbs < 1000; omega, by show (max x y).natAbs < 1000; omega⟩, trivial, trivial, trivial⟩
    rw [List.map_append]
    simp only [List.map_cons, List.map_nil]
    simp only [prD, ← min_if', ← max_if']
    clear e0 e1 e2 e3
    walk_at "go"
  | false => exact ⟨b2, ps, .fz (.int l), .fz (.bool false), .fz (.bool rg), by clear e0 e1 e2 e3; walk_at "go", hb2, hp.more (by omega), trivial, trivial, trivial⟩
theorem pairs_row (hB : HasMixB P) {n h kind : Nat} {nm : List Int} {f : Nat → Nat → Bool} (hn : NmOk n nm) (hn2 : n < 8) (hk : kind < 4) (hh : h < n) {b : D} (hb : IsBox b) {ps : List (Int × Int)} (hp : RB (7 * h) ps) {th : Int} {s7 s8 s9 s10 : Sl} (f7 : free1 s7) (f8 : free1 s8) (f9 : free1 s9) (f10 : free1 s10) :
    ∃ (b' : D) (ps' : List (Int × Int)) (t8 t9 t10 : Sl), bodyF (prog P (k + 2)) 1 0 (.nm 7) B2_law_pairs (.int h) [.mt 1 b, .fz (.int n), .fz (.list (nm.map .int)), .fz (.int kind), .fz (.int th), .fz (matD n f), .ow 1 (.list (ps.map prD)), s7, s8, s9, s10] =
      .ok (.nx [.mt 1 b', .fz (.int n), .fz (.list (nm.map .int)), .fz (.int kind), .fz (.int th), .fz (matD n f), .ow 1 (.list (ps'.map prD)), .fz (.int h), t8, t9, t10]) ∧ IsBox b' ∧ RB (7 * (h + 1)) ps' ∧ free1 t8 ∧ free1 t9 ∧ free1 t10 := by
  have p7 := fun i s r => put1_free (i := i) (s := s) (r := r) f7
  have hbn : bnd (h : Int) = true := bnd_nat (by omega)
  obtain ⟨o, ho, b', ps', t8, t9, t10, rfl, h1, h2, g8, g9, g10⟩ := for_rng (G := prog P (k + 2)) (rm := 1) (t := .nm 8) (lo := 0) (hi := h) (a := .c (.int 0)) (c := .v 7) (b := B1_law_pairs)
    (r := [.mt 1 b, .fz (.int n), .fz (.list (nm.map .int)), .fz (.int kind), .fz (.int th), .fz (matD n f), .ow 1 (.list (ps.map prD)), .fz (.int h), s8, s9, s10]) (r0 := [.mt 1 b, .fz (.int n), .fz (.list (nm.map .int)), .fz (.int kind), .fz (.int th), .fz (matD n f), .ow 1 (.list (ps.map prD)), .fz (.int h), s8, s9, s10])
    (Q := fun o => ∃ (b' : D) (ps' : List (Int × Int)) (t8 t9 t10 : Sl), o = .nx [.mt 1 b', .fz (.int n), .fz (.list (nm.map .int)), .fz (.int kind), .fz (.int th), .fz (matD n f), .ow 1 (.list (ps'.map prD)), .fz (.int h), t8, t9, t10] ∧ IsBox b' ∧ RB (7 * h + h) ps' ∧ free1 t8 ∧ free1 t9 ∧ free1 t10) (by walk_at "go")
    (fun l s => ∃ (b' : D) (ps' : List (Int × Int)) (t8 t9 t10 : Sl), s = [.mt 1 b', .fz (.int n), .fz (.list (nm.map .int)), .fz (.int kind), .fz (.int th), .fz (matD n f), .ow 1 (.list (ps'.map prD)), .fz (.int h), t8, t9, t10] ∧ IsBox b' ∧ RB (7 * h + l) ps' ∧ free1 t8 ∧ free1 t9 ∧ free1 t10)
    ⟨b, ps, s8, s9, s10, rfl, hb, hp, f8, f9, f10⟩
    (by
      rintro l s hl ⟨b2, ps2, t8, t9, t10, rfl, hb2, hp2, g8, g9, g10⟩
      obtain ⟨b3, ps3, u8, u9, u10, e3, hb3, hp3, k8, k9, k10⟩ := pairs_step (k := k) hB hn hn2 hk hh (show l < h by omega) hb2 (show 7 * h + l < 1000 by omega) hp2 (th := th) (f := f) g8 g9 g10
      refine ⟨.nx [.mt 1 b3, .fz (.int n), .fz (.list (nm.map .int)), .fz (.int kind), .fz (.int th), .fz (matD n f), .ow 1 (.list (ps3.map prD)), .fz (.int h), u8, u9, u10], ?_, b3, ps3, u8, u9, u10, rfl, hb3, hp3, k8, k9, k10⟩
      rw [Int.zero_add]
      exact e3)
    (by
      rintro s ⟨b2, ps2, t8, t9, t10, rfl, hb2, hp2, g8, g9, g10⟩
      have e : ((h : Int) - 0).toNat = h := by omega
      rw [e] at hp2
      exact ⟨b2, ps2, t8, t9, t10, rfl, hb2, hp2, g8, g9, g10⟩)
  refine ⟨b', ps', t8, t9, t10, ?_, h1, h2.more (by omega), g8, g9, g10⟩
  rw [x_body, B2_law_pairs]
  walk_at "go"
theorem pairs_ok (hB : HasMixB P) (hW : P "_law_works" = some T_worksB) (hL : P "_law_less" = some T_law_less) (hP : P "_law_pairs" = some T_law_pairs) {b : D} (hb : IsBox b) {n : Nat} (hn0 : 0 < n) (hn2 : n < 8) : ∃ (ps : List (Int × Int)) (b' : D), cl P (k + 3) "_law_pairs" [b, .int n] = .ok (.list (ps.map prD), [b']) ∧ RB (7 * n) ps ∧ IsBox b' := by
  have c1 := @s_call2 (sg := ⟨[.mt 1, .fz], 0⟩) (h := hB.pick) (hs := rfl)
  have c2 := @s_call2 (sg := ⟨[.mt 1, .fz], 0⟩) (h := hB.mixed) (hs := rfl)
  have c3 := @s_call2 (sg := ⟨[.mt 1, .fz], 0⟩) (h := hW) (hs := rfl)
  have c4 := @s_call2 (sg := ⟨[.fz], 0⟩) (h := hL) (hs := rfl)
  have hbn : bnd (n : Int) = true := bnd_nat (by omega)
  have hln : (rngU 0 (n : Int)).length = n := by rw [rngU_len]; omega
  obtain ⟨ys, b2, h2, hp2, hb2⟩ := mixedB_ok (k := k + 1) hB.toHasDraw hB.mixed hb (xs := rngU 0 (n : Int)) (by omega)
  obtain ⟨nm, rfl, hnm⟩ := nm_of_perm hp2
  obtain ⟨kd, b3, h3, hm3, hb3⟩ := pickB_ok (k := k + 1) hB.toHasDraw hB.pick hb2 (xs := [.int 0, .int 1, .int 2, .int 0, .int 3, .int 2]) (by simp)
  obtain ⟨kd, rfl, hkd⟩ : ∃ i : Nat, kd = .int i ∧ i < 4 := by
    simp only [List.mem_cons, List.not_mem_nil, or_false] at hm3
    rcases hm3 with rfl | rfl | rfl | rfl | rfl | rfl
    · exact ⟨0, rfl, by omega⟩
    · exact ⟨1, rfl, by omega⟩
    · exact ⟨2, rfl, by omega⟩
    · exact ⟨0, rfl, by omega⟩
    · exact ⟨3, rfl, by omega⟩
    · exact ⟨2, rfl, by omega⟩
  obtain ⟨th, b4, h4, hm4, hb4⟩ := pickB_ok (k := k + 1) hB.toHasDraw hB.pick hb3 (xs := [.int 50, .int 30, .int 70, .int 100, .int 15]) (by simp)
  obtain ⟨th, rfl⟩ : ∃ i, th = .int i := by
    simp only [List.mem_cons, List.not_mem_nil, or_false] at hm4
    rcases hm4 with rfl | rfl | rfl | rfl | rfl <;> exact ⟨_, rfl⟩
  obtain ⟨ws, b5, h5, _, hb5⟩ := worksB_ok (k := k) hB hW hb4 hn0 (show n < 100 by omega)
  have h6 := less_ok (k := k + 2) hL (show n < 1000 by omega) (ws := ws)
  generalize wsts (inW ws) n = f at h6
  obtain ⟨o, ho, b6, ps, s7, s8, s9, s10, rfl, hb6, hp⟩ := for_rng (G := prog P (k + 3)) (rm := 1) (t := .nm 7) (lo := 0) (hi := n) (a := .c (.int 0)) (c := .v 1) (b := B2_law_pairs)
    (r := [.mt 1 b5, .fz (.int n), .fz (.list (nm.map .int)), .fz (.int kd), .fz (.int th), .fz (matD n f), .ow 1 (.list []), .no, .no, .no, .no]) (r0 := [.mt 1 b5, .fz (.int n), .fz (.list (nm.map .int)), .fz (.int kd), .fz (.int th), .fz (matD n f), .ow 1 (.list []), .no, .no, .no, .no])
    (Q := fun o => ∃ (b6 : D) (ps : List (Int × Int)) (s7 s8 s9 s10 : Sl), o = .nx [.mt 1 b6, .fz (.int n), .fz (.list (nm.map .int)), .fz (.int kd), .fz (.int th), .fz (matD n f), .ow 1 (.list (ps.map prD)), s7, s8, s9, s10] ∧ IsBox b6 ∧ RB (7 * n) ps) (by walk_at "go")
    (fun h s => ∃ (b6 : D) (ps : List (Int × Int)) (s7 s8 s9 s10 : Sl), s = [.mt 1 b6, .fz (.int n), .fz (.list (nm.map .int)), .fz (.int kd), .fz (.int th), .fz (matD n f), .ow 1 (.list (ps.map prD)), s7, s8, s9, s10] ∧ IsBox b6 ∧ RB (7 * h) ps ∧ free1 s7 ∧ free1 s8 ∧ free1 s9 ∧ free1 s10)
    ⟨b5, [], .no, .no, .no, .no, rfl, hb5, ⟨by simp, by simp⟩, trivial, trivial, trivial, trivial⟩
    (by
      rintro h s hh ⟨b6, ps, s7, s8, s9, s10, rfl, hb6, hp, f7, f8, f9, f10⟩
      obtain ⟨b7, ps7, t8, t9, t10, e7, hb7, hp7, g8, g9, g10⟩ := pairs_row (k := k + 1) hB hnm hn2 hkd (show h < n by omega) hb6 hp (th := th) (f := f) f7 f8 f9 f10
      refine ⟨.nx [.mt 1 b7, .fz (.int n), .fz (.list (nm.map .int)), .fz (.int kd), .fz (.int th), .fz (matD n f), .ow 1 (.list (ps7.map prD)), .fz (.int h), t8, t9, t10], ?_, b7, ps7, _, t8, t9, t10, rfl, hb7, hp7, trivial, g8, g9, g10⟩
      rw [Int.zero_add]
      exact e7)
    (by
      rintro s ⟨b6, ps, s7, s8, s9, s10, rfl, hb6, hp, _⟩
      have e : ((n : Int) - 0).toNat = n := by omega
      rw [e] at hp
      exact ⟨b6, ps, s7, s8, s9, s10, rfl, hb6, hp.more (by omega)⟩)
  refine ⟨sortP ps, b6, ?_, hp.sorted, hb6⟩
  have hso : ∀ o n, b1D .sorted ⟨o, n, .list (ps.map prD)⟩ = .ok ⟨true, 1, .list ((sortP ps).map prD)⟩ := fun o n => b1_sortP elz_prs
  have hln2 : n ≤ 1000000 := by omega
  rw [cl_eq hP]
  simp only [T_law_pairs]
  generalize (sortP ps).map prD = S at *
  clear hp2
  walk_at "go"
end
end VL
/-! k28: the law -/
namespace VL
open PySem
local macro_rules | `(tactic| walk_at "go") => `(tactic| simp [s_c, s_v, s_bin, s_cmp, s_ix, s_un, s_not, s_tand, s_tor, s_vand, s_vor, s_ife, s_chn, s_nil, s_cons, s_tup, s_lst, s_sl, s_b1, s_b2, s_isi, s_m1, s_it, s_rng, s_rngd, s_rrng, s_enum, s_zip, s_rev, s_lst1, s_tup1, s_comp, s_comp2, s_ags0, s_ags, s_pop, s_app, s_ins, s_ext, x_set, x_nop, x_brk, x_cont, x_seq, x_if, x_ret, x_drop, x_sets, x_aug, x_par, setT_nm, setT_tup, bindT_nm, bindT_tup, bindTs_cons, bindTs_nil, wipeS, backS, lockE, unl_eq, stF, stores, tgHas, *])
def S1_law28 : Sm := (.set 1 (.nm 1) (.lst 1 (.cons (.call "_law_digits" (.cons (.v 0) (.cons (.c (.int 0)) (.cons (.c (.int 22)) .nil)))) (.cons (.c (.int 0)) .nil))))
def S2_law28 : Sm := (.set 0 (.nm 2) (.bin .Add (.c (.int 5)) (.call "_law_draw" (.cons (.v 1) (.cons (.c (.int 2)) .nil)))))
def S3_law28 : Sm := (.set 0 (.nm 3) (.call "_law_mixed" (.cons (.v 1) (.cons (.lst1 (.rng (.c (.int 0)) (.v 2))) .nil))))
def S4_law28 : Sm := (.set 1 (.nm 4) (.comp 1 (.tup (.cons (.b2 .min (.ix (.v 3) (.v 10)) (.ix (.v 3) (.bin .Mod (.bin .Add (.v 10) (.c (.int 1))) (.c (.int 5))))) (.cons (.b2 .max (.ix (.v 3) (.v 10)) (.ix (.v 3) (.bin .Mod (.bin .Add (.v 10) (.c (.int 1))) (.c (.int 5))))) .nil))) (.nm 10) (.rng (.c (.int 0)) (.c (.int 5))) (.c (.bool true)) [10]))
def S5_law28 : Sm := (.for_ (.cons (.nm 5) (.cons (.nm 6) .nil)) (.it (.call "_law_pairs" (.cons (.v 1) (.cons (.v 2) .nil)))) B1_law28)
def S6_law28 : Sm := (.set 1 (.nm 4) (.b1 .sorted (.v 4)))
def S7_law28 : Sm := (.ife (.cmp .Eq (.call "_law_draw" (.cons (.v 1) (.cons (.c (.int 4)) .nil))) (.c (.int 0))) (.set 1 (.nm 4) (.call "_law_pairs" (.cons (.v 1) (.cons (.v 2) .nil)))) .nop)
def S8_law28 : Sm := (.ife (.tnot (.call "_law_clashes_judged" (.cons (.v 1) (.cons (.v 2) (.cons (.v 4) .nil))))) (.ret (.c (.bool false))) .nop)
def S9_law28 : Sm := (.set 0 (.nm 7) (.comp 1 (.call "_law_pick" (.cons (.v 1) (.cons (.lst 1 (.cons (.tup (.cons (.v 5) (.cons (.v 6) .nil))) (.cons (.tup (.cons (.v 6) (.cons (.v 5) .nil))) .nil))) .nil))) (.cons (.nm 5) (.cons (.nm 6) .nil)) (.it (.v 4)) (.c (.bool true)) [5, 6]))
def S10_law28 : Sm := (.ife (.tnot (.call "_law_arrows_judged" (.cons (.v 1) (.cons (.v 2) (.cons (.v 4) (.cons (.v 7) .nil)))))) (.ret (.c (.bool false))) .nop)
def S11_law28 : Sm := (.set 0 (.nm 8) (.ix (.call "_law_closed" (.cons (.call "_law_less" (.cons (.call "_law_works" (.cons (.v 1) (.cons (.v 2) .nil))) .nil)) .nil)) (.c (.int 1))))
def S12_law28 : Sm := (.set 0 (.nm 9) (.b1 .sorted (.comp 1 (.tup (.cons (.b2 .min (.v 11) (.v 12)) (.cons (.b2 .max (.v 11) (.v 12)) .nil))) (.cons (.nm 11) (.cons (.nm 12) .nil)) (.it (.v 8)) (.c (.bool true)) [11, 12])))
def S13_law28 : Sm := (.ret (.vand (.call "_law_arrows_judged" (.cons (.v 1) (.cons (.v 2) (.cons (.v 9) (.cons (.b1 .list (.v 8)) .nil))))) (.cmp .Is (.call "shows_directed" (.cons (.b1 .list (.v 9)) (.cons (.b1 .list (.v 8)) .nil))) (.c (.bool true)))))
theorem law28_body : T_law28.body = (.seq S1_law28 (.seq S2_law28 (.seq S3_law28 (.seq S4_law28 (.seq S5_law28 (.seq S6_law28 (.seq S7_law28 (.seq S8_law28 (.seq S9_law28 (.seq S10_law28 (.seq S11_law28 (.seq S12_law28 S13_law28)))))))))))) := rfl
structure Has28 (P : Str → Option Fn) : Prop extends HasK P where
  digits : P "_law_digits" = some T_digitsB
  works : P "_law_works" = some T_worksB
  less : P "_law_less" = some T_law_less
  closed : P "_law_closed" = some T_law_closed
  pairs : P "_law_pairs" = some T_law_pairs
  cj : P "_law_clashes_judged" = some T_law_clashes_judged
  aj : P "_law_arrows_judged" = some T_law_arrows_judged
  law : P "law" = some T_law28
theorem Has28.mb {P : Str → Option Fn} (h : Has28 P) : HasMixB P := ⟨h.toHasDraw, h.pick, h.mixed⟩
def nf (s : Sl) : Prop := s = .no ∨ ∃ d, s = .fz d
theorem nf.free {s : Sl} (h : nf s) : free1 s := by
  rcases h with rfl | ⟨d, rfl⟩ <;> trivial
theorem prs_of_all : ∀ {xs : List D}, (∀ x ∈ xs, ∃ p : Int × Int, x = prD p ∧ Bdp p) → ∃ ps : List (Int × Int), xs = ps.map prD ∧ ∀ p ∈ ps, Bdp p
  | [], _ => ⟨[], rfl, fun _ h => by cases h⟩
  | x :: xs, h => by
    obtain ⟨p, rfl, hp⟩ := h x List.mem_cons_self
    obtain ⟨ps, rfl, hps⟩ := prs_of_all (xs := xs) fun y hy => h y (List.mem_cons_of_mem _ hy)
    exact ⟨p :: ps, rfl, fun q hq => (List.mem_cons.mp hq).elim (fun e => by rw [e]; exact hp) (hps q)⟩
section
variable {P : Str → Option Fn} {k : Nat}
/-- the order is told by its closed pairs -/
theorem closed_straight {n : Nat} {f : Nat → Nat → Bool} : strB (clo n (wsts f n) n) = true := by
  unfold strB
  rw [List.all_eq_true]
  intro p hp
  rw [List.all_eq_true]
  intro q hq
  obtain ⟨i, j, rfl, hi, hj, h1⟩ := clo_mem.mp hp
  obtain ⟨i2, j2, rfl, hi2, hj2, h2⟩ := clo_mem.mp hq
  by_cases hm : (j : Int) = (i2 : Int)
  · have hm2 : j = i2 := by omega
    subst hm2
    have h3 := wsts_closed n j i j2 hj h1 h2
    have h4 : (((i : Int), (j : Int)).1, ((j : Int), (j2 : Int)).2) ∈ clo n (wsts f n) n := clo_mem.mpr ⟨i, j2, rfl, hi, hj2, h3⟩
    rw [decide_eq_true h4]
    simp
  · rw [decide_eq_false hm]
    rfl
theorem dir_closed {ar : List (Int × Int)} (h : strB ar = true) : dirB (sortP (ar.map fun p => nrm p.1 p.2)) ar = true := by
  unfold dirB
  rw [sortP_idem, h]
  simp
theorem clo_RB {n : Nat} {f : Nat → Nat → Bool} (hn : n < 8) : RB 50 (clo n f n) := by
  refine ⟨Nat.le_trans clo_len (Nat.le_trans (Nat.mul_le_mul (show n ≤ 7 by omega) (show n ≤ 7 by omega)) (by decide)), fun p hp => ?_⟩
  obtain ⟨i, j, rfl, hi, hj, _⟩ := clo_mem.mp hp
  exact ⟨by show (i : Int).natAbs < 1000; omega, by show (j : Int).natAbs < 1000; omega⟩
theorem l28_pairs (h8 : Has28 P) {b : D} (hb : IsBox b) {n : Nat} (hn0 : 5 ≤ n) (hn2 : n < 7) {nm : List Int} (hnm : NmOk n nm) {s0 : Sl} :
    ∃ (ps : List (Int × Int)) (b' : D) (s5 s6 : Sl), VL.exec (prog P (k + 5)) 0 (.seq S4_law28 S5_law28) [s0, .ow 1 b, .fz (.int n), .fz (.list (nm.map .int)), .no, .no, .no, .no, .no, .no, .no, .no, .no] =
      .ok (.nx [s0, .ow 1 b', .fz (.int n), .fz (.list (nm.map .int)), .ow 1 (.list (ps.map prD)), s5, s6, .no, .no, .no, .no, .no, .no]) ∧ RB 50 ps ∧ IsBox b' ∧ nf s5 ∧ nf s6 := by
  have c1 := @s_call2 (sg := ⟨[.mt 1, .fz], 0⟩) (h := h8.draw) (hs := rfl)
  have c2 := @pX_call2 (sg := ⟨[.mt 1, .fz], 0⟩) (h := h8.draw) (hs := rfl)
  have c3 := @s_call2 (sg := ⟨[.mt 1, .fz], 1⟩) (h := h8.pairs) (hs := rfl)
  have hb5 : bnd 5 = true := by decide
  have hr := rng0_at (n := 5)
  have hr : rngU 0 5 = (List.range 5).map fun (k : Nat) => PyData.int (k : Int) := hr
  have hnl := hnm.len
  have hnb : ∀ i : Nat, i < n → ∃ x : Int, L2.atI (nm.map PyData.int) (i : Int) = some (.int x) ∧ nm.getD i 0 = x ∧ x.natAbs < 1000 := fun i hi => by
    obtain ⟨x, hx, hx2⟩ := nm_at hnm hi
    refine ⟨x, hx2, by rw [List.getD_eq_getElem?_getD, hx]; rfl, ?_⟩
    have := (hnm.mem x).mp (List.mem_of_getElem? hx)
    omega
  have m1 : mapL (turnF (prog P (k + 5)) 1 0 (.tup (.cons (.b2 .min (.ix (.v 3) (.v 10)) (.ix (.v 3) (.bin .Mod (.bin .Add (.v 10) (.c (.int 1))) (.c (.int 5))))) (.cons (.b2 .max (.ix (.v 3) (.v 10)) (.ix (.v 3) (.bin .Mod (.bin .Add (.v 10) (.c (.int 1))) (.c (.int 5))))) .nil))) (.nm 10) (.c (.bool true)) [10]) ((List.range 5).map fun (k : Nat) => PyData.int (k : Int)) [s0, .ow 1 b, .fz (.int n), .fz (.list (nm.map .int)), .no, .no, .no, .no, .no, .no, .no, .no, .no] =
      .ok (((List.range 5).map fun i => nrm (nm.getD i 0) (nm.getD ((i + 1) % 5) 0)).map prD, [s0, .ow 1 b, .fz (.int n), .fz (.list (nm.map .int)), .no, .no, .no, .no, .no, .no, .no, .no, .no]) := by
    rw [mapL_all (enc := fun (j : Nat) => PyData.int (j : Int)) (g := fun i => prD (nrm (nm.getD i 0) (nm.getD ((i + 1) % 5) 0))) (fun i hi => ?_)]
    · rw [List.map_map]; rfl
    · have hi := List.mem_range.mp hi
      obtain ⟨x, hx, ex, _⟩ := hnb i (by omega)
      obtain ⟨y, hy, ey, _⟩ := hnb ((i + 1) % 5) (by omega)
      have hf : Int.fmod ((i : Int) + 1) 5 = (((i + 1) % 5 : Nat) : Int) := fmod_nat (a := i + 1) (b := 5)
      rw [← hf] at hy
      rw [ex, ey, s_turn]
      simp only [prD, nrm, ← min_if', ← max_if']
      clear ex ey hf hr
      walk_at "go"
  have hR0 : RB 5 ((List.range 5).map fun i => nrm (nm.getD i 0) (nm.getD ((i + 1) % 5) 0)) := by
    refine ⟨by simp, fun p hp => ?_⟩
    obtain ⟨i, hi, rfl⟩ := List.mem_map.mp hp
    have hi := List.mem_range.mp hi
    obtain ⟨x, hx, ex, hxb⟩ := hnb i (by omega)
    obtain ⟨y, hy, ey, hyb⟩ := hnb ((i + 1) % 5) (by omega)
    rw [ex, ey]
    exact ⟨by show (min x y).natAbs < 1000; omega, by show (max x y).natAbs < 1000; omega⟩
  generalize ((List.range 5).map fun i => nrm (nm.getD i 0) (nm.getD ((i + 1) % 5) 0)) = p0 at m1 hR0
  have hl0 : p0.length < lim := lenlim (by have := hR0.1; omega)
  have e4 : VL.exec (prog P (k + 5)) 0 S4_law28 [s0, .ow 1 b, .fz (.int n), .fz (.list (nm.map .int)), .no, .no, .no, .no, .no, .no, .no, .no, .no] = .ok (.nx [s0, .ow 1 b, .fz (.int n), .fz (.list (nm.map .int)), .ow 1 (.list (p0.map prD)), .no, .no, .no, .no, .no, .no, .no, .no]) := by
    rw [S4_law28]
    clear hnb
    walk_at "go"
  obtain ⟨qs, b2, hq, hqb, hb2⟩ := pairs_ok (k := k + 1) h8.mb h8.works h8.less h8.pairs hb (n := n) (by omega) (by omega)
  have hql : qs.length ≤ 42 := by have := hqb.1; omega
  rw [x_seq, e4, sq1_nx, S5_law28]
  obtain ⟨o, ho, ps, b3, s5, s6, rfl, hp, hb3, g5, g6⟩ := for_lst (G := prog P (k + 5)) (rm := 0) (r := [s0, .ow 1 b, .fz (.int n), .fz (.list (nm.map .int)), .ow 1 (.list (p0.map prD)), .no, .no, .no, .no, .no, .no, .no, .no]) (r0 := [s0, .ow 1 b2, .fz (.int n), .fz (.list (nm.map .int)), .ow 1 (.list (p0.map prD)), .no, .no, .no, .no, .no, .no, .no, .no])
    (enc := prD) (xs := qs) (m := 0) (t := .cons (.nm 5) (.cons (.nm 6) .nil)) (it := .it (.call "_law_pairs" (.cons (.v 1) (.cons (.v 2) .nil)))) (b := B1_law28)
    (Q := fun o => ∃ ps b3 s5 s6, o = .nx [s0, .ow 1 b3, .fz (.int n), .fz (.list (nm.map .int)), .ow 1 (.list (ps.map prD)), s5, s6, .no, .no, .no, .no, .no, .no] ∧ RB 50 ps ∧ IsBox b3 ∧ nf s5 ∧ nf s6) rfl (by clear hnb e4 m1 hr; walk_at "go")
    (fun p s => ∃ ps b3 s5 s6, s = [s0, .ow 1 b3, .fz (.int n), .fz (.list (nm.map .int)), .ow 1 (.list (ps.map prD)), s5, s6, .no, .no, .no, .no, .no, .no] ∧ RB (5 + p.length) ps ∧ IsBox b3 ∧ nf s5 ∧ nf s6) ⟨p0, b2, .no, .no, rfl, hR0, hb2, .inl rfl, .inl rfl⟩
    (by
      rintro p d q s e ⟨ps, b3, s5, s6, rfl, hp, hb3, g5, g6⟩
      have p5 := fun i s r => put1_free (i := i) (s := s) (r := r) g5.free
      have p6 := fun i s r => put1_free (i := i) (s := s) (r := r) g6.free
      have hpl := split_len e
      have hd := hqb.2 d (split_mem e)
      have hi := inD_prs (p := d) (ps := ps)
      have hpsl : ps.length < 1000000 := by have := hp.1; omega
      rw [x_body, B1_law28]
      by_cases hm : d ∈ ps
      · refine ⟨.nx [s0, .ow 1 b3, .fz (.int n), .fz (.list (nm.map .int)), .ow 1 (.list (ps.map prD)), .fz (.int d.1), .fz (.int d.2), .no, .no, .no, .no, .no, .no], ?_, ps, b3, _, _, rfl, hp.more (by rw [List.length_append]; omega), hb3, .inr ⟨_, rfl⟩, .inr ⟨_, rfl⟩⟩
        simp only [prD]
        clear hnb e4 m1 hr e
        walk_at "go"
      · obtain ⟨v, b4, hv, v0, v1, hb4⟩ := draw_ok (k := k + 4) h8.draw hb3 (m := 4) (by omega)
        by_cases hv0 : v = 0
        · subst hv0
          refine ⟨.nx [s0, .ow 1 b4, .fz (.int n), .fz (.list (nm.map .int)), .ow 1 (.list ((ps ++ [d]).map prD)), .fz (.int d.1), .fz (.int d.2), .no, .no, .no, .no, .no, .no], ?_, ps ++ [d], b4, _, _, rfl, (hp.push hd).more (by rw [List.length_append]; simp only [List.length_singleton]; omega), hb4, .inr ⟨_, rfl⟩, .inr ⟨_, rfl⟩⟩
          rw [List.map_append]
          simp only [List.map_cons, List.map_nil, prD]
          clear hnb e4 m1 hr e
          walk_at "go"
        · refine ⟨.nx [s0, .ow 1 b4, .fz (.int n), .fz (.list (nm.map .int)), .ow 1 (.list (ps.map prD)), .fz (.int d.1), .fz (.int d.2), .no, .no, .no, .no, .no, .no], ?_, ps, b4, _, _, rfl, hp.more (by rw [List.length_append]; omega), hb4, .inr ⟨_, rfl⟩, .inr ⟨_, rfl⟩⟩
          simp only [prD]
          clear hnb e4 m1 hr e
          walk_at "go")
    (by
      rintro s ⟨ps, b3, s5, s6, rfl, hp, hb3, g5, g6⟩
      exact ⟨ps, b3, s5, s6, rfl, hp.more (by omega), hb3, g5, g6⟩)
  exact ⟨ps, b3, s5, s6, ho, hp, hb3, g5, g6⟩
theorem seq3 {G : Str → Option Fd} {rm : Nat} {a b c : Sm} {r r' : Env} (h : VL.exec G rm (.seq a b) r = .ok (.nx r')) : VL.exec G rm (.seq a (.seq b c)) r = VL.exec G rm c r' := by
  rw [x_seq] at h ⊢
  cases q : VL.exec G rm a r with
  | error e => rw [q] at h; cases h
  | ok o =>
    rw [q] at h
    cases o with
    | nx s =>
      rw [sq1_nx] at h ⊢
      rw [x_seq, h, sq1_nx]
    | rt d s => rw [sq1_rt] at h; cases h
    | bk s => rw [sq1_bk] at h; cases h
    | ct s => rw [sq1_ct] at h; cases h
theorem l28_mid (h8 : Has28 P) {b : D} (hb : IsBox b) {n : Nat} (hn0 : 5 ≤ n) (hn2 : n < 7) {ps : List (Int × Int)} (hp : RB 50 ps) {s0 s3 s5 s6 : Sl} (g5 : nf s5) (g6 : nf s6) :
    ∃ (ps' : List (Int × Int)) (b' : D), VL.exec (prog P (k + 5)) 0 (.seq S6_law28 S7_law28) [s0, .ow 1 b, .fz (.int n), s3, .ow 1 (.list (ps.map prD)), s5, s6, .no, .no, .no, .no, .no, .no] =
      .ok (.nx [s0, .ow 1 b', .fz (.int n), s3, .ow 1 (.list (ps'.map prD)), s5, s6, .no, .no, .no, .no, .no, .no]) ∧ RB 50 ps' ∧ IsBox b' := by
  have c1 := @s_call2 (sg := ⟨[.mt 1, .fz], 0⟩) (h := h8.draw) (hs := rfl)
  have c2 := @pX_call2 (sg := ⟨[.mt 1, .fz], 0⟩) (h := h8.draw) (hs := rfl)
  have c3 := @s_call2 (sg := ⟨[.mt 1, .fz], 1⟩) (h := h8.pairs) (hs := rfl)
  have hso : ∀ o n, b1D .sorted ⟨o, n, .list (ps.map prD)⟩ = .ok ⟨true, 1, .list ((sortP ps).map prD)⟩ := fun o n => b1_sortP elz_prs
  have hps := hp.sorted
  generalize sortP ps = qs at *
  obtain ⟨v, b2, hv, v0, v1, hb2⟩ := draw_ok (k := k + 4) h8.draw hb (m := 4) (by omega)
  by_cases h0 : v = 0
  · subst h0
    obtain ⟨rs, b3, hr, hrb, hb3⟩ := pairs_ok (k := k + 1) h8.mb h8.works h8.less h8.pairs hb2 (n := n) (by omega) (by omega)
    refine ⟨rs, b3, ?_, hrb.more (by omega), hb3⟩
    rw [S6_law28, S7_law28]
    walk_at "go"
  · refine ⟨qs, b2, ?_, hps, hb2⟩
    rw [S6_law28, S7_law28]
    walk_at "go"
theorem l28_loose (h8 : Has28 P) {b : D} (hb : IsBox b) {n : Nat} (hn0 : 5 ≤ n) (hn2 : n < 7) {ps : List (Int × Int)} (hp : RB 50 ps) {s0 s3 s5 s6 : Sl} (g5 : nf s5) (g6 : nf s6) :
    ∃ (b' : D) (s7 : Sl), VL.exec (prog P (k + 5)) 0 (.seq S8_law28 (.seq S9_law28 S10_law28)) [s0, .ow 1 b, .fz (.int n), s3, .ow 1 (.list (ps.map prD)), s5, s6, .no, .no, .no, .no, .no, .no] =
      .ok (.nx [s0, .ow 1 b', .fz (.int n), s3, .fz (.list (ps.map prD)), s5, s6, s7, .no, .no, .no, .no, .no]) ∧ IsBox b' := by
  have c1 := @s_call2 (sg := ⟨[.mt 1, .fz, .fz], 0⟩) (h := h8.cj) (hs := rfl)
  have c2 := @s_call2 (sg := ⟨[.mt 1, .fz, .fz, .fz], 0⟩) (h := h8.aj) (hs := rfl)
  have c3 := @s_call2 (sg := ⟨[.mt 1, .fz], 0⟩) (h := h8.pick) (hs := rfl)
  obtain ⟨b2, h2, hb2⟩ := clashes_judged_ok (k := k + 1) h8.toHasK h8.cj hb (n := n) (by omega) (by omega) hp
  have e8 : VL.exec (prog P (k + 5)) 0 S8_law28 [s0, .ow 1 b, .fz (.int n), s3, .ow 1 (.list (ps.map prD)), s5, s6, .no, .no, .no, .no, .no, .no] = .ok (.nx [s0, .ow 1 b2, .fz (.int n), s3, .fz (.list (ps.map prD)), s5, s6, .no, .no, .no, .no, .no, .no]) := by
    rw [S8_law28]
    walk_at "go"
  obtain ⟨zs, b3, h3, hb3, hzl, hzs⟩ := mapL_box (f := turnF (prog P (k + 5)) 1 0 (.call "_law_pick" (.cons (.v 1) (.cons (.lst 1 (.cons (.tup (.cons (.v 5) (.cons (.v 6) .nil))) (.cons (.tup (.cons (.v 6) (.cons (.v 5) .nil))) .nil))) .nil))) (.cons (.nm 5) (.cons (.nm 6) .nil)) (.c (.bool true)) [5, 6])
    (E := fun b => [s0, .ow 1 b, .fz (.int n), s3, .fz (.list (ps.map prD)), .no, .no, .no, .no, .no, .no, .no, .no]) (φ := fun x => ∃ p : Int × Int, x = prD p ∧ Bdp p) (ds := ps.map prD) hb2 (fun d hd b hb => by
      obtain ⟨p, hpm, rfl⟩ := List.mem_map.mp hd
      have hpb := hp.2 p hpm
      obtain ⟨x, b', hx, hm, hb'⟩ := pickB_ok (k := k + 3) h8.toHasDraw h8.pick hb (xs := [.tuple [.int p.1, .int p.2], .tuple [.int p.2, .int p.1]]) (by simp)
      refine ⟨x, b', ?_, hb', ?_⟩
      · rw [s_turn]
        clear hm e8
        simp only [prD]
        walk_at "go"
      · simp only [List.mem_cons, List.not_mem_nil, or_false] at hm
        rcases hm with rfl | rfl
        · exact ⟨p, rfl, hpb⟩
        · exact ⟨(p.2, p.1), rfl, hpb.2, hpb.1⟩)
  obtain ⟨ls, rfl, hlb⟩ := prs_of_all hzs
  rw [List.length_map, List.length_map] at hzl
  have hl : RB 50 ls := ⟨by have := hp.1; omega, hlb⟩
  obtain ⟨b4, h4, hb4⟩ := arrows_judged_ok (k := k) h8.toHasJ h8.aj hb3 (n := n) (by omega) (by omega) (ps := ps) (by omega) hl
  refine ⟨b4, .fz (.list (ls.map prD)), ?_, hb4⟩
  have hpl : ps.length < lim := lenlim (by have := hp.1; omega)
  have hll : ls.length < lim := lenlim (by have := hl.1; omega)
  rw [x_seq, e8, sq1_nx, S9_law28, S10_law28]
  clear e8 hzs h2
  rcases g5 with rfl | ⟨d5, rfl⟩ <;> rcases g6 with rfl | ⟨d6, rfl⟩ <;> walk_at "go"
theorem l28_end (h8 : Has28 P) {b : D} (hb : IsBox b) {n : Nat} (hn0 : 5 ≤ n) (hn2 : n < 7) {s0 s3 s4 s5 s6 s7 : Sl} :
    ∃ s : Env, VL.exec (prog P (k + 5)) 0 (.seq S11_law28 (.seq S12_law28 S13_law28)) [s0, .ow 1 b, .fz (.int n), s3, s4, s5, s6, s7, .no, .no, .no, .no, .no] = .ok (.rt (.bool true) (s0 :: s)) := by
  have c1 := @s_call2 (sg := ⟨[.mt 1, .fz], 0⟩) (h := h8.works) (hs := rfl)
  have c2 := @s_call2 (sg := ⟨[.fz], 0⟩) (h := h8.less) (hs := rfl)
  have c3 := @s_call2 (sg := ⟨[.fz], 0⟩) (h := h8.closed) (hs := rfl)
  have c4 := @s_call2 (sg := ⟨[.mt 1, .fz, .fz, .fz], 0⟩) (h := h8.aj) (hs := rfl)
  have c5 := @s_call2 (sg := ⟨[.fz, .fz], 0⟩) (h := h8.directed) (hs := rfl)
  obtain ⟨ws, b2, h2, _, hb2⟩ := worksB_ok (k := k + 2) h8.mb h8.works hb (n := n) (by omega) (by omega)
  have h3 := less_ok (k := k + 4) h8.less (show n < 1000 by omega) (ws := ws)
  have hst := closed_straight (n := n) (f := inW ws)
  have hRB := clo_RB (n := n) (f := wsts (inW ws) n) (by omega)
  generalize wsts (inW ws) n = f at *
  have h4 := closed_ok (k := k + 4) h8.closed (show n < 100 by omega) (f := f)
  generalize clo n f n = ar at *
  have m1 : mapL (turnF (prog P (k + 5)) 1 0 (.tup (.cons (.b2 .min (.v 11) (.v 12)) (.cons (.b2 .max (.v 11) (.v 12)) .nil))) (.cons (.nm 11) (.cons (.nm 12) .nil)) (.c (.bool true)) [11, 12]) (ar.map prD) [s0, .ow 1 b2, .fz (.int n), s3, s4, s5, s6, s7, .fz (.tuple (ar.map prD)), .no, .no, .no, .no] =
      .ok ((ar.map fun p => nrm p.1 p.2).map prD, [s0, .ow 1 b2, .fz (.int n), s3, s4, s5, s6, s7, .fz (.tuple (ar.map prD)), .no, .no, .no, .no]) := by
    rw [mapL_all (g := fun p => prD (nrm p.1 p.2)) (fun p hp => ?_)]
    · rw [List.map_map]; rfl
    · rw [s_turn]
      simp only [prD, nrm, ← min_if', ← max_if']
      walk_at "go"
  have hdir := dir_closed hst
  have hso := b1_sortP (o := true) (n := 1) (ps := ar.map fun p => nrm p.1 p.2) elz_prs
  have hl1 : ((ar.map fun p => nrm p.1 p.2).map prD).length < lim := lenlim (by rw [List.length_map, List.length_map]; have := hRB.1; omega)
  generalize sortP (ar.map fun p => nrm p.1 p.2) = pl at *
  generalize (ar.map fun p => nrm p.1 p.2).map prD = NR at *
  obtain ⟨b3, h5, hb3⟩ := arrows_judged_ok (k := k) h8.toHasJ h8.aj hb2 (n := n) (by omega) (by omega) (ps := pl) (show 50 < 999 by omega) hRB
  have h6 := directed_ok (k := k + 3) h8.straight h8.directed (ps := pl) (ar := ar) (by have := hRB.1; omega)
  rw [hdir] at h6
  have hel : ∀ o n (ps : List (Int × Int)), elz o n (ps.map prD) = true := fun _ _ _ => elz_prs
  refine ⟨[.ow 1 b3, .fz (.int n), s3, s4, s5, s6, s7, .fz (.tuple (ar.map prD)), .fz (.list (pl.map prD)), .no, .no, .no], ?_⟩
  rw [S11_law28, S12_law28, S13_law28]
  simp only [wkD] at *
  clear hdir hst hb2 hb3 hb
  walk_at "go"
theorem seqA3 {G : Str → Option Fd} {rm : Nat} {a b c d : Sm} {r r' : Env} (h : VL.exec G rm (.seq a (.seq b c)) r = .ok (.nx r')) : VL.exec G rm (.seq a (.seq b (.seq c d))) r = VL.exec G rm d r' := by
  rw [x_seq] at h ⊢
  cases q : VL.exec G rm a r with
  | error e => rw [q] at h; cases h
  | ok o =>
    rw [q] at h
    cases o with
    | nx s =>
      rw [sq1_nx] at h ⊢
      exact seq3 h
    | rt d s => rw [sq1_rt] at h; cases h
    | bk s => rw [sq1_bk] at h; cases h
    | ct s => rw [sq1_ct] at h; cases h
theorem law28 (h8 : Has28 P) (ns : List Int) : cl P (k + 5) "law" [.dict (scrK ns)] = .ok (.bool true, []) := by
  have c1 := @s_call2 (sg := ⟨[.fz, .fz, .fz], 0⟩) (h := h8.digits) (hs := rfl)
  have c2 := @s_call2 (sg := ⟨[.mt 1, .fz], 0⟩) (h := h8.draw) (hs := rfl)
  have c3 := @s_call2 (sg := ⟨[.mt 1, .fz], 0⟩) (h := h8.mixed) (hs := rfl)
  obtain ⟨ds, h1⟩ : ∃ ds : List Int, cl P (k + 4) "_law_digits" [.dict (scrK ns), .int 0, .int 22] = .ok (.list (ds.map .int), []) := digitsB_ok (k := k + 3) h8.cell h8.digits ns 22 (by omega)
  obtain ⟨v, b2, hv, v0, v1, hb2⟩ := draw_ok (k := k + 4) h8.draw (b := box ds 0) ⟨ds, 0, rfl, by omega⟩ (m := 2) (by omega)
  have hv : cl P (k + 4) "_law_draw" [.list [.list (ds.map .int), .int 0], .int 2] = .ok (.int v, [b2]) := hv
  obtain ⟨n, hn⟩ : ∃ n : Nat, 5 + v = n := ⟨(5 + v).toNat, by omega⟩
  have hn5 : 5 ≤ n := by omega
  have hn7 : n < 7 := by omega
  have hbn : bnd (n : Int) = true := bnd_nat (by omega)
  have hln : (rngU 0 (n : Int)).length = n := by rw [rngU_len]; omega
  obtain ⟨ys, b3, h3, hp3, hb3⟩ := mixedB_ok (k := k + 3) h8.toHasDraw h8.mixed hb2 (xs := rngU 0 (n : Int)) (by omega)
  obtain ⟨nm, rfl, hnm⟩ := nm_of_perm hp3
  have hln2 : n ≤ 1000000 := by omega
  have e1 : VL.exec (prog P (k + 5)) 0 (.seq S1_law28 (.seq S2_law28 S3_law28)) [.fz (.dict (scrK ns)), .no, .no, .no, .no, .no, .no, .no, .no, .no, .no, .no, .no] = .ok (.nx [.fz (.dict (scrK ns)), .ow 1 b3, .fz (.int n), .fz (.list (nm.map .int)), .no, .no, .no, .no, .no, .no, .no, .no, .no]) := by
    rw [S1_law28, S2_law28, S3_law28]
    clear hp3
    walk_at "go"
  obtain ⟨ps, b4, s5, s6, e2, hps, hb4, g5, g6⟩ := l28_pairs (k := k) h8 hb3 hn5 hn7 hnm (s0 := .fz (.dict (scrK ns)))
  obtain ⟨ps2, b5, e3, hps2, hb5⟩ := l28_mid (k := k) h8 hb4 hn5 hn7 hps (s0 := .fz (.dict (scrK ns))) (s3 := .fz (.list (nm.map .int))) g5 g6
  obtain ⟨b6, s7, e4, hb6⟩ := l28_loose (k := k) h8 hb5 hn5 hn7 hps2 (s0 := .fz (.dict (scrK ns))) (s3 := .fz (.list (nm.map .int))) g5 g6
  obtain ⟨s, e5⟩ := l28_end (k := k) h8 hb6 hn5 hn7 (s0 := .fz (.dict (scrK ns))) (s3 := .fz (.list (nm.map .int))) (s4 := .fz (.list (ps2.map prD))) (s5 := s5) (s6 := s6) (s7 := s7)
  have hbody : VL.exec (prog P (k + 5)) 0 T_law28.body [.fz (.dict (scrK ns)), .no, .no, .no, .no, .no, .no, .no, .no, .no, .no, .no, .no] = .ok (.rt (.bool true) (.fz (.dict (scrK ns)) :: s)) := by
    rw [law28_body, seqA3 e1, seq3 e2, seq3 e3, seqA3 e4]
    exact e5
  rw [cl_eq h8.law]
  have hx : T_law28 = ⟨⟨[.fz], 0⟩, 13, T_law28.body⟩ := rfl
  rw [hx]
  generalize T_law28.body = body at *
  clear hx e1 e2 e3 e4 e5
  walk_at "go"
end
end VL
set_option maxHeartbeats 4000000
/-! the program's defs as terms -/
namespace K28
open PySem VL
abbrev top := PySem.Challenge.pw_worklands_k28_whole_judges_of_arrows.main.body
def Fis_pair : DefS := ⟨"is_pair", ["pairs", "one", "other"], ["pairs", "one", "other"], ⟨[.fz, .fz, .fz], 0⟩,
  (.ret (.cmp .In (.tup (.cons (.b2 .min (.v 1) (.v 2)) (.cons (.b2 .max (.v 1) (.v 2)) .nil))) (.v 0)))⟩
def Fforces : DefS := ⟨"forces", ["pairs", "arrow", "other"], ["pairs", "arrow", "other"], ⟨[.fz, .fz, .fz], 0⟩,
  (.seq (.ife (.cmp .Eq (.v 1) (.v 2))
  (.ret (.c (.bool false)))
  .nop)
  (.seq (.ife (.cmp .Eq (.ix (.v 1) (.c (.int 0))) (.ix (.v 2) (.c (.int 0))))
  (.ret (.vand (.cmp .NotEq (.ix (.v 1) (.c (.int 1))) (.ix (.v 2) (.c (.int 1)))) (.tnot (.call "is_pair" (.cons (.v 0) (.cons (.ix (.v 1) (.c (.int 1))) (.cons (.ix (.v 2) (.c (.int 1))) .nil)))))))
  .nop)
  (.seq (.ife (.cmp .Eq (.ix (.v 1) (.c (.int 1))) (.ix (.v 2) (.c (.int 1))))
  (.ret (.tnot (.call "is_pair" (.cons (.v 0) (.cons (.ix (.v 1) (.c (.int 0))) (.cons (.ix (.v 2) (.c (.int 0))) .nil))))))
  .nop)
  (.ret (.c (.bool false))))))⟩
def Fshows_clash : DefS := ⟨"shows_clash", ["pairs", "row"], ["pairs", "row", "arrow", "other", "one"], ⟨[.fz, .fz], 0⟩,
  (.seq (.ife (.tor (.cmp .Lt (.b1 .len (.v 1)) (.c (.int 2))) (.tnot (.b1 .all (.comp 1 (.vand (.cmp .NotEq (.v 4) (.v 3)) (.call "is_pair" (.cons (.v 0) (.cons (.v 4) (.cons (.v 3) .nil))))) (.cons (.nm 4) (.cons (.nm 3) .nil)) (.it (.v 1)) (.c (.bool true)) [4, 3]))))
  (.ret (.c (.bool false)))
  .nop)
  (.seq (.ife (.cmp .NotEq (.ix (.v 1) (.un .USub (.c (.int 1)))) (.tup (.cons (.ix (.ix (.v 1) (.c (.int 0))) (.c (.int 1))) (.cons (.ix (.ix (.v 1) (.c (.int 0))) (.c (.int 0))) .nil))))
  (.ret (.c (.bool false)))
  .nop)
  (.ret (.b1 .all (.comp 1 (.call "forces" (.cons (.v 0) (.cons (.v 2) (.cons (.v 3) .nil)))) (.cons (.nm 2) (.cons (.nm 3) .nil)) (.zip (.v 1) (.sl (.v 1) (.c (.int 1)) .nil)) (.c (.bool true)) [2, 3])))))⟩
def Fis_straight : DefS := ⟨"is_straight", ["arrows"], ["arrows", "begin", "middle", "start", "end"], ⟨[.fz], 0⟩,
  (.seq (.for_ (.cons (.nm 1) (.cons (.nm 2) .nil)) (.it (.v 0))
  (.for_ (.cons (.nm 3) (.cons (.nm 4) .nil)) (.it (.v 0))
  (.ife (.tand (.cmp .Eq (.v 2) (.v 3)) (.cmp .NotIn (.tup (.cons (.v 1) (.cons (.v 4) .nil))) (.v 0)))
  (.ret (.c (.bool false)))
  .nop)))
  (.ret (.c (.bool true))))⟩
def Fshows_directed : DefS := ⟨"shows_directed", ["pairs", "arrows"], ["pairs", "arrows", "plain", "one", "other"], ⟨[.fz, .fz], 0⟩,
  (.seq (.set 0 (.nm 2) (.b1 .sorted (.comp 1 (.tup (.cons (.b2 .min (.v 3) (.v 4)) (.cons (.b2 .max (.v 3) (.v 4)) .nil))) (.cons (.nm 3) (.cons (.nm 4) .nil)) (.it (.v 1)) (.c (.bool true)) [3, 4])))
  (.ret (.vand (.cmp .Eq (.v 2) (.b1 .sorted (.v 0))) (.call "is_straight" (.cons (.v 1) .nil)))))⟩
def F_law_cell : DefS := ⟨"_law_cell", ["script", "k"], ["script", "k"], ⟨[.fz, .fz], 0⟩,
  (.seq (.ife (.cmp .Lt (.v 1) (.b1 .len (.v 0)))
  (.ret (.ix (.v 0) (.v 1)))
  .nop)
  (.ret (.c (.int 0))))⟩
def F_law_digits : DefS := ⟨"_law_digits", ["script", "first", "last"], ["script", "first", "last", "digits", "k", "cell", "turn", "seed"], ⟨[.fz, .fz, .fz], 0⟩,
  (.seq (.set 1 (.nm 3) (.lst 1 .nil))
  (.seq (.for_ (.nm 4) (.rng (.v 1) (.v 2))
  (.seq (.set 0 (.nm 5) (.call "_law_cell" (.cons (.v 0) (.cons (.v 4) .nil))))
  (.seq (.ife (.cmp .Lt (.v 5) (.c (.int 0)))
  (.set 0 (.nm 5) (.bin .Sub (.c (.int 1)) (.bin .Mult (.c (.int 2)) (.v 5))))
  .nop)
  (.ife (.cmp .GtE (.v 5) (.bin .Pow (.c (.int 10)) (.c (.int 18))))
  (.for_ (.nm 6) (.rng (.c (.int 0)) (.c (.int 60)))
  (.ife (.cmp .Gt (.v 5) (.c (.int 0)))
  (.seq (.drop (.app 3 .nil (.bin .Mod (.b1 .int (.v 5)) (.c (.int 1000)))))
  (.set 0 (.nm 5) (.bin .FloorDiv (.v 5) (.c (.int 1000)))))
  .nop))
  (.seq (.set 0 (.nm 7) (.bin .Mod (.b1 .int (.bin .Add (.bin .Add (.bin .Mult (.v 5) (.c (.int 48271))) (.bin .Mult (.v 4) (.c (.int 69621)))) (.c (.int 11)))) (.c (.int 2147483647))))
  (.for_ (.nm 6) (.rng (.c (.int 0)) (.c (.int 12)))
  (.seq (.set 0 (.nm 7) (.bin .Mod (.b1 .int (.bin .Add (.bin .Add (.bin .Mult (.v 7) (.c (.int 16807))) (.bin .Mult (.c (.int 7)) (.v 6))) (.c (.int 1)))) (.c (.int 2147483647))))
  (.drop (.app 3 .nil (.bin .Mod (.b1 .int (.bin .FloorDiv (.v 7) (.c (.int 997)))) (.c (.int 1000))))))))))))
  (.ret (.v 3))))⟩
def F_law_draw : DefS := ⟨"_law_draw", ["box", "many"], ["box", "many"], ⟨[.mt 1, .fz], 0⟩,
  (.seq (.sets 0 .nil (.c (.int 1)) (.bin .Add (.ix (.v 0) (.c (.int 1))) (.c (.int 1))))
  (.seq (.ife (.cmp .Gt (.ix (.v 0) (.c (.int 1))) (.b1 .len (.ix (.v 0) (.c (.int 0)))))
  (.ret (.bin .Mod (.b1 .int (.bin .Add (.bin .Mult (.ix (.v 0) (.c (.int 1))) (.c (.int 7))) (.c (.int 3)))) (.v 1)))
  .nop)
  (.ret (.bin .Mod (.b1 .int (.ix (.ix (.v 0) (.c (.int 0))) (.bin .Sub (.ix (.v 0) (.c (.int 1))) (.c (.int 1))))) (.v 1)))))⟩
def F_law_pick : DefS := ⟨"_law_pick", ["box", "row"], ["box", "row"], ⟨[.mt 1, .fz], 0⟩,
  (.ret (.ix (.v 1) (.bin .Mod (.b1 .int (.call "_law_draw" (.cons (.v 0) (.cons (.c (.int 1000)) .nil)))) (.b1 .len (.v 1)))))⟩
def F_law_mixed : DefS := ⟨"_law_mixed", ["box", "row"], ["box", "row", "left", "found", "k"], ⟨[.mt 1, .fz], 0⟩,
  (.seq (.set 1 (.nm 2) (.b1 .list (.v 1)))
  (.seq (.set 1 (.nm 3) (.lst 1 .nil))
  (.seq (.for_ (.nm 4) (.rng (.c (.int 0)) (.b1 .len (.v 1)))
  (.drop (.app 3 .nil (.pop 2 .nil (.bin .Mod (.b1 .int (.call "_law_draw" (.cons (.v 0) (.cons (.c (.int 1000)) .nil)))) (.b1 .len (.v 2)))))))
  (.ret (.v 3)))))⟩
def F_law_same : DefS := ⟨"_law_same", ["told", "due"], ["told", "due", "k"], ⟨[.fz, .fz], 0⟩,
  (.seq (.ife (.cmp .Is (.v 1) (.c .none))
  (.ret (.cmp .Is (.v 0) (.c .none)))
  .nop)
  (.seq (.ife (.cmp .Is (.v 1) (.c (.bool true)))
  (.ret (.cmp .Is (.v 0) (.c (.bool true))))
  .nop)
  (.seq (.ife (.cmp .Is (.v 1) (.c (.bool false)))
  (.ret (.cmp .Is (.v 0) (.c (.bool false))))
  .nop)
  (.seq (.ife (.isi (.v 1) .str)
  (.ret (.vand (.isi (.v 0) .str) (.cmp .Eq (.b1 .repr (.v 0)) (.b1 .repr (.v 1)))))
  .nop)
  (.seq (.ife (.isi (.v 1) .int)
  (.ret (.vand (.isi (.v 0) .int) (.vand (.tnot (.isi (.v 0) .bool)) (.cmp .Eq (.b1 .repr (.v 0)) (.b1 .repr (.v 1))))))
  .nop)
  (.seq (.ife (.tor (.tand (.isi (.v 1) .tuple) (.tnot (.isi (.v 0) .tuple))) (.tand (.isi (.v 1) .list) (.tnot (.isi (.v 0) .list))))
  (.ret (.c (.bool false)))
  .nop)
  (.seq (.ife (.cmp .NotEq (.b1 .len (.v 0)) (.b1 .len (.v 1)))
  (.ret (.c (.bool false)))
  .nop)
  (.seq (.for_ (.nm 2) (.rng (.c (.int 0)) (.b1 .len (.v 1)))
  (.ife (.tnot (.call "_law_same" (.cons (.ix (.v 0) (.v 2)) (.cons (.ix (.v 1) (.v 2)) .nil))))
  (.ret (.c (.bool false)))
  .nop))
  (.ret (.c (.bool true)))))))))))⟩
def F_law_works : DefS := ⟨"_law_works", ["box", "many"], ["box", "many", "names", "kind", "thick", "half", "waits", "late", "up", "early", "free"], ⟨[.mt 1, .fz], 0⟩,
  (.seq (.set 0 (.nm 2) (.call "_law_mixed" (.cons (.v 0) (.cons (.lst1 (.rng (.c (.int 0)) (.v 1))) .nil))))
  (.seq (.set 0 (.nm 3) (.call "_law_pick" (.cons (.v 0) (.cons (.lst 1 (.cons (.c (.int 0)) (.cons (.c (.int 1)) (.cons (.c (.int 0)) (.cons (.c (.int 2)) (.cons (.c (.int 3)) (.cons (.c (.int 0)) (.cons (.c (.int 4)) (.cons (.c (.int 0)) .nil))))))))) .nil))))
  (.seq (.set 0 (.nm 4) (.call "_law_pick" (.cons (.v 0) (.cons (.lst 1 (.cons (.c (.int 35)) (.cons (.c (.int 55)) (.cons (.c (.int 20)) (.cons (.c (.int 75)) (.cons (.c (.int 45)) (.cons (.c (.int 100)) (.cons (.c (.int 0)) (.cons (.c (.int 60)) .nil))))))))) .nil))))
  (.seq (.set 0 (.nm 5) (.bin .FloorDiv (.v 1) (.c (.int 2))))
  (.seq (.set 1 (.nm 6) (.lst 1 .nil))
  (.seq (.for_ (.nm 7) (.rng (.c (.int 0)) (.v 1))
  (.seq (.set 0 (.nm 8) (.b2 .max (.call "_law_draw" (.cons (.v 0) (.cons (.bin .Add (.v 7) (.c (.int 1))) .nil))) (.b2 .min (.v 7) (.b1 .int (.cmp .Gt (.v 1) (.c (.int 5)))))))
  (.for_ (.nm 9) (.rng (.c (.int 0)) (.v 7))
  (.seq (.set 0 (.nm 10) (.cmp .Lt (.call "_law_draw" (.cons (.v 0) (.cons (.c (.int 100)) .nil))) (.v 4)))
  (.seq (.ife (.tand (.cmp .Eq (.v 3) (.c (.int 0))) (.tand (.cmp .Gt (.v 1) (.c (.int 5))) (.tand (.cmp .Lt (.v 7) (.bin .Sub (.v 1) (.c (.int 3)))) (.cmp .Eq (.v 7) (.bin .Add (.v 9) (.c (.int 1)))))))
  (.set 0 (.nm 10) (.c (.bool true)))
  (.ife (.cmp .Eq (.v 3) (.c (.int 1)))
  (.set 0 (.nm 10) (.cmp .Eq (.v 9) (.bin .Sub (.v 8) (.c (.int 1)))))
  (.ife (.cmp .Eq (.v 3) (.c (.int 2)))
  (.set 0 (.nm 10) (.vand (.cmp .Lt (.v 9) (.v 5)) (.vand (.cmp .GtE (.v 7) (.v 5)) (.cmp .NotEq (.bin .Sub (.v 7) (.v 5)) (.v 9)))))
  (.ife (.cmp .Eq (.v 3) (.c (.int 3)))
  (.set 0 (.nm 10) (.vor (.cmp .Eq (.bin .Sub (.v 7) (.v 9)) (.c (.int 2))) (.vand (.v 10) (.cmp .Eq (.bin .Sub (.v 7) (.v 9)) (.c (.int 3))))))
  (.ife (.cmp .Eq (.v 3) (.c (.int 4)))
  (.set 0 (.nm 10) (.cmp .Lt (.bin .FloorDiv (.bin .Mult (.v 9) (.c (.int 3))) (.v 1)) (.bin .FloorDiv (.bin .Mult (.v 7) (.c (.int 3))) (.v 1))))
  .nop)))))
  (.ife (.v 10)
  (.drop (.app 6 .nil (.tup (.cons (.ix (.v 2) (.v 9)) (.cons (.ix (.v 2) (.v 7)) .nil)))))
  .nop))))))
  (.ret (.tup (.cons (.v 1) (.cons (.b1 .tuple (.call "_law_mixed" (.cons (.v 0) (.cons (.v 6) .nil)))) .nil))))))))))⟩
def F_law_less : DefS := ⟨"_law_less", ["works"], ["works", "many", "less", "mid", "early", "late", "one", "two"], ⟨[.fz], 0⟩,
  (.seq (.set 0 (.nm 1) (.ix (.v 0) (.c (.int 0))))
  (.seq (.set 2 (.nm 2) (.comp 2 (.comp 1 (.cmp .In (.tup (.cons (.v 6) (.cons (.v 7) .nil))) (.ix (.v 0) (.c (.int 1)))) (.nm 7) (.rng (.c (.int 0)) (.v 1)) (.c (.bool true)) [7]) (.nm 6) (.rng (.c (.int 0)) (.v 1)) (.c (.bool true)) [6]))
  (.seq (.for_ (.nm 3) (.rng (.c (.int 0)) (.v 1))
  (.for_ (.nm 4) (.rng (.c (.int 0)) (.v 1))
  (.for_ (.nm 5) (.rng (.c (.int 0)) (.v 1))
  (.ife (.tand (.ix (.ix (.v 2) (.v 4)) (.v 3)) (.ix (.ix (.v 2) (.v 3)) (.v 5)))
  (.sets 2 (.v 4) (.v 5) (.c (.bool true)))
  .nop))))
  (.ret (.v 2)))))⟩
def F_law_closed : DefS := ⟨"_law_closed", ["less"], ["less", "found", "early", "late"], ⟨[.fz], 0⟩,
  (.seq (.set 0 (.nm 1) (.lst 1 .nil))
  (.seq (.for_ (.nm 2) (.rng (.c (.int 0)) (.b1 .len (.v 0)))
  (.set 0 (.nm 1) (.bin .Add (.v 1) (.comp 1 (.tup (.cons (.v 2) (.cons (.v 3) .nil))) (.nm 3) (.rng (.c (.int 0)) (.b1 .len (.v 0))) (.ix (.ix (.v 0) (.v 2)) (.v 3)) [3]))))
  (.ret (.tup (.cons (.b1 .len (.v 0)) (.cons (.b1 .tuple (.v 1)) .nil))))))⟩
def F_law_arrows : DefS := ⟨"_law_arrows", ["pairs"], ["pairs", "low", "high"], ⟨[.fz], 0⟩,
  (.ret (.b1 .sorted (.bin .Add (.b1 .list (.v 0)) (.comp 1 (.tup (.cons (.v 2) (.cons (.v 1) .nil))) (.cons (.nm 1) (.cons (.nm 2) .nil)) (.it (.v 0)) (.c (.bool true)) [1, 2]))))⟩
def F_law_forces : DefS := ⟨"_law_forces", ["pairs", "one", "other"], ["pairs", "one", "other"], ⟨[.fz, .fz, .fz], 0⟩,
  (.seq (.ife (.tand (.cmp .Eq (.ix (.v 1) (.c (.int 0))) (.ix (.v 2) (.c (.int 0)))) (.cmp .NotEq (.ix (.v 1) (.c (.int 1))) (.ix (.v 2) (.c (.int 1)))))
  (.ret (.cmp .NotIn (.tup (.cons (.b2 .min (.ix (.v 1) (.c (.int 1))) (.ix (.v 2) (.c (.int 1)))) (.cons (.b2 .max (.ix (.v 1) (.c (.int 1))) (.ix (.v 2) (.c (.int 1)))) .nil))) (.v 0)))
  .nop)
  (.seq (.ife (.tand (.cmp .Eq (.ix (.v 1) (.c (.int 1))) (.ix (.v 2) (.c (.int 1)))) (.cmp .NotEq (.ix (.v 1) (.c (.int 0))) (.ix (.v 2) (.c (.int 0)))))
  (.ret (.cmp .NotIn (.tup (.cons (.b2 .min (.ix (.v 1) (.c (.int 0))) (.ix (.v 2) (.c (.int 0)))) (.cons (.b2 .max (.ix (.v 1) (.c (.int 0))) (.ix (.v 2) (.c (.int 0)))) .nil))) (.v 0)))
  .nop)
  (.ret (.c (.bool false)))))⟩
def F_law_clash_shown : DefS := ⟨"_law_clash_shown", ["pairs", "row"], ["pairs", "row", "one", "other", "k"], ⟨[.fz, .fz], 0⟩,
  (.seq (.ife (.cmp .Lt (.b1 .len (.v 1)) (.c (.int 2)))
  (.ret (.c (.bool false)))
  .nop)
  (.seq (.for_ (.cons (.nm 2) (.cons (.nm 3) .nil)) (.it (.v 1))
  (.ife (.tor (.cmp .Eq (.v 2) (.v 3)) (.cmp .NotIn (.tup (.cons (.b2 .min (.v 2) (.v 3)) (.cons (.b2 .max (.v 2) (.v 3)) .nil))) (.v 0)))
  (.ret (.c (.bool false)))
  .nop))
  (.seq (.ife (.tor (.cmp .NotEq (.ix (.ix (.v 1) (.un .USub (.c (.int 1)))) (.c (.int 0))) (.ix (.ix (.v 1) (.c (.int 0))) (.c (.int 1)))) (.cmp .NotEq (.ix (.ix (.v 1) (.un .USub (.c (.int 1)))) (.c (.int 1))) (.ix (.ix (.v 1) (.c (.int 0))) (.c (.int 0)))))
  (.ret (.c (.bool false)))
  .nop)
  (.seq (.for_ (.nm 4) (.rng (.c (.int 0)) (.bin .Sub (.b1 .len (.v 1)) (.c (.int 1))))
  (.ife (.tnot (.call "_law_forces" (.cons (.v 0) (.cons (.ix (.v 1) (.v 4)) (.cons (.ix (.v 1) (.bin .Add (.v 4) (.c (.int 1)))) .nil)))))
  (.ret (.c (.bool false)))
  .nop))
  (.ret (.c (.bool true)))))))⟩
def F_law_is_straight : DefS := ⟨"_law_is_straight", ["arrows"], ["arrows", "one", "other"], ⟨[.fz], 0⟩,
  (.seq (.for_ (.nm 1) (.it (.v 0))
  (.for_ (.nm 2) (.it (.v 0))
  (.ife (.tand (.cmp .Eq (.ix (.v 1) (.c (.int 1))) (.ix (.v 2) (.c (.int 0)))) (.cmp .NotIn (.tup (.cons (.ix (.v 1) (.c (.int 0))) (.cons (.ix (.v 2) (.c (.int 1))) .nil))) (.v 0)))
  (.ret (.c (.bool false)))
  .nop)))
  (.ret (.c (.bool true))))⟩
def F_law_directs : DefS := ⟨"_law_directs", ["pairs", "arrows"], ["pairs", "arrows", "plain", "one", "other"], ⟨[.fz, .fz], 0⟩,
  (.seq (.set 0 (.nm 2) (.b1 .sorted (.comp 1 (.tup (.cons (.b2 .min (.v 3) (.v 4)) (.cons (.b2 .max (.v 3) (.v 4)) .nil))) (.cons (.nm 3) (.cons (.nm 4) .nil)) (.it (.v 1)) (.c (.bool true)) [3, 4])))
  (.ret (.vand (.cmp .Eq (.v 2) (.b1 .sorted (.v 0))) (.call "_law_is_straight" (.cons (.v 1) .nil)))))⟩
def F_law_pairs : DefS := ⟨"_law_pairs", ["box", "many"], ["box", "many", "names", "kind", "thick", "less", "found", "high", "low", "free", "ring"], ⟨[.mt 1, .fz], 1⟩,
  (.seq (.set 0 (.nm 2) (.call "_law_mixed" (.cons (.v 0) (.cons (.lst1 (.rng (.c (.int 0)) (.v 1))) .nil))))
  (.seq (.set 0 (.nm 3) (.call "_law_pick" (.cons (.v 0) (.cons (.lst 1 (.cons (.c (.int 0)) (.cons (.c (.int 1)) (.cons (.c (.int 2)) (.cons (.c (.int 0)) (.cons (.c (.int 3)) (.cons (.c (.int 2)) .nil))))))) .nil))))
  (.seq (.set 0 (.nm 4) (.call "_law_pick" (.cons (.v 0) (.cons (.lst 1 (.cons (.c (.int 50)) (.cons (.c (.int 30)) (.cons (.c (.int 70)) (.cons (.c (.int 100)) (.cons (.c (.int 15)) .nil)))))) .nil))))
  (.seq (.set 0 (.nm 5) (.call "_law_less" (.cons (.call "_law_works" (.cons (.v 0) (.cons (.v 1) .nil))) .nil)))
  (.seq (.set 1 (.nm 6) (.lst 1 .nil))
  (.seq (.for_ (.nm 7) (.rng (.c (.int 0)) (.v 1))
  (.for_ (.nm 8) (.rng (.c (.int 0)) (.v 7))
  (.seq (.set 0 (.nm 9) (.cmp .Lt (.call "_law_draw" (.cons (.v 0) (.cons (.c (.int 100)) .nil))) (.v 4)))
  (.seq (.set 0 (.nm 10) (.vor (.cmp .Eq (.bin .Sub (.v 7) (.v 8)) (.c (.int 1))) (.cmp .Eq (.bin .Sub (.v 7) (.v 8)) (.bin .Sub (.v 1) (.c (.int 1))))))
  (.seq (.ife (.cmp .Eq (.v 3) (.c (.int 1)))
  (.set 0 (.nm 9) (.v 10))
  (.ife (.cmp .Eq (.v 3) (.c (.int 2)))
  (.set 0 (.nm 9) (.vor (.ix (.ix (.v 5) (.v 8)) (.v 7)) (.ix (.ix (.v 5) (.v 7)) (.v 8))))
  (.ife (.cmp .Eq (.v 3) (.c (.int 3)))
  (.set 0 (.nm 9) (.vor (.v 10) (.v 9)))
  .nop)))
  (.ife (.v 9)
  (.drop (.app 6 .nil (.tup (.cons (.b2 .min (.ix (.v 2) (.v 8)) (.ix (.v 2) (.v 7))) (.cons (.b2 .max (.ix (.v 2) (.v 8)) (.ix (.v 2) (.v 7))) .nil)))))
  .nop))))))
  (.ret (.b1 .sorted (.v 6)))))))))⟩
def F_law_a_clash : DefS := ⟨"_law_a_clash", ["pairs"], ["pairs", "every", "arrow", "rows", "seen", "turn", "row", "other"], ⟨[.fz], 0⟩,
  (.seq (.set 0 (.nm 1) (.call "_law_arrows" (.cons (.v 0) .nil)))
  (.seq (.for_ (.nm 2) (.it (.v 1))
  (.seq (.set 1 (.nm 3) (.lst 1 (.cons (.lst 1 (.cons (.v 2) .nil)) .nil)))
  (.seq (.set 1 (.nm 4) (.lst 1 (.cons (.v 2) .nil)))
  (.seq (.for_ (.nm 5) (.rng (.c (.int 0)) (.b1 .len (.v 1)))
  (.ife (.cmp .Lt (.v 5) (.b1 .len (.v 3)))
  (.for_ (.nm 7) (.it (.v 1))
  (.ife (.tand (.cmp .NotIn (.v 7) (.v 4)) (.call "_law_forces" (.cons (.v 0) (.cons (.ix (.ix (.v 3) (.v 5)) (.un .USub (.c (.int 1)))) (.cons (.v 7) .nil)))))
  (.seq (.drop (.app 4 .nil (.v 7)))
  (.drop (.app 3 .nil (.bin .Add (.ix (.v 3) (.v 5)) (.lst 1 (.cons (.v 7) .nil))))))
  .nop))
  .nop))
  (.for_ (.nm 6) (.it (.v 3))
  (.ife (.cmp .Eq (.ix (.v 6) (.un .USub (.c (.int 1)))) (.tup (.cons (.ix (.v 2) (.c (.int 1))) (.cons (.ix (.v 2) (.c (.int 0))) .nil))))
  (.ret (.v 6))
  .nop))))))
  (.ret (.lst 1 .nil))))⟩
def F_law_bent_clash : DefS := ⟨"_law_bent_clash", ["box", "many", "row", "which"], ["box", "many", "row", "which", "found", "at", "other", "kept", "k", "arrow"], ⟨[.mt 1, .fz, .fz, .fz], 0⟩,
  (.seq (.set 1 (.nm 4) (.b1 .list (.v 2)))
  (.seq (.set 0 (.nm 5) (.call "_law_draw" (.cons (.v 0) (.cons (.b1 .len (.v 4)) .nil))))
  (.seq (.ife (.cmp .Eq (.v 3) (.c (.int 1)))
  (.set 1 (.nm 4) (.bin .Add (.sl (.v 4) .nil (.c (.int 2))) (.v 4)))
  (.ife (.cmp .Eq (.v 3) (.c (.int 2)))
  (.drop (.pop 4 .nil (.c (.int 0))))
  (.ife (.cmp .Eq (.v 3) (.c (.int 3)))
  (.drop (.pop 4 .nil .nil))
  (.ife (.cmp .Eq (.v 3) (.c (.int 4)))
  (.drop (.pop 4 .nil (.v 5)))
  (.ife (.cmp .Eq (.v 3) (.c (.int 5)))
  (.sets 4 .nil (.v 5) (.tup (.cons (.ix (.ix (.v 4) (.v 5)) (.c (.int 1))) (.cons (.ix (.ix (.v 4) (.v 5)) (.c (.int 0))) .nil))))
  (.ife (.cmp .Eq (.v 3) (.c (.int 6)))
  (.sets 4 .nil (.v 5) (.tup (.cons (.ix (.ix (.v 4) (.v 5)) (.c (.int 0))) (.cons (.ix (.ix (.v 4) (.v 5)) (.c (.int 0))) .nil))))
  (.ife (.cmp .Eq (.v 3) (.c (.int 7)))
  (.sets 4 .nil (.v 5) (.tup (.cons (.ix (.ix (.v 4) (.v 5)) (.c (.int 0))) (.cons (.bin .Add (.v 1) (.call "_law_draw" (.cons (.v 0) (.cons (.c (.int 3)) .nil)))) .nil))))
  (.ife (.cmp .Eq (.v 3) (.c (.int 8)))
  (.drop (.ins 4 .nil (.v 5) (.ix (.v 4) (.v 5))))
  (.ife (.cmp .Eq (.v 3) (.c (.int 9)))
  (.set 1 (.nm 4) (.b1 .rev (.v 4)))
  (.ife (.cmp .Eq (.v 3) (.c (.int 10)))
  (.set 1 (.nm 4) (.comp 1 (.tup (.cons (.ix (.v 9) (.c (.int 1))) (.cons (.ix (.v 9) (.c (.int 0))) .nil))) (.nm 9) (.it (.v 4)) (.c (.bool true)) [9]))
  (.ife (.cmp .Eq (.v 3) (.c (.int 11)))
  (.seq (.set 0 (.nm 6) (.call "_law_draw" (.cons (.v 0) (.cons (.b1 .len (.v 4)) .nil))))
  (.seq (.set 0 (.nm 7) (.ix (.v 4) (.v 5)))
  (.seq (.sets 4 .nil (.v 5) (.ix (.v 4) (.v 6)))
  (.sets 4 .nil (.v 6) (.v 7)))))
  (.ife (.cmp .Eq (.v 3) (.c (.int 12)))
  (.set 1 (.nm 4) (.lst 1 .nil))
  (.ife (.cmp .Eq (.v 3) (.c (.int 13)))
  (.set 1 (.nm 4) (.lst 1 (.cons (.ix (.v 4) (.c (.int 0))) (.cons (.ix (.v 4) (.un .USub (.c (.int 1)))) .nil))))
  (.ife (.cmp .Eq (.v 3) (.c (.int 14)))
  (.sets 4 .nil (.v 5) (.tup (.cons (.un .USub (.c (.int 1))) (.cons (.ix (.ix (.v 4) (.v 5)) (.c (.int 1))) .nil))))
  (.ife (.cmp .Gt (.v 3) (.c (.int 17)))
  (.for_ (.nm 8) (.rngd (.bin .Sub (.b1 .len (.v 4)) (.c (.int 1))) (.c (.int 0)))
  (.seq (.ife (.cmp .Eq (.ix (.ix (.v 4) (.v 8)) (.c (.int 0))) (.ix (.ix (.v 4) (.bin .Sub (.v 8) (.c (.int 1)))) (.c (.int 0))))
  (.drop (.ins 4 .nil (.v 8) (.tup (.cons (.ix (.ix (.v 4) (.v 8)) (.c (.int 0))) (.cons (.bin .Add (.v 1) (.v 3)) .nil)))))
  (.ife (.cmp .Eq (.ix (.ix (.v 4) (.v 8)) (.c (.int 1))) (.ix (.ix (.v 4) (.bin .Sub (.v 8) (.c (.int 1)))) (.c (.int 1))))
  (.drop (.ins 4 .nil (.v 8) (.tup (.cons (.bin .Add (.v 1) (.v 3)) (.cons (.ix (.ix (.v 4) (.v 8)) (.c (.int 1))) .nil)))))
  .nop))
  (.ife (.tand (.cmp .Eq (.v 3) (.c (.int 18))) (.cmp .Gt (.b1 .len (.v 4)) (.b1 .len (.v 2))))
  .brk
  .nop)))
  .nop)))))))))))))))
  (.ret (.b1 .tuple (.v 4))))))⟩
def F_law_clashes_judged : DefS := ⟨"_law_clashes_judged", ["box", "many", "pairs"], ["box", "many", "pairs", "row", "which", "bent", "some", "one", "other"], ⟨[.mt 1, .fz, .fz], 0⟩,
  (.seq (.set 0 (.nm 3) (.call "_law_a_clash" (.cons (.v 2) .nil)))
  (.seq (.ife (.cmp .Eq (.v 3) (.lst 1 .nil))
  (.set 0 (.nm 3) (.call "_law_mixed" (.cons (.v 0) (.cons (.bin .Add (.call "_law_arrows" (.cons (.v 2) .nil)) (.lst 1 (.cons (.tup (.cons (.c (.int 0)) (.cons (.c (.int 1)) .nil))) .nil))) .nil))))
  .nop)
  (.seq (.for_ (.nm 4) (.rng (.c (.int 0)) (.c (.int 20)))
  (.seq (.set 0 (.nm 5) (.call "_law_bent_clash" (.cons (.v 0) (.cons (.v 1) (.cons (.v 3) (.cons (.v 4) .nil))))))
  (.seq (.set 1 (.nm 6) (.b1 .list (.v 2)))
  (.seq (.ife (.tand (.cmp .Eq (.v 4) (.c (.int 15))) (.cmp .NotEq (.v 6) (.lst 1 .nil)))
  (.drop (.pop 6 .nil (.call "_law_draw" (.cons (.v 0) (.cons (.b1 .len (.v 6)) .nil)))))
  .nop)
  (.seq (.ife (.cmp .In (.v 4) (.tup (.cons (.c (.int 16)) (.cons (.c (.int 17)) .nil))))
  (.seq (.set 0 (.nm 7) (.call "_law_draw" (.cons (.v 0) (.cons (.v 1) .nil))))
  (.seq (.set 0 (.nm 8) (.bin .Mod (.b1 .int (.bin .Add (.bin .Add (.v 7) (.c (.int 1))) (.call "_law_draw" (.cons (.v 0) (.cons (.bin .Sub (.v 1) (.c (.int 1))) .nil))))) (.v 1)))
  (.ife (.cmp .NotIn (.tup (.cons (.b2 .min (.v 7) (.v 8)) (.cons (.b2 .max (.v 7) (.v 8)) .nil))) (.v 6))
  (.set 1 (.nm 6) (.b1 .sorted (.bin .Add (.v 6) (.lst 1 (.cons (.tup (.cons (.b2 .min (.v 7) (.v 8)) (.cons (.b2 .max (.v 7) (.v 8)) .nil))) .nil)))))
  .nop)))
  .nop)
  (.ife (.tnot (.call "_law_same" (.cons (.call "shows_clash" (.cons (.b1 .list (.v 6)) (.cons (.v 5) .nil))) (.cons (.call "_law_clash_shown" (.cons (.v 6) (.cons (.v 5) .nil))) .nil))))
  (.ret (.c (.bool false)))
  .nop))))))
  (.ret (.c (.bool true))))))⟩
def F_law_bent_arrows : DefS := ⟨"_law_bent_arrows", ["box", "many", "row", "which"], ["box", "many", "row", "which", "found", "at", "arrow"], ⟨[.mt 1, .fz, .fz, .fz], 0⟩,
  (.seq (.set 1 (.nm 4) (.b1 .list (.v 2)))
  (.seq (.ife (.cmp .Eq (.v 3) (.c (.int 9)))
  (.set 1 (.nm 4) (.comp 1 (.tup (.cons (.ix (.v 6) (.c (.int 1))) (.cons (.ix (.v 6) (.c (.int 0))) .nil))) (.nm 6) (.it (.v 4)) (.c (.bool true)) [6]))
  .nop)
  (.seq (.ife (.tor (.cmp .Eq (.v 4) (.lst 1 .nil)) (.tor (.cmp .Eq (.v 3) (.c (.int 0))) (.cmp .Gt (.v 3) (.c (.int 8)))))
  (.ret (.v 4))
  .nop)
  (.seq (.set 0 (.nm 5) (.call "_law_draw" (.cons (.v 0) (.cons (.b1 .len (.v 4)) .nil))))
  (.seq (.set 0 (.nm 6) (.ix (.v 4) (.v 5)))
  (.seq (.ife (.cmp .Lt (.v 3) (.c (.int 3)))
  (.sets 4 .nil (.v 5) (.tup (.cons (.ix (.v 6) (.c (.int 1))) (.cons (.ix (.v 6) (.c (.int 0))) .nil))))
  (.ife (.cmp .Eq (.v 3) (.c (.int 3)))
  (.drop (.pop 4 .nil (.v 5)))
  (.ife (.cmp .Eq (.v 3) (.c (.int 4)))
  (.drop (.app 4 .nil (.tup (.cons (.ix (.v 6) (.c (.int 1))) (.cons (.ix (.v 6) (.c (.int 0))) .nil)))))
  (.ife (.cmp .Eq (.v 3) (.c (.int 5)))
  (.sets 4 .nil (.v 5) (.tup (.cons (.ix (.v 6) (.c (.int 0))) (.cons (.v 1) .nil))))
  (.ife (.cmp .Eq (.v 3) (.c (.int 6)))
  (.drop (.app 4 .nil (.v 6)))
  (.ife (.cmp .Eq (.v 3) (.c (.int 7)))
  (.sets 4 .nil (.v 5) (.tup (.cons (.ix (.v 6) (.c (.int 0))) (.cons (.ix (.v 6) (.c (.int 0))) .nil))))
  (.ife (.cmp .Eq (.v 3) (.c (.int 8)))
  (.sets 4 .nil (.v 5) (.tup (.cons (.call "_law_draw" (.cons (.v 0) (.cons (.v 1) .nil))) (.cons (.call "_law_draw" (.cons (.v 0) (.cons (.v 1) .nil))) .nil))))
  .nop)))))))
  (.ret (.v 4))))))))⟩
def F_law_arrows_judged : DefS := ⟨"_law_arrows_judged", ["box", "many", "pairs", "row"], ["box", "many", "pairs", "row", "which", "bent", "handed"], ⟨[.mt 1, .fz, .fz, .fz], 0⟩,
  (.seq (.for_ (.nm 4) (.rng (.c (.int 0)) (.c (.int 11)))
  (.seq (.set 0 (.nm 5) (.call "_law_bent_arrows" (.cons (.v 0) (.cons (.v 1) (.cons (.v 3) (.cons (.v 4) .nil))))))
  (.seq (.ife (.cmp .Eq (.bin .Mod (.b1 .int (.v 4)) (.c (.int 2))) (.c (.int 0)))
  (.set 0 (.nm 5) (.b1 .sorted (.v 5)))
  .nop)
  (.seq (.set 0 (.nm 6) (.b1 .list (.v 5)))
  (.seq (.ife (.tnot (.call "_law_same" (.cons (.call "is_straight" (.cons (.v 6) .nil)) (.cons (.call "_law_is_straight" (.cons (.v 5) .nil)) .nil))))
  (.ret (.c (.bool false)))
  .nop)
  (.ife (.tor (.tnot (.call "_law_same" (.cons (.call "shows_directed" (.cons (.b1 .list (.v 2)) (.cons (.v 6) .nil))) (.cons (.call "_law_directs" (.cons (.v 2) (.cons (.v 5) .nil))) .nil)))) (.tnot (.call "_law_same" (.cons (.v 6) (.cons (.v 5) .nil)))))
  (.ret (.c (.bool false)))
  .nop))))))
  (.ret (.c (.bool true))))⟩
def Flaw : DefS := ⟨"law", ["script"], ["script", "box", "many", "names", "pairs", "low", "high", "loose", "waits", "plain", "k", "one", "other"], ⟨[.fz], 0⟩,
  (.seq (.set 1 (.nm 1) (.lst 1 (.cons (.call "_law_digits" (.cons (.v 0) (.cons (.c (.int 0)) (.cons (.c (.int 22)) .nil)))) (.cons (.c (.int 0)) .nil))))
  (.seq (.set 0 (.nm 2) (.bin .Add (.c (.int 5)) (.call "_law_draw" (.cons (.v 1) (.cons (.c (.int 2)) .nil)))))
  (.seq (.set 0 (.nm 3) (.call "_law_mixed" (.cons (.v 1) (.cons (.lst1 (.rng (.c (.int 0)) (.v 2))) .nil))))
  (.seq (.set 1 (.nm 4) (.comp 1 (.tup (.cons (.b2 .min (.ix (.v 3) (.v 10)) (.ix (.v 3) (.bin .Mod (.bin .Add (.v 10) (.c (.int 1))) (.c (.int 5))))) (.cons (.b2 .max (.ix (.v 3) (.v 10)) (.ix (.v 3) (.bin .Mod (.bin .Add (.v 10) (.c (.int 1))) (.c (.int 5))))) .nil))) (.nm 10) (.rng (.c (.int 0)) (.c (.int 5))) (.c (.bool true)) [10]))
  (.seq (.for_ (.cons (.nm 5) (.cons (.nm 6) .nil)) (.it (.call "_law_pairs" (.cons (.v 1) (.cons (.v 2) .nil))))
  (.ife (.tand (.cmp .NotIn (.tup (.cons (.v 5) (.cons (.v 6) .nil))) (.v 4)) (.cmp .Eq (.call "_law_draw" (.cons (.v 1) (.cons (.c (.int 4)) .nil))) (.c (.int 0))))
  (.drop (.app 4 .nil (.tup (.cons (.v 5) (.cons (.v 6) .nil)))))
  .nop))
  (.seq (.set 1 (.nm 4) (.b1 .sorted (.v 4)))
  (.seq (.ife (.cmp .Eq (.call "_law_draw" (.cons (.v 1) (.cons (.c (.int 4)) .nil))) (.c (.int 0)))
  (.set 1 (.nm 4) (.call "_law_pairs" (.cons (.v 1) (.cons (.v 2) .nil))))
  .nop)
  (.seq (.ife (.tnot (.call "_law_clashes_judged" (.cons (.v 1) (.cons (.v 2) (.cons (.v 4) .nil)))))
  (.ret (.c (.bool false)))
  .nop)
  (.seq (.set 0 (.nm 7) (.comp 1 (.call "_law_pick" (.cons (.v 1) (.cons (.lst 1 (.cons (.tup (.cons (.v 5) (.cons (.v 6) .nil))) (.cons (.tup (.cons (.v 6) (.cons (.v 5) .nil))) .nil))) .nil))) (.cons (.nm 5) (.cons (.nm 6) .nil)) (.it (.v 4)) (.c (.bool true)) [5, 6]))
  (.seq (.ife (.tnot (.call "_law_arrows_judged" (.cons (.v 1) (.cons (.v 2) (.cons (.v 4) (.cons (.v 7) .nil))))))
  (.ret (.c (.bool false)))
  .nop)
  (.seq (.set 0 (.nm 8) (.ix (.call "_law_closed" (.cons (.call "_law_less" (.cons (.call "_law_works" (.cons (.v 1) (.cons (.v 2) .nil))) .nil)) .nil)) (.c (.int 1))))
  (.seq (.set 0 (.nm 9) (.b1 .sorted (.comp 1 (.tup (.cons (.b2 .min (.v 11) (.v 12)) (.cons (.b2 .max (.v 11) (.v 12)) .nil))) (.cons (.nm 11) (.cons (.nm 12) .nil)) (.it (.v 8)) (.c (.bool true)) [11, 12])))
  (.ret (.vand (.call "_law_arrows_judged" (.cons (.v 1) (.cons (.v 2) (.cons (.v 9) (.cons (.b1 .list (.v 8)) .nil))))) (.cmp .Is (.call "shows_directed" (.cons (.b1 .list (.v 9)) (.cons (.b1 .list (.v 8)) .nil))) (.c (.bool true)))))))))))))))))⟩
def ds : List DefS := [Fis_pair, Fforces, Fshows_clash, Fis_straight, Fshows_directed, F_law_cell, F_law_digits, F_law_draw, F_law_pick, F_law_mixed, F_law_same, F_law_works, F_law_less, F_law_closed, F_law_arrows, F_law_forces, F_law_clash_shown, F_law_is_straight, F_law_directs, F_law_pairs, F_law_a_clash, F_law_bent_clash, F_law_clashes_judged, F_law_bent_arrows, F_law_arrows_judged, Flaw]
set_option Elab.async false in
theorem checked : chkAll 100 top ds = true := by decide +kernel
end K28
namespace K28
open PySem VL
theorem has : Has28 (fnOf ds) where
  draw := rfl
  is_pair := rfl
  forces := rfl
  clash := rfl
  straight := rfl
  directed := rfl
  lforces := rfl
  lclash := rfl
  lstraight := rfl
  ldirects := rfl
  same := rfl
  bent := rfl
  pick := rfl
  mixed := rfl
  arrows := rfl
  aclash := rfl
  bentc := rfl
  cell := rfl
  digits := rfl
  works := rfl
  less := rfl
  closed := rfl
  pairs := rfl
  cj := rfl
  aj := rfl
  law := rfl
theorem law_true : ∃ g, prog (fnOf ds) 40 "law" = some g ∧ g.sg.pm = [.fz] ∧ ∀ ns : List Int, ns.length ≤ 63 → g.run [.dict (scrK ns)] = .ok (.bool true, []) := by
  refine ⟨⟨T_law28.sg, runF (prog (fnOf ds) 39) T_law28⟩, prog_at (k := 39) has.law, rfl, fun ns _ => ?_⟩
  have h := law28 (k := 34) has ns
  unfold cl at h
  rw [has.law] at h
  exact h
end K28
set_option maxHeartbeats 8000000
/-! the end -/
namespace K28
open PySem VL PyProof.Rows L2
theorem bindings : ∀ d ∈ ds, BindP (prmOf top d.name) d.ps := by
  intro d hd
  simp only [ds, List.mem_cons, List.not_mem_nil, or_false] at hd
  rcases hd with rfl | rfl | rfl | rfl | rfl | rfl | rfl | rfl | rfl | rfl | rfl | rfl | rfl | rfl | rfl | rfl | rfl | rfl | rfl | rfl | rfl | rfl | rfl | rfl | rfl | rfl
  · exact fun _ _ _ _ _ _ _ _ _ _ us hl => match us, hl with | [_, _, _], _ => rfl
  · exact fun _ _ _ _ _ _ _ _ _ _ us hl => match us, hl with | [_, _, _], _ => rfl
  · exact fun _ _ _ _ _ _ _ _ _ _ us hl => match us, hl with | [_, _], _ => rfl
  · exact fun _ _ _ _ _ _ _ _ _ _ us hl => match us, hl with | [_], _ => rfl
  · exact fun _ _ _ _ _ _ _ _ _ _ us hl => match us, hl with | [_, _], _ => rfl
  · exact fun _ _ _ _ _ _ _ _ _ _ us hl => match us, hl with | [_, _], _ => rfl
  · exact fun _ _ _ _ _ _ _ _ _ _ us hl => match us, hl with | [_, _, _], _ => rfl
  · exact fun _ _ _ _ _ _ _ _ _ _ us hl => match us, hl with | [_, _], _ => rfl
  · exact fun _ _ _ _ _ _ _ _ _ _ us hl => match us, hl with | [_, _], _ => rfl
  · exact fun _ _ _ _ _ _ _ _ _ _ us hl => match us, hl with | [_, _], _ => rfl
  · exact fun _ _ _ _ _ _ _ _ _ _ us hl => match us, hl with | [_, _], _ => rfl
  · exact fun _ _ _ _ _ _ _ _ _ _ us hl => match us, hl with | [_, _], _ => rfl
  · exact fun _ _ _ _ _ _ _ _ _ _ us hl => match us, hl with | [_], _ => rfl
  · exact fun _ _ _ _ _ _ _ _ _ _ us hl => match us, hl with | [_], _ => rfl
  · exact fun _ _ _ _ _ _ _ _ _ _ us hl => match us, hl with | [_], _ => rfl
  · exact fun _ _ _ _ _ _ _ _ _ _ us hl => match us, hl with | [_, _, _], _ => rfl
  · exact fun _ _ _ _ _ _ _ _ _ _ us hl => match us, hl with | [_, _], _ => rfl
  · exact fun _ _ _ _ _ _ _ _ _ _ us hl => match us, hl with | [_], _ => rfl
  · exact fun _ _ _ _ _ _ _ _ _ _ us hl => match us, hl with | [_, _], _ => rfl
  · exact fun _ _ _ _ _ _ _ _ _ _ us hl => match us, hl with | [_, _], _ => rfl
  · exact fun _ _ _ _ _ _ _ _ _ _ us hl => match us, hl with | [_], _ => rfl
  · exact fun _ _ _ _ _ _ _ _ _ _ us hl => match us, hl with | [_, _, _, _], _ => rfl
  · exact fun _ _ _ _ _ _ _ _ _ _ us hl => match us, hl with | [_, _, _], _ => rfl
  · exact fun _ _ _ _ _ _ _ _ _ _ us hl => match us, hl with | [_, _, _, _], _ => rfl
  · exact fun _ _ _ _ _ _ _ _ _ _ us hl => match us, hl with | [_, _, _, _], _ => rfl
  · exact fun _ _ _ _ _ _ _ _ _ _ us hl => match us, hl with | [_], _ => rfl
def fn : List He.DefD := fnList top
def fa : List He.Fa := faList top
abbrev Rw : PySem.W.OpenRow := PySem.W.OpenLaw.row PySem.Challenge.rw_worklands_k28_whole_judges_of_arrows
abbrev hook : PySem.W.Hook := He.hookD 4 fa fn
def seen (s : PySem.W.SharedT) : He.AlD := He.obsDG 4 fa fn (HandSHeadRun.getT s)
theorem seen_eq (s : PySem.W.SharedT) : seen s = hook.obs s.abs := He.obsDG_eq (HandSHeadRun.getT_eq s)
theorem topRun (w : World) : HandSHeadRun.RunEq Rw (PySem.W.view Rw.prog [27]) hook seen 4000 ["is_pair", "forces", "shows_clash", "is_straight", "shows_directed", "_law_cell", "_law_digits", "_law_draw", "_law_pick", "_law_mixed", "_law_same", "_law_works", "_law_less", "_law_closed", "_law_arrows", "_law_forces", "_law_clash_shown", "_law_is_straight", "_law_directs", "_law_pairs", "_law_a_clash", "_law_bent_clash", "_law_clashes_judged", "_law_bent_arrows", "_law_arrows_judged"] w := by
  intro os
  kernel_rfl
end K28
open PySem PySem.W PySem.Calls PyProof.Rows
theorem PySem.Challenge.cw_worklands_k28_whole_judges_of_arrows_holds : PySem.Challenge.rw_worklands_k28_whole_judges_of_arrows.Holds := by
  w_on; o_law
  refine HandSHeadRun.head_any (r := OpenLaw.row PySem.Challenge.rw_worklands_k28_whole_judges_of_arrows) (q := view (OpenLaw.row PySem.Challenge.rw_worklands_k28_whole_judges_of_arrows).prog [27]) (H := K28.hook) (ob := K28.seen) (M := 4000) (loose := ["is_pair", "forces", "shows_clash", "is_straight", "shows_directed", "_law_cell", "_law_digits", "_law_draw", "_law_pick", "_law_mixed", "_law_same", "_law_works", "_law_less", "_law_closed", "_law_arrows", "_law_forces", "_law_clash_shown", "_law_is_straight", "_law_directs", "_law_pairs", "_law_a_clash", "_law_bent_clash", "_law_clashes_judged", "_law_bent_arrows", "_law_arrows_judged"])
    (d := HandSHeadRun.topDef (OpenLaw.row PySem.Challenge.rw_worklands_k28_whole_judges_of_arrows).prog 27) (kwd := []) K28.seen_eq
    (by kernel_rfl) (fun s => by kernel_rfl) K28.topRun (by kernel_rfl) (by kernel_rfl) (by kernel_rfl) (by rfl) (by first | assumption | decide +kernel) (by decide +kernel) ⟨rfl, rfl, rfl, rfl, rfl, by decide +kernel⟩ ?hw ?hc
  case hw => w_witness2
  case hc =>
    refine L2.walk_ofE (l := PySem.Challenge.rw_worklands_k28_whole_judges_of_arrows) (n := 63) (k := 40) (x := "script") (CX := L2.CX0) rfl (by decide) (by kernel_rfl) ⟨rfl, by decide, by decide⟩ ?F (fun _ _ _ _ z => z)
    intro w mg fa h Y G named
    obtain ⟨K, KX, c⟩ := Y
    have found : mg ("law" : PySem.Str) = some (.ref fa) := by
      have e : (HandSHeadRun.topDef (OpenLaw.row PySem.Challenge.rw_worklands_k28_whole_judges_of_arrows).prog 27).name = ("law" : PySem.Str) := by kernel_rfl
      rw [← e]
      exact named
    obtain ⟨g, hg, hsg, hrun⟩ := K28.law_true
    obtain ⟨fd, sp, hb, hsp, hF⟩ := VL.law_facts (P := (PySem.Challenge.rw_worklands_k28_whole_judges_of_arrows).prog) (w := w) (n := 63) K28.checked K28.bindings KX G c hg hsg (fun d hd => by
      have e : VL.findS K28.ds "law" = some K28.Flaw := rfl
      rw [e] at hd
      cases hd
      rfl) found hrun
    exact ⟨K, fd, sp, KX, hb, hsp, hF⟩
