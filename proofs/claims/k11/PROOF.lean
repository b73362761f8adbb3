import PyProof.Rows.All
import Wide.All
import OpenK.AllK
import Wide.FinOn
import HandS.ForMost
import HandS.Walk
import HandS.IsInst
import HandS.Wide
import HandS.TupMul
import HandS.Flow
import HandS.TupAny
import HandS.TupLe
import HandS.ExcOwn
import HandS.CallSlots
import HandS.WordsExc
import HandS.TryOnly
import HandS.Iter
import HandS.Zip
import KE.GoesEnum
import HandS.Defaults
import HandS.Head0
import HandS.Head1
import HandS.Head2
import HandS.HeadHook1
import HandS.HeadHook2
import HandS.HeadEnd
import PyProof.P3Eq
import PySem.Challenge.RW_sumnets_k11_nets_let_by
set_option maxHeartbeats 400000
set_option Elab.async false
set_option linter.all false
set_option maxRecDepth 100000
/-! Ly: an own language of the subset, and its interpreter over plain values. -/
namespace Ly
open PySem

/-- a value: tuples by what they hold, a list by its number in the heap; rol: a list that nobody writes (the script) -/
inductive D where
  | non | bl (b : Bool) | int (i : Int) | str (s : Str) | tup (xs : List D) | rol (xs : List D) | ref (n : Nat) | fn (i : Nat)

mutual
def D.dec : (a b : D) → Decidable (a = b)
  | .non, .non => .isTrue rfl
  | .bl a, .bl b => if h : a = b then .isTrue (by rw [h]) else .isFalse fun e => h (D.bl.inj e)
  | .int a, .int b => if h : a = b then .isTrue (by rw [h]) else .isFalse fun e => h (D.int.inj e)
  | .str a, .str b => if h : a = b then .isTrue (by rw [h]) else .isFalse fun e => h (D.str.inj e)
  | .tup a, .tup b => match D.decs a b with
    | .isTrue h => .isTrue (by rw [h])
    | .isFalse h => .isFalse fun e => h (D.tup.inj e)
  | .rol a, .rol b => match D.decs a b with
    | .isTrue h => .isTrue (by rw [h])
    | .isFalse h => .isFalse fun e => h (D.rol.inj e)
  | .ref a, .ref b => if h : a = b then .isTrue (by rw [h]) else .isFalse fun e => h (D.ref.inj e)
  | .fn a, .fn b => if h : a = b then .isTrue (by rw [h]) else .isFalse fun e => h (D.fn.inj e)
  | .non, .bl _ | .non, .int _ | .non, .str _ | .non, .tup _ | .non, .rol _ | .non, .ref _ | .non, .fn _ => .isFalse nofun
  | .bl _, .non | .bl _, .int _ | .bl _, .str _ | .bl _, .tup _ | .bl _, .rol _ | .bl _, .ref _ | .bl _, .fn _ => .isFalse nofun
  | .int _, .non | .int _, .bl _ | .int _, .str _ | .int _, .tup _ | .int _, .rol _ | .int _, .ref _ | .int _, .fn _ => .isFalse nofun
  | .str _, .non | .str _, .bl _ | .str _, .int _ | .str _, .tup _ | .str _, .rol _ | .str _, .ref _ | .str _, .fn _ => .isFalse nofun
  | .tup _, .non | .tup _, .bl _ | .tup _, .int _ | .tup _, .str _ | .tup _, .rol _ | .tup _, .ref _ | .tup _, .fn _ => .isFalse nofun
  | .rol _, .non | .rol _, .bl _ | .rol _, .int _ | .rol _, .str _ | .rol _, .tup _ | .rol _, .ref _ | .rol _, .fn _ => .isFalse nofun
  | .ref _, .non | .ref _, .bl _ | .ref _, .int _ | .ref _, .str _ | .ref _, .tup _ | .ref _, .rol _ | .ref _, .fn _ => .isFalse nofun
  | .fn _, .non | .fn _, .bl _ | .fn _, .int _ | .fn _, .str _ | .fn _, .tup _ | .fn _, .rol _ | .fn _, .ref _ => .isFalse nofun
def D.decs : (a b : List D) → Decidable (a = b)
  | [], [] => .isTrue rfl
  | [], _ :: _ => .isFalse nofun
  | _ :: _, [] => .isFalse nofun
  | a :: as, b :: bs => match D.dec a b with
    | .isFalse h => .isFalse fun e => h (List.cons.inj e).1
    | .isTrue h => match D.decs as bs with
      | .isTrue h' => .isTrue (by rw [h, h'])
      | .isFalse h' => .isFalse fun e => h' (List.cons.inj e).2
end
instance : DecidableEq D := D.dec

/-- what stands in the heap -/
inductive Ob where
  | lst (xs : List D)
  deriving DecidableEq
abbrev Hh := List Ob
abbrev Env := List (Option D)

inductive Res (α : Type) where
  | ok (a : α) (h : Hh)
  | exc (c : Nat) (fs : List D) (h : Hh)
  | bad

def Res.bind {α β : Type} : Res α → (α → Hh → Res β) → Res β
  | .ok a h, k => k a h
  | .exc c fs h, _ => .exc c fs h
  | .bad, _ => .bad
@[simp] theorem Res.ok_bind {α β : Type} (a : α) (h : Hh) (k : α → Hh → Res β) : (Res.ok a h).bind k = k a h := rfl
@[simp] theorem Res.exc_bind {α β : Type} (c : Nat) (fs : List D) (h : Hh) (k : α → Hh → Res β) : (Res.exc c fs h).bind k = .exc c fs h := rfl
@[simp] theorem Res.bad_bind {α β : Type} (k : α → Hh → Res β) : (Res.bad : Res α).bind k = .bad := rfl

/-- where no exception may come -/
def Res.nx {α : Type} : Res α → Res α
  | .ok a h => .ok a h
  | _ => .bad
@[simp] theorem Res.ok_nx {α : Type} (a : α) (h : Hh) : (Res.ok a h).nx = .ok a h := rfl
@[simp] theorem Res.bad_nx {α : Type} : (Res.bad : Res α).nx = .bad := rfl

/-! ### the language -/
inductive BOp where | add | sub | mul | fdiv | mod | pow | shl | shr | band | bor
inductive COp where | eq | ne | lt | le | gt | ge | isin | notin
inductive BI where | len | abs | int | min | max | sum | all | any | list | tuple | sorted | str | repr
  deriving DecidableEq
inductive Mt where | append | extend | pop
  deriving DecidableEq
inductive Tg where
  | name (i : Nat) | tup (is : List Nat)
/-- a type that isinstance asks for -/
inductive Ty where | int | bool | str | tuple | list | dict
  deriving DecidableEq

inductive E where
  | var (i : Nat) | int (i : Int) | bl (b : Bool) | non | str (s : Str) | glob (g : Nat)
  | bin (o : BOp) (a b : E) | neg (a : E) | not (a : E)
  | cmp (o : COp) (a b : E) | cmp2 (o p : COp) (a b c : E) | isN (a : E) | isNN (a : E)
  | and (a b : E) | or (a b : E) | one (a : E) | ite (c a b : E)
  | tup (as : E) | lst (as : E) | nil | cons (a as : E)
  | idx (a b : E) | slc (a lo hi : E) | nop | opt (a : E)
  | call (f : Nat) (as : E) | bi (b : BI) (as : E) | isi (a : E) (t : Ty)
  | meth (m : Mt) (a as : E)
  | comp (own : List Nat) (tg : Tg) (it c e : E)
  | nev | seq (a : E) | rng1 (a : E) | rng2 (a b : E) | enum (a : E) | zip (a b : E)

inductive S where
  | skip | cat (a b : S) | pass | ex (e : E) | asg (tg : Tg) (e : E) | set (o i e : E) | aug (i : Nat) (o : BOp) (e : E)
  | ret (e : E) | retN | ifS (c : E) (a b : S) | forS (tg : Tg) (it : E) (b : S) | whl (c : E) (b : S) | brk | cnt
  | rse (c : Nat) (as : E) | nev

/-! ### operations on values -/
mutual
/-- all refs below n -/
def D.lt (n : Nat) : D → Bool
  | .tup xs => D.lts n xs
  | .ref m => decide (m < n)
  | .rol xs => D.lts n xs
  | _ => true
def D.lts (n : Nat) : List D → Bool
  | [] => true
  | x :: xs => D.lt n x && D.lts n xs
end
def Ob.lt (n : Nat) : Ob → Bool
  | .lst xs => D.lts n xs

/-- the heap behind a call: what was made there is dropped where nothing holds it -/
def gc (n : Nat) (d : D) (h : Hh) : Hh :=
  if d.lt n && (h.take n).all (Ob.lt n) then h.take n else h

def alloc (h : Hh) (o : Ob) : Res D := .ok (.ref h.length) (h ++ [o])

def lstAt (h : Hh) (n : Nat) : Option (List D) := match h[n]? with
  | some (.lst xs) => some xs
  | _ => none

mutual
/-- as data, lists looked up (r: how deep) -/
def toP (h : Hh) : Nat → D → Option PyData
  | _, .non => some .none
  | _, .bl b => some (.bool b)
  | _, .int i => some (.int i)
  | _, .str s => some (.str s)
  | 0, _ => none
  | r + 1, .tup xs => (toPs h r xs).map .tuple
  | r + 1, .rol xs => (toPs h r xs).map .list
  | r + 1, .ref n => match lstAt h n with
    | some xs => (toPs h r xs).map .list
    | none => none
  | _, .fn _ => none
termination_by r d => (r, 0)
def toPs (h : Hh) : Nat → List D → Option (List PyData)
  | _, [] => some []
  | r, x :: xs => match toP h r x, toPs h r xs with
    | some d, some ds => some (d :: ds)
    | _, _ => none
termination_by r xs => (r, xs.length + 1)
end

def eqD (h : Hh) : D → D → Option Bool
  | .int i, .int j => some (decide (i = j))
  | .str i, .str j => some (decide (i = j))
  | .bl i, .bl j => some (decide (i = j))
  | .non, .non => some true
  | d, e => match toP h 64 d, toP h 64 e with
    | some p, some q => if SeqAt.shaped p && SeqAt.shaped q then some (PyData.eqv p q) else none
    | _, _ => none

/-- what a sequence holds -/
def items (h : Hh) : D → Option (List D)
  | .tup xs => some xs
  | .rol xs => some xs
  | .ref n => lstAt h n
  | _ => none

def truth (h : Hh) : D → Option Bool
  | .non => some false
  | .bl b => some b
  | .int i => some (i != 0)
  | .str s => if s.length ≤ sizeLine then some (s.length != 0) else none
  | .tup xs => some (!xs.isEmpty)
  | .rol xs => some (!xs.isEmpty)
  | .ref n => (lstAt h n).map fun xs => !xs.isEmpty
  | .fn _ => none

/-- bounds, asked so that a number that isn't written is never counted down to -/
def sm64 (i : Int) : Bool := Nat.ble i.natAbs 18446744073709551615
def sm62 (i : Int) : Bool := Nat.ble i.natAbs 4611686018427387903
theorem sm64_of {i : Int} (h : sm64 i = true) : -(2 ^ 64) < i ∧ i < 2 ^ 64 := by
  have := Nat.le_of_ble_eq_true h
  omega
theorem sm62_of {i : Int} (h : sm62 i = true) : -(2 ^ 62) ≤ i ∧ i < 2 ^ 62 := by
  have := Nat.le_of_ble_eq_true h
  omega
theorem sm64_ok {i : Int} (h : i.natAbs ≤ 18446744073709551615) : sm64 i = true := Nat.ble_eq_true_of_le h
theorem sm62_ok {i : Int} (h : i.natAbs ≤ 4611686018427387903) : sm62 i = true := Nat.ble_eq_true_of_le h
def mulOk (i j : Int) : Bool := sm64 i || sm64 j || decide (i.natAbs.log2 + j.natAbs.log2 < 1000000)
def powOk (i j : Int) : Bool := decide (0 ≤ j) && Nat.ble j.natAbs 1000000 && sm64 i
def divOk (j : Int) : Bool := decide (0 < j) && decide (j.natAbs.log2 < 9000)

def rI (c : Bool) (z : Int) (h : Hh) : Res D := if c then .ok (.int z) h else .bad

def repOk (xs : List D) (k : Int) : Bool := Nat.ble 1 k.toNat && Nat.ble k.toNat 1000 && Nat.ble xs.length 1000
def binD (h : Hh) : BOp → D → D → Res D
  | .add, .int i, .int j => .ok (.int (i + j)) h
  | .sub, .int i, .int j => .ok (.int (i - j)) h
  | .mul, .int i, .int j => rI (mulOk i j) (i * j) h
  | .fdiv, .int i, .int j => rI (divOk j) (i / j) h
  | .mod, .int i, .int j => rI (decide (0 < j)) (i % j) h
  | .pow, .int i, .int j => rI (powOk i j) (i ^ j.toNat) h
  | .shl, .int i, .int j => rI (powOk i j) (i * 2 ^ j.toNat) h
  | .shr, .int i, .int j => rI (decide (0 ≤ j)) (i / 2 ^ j.toNat) h
  | .band, .int i, .int j => .ok (.int (Builtin.bitAnd i j)) h
  | .bor, .int i, .int j => .ok (.int (Builtin.bitOr i j)) h
  | .add, .str s, .str t => if s.length + t.length ≤ sizeLine then .ok (.str (s ++ t)) h else .bad
  | .add, .tup xs, .tup ys => if xs.length + ys.length ≤ sizeLine then .ok (.tup (xs ++ ys)) h else .bad
  | .add, .ref m, .ref n => match lstAt h m, lstAt h n with
    | some xs, some ys => if xs.length + ys.length ≤ sizeLine then alloc h (.lst (xs ++ ys)) else .bad
    | _, _ => .bad
  | .mul, .ref m, .int k => match lstAt h m with
    | some xs => if sm62 k && Nat.ble (xs.length * k.toNat) sizeLine then alloc h (.lst (List.replicate k.toNat xs).flatten) else .bad
    | _ => .bad
  | .mul, .tup xs, .int k => if repOk xs k then .ok (.tup (List.replicate k.toNat xs).flatten) h else .bad
  | _, _, _ => .bad

/-- x op= y: whole numbers -/
def augD : BOp → D → D → Option D
  | .add, .int i, .int j => some (.int (i + j))
  | .sub, .int i, .int j => some (.int (i - j))
  | _, _, _ => none

def rB (o : Option Bool) (h : Hh) : Res D := match o with
  | some b => .ok (.bl b) h
  | none => .bad

def cmpD (h : Hh) : COp → D → D → Res D
  | .eq, d, e => rB (eqD h d e) h
  | .ne, d, e => rB ((eqD h d e).map (!·)) h
  | .lt, .int i, .int j => .ok (.bl (decide (i < j))) h
  | .le, .int i, .int j => .ok (.bl (decide (i ≤ j))) h
  | .gt, .int i, .int j => .ok (.bl (decide (j < i))) h
  | .ge, .int i, .int j => .ok (.bl (decide (j ≤ i))) h
  | _, _, _ => .bad

def negD (h : Hh) : D → Res D
  | .int i => .ok (.int (-i)) h
  | _ => .bad

def idxD (h : Hh) (d e : D) : Res D := match items h d, e with
  | some xs, .int i => match L2.atI xs i with
    | some v => .ok v h
    | none => .bad
  | _, _ => .bad

def cut {α : Type} (xs : List α) (lo hi : Option Int) : List α :=
  (xs.drop (HT.sIx xs.length 0 lo)).take (HT.sIx xs.length xs.length hi - HT.sIx xs.length 0 lo)

def slcD (h : Hh) (d : D) (lo hi : Option Int) : Res D := match d with
  | .tup xs => .ok (.tup (cut xs lo hi)) h
  | .rol xs => alloc h (.lst (cut xs lo hi))
  | .ref n => match lstAt h n with
    | some xs => alloc h (.lst (cut xs lo hi))
    | none => .bad
  | _ => .bad

def isiD (h : Hh) : D → Ty → Option Bool
  | .non, _ => some false
  | .bl _, .bool => some true
  | .bl _, .int => some true
  | .bl _, _ => some false
  | .int _, .int => some true
  | .int _, _ => some false
  | .str _, .str => some true
  | .str _, _ => some false
  | .tup _, .tuple => some true
  | .tup _, _ => some false
  | .rol _, .list => some true
  | .rol _, _ => some false
  | .ref n, t => (lstAt h n).map fun _ => decide (t = .list)
  | .fn _, _ => none

def allInts : List D → Option (List Int)
  | [] => some []
  | .int i :: r => (allInts r).map (i :: ·)
  | _ => none
def allBls : List D → Option (List Bool)
  | [] => some []
  | .bl i :: r => (allBls r).map (i :: ·)
  | _ => none

def biD (h : Hh) : BI → List D → Res D
  | .len, [d] => match items h d with
    | some xs => .ok (.int xs.length) h
    | none => .bad
  | .abs, [.int i] => .ok (.int (if i < 0 then -i else i)) h
  | .int, [.int i] => .ok (.int i) h
  | .int, [.bl b] => .ok (.int (if b then 1 else 0)) h
  | .min, [.int i, .int j] => .ok (.int (if j < i then j else i)) h
  | .max, [.int i, .int j] => .ok (.int (if j > i then j else i)) h
  | .list, [d] => match items h d with
    | some xs => alloc h (.lst xs)
    | none => .bad
  | .tuple, [d] => match items h d with
    | some xs => .ok (.tup xs) h
    | none => .bad
  | _, _ => .bad

def mtD (h : Hh) : Mt → D → List D → Res D
  | .append, .ref n, [d] => match lstAt h n with
    | some xs => if xs.length < sizeLine then .ok .non (h.set n (.lst (xs ++ [d]))) else .bad
    | none => .bad
  | .extend, .ref n, [.ref m] => match lstAt h n, lstAt h m with
    | some xs, some ys => if xs.length + ys.length ≤ sizeLine then .ok .non (h.set n (.lst (xs ++ ys))) else .bad
    | _, _ => .bad
  | .pop, .ref n, [] => match lstAt h n with
    | some xs => match xs[xs.length - 1]? with
      | some y => .ok y (h.set n (.lst xs.dropLast))
      | none => .bad
    | none => .bad
  | _, _, _ => .bad

/-- what a method is asked of -/
def recvOk (h : Hh) : Mt → D → Bool
  | _, .ref n => (lstAt h n).isSome
  | _, _ => false

def setD (h : Hh) (o i v : D) : Option Hh := match o, i with
  | .ref n, .int k => match lstAt h n with
    | some xs => match L2.ixN xs.length k with
      | some j => some (h.set n (.lst (xs.set j v)))
      | none => none
    | none => none
  | _, _ => none

/-! ### walks -/
/-- what a for goes over: the items, and the lists that must stay as they are meanwhile -/
structure Plan where
  its : List D
  keep : List (Nat × List D)
def Plan.ok (p : Plan) (h : Hh) : Bool := p.keep.all fun q => decide (lstAt h q.1 = some q.2)

def keepOf : D → List D → List (Nat × List D)
  | .ref n, xs => [(n, xs)]
  | _, _ => []

def setsV (ρ : Env) : List Nat → List D → Env
  | i :: is, d :: ds => setsV (ρ.set i (some d)) is ds
  | _, _ => ρ
def bindTg (h : Hh) (ρ : Env) : Tg → D → Option Env
  | .name i, d => some (ρ.set i (some d))
  | .tup is, d => match items h d with
    | some xs => if xs.length = is.length then some (setsV ρ is xs) else none
    | none => none

def wipeD (ρ : Env) : List Nat → Env
  | [] => ρ
  | v :: vs => (wipeD ρ vs).set v none

def rangeL (lo : Int) : Nat → List D
  | 0 => []
  | n + 1 => .int lo :: rangeL (lo + 1) n

def enumL (i : Nat) : List D → List D
  | [] => []
  | x :: xs => .tup [.int i, x] :: enumL (i + 1) xs
def zipL : List D → List D → List D
  | x :: xs, y :: ys => .tup [x, y] :: zipL xs ys
  | _, _ => []

/-- a comprehension's turns: f x h: what is put (some) or not (none) -/
def compL (keep : Hh → Bool) (f : D → Hh → Res (Option D)) : List D → Hh → Res (List D)
  | [], h => if keep h then .ok [] h else .bad
  | x :: xs, h => if keep h then (f x h).bind fun o h1 => (compL keep f xs h1).bind fun ys h2 => .ok (o.toList ++ ys) h2 else .bad

/-- how a statement ends -/
inductive SR where
  | next (ρ : Env) (h : Hh) | brk (ρ : Env) (h : Hh) | cnt (ρ : Env) (h : Hh) | ret (d : D) (h : Hh)
  | exc (c : Nat) (fs : List D) (ρ : Env) (h : Hh) | bad

def forL (keep : Hh → Bool) (f : D → Env → Hh → SR) : List D → Env → Hh → SR
  | [], ρ, h => if keep h then .next ρ h else .bad
  | x :: xs, ρ, h => if keep h then (match f x ρ h with
    | .next ρ1 h1 => forL keep f xs ρ1 h1
    | .cnt ρ1 h1 => forL keep f xs ρ1 h1
    | .brk ρ1 h1 => .next ρ1 h1
    | r => r) else .bad

def whlL (c : Env → Hh → Res Bool) (f : Env → Hh → SR) : Nat → Env → Hh → SR
  | 0, _, _ => .bad
  | n + 1, ρ, h => match c ρ h with
    | .ok true h1 => match f ρ h1 with
      | .next ρ1 h2 => whlL c f n ρ1 h2
      | .cnt ρ1 h2 => whlL c f n ρ1 h2
      | .brk ρ1 h2 => .next ρ1 h2
      | r => r
    | .ok false h1 => .next ρ h1
    | .exc c fs h1 => .exc c fs ρ h1
    | .bad => .bad

structure Cf where
  call : Nat → List D → Hh → Res D
  glob : List D
  fuel : Nat

def Res.tr {α : Type} (r : Res D) (k : Bool → Hh → Res α) : Res α := r.bind fun d h => match truth h d with
  | some b => k b h
  | none => .bad

mutual
def evE (C : Cf) : E → Env → Hh → Res D
  | .var i, ρ, h => match ρ.getD i none with
    | some d => .ok d h
    | none => .bad
  | .int i, _, h => .ok (.int i) h
  | .bl b, _, h => .ok (.bl b) h
  | .non, _, h => .ok .non h
  | .str s, _, h => .ok (.str s) h
  | .glob g, _, h => match C.glob[g]? with
    | some d => .ok d h
    | none => .bad
  | .bin o a b, ρ, h => (evE C a ρ h).bind fun x h1 => (evE C b ρ h1).bind fun y h2 => binD h2 o x y
  | .neg a, ρ, h => (evE C a ρ h).bind fun x h1 => negD h1 x
  | .not a, ρ, h => (evE C a ρ h).tr fun b h1 => .ok (.bl (!b)) h1
  | .cmp o a b, ρ, h => (evE C a ρ h).bind fun x h1 => (evE C b ρ h1).bind fun y h2 => cmpD h2 o x y
  | .cmp2 o p a b c, ρ, h => (evE C a ρ h).bind fun x h1 => (evE C b ρ h1).bind fun y h2 => (cmpD h2 o x y).bind fun z h3 => match z with
    | .bl true => (evE C c ρ h3).bind fun w h4 => cmpD h4 p y w
    | .bl false => .ok (.bl false) h3
    | _ => .bad
  | .isN a, ρ, h => (evE C a ρ h).bind fun x h1 => .ok (.bl (decide (x = .non))) h1
  | .isNN a, ρ, h => (evE C a ρ h).bind fun x h1 => .ok (.bl (!decide (x = .non))) h1
  | .and a b, ρ, h => (evE C a ρ h).bind fun x h1 => match truth h1 x with
    | some true => evE C b ρ h1
    | some false => .ok x h1
    | none => .bad
  | .or a b, ρ, h => (evE C a ρ h).bind fun x h1 => match truth h1 x with
    | some true => .ok x h1
    | some false => evE C b ρ h1
    | none => .bad
  | .one a, ρ, h => evE C a ρ h
  | .ite c a b, ρ, h => (evE C c ρ h).tr fun t h1 => if t then evE C a ρ h1 else evE C b ρ h1
  | .tup as, ρ, h => (evA C as ρ h).bind fun xs h1 => if xs.length ≤ sizeLine then .ok (.tup xs) h1 else .bad
  | .lst as, ρ, h => (evA C as ρ h).bind fun xs h1 => if xs.length ≤ sizeLine then alloc h1 (.lst xs) else .bad
  | .idx a b, ρ, h => (evE C a ρ h).bind fun x h1 => (evE C b ρ h1).bind fun y h2 => idxD h2 x y
  | .slc a lo hi, ρ, h => (evE C a ρ h).bind fun x h1 => (evO C lo ρ h1).bind fun l h2 => (evO C hi ρ h2).bind fun u h3 => slcD h3 x l u
  | .call f as, ρ, h => (evA C as ρ h).bind fun xs h1 => C.call f xs h1
  | .bi b as, ρ, h => (evA C as ρ h).bind fun xs h1 => biD h1 b xs
  | .isi a t, ρ, h => (evE C a ρ h).bind fun x h1 => rB (isiD h1 x t) h1
  | .meth m a as, ρ, h => (evE C a ρ h).bind fun x h1 => if recvOk h1 m x then (evA C as ρ h1).bind fun xs h2 => mtD h2 m x xs else .bad
  | .comp own tg it c e, ρ, h => (evI C it ρ h).bind fun p h1 =>
      (compL p.ok (fun x h2 => match bindTg h2 (wipeD ρ own) tg x with
        | some ρ1 => (evE C c ρ1 h2).nx.tr fun t h3 => if t then (evE C e ρ1 h3).nx.bind fun y h4 => .ok (some y) h4 else .ok none h3
        | none => .bad) p.its h1).bind fun ys h2 => if ys.length ≤ sizeLine then alloc h2 (.lst ys) else .bad
  | _, _, _ => .bad
def evA (C : Cf) : E → Env → Hh → Res (List D)
  | .nil, _, h => .ok [] h
  | .cons a as, ρ, h => (evE C a ρ h).bind fun x h1 => (evA C as ρ h1).bind fun xs h2 => .ok (x :: xs) h2
  | _, _, _ => .bad
def evO (C : Cf) : E → Env → Hh → Res (Option Int)
  | .nop, _, h => .ok none h
  | .opt a, ρ, h => (evE C a ρ h).bind fun x h1 => match x with
    | .int i => .ok (some i) h1
    | _ => .bad
  | _, _, _ => .bad
def evI (C : Cf) : E → Env → Hh → Res Plan
  | .seq a, ρ, h => (evE C a ρ h).bind fun x h1 => match items h1 x with
    | some xs => .ok ⟨xs, keepOf x xs⟩ h1
    | none => .bad
  | .rng1 a, ρ, h => (evE C a ρ h).bind fun x h1 => match x with
    | .int j => if sm62 j then .ok ⟨rangeL 0 j.toNat, []⟩ h1 else .bad
    | _ => .bad
  | .rng2 a b, ρ, h => (evE C a ρ h).bind fun x h1 => (evE C b ρ h1).bind fun y h2 => match x, y with
    | .int i, .int j => if sm62 i && sm62 j then .ok ⟨rangeL i (j - i).toNat, []⟩ h2 else .bad
    | _, _ => .bad
  | .enum a, ρ, h => (evE C a ρ h).bind fun x h1 => match items h1 x with
    | some xs => .ok ⟨enumL 0 xs, keepOf x xs⟩ h1
    | none => .bad
  | .zip a b, ρ, h => (evE C a ρ h).bind fun x h1 => (evE C b ρ h1).bind fun y h2 => match items h2 x, items h2 y with
    | some xs, some ys => .ok ⟨zipL xs ys, keepOf x xs ++ keepOf y ys⟩ h2
    | _, _ => .bad
  | _, _, _ => .bad
end

/-- an expression's result as a statement's -/
def Res.st (r : Res D) (ρ : Env) (k : D → Hh → SR) : SR := match r with
  | .ok d h => k d h
  | .exc c fs h => .exc c fs ρ h
  | .bad => .bad
def Res.stT (r : Res D) (ρ : Env) (k : Bool → Hh → SR) : SR := r.st ρ fun d h => match truth h d with
  | some b => k b h
  | none => .bad

def evS (C : Cf) : S → Env → Hh → SR
  | .skip, ρ, h => .next ρ h
  | .cat a b, ρ, h => match evS C a ρ h with
    | .next ρ1 h1 => evS C b ρ1 h1
    | r => r
  | .pass, ρ, h => .next ρ h
  | .ex e, ρ, h => (evE C e ρ h).st ρ fun _ h1 => .next ρ h1
  | .asg tg e, ρ, h => (evE C e ρ h).st ρ fun d h1 => match bindTg h1 ρ tg d with
    | some ρ1 => .next ρ1 h1
    | none => .bad
  | .set o i e, ρ, h => (evE C e ρ h).st ρ fun v h1 => (evE C o ρ h1).st ρ fun d h2 => (evE C i ρ h2).st ρ fun j h3 => match setD h3 d j v with
    | some h4 => .next ρ h4
    | none => .bad
  | .aug i o e, ρ, h => match ρ.getD i none with
    | some x => (evE C e ρ h).st ρ fun y h1 => match augD o x y with
      | some z => .next (ρ.set i (some z)) h1
      | none => .bad
    | none => .bad
  | .ret e, ρ, h => (evE C e ρ h).st ρ fun d h1 => .ret d h1
  | .retN, _, h => .ret .non h
  | .ifS c a b, ρ, h => (evE C c ρ h).stT ρ fun t h1 => if t then evS C a ρ h1 else evS C b ρ h1
  | .forS tg it b, ρ, h => match evI C it ρ h with
    | .ok p h1 => forL p.ok (fun x ρ1 h2 => match bindTg h2 ρ1 tg x with
        | some ρ2 => evS C b ρ2 h2
        | none => .bad) p.its ρ h1
    | .exc c fs h1 => .exc c fs ρ h1
    | .bad => .bad
  | .whl c b, ρ, h => whlL (fun ρ1 h1 => (evE C c ρ1 h1).tr fun t h2 => .ok t h2) (fun ρ1 h1 => evS C b ρ1 h1) C.fuel ρ h
  | .brk, ρ, h => .brk ρ h
  | .cnt, ρ, h => .cnt ρ h
  | .rse c as, ρ, h => match evA C as ρ h with
    | .ok xs h1 => .exc c xs ρ h1
    | .exc c fs h1 => .exc c fs ρ h1
    | .bad => .bad

  | .nev, _, _ => .bad

/-- a def: how many parameters, how many slots, its body -/
structure Fn where
  ps : Nat
  sl : Nat
  body : S

def fin (n : Nat) : SR → Res D
  | .next _ h => .ok .non (gc n .non h)
  | .ret d h => .ok d (gc n d h)
  | .exc c fs _ h => .exc c fs (if D.lts n fs && (h.take n).all (Ob.lt n) then h.take n else h)
  | _ => .bad

def runFn (C : Cf) (F : Fn) (xs : List D) (h : Hh) : Res D :=
  if xs.length = F.ps then fin h.length (evS C F.body (xs.map some ++ List.replicate (F.sl - F.ps) none) h) else .bad

/-- the program: its defs, its constants -/
structure Pg where
  fns : List Fn
  glob : List D
  fuel : Nat

def callN (P : Pg) : Nat → Nat → List D → Hh → Res D
  | 0, _, _, _ => .bad
  | k + 1, f, xs, h => match P.fns[f]? with
    | some F => runFn ⟨callN P k, P.glob, P.fuel⟩ F xs h
    | none => .bad
def Pg.cf (P : Pg) (k : Nat) : Cf := ⟨callN P k, P.glob, P.fuel⟩
end Ly

set_option Elab.async false
set_option linter.all false
set_option maxRecDepth 100000
set_option maxHeartbeats 4000000
set_option autoImplicit false
/-! LyT: a tuple taken once. -/
namespace Ly
open PySem PySem.Spec PyProof.Rows L2
theorem tuple_mul1 (l : Addr) (items : Array Value) (n : Nat) (sl : Array (Option Value)) (x : Int) (u : Tok) (c0 : (decide (x < -(2 ^ 63)) || decide (x ≥ 2 ^ 63)) = false) (c1 : (items.isEmpty || x == 1) = true) :
    Meets (Builtin.«tuple.__mul__» ⟨[.ref l, .int x u], []⟩) (fun _ R s => (∃ dd, s.heap.get? l = some { cls := .type "tuple", dict := dd, data := .seq items n, slots := sl }) ∧ R (.ok (.ret (.ref l))) s) :=
  .of_wp fun prog w A R s h => by
    obtain ⟨hp, g, d, tk, os⟩ := s
    obtain ⟨⟨dd, hl⟩, h⟩ := h
    have f1 := AutoSeq1.idx_int
    wp_walk using wpAny_loadPart' hl
    refine wpAny_ite_false (decide_eq_false (by rw [c0]; exact Bool.false_ne_true)) ?_
    wp_walk using wpAny_loadPart' hl
    exact ⟨_, rfl, h⟩
def rRepS (K : PySem.W.Frag) : R2 := fun x y H Q => ∃ l k xs, x = .ref l ∧ y = .int k ∧ SqT K H l xs ∧ -1000000 ≤ k ∧ k ≤ 1000000 ∧ (xs = [] ∨ k = 1) ∧ Q (.ref l) H
theorem op_repS {X : Cx} : OpR X (binaryOp .Mult) (rRepS X.K) := by
  intro pins s σ H x y v u Q I rx ry h
  obtain ⟨l, k, xs, rfl, rfl, hT, h1, h2, hz, q⟩ := h
  cases rx
  obtain ⟨t, rfl⟩ := ry
  obtain ⟨its, r, ⟨⟨cls, dd, data, sl⟩, ho, hc, n, hd⟩, hs⟩ := I.tuple hT
  simp only at hc hd
  subst hc hd
  have c0 : (decide (k < -(2 ^ 63)) || decide (k ≥ 2 ^ 63)) = false := by
    rw [decide_eq_false (by omega), decide_eq_false (by omega)] <;> rfl
  have c1 : (its.toArray.isEmpty || k == 1) = true := by
    rcases hz with rfl | rfl
    · cases r; rfl
    · rw [show ((1 : Int) == 1) = true from rfl, Bool.or_true]
  refine wpAny_binaryOp_repeat_ref (T := "tuple") (U := "int") (by decide) ⟨_, ho, rfl⟩ (fun s' => typeIs_int s' k t) noFill_tuple_mul F.fills_int_mul F.slot_int_rmul repeat_tuple F.slot_int_index.lookup
    (call_meets F.slot_int_rmul (typeIs_int s k t) F.entry_int_rmul (F.args_int_rmul_2 _ _) (int_rmul_tuple k t l its.toArray n dd sl)
      ⟨ho, rfl, ⟨_, ho, rfl⟩, call_meets F.slot_tuple_mul ⟨_, ho, rfl⟩ F.entry_tuple_mul (F.args_tuple_mul_2 _ _) (tuple_mul1 l its.toArray n sl k t c0 c1) ⟨⟨dd, ho⟩, ?_⟩⟩)
  exact ⟨.ref l, H, I, rfl, q⟩
end Ly

set_option Elab.async false
set_option linter.all false
set_option maxRecDepth 100000
set_option autoImplicit false
/-! Ly1: how the plain values stand in the abstract heap. -/
namespace Ly
open PySem L2

structure Tb where
  K : PySem.W.Frag
  fa : List Addr
  ca : List Addr

/-- a list of the written part -/
def KL (K : PySem.W.Frag) (a : Addr) (vs : List V) : Prop :=
  ∃ (o : Obj) (its : Array Value) (n : Nat), K.lookup a = some o ∧ o.cls = .type "list" ∧ o.dict = none ∧ o.data = .seq its n ∧ its.size ≤ sizeLine ∧ Vals vs its.toList

mutual
inductive Rep (T : Tb) (μ : List Addr) (H : Hp) : D → V → Prop
  | non : Rep T μ H .non .non
  | bl (b : Bool) : Rep T μ H (.bl b) (.bl b)
  | int (i : Int) : Rep T μ H (.int i) (.int i)
  | str (s : Str) : Rep T μ H (.str s) (.str s)
  | tup {a : Addr} {ds : List D} {vs : List V} : SqT T.K H a vs → Reps T μ H ds vs → Rep T μ H (.tup ds) (.ref a)
  | rol {a : Addr} {ds : List D} {vs : List V} : ((∃ o, H a = some (.frz o (.lst vs))) ∨ KL T.K a vs) → Reps T μ H ds vs → Rep T μ H (.rol ds) (.ref a)
  | ref {n : Nat} {a : Addr} : μ[n]? = some a → Rep T μ H (.ref n) (.ref a)
  | fn {i : Nat} {a : Addr} : T.fa[i]? = some a → Rep T μ H (.fn i) (.ref a)
inductive Reps (T : Tb) (μ : List Addr) (H : Hp) : List D → List V → Prop
  | nil : Reps T μ H [] []
  | cons {d : D} {v : V} {ds : List D} {vs : List V} : Rep T μ H d v → Reps T μ H ds vs → Reps T μ H (d :: ds) (v :: vs)
end

/-- what stays for values -/
structure Fw (μ : List Addr) (H : Hp) (μ' : List Addr) (H' : Hp) : Prop where
  pre : μ <+: μ'
  tup : ∀ a xs, H a = some (.tup xs) → H' a = some (.tup xs)
  frz : ∀ a o u, H a = some (.frz o u) → H' a = some (.frz o u)
/-- what may have changed between two moments: lists that are numbered, new things -/
structure Fr (μ : List Addr) (H : Hp) (μ' : List Addr) (H' : Hp) : Prop where
  pre : μ <+: μ'
  new : ∀ a ∈ μ', a ∈ μ ∨ H a = none
  keep : ∀ a o, H a = some o → a ∉ μ → H' a = some o
  tup : ∀ a xs, H a = some (.tup xs) → H' a = some (.tup xs)
  frz : ∀ a o u, H a = some (.frz o u) → H' a = some (.frz o u)

theorem Fr.refl (μ : List Addr) (H : Hp) : Fr μ H μ H := ⟨List.prefix_refl _, fun _ h => .inl h, fun _ _ h _ => h, fun _ _ h => h, fun _ _ _ h => h⟩
theorem Fr.trans {μ μ1 μ2 : List Addr} {H H1 H2 : Hp} (a : Fr μ H μ1 H1) (b : Fr μ1 H1 μ2 H2) : Fr μ H μ2 H2 := by
  have out : ∀ x o, H x = some o → x ∉ μ → x ∉ μ1 := fun x o hx hn hm => by
    rcases a.new x hm with h | h
    · exact hn h
    · rw [hx] at h; cases h
  refine ⟨a.pre.trans b.pre, fun x hx => ?_, fun x o hx hn => b.keep x o (a.keep x o hx hn) (out x o hx hn), fun x xs h => b.tup x xs (a.tup x xs h), fun x o u h => b.frz x o u (a.frz x o u h)⟩
  rcases b.new x hx with h | h
  · exact a.new x h
  · by_cases hm : x ∈ μ
    · exact .inl hm
    · refine .inr ?_
      cases q : H x with
      | none => rfl
      | some o => rw [a.keep x o q hm] at h; cases h

theorem Fr.w {μ μ' : List Addr} {H H' : Hp} (f : Fr μ H μ' H') : Fw μ H μ' H' := ⟨f.pre, f.tup, f.frz⟩
theorem Fw.sqT {K : PySem.W.Frag} {μ μ' : List Addr} {H H' : Hp} (f : Fw μ H μ' H') {a : Addr} {vs : List V} (h : SqT K H a vs) : SqT K H' a vs := by
  rcases h with (h | ⟨o, h⟩) | h
  · exact .inl (.inl (f.tup _ _ h))
  · exact .inl (.inr ⟨o, f.frz _ _ _ h⟩)
  · exact .inr h

theorem pre_get {μ μ' : List Addr} (p : μ <+: μ') {n : Nat} {a : Addr} (h : μ[n]? = some a) : μ'[n]? = some a := by
  obtain ⟨t, rfl⟩ := p
  rw [List.getElem?_append_left (List.getElem?_eq_some_iff.mp h).1]; exact h

mutual
theorem Rep.monoW {T : Tb} {μ μ' : List Addr} {H H' : Hp} (f : Fw μ H μ' H') : ∀ {d : D} {v : V}, Rep T μ H d v → Rep T μ' H' d v
  | _, _, .non => .non
  | _, _, .bl b => .bl b
  | _, _, .int i => .int i
  | _, _, .str s => .str s
  | _, _, .tup h r => .tup (f.sqT h) (Reps.monoW f r)
  | _, _, .rol h r => .rol (h.imp (fun ⟨o, q⟩ => ⟨o, f.frz _ _ _ q⟩) id) (Reps.monoW f r)
  | _, _, .ref h => .ref (pre_get f.pre h)
  | _, _, .fn h => .fn h
theorem Reps.monoW {T : Tb} {μ μ' : List Addr} {H H' : Hp} (f : Fw μ H μ' H') : ∀ {d : List D} {v : List V}, Reps T μ H d v → Reps T μ' H' d v
  | _, _, .nil => .nil
  | _, _, .cons a b => .cons (Rep.monoW f a) (Reps.monoW f b)
end

theorem Rep.mono {T : Tb} {μ μ' : List Addr} {H H' : Hp} (f : Fr μ H μ' H') {d : D} {v : V} (r : Rep T μ H d v) : Rep T μ' H' d v := r.monoW f.w
theorem Reps.mono {T : Tb} {μ μ' : List Addr} {H H' : Hp} (f : Fr μ H μ' H') {d : List D} {v : List V} (r : Reps T μ H d v) : Reps T μ' H' d v := r.monoW f.w

theorem Reps.length {T : Tb} {μ : List Addr} {H : Hp} : ∀ {d : List D} {v : List V}, Reps T μ H d v → d.length = v.length
  | _, _, .nil => rfl
  | _, _, .cons _ b => by simp [Reps.length b]
theorem Reps.get {T : Tb} {μ : List Addr} {H : Hp} : ∀ {ds : List D} {vs : List V} {n : Nat} {d : D}, Reps T μ H ds vs → ds[n]? = some d → ∃ v, vs[n]? = some v ∧ Rep T μ H d v
  | _, _, _, _, .nil, h => by simp at h
  | _, _, 0, _, .cons a _, h => by simp at h; subst h; exact ⟨_, rfl, a⟩
  | _, _, n + 1, _, .cons _ b, h => by
    obtain ⟨v, h1, h2⟩ := Reps.get (n := n) b (by simpa using h)
    exact ⟨v, by simpa using h1, h2⟩
theorem Reps.append {T : Tb} {μ : List Addr} {H : Hp} : ∀ {ds es : List D} {vs ws : List V}, Reps T μ H ds vs → Reps T μ H es ws → Reps T μ H (ds ++ es) (vs ++ ws)
  | _, _, _, _, .nil, s => s
  | _, _, _, _, .cons r t, s => .cons r (Reps.append t s)
theorem Reps.set {T : Tb} {μ : List Addr} {H : Hp} {d : D} {v : V} (r : Rep T μ H d v) : ∀ {ds : List D} {vs : List V} (n : Nat), Reps T μ H ds vs → Reps T μ H (ds.set n d) (vs.set n v)
  | _, _, _, .nil => .nil
  | _, _, 0, .cons _ t => .cons r t
  | _, _, n + 1, .cons q t => .cons q (Reps.set r n t)
theorem Reps.take {T : Tb} {μ : List Addr} {H : Hp} : ∀ {ds : List D} {vs : List V} (n : Nat), Reps T μ H ds vs → Reps T μ H (ds.take n) (vs.take n)
  | _, _, 0, _ => .nil
  | _, _, _ + 1, .nil => .nil
  | _, _, n + 1, .cons r t => .cons r (Reps.take n t)
theorem Reps.drop {T : Tb} {μ : List Addr} {H : Hp} : ∀ {ds : List D} {vs : List V} (n : Nat), Reps T μ H ds vs → Reps T μ H (ds.drop n) (vs.drop n)
  | _, _, 0, r => r
  | _, _, _ + 1, .nil => .nil
  | _, _, n + 1, .cons _ t => Reps.drop n t
theorem Reps.dropLast {T : Tb} {μ : List Addr} {H : Hp} {ds : List D} {vs : List V} (r : Reps T μ H ds vs) : Reps T μ H ds.dropLast vs.dropLast := by
  rw [List.dropLast_eq_take, List.dropLast_eq_take, r.length]
  exact r.take _
theorem Reps.rep {T : Tb} {μ : List Addr} {H : Hp} {ds : List D} {vs : List V} (r : Reps T μ H ds vs) : ∀ k : Nat, Reps T μ H (List.replicate k ds).flatten (List.replicate k vs).flatten
  | 0 => .nil
  | k + 1 => by
    rw [List.replicate_succ, List.replicate_succ, List.flatten_cons, List.flatten_cons]
    exact r.append (Reps.rep r k)

/-! ### the heap -/
def ObR (T : Tb) (μ : List Addr) (H : Hp) (a : Addr) : Ob → Prop
  | .lst ds => ∃ vs, H a = some (.lst vs) ∧ Reps T μ H ds vs
structure HR (T : Tb) (μ : List Addr) (h : Hh) (H : Hp) : Prop where
  len : μ.length = h.length
  nd : μ.Nodup
  ob : ∀ (n : Nat) (o : Ob), h[n]? = some o → ∃ a, μ[n]? = some a ∧ ObR T μ H a o

theorem ObR.mono {T : Tb} {μ μ' : List Addr} {H H' : Hp} {a : Addr} {o : Ob} (f : Fw μ H μ' H') (e : H' a = H a) (r : ObR T μ H a o) : ObR T μ' H' a o := by
  cases o with
  | lst ds => obtain ⟨vs, h, q⟩ := r; exact ⟨vs, by rw [e]; exact h, q.monoW f⟩

section
variable {T : Tb} {μ : List Addr} {h : Hh} {H : Hp}
theorem HR.at (r : HR T μ h H) {a : Addr} (ha : a ∈ μ) : ∃ vs, H a = some (.lst vs) := by
  obtain ⟨n, hn, rfl⟩ := List.mem_iff_getElem.mp ha
  have hl : n < h.length := by rw [← r.len]; exact hn
  obtain ⟨b, hb, q⟩ := r.ob n h[n] (by simp [hl])
  rw [List.getElem?_eq_getElem hn] at hb
  cases hb
  cases e : h[n] with
  | lst ds => rw [e] at q; obtain ⟨vs, z, _⟩ := q; exact ⟨vs, z⟩
theorem HR.fresh (r : HR T μ h H) {p : Addr} (hp : H p = none) : p ∉ μ := fun hm => by
  obtain ⟨vs, e⟩ := r.at hm
  rw [hp] at e; cases e
theorem HR.frame (r : HR T μ h H) {μ' : List Addr} {H' : Hp} (pre : μ <+: μ') (new : ∀ a ∈ μ', a ∈ μ ∨ H a = none) (keep : ∀ a o, H a = some o → a ∉ μ → H' a = some o) : Fr μ H μ' H' :=
  ⟨pre, new, keep, fun a xs e => keep a _ e fun hm => (by obtain ⟨vs, z⟩ := r.at hm; rw [e] at z; cases z),
    fun a o u e => keep a _ e fun hm => (by obtain ⟨vs, z⟩ := r.at hm; rw [e] at z; cases z)⟩
/-- a new thing that is not numbered -/
theorem HR.frNew (r : HR T μ h H) {p : Addr} {o : HO} (hp : H p = none) : Fr μ H μ (upd H p o) :=
  r.frame (List.prefix_refl _) (fun _ z => .inl z) fun a u e _ => by rw [upd_ne (ne_of_none e hp)]; exact e
theorem HR.new (r : HR T μ h H) {p : Addr} {o : HO} (hp : H p = none) : HR T μ h (upd H p o) := by
  refine ⟨r.len, r.nd, fun n ob e => ?_⟩
  obtain ⟨a, ha, q⟩ := r.ob n ob e
  refine ⟨a, ha, q.mono (r.frNew hp).w ?_⟩
  have : a ≠ p := fun z => r.fresh hp (z ▸ List.mem_of_getElem? ha)
  exact upd_ne this
/-- a new list -/
theorem HR.frAlloc (r : HR T μ h H) {p : Addr} {o : HO} (hp : H p = none) : Fr μ H (μ ++ [p]) (upd H p o) :=
  r.frame ⟨[p], rfl⟩ (fun a z => by
    rcases List.mem_append.mp z with z | z
    · exact .inl z
    · simp at z; subst z; exact .inr hp) fun a u e _ => by rw [upd_ne (ne_of_none e hp)]; exact e
theorem HR.alloc (r : HR T μ h H) {p : Addr} {ds : List D} {vs : List V} (hp : H p = none) (q : Reps T μ H ds vs) : HR T (μ ++ [p]) (h ++ [.lst ds]) (upd H p (.lst vs)) := by
  refine ⟨by simp [r.len], ?_, fun n ob e => ?_⟩
  · rw [List.nodup_append]
    refine ⟨r.nd, by simp, fun a ha b hb => ?_⟩
    simp at hb; subst hb
    exact fun z => r.fresh hp (z ▸ ha)
  · by_cases hn : n < h.length
    · rw [List.getElem?_append_left hn] at e
      obtain ⟨a, ha, z⟩ := r.ob n ob e
      refine ⟨a, by rw [List.getElem?_append_left (by rw [r.len]; exact hn)]; exact ha, z.mono (r.frAlloc hp).w ?_⟩
      exact upd_ne fun z => r.fresh hp (z ▸ List.mem_of_getElem? ha)
    · have en : n = h.length := by
        have := (List.getElem?_eq_some_iff.mp e).1
        simp at this; omega
      subst en
      simp at e
      subst e
      refine ⟨p, by rw [← r.len]; simp, vs, upd_same, q.mono (r.frAlloc hp)⟩
/-- a list is written -/
theorem HR.frSet (r : HR T μ h H) {p : Addr} {o : HO} (hp : p ∈ μ) : Fr μ H μ (upd H p o) :=
  r.frame (List.prefix_refl _) (fun _ z => .inl z) fun a u e hn => by rw [upd_ne (fun (z : a = p) => hn (by rw [z]; exact hp))]; exact e
theorem HR.set (r : HR T μ h H) {p : Addr} {n : Nat} {ds : List D} {vs : List V} (hp : μ[n]? = some p) (q : Reps T μ H ds vs) : HR T μ (h.set n (.lst ds)) (upd H p (.lst vs)) := by
  have hm := List.mem_of_getElem? hp
  refine ⟨by simp [r.len], r.nd, fun m ob e => ?_⟩
  by_cases hmn : n = m
  · subst hmn
    have hl : n < h.length := by rw [← r.len]; exact (List.getElem?_eq_some_iff.mp hp).1
    rw [List.getElem?_set_self hl] at e
    cases e
    exact ⟨p, hp, vs, upd_same, q.mono (r.frSet hm)⟩
  · rw [List.getElem?_set_ne hmn] at e
    obtain ⟨a, ha, z⟩ := r.ob m ob e
    refine ⟨a, ha, z.mono (r.frSet hm).w (upd_ne ?_)⟩
    intro z2
    subst z2
    exact hmn (nodup_get r.nd hp ha)
where
  nodup_get {l : List Addr} (hN : l.Nodup) {i j : Nat} {x : Addr} (a : l[i]? = some x) (b : l[j]? = some x) : i = j := by
    obtain ⟨h1, e1⟩ := List.getElem?_eq_some_iff.mp a
    obtain ⟨h2, e2⟩ := List.getElem?_eq_some_iff.mp b
    exact (List.getElem_inj hN).mp (e1.trans e2.symm)
/-- a list that stands already gets a number -/
theorem HR.adopt (r : HR T μ h H) {p : Addr} {ds : List D} {vs : List V} (hp : H p = some (.lst vs)) (hn : p ∉ μ) (q : Reps T μ H ds vs) : HR T (μ ++ [p]) (h ++ [.lst ds]) H := by
  have fw : Fw μ H (μ ++ [p]) H := ⟨⟨[p], rfl⟩, fun _ _ e => e, fun _ _ _ e => e⟩
  refine ⟨by simp [r.len], ?_, fun n ob e => ?_⟩
  · rw [List.nodup_append]
    refine ⟨r.nd, by simp, fun a ha b hb => ?_⟩
    simp at hb; subst hb
    exact fun z => hn (z ▸ ha)
  · by_cases hl : n < h.length
    · rw [List.getElem?_append_left hl] at e
      obtain ⟨a, ha, z⟩ := r.ob n ob e
      exact ⟨a, by rw [List.getElem?_append_left (by rw [r.len]; exact hl)]; exact ha, z.mono fw rfl⟩
    · have en : n = h.length := by
        have := (List.getElem?_eq_some_iff.mp e).1
        simp at this; omega
      subst en
      simp at e
      subst e
      exact ⟨p, by rw [← r.len]; simp, vs, hp, q.monoW fw⟩
/-- a list without a number is written -/
theorem fw_upd {p : Addr} {xs : List V} {o : HO} (hp : H p = some (.lst xs)) : Fw μ H μ (upd H p o) :=
  ⟨List.prefix_refl _, fun a ys e => by rw [upd_ne (ne_of e hp (by intro z; cases z))]; exact e, fun a u ys e => by rw [upd_ne (ne_of e hp (by intro z; cases z))]; exact e⟩
theorem HR.other (r : HR T μ h H) {p : Addr} {xs : List V} {o : HO} (hp : H p = some (.lst xs)) (hn : p ∉ μ) : HR T μ h (upd H p o) :=
  ⟨r.len, r.nd, fun n ob e => by
    obtain ⟨a, ha, z⟩ := r.ob n ob e
    exact ⟨a, ha, z.mono (fw_upd hp) (upd_ne fun q => hn (by rw [← q]; exact List.mem_of_getElem? ha))⟩⟩
/-- a numbered list, read -/
theorem HR.lst (r : HR T μ h H) {n : Nat} {a : Addr} {ds : List D} (hl : lstAt h n = some ds) (ha : μ[n]? = some a) : ∃ vs, H a = some (.lst vs) ∧ Reps T μ H ds vs := by
  unfold lstAt at hl
  split at hl
  · rename_i xs e
    cases hl
    obtain ⟨b, hb, vs, z, q⟩ := r.ob n _ e
    rw [ha] at hb; cases hb
    exact ⟨vs, z, q⟩
  · cases hl
/-- a sequence, read -/
theorem HR.seq (r : HR T μ h H) {d : D} {v : V} {ds : List D} (hi : items h d = some ds) (hv : Rep T μ H d v) : ∃ a vs, v = .ref a ∧ Reps T μ H ds vs ∧ (SqL T.K H a vs ∨ SqT T.K H a vs) := by
  cases hv with
  | tup s q => simp [items] at hi; subst hi; exact ⟨_, _, rfl, q, .inr s⟩
  | rol s q =>
    simp [items] at hi; subst hi
    refine ⟨_, _, rfl, q, .inl ?_⟩
    rcases s with ⟨o, s⟩ | s
    · exact .inl (.inr ⟨o, s⟩)
    · exact .inr s
  | ref s =>
    obtain ⟨vs, e, q⟩ := r.lst (by simpa [items] using hi) s
    exact ⟨_, vs, rfl, q, .inl (SqL.of e)⟩
  | _ => simp [items] at hi
end

/-! ### slots -/
def EnvR (T : Tb) (μ : List Addr) (H : Hp) (ρ : Env) (σ : St) : Prop :=
  ρ.length = σ.length ∧ ∀ (i : Nat) (d : D), ρ[i]? = some (some d) → ∃ v, σ[i]? = some (some v) ∧ Rep T μ H d v
theorem EnvR.mono {T : Tb} {μ μ' : List Addr} {H H' : Hp} {ρ : Env} {σ : St} (f : Fr μ H μ' H') (e : EnvR T μ H ρ σ) : EnvR T μ' H' ρ σ :=
  ⟨e.1, fun i d h => let ⟨v, a, b⟩ := e.2 i d h; ⟨v, a, b.mono f⟩⟩
theorem EnvR.set {T : Tb} {μ : List Addr} {H : Hp} {ρ : Env} {σ : St} (e : EnvR T μ H ρ σ) (i : Nat) {d : D} {v : V} (r : Rep T μ H d v) : EnvR T μ H (ρ.set i (some d)) (σ.set i (some v)) := by
  refine ⟨by simp [e.1], fun j c h => ?_⟩
  by_cases hij : i = j
  · subst hij
    have hl : i < ρ.length := by have := (List.getElem?_eq_some_iff.mp h).1; simpa using this
    rw [List.getElem?_set_self hl] at h
    cases h
    exact ⟨v, List.getElem?_set_self (by rw [← e.1]; exact hl), r⟩
  · rw [List.getElem?_set_ne hij] at h
    obtain ⟨w, a, b⟩ := e.2 j c h
    exact ⟨w, by rw [List.getElem?_set_ne hij]; exact a, b⟩
theorem EnvR.wipe {T : Tb} {μ : List Addr} {H : Hp} {ρ : Env} {σ : St} (e : EnvR T μ H ρ σ) : ∀ vs : List Nat, EnvR T μ H (wipeD ρ vs) (L2.wipe σ vs)
  | [] => e
  | i :: vs => by
    have ih := EnvR.wipe e vs
    unfold wipeD L2.wipe
    refine ⟨by simp [ih.1], fun j c h => ?_⟩
    by_cases hij : i = j
    · subst hij
      by_cases hl : i < (wipeD ρ vs).length
      · rw [List.getElem?_set_self hl] at h; cases h
      · rw [List.getElem?_eq_none (by simpa using hl)] at h; cases h
    · rw [List.getElem?_set_ne hij] at h
      obtain ⟨w, a, b⟩ := ih.2 j c h
      exact ⟨w, by rw [List.getElem?_set_ne hij]; exact a, b⟩
theorem EnvR.get {T : Tb} {μ : List Addr} {H : Hp} {ρ : Env} {σ : St} (e : EnvR T μ H ρ σ) {i : Nat} {d : D} (h : ρ.getD i none = some d) : ∃ v, σ[i]? = some (some v) ∧ Rep T μ H d v := by
  refine e.2 i d ?_
  rw [List.getD_eq_getElem?_getD] at h
  cases q : ρ[i]? with
  | none => rw [q] at h; cases h
  | some x => rw [q] at h; simp at h; rw [h]

/-! ### what is wanted behind a result -/
/-- an exception: its class, its values in its own dict -/
def ExcR (T : Tb) (μ : List Addr) (H : Hp) (c : Nat) (fs : List D) (cls : Value) (d : Option Addr) : Prop :=
  ∃ C, T.ca[c]? = some C ∧ cls = .ref C ∧ fs = [] ∧ d = none

def Post {α β : Type} (T : Tb) (R : List Addr → Hp → α → β → Prop) (μ : List Addr) (H : Hp) (W : XK) (r : Res α) (Q : β → Hp → Prop) : Prop :=
  match r with
  | .ok a h' => ∀ μ' H' b, HR T μ' h' H' → Fr μ H μ' H' → R μ' H' a b → Q b H'
  | .exc c fs h' => ∀ μ' H' cls d, HR T μ' h' H' → Fr μ H μ' H' → ExcR T μ' H' c fs cls d → W cls d H'
  | .bad => False

theorem Post.from {α β : Type} {T : Tb} {R : List Addr → Hp → α → β → Prop} {μ μ1 : List Addr} {H H1 : Hp} {W : XK} {r : Res α} {Q : β → Hp → Prop} (f : Fr μ H μ1 H1) (p : Post T R μ H W r Q) : Post T R μ1 H1 W r Q := by
  cases r with
  | ok a h => exact fun μ' H' b hr fr x => p μ' H' b hr (f.trans fr) x
  | exc c fs h => exact fun μ' H' cls d hr fr x => p μ' H' cls d hr (f.trans fr) x
  | bad => exact p
theorem Post.bind {α β γ δ : Type} {T : Tb} {R : List Addr → Hp → α → β → Prop} {R' : List Addr → Hp → γ → δ → Prop} {μ : List Addr} {H : Hp} {W : XK} {r : Res α} {k : α → Hh → Res γ} {Q' : δ → Hp → Prop} {Q : β → Hp → Prop}
    (p : Post T R' μ H W (r.bind k) Q') (f : ∀ a h1 μ1 H1 b, HR T μ1 h1 H1 → Fr μ H μ1 H1 → R μ1 H1 a b → Post T R' μ1 H1 W (k a h1) Q' → Q b H1) : Post T R μ H W r Q := by
  cases r with
  | ok a h => exact fun μ1 H1 b hr fr x => f a h μ1 H1 b hr fr x (Post.from fr p)
  | exc c fs h => exact p
  | bad => exact p
theorem Post.imp {α β : Type} {T : Tb} {R : List Addr → Hp → α → β → Prop} {μ : List Addr} {H : Hp} {W : XK} {r : Res α} {Q Q' : β → Hp → Prop} (p : Post T R μ H W r Q') (f : ∀ a h1 μ1 H1 b, HR T μ1 h1 H1 → Fr μ H μ1 H1 → R μ1 H1 a b → Q' b H1 → Q b H1) : Post T R μ H W r Q := by
  cases r with
  | ok a h => exact fun μ1 H1 b hr fr x => f a h μ1 H1 b hr fr x (p μ1 H1 b hr fr x)
  | exc c fs h => exact p
  | bad => exact p

def te (T : Tb) (C : Cf) (W : WX) (e : E) : TE := fun σ H Q => ∃ μ h ρ, HR T μ h H ∧ EnvR T μ H ρ σ ∧ Post T (Rep T) μ H (WE W σ) (evE C e ρ h) Q
def ta (T : Tb) (C : Cf) (W : WX) (e : E) : TA := fun σ H Q => ∃ μ h ρ, HR T μ h H ∧ EnvR T μ H ρ σ ∧ Post T (Reps T) μ H (WE W σ) (evA C e ρ h) Q
def to (T : Tb) (C : Cf) (W : WX) (e : E) : TO := fun σ H Q => ∃ μ h ρ, HR T μ h H ∧ EnvR T μ H ρ σ ∧ Post T (fun _ _ (a b : Option Int) => a = b) μ H (WE W σ) (evO C e ρ h) Q
/-- a test -/
def tt (T : Tb) (C : Cf) (W : WX) (e : E) : TT := fun σ H Q => ∃ μ h ρ, HR T μ h H ∧ EnvR T μ H ρ σ ∧ Post T (fun _ _ (a b : Bool) => a = b) μ H (WE W σ) ((evE C e ρ h).tr fun b h1 => .ok b h1) Q
end Ly

set_option Elab.async false
set_option linter.all false
set_option maxRecDepth 100000
set_option autoImplicit false
/-! Ly2: the operations on values, by the rules of the layer. -/
namespace Ly
open PySem L2
section
variable {T : Tb} {μ : List Addr} {h : Hh} {H : Hp} {W : XK} {Q : VK}

/-- the value itself, the heap as it is -/
theorem Post.here {d : D} {v : V} (p : Post T (Rep T) μ H W (.ok d h) Q) (r : HR T μ h H) (q : Rep T μ H d v) : Q v H := p μ H v r (Fr.refl _ _) q
/-- a new list -/
theorem Post.alloc {ds : List D} {vs : List V} (p : Post T (Rep T) μ H W (Ly.alloc h (.lst ds)) Q) (r : HR T μ h H) (q : Reps T μ H ds vs) {a : Addr} (ha : H a = none) : Q (.ref a) (upd H a (.lst vs)) :=
  p (μ ++ [a]) _ _ (r.alloc ha q) (r.frAlloc ha) (.ref (by rw [← r.len]; simp))
/-- a new tuple -/
theorem Post.tup {ds : List D} {vs : List V} (p : Post T (Rep T) μ H W (.ok (.tup ds) h) Q) (r : HR T μ h H) (q : Reps T μ H ds vs) {a : Addr} (ha : H a = none) : Q (.ref a) (upd H a (.tup vs)) :=
  p μ _ _ (r.new ha) (r.frNew ha) (.tup (SqT.of upd_same) (q.mono (r.frNew ha)))

theorem truth_ok {d : D} {v : V} {k : Bool} (r : HR T μ h H) (q : Rep T μ H d v) (e : truth h d = some k) : TruV T.K v H k := by
  have emp : ∀ {ds : List D} {vs : List V}, Reps T μ H ds vs → (!ds.isEmpty) = !vs.isEmpty := fun z => by cases z <;> rfl
  cases q with
  | non => simp only [truth, Option.some.injEq] at e; exact e.symm
  | bl b => simp only [truth, Option.some.injEq] at e; exact e.symm
  | int i => simp only [truth, Option.some.injEq] at e; exact e.symm
  | str s =>
    simp only [truth] at e
    split at e
    · rename_i hs
      simp only [Option.some.injEq] at e
      refine ⟨hs, ?_⟩
      rw [← e]
      cases z : s.length with
      | zero => rfl
      | succ n => rw [Bool.eq_iff_iff]; simp; omega
    · cases e
  | tup s q => simp only [truth, Option.some.injEq] at e; exact .inr (.inl ⟨_, s, by rw [← e]; exact emp q⟩)
  | rol s q =>
    simp only [truth, Option.some.injEq] at e
    refine .inl ⟨_, ?_, by rw [← e]; exact emp q⟩
    rcases s with ⟨o, s⟩ | s
    · exact .inl (.inr ⟨o, s⟩)
    · exact .inr s
  | ref s =>
    simp only [truth, Option.map_eq_some_iff] at e
    obtain ⟨xs, e1, e2⟩ := e
    obtain ⟨vs, z, q⟩ := r.lst e1 s
    exact .inl ⟨vs, SqL.of z, by rw [← e2]; exact emp q⟩
  | fn s => simp [truth] at e

/-! ### two operands -/
def BOp.op : BOp → Operator
  | .add => .Add | .sub => .Sub | .mul => .Mult | .fdiv => .FloorDiv | .mod => .Mod | .pow => .Pow | .shl => .LShift | .shr => .RShift | .band => .BitAnd | .bor => .BitOr
def rAddStr : R2 := fun x y H Q => ∃ i j, x = .str i ∧ y = .str j ∧ i.length + j.length ≤ sizeLine ∧ Q (.str (i ++ j)) H
def rBin (K : PySem.W.Frag) : BOp → R2
  | .add => fun x y H Q => rI0 (fun i j => .int (i + j)) x y H Q ∨ (rAddStr x y H Q ∨ (rCatA K x y H Q ∨ rCat x y H Q))
  | .sub => rI0 fun i j => .int (i - j)
  | .mul => fun x y H Q => L2.rI CMul (fun i j => .int (i * j)) x y H Q ∨ (L2.rI CMulW (fun i j => .int (i * j)) x y H Q ∨ (rRep x y H Q ∨ (rRepT K x y H Q ∨ rRepS K x y H Q)))
  | .fdiv => L2.rI CDivW fun i j => .int (i / j)
  | .mod => L2.rI (fun _ j => 0 < j) fun i j => .int (i % j)
  | .pow => L2.rI CPow fun i j => .int (i ^ j.toNat)
  | .shl => L2.rI CPow fun i j => .int (i * 2 ^ j.toNat)
  | .shr => L2.rI (fun _ j => 0 ≤ j) fun i j => .int (i / 2 ^ j.toNat)
  | .band => rI0 fun i j => .int (Builtin.bitAnd i j)
  | .bor => rI0 fun i j => .int (Builtin.bitOr i j)
theorem bin_rule {X : Cx} : ∀ o : BOp, OpR X (binaryOp o.op) (rBin X.K o)
  | .add => OpR.or op_add (OpR.or op_add_str (OpR.or op_catA op_cat))
  | .sub => op_sub
  | .mul => OpR.or op_mul (OpR.or op_mulW (OpR.or op_rep (OpR.or op_repT op_repS)))
  | .fdiv => op_fdivW
  | .mod => op_mod
  | .pow => op_pow
  | .shl => op_shl
  | .shr => op_shr
  | .band => op_and
  | .bor => op_or
theorem rI_of {c : Bool} {z : Int} (p : Post T (Rep T) μ H W (Ly.rI c z h) Q) (r : HR T μ h H) : c = true ∧ Q (.int z) H := by
  unfold Ly.rI at p
  cases c with
  | true => exact ⟨rfl, p.here r (.int z)⟩
  | false => exact p.elim
theorem mulOk_of {i j : Int} (e : mulOk i j = true) : CMul i j ∨ CMulW i j := by
  unfold mulOk at e
  simp only [Bool.or_eq_true, decide_eq_true_eq] at e
  rcases e with (e | e) | e
  · exact .inl (.inl (sm64_of e))
  · exact .inl (.inr (sm64_of e))
  · exact .inr e
theorem powOk_of {i j : Int} (e : powOk i j = true) : CPow i j := by
  unfold powOk at e
  simp only [Bool.and_eq_true, decide_eq_true_eq] at e
  have h1 := Nat.le_of_ble_eq_true e.1.2
  have h2 := sm64_of e.2
  exact ⟨e.1.1, by omega, by omega⟩
theorem bin_ok {o : BOp} {d e : D} {x y : V} (r : HR T μ h H) (q1 : Rep T μ H d x) (q2 : Rep T μ H e y) (p : Post T (Rep T) μ H W (binD h o d e) Q) : rBin T.K o x y H Q := by
  cases q1 with
  | int i =>
    cases q2 with
    | int j =>
      cases o with
      | add => exact .inl ⟨i, j, rfl, rfl, p.here r (.int _)⟩
      | sub => exact ⟨i, j, rfl, rfl, p.here r (.int _)⟩
      | mul =>
        obtain ⟨c, q⟩ := rI_of p r
        rcases mulOk_of c with z | z
        · exact .inl ⟨i, j, rfl, rfl, z, q⟩
        · exact .inr (.inl ⟨i, j, rfl, rfl, z, q⟩)
      | fdiv =>
        obtain ⟨c, q⟩ := rI_of p r
        unfold divOk at c
        simp only [Bool.and_eq_true, decide_eq_true_eq] at c
        exact ⟨i, j, rfl, rfl, c, q⟩
      | mod => obtain ⟨c, q⟩ := rI_of p r; exact ⟨i, j, rfl, rfl, of_decide_eq_true c, q⟩
      | pow => obtain ⟨c, q⟩ := rI_of p r; exact ⟨i, j, rfl, rfl, powOk_of c, q⟩
      | shl => obtain ⟨c, q⟩ := rI_of p r; exact ⟨i, j, rfl, rfl, powOk_of c, q⟩
      | shr => obtain ⟨c, q⟩ := rI_of p r; exact ⟨i, j, rfl, rfl, of_decide_eq_true c, q⟩
      | band => exact ⟨i, j, rfl, rfl, p.here r (.int _)⟩
      | bor => exact ⟨i, j, rfl, rfl, p.here r (.int _)⟩
    | _ => cases o <;> exact p.elim
  | str s =>
    cases q2 with
    | str t =>
      cases o with
      | add =>
        simp only [binD] at p
        split at p
        · rename_i hl; exact .inr (.inl ⟨s, t, rfl, rfl, hl, p.here r (.str _)⟩)
        · exact p.elim
      | _ => exact p.elim
    | _ => cases o <;> exact p.elim
  | tup s1 z1 =>
    cases q2 with
    | tup s2 z2 =>
      cases o with
      | add =>
        simp only [binD] at p
        split at p
        · rename_i hl
          refine .inr (.inr (.inl ⟨_, _, _, _, rfl, rfl, s1, s2, by rw [← z1.length, ← z2.length]; exact hl, ?_⟩))
          refine ⟨fun e => ?_, fun _ e => ?_, fun _ _ a ha => p.tup r (z1.append z2) ha⟩
          · subst e
            cases z1
            exact p.here r (.tup s2 z2)
          · subst e
            cases z2
            rw [List.append_nil] at p
            exact p.here r (.tup s1 z1)
        · exact p.elim
      | _ => exact p.elim
    | int k =>
      cases o with
      | mul =>
        simp only [binD] at p
        split at p
        · rename_i hl
          unfold repOk at hl
          simp only [Bool.and_eq_true] at hl
          have k1 := Nat.le_of_ble_eq_true hl.1.1
          have k2 := Nat.le_of_ble_eq_true hl.1.2
          have k3 := Nat.le_of_ble_eq_true hl.2
          rename_i a ds vs
          by_cases hk : k = 1
          · subst hk
            have e1 : (List.replicate (1 : Int).toNat ds).flatten = ds := by simp
            rw [e1] at p
            exact .inr (.inr (.inr (.inr ⟨_, 1, _, rfl, rfl, s1, by omega, by omega, .inr rfl, p.here r (.tup s1 z1)⟩)))
          · by_cases hv : vs = []
            · subst hv
              cases z1
              have e1 : (List.replicate k.toNat ([] : List D)).flatten = [] := by simp
              rw [e1] at p
              exact .inr (.inr (.inr (.inr ⟨_, k, _, rfl, rfl, s1, by omega, by omega, .inl rfl, p.here r (.tup s1 .nil)⟩)))
            · exact .inr (.inr (.inr (.inl ⟨_, k, _, rfl, rfl, s1, hv, by omega, by omega, by rw [← z1.length]; exact k3, fun a ha => p.tup r (z1.rep _) ha⟩)))
        · exact p.elim
      | _ => exact p.elim
    | _ => cases o <;> exact p.elim
  | ref s1 =>
    cases q2 with
    | ref s2 =>
      cases o with
      | add =>
        simp only [binD] at p
        split at p
        · rename_i xs ys e1 e2
          split at p
          · rename_i hl
            obtain ⟨vs, w1, z1⟩ := r.lst e1 s1
            obtain ⟨ws, w2, z2⟩ := r.lst e2 s2
            exact .inr (.inr (.inr ⟨_, _, _, _, rfl, rfl, w1, w2, by rw [← z1.length, ← z2.length]; exact hl, fun a ha => p.alloc r (z1.append z2) ha⟩))
          · exact p.elim
        · exact p.elim
      | _ => exact p.elim
    | int k =>
      cases o with
      | mul =>
        simp only [binD] at p
        split at p
        · rename_i xs e1
          split at p
          · rename_i hl
            obtain ⟨vs, w1, z1⟩ := r.lst e1 s1
            simp only [Bool.and_eq_true] at hl
            have h62 := sm62_of hl.1
            exact .inr (.inr (.inl ⟨_, k, _, rfl, rfl, w1, by omega, by omega, by rw [← z1.length]; exact Nat.le_of_ble_eq_true hl.2, fun a ha => p.alloc r (z1.rep _) ha⟩))
          · exact p.elim
        · exact p.elim
      | _ => exact p.elim
    | _ => cases o <;> exact p.elim
  | _ => cases q2 <;> cases o <;> exact p.elim

/-! ### comparisons -/
mutual
theorem toP_dp (r : HR T μ h H) : ∀ (n : Nat) (d : D) (v : V) (p : PyData), Rep T μ H d v → toP h n d = some p → Dp T.K H v p
  | n, _, _, p, .non, e => by
    cases n <;> (simp only [toP, Option.some.injEq] at e; subst e; exact .non)
  | n, _, _, p, .bl b, e => by
    cases n <;> (simp only [toP, Option.some.injEq] at e; subst e; exact .bl b)
  | n, _, _, p, .int b, e => by
    cases n <;> (simp only [toP, Option.some.injEq] at e; subst e; exact .int b)
  | n, _, _, p, .str b, e => by
    cases n <;> (simp only [toP, Option.some.injEq] at e; subst e; exact .str b)
  | 0, _, _, p, .tup s q, e => by simp [toP] at e
  | 0, _, _, p, .rol s q, e => by simp [toP] at e
  | 0, _, _, p, .ref s, e => by simp [toP] at e
  | 0, _, _, p, .fn s, e => by simp [toP] at e
  | n + 1, _, _, p, .fn s, e => by simp [toP] at e
  | n + 1, _, _, p, .tup s q, e => by
    simp only [toP, Option.map_eq_some_iff] at e
    obtain ⟨ps, e1, rfl⟩ := e
    exact .tup s (toPs_dp r n _ _ ps q e1)
  | n + 1, _, _, p, .rol s q, e => by
    simp only [toP, Option.map_eq_some_iff] at e
    obtain ⟨ps, e1, rfl⟩ := e
    refine .lst ?_ (toPs_dp r n _ _ ps q e1)
    rcases s with ⟨o, s⟩ | s
    · exact .inl (.inr ⟨o, s⟩)
    · exact .inr s
  | n + 1, _, _, p, .ref s, e => by
    simp only [toP] at e
    split at e
    · rename_i xs hx
      simp only [Option.map_eq_some_iff] at e
      obtain ⟨ps, e1, rfl⟩ := e
      obtain ⟨vs, z, q⟩ := r.lst hx s
      exact .lst (SqL.of z) (toPs_dp r n _ _ ps q e1)
    · cases e
termination_by n d => (n, 0)
theorem toPs_dp (r : HR T μ h H) : ∀ (n : Nat) (ds : List D) (vs : List V) (ps : List PyData), Reps T μ H ds vs → toPs h n ds = some ps → DpAll T.K H vs ps
  | n, [], _, ps, .nil, e => by
    simp only [toPs, Option.some.injEq] at e; subst e; exact .nil
  | n, d :: ds, _, ps, .cons a b, e => by
    simp only [toPs] at e
    split at e
    · rename_i x xs e1 e2
      simp only [Option.some.injEq] at e
      subst e
      exact .cons (toP_dp r n d _ x a e1) (toPs_dp r n ds _ xs b e2)
    · cases e
termination_by n ds => (n, ds.length + 1)
end

def COp.op : COp → CmpOp
  | .eq => .Eq | .ne => .NotEq | .lt => .Lt | .le => .LtE | .gt => .Gt | .ge => .GtE | .isin => .In | .notin => .NotIn
def rCmp (K : PySem.W.Frag) : COp → R2
  | .eq => fun x y H Q => rEq x y H Q ∨ rEqD K x y H Q
  | .ne => fun x y H Q => rNe x y H Q ∨ rNeD K x y H Q
  | .lt => rI0 fun i j => .bl (decide (i < j))
  | .le => rI0 fun i j => .bl (decide (i ≤ j))
  | .gt => rI0 fun i j => .bl (decide (j < i))
  | .ge => rI0 fun i j => .bl (decide (j ≤ i))
  | .isin => rIn K false
  | .notin => rIn K true
theorem cmp_rule {X : Cx} (hu : X.A.units + 64 < cLine) : ∀ o : COp, OpR X (compareOp o.op) (rCmp X.K o)
  | .eq => OpR.or op_eq (op_eqD hu)
  | .ne => OpR.or op_ne (op_neD hu)
  | .lt => op_lt
  | .le => op_le
  | .gt => op_gt
  | .ge => op_ge
  | .isin => op_in_seq
  | .notin => op_notIn_seq
theorem rB_of {o : Option Bool} (p : Post T (Rep T) μ H W (rB o h) Q) (r : HR T μ h H) : ∃ b, o = some b ∧ Q (.bl b) H := by
  cases o with
  | some b => exact ⟨b, rfl, p.here r (.bl b)⟩
  | none => exact p.elim
theorem eq_ok {d e : D} {x y : V} {b : Bool} (r : HR T μ h H) (q1 : Rep T μ H d x) (q2 : Rep T μ H e y) (eb : eqD h d e = some b) : (scal x y = true ∧ decide (x = y) = b) ∨ ∃ p q, Dp T.K H x p ∧ Dp T.K H y q ∧ SeqAt.shaped p = true ∧ SeqAt.shaped q = true ∧ PyData.eqv p q = b := by
  have gen : (match toP h 64 d, toP h 64 e with
    | some p, some q => if SeqAt.shaped p && SeqAt.shaped q then some (PyData.eqv p q) else none
    | _, _ => none) = some b → ∃ p q, Dp T.K H x p ∧ Dp T.K H y q ∧ SeqAt.shaped p = true ∧ SeqAt.shaped q = true ∧ PyData.eqv p q = b := fun z => by
    split at z
    · rename_i p q e1 e2
      split at z
      · rename_i hs
        simp only [Bool.and_eq_true] at hs
        exact ⟨p, q, toP_dp r _ _ _ _ q1 e1, toP_dp r _ _ _ _ q2 e2, hs.1, hs.2, Option.some.inj z⟩
      · cases z
    · cases z
  unfold eqD at eb
  split at eb
  · cases q1; cases q2; refine .inl ⟨rfl, ?_⟩; rw [← Option.some.inj eb, dec_int, Bool.beq_eq_decide_eq]
  · cases q1; cases q2; refine .inl ⟨rfl, ?_⟩; rw [← Option.some.inj eb, dec_str, Bool.beq_eq_decide_eq]
  · cases q1; cases q2; refine .inl ⟨rfl, ?_⟩; rw [← Option.some.inj eb, dec_bl, Bool.beq_eq_decide_eq]
  · cases q1; cases q2; exact .inl ⟨rfl, by rw [← Option.some.inj eb]; rfl⟩
  · exact .inr (gen eb)
theorem cmp_ok {o : COp} {d e : D} {x y : V} (r : HR T μ h H) (q1 : Rep T μ H d x) (q2 : Rep T μ H e y) (p : Post T (Rep T) μ H W (cmpD h o d e) Q) : rCmp T.K o x y H Q := by
  cases o with
  | eq =>
    obtain ⟨b, eb, q⟩ := rB_of p r
    rcases eq_ok r q1 q2 eb with ⟨s, z⟩ | ⟨p1, p2, a1, a2, a3, a4, z⟩
    · exact .inl ⟨s, by rw [z]; exact q⟩
    · exact .inr ⟨p1, p2, a1, a2, a3, a4, by rw [z]; exact q⟩
  | ne =>
    obtain ⟨b, eb, q⟩ := rB_of p r
    simp only [Option.map_eq_some_iff] at eb
    obtain ⟨c, ec, rfl⟩ := eb
    rcases eq_ok r q1 q2 ec with ⟨s, z⟩ | ⟨p1, p2, a1, a2, a3, a4, z⟩
    · exact .inl ⟨s, by rw [z]; exact q⟩
    · exact .inr ⟨p1, p2, a1, a2, a3, a4, by rw [z]; exact q⟩
  | lt => cases q1 with
    | int i => cases q2 with
      | int j => exact ⟨i, j, rfl, rfl, p.here r (.bl _)⟩
      | _ => exact p.elim
    | _ => exact p.elim
  | le => cases q1 with
    | int i => cases q2 with
      | int j => exact ⟨i, j, rfl, rfl, p.here r (.bl _)⟩
      | _ => exact p.elim
    | _ => exact p.elim
  | gt => cases q1 with
    | int i => cases q2 with
      | int j => exact ⟨i, j, rfl, rfl, p.here r (.bl _)⟩
      | _ => exact p.elim
    | _ => exact p.elim
  | ge => cases q1 with
    | int i => cases q2 with
      | int j => exact ⟨i, j, rfl, rfl, p.here r (.bl _)⟩
      | _ => exact p.elim
    | _ => exact p.elim
  | isin => exact p.elim
  | notin => exact p.elim

/-! ### items, slices -/
theorem atI_ok {ds : List D} {vs : List V} {i : Int} {d : D} (q : Reps T μ H ds vs) (e : atI ds i = some d) : ∃ v, atI vs i = some v ∧ Rep T μ H d v := by
  unfold atI at e ⊢
  rw [← q.length]
  cases z : ixN ds.length i with
  | none => rw [z] at e; cases e
  | some j =>
    rw [z] at e
    exact q.get e
theorem idx_ok {d e : D} {x y : V} (r : HR T μ h H) (q1 : Rep T μ H d x) (q2 : Rep T μ H e y) (p : Post T (Rep T) μ H W (idxD h d e) Q) : rIx T.K x y H Q := by
  unfold idxD at p
  split at p
  · rename_i xs i ei
    split at p
    · rename_i v ev
      obtain ⟨a, vs, rfl, qs, s⟩ := r.seq ei q1
      obtain ⟨w, ew, qw⟩ := atI_ok qs ev
      cases q2
      rcases s with s | s
      · exact .inl ⟨_, _, i, w, rfl, rfl, s, ew, p.here r qw⟩
      · exact .inr (.inl ⟨_, _, i, w, rfl, rfl, s, ew, p.here r qw⟩)
    · exact p.elim
  · exact p.elim
theorem cut_ok {ds : List D} {vs : List V} (q : Reps T μ H ds vs) (lo hi : Option Int) : Reps T μ H (cut ds lo hi) (cutV vs lo hi) := by
  unfold cut cutV
  rw [q.length]
  exact (q.drop _).take _
theorem cut_whole {α : Type} (xs : List α) (lo hi : Option Int) (h : HT.sIx xs.length 0 lo = 0 ∧ HT.sIx xs.length xs.length hi = xs.length) : cut xs lo hi = xs := by
  unfold cut
  rw [h.1, h.2]
  simp
def rSl (K : PySem.W.Frag) : V → Option Int → Option Int → Hp → VK → Prop := fun x lo hi H Q => rSlA K x lo hi H Q ∨ rSlL K x lo hi H Q
theorem sl_rule {X : Cx} : SlR X (rSl X.K) := sl_tupA.or sl_list
theorem slc_ok {d : D} {x : V} {lo hi : Option Int} (r : HR T μ h H) (q1 : Rep T μ H d x) (p : Post T (Rep T) μ H W (slcD h d lo hi) Q) : rSl T.K x lo hi H Q := by
  cases q1 with
  | tup s q =>
    refine .inl ⟨_, _, rfl, s, fun hw => ?_, fun _ a ha => Post.tup p r (cut_ok q lo hi) ha⟩
    simp only [slcD] at p
    rw [cut_whole _ _ _ (by rw [q.length]; exact hw)] at p
    exact p.here r (.tup s q)
  | rol s q =>
    refine .inr ⟨_, _, rfl, ?_, fun a ha => Post.alloc p r (cut_ok q lo hi) ha⟩
    rcases s with ⟨o, s⟩ | s
    · exact .inl (.inr ⟨o, s⟩)
    · exact .inr s
  | ref s =>
    simp only [slcD] at p
    split at p
    · rename_i xs e
      obtain ⟨vs, z, q⟩ := r.lst e s
      exact .inr ⟨_, _, rfl, SqL.of z, fun a ha => Post.alloc p r (cut_ok q lo hi) ha⟩
    · exact p.elim
  | _ => exact p.elim

/-! ### isinstance -/
def Ty.nm : Ty → String
  | .int => "int" | .bool => "bool" | .str => "str" | .tuple => "tuple" | .list => "list" | .dict => "dict"
theorem isi_ok {d : D} {x : V} {t : Ty} {b : Bool} (r : HR T μ h H) (q1 : Rep T μ H d x) (e : isiD h d t = some b) : ∃ tv, TyX T.K H x tv ∧ PySem.W.kitOne T.K tv (.type t.nm) = some b := by
  cases q1 with
  | non => refine ⟨_, .base .non, ?_⟩; cases t <;> (simp only [isiD, Option.some.injEq] at e; subst e; exact kit_ty (by decide +kernel))
  | bl y => refine ⟨_, .base (.bl y), ?_⟩; cases t <;> (simp only [isiD, Option.some.injEq] at e; subst e; exact kit_ty (by decide +kernel))
  | int y => refine ⟨_, .base (.int y), ?_⟩; cases t <;> (simp only [isiD, Option.some.injEq] at e; subst e; exact kit_ty (by decide +kernel))
  | str y => refine ⟨_, .base (.str y), ?_⟩; cases t <;> (simp only [isiD, Option.some.injEq] at e; subst e; exact kit_ty (by decide +kernel))
  | @tup a0 _ _ s q =>
    have tt : TyX T.K H (.ref a0) (.type "tuple") := by
      rcases s with (s | ⟨o, s⟩) | ⟨o, its, n, h1, h2, _⟩
      · exact .base (.tup s)
      · exact .fTuple s
      · exact .kTuple h1 h2
    refine ⟨_, tt, ?_⟩
    cases t <;> (simp only [isiD, Option.some.injEq] at e; subst e; exact kit_ty (by decide +kernel))
  | @rol a0 _ _ s q =>
    have tt : TyX T.K H (.ref a0) (.type "list") := by
      rcases s with ⟨o, s⟩ | ⟨o, its, n, h1, h2, _⟩
      · exact .base (.frz s)
      · exact .kList h1 h2
    refine ⟨_, tt, ?_⟩
    cases t <;> (simp only [isiD, Option.some.injEq] at e; subst e; exact kit_ty (by decide +kernel))
  | ref s =>
    simp only [isiD, Option.map_eq_some_iff] at e
    obtain ⟨xs, ex, rfl⟩ := e
    obtain ⟨vs, z, q⟩ := r.lst ex s
    refine ⟨_, .base (.lst z), ?_⟩
    cases t <;> exact kit_ty (by decide +kernel)
  | fn s => simp [isiD] at e

/-! ### built-ins -/
def BI.nm : BI → Str
  | .len => "len" | .abs => "abs" | .int => "int" | .min => "min" | .max => "max" | .sum => "sum" | .all => "all" | .any => "any" | .list => "list" | .tuple => "tuple" | .sorted => "sorted" | .str => "str" | .repr => "repr"
def rNo : List V → Hp → VK → Prop := fun _ _ _ => False
def rBI (K : PySem.W.Frag) : BI → List V → Hp → VK → Prop
  | .len => fun xs H Q => ∃ p ys, xs = [.ref p] ∧ (SqL K H p ys ∨ SqT K H p ys) ∧ Q (.int ys.length) H
  | .abs => fun xs H Q => ∃ i, xs = [.int i] ∧ Q (.int (if i < 0 then -i else i)) H
  | .int => fun xs H Q => (∃ i, xs = [.int i] ∧ Q (.int i) H) ∨ ∃ k, xs = [.bl k] ∧ Q (.int (if k then 1 else 0)) H
  | .min => fun xs H Q => ∃ i j, xs = [.int i, .int j] ∧ Q (.int (if j < i then j else i)) H
  | .max => fun xs H Q => ∃ i j, xs = [.int i, .int j] ∧ Q (.int (if j > i then j else i)) H
  | .list => fun xs H Q => ∃ p ys, xs = [.ref p] ∧ (SqL K H p ys ∨ SqT K H p ys) ∧ ∀ l, H l = none → Q (.ref l) (upd H l (.lst ys))
  | .tuple => fun xs H Q => ∃ p ys, xs = [.ref p] ∧ ((SqL K H p ys ∧ ∀ l, H l = none → Q (.ref l) (upd H l (.tup ys))) ∨ (SqT K H p ys ∧ Q (.ref p) H))
  | _ => rNo
theorem no_rule {X : Cx} {f : Value} : CallR X f rNo := fun _ _ _ _ _ _ _ _ _ h => h.elim
theorem bi_ok {b : BI} {ds : List D} {vs : List V} (r : HR T μ h H) (q : Reps T μ H ds vs) (p : Post T (Rep T) μ H W (biD h b ds) Q) : rBI T.K b vs H Q := by
  have one : ∀ {d : D} {vs : List V}, Reps T μ H [d] vs → ∃ v, vs = [v] ∧ Rep T μ H d v := fun z => by
    cases z with
    | cons a b => cases b; exact ⟨_, rfl, a⟩
  have two : ∀ {d e : D} {vs : List V}, Reps T μ H [d, e] vs → ∃ v w, vs = [v, w] ∧ Rep T μ H d v ∧ Rep T μ H e w := fun z => by
    cases z with
    | cons a b =>
      obtain ⟨w, rfl, c⟩ := one b
      exact ⟨_, _, rfl, a, c⟩
  unfold biD at p
  split at p
  · split at p
    · rename_i e
      obtain ⟨v, rfl, q1⟩ := one q
      obtain ⟨a, ws, rfl, qs, s⟩ := r.seq e q1
      rw [qs.length] at p
      exact ⟨a, ws, rfl, s, p.here r (.int _)⟩
    · exact p.elim
  · obtain ⟨v, rfl, q1⟩ := one q
    cases q1
    exact ⟨_, rfl, p.here r (.int _)⟩
  · obtain ⟨v, rfl, q1⟩ := one q
    cases q1
    exact .inl ⟨_, rfl, p.here r (.int _)⟩
  · obtain ⟨v, rfl, q1⟩ := one q
    cases q1
    exact .inr ⟨_, rfl, p.here r (.int _)⟩
  · obtain ⟨v, w, rfl, q1, q2⟩ := two q
    cases q1; cases q2
    exact ⟨_, _, rfl, p.here r (.int _)⟩
  · obtain ⟨v, w, rfl, q1, q2⟩ := two q
    cases q1; cases q2
    exact ⟨_, _, rfl, p.here r (.int _)⟩
  · split at p
    · rename_i e
      obtain ⟨v, rfl, q1⟩ := one q
      obtain ⟨a, ws, rfl, qs, s⟩ := r.seq e q1
      exact ⟨a, ws, rfl, s, fun l hl => p.alloc r qs hl⟩
    · exact p.elim
  · split at p
    · rename_i d xs e
      obtain ⟨v, rfl, q1⟩ := one q
      cases q1 with
      | tup s q0 => simp [items] at e; subst e; exact ⟨_, _, rfl, .inr ⟨s, p.here r (.tup s q0)⟩⟩
      | rol s q0 =>
        simp [items] at e; subst e
        refine ⟨_, _, rfl, .inl ⟨?_, fun l hl => p.tup r q0 hl⟩⟩
        rcases s with ⟨o, s⟩ | s
        · exact .inl (.inr ⟨o, s⟩)
        · exact .inr s
      | ref s =>
        obtain ⟨ws, z, q⟩ := r.lst (by simpa [items] using e) s
        exact ⟨_, _, rfl, .inl ⟨SqL.of z, fun l hl => p.tup r q hl⟩⟩
      | _ => simp [items] at e
    · exact p.elim
  · exact p.elim

/-! ### methods, stores -/
theorem Post.write {d : D} {v : V} {n : Nat} {a : Addr} {ds : List D} {vs : List V} (p : Post T (Rep T) μ H W (.ok d (h.set n (.lst ds))) Q) (r : HR T μ h H) (ha : μ[n]? = some a) (q : Reps T μ H ds vs) (qd : Rep T μ H d v) : Q v (upd H a (.lst vs)) :=
  p μ _ v (r.set ha q) (r.frSet (List.mem_of_getElem? ha)) (qd.mono (r.frSet (List.mem_of_getElem? ha)))
def Mt.nm : Mt → Str
  | .append => "append" | .extend => "extend" | .pop => "pop"
def rMt : Mt → V → List V → Hp → VK → Prop
  | .append => rAppend
  | .extend => rExtend
  | .pop => rPop
theorem mt_ok {m : Mt} {d : D} {x : V} {ds : List D} {vs : List V} (r : HR T μ h H) (q1 : Rep T μ H d x) (q : Reps T μ H ds vs) (p : Post T (Rep T) μ H W (mtD h m d ds) Q) : rMt m x vs H Q := by
  unfold mtD at p
  split at p
  · split at p
    · rename_i e
      split at p
      · rename_i hl
        cases q1 with
        | ref s =>
          obtain ⟨ws, z, qs⟩ := r.lst e s
          cases q with
          | cons a b =>
            cases b
            exact ⟨_, _, _, rfl, rfl, z, by rw [← qs.length]; exact hl, p.write r s (qs.append (.cons a .nil)) .non⟩
      · exact p.elim
    · exact p.elim
  · split at p
    · rename_i e1 e2
      split at p
      · rename_i hl
        cases q1 with
        | ref s =>
          obtain ⟨ws, z, qs⟩ := r.lst e1 s
          cases q with
          | cons a b =>
            cases b
            cases a with
            | ref s2 =>
              obtain ⟨us, z2, qs2⟩ := r.lst e2 s2
              exact ⟨_, _, _, _, rfl, rfl, z, z2, by rw [← qs.length, ← qs2.length]; exact hl, p.write r s (qs.append qs2) .non⟩
      · exact p.elim
    · exact p.elim
  · split at p
    · rename_i e
      split at p
      · rename_i ey
        cases q1 with
        | ref s =>
          obtain ⟨ws, z, qs⟩ := r.lst e s
          obtain ⟨w, ew, qw⟩ := qs.get ey
          cases q
          exact ⟨_, _, w, rfl, rfl, z, by rw [← qs.length]; exact ew, p.write r s qs.dropLast qw⟩
      · exact p.elim
    · exact p.elim
  · exact p.elim
def Mt.ty : Mt → String
  | _ => "list"
theorem recv_ok {m : Mt} {d : D} {x : V} (r : HR T μ h H) (q1 : Rep T μ H d x) (e : recvOk h m d = true) : tyV T.K m.ty x H := by
  cases q1 with
  | ref s =>
    obtain ⟨vs, z⟩ := r.at (List.mem_of_getElem? s)
    exact .inl ⟨rfl, vs, SqL.of z⟩
  | _ => simp [recvOk] at e
theorem set_ok {d e f : D} {x y z : V} {h' : Hh} {QQ : Hp → Prop} (r : HR T μ h H) (q1 : Rep T μ H d x) (q2 : Rep T μ H e y) (q3 : Rep T μ H f z) (p : setD h d e f = some h')
    (hq : ∀ H', HR T μ h' H' → Fr μ H μ H' → QQ H') : rSetL x y z H QQ := by
  unfold setD at p
  split at p
  · rename_i n k
    split at p
    · rename_i xs ex
      split at p
      · rename_i j ej
        cases p
        cases q1 with
        | ref s =>
          cases q2
          obtain ⟨vs, w, qs⟩ := r.lst ex s
          exact ⟨_, vs, k, j, rfl, rfl, w, by rw [← qs.length]; exact ej, hq _ (r.set s (qs.set q3 j)) (r.frSet (List.mem_of_getElem? s))⟩
      · cases p
    · cases p
  · cases p
end
end Ly

set_option Elab.async false
set_option linter.all false
set_option maxRecDepth 100000
set_option autoImplicit false
/-! Ly3: which text a term of the language stands for. -/
namespace Ly
open PySem L2

structure Nm where
  N : List Str
  fn : List Str
  gn : List Str

def visB (sc : Scope) (x : Str) : Bool := match sc.names.lookup x with
  | some .local => true | some .cell => true | some .free => true | _ => false
def locB (sc : Scope) (x : Str) : Bool := match sc.names.lookup x with
  | some .local => true | some .cell => true | _ => false
def glB (sc : Scope) (x : Str) : Bool := match sc.names.lookup x with
  | some .globalImplicit => true | _ => false
def okN (x : Str) : Bool := !(x == ("__debug__" : Str)) && !(x == ("__classdict__" : Str)) && !(x == ("__name__" : Str))
theorem vis_of {sc : Scope} {x : Str} (h : visB sc x = true) : Vis sc x := by
  unfold visB at h
  split at h <;> first | exact .inl (by assumption) | exact .inr (.inl (by assumption)) | exact .inr (.inr (by assumption)) | cases h
theorem loc_of {sc : Scope} {x : Str} (h : locB sc x = true) : Loc sc x := by
  unfold locB at h
  split at h <;> first | exact .inl (by assumption) | exact .inr (by assumption) | cases h
theorem gl_of {sc : Scope} {x : Str} (h : glB sc x = true) : sc.names.lookup x = some .globalImplicit := by
  unfold glB at h
  split at h <;> first | assumption | cases h

def bopB : BOp → Operator → Bool
  | .add, .Add | .sub, .Sub | .mul, .Mult | .fdiv, .FloorDiv | .mod, .Mod | .pow, .Pow | .shl, .LShift | .shr, .RShift | .band, .BitAnd | .bor, .BitOr => true
  | _, _ => false
theorem bopB_of {o : BOp} {p : Operator} (h : bopB o p = true) : p = o.op := by cases o <;> cases p <;> first | rfl | cases h
def copB : COp → CmpOp → Bool
  | .eq, .Eq | .ne, .NotEq | .lt, .Lt | .le, .LtE | .gt, .Gt | .ge, .GtE | .isin, .In | .notin, .NotIn => true
  | _, _ => false
theorem copB_of {o : COp} {p : CmpOp} (h : copB o p = true) : p = o.op := by cases o <;> cases p <;> first | rfl | cases h

def augB : BOp → Operator → Bool
  | .add, .Add => true
  | .sub, .Sub => true
  | _, _ => false
/-- not a star -/
def nst : Expr → Bool
  | .Starred .. => false
  | _ => true
/-- not a slice -/
def nsl : Expr → Bool
  | .Slice .. => false
  | _ => true
/-- not a set -/
def nset : Expr → Bool
  | .Set .. => false
  | _ => true
/-- not a comprehension -/
def ncomp : Expr → Bool
  | .ListComp .. => false
  | .SetComp .. => false
  | .DictComp .. => false
  | _ => true
/-- may be a test -/
def tst : Expr → Bool
  | .IfExp .. => false
  | _ => true
def ncall : Expr → Bool
  | .Call (.Name x _) [] [] _ => !(x == ("super" : Str))
  | _ => true

def ownN (B : Nm) : List Nat → List (Str × Nat)
  | [] => []
  | i :: r => match B.N[i]? with
    | some x => (x, i) :: ownN B r
    | none => ownN B r
def mtNames (B : Nm) (sc : Scope) : List Nat → List Expr → Bool
  | [], [] => true
  | i :: is, .Name x _ :: es => decide (B.N[i]? = some x) && locB sc x && mtNames B sc is es
  | _, _ => false
def mtTg (B : Nm) (sc : Scope) : Tg → Expr → Bool
  | .name i, .Name x _ => decide (B.N[i]? = some x) && locB sc x
  | .tup is, .Tuple es _ _ => mtNames B sc is es
  | _, _ => false
def Tg.slots : Tg → List Nat
  | .name i => [i]
  | .tup is => is

def isTr : E → Bool
  | .bl true => true
  | _ => false
theorem isTr_of {c : E} (h : isTr c = true) : c = .bl true := by
  unfold isTr at h
  split at h
  · rfl
  · cases h
mutual
def mtE (B : Nm) : E → Scope → Expr → Bool
  | .nev, _, _ => true
  | .var i, sc, z => match z with
    | .Name x _ => decide (B.N[i]? = some x) && visB sc x && okN x
    | _ => false
  | .int i, _, z => match z with
    | .Constant (.int j) _ _ => decide (i = j)
    | _ => false
  | .bl i, _, z => match z with
    | .Constant (.bool j) _ _ => decide (i = j)
    | _ => false
  | .non, _, z => match z with
    | .Constant .none _ _ => true
    | _ => false
  | .str i, _, z => match z with
    | .Constant (.str j) _ _ => decide (i = j)
    | _ => false
  | .glob g, sc, z => match z with
    | .Name x _ => decide (B.gn[g]? = some x) && glB sc x && okN x
    | _ => false
  | .bin o a b, sc, z => match z with
    | .BinOp l p r _ => bopB o p && mtE B a sc l && mtE B b sc r
    | _ => false
  | .neg a, sc, z => match z with
    | .UnaryOp .USub x _ => mtE B a sc x
    | _ => false
  | .not a, sc, z => match z with
    | .UnaryOp .Not x _ => mtE B a sc x && tst x
    | _ => false
  | .cmp o a b, sc, z => match z with
    | .Compare l [p] [r] _ => copB o p && !behindInMarks p r && mtE B a sc l && mtE B b sc r
    | _ => false
  | .cmp2 o q a b c, sc, z => match z with
    | .Compare l [p, p'] [r, r'] _ => copB o p && copB q p' && !lastMarks [p, p'] [r, r'] && mtE B a sc l && mtE B b sc r && mtE B c sc r'
    | _ => false
  | .isN a, sc, z => match z with
    | .Compare l [.Is] [.Constant .none _ _] _ => mtE B a sc l
    | _ => false
  | .isNN a, sc, z => match z with
    | .Compare l [.IsNot] [.Constant .none _ _] _ => mtE B a sc l
    | _ => false
  | .and a b, sc, z => match z with
    | .BoolOp .And (x :: y :: r) p => mtE B a sc x && tst x && mtE B b sc (.BoolOp .And (y :: r) p)
    | _ => false
  | .or a b, sc, z => match z with
    | .BoolOp .Or (x :: y :: r) p => mtE B a sc x && tst x && mtE B b sc (.BoolOp .Or (y :: r) p)
    | _ => false
  | .one a, sc, z => match z with
    | .BoolOp _ [x] _ => mtE B a sc x && tst x
    | _ => false
  | .ite c a b, sc, z => match z with
    | .IfExp t x y _ => mtE B c sc t && tst t && mtE B a sc x && mtE B b sc y
    | _ => false
  | .tup as, sc, z => match z with
    | .Tuple es _ _ => mtA B as sc es
    | _ => false
  | .lst as, sc, z => match z with
    | .List es _ => mtA B as sc es
    | _ => false
  | .idx a b, sc, z => match z with
    | .Subscript o i _ => mtE B a sc o && mtE B b sc i && nsl i
    | _ => false
  | .slc a lo hi, sc, z => match z with
    | .Subscript o (.Slice l u none _) _ => mtE B a sc o && mtO B lo sc l && mtO B hi sc u
    | _ => false
  | .call f as, sc, z => match z with
    | .Call (.Name x _) (e :: es) [] _ => decide (B.fn[f]? = some x) && glB sc x && okN x && mtA B as sc (e :: es)
    | _ => false
  | .bi b as, sc, z => match z with
    | .Call (.Name x _) (e :: es) [] _ => decide (x = b.nm) && glB sc b.nm && mtA B as sc (e :: es)
    | _ => false
  | .isi a t, sc, z => match z with
    | .Call (.Name x _) [e, .Name y _] [] _ => decide (x = "isinstance") && decide (y = Str.ofString t.nm) && glB sc "isinstance" && glB sc (Str.ofString t.nm) && nst e && mtE B a sc e
    | _ => false
  | .meth m a as, sc, z => match z with
    | .Call (.Attribute o n p) es [] q => decide (n = m.nm) && (p.endLine == q.line) && ncall o && decide (es.length < 30) && mtE B a sc o && mtA B as sc es
    | _ => false
  | .comp own tg it c e, sc, z => match z with
    | .ListComp elt [⟨t, i, ifs, z⟩] scope _ => decide (z = 0) && decide ((ownN B own).map (·.2) = own) && blkC B.N sc scope (ownN B own) && tg.slots.all own.contains && nset i && mtI B it sc t i && mtTg B scope tg t && mtE B e (relS scope sc) elt &&
      (match ifs with
        | [] => isTr c
        | [x] => mtE B c (relS scope sc) x && tst x
        | _ => false)
    | _ => false
  | _, _, _ => false
def mtA (B : Nm) : E → Scope → List Expr → Bool
  | .nil, _, z => match z with
    | [] => true
    | _ => false
  | .cons a as, sc, z => match z with
    | e :: es => nst e && mtE B a sc e && mtA B as sc es
    | _ => false
  | _, _, _ => false
def mtO (B : Nm) : E → Scope → Option Expr → Bool
  | .nop, _, z => match z with
    | none => true
    | _ => false
  | .opt a, sc, z => match z with
    | some e => mtE B a sc e
    | _ => false
  | _, _, _ => false
def mtI (B : Nm) : E → Scope → Expr → Expr → Bool
  | .seq a, sc, _, e => mtE B a sc e
  | .rng1 a, sc, _, z => match z with
    | .Call (.Name x _) [e] [] _ => decide (x = "range") && glB sc "range" && nst e && mtE B a sc e
    | _ => false
  | .rng2 a b, sc, _, z => match z with
    | .Call (.Name x _) [e, f] [] _ => decide (x = "range") && glB sc "range" && nst e && nst f && mtE B a sc e && mtE B b sc f
    | _ => false
  | .enum a, sc, t, z => match t, z with
    | .Tuple _ _ _, .Call (.Name x _) [e] [] _ => decide (x = "enumerate") && glB sc "enumerate" && nst e && mtE B a sc e
    | _, _ => false
  | .zip a b, sc, t, z => match t, z with
    | .Tuple _ _ _, .Call (.Name x _) [e, f] [] _ => decide (x = "zip") && glB sc "zip" && nst e && nst f && mtE B a sc e && mtE B b sc f
    | _, _ => false
  | _, _, _, _ => false
end

/-- a name and a comprehension on one line -/
def swB (sc : Scope) (y : Str) (py : Pos) : Expr → Bool
  | .ListComp _ _ scope pos => decide (sc.names.lookup y = some .local) && (py.line == pos.line) && !(scope.names.any fun (n, k) => n == y && (k == .local || k == .cell))
  | _ => false
def lcB : Expr → Bool
  | .ListComp .. => true
  | _ => false
def ntup : Expr → Bool
  | .Tuple .. => false
  | _ => true

mutual
def mt1 (B : Nm) (sc : Scope) : S → Stmt → Bool
  | .nev, _ => true
  | .pass, z => match z with
    | .Pass _ => true
    | .Expr (.Constant (.str _) _ _) _ => true
    | _ => false
  | .ex e, z => match z with
    | .Expr x _ => mtE B e sc x && ncomp x
    | _ => false
  | .asg tg e, z => match z with
    | .Assign [.Name y py] x _ => (match tg with
      | .name i => decide (B.N[i]? = some y) && locB sc y && mtE B e sc x && (ncomp x || lcB x)
      | _ => false)
    | .Assign [.Tuple es k p] x _ => (match tg with
      | .tup is => mtNames B sc is es && mtE B e sc x && ncomp x && ntup x
      | _ => false)
    | _ => false
  | .set o i e, z => match z with
    | .Assign [.Subscript a b _] x _ => mtE B o sc a && mtE B i sc b && nsl b && mtE B e sc x
    | _ => false
  | .aug i o e, z => match z with
    | .AugAssign (.Name x _) p v _ => decide (B.N[i]? = some x) && locB sc x && augB o p && mtE B e sc v
    | _ => false
  | .ret e, z => match z with
    | .Return (some x) _ => mtE B e sc x
    | _ => false
  | .retN, z => match z with
    | .Return none _ => true
    | _ => false
  | .ifS c a b, z => match z with
    | .If t x y _ => mtE B c sc t && tst t && mtS B sc a x && mtS B sc b y
    | _ => false
  | .forS tg it b, z => match z with
    | .For t i body [] _ => mtTg B sc tg t && mtI B it sc t i && nset i && mtS B sc b body
    | _ => false
  | .whl c b, z => match z with
    | .While t body [] _ => mtE B c sc t && tst t && mtS B sc b body
    | _ => false
  | .brk, z => match z with
    | .Break _ => true
    | _ => false
  | .cnt, z => match z with
    | .Continue _ => true
    | _ => false
  | _, _ => false
def mtS (B : Nm) (sc : Scope) : S → List Stmt → Bool
  | .skip, z => match z with
    | [] => true
    | _ => false
  | .cat a b, z => match z with
    | st :: r => mt1 B sc a st && mtS B sc b r
    | _ => false
  | _, _ => false
end
end Ly

set_option Elab.async false
set_option linter.all false
set_option maxRecDepth 100000
set_option autoImplicit false
/-! Ly4: what the interpreter tells of an expression, the model does. -/
namespace Ly
open PySem L2

/-- the built-in names that must stand as they are -/
def biNames : List Str := ["len", "abs", "int", "min", "max", "sum", "all", "any", "list", "tuple", "sorted", "str", "repr", "isinstance", "bool", "dict", "range", "enumerate", "zip", "reversed", "set"]

def spF (T : Tb) (C : Cf) (f : Nat) : Sp := fun vs H Q E => ∃ μ h ds, HR T μ h H ∧ Reps T μ H ds vs ∧ Post T (Rep T) μ H E (C.call f ds h) Q

structure XOk (T : Tb) (B : Nm) (C : Cf) (k : Nat) (W : WX) (sc : Scope) (X : Cx) : Prop where
  n : X.N = B.N
  nd : B.N.Nodup
  s : X.env.scope = sc
  kd : sc.kind = .function
  calm : X.calm = true
  K : X.K = T.K
  tk : Takes X W
  room : Room k X.A
  bi : ∀ x, x ∈ biNames → X.mg x = none
  gl : ∀ (g : Nat) (x : Str), B.gn[g]? = some x → ∃ d u v, C.glob[g]? = some d ∧ X.mg x = some u ∧ RelV v u ∧ ∀ μ H, Rep T μ H d v
  call : ∀ (f : Nat) (x : Str), B.fn[f]? = some x → ∃ a fd ps, X.mg x = some (.ref a) ∧ PySem.W.keepIn X.K (.ref a) = true ∧ Binds X.K fd ps [] ∧ FnOk X.prog X.w X.K X.mg X.base (L2.CX X.prog X.w) k a fd ps (spF T C f)

theorem PE.imp {X : Cx} {e : Expr} {t t' : TE} (h : PE X e t) (f : ∀ σ H Q, t' σ H Q → t σ H Q) : PE X e t' := ⟨fun pins s σ H Q I q => h.run pins s σ H Q I (f σ H Q q)⟩
theorem PT.imp {X : Cx} {e : Expr} {t t' : TT} (h : PT X e t) (f : ∀ σ H Q, t' σ H Q → t σ H Q) : PT X e t' := ⟨fun pins s σ H Q I q => h.run pins s σ H Q I (f σ H Q q)⟩
theorem PW.imp {X : Cx} {e : Expr} {t t' : TT} (h : PW X e t) (f : ∀ σ H Q, t' σ H Q → t σ H Q) : PW X e t' := ⟨fun wh pins s σ H Q I q => h.run wh pins s σ H Q I (f σ H Q q)⟩
theorem PA.imp {X : Cx} {e : List Expr} {t t' : TA} (h : PA X e t) (f : ∀ σ H Q, t' σ H Q → t σ H Q) : PA X e t' := ⟨fun po pins s σ H Q I q => h.run po pins s σ H Q I (f σ H Q q)⟩
theorem PO.imp {X : Cx} {e : Option Expr} {t t' : TO} (h : PO X e t) (f : ∀ σ H Q, t' σ H Q → t σ H Q) : PO X e t' := ⟨fun pins s σ H Q I q => h.run pins s σ H Q I (f σ H Q q)⟩
theorem PI.imp {X : Cx} {tg e : Expr} {t t' : TI} (h : PI X tg e t) (f : ∀ σ H Q, t' σ H Q → t σ H Q) : PI X tg e t' := ⟨fun pins s σ H Q I q => h.run pins s σ H Q I (f σ H Q q)⟩
theorem PG.imp {X : Cx} {e : Expr} {t t' : TG} (h : PG X e t) (f : ∀ v σ H Q, t' v σ H Q → t v σ H Q) : PG X e t' := ⟨fun pins s σ H v u Q I r q => h.run pins s σ H v u Q I r (f v σ H Q q)⟩
theorem PG.or {X : Cx} {e : Expr} {t t' : TG} (h : PG X e t) (h' : PG X e t') : PG X e (fun v σ H Q => t v σ H Q ∨ t' v σ H Q) :=
  ⟨fun pins s σ H v u Q I r q => q.elim (h.run pins s σ H v u Q I r) (h'.run pins s σ H v u Q I r)⟩

theorem star_of {e : Expr} (es : List Expr) (env : PySem.Env) (h : nst e = true) : starEach (e :: es) env = (false, eval e env) :: starEach es env := by
  cases e <;> first | rfl | cases h
theorem plain_ix {e : Expr} (h : nsl e = true) : L2.PlainIx e := fun o i => by
  cases e <;> first | rfl | cases h
theorem swap_ncomp {e : Expr} (h : ncomp e = true) (t : Option Expr) (l : Nat) (env : PySem.Env) : swapsWith e t l env = pure false := by
  cases e <;> first | rfl | cases h
theorem fold_nset {e : Expr} (h : nset e = true) (env : PySem.Env) (x : Value) : foldedSetIterable e env x = pure x := by
  cases e <;> first | rfl | cases h
theorem base_of {o : Expr} (h : ncall o = true) (n : Str) (env : PySem.Env) (wh : Sem Value) : attributeBase o n env wh = wh := by
  unfold attributeBase
  split
  · rename_i x p q
    simp only [ncall, Bool.not_eq_true'] at h
    have : (x != "super") = true := by rw [bne, h]; rfl
    simp [this]
  · rfl

/-- a test that is its value's truth -/
def plainT : Expr → Bool
  | .UnaryOp .Not _ _ => false
  | .BoolOp .. => false
  | .IfExp .. => false
  | .Compare .. => false
  | _ => true
theorem plain_true {e : Expr} (h : plainT e = true) (env : PySem.Env) (wh : Sem Value) : isTrue e env wh = (do let v ← wh; standAt e.pos; holding [v] (truthy v)) := by
  cases e with
  | UnaryOp op x p => cases op <;> first | rfl | cases h
  | BoolOp => cases h
  | IfExp => cases h
  | Compare => cases h
  | _ => rfl

section
variable {T : Tb} {B : Nm} {C : Cf} {k : Nat} {W : WX} {sc : Scope} {X : Cx}

theorem XOk.gl' (ok : XOk T B C k W sc X) {x : Str} (h : glB sc x = true) : Gl X x := by
  show X.env.scope.names.lookup x = _
  rw [ok.s]
  exact gl_of h
theorem XOk.vis (ok : XOk T B C k W sc X) {x : Str} (h : visB sc x = true) : Vis X.env.scope x := by rw [ok.s]; exact vis_of h
theorem XOk.loc (ok : XOk T B C k W sc X) {x : Str} (h : locB sc x = true) : Loc X.env.scope x := by rw [ok.s]; exact loc_of h
theorem XOk.at (ok : XOk T B C k W sc X) {x : Str} {i : Nat} (h : B.N[i]? = some x) : X.N[i]? = some x := by rw [ok.n]; exact h
theorem XOk.nd' (ok : XOk T B C k W sc X) : X.N.Nodup := by rw [ok.n]; exact ok.nd
/-- from an expression to the next -/
theorem te_go {e : E} {σ : St} {H : Hp} {Q : VK} {α β : Type} {R' : List Addr → Hp → α → β → Prop} {μ : List Addr} {h : Hh} {ρ : Env} {kk : D → Hh → Res α} {Q' : β → Hp → Prop} (hr : HR T μ h H) (er : EnvR T μ H ρ σ)
    (p : Post T R' μ H (WE W σ) ((evE C e ρ h).bind kk) Q') (f : ∀ d h1 μ1 H1 v, HR T μ1 h1 H1 → Fr μ H μ1 H1 → EnvR T μ1 H1 ρ σ → Rep T μ1 H1 d v → Post T R' μ1 H1 (WE W σ) (kk d h1) Q' → Q v H1) : te T C W e σ H Q :=
  ⟨μ, h, ρ, hr, er, p.bind fun d h1 μ1 H1 v hr1 fr1 q1 p1 => f d h1 μ1 H1 v hr1 fr1 (er.mono fr1) q1 p1⟩
theorem ta_go {e : E} {σ : St} {H : Hp} {Q : List V → Hp → Prop} {α β : Type} {R' : List Addr → Hp → α → β → Prop} {μ : List Addr} {h : Hh} {ρ : Env} {kk : List D → Hh → Res α} {Q' : β → Hp → Prop} (hr : HR T μ h H) (er : EnvR T μ H ρ σ)
    (p : Post T R' μ H (WE W σ) ((evA C e ρ h).bind kk) Q') (f : ∀ d h1 μ1 H1 v, HR T μ1 h1 H1 → Fr μ H μ1 H1 → EnvR T μ1 H1 ρ σ → Reps T μ1 H1 d v → Post T R' μ1 H1 (WE W σ) (kk d h1) Q' → Q v H1) : ta T C W e σ H Q :=
  ⟨μ, h, ρ, hr, er, p.bind fun d h1 μ1 H1 v hr1 fr1 q1 p1 => f d h1 μ1 H1 v hr1 fr1 (er.mono fr1) q1 p1⟩
theorem to_go {e : E} {σ : St} {H : Hp} {Q : Option Int → Hp → Prop} {α β : Type} {R' : List Addr → Hp → α → β → Prop} {μ : List Addr} {h : Hh} {ρ : Env} {kk : Option Int → Hh → Res α} {Q' : β → Hp → Prop} (hr : HR T μ h H) (er : EnvR T μ H ρ σ)
    (p : Post T R' μ H (WE W σ) ((evO C e ρ h).bind kk) Q') (f : ∀ d h1 μ1 H1, HR T μ1 h1 H1 → Fr μ H μ1 H1 → EnvR T μ1 H1 ρ σ → Post T R' μ1 H1 (WE W σ) (kk d h1) Q' → Q d H1) : to T C W e σ H Q :=
  ⟨μ, h, ρ, hr, er, p.bind fun d h1 μ1 H1 v hr1 fr1 q1 p1 => by subst q1; exact f d h1 μ1 H1 hr1 fr1 (er.mono fr1) p1⟩
/-- a test, by truth -/
theorem tt_go {e : E} {σ : St} {H : Hp} {Q : Bool → Hp → Prop} {α β : Type} {R' : List Addr → Hp → α → β → Prop} {μ : List Addr} {h : Hh} {ρ : Env} {kk : Bool → Hh → Res α} {Q' : β → Hp → Prop} (hr : HR T μ h H) (er : EnvR T μ H ρ σ)
    (p : Post T R' μ H (WE W σ) ((evE C e ρ h).tr kk) Q') (f : ∀ b h1 μ1 H1, HR T μ1 h1 H1 → Fr μ H μ1 H1 → EnvR T μ1 H1 ρ σ → Post T R' μ1 H1 (WE W σ) (kk b h1) Q' → Q b H1) : tt T C W e σ H Q := by
  refine ⟨μ, h, ρ, hr, er, ?_⟩
  unfold Res.tr at p ⊢
  cases q : evE C e ρ h with
  | ok d h1 =>
    rw [q] at p
    simp only [Res.ok_bind] at p ⊢
    cases z : truth h1 d with
    | some b =>
      rw [z] at p
      exact fun μ1 H1 b1 hr1 fr1 e1 => by subst e1; exact f _ h1 μ1 H1 hr1 fr1 (er.mono fr1) (p.from fr1)
    | none => rw [z] at p; exact p.elim
  | exc c fs h1 => rw [q] at p; exact p
  | bad => rw [q] at p; exact p
/-- a value's truth, used as a test -/
theorem tt_of {e : E} {σ : St} {H : Hp} {Q : Bool → Hp → Prop} (t : tt T C W e σ H Q) : te T C W e σ H fun x H' => ∃ b, TruV T.K x H' b ∧ Q b H' := by
  obtain ⟨μ, h, ρ, hr, er, p⟩ := t
  refine te_go hr er p fun d h1 μ1 H1 v hr1 fr1 _ q1 p1 => ?_
  split at p1
  · rename_i b eb
    exact ⟨b, truth_ok hr1 q1 eb, p1 μ1 H1 b hr1 (Fr.refl _ _) rfl⟩
  · exact p1.elim
theorem tt_bl {e : E} {σ : St} {H : Hp} {Q : Bool → Hp → Prop} (t : tt T C W e σ H Q) (hb : ∀ ρ h, ∀ d h1, evE C e ρ h = .ok d h1 → ∃ b, d = .bl b) : te T C W e σ H fun x H' => ∃ b, x = .bl b ∧ Q b H' := by
  obtain ⟨μ, h, ρ, hr, er, p⟩ := t
  refine ⟨μ, h, ρ, hr, er, ?_⟩
  unfold Res.tr at p
  cases q : evE C e ρ h with
  | ok d h1 =>
    rw [q] at p
    obtain ⟨b, rfl⟩ := hb ρ h d h1 q
    simp only [Res.ok_bind, truth] at p
    exact fun μ1 H1 v hr1 fr1 r1 => by cases r1; exact ⟨b, rfl, p μ1 H1 b hr1 fr1 rfl⟩
  | exc c fs h1 => rw [q] at p; exact p
  | bad => rw [q] at p; exact p
theorem pt_plain {ir : E} {e : Expr} (ok : XOk T B C k W sc X) (h : PE X e (te T C W ir)) (hp : plainT e = true) : PT X e (tt T C W ir) :=
  PT.imp (pt_truth h fun wh => plain_true hp X.env wh) fun σ H Q t => by rw [ok.K]; exact tt_of t

/-! ### names, constants -/
theorem se_var {i : Nat} {x : Str} {p : Pos} (ok : XOk T B C k W sc X) (h1 : B.N[i]? = some x) (h2 : visB sc x = true) (h3 : okN x = true) : PE X (.Name x p) (te T C W (.var i)) := by
  simp only [okN, Bool.and_eq_true, Bool.not_eq_true'] at h3
  refine PE.imp (pe_var (ok.at h1) (ok.vis h2) h3.1.1 h3.1.2) fun σ H Q t => ?_
  obtain ⟨μ, h, ρ, hr, er, q⟩ := t
  simp only [evE] at q
  split at q
  · rename_i d ed
    obtain ⟨v, a, b⟩ := er.get ed
    exact ⟨v, a, q.here hr b⟩
  · exact q.elim
theorem te_c {e : E} {d : D} {v : V} {σ : St} {H : Hp} {Q : VK} (t : te T C W e σ H Q) (he : ∀ ρ h, evE C e ρ h = .ok d h) (r : ∀ μ, Rep T μ H d v) : Q v H := by
  obtain ⟨μ, h, ρ, hr, er, q⟩ := t
  rw [he] at q
  exact q.here hr (r μ)
theorem se_glob {g : Nat} {x : Str} {p : Pos} (ok : XOk T B C k W sc X) (h1 : B.gn[g]? = some x) (h2 : glB sc x = true) (h3 : okN x = true) : PE X (.Name x p) (te T C W (.glob g)) := by
  simp only [okN, Bool.and_eq_true, Bool.not_eq_true'] at h3
  obtain ⟨d, u, v, e1, e2, e3, e4⟩ := ok.gl g x h1
  refine PE.imp (pe_glob (ok.gl' h2) e2 e3 h3.1.1) fun σ H Q t => ?_
  exact te_c t (fun ρ h => by simp only [evE]; rw [e1]) fun μ => e4 μ H

/-! ### arguments -/
theorem sa_any : ∀ (as : E) (es : List Expr) (pos : Pos) (env : PySem.Env), mtA B as sc es = true → (backTo pos (starEach es env)).any (·.1) = false
  | .nil, [], _, _, _ => rfl
  | .cons a as, e :: es, pos, env, h => by
    simp only [mtA, Bool.and_eq_true] at h
    rw [star_of es env h.1.1]
    show (false || (backTo pos (starEach es env)).any (·.1)) = false
    rw [Bool.false_or]
    exact sa_any as es pos env h.2
  | .nil, _ :: _, _, _, h => by simp [mtA] at h
  | .cons _ _, [], _, _, h => by simp [mtA] at h
  | .var _, _, _, _, h => by simp [mtA] at h
  | .int _, _, _, _, h => by simp [mtA] at h
  | .bl _, _, _, _, h => by simp [mtA] at h
  | .non, _, _, _, h => by simp [mtA] at h
  | .str _, _, _, _, h => by simp [mtA] at h
  | .glob _, _, _, _, h => by simp [mtA] at h
  | .bin _ _ _, _, _, _, h => by simp [mtA] at h
  | .neg _, _, _, _, h => by simp [mtA] at h
  | .not _, _, _, _, h => by simp [mtA] at h
  | .cmp _ _ _, _, _, _, h => by simp [mtA] at h
  | .cmp2 _ _ _ _ _, _, _, _, h => by simp [mtA] at h
  | .isN _, _, _, _, h => by simp [mtA] at h
  | .isNN _, _, _, _, h => by simp [mtA] at h
  | .and _ _, _, _, _, h => by simp [mtA] at h
  | .or _ _, _, _, _, h => by simp [mtA] at h
  | .one _, _, _, _, h => by simp [mtA] at h
  | .ite _ _ _, _, _, _, h => by simp [mtA] at h
  | .tup _, _, _, _, h => by simp [mtA] at h
  | .lst _, _, _, _, h => by simp [mtA] at h
  | .idx _ _, _, _, _, h => by simp [mtA] at h
  | .slc _ _ _, _, _, _, h => by simp [mtA] at h
  | .nop, _, _, _, h => by simp [mtA] at h
  | .opt _, _, _, _, h => by simp [mtA] at h
  | .call _ _, _, _, _, h => by simp [mtA] at h
  | .bi _ _, _, _, _, h => by simp [mtA] at h
  | .isi _ _, _, _, _, h => by simp [mtA] at h
  | .meth _ _ _, _, _, _, h => by simp [mtA] at h
  | .comp _ _ _ _ _, _, _, _, h => by simp [mtA] at h
  | .nev, _, _, _, h => by simp [mtA] at h
  | .seq _, _, _, _, h => by simp [mtA] at h
  | .rng1 _, _, _, _, h => by simp [mtA] at h
  | .rng2 _ _, _, _, _, h => by simp [mtA] at h
  | .enum _, _, _, _, h => by simp [mtA] at h
  | .zip _ _, _, _, _, h => by simp [mtA] at h
theorem sa_head {as : E} {e : Expr} {es : List Expr} (h : mtA B as sc (e :: es) = true) : nst e = true ∧ ∃ as', mtA B as' sc es = true := by
  cases as with
  | cons a r =>
    simp only [mtA, Bool.and_eq_true] at h
    exact ⟨h.1.1, _, h.2⟩
  | _ => simp [mtA] at h
theorem sa_nil : PA X [] (ta T C W .nil) := PA.imp pa_nil fun σ H Q t => by
  obtain ⟨μ, h, ρ, hr, er, q⟩ := t
  exact q μ H [] hr (Fr.refl _ _) .nil
theorem sa_cons {a as : E} {e : Expr} {es : List Expr} (hs : nst e = true) (ha : PE X e (te T C W a)) (hr : PA X es (ta T C W as)) : PA X (e :: es) (ta T C W (.cons a as)) := by
  refine PA.imp (pa_cons ha hr (star_of es X.env hs)) fun σ H Q t => ?_
  obtain ⟨μ, h, ρ, hr, er, q⟩ := t
  simp only [evA] at q
  refine te_go hr er q fun d h1 μ1 H1 v hr1 fr1 er1 q1 p1 => ?_
  refine ta_go hr1 er1 p1 fun ds h2 μ2 H2 vs hr2 fr2 er2 q2 p2 => ?_
  exact p2 μ2 H2 (v :: vs) hr2 (Fr.refl _ _) (.cons (q1.mono fr2) q2)

/-! ### operations -/
theorem se_bin {o : BOp} {a b : E} {l r : Expr} {pos : Pos} (ok : XOk T B C k W sc X) (ha : PE X l (te T C W a)) (hb : PE X r (te T C W b)) : PE X (.BinOp l o.op r pos) (te T C W (.bin o a b)) := by
  refine PE.imp (pe_op (bin_rule o) ha hb) fun σ H Q t => ?_
  obtain ⟨μ, h, ρ, hr, er, q⟩ := t
  simp only [evE] at q
  refine te_go hr er q fun d h1 μ1 H1 v hr1 fr1 er1 q1 p1 => ?_
  refine te_go hr1 er1 p1 fun e h2 μ2 H2 w hr2 fr2 er2 q2 p2 => ?_
  rw [ok.K]
  exact bin_ok hr2 (q1.mono fr2) q2 p2
theorem se_neg {a : E} {l : Expr} {pos : Pos} (ha : PE X l (te T C W a)) : PE X (.UnaryOp .USub l pos) (te T C W (.neg a)) := by
  refine PE.imp (pe_un un_neg ha) fun σ H Q t => ?_
  obtain ⟨μ, h, ρ, hr, er, q⟩ := t
  simp only [evE] at q
  refine te_go hr er q fun d h1 μ1 H1 v hr1 fr1 er1 q1 p1 => ?_
  cases q1 with
  | int i => exact ⟨i, rfl, p1.here hr1 (.int _)⟩
  | _ => exact p1.elim
theorem se_not {a : E} {l : Expr} {pos : Pos} (ok : XOk T B C k W sc X) (ha : PE X l (te T C W a)) : PE X (.UnaryOp .Not l pos) (te T C W (.not a)) := by
  refine PE.imp (pe_notT ha) fun σ H Q t => ?_
  obtain ⟨μ, h, ρ, hr, er, q⟩ := t
  simp only [evE] at q
  unfold Res.tr at q
  refine te_go hr er q fun d h1 μ1 H1 v hr1 fr1 er1 q1 p1 => ?_
  split at p1
  · rename_i b eb
    rw [ok.K]
    exact ⟨b, truth_ok hr1 q1 eb, p1.here hr1 (.bl _)⟩
  · exact p1.elim
theorem st_not {a : E} {l : Expr} {pos : Pos} (ha : PT X l (tt T C W a)) : PT X (.UnaryOp .Not l pos) (tt T C W (.not a)) := by
  refine PT.imp (pt_not ha) fun σ H Q t => ?_
  obtain ⟨μ, h, ρ, hr, er, q⟩ := t
  have q' : Post T (fun _ _ (a b : Bool) => a = b) μ H (WE W σ) ((evE C a ρ h).tr fun b h1 => .ok (!b) h1) Q := by
    simp only [evE] at q
    unfold Res.tr at q ⊢
    cases z : evE C a ρ h with
    | ok d h1 =>
      rw [z] at q
      simp only [Res.ok_bind] at q ⊢
      cases z2 : truth h1 d with
      | some b => rw [z2] at q; exact q
      | none => rw [z2] at q; exact q
    | exc c fs h1 => rw [z] at q; exact q
    | bad => rw [z] at q; exact q
  exact tt_go hr er q' fun b h1 μ1 H1 hr1 fr1 er1 p1 => p1 μ1 H1 (!b) hr1 (Fr.refl _ _) rfl
theorem se_cmp {o : COp} {a b : E} {l r : Expr} {pos : Pos} (ok : XOk T B C k W sc X) (hm : behindInMarks o.op r = false) (ha : PE X l (te T C W a)) (hb : PE X r (te T C W b)) : PE X (.Compare l [o.op] [r] pos) (te T C W (.cmp o a b)) := by
  refine PE.imp (pe_cmpR (cmp_rule ok.room.units o) ha hb hm) fun σ H Q t => ?_
  obtain ⟨μ, h, ρ, hr, er, q⟩ := t
  simp only [evE] at q
  refine te_go hr er q fun d h1 μ1 H1 v hr1 fr1 er1 q1 p1 => ?_
  refine te_go hr1 er1 p1 fun e h2 μ2 H2 w hr2 fr2 er2 q2 p2 => ?_
  rw [ok.K]
  exact cmp_ok hr2 (q1.mono fr2) q2 p2
theorem rB_bl {o : Option Bool} {h h1 : Hh} {d : D} (e : rB o h = .ok d h1) : ∃ b, d = .bl b := by
  cases o with
  | some b => cases e; exact ⟨b, rfl⟩
  | none => cases e
theorem cmpD_bl {o : COp} {d e z : D} {h h1 : Hh} (q : cmpD h o d e = .ok z h1) : ∃ b, z = .bl b := by
  unfold cmpD at q
  split at q <;> first | exact rB_bl q | (injection q with q1 q2; exact ⟨_, q1.symm⟩) | cases q
theorem bind_ok {α β : Type} {r : Res α} {kk : α → Hh → Res β} {b : β} {h : Hh} (e : r.bind kk = .ok b h) : ∃ a h1, r = .ok a h1 ∧ kk a h1 = .ok b h := by
  cases r with
  | ok a h1 => exact ⟨a, h1, rfl, e⟩
  | exc => cases e
  | bad => cases e
theorem st_cmp {o : COp} {a b : E} {l r : Expr} {pos : Pos} (ok : XOk T B C k W sc X) (hm : behindInMarks o.op r = false) (ha : PE X l (te T C W a)) (hb : PE X r (te T C W b)) : PT X (.Compare l [o.op] [r] pos) (tt T C W (.cmp o a b)) := by
  refine PT.imp (pt_cmpR (cmp_rule ok.room.units o) ha hb hm) fun σ H Q t => ?_
  have t := tt_bl t fun ρ h d h1 e => by
    simp only [evE] at e
    obtain ⟨_, _, _, e⟩ := bind_ok e
    obtain ⟨_, _, _, e⟩ := bind_ok e
    exact cmpD_bl e
  obtain ⟨μ, h, ρ, hr, er, q⟩ := t
  simp only [evE] at q
  refine te_go hr er q fun d h1 μ1 H1 v hr1 fr1 er1 q1 p1 => ?_
  refine te_go hr1 er1 p1 fun e h2 μ2 H2 w hr2 fr2 er2 q2 p2 => ?_
  rw [ok.K]
  exact cmp_ok hr2 (q1.mono fr2) q2 p2
theorem chain_ok {o o' : COp} {a b c : E} {σ : St} {H : Hp} {Q : VK} (ok : XOk T B C k W sc X) (t : te T C W (.cmp2 o o' a b c) σ H Q) : tChain (rCmp X.K o) (rCmp X.K o') (te T C W a) (te T C W b) (te T C W c) σ H Q := by
  obtain ⟨μ, h, ρ, hr, er, q⟩ := t
  simp only [evE] at q
  refine te_go hr er q fun d h1 μ1 H1 v hr1 fr1 er1 q1 p1 => ?_
  refine te_go hr1 er1 p1 fun e h2 μ2 H2 w hr2 fr2 er2 q2 p2 => ?_
  rw [ok.K]
  refine cmp_ok hr2 (q1.mono fr2) q2 (p2.bind (R := Rep T) fun z h3 μ3 H3 u hr3 fr3 q3 p3 => ?_)
  split at p3
  · cases q3
    refine ⟨true, rfl, ?_⟩
    rw [if_pos rfl]
    refine te_go hr3 (er2.mono fr3) p3 fun f h4 μ4 H4 x hr4 fr4 er4 q4 p4 => ?_
    exact cmp_ok hr4 ((q2.mono fr3).mono fr4) q4 p4
  · cases q3
    refine ⟨false, rfl, ?_⟩
    rw [if_neg Bool.false_ne_true]
    exact p3.here hr3 (.bl _)
  · exact p3.elim
theorem se_cmp2 {o o' : COp} {a b c : E} {l r s : Expr} {pos : Pos} (ok : XOk T B C k W sc X) (hm : lastMarks [o.op, o'.op] [r, s] = false) (ha : PE X l (te T C W a)) (hb : PE X r (te T C W b)) (hc : PE X s (te T C W c)) : PE X (.Compare l [o.op, o'.op] [r, s] pos) (te T C W (.cmp2 o o' a b c)) :=
  PE.imp (pe_chain (cmp_rule ok.room.units o) (cmp_rule ok.room.units o') ha hb hc hm) fun σ H Q t => chain_ok ok t
theorem st_cmp2 {o o' : COp} {a b c : E} {l r s : Expr} {pos : Pos} (ok : XOk T B C k W sc X) (hm : lastMarks [o.op, o'.op] [r, s] = false) (ha : PE X l (te T C W a)) (hb : PE X r (te T C W b)) (hc : PE X s (te T C W c)) : PT X (.Compare l [o.op, o'.op] [r, s] pos) (tt T C W (.cmp2 o o' a b c)) := by
  refine PT.imp (pt_chain (cmp_rule ok.room.units o) (cmp_rule ok.room.units o') ha hb hc hm) fun σ H Q t => ?_
  exact chain_ok ok (tt_bl t fun ρ h d h1 e => by
    simp only [evE] at e
    obtain ⟨_, _, _, e⟩ := bind_ok e
    obtain ⟨_, _, _, e⟩ := bind_ok e
    obtain ⟨z, h3, _, e⟩ := bind_ok e
    split at e
    · obtain ⟨_, _, _, e⟩ := bind_ok e
      exact cmpD_bl e
    · cases e; exact ⟨_, rfl⟩
    · cases e)
theorem isN_dec {μ : List Addr} {H : Hp} {d : D} {v : V} (r : Rep T μ H d v) : decide (v = .non) = decide (d = .non) := by
  cases r <;> simp
theorem se_isN {a : E} {l : Expr} {pos pos' : Pos} {j : Nat} (ha : PE X l (te T C W a)) : PE X (.Compare l [.Is] [.Constant .none j pos'] pos) (te T C W (.isN a)) := by
  refine PE.imp (pe_cmp (pc_isN ha) (nomark _)) fun σ H Q t => ?_
  obtain ⟨μ, h, ρ, hr, er, q⟩ := t
  simp only [evE] at q
  refine te_go hr er q fun d h1 μ1 H1 v hr1 fr1 er1 q1 p1 => ?_
  rw [isN_dec q1]
  exact p1.here hr1 (.bl _)
theorem se_isNN {a : E} {l : Expr} {pos pos' : Pos} {j : Nat} (ha : PE X l (te T C W a)) : PE X (.Compare l [.IsNot] [.Constant .none j pos'] pos) (te T C W (.isNN a)) := by
  refine PE.imp (pe_cmp (pc_notN ha) (nomark _)) fun σ H Q t => ?_
  obtain ⟨μ, h, ρ, hr, er, q⟩ := t
  simp only [evE] at q
  refine te_go hr er q fun d h1 μ1 H1 v hr1 fr1 er1 q1 p1 => ?_
  rw [isN_dec q1]
  exact p1.here hr1 (.bl _)
theorem st_isN {a : E} {l : Expr} {pos pos' : Pos} {j : Nat} (ha : PE X l (te T C W a)) : PT X (.Compare l [.Is] [.Constant .none j pos'] pos) (tt T C W (.isN a)) := by
  refine PT.imp (pt_cmp (pc_isN ha) (nomark _)) fun σ H Q t => ?_
  have t := tt_bl t fun ρ h d h1 e => by
    simp only [evE] at e
    obtain ⟨_, _, _, e⟩ := bind_ok e
    cases e; exact ⟨_, rfl⟩
  obtain ⟨μ, h, ρ, hr, er, q⟩ := t
  simp only [evE] at q
  refine te_go hr er q fun d h1 μ1 H1 v hr1 fr1 er1 q1 p1 => ?_
  rw [isN_dec q1]
  exact p1.here hr1 (.bl _)
theorem st_isNN {a : E} {l : Expr} {pos pos' : Pos} {j : Nat} (ha : PE X l (te T C W a)) : PT X (.Compare l [.IsNot] [.Constant .none j pos'] pos) (tt T C W (.isNN a)) := by
  refine PT.imp (pt_cmp (pc_notN ha) (nomark _)) fun σ H Q t => ?_
  have t := tt_bl t fun ρ h d h1 e => by
    simp only [evE] at e
    obtain ⟨_, _, _, e⟩ := bind_ok e
    cases e; exact ⟨_, rfl⟩
  obtain ⟨μ, h, ρ, hr, er, q⟩ := t
  simp only [evE] at q
  refine te_go hr er q fun d h1 μ1 H1 v hr1 fr1 er1 q1 p1 => ?_
  rw [isN_dec q1]
  exact p1.here hr1 (.bl _)

/-! ### and, or -/
theorem se_and {a b : E} {x y : Expr} {r : List Expr} {pos : Pos} (ok : XOk T B C k W sc X) (ha : PE X x (te T C W a)) (hb : PE X (.BoolOp .And (y :: r) pos) (te T C W b)) : PE X (.BoolOp .And (x :: y :: r) pos) (te T C W (.and a b)) := by
  refine PE.imp (pe_andT ha hb) fun σ H Q t => ?_
  obtain ⟨μ, h, ρ, hr, er, q⟩ := t
  simp only [evE] at q
  refine te_go hr er q fun d h1 μ1 H1 v hr1 fr1 er1 q1 p1 => ?_
  rw [ok.K]
  split at p1
  · rename_i eb
    refine ⟨true, truth_ok hr1 q1 eb, ?_⟩
    rw [if_pos rfl]
    exact ⟨μ1, h1, ρ, hr1, er1, p1⟩
  · rename_i eb
    refine ⟨false, truth_ok hr1 q1 eb, ?_⟩
    rw [if_neg Bool.false_ne_true]
    exact p1.here hr1 q1
  · exact p1.elim
theorem se_or {a b : E} {x y : Expr} {r : List Expr} {pos : Pos} (ok : XOk T B C k W sc X) (ha : PE X x (te T C W a)) (hb : PE X (.BoolOp .Or (y :: r) pos) (te T C W b)) : PE X (.BoolOp .Or (x :: y :: r) pos) (te T C W (.or a b)) := by
  refine PE.imp (pe_orT ha hb) fun σ H Q t => ?_
  obtain ⟨μ, h, ρ, hr, er, q⟩ := t
  simp only [evE] at q
  refine te_go hr er q fun d h1 μ1 H1 v hr1 fr1 er1 q1 p1 => ?_
  rw [ok.K]
  split at p1
  · rename_i eb
    refine ⟨true, truth_ok hr1 q1 eb, ?_⟩
    rw [if_pos rfl]
    exact p1.here hr1 q1
  · rename_i eb
    refine ⟨false, truth_ok hr1 q1 eb, ?_⟩
    rw [if_neg Bool.false_ne_true]
    exact ⟨μ1, h1, ρ, hr1, er1, p1⟩
  · exact p1.elim
theorem se_one {a : E} {x : Expr} {op : PySem.BoolOp} {pos : Pos} (ha : PE X x (te T C W a)) : PE X (.BoolOp op [x] pos) (te T C W (.one a)) :=
  PE.imp (pe_one ha) fun σ H Q t => t
/-- a test of a and b, from the test of a on -/
theorem and_tr {a b : E} {ρ : Env} {h : Hh} : ((evE C (.and a b) ρ h).tr fun t h1 => Res.ok t h1) = (evE C a ρ h).tr fun t h1 => if t then (evE C b ρ h1).tr fun t h1 => Res.ok t h1 else .ok false h1 := by
  simp only [evE]
  unfold Res.tr
  cases z : evE C a ρ h with
  | ok d h1 =>
    simp only [Res.ok_bind]
    cases z2 : truth h1 d with
    | some b =>
      cases b with
      | true => rfl
      | false => simp [z2]
    | none => rfl
  | exc c fs h1 => rfl
  | bad => rfl
theorem or_tr {a b : E} {ρ : Env} {h : Hh} : ((evE C (.or a b) ρ h).tr fun t h1 => Res.ok t h1) = (evE C a ρ h).tr fun t h1 => if t then .ok true h1 else (evE C b ρ h1).tr fun t h1 => Res.ok t h1 := by
  simp only [evE]
  unfold Res.tr
  cases z : evE C a ρ h with
  | ok d h1 =>
    simp only [Res.ok_bind]
    cases z2 : truth h1 d with
    | some b =>
      cases b with
      | true => simp [z2]
      | false => rfl
    | none => rfl
  | exc c fs h1 => rfl
  | bad => rfl
theorem sw_and {a b : E} {x y : Expr} {r : List Expr} {pos : Pos} (ha : PT X x (tt T C W a)) (hb : PW X (.BoolOp .And (y :: r) pos) (tt T C W b)) : PW X (.BoolOp .And (x :: y :: r) pos) (tt T C W (.and a b)) := by
  refine PW.imp (pw_and ha hb) fun σ H Q t => ?_
  obtain ⟨μ, h, ρ, hr, er, q⟩ := t
  rw [and_tr] at q
  refine tt_go hr er q fun b h1 μ1 H1 hr1 fr1 er1 p1 => ?_
  cases b with
  | true => rw [if_pos rfl] at p1 ⊢; exact ⟨μ1, h1, ρ, hr1, er1, p1⟩
  | false => rw [if_neg Bool.false_ne_true] at p1 ⊢; exact p1 μ1 H1 false hr1 (Fr.refl _ _) rfl
theorem sw_or {a b : E} {x y : Expr} {r : List Expr} {pos : Pos} (ha : PT X x (tt T C W a)) (hb : PW X (.BoolOp .Or (y :: r) pos) (tt T C W b)) : PW X (.BoolOp .Or (x :: y :: r) pos) (tt T C W (.or a b)) := by
  refine PW.imp (pw_or ha hb) fun σ H Q t => ?_
  obtain ⟨μ, h, ρ, hr, er, q⟩ := t
  rw [or_tr] at q
  refine tt_go hr er q fun b h1 μ1 H1 hr1 fr1 er1 p1 => ?_
  cases b with
  | true => rw [if_pos rfl] at p1 ⊢; exact p1 μ1 H1 true hr1 (Fr.refl _ _) rfl
  | false => rw [if_neg Bool.false_ne_true] at p1 ⊢; exact ⟨μ1, h1, ρ, hr1, er1, p1⟩
theorem sw_one {a : E} {x : Expr} {op : PySem.BoolOp} {pos : Pos} (ha : PT X x (tt T C W a)) : PW X (.BoolOp op [x] pos) (tt T C W (.one a)) := by
  cases op with
  | And => exact PW.imp (pw_and1 ha) fun σ H Q t => t
  | Or => exact PW.imp (pw_or1 ha) fun σ H Q t => t
theorem se_ite {c a b : E} {x y z : Expr} {pos : Pos} (hc : PT X x (tt T C W c)) (ha : PE X y (te T C W a)) (hb : PE X z (te T C W b)) : PE X (.IfExp x y z pos) (te T C W (.ite c a b)) := by
  refine PE.imp (pe_ifExp hc ha hb) fun σ H Q t => ?_
  obtain ⟨μ, h, ρ, hr, er, q⟩ := t
  simp only [evE] at q
  refine tt_go hr er q fun b h1 μ1 H1 hr1 fr1 er1 p1 => ?_
  cases b with
  | true => rw [if_pos rfl] at p1 ⊢; exact ⟨μ1, h1, ρ, hr1, er1, p1⟩
  | false => rw [if_neg Bool.false_ne_true] at p1 ⊢; exact ⟨μ1, h1, ρ, hr1, er1, p1⟩

/-! ### displays, items -/
theorem se_tup {as : E} {es : List Expr} {pos : Pos} {j : Nat} (ha : PA X es (ta T C W as)) : PE X (.Tuple es j pos) (te T C W (.tup as)) := by
  refine PE.imp (pe_tup ha) fun σ H Q t => ?_
  obtain ⟨μ, h, ρ, hr, er, q⟩ := t
  simp only [evE] at q
  refine ta_go hr er q fun d h1 μ1 H1 v hr1 fr1 er1 q1 p1 => ?_
  split at p1
  · rename_i hl
    exact ⟨by rw [← q1.length]; exact hl, fun p hp => p1.tup hr1 q1 hp⟩
  · exact p1.elim
theorem se_lst {as : E} {es : List Expr} {pos : Pos} (ha : PA X es (ta T C W as)) : PE X (.List es pos) (te T C W (.lst as)) := by
  refine PE.imp (pe_lst ha) fun σ H Q t => ?_
  obtain ⟨μ, h, ρ, hr, er, q⟩ := t
  simp only [evE] at q
  refine ta_go hr er q fun d h1 μ1 H1 v hr1 fr1 er1 q1 p1 => ?_
  split at p1
  · rename_i hl
    exact ⟨by rw [← q1.length]; exact hl, fun p hp => p1.alloc hr1 q1 hp⟩
  · exact p1.elim
theorem se_idx {a b : E} {l r : Expr} {pos : Pos} (ok : XOk T B C k W sc X) (hs : nsl r = true) (ha : PE X l (te T C W a)) (hb : PE X r (te T C W b)) : PE X (.Subscript l r pos) (te T C W (.idx a b)) := by
  refine PE.imp (pe_ix ix_seq ha hb (plain_ix hs)) fun σ H Q t => ?_
  obtain ⟨μ, h, ρ, hr, er, q⟩ := t
  simp only [evE] at q
  refine te_go hr er q fun d h1 μ1 H1 v hr1 fr1 er1 q1 p1 => ?_
  refine te_go hr1 er1 p1 fun e h2 μ2 H2 w hr2 fr2 er2 q2 p2 => ?_
  rw [ok.K]
  exact idx_ok hr2 (q1.mono fr2) q2 p2
theorem so_none : PO X none (to T C W .nop) := PO.imp po_none fun σ H Q t => by
  obtain ⟨μ, h, ρ, hr, er, q⟩ := t
  exact q μ H none hr (Fr.refl _ _) rfl
theorem so_some {a : E} {e : Expr} (ha : PE X e (te T C W a)) : PO X (some e) (to T C W (.opt a)) := PO.imp (po_some ha) fun σ H Q t => by
  obtain ⟨μ, h, ρ, hr, er, q⟩ := t
  simp only [evO] at q
  refine te_go hr er q fun d h1 μ1 H1 v hr1 fr1 er1 q1 p1 => ?_
  cases q1 with
  | int i => exact ⟨i, rfl, p1 μ1 H1 (some i) hr1 (Fr.refl _ _) rfl⟩
  | _ => exact p1.elim
theorem se_slc {a lo hi : E} {l : Expr} {x y : Option Expr} {pos pos' : Pos} (ok : XOk T B C k W sc X) (ha : PE X l (te T C W a)) (hl : PO X x (to T C W lo)) (hu : PO X y (to T C W hi)) : PE X (.Subscript l (.Slice x y none pos') pos) (te T C W (.slc a lo hi)) := by
  refine PE.imp (pe_slice sl_rule ha hl hu) fun σ H Q t => ?_
  obtain ⟨μ, h, ρ, hr, er, q⟩ := t
  simp only [evE] at q
  refine te_go hr er q fun d h1 μ1 H1 v hr1 fr1 er1 q1 p1 => ?_
  refine to_go hr1 er1 p1 fun i h2 μ2 H2 hr2 fr2 er2 p2 => ?_
  refine to_go hr2 er2 p2 fun j h3 μ3 H3 hr3 fr3 er3 p3 => ?_
  rw [ok.K]
  exact slc_ok hr3 ((q1.mono fr2).mono fr3) p3

/-! ### calls -/
theorem se_call {f : Nat} {as : E} {x : Str} {e : Expr} {es : List Expr} {p pos : Pos} (ok : XOk T B C k W sc X) (h1 : B.fn[f]? = some x) (h2 : glB sc x = true) (h3 : okN x = true) (hm : mtA B as sc (e :: es) = true) (ha : PA X (e :: es) (ta T C W as)) :
    PE X (.Call (.Name x p) (e :: es) [] pos) (te T C W (.call f as)) := by
  obtain ⟨hs, as', hm'⟩ := sa_head hm
  obtain ⟨a, fd, ps, e1, e2, e3, F⟩ := ok.call f x h1
  simp only [okN, Bool.and_eq_true, Bool.not_eq_true'] at h3
  refine PE.imp (pe_callSD (E := WE W) F ok.room (ok.gl' h2) e1 e2 e3 .nil (fun σ => passAt ok.tk σ) ha h3.1.1 (star_of es X.env hs) (sa_any as' es pos X.env hm')) fun σ H Q t => ?_
  obtain ⟨μ, h, ρ, hr, er, q⟩ := t
  simp only [evE] at q
  refine ta_go hr er q fun d h1 μ1 H1 v hr1 fr1 er1 q1 p1 => ?_
  rw [List.append_nil]
  exact ⟨μ1, h1, d, hr1, q1, p1⟩
theorem mgB (ok : XOk T B C k W sc X) (b : BI) : X.mg b.nm = none := ok.bi _ (by cases b <;> decide)
theorem se_bi {b : BI} {as : E} {e : Expr} {es : List Expr} {p pos : Pos} (ok : XOk T B C k W sc X) (h2 : glB sc b.nm = true) (hm : mtA B as sc (e :: es) = true) (ha : PA X (e :: es) (ta T C W as)) :
    PE X (.Call (.Name b.nm p) (e :: es) [] pos) (te T C W (.bi b as)) := by
  obtain ⟨hs, as', hm'⟩ := sa_head hm
  have st := star_of es X.env hs
  have an := sa_any as' es pos X.env hm'
  have g := ok.gl' h2
  have m := mgB ok b
  have fin : PE X (.Call (.Name b.nm p) (e :: es) [] pos) (tCB (rBI X.K b) (ta T C W as)) := by
    cases b with
    | len => exact pe_callB call_len_seq g m boot_len ha (by decide) (by decide) st an
    | abs => exact pe_callB call_abs g m PyProof.Rows.boot_abs ha (by decide) (by decide) st an
    | int => exact pe_callTy call_int1 g m PyProof.Rows.boot_int ha (by decide) (by decide) st an
    | min => exact pe_callB (call_min2 ok.calm) g m PyProof.Rows.boot_min ha (by decide) (by decide) st an
    | max => exact pe_callB (call_max2 ok.calm) g m PyProof.Rows.boot_max ha (by decide) (by decide) st an
    | list => exact pe_callTy call_list_of g m PyProof.Rows.boot_list ha (by decide) (by decide) st an
    | tuple => exact pe_callTy call_tuple_of g m PyProof.Rows.boot_tuple ha (by decide) (by decide) st an
    | sum => exact pe_callB (id := "sum") no_rule g m (by decide +kernel) ha (by decide) (by decide) st an
    | all => exact pe_callB (id := "all") no_rule g m (by decide +kernel) ha (by decide) (by decide) st an
    | any => exact pe_callB (id := "any") no_rule g m (by decide +kernel) ha (by decide) (by decide) st an
    | sorted => exact pe_callB (id := "sorted") no_rule g m (by decide +kernel) ha (by decide) (by decide) st an
    | str => exact pe_callTy (T := "str") no_rule g m (by decide +kernel) ha (by decide) (by decide) st an
    | repr => exact pe_callB (id := "repr") no_rule g m (by decide +kernel) ha (by decide) (by decide) st an
  refine PE.imp fin fun σ H Q t => ?_
  obtain ⟨μ, h, ρ, hr, er, q⟩ := t
  simp only [evE] at q
  refine ta_go hr er q fun d h1 μ1 H1 v hr1 fr1 er1 q1 p1 => ?_
  rw [ok.K]
  exact bi_ok hr1 q1 p1
theorem se_isi {a : E} {t : Ty} {e : Expr} {p p2 pos : Pos} (ok : XOk T B C k W sc X) (h1 : glB sc "isinstance" = true) (h2 : glB sc (Str.ofString t.nm) = true) (hs : nst e = true) (ha : PE X e (te T C W a)) :
    PE X (.Call (.Name "isinstance" p) [e, .Name (Str.ofString t.nm) p2] [] pos) (te T C W (.isi a t)) := by
  have ht : PE X (.Name (Str.ofString t.nm) p2) (tC (.ty t.nm)) := by
    cases t with
    | int => exact pe_bltn (ok.gl' h2) (ok.bi _ (by decide)) PyProof.Rows.boot_int rfl
    | bool => exact pe_bltn (ok.gl' h2) (ok.bi _ (by decide)) PyProof.Rows.boot_bool rfl
    | str => exact pe_bltn (ok.gl' h2) (ok.bi _ (by decide)) PyProof.Rows.boot_str rfl
    | tuple => exact pe_bltn (ok.gl' h2) (ok.bi _ (by decide)) PyProof.Rows.boot_tuple rfl
    | list => exact pe_bltn (ok.gl' h2) (ok.bi _ (by decide)) PyProof.Rows.boot_list rfl
    | dict => exact pe_bltn (ok.gl' h2) (ok.bi _ (by decide)) PyProof.Rows.boot_dict rfl
  refine PE.imp (pe_callB call_isi (ok.gl' h1) (ok.bi _ (by decide)) PyProof.Rows.boot_isinstance (pa_cons ha (pa_cons ht pa_nil) (star_of _ X.env hs)) (by decide) (by decide) (star_of _ X.env hs)) fun σ H Q t => ?_
  obtain ⟨μ, h, ρ, hr, er, q⟩ := t
  simp only [evE] at q
  refine te_go hr er q fun d h1 μ1 H1 v hr1 fr1 er1 q1 p1 => ?_
  obtain ⟨b, eb, qb⟩ := rB_of p1 hr1
  obtain ⟨tv, ty, e2⟩ := isi_ok hr1 q1 eb
  show rIsi X.K _ _ _
  rw [ok.K]
  exact ⟨v, .ty _, tv, _, b, rfl, .ty _, ty, e2, qb⟩

/-! ### methods -/
theorem sa_few : ∀ (as : E) (es : List Expr) (pos : Pos) (env : PySem.Env), mtA B as sc es = true → (backTo pos (starEach es env)).all (fun x => !x.1) = true := fun as es pos env h => by
  have := sa_any as es pos env h
  rw [List.all_eq_not_any_not]
  simp only [Bool.not_not]
  rw [this]; rfl
theorem se_meth {m : Mt} {a as : E} {o e : Expr} {es : List Expr} {p q : Pos} (ok : XOk T B C k W sc X) (hl : (p.endLine == q.line) = true) (hn : ncall o = true) (h30 : (e :: es).length < 30) (hm : mtA B as sc (e :: es) = true) (ho : PE X o (te T C W a)) (ha : PA X (e :: es) (ta T C W as)) :
    PE X (.Call (.Attribute o m.nm p) (e :: es) [] q) (te T C W (.meth m a as)) := by
  obtain ⟨hs, as', hm'⟩ := sa_head hm
  have st := star_of es X.env hs
  have an := sa_any as' es q X.env hm'
  have few : ((backTo q (starEach (e :: es) X.env)).all (fun x => !x.1) && (backToKw q (keywordEach [] X.env)).all (fun x => x.1.isSome)
      && decide ((e :: es).length + ([] : List Keyword).length + (if ([] : List Keyword).isEmpty then 0 else 1) < 30)) = true := by
    rw [sa_few as (e :: es) q X.env hm]
    have : (e :: es).length + ([] : List Keyword).length + (if ([] : List Keyword).isEmpty then 0 else 1) < 30 := h30
    rw [decide_eq_true this]
    rfl
  have fin : PE X (.Call (.Attribute o m.nm p) (e :: es) [] q) (tBM X.K m.ty (rMt m) (te T C W a) (ta T C W as)) := by
    cases m with
    | append => exact pe_bm PySem.F.plainAttrs_list PySem.F.slot_list_append PySem.F.type_list_append mt_append ho ha (base_of hn _ _ _) few hl st an
    | extend => exact pe_bm PySem.F.plainAttrs_list PySem.F.slot_list_extend PySem.F.type_list_extend mt_extend ho ha (base_of hn _ _ _) few hl st an
    | pop => exact pe_bm PySem.F.plainAttrs_list PySem.F.slot_list_pop PySem.F.type_list_pop mt_pop ho ha (base_of hn _ _ _) few hl st an
  refine PE.imp fin fun σ H Q t => ?_
  obtain ⟨μ, h, ρ, hr, er, q⟩ := t
  simp only [evE] at q
  refine te_go hr er q fun d h1 μ1 H1 v hr1 fr1 er1 q1 p1 => ?_
  split at p1
  · rename_i hv
    rw [ok.K]
    refine ⟨recv_ok hr1 q1 hv, ta_go hr1 er1 p1 fun ds h2 μ2 H2 vs hr2 fr2 er2 q2 p2 => ?_⟩
    exact mt_ok hr2 (q1.mono fr2) q2 p2
  · exact p1.elim
theorem se_meth0 {m : Mt} {a : E} {o : Expr} {p q : Pos} (ok : XOk T B C k W sc X) (hl : (p.endLine == q.line) = true) (hn : ncall o = true) (ho : PE X o (te T C W a)) :
    PE X (.Call (.Attribute o m.nm p) [] [] q) (te T C W (.meth m a .nil)) := by
  have fin : PE X (.Call (.Attribute o m.nm p) [] [] q) (tBM0 X.K m.ty (rMt m) (te T C W a)) := by
    cases m with
    | append => exact pe_bm0 PySem.F.plainAttrs_list PySem.F.slot_list_append PySem.F.type_list_append mt_append ho (base_of hn _ _ _) hl
    | extend => exact pe_bm0 PySem.F.plainAttrs_list PySem.F.slot_list_extend PySem.F.type_list_extend mt_extend ho (base_of hn _ _ _) hl
    | pop => exact pe_bm0 PySem.F.plainAttrs_list PySem.F.slot_list_pop PySem.F.type_list_pop mt_pop ho (base_of hn _ _ _) hl
  refine PE.imp fin fun σ H Q t => ?_
  obtain ⟨μ, h, ρ, hr, er, q⟩ := t
  simp only [evE] at q
  refine te_go hr er q fun d h1 μ1 H1 v hr1 fr1 er1 q1 p1 => ?_
  split at p1
  · rename_i hv
    rw [ok.K]
    refine ⟨recv_ok hr1 q1 hv, ?_⟩
    simp only [evA, Res.ok_bind] at p1
    exact mt_ok hr1 q1 .nil p1
  · exact p1.elim
end
end Ly

set_option Elab.async false
set_option linter.all false
set_option maxRecDepth 100000
set_option autoImplicit false
/-! LyE: enumerate and zip over lists and tuples in any mix. -/
namespace Ly
open PySem PySem.Spec PyProof.Rows L2

/-- a list (false) or a tuple (true), as it stands -/
def Sq (b : Bool) (K : PySem.W.Frag) (H : Hp) (a : Addr) (vs : List V) : Prop := match b with
  | false => SqL K H a vs
  | true => SqT K H a vs
def SqH (b : Bool) (h : Heap) (a : Addr) (its : Array Value) : Prop := match b with
  | false => h.IsList a its
  | true => h.IsTuple a its
def ItO (b : Bool) (h : Heap) (it a : Addr) (i : Nat) : Prop := match b with
  | false => h.IsListIter it a i
  | true => h.IsTupleIter it a i
def nwO (b : Bool) (a : Addr) : Obj := match b with
  | false => { cls := .type "list_iterator", data := .fields #[.ref a, .int 0 0] }
  | true => { cls := .type "tuple_iterator", data := .fields #[.ref a, .int 0 0] }
theorem ItO.new {b : Bool} {h : Heap} {it a : Addr} (e : h.get? it = some (nwO b a)) : ItO b h it a 0 := by
  cases b with
  | false => exact ⟨_, e, rfl, rfl⟩
  | true => exact ⟨_, e, rfl, rfl⟩
theorem ItO.kept {b : Bool} {h h' : Heap} {it a : Addr} {i : Nat} (x : ItO b h it a i) (k : ∀ o, h.get? it = some o → h'.get? it = some o) : ItO b h' it a i := by
  cases b with
  | false => exact Heap.IsListIter.at x k
  | true => exact Heap.IsTupleIter.at x k
theorem ItO.live {b : Bool} {h : Heap} {it a : Addr} {i : Nat} (x : ItO b h it a i) : ∃ o, h.get? it = some o ∧ ∀ v, o.data ≠ .cell v := by
  cases b with
  | false => obtain ⟨o, e, _, d⟩ := x; exact ⟨o, e, fun v q => by rw [d] at q; cases q⟩
  | true => obtain ⟨o, e, _, d⟩ := x; exact ⟨o, e, fun v q => by rw [d] at q; cases q⟩
theorem draws_of {P : Program} {w : World} {A : Around} (b : Bool) (hh : A.handled = none) (it a : Addr) (hne : a ≠ it) (its : Array Value) :
    Draws P w A it [it, a] its.size (fun i v => its[i]? = some v) (fun i h => ItO b h it a i ∧ SqH b h a its) := by
  cases b with
  | false => exact .list hh it a hne its
  | true => exact .tuple hh it a hne its
theorem begins_of (b : Bool) (a : Addr) (its : Array Value) : Begins (.ref a) (nwO b a) fun h => SqH b h a its := by
  cases b with
  | false => exact begins_list a its
  | true => exact begins_tuple a its
theorem inv_sq {X : Cx} {pins : List (Addr × Obj)} {σ : L2.St} {H : Hp} {s : Shared} {b : Bool} {a : Addr} {xs : List V} (I : Inv X pins σ H s) (h : Sq b X.K H a xs) :
    ∃ its : List Value, Vals xs its ∧ SqH b s.heap a its.toArray := by
  cases b with
  | false => obtain ⟨its, r, p, _⟩ := I.list h; exact ⟨its, r, p.isList⟩
  | true => obtain ⟨its, r, p, _⟩ := I.tuple h; exact ⟨its, r, p⟩
theorem inv_inj {X : Cx} {pins : List (Addr × Obj)} {σ : L2.St} {H : Hp} {s : Shared} {b : Bool} {a : Addr} {xs ys : List V} (I : Inv X pins σ H s) (h : Sq b X.K H a xs) (h' : Sq b X.K H a ys) : xs = ys := by
  cases b with
  | false => exact I.list_inj h h'
  | true => exact I.tuple_inj h h'

/-! ### enumerate -/
def IteA (b : Bool) (K : PySem.W.Frag) (a : Addr) : It where
  go := fun i H => ∃ (xs : List V) (x : V), Sq b K H a xs ∧ xs[i]? = some x
  yld := fun i H v H' => ∃ T x, v = .ref T ∧ H T = none ∧ H' = upd H T (.tup [.int (i : Nat), x]) ∧ ∀ xs, Sq b K H a xs → xs[i]? = some x
  stop := fun i H => ∃ xs : List V, Sq b K H a xs ∧ xs.length = i
theorem turn_enumA {P : Program} {w : World} {K : PySem.W.Frag} {elts : List Expr} {kk : Nat} {tpos : Pos} {b : Bool} {a e it : Addr} (hae : a ≠ e) (hai : a ≠ it) (hei : e ≠ it) :
    Turn P w K (.Tuple elts kk tpos) (IteA b K a) [e, it] e (fun i h => (∃ old, IsEnum h e it ((i : Nat) : Int) old) ∧ ItO b h it a i) where
  mem := List.mem_cons_self ..
  obj := fun i h ⟨⟨old, he⟩, hi⟩ c hc => by
    rcases List.mem_cons.mp hc with z | z
    · subst z; exact ⟨_, he, fun v q => nomatch q⟩
    · rw [List.mem_singleton.mp z]; exact hi.live
  keep := fun i h h' ⟨⟨old, he⟩, hi⟩ k => ⟨⟨old, k e (List.mem_cons_self ..) _ he⟩, hi.kept fun o q => k it (by simp) o q⟩
  item := by
    intro X hP hw hK hc i pins s σ H E I hf ⟨⟨old, he⟩, hi⟩ ⟨xs, x, hq, hx⟩
    subst hP hw hK
    obtain ⟨its, rv, sh⟩ := inv_sq I hq
    obtain ⟨u, hu, ru⟩ := rv.get hx
    have hul : i < its.toArray.size := by
      have := (List.getElem?_eq_some_iff.mp hu).1
      simpa using this
    have hel : e < s.heap.objs.size := Heap.lt_size he
    have hil : it < s.heap.objs.size := by obtain ⟨_, q, _⟩ := hi.live; exact Heap.lt_size q
    refine wpAny_pyNext_enum_itemD (draws_of (A := X.A.in1) b (I.ok.hd hc) it a hai its.toArray) he ⟨hi, sh⟩ hul hei (by simp [hei, Ne.symm hae]) fun x' h' tk hP ho hst hT hsz hk => ?_
    have ex : x' = u := by
      have q1 : its[i]? = some x' := by simpa using hP
      rw [hu] at q1; exact (Option.some.inj q1).symm
    subst ex
    refine ⟨_, rfl, wpAny_letOwnedTupleGo_enum (s := { s with heap := h', toks := tk + 1 }) ho fun h'' he' sb => ?_⟩
    have hT2 := (sb.2 s.heap.objs.size (Nat.ne_of_gt hel)).trans hT
    have new : ObjOk X.prog X.w (upd H s.heap.objs.size (.tup [.int (i : Nat), x])) h'' s.heap.objs.size (.tup [.int (i : Nat), x]) := by
      refine ⟨by show 2 ≤ sizeLine; decide, [.int i tk, x'], .cons ⟨tk, rfl⟩ (.cons ru .nil), ?_⟩
      exact ⟨_, hT2, rfl, _, rfl⟩
    have same : ∀ c o, c ∉ [e, it] → s.heap.get? c = some o → h''.get? c = some o := fun c o hcm q => by
      have n1 : c ≠ e := fun z => hcm (by rw [z]; exact List.mem_cons_self ..)
      have n2 : c ≠ it := fun z => hcm (by rw [z]; simp)
      exact (sb.2 c n1).trans (hk c o n1 n2 q)
    have I1 := I.turnedNew (t' := tk + 1) same hf (Nat.le_refl _) new
    refine ⟨.ref s.heap.objs.size, _, I1, rfl, ⟨_, x, rfl, I.hok.fresh (Nat.le_refl _), rfl, fun ys hy => by rw [inv_inj I hy hq]; exact hx⟩, ⟨⟨x', ?_⟩, hst.1.kept fun o q => (sb.2 it (Ne.symm hei)).trans q⟩, fun c hcm => ?_⟩
    · rw [show ((i + 1 : Nat) : Int) = (i : Int) + 1 by omega]; exact he'
    · have hlt : c < s.heap.objs.size := by
        rcases List.mem_cons.mp hcm with z | z
        · rw [z]; exact hel
        · rw [List.mem_singleton.mp z]; exact hil
      rw [upd_ne (Nat.ne_of_lt hlt)]
      exact (hf c hcm).1
  done := by
    intro X hP hw hK hc i pins s σ H E I hf ⟨⟨old, he⟩, hi⟩ ⟨xs, hq, hx⟩
    subst hP hw hK
    obtain ⟨its, rv, sh⟩ := inv_sq I hq
    obtain ⟨f0, f1, f2, f3, f4, f5⟩ := hf it (by simp)
    have hz : its.toArray.size = i := by rw [List.size_toArray, ← rv.length]; exact hx
    refine wpAny_pyNext_enum_endD (draws_of (A := X.A.in1) b (I.ok.hd hc) it a hai its.toArray) he ⟨by rw [hz]; exact hi, sh⟩ fun h' eb => ⟨rfl, I.turned (t' := s.toks) (fun c o hb q => eb c o hb q) f0 f1 f3 f4 f5⟩
  self := fun A i s Q E st h => by obtain ⟨⟨_, he⟩, _⟩ := st; exact wpAny_pyIter_enum he h

set_option maxHeartbeats 1000000 in
theorem meets_enumA {v : Value} {o : Obj} {H : Heap → Prop} (B : Begins v o H) :
    Meets (Builtin.«enumerate.__new__» ⟨[.type "enumerate", v], []⟩) (fun _ R s => H s.heap ∧
      R (.ok (.ret (.ref (s.heap.push o).objs.size))) { s with heap := (s.heap.push o).push { cls := .type "enumerate", data := .fields #[.none, .bool false, .ref s.heap.objs.size, rawInt 0, .none, .none] } }) :=
  .of_wp fun prog w A R s h => by
    obtain ⟨hp, g, d, tk, os⟩ := s
    obtain ⟨h1, h⟩ := h
    have hsub := sub_enumerate
    have q1 : ∀ {A' : Around} {E : Value → Shared → Prop} {Q : Value → Shared → Prop}, Q (.ref hp.objs.size) ⟨hp.push o, g, d, tk, os⟩ → wpAny (model prog w) A' (pyIter v) Q E ⟨hp, g, d, tk, os⟩ :=
      fun q => B.iter prog w _ _ ⟨hp, g, d, tk, os⟩ _ h1 q
    wp_walk using q1
    refine wpAny_stack_any fun st => wpAny_pure ?_
    split
    · rename_i c _ _ _ _ _
      cases (c == Value.type "enumerate") <;> (wp_walk using q1; exact ⟨_, rfl, h⟩)
    · wp_walk using q1
      exact ⟨_, rfl, h⟩
theorem call_enumA {P : Program} {w : World} {A : Around} {E : Value → Shared → Prop} {s : Shared} {v : Value} {o : Obj} {H : Heap → Prop} {Q : Value → Shared → Prop} (B : Begins v o H) (h1 : H s.heap)
    (h : ∀ h', IsEnum h' (s.heap.objs.size + 1) s.heap.objs.size 0 .none → h'.get? s.heap.objs.size = some o → (∀ b o, s.heap.get? b = some o → h'.get? b = some o) → Q (.ref (s.heap.objs.size + 1)) { s with heap := h' }) :
    wpAny (model P w) A (call (.type "enumerate") [v]) Q E s := by
  refine callType_new F.called_enumerate (by decide) (F.typeCall_enumerate_1 _) (F.newCall_enumerate_1 _) (fun obj => F.args_object_init_2 obj _) F.entry_enumerate_new (meets_enumA B) ⟨h1, ?_⟩
  have hz : (s.heap.push o).objs.size = s.heap.objs.size + 1 := Heap.size_push ..
  have he := Heap.get?_push_size (s.heap.push o) (o := { cls := .type "enumerate", data := .fields #[.none, .bool false, .ref s.heap.objs.size, rawInt 0, .none, .none] }) rfl
  rw [hz] at he
  show _ ∧ _
  rw [hz]
  exact ⟨⟨_, he, rfl⟩, h _ he (Heap.get?_push_of_some _ (Heap.get?_push_size _ B.free)) fun c u x => Heap.get?_push_of_some _ (Heap.get?_push_of_some _ x)⟩
def iEnumA (K : PySem.W.Frag) (ta : TA) : TI := fun σ H R => ta σ H fun vs H1 => ∃ b a xs, vs = [.ref a] ∧ Sq b K H1 a xs ∧ R (IteA b K a) H1
theorem sq_lt {b : Bool} {h : Heap} {a : Addr} {its : Array Value} (x : SqH b h a its) : a < h.objs.size := by
  cases b with
  | false => obtain ⟨_, e, _⟩ := x; exact Heap.lt_size e
  | true => obtain ⟨_, e, _⟩ := x; exact Heap.lt_size e
theorem pi_enumA {X : Cx} {e : Expr} {ta : TA} {p pos tpos : Pos} {elts : List Expr} {kk : Nat} (hg : Gl X "enumerate") (hm : X.mg "enumerate" = none) (ha : PA X [e] ta) (hs : starEach [e] X.env = [(false, eval e X.env)]) :
    PI X (.Tuple elts kk tpos) (.Call (.Name "enumerate" p) [e] [] pos) (iEnumA X.K ta) := by
  refine ⟨fun pins s σ H R I h => ?_⟩
  refine Call_ (ld_blt I hg hm boot_enumerate (PyProof.Rows.callWith_type1 (thn (ha.run pos pins s σ H _ I h) fun us s1 ⟨vs, H1, I1, r1, q1⟩ => ?_) hs rfl))
  obtain ⟨b, a, xs, rfl, hq, q⟩ := q1
  cases r1 with
  | cons r rr =>
    cases rr
    cases r
    obtain ⟨its, rv, sh⟩ := inv_sq I1 hq
    have hal := sq_lt sh
    refine call_enumA (begins_of b a its.toArray) sh fun h' he hit hk => wpAny_pyIter_enum he ?_
    have I2 : Inv X pins σ H1 { s1 with heap := h' } := I1.kept (t' := s1.toks) hk
    have na : ∀ j : Nat, a ≠ s1.heap.objs.size + j := fun j => Nat.ne_of_lt (Nat.lt_of_lt_of_le hal (Nat.le_add_right _ _))
    refine ⟨s1.heap.objs.size + 1, [s1.heap.objs.size + 1, s1.heap.objs.size], _, _, H1, rfl, I2, turn_enumA (na 1) (na 0) (Nat.succ_ne_self _), ⟨⟨.none, he⟩, ItO.new hit⟩, fun c hc => ?_, q⟩
    have hle : s1.heap.objs.size ≤ c := by
      rcases List.mem_cons.mp hc with z | z
      · rw [z]; exact Nat.le_add_right _ _
      · rw [List.mem_singleton.mp z]; exact Nat.le_refl _
    exact I1.fpOk hle (I1.hok.fresh hle)

/-! ### zip of two -/
def ItzA (b1 b2 : Bool) (K : PySem.W.Frag) (a1 a2 : Addr) : It where
  go := fun i H => ∃ (xs ys : List V) (x y : V), Sq b1 K H a1 xs ∧ Sq b2 K H a2 ys ∧ xs[i]? = some x ∧ ys[i]? = some y
  yld := fun i H v H' => ∃ T x y, v = .ref T ∧ H T = none ∧ H' = upd H T (.tup [x, y]) ∧ (∀ xs, Sq b1 K H a1 xs → xs[i]? = some x) ∧ ∀ ys, Sq b2 K H a2 ys → ys[i]? = some y
  stop := fun i H => ∃ xs ys : List V, Sq b1 K H a1 xs ∧ Sq b2 K H a2 ys ∧ i ≤ xs.length ∧ i ≤ ys.length ∧ (i = xs.length ∨ i = ys.length)
theorem turn_zipA {P : Program} {w : World} {K : PySem.W.Frag} {elts : List Expr} {kk : Nat} {tpos : Pos} {b1 b2 : Bool} {a1 a2 z TI TO i1 i2 : Addr} (S : ZipSep2 z TI TO i1 i2 [i1, a1] [i2, a2]) (n1 : a1 ≠ i1) (n2 : a2 ≠ i2) :
    Turn P w K (.Tuple elts kk tpos) (ItzA b1 b2 K a1 a2) [z, TI, TO, i1, i2] z (fun i h => IsZip h z TI TO .none ∧ IsTupOf2 h TI (.ref i1) (.ref i2) ∧ (∃ x y, IsTupOf2 h TO x y) ∧ ItO b1 h i1 a1 i ∧ ItO b2 h i2 a2 i) where
  mem := List.mem_cons_self ..
  obj := fun i h ⟨hz, hTI, ⟨x, y, hTO⟩, h1, h2⟩ c hc => by
    have e' : c = z ∨ c = TI ∨ c = TO ∨ c = i1 ∨ c = i2 := by simpa using hc
    rcases e' with rfl | rfl | rfl | rfl | rfl
    · exact ⟨_, hz, fun v q => nomatch q⟩
    · exact ⟨_, hTI, fun v q => nomatch q⟩
    · exact ⟨_, hTO, fun v q => nomatch q⟩
    · exact h1.live
    · exact h2.live
  keep := fun i h h' ⟨hz, hTI, ⟨x, y, hTO⟩, h1, h2⟩ k => ⟨k z (by simp) _ hz, k TI (by simp) _ hTI, ⟨x, y, k TO (by simp) _ hTO⟩, h1.kept fun o q => k i1 (by simp) o q, h2.kept fun o q => k i2 (by simp) o q⟩
  item := by
    intro X hP hw hK hc i pins s σ H E I hf ⟨hz, hTI, ⟨x0, y0, hTO⟩, h1, h2⟩ ⟨xs, ys, x, y, hqx, hqy, hx, hy⟩
    subst hP hw hK
    obtain ⟨its, rv, p1⟩ := inv_sq I hqx
    obtain ⟨its2, rv2, p2⟩ := inv_sq I hqy
    obtain ⟨u, hu, ru⟩ := rv.get hx
    obtain ⟨u2, hu2, ru2⟩ := rv2.get hy
    have l1 : i < its.toArray.size := by simpa using (List.getElem?_eq_some_iff.mp hu).1
    have l2 : i < its2.toArray.size := by simpa using (List.getElem?_eq_some_iff.mp hu2).1
    have hzl : z < s.heap.objs.size := Heap.lt_size hz
    refine wpAny_pyNext_zipD2_item S (draws_of (A := X.A.in1) b1 (I.ok.hd hc) i1 a1 n1 its.toArray) (draws_of (A := X.A.in1) b2 (I.ok.hd hc) i2 a2 n2 its2.toArray) hz hTI hTO ⟨h1, p1⟩ ⟨h2, p2⟩ l1 l2 fun x1 x2 h' tk y1 y2 z' TO' s1' s2' hT hsz hk => ?_
    have e1 : x1 = u := by
      have q1 : its[i]? = some x1 := by simpa using y1
      rw [hu] at q1; exact (Option.some.inj q1).symm
    have e2 : x2 = u2 := by
      have q1 : its2[i]? = some x2 := by simpa using y2
      rw [hu2] at q1; exact (Option.some.inj q1).symm
    subst e1 e2
    refine ⟨_, rfl, wpAny_letOwnedTupleGo_zip (s := { s with heap := h', toks := tk }) z' fun h'' z'' sb => ?_⟩
    have hT2 := (sb.2 s.heap.objs.size (Nat.ne_of_gt hzl)).trans hT
    have new : ObjOk X.prog X.w (upd H s.heap.objs.size (.tup [x, y])) h'' s.heap.objs.size (.tup [x, y]) := by
      refine ⟨by show 2 ≤ sizeLine; decide, [x1, x2], .cons ru (.cons ru2 .nil), ?_⟩
      exact ⟨_, hT2, rfl, _, rfl⟩
    have nz : i1 ≠ z := fun q => S.zf1 (by rw [← q]; exact S.mem1)
    have nz2 : i2 ≠ z := fun q => S.zf2 (by rw [← q]; exact S.mem2)
    have same : ∀ c o, c ∉ [z, TI, TO, i1, i2] → s.heap.get? c = some o → h''.get? c = some o := fun c o hcm q => by
      simp only [List.mem_cons, List.not_mem_nil, or_false, not_or] at hcm
      exact (sb.2 c hcm.1).trans (hk c o hcm.1 hcm.2.2.1 hcm.2.2.2.1 hcm.2.2.2.2 q)
    have I1 := I.turnedNew (t' := tk) same hf (Nat.le_refl _) new
    refine ⟨.ref s.heap.objs.size, _, I1, rfl, ⟨_, x, y, rfl, I.hok.fresh (Nat.le_refl _), rfl, fun l hl => by rw [inv_inj I hl hqx]; exact hx, fun l hl => by rw [inv_inj I hl hqy]; exact hy⟩, ⟨z'', ?_, ⟨x1, x2, ?_⟩, ?_, ?_⟩, fun c hcm => ?_⟩
    · exact (sb.2 _ S.TIz).trans (hk _ _ S.TIz S.TITO S.TIi1 S.TIi2 hTI)
    · exact (sb.2 _ S.TOz).trans TO'
    · exact s1'.1.kept fun o q => (sb.2 _ nz).trans q
    · exact s2'.1.kept fun o q => (sb.2 _ nz2).trans q
    · have hlt : c < s.heap.objs.size := by
        have e' : c = z ∨ c = TI ∨ c = TO ∨ c = i1 ∨ c = i2 := by simpa using hcm
        rcases e' with q | q | q | q | q
        · rw [q]; exact hzl
        · rw [q]; exact Heap.lt_size hTI
        · rw [q]; exact Heap.lt_size hTO
        · rw [q]; obtain ⟨_, e1, _⟩ := h1.live; exact Heap.lt_size e1
        · rw [q]; obtain ⟨_, e2, _⟩ := h2.live; exact Heap.lt_size e2
      rw [upd_ne (Nat.ne_of_lt hlt)]
      exact (hf c hcm).1
  done := by
    intro X hP hw hK hc i pins s σ H E I hf ⟨hz, hTI, ⟨x0, y0, hTO⟩, h1, h2⟩ ⟨xs, ys, hqx, hqy, le1, le2, hend⟩
    subst hP hw hK
    obtain ⟨its, rv, p1⟩ := inv_sq I hqx
    obtain ⟨its2, rv2, p2⟩ := inv_sq I hqy
    have z1 : its.toArray.size = xs.length := by rw [List.size_toArray, rv.length]
    have z2 : its2.toArray.size = ys.length := by rw [List.size_toArray, rv2.length]
    exact wpAny_pyNext_zipD2_end S (draws_of (A := X.A.in1) b1 (I.ok.hd hc) i1 a1 n1 its.toArray) (draws_of (A := X.A.in1) b2 (I.ok.hd hc) i2 a2 n2 its2.toArray) hz hTI hTO ⟨h1, p1⟩ ⟨h2, p2⟩ (by rw [z1]; exact le1) (by rw [z2]; exact le2) (by rw [z1, z2]; exact hend)
      fun h' tk hk => ⟨rfl, I.turnedL (t' := tk) (ch := [z, TI, TO, i1, i2]) (fun c o hcm q => by
        simp only [List.mem_cons, List.not_mem_nil, or_false, not_or] at hcm
        exact hk c o hcm.1 hcm.2.2.1 hcm.2.2.2.1 hcm.2.2.2.2 q) hf⟩
  self := fun A i s Q E st h => wpAny_pyIter_zip st.1 h

def iZipB (K : PySem.W.Frag) (ta : TA) : TI := fun σ H R => ta σ H fun vs H1 => ∃ b1 b2 a1 a2 xs ys, vs = [.ref a1, .ref a2] ∧ Sq b1 K H1 a1 xs ∧ Sq b2 K H1 a2 ys ∧ R (ItzA b1 b2 K a1 a2) H1
theorem pi_zipB {X : Cx} {e e2 : Expr} {ta : TA} {p pos tpos : Pos} {elts : List Expr} {kk : Nat} (hg : Gl X "zip") (hm : X.mg "zip" = none) (ha : PA X [e, e2] ta)
    (hs : starEach [e, e2] X.env = (false, eval e X.env) :: starEach [e2] X.env) (hpl : (backTo pos (starEach [e2] X.env)).any (·.1) = false) :
    PI X (.Tuple elts kk tpos) (.Call (.Name "zip" p) [e, e2] [] pos) (iZipB X.K ta) := by
  refine ⟨fun pins s σ H R I h => ?_⟩
  refine Call_ (ld_blt I hg hm PyProof.Rows.boot_zip (PyProof.Rows.callWith_type1 (thn (ha.run pos pins s σ H _ I h) fun us s1 ⟨vs, H1, I1, r1, q1⟩ => ?_) hs hpl))
  obtain ⟨b1, b2, a1, a2, xs, ys, rfl, hqx, hqy, q⟩ := q1
  cases r1 with
  | cons r rr =>
    cases rr with
    | cons r' rr =>
      cases rr
      cases r
      cases r'
      obtain ⟨its, rv, p1⟩ := inv_sq I1 hqx
      obtain ⟨its2, rv2, p2⟩ := inv_sq I1 hqy
      have al1 := sq_lt p1
      have al2 := sq_lt p2
      refine zip_begins2 (begins_of b1 a1 its.toArray) (begins_of b2 a2 its2.toArray) p1 p2 fun h' hz hTI hTO g1 g2 hsz hk => wpAny_pyIter_zip hz ?_
      have I2 : Inv X pins σ H1 { s1 with heap := h' } := I1.kept (t' := s1.toks) hk
      have S := zip_sep2 (N := s1.heap.objs.size) (fp1 := [a1]) (fp2 := [a2]) (fun b hb => by rw [List.mem_singleton.mp hb]; exact al1) (fun b hb => by rw [List.mem_singleton.mp hb]; exact al2)
      refine ⟨s1.heap.objs.size + 4, [s1.heap.objs.size + 4, s1.heap.objs.size + 2, s1.heap.objs.size + 3, s1.heap.objs.size, s1.heap.objs.size + 1], _, _, H1, rfl, I2, turn_zipA S (Nat.ne_of_lt al1) (Nat.ne_of_lt (Nat.lt_succ_of_lt al2)), ⟨hz, hTI, ⟨_, _, hTO⟩, ItO.new g1, ItO.new g2⟩, fun c hcm => ?_, q⟩
      have hle : s1.heap.objs.size ≤ c := by
        simp only [List.mem_cons, List.not_mem_nil, or_false] at hcm
        rcases hcm with z | z | z | z | z <;> (rw [z]; first | exact Nat.le_refl _ | exact Nat.le_add_right _ _)
      exact I1.fpOk hle (I1.hok.fresh hle)
end Ly

set_option Elab.async false
set_option linter.all false
set_option maxRecDepth 100000
set_option autoImplicit false
/-! Ly5: targets, walks, comprehensions. -/
namespace Ly
open PySem L2

/-! ### targets -/
def gsN : List Nat → TGs
  | [] => gNil
  | i :: is => gCons (gName i) (gsN is)
def gOf (K : PySem.W.Frag) : Tg → TG
  | .name i => gName i
  | .tup is => fun v σ H Q => gTup K is.length (gsN is) v σ H Q ∨ gLst K is.length (gsN is) v σ H Q
def setsS (σ : St) : List Nat → List V → St
  | i :: is, v :: vs => setsS (σ.set i (some v)) is vs
  | _, _ => σ
section
variable {T : Tb} {B : Nm} {C : Cf} {k : Nat} {W : WX} {sc : Scope} {X : Cx} {μ : List Addr} {h : Hh} {H : Hp}
theorem sets_ok : ∀ {is : List Nat} {ds : List D} {vs : List V} {ρ : Env} {σ : St}, EnvR T μ H ρ σ → Reps T μ H ds vs → EnvR T μ H (setsV ρ is ds) (setsS σ is vs)
  | [], _, _, _, _, e, _ => by simp only [setsV, setsS]; exact e
  | _ :: _, _, _, _, _, e, .nil => by simp only [setsV, setsS]; exact e
  | i :: is, _, _, _, _, e, .cons a b => by
    simp only [setsV, setsS]
    exact sets_ok (e.set i a) b
theorem gsN_ok {Q : St → Hp → Prop} : ∀ {is : List Nat} {vs : List V} {σ : St}, vs.length = is.length → Q (setsS σ is vs) H → gsN is vs σ H Q
  | [], [], _, _, q => ⟨rfl, q⟩
  | [], _ :: _, _, e, _ => by simp at e
  | _ :: _, [], _, e, _ => by simp at e
  | i :: is, v :: vs, _, e, q => ⟨v, vs, rfl, gsN_ok (is := is) (by simpa using e) q⟩
theorem wipe_get : ∀ (own : List Nat) (σ : St) (j : Nat), (L2.wipe σ own)[j]? = if j ∈ own then σ[j]?.map (fun _ => none) else σ[j]? := by
  intro own
  induction own with
  | nil => intro σ j; simp [L2.wipe]
  | cons i own ih =>
    intro σ j
    unfold L2.wipe
    rw [List.getElem?_set, ih, wipe_length]
    by_cases hij : i = j
    · subst hij
      simp only [if_true, List.mem_cons, true_or]
      by_cases hl : i < σ.length
      · simp [hl]
      · simp [hl]
    · have : j ∈ i :: own ↔ j ∈ own := by
        simp only [List.mem_cons]
        exact ⟨fun z => z.elim (fun z => absurd z.symm hij) id, .inr⟩
      simp only [if_neg hij, this]
theorem wipe_set (own : List Nat) (i : Nat) (v : V) (σ : St) (hi : i ∈ own) : L2.wipe (σ.set i (some v)) own = L2.wipe σ own := by
  refine List.ext_getElem? fun j => ?_
  rw [wipe_get, wipe_get, List.getElem?_set]
  by_cases hij : i = j
  · subst hij
    simp only [if_true, if_pos hi]
    by_cases hl : i < σ.length
    · simp [hl]
    · simp [hl]
  · simp [hij]
theorem wipe_wipe (own : List Nat) (σ : St) : L2.wipe (L2.wipe σ own) own = L2.wipe σ own := by
  refine List.ext_getElem? fun j => ?_
  rw [wipe_get, wipe_get]
  by_cases hj : j ∈ own
  · simp only [if_pos hj, Option.map_map]
    rfl
  · simp only [if_neg hj]
/-- a target takes a value -/
theorem bind_tg {tg : Tg} {d : D} {v : V} {ρ ρ' : Env} {σ : St} {Q : St → Hp → Prop} (hr : HR T μ h H) (er : EnvR T μ H ρ σ) (q : Rep T μ H d v) (e : bindTg h ρ tg d = some ρ')
    (f : ∀ σ', EnvR T μ H ρ' σ' → (∀ own : List Nat, tg.slots.all own.contains = true → L2.wipe σ' own = L2.wipe σ own) → Q σ' H) : gOf T.K tg v σ H Q := by
  cases tg with
  | name i =>
    simp only [bindTg, Option.some.injEq] at e
    subst e
    exact f _ (er.set i q) fun own ho => wipe_set own i v σ (by simpa [Tg.slots] using ho)
  | tup is =>
    simp only [bindTg] at e
    split at e
    · rename_i xs ex
      split at e
      · rename_i hl
        cases e
        obtain ⟨a, vs, rfl, qs, s⟩ := hr.seq ex q
        have hl' : vs.length = is.length := by rw [← qs.length]; exact hl
        have wn : ∀ (own : List Nat) (is : List Nat) (vs : List V) (σ : St), (∀ i ∈ is, i ∈ own) → L2.wipe (setsS σ is vs) own = L2.wipe σ own := by
          intro own is
          induction is with
          | nil => intro vs σ _; cases vs <;> rfl
          | cons i is ih =>
            intro vs σ hi
            cases vs with
            | nil => rfl
            | cons v vs =>
              simp only [setsS]
              rw [ih vs _ fun j hj => hi j (List.mem_cons_of_mem _ hj), wipe_set own i v σ (hi i List.mem_cons_self)]
        have q' : gsN is vs σ H Q := gsN_ok hl' (f _ (sets_ok er qs) fun own ho => wn own is vs σ fun i hi => by
          have := List.all_eq_true.mp ho i hi
          simpa using this)
        rcases s with s | s
        · exact .inr ⟨a, vs, rfl, s, hl', q'⟩
        · exact .inl ⟨a, vs, rfl, s, hl', q'⟩
      · cases e
    · cases e
/-- names that may be stored to -/
def Sto (sc : Scope) (X : Cx) : Prop := ∀ x, locB sc x = true → Loc X.env.scope x ∧ (X.fn x = true ∨ X.env.scope.names.lookup x = some .local)
theorem pg_names (hn : X.N = B.N) (nd : B.N.Nodup) (st : Sto sc X) : ∀ (is : List Nat) (es : List Expr), mtNames B sc is es = true → PGs X es (gsN is) ∧ (assignEach es X.env).length = is.length ∧ (assignEach es X.env).findIdx? (·.1) = none
  | [], [], _ => ⟨pgs_nil, rfl, rfl⟩
  | i :: is, .Name x p :: es, h => by
    simp only [mtNames, Bool.and_eq_true, decide_eq_true_eq] at h
    obtain ⟨a, b, c⟩ := pg_names hn nd st is es h.2
    obtain ⟨l1, l2⟩ := st x h.1.2
    have g : PG X (.Name x p) (gName i) := pg_name (by rw [hn]; exact nd) (by rw [hn]; exact h.1.1) l1 l2
    refine ⟨pgs_cons g a, ?_, ?_⟩
    · show (assignEach es X.env).length + 1 = is.length + 1
      rw [b]
    · show ((false, assign (.Name x p) X.env) :: assignEach es X.env).findIdx? (·.1) = none
      rw [List.findIdx?_cons]
      simp [c]
  | [], _ :: _, h => by simp [mtNames] at h
  | _ :: _, [], h => by simp [mtNames] at h
  | i :: is, e :: es, h => by
    cases e with
    | Name x p =>
      simp only [mtNames, Bool.and_eq_true, decide_eq_true_eq] at h
      obtain ⟨a, b, c⟩ := pg_names hn nd st is es h.2
      obtain ⟨l1, l2⟩ := st x h.1.2
      have g : PG X (.Name x p) (gName i) := pg_name (by rw [hn]; exact nd) (by rw [hn]; exact h.1.1) l1 l2
      refine ⟨pgs_cons g a, ?_, ?_⟩
      · show (assignEach es X.env).length + 1 = is.length + 1
        rw [b]
      · show ((false, assign (.Name x p) X.env) :: assignEach es X.env).findIdx? (·.1) = none
        rw [List.findIdx?_cons]
        simp [c]
    | _ => simp [mtNames] at h
theorem pg_tg {tg : Tg} {e : Expr} (hn : X.N = B.N) (nd : B.N.Nodup) (hc : X.calm = true) (st : Sto sc X) (h : mtTg B sc tg e = true) : PG X e (gOf X.K tg) := by
  unfold mtTg at h
  split at h
  · simp only [Bool.and_eq_true, decide_eq_true_eq] at h
    obtain ⟨l1, l2⟩ := st _ h.2
    exact pg_name (by rw [hn]; exact nd) (by rw [hn]; exact h.1) l1 l2
  · obtain ⟨a, b, c⟩ := pg_names hn nd st _ _ h
    exact PG.or (pg_tup hc a b c) (pg_lst hc a b c)
  · cases h

/-! ### walks -/
/-- what goes over the items of a plan -/
structure WalkR (T : Tb) (μ : List Addr) (H : Hp) (p : Plan) (J : It) : Prop where
  goes : ∀ i μ1 h1 H1, HR T μ1 h1 H1 → Fr μ H μ1 H1 → p.ok h1 = true → i < p.its.length → J.go i H1
  stops : ∀ μ1 h1 H1, HR T μ1 h1 H1 → Fr μ H μ1 H1 → p.ok h1 = true → J.stop p.its.length H1
  ylds : ∀ i μ1 h1 H1 x H2, HR T μ1 h1 H1 → Fr μ H μ1 H1 → p.ok h1 = true → i < p.its.length → J.yld i H1 x H2 → ∃ d, p.its[i]? = some d ∧ HR T μ1 h1 H2 ∧ Fr μ1 H1 μ1 H2 ∧ Rep T μ1 H2 d x
def ti (T : Tb) (C : Cf) (W : WX) (e : E) : TI := fun σ H R => ∃ μ h ρ, HR T μ h H ∧ EnvR T μ H ρ σ ∧ Post T (WalkR T) μ H (WE W σ) (evI C e ρ h) R

/-- an item that stands in the heap as it is -/
theorem yld_at {ds : List D} {vs : List V} {i : Nat} {x : V} (hr : HR T μ h H) (q : Reps T μ H ds vs) (hi : i < ds.length) (e : vs[i]? = some x) : ∃ d, ds[i]? = some d ∧ HR T μ h H ∧ Fr μ H μ H ∧ Rep T μ H d x := by
  obtain ⟨v, e1, q1⟩ := q.get (List.getElem?_eq_getElem hi)
  rw [e] at e1
  cases e1
  exact ⟨_, List.getElem?_eq_getElem hi, hr, Fr.refl _ _, q1⟩
theorem walk_lst {n : Nat} {a : Addr} {xs : List D} (ha : μ[n]? = some a) : WalkR T μ H ⟨xs, [(n, xs)]⟩ (Itl T.K a) := by
  have rd : ∀ {μ1 : List Addr} {h1 : Hh} {H1 : Hp}, HR T μ1 h1 H1 → Fr μ H μ1 H1 → Plan.ok ⟨xs, [(n, xs)]⟩ h1 = true → ∃ vs, SqL T.K H1 a vs ∧ Reps T μ1 H1 xs vs := fun hr fr ok => by
    simp only [Plan.ok, List.all_cons, List.all_nil, Bool.and_true, decide_eq_true_eq] at ok
    obtain ⟨vs, z, q⟩ := hr.lst ok (pre_get fr.pre ha)
    exact ⟨vs, SqL.of z, q⟩
  refine ⟨fun i μ1 h1 H1 hr fr ok hi => ?_, fun μ1 h1 H1 hr fr ok => ?_, fun i μ1 h1 H1 x H2 hr fr ok hi y => ?_⟩
  · obtain ⟨vs, s, q⟩ := rd hr fr ok
    obtain ⟨v, e, _⟩ := q.get (List.getElem?_eq_getElem hi)
    exact ⟨vs, v, s, e⟩
  · obtain ⟨vs, s, q⟩ := rd hr fr ok
    exact ⟨vs, s, by rw [← q.length]; exact Nat.le_refl _⟩
  · obtain ⟨vs, s, q⟩ := rd hr fr ok
    obtain ⟨rfl, y⟩ := y
    exact yld_at hr q hi (y vs s)
theorem walk_tup {a : Addr} {xs : List D} {vs : List V} (s : SqT T.K H a vs) (q : Reps T μ H xs vs) : WalkR T μ H ⟨xs, []⟩ (Itt T.K a) := by
  refine ⟨fun i μ1 h1 H1 hr fr ok hi => ?_, fun μ1 h1 H1 hr fr ok => ?_, fun i μ1 h1 H1 x H2 hr fr ok hi y => ?_⟩
  · obtain ⟨v, e, _⟩ := q.get (List.getElem?_eq_getElem hi)
    exact ⟨vs, v, fr.w.sqT s, e⟩
  · exact ⟨vs, fr.w.sqT s, by rw [← q.length]; exact Nat.le_refl _⟩
  · obtain ⟨rfl, y⟩ := y
    exact yld_at hr (q.mono fr) hi (y vs (fr.w.sqT s))
theorem rol_sq {a : Addr} {vs : List V} (s : (∃ o, H a = some (.frz o (.lst vs))) ∨ KL T.K a vs) : SqL T.K H a vs := by
  rcases s with ⟨o, s⟩ | s
  · exact .inl (.inr ⟨o, s⟩)
  · exact .inr s
theorem rol_mono {μ' : List Addr} {H' : Hp} {a : Addr} {vs : List V} (f : Fr μ H μ' H') (s : (∃ o, H a = some (.frz o (.lst vs))) ∨ KL T.K a vs) : (∃ o, H' a = some (.frz o (.lst vs))) ∨ KL T.K a vs :=
  s.imp (fun ⟨o, q⟩ => ⟨o, f.frz _ _ _ q⟩) id
theorem walk_rol {a : Addr} {xs : List D} {vs : List V} (s : (∃ o, H a = some (.frz o (.lst vs))) ∨ KL T.K a vs) (q : Reps T μ H xs vs) : WalkR T μ H ⟨xs, []⟩ (Itl T.K a) := by
  refine ⟨fun i μ1 h1 H1 hr fr ok hi => ?_, fun μ1 h1 H1 hr fr ok => ?_, fun i μ1 h1 H1 x H2 hr fr ok hi y => ?_⟩
  · obtain ⟨v, e, _⟩ := q.get (List.getElem?_eq_getElem hi)
    exact ⟨vs, v, rol_sq (rol_mono fr s), e⟩
  · exact ⟨vs, rol_sq (rol_mono fr s), by rw [← q.length]; exact Nat.le_refl _⟩
  · obtain ⟨rfl, y⟩ := y
    exact yld_at hr (q.mono fr) hi (y vs (rol_sq (rol_mono fr s)))
theorem rangeL_get : ∀ (n i : Nat) (lo : Int), i < n → (rangeL lo n)[i]? = some (.int (lo + i))
  | 0, _, _, h => by omega
  | n + 1, 0, lo, _ => by simp [rangeL]
  | n + 1, i + 1, lo, h => by
    simp only [rangeL, List.getElem?_cons_succ]
    rw [rangeL_get n i (lo + 1) (by omega)]
    congr 2
    push_cast
    omega
theorem rangeL_len : ∀ (n : Nat) (lo : Int), (rangeL lo n).length = n
  | 0, _ => rfl
  | n + 1, lo => by simp [rangeL, rangeL_len n]
theorem walk_rng {lo : Int} {n : Nat} : WalkR T μ H ⟨rangeL lo n, []⟩ (Itr lo n) := by
  refine ⟨fun i μ1 h1 H1 hr fr ok hi => ?_, fun μ1 h1 H1 hr fr ok => ?_, fun i μ1 h1 H1 x H2 hr fr ok hi y => ?_⟩
  · simp only [rangeL_len] at hi; exact hi
  · simp only [rangeL_len]; exact Nat.le_refl _
  · simp only [rangeL_len] at hi
    obtain ⟨rfl, rfl⟩ := y
    exact ⟨_, rangeL_get n i lo hi, hr, Fr.refl _ _, .int _⟩

/-- a list or a tuple, walked -/
theorem pi_seq {tg l : Expr} {tl : TE} (hl : PE X l tl) : PI X tg l (fun σ H R => tl σ H fun x H1 => ∃ a, x = .ref a ∧ ((∃ xs, SqL X.K H1 a xs ∧ R (Itl X.K a) H1) ∨ ∃ xs, SqT X.K H1 a xs ∧ R (Itt X.K a) H1)) := by
  refine ⟨fun pins s σ H R I h => thn (hl.run pins s σ H _ I h) fun v s1 ⟨x, H1, I1, r1, q1⟩ => ?_⟩
  obtain ⟨a, rfl, q1⟩ := q1
  cases r1
  have new : ∀ b ∈ [s1.heap.objs.size], FpOk X pins H1 b := fun b hb => by
    obtain rfl : b = s1.heap.objs.size := by simpa using hb
    exact I1.fpOk (Nat.le_refl _) (I1.hok.fresh (Nat.le_refl _))
  rcases q1 with ⟨xs, sq, q⟩ | ⟨xs, sq, q⟩
  · obtain ⟨its, _, pl, _⟩ := I1.list sq
    exact wpAny_pyIter_list pl.isList ⟨s1.heap.objs.size, [s1.heap.objs.size], _, _, H1, rfl, I1.kept (t' := s1.toks) fun b o e => Heap.get?_push_of_some _ e, turn_list a _, ⟨_, Heap.get?_push_size _ rfl, rfl, rfl⟩, new, q⟩
  · obtain ⟨its, _, pl, _⟩ := I1.tuple sq
    exact wpAny_pyIter_tuple (show s1.heap.IsTuple a its.toArray from pl) ⟨s1.heap.objs.size, [s1.heap.objs.size], _, _, H1, rfl, I1.kept (t' := s1.toks) fun b o e => Heap.get?_push_of_some _ e, turn_tuple a _, ⟨_, Heap.get?_push_size _ rfl, rfl, rfl⟩, new, q⟩
theorem si_seq {a : E} {tg e : Expr} (ok : XOk T B C k W sc X) (ha : PE X e (te T C W a)) : PI X tg e (ti T C W (.seq a)) := by
  refine PI.imp (pi_seq ha) fun σ H R t => ?_
  obtain ⟨μ, h, ρ, hr, er, q⟩ := t
  simp only [evI] at q
  refine te_go hr er q fun d h1 μ1 H1 v hr1 fr1 er1 q1 p1 => ?_
  rw [ok.K]
  split at p1
  · rename_i xs ex
    cases q1 with
    | tup s qs => simp [items] at ex; subst ex; exact ⟨_, rfl, .inr ⟨_, s, p1 μ1 H1 _ hr1 (Fr.refl _ _) (walk_tup s qs)⟩⟩
    | rol s qs => simp [items] at ex; subst ex; exact ⟨_, rfl, .inl ⟨_, rol_sq s, p1 μ1 H1 _ hr1 (Fr.refl _ _) (walk_rol s qs)⟩⟩
    | ref s =>
      obtain ⟨vs, z, qs⟩ := hr1.lst (by simpa [items] using ex) s
      exact ⟨_, rfl, .inl ⟨vs, SqL.of z, p1 μ1 H1 _ hr1 (Fr.refl _ _) (walk_lst s)⟩⟩
    | _ => simp [items] at ex
  · exact p1.elim
theorem si_rng1 {a : E} {tg e : Expr} {p pos : Pos} (ok : XOk T B C k W sc X) (hg : glB sc "range" = true) (hs : nst e = true) (ha : PE X e (te T C W a)) : PI X tg (.Call (.Name "range" p) [e] [] pos) (ti T C W (.rng1 a)) := by
  refine PI.imp (pi_range1 (ok.gl' hg) (ok.bi _ (by decide)) (pa_cons ha pa_nil (star_of [] X.env hs)) (star_of [] X.env hs)) fun σ H R t => ?_
  obtain ⟨μ, h, ρ, hr, er, q⟩ := t
  simp only [evI] at q
  refine te_go hr er q fun d h1 μ1 H1 v hr1 fr1 er1 q1 p1 => ?_
  cases q1 with
  | int j =>
    simp only at p1
    split at p1
    · rename_i hj
      exact ⟨j, rfl, (sm62_of hj).1, (sm62_of hj).2, p1 μ1 H1 _ hr1 (Fr.refl _ _) walk_rng⟩
    · exact p1.elim
  | _ => exact p1.elim
theorem si_rng2 {a b : E} {tg e f : Expr} {p pos : Pos} (ok : XOk T B C k W sc X) (hg : glB sc "range" = true) (hs : nst e = true) (hs2 : nst f = true) (ha : PE X e (te T C W a)) (hb : PE X f (te T C W b)) : PI X tg (.Call (.Name "range" p) [e, f] [] pos) (ti T C W (.rng2 a b)) := by
  refine PI.imp (pi_range2 (ok.gl' hg) (ok.bi _ (by decide)) (pa_cons ha (pa_cons hb pa_nil (star_of [] X.env hs2)) (star_of [f] X.env hs)) (by rw [star_of [f] X.env hs, star_of [] X.env hs2]; rfl) (star_of [] X.env hs2)) fun σ H R t => ?_
  obtain ⟨μ, h, ρ, hr, er, q⟩ := t
  simp only [evI] at q
  refine te_go hr er q fun d h1 μ1 H1 v hr1 fr1 er1 q1 p1 => ?_
  refine te_go hr1 er1 p1 fun d2 h2 μ2 H2 w hr2 fr2 er2 q2 p2 => ?_
  cases q1 with
  | int i =>
    cases q2 with
    | int j =>
      simp only at p2
      split at p2
      · rename_i hj
        simp only [Bool.and_eq_true] at hj
        have a1 := sm62_of hj.1
        have a2 := sm62_of hj.2
        exact ⟨i, j, rfl, ⟨a1.1, a1.2, a2.1, a2.2⟩, p2 μ2 H2 _ hr2 (Fr.refl _ _) walk_rng⟩
      · exact p2.elim
    | _ => exact p2.elim
  | _ => cases q2 <;> exact p2.elim

/-! ### enumerate, zip -/
/-- a sequence that is read at each turn -/
def Src (T : Tb) (μ : List Addr) (H : Hp) (b : Bool) (a : Addr) (xs : List D) (kp : List (Nat × List D)) : Prop :=
  ∀ μ1 h1 H1, HR T μ1 h1 H1 → Fr μ H μ1 H1 → (kp.all fun q => decide (lstAt h1 q.1 = some q.2)) = true → ∃ vs, Sq b T.K H1 a vs ∧ Reps T μ1 H1 xs vs
theorem src_of {d : D} {v : V} {xs : List D} (hr : HR T μ h H) (q : Rep T μ H d v) (e : items h d = some xs) : ∃ b a, v = .ref a ∧ Src T μ H b a xs (keepOf d xs) ∧ ∃ vs, Sq b T.K H a vs := by
  cases q with
  | tup s qs => simp [items] at e; subst e; exact ⟨true, _, rfl, fun μ1 h1 H1 _ fr _ => ⟨_, fr.w.sqT s, qs.mono fr⟩, _, s⟩
  | rol s qs => simp [items] at e; subst e; exact ⟨false, _, rfl, fun μ1 h1 H1 _ fr _ => ⟨_, rol_sq (rol_mono fr s), qs.mono fr⟩, _, rol_sq s⟩
  | ref s =>
    obtain ⟨vs, z, qs⟩ := hr.lst (by simpa [items] using e) s
    refine ⟨false, _, rfl, fun μ1 h1 H1 hr1 fr ok => ?_, vs, SqL.of z⟩
    simp only [keepOf, List.all_cons, List.all_nil, Bool.and_true, decide_eq_true_eq] at ok
    obtain ⟨ws, z1, q1⟩ := hr1.lst ok (pre_get fr.pre s)
    exact ⟨ws, SqL.of z1, q1⟩
  | _ => simp [items] at e
theorem enumL_len : ∀ (xs : List D) (k : Nat), (enumL k xs).length = xs.length
  | [], _ => rfl
  | _ :: r, k => by simp [enumL, enumL_len r]
theorem enumL_get : ∀ (xs : List D) (k i : Nat) (d : D), xs[i]? = some d → (enumL k xs)[i]? = some (.tup [.int ((k + i : Nat) : Int), d])
  | [], _, _, _, h => by simp at h
  | x :: r, k, 0, d, h => by simp at h; subst h; simp [enumL]
  | x :: r, k, i + 1, d, h => by
    simp only [enumL, List.getElem?_cons_succ]
    rw [enumL_get r (k + 1) i d (by simpa using h), show k + 1 + i = k + (i + 1) by omega]
theorem zipL_len : ∀ xs ys : List D, (zipL xs ys).length = min xs.length ys.length
  | [], _ => by simp [zipL]
  | _ :: _, [] => by simp [zipL]
  | _ :: r, _ :: t => by simp [zipL, zipL_len r t]
theorem zipL_get : ∀ (xs ys : List D) (i : Nat) (d e : D), xs[i]? = some d → ys[i]? = some e → (zipL xs ys)[i]? = some (.tup [d, e])
  | [], _, _, _, _, h, _ => by simp at h
  | _ :: _, [], _, _, _, _, h => by simp at h
  | x :: r, y :: t, 0, d, e, h, h' => by simp at h h'; subst h h'; simp [zipL]
  | x :: r, y :: t, i + 1, d, e, h, h' => by
    simp only [zipL, List.getElem?_cons_succ]
    exact zipL_get r t i d e (by simpa using h) (by simpa using h')
theorem walk_enumA {b : Bool} {a : Addr} {xs : List D} {kp : List (Nat × List D)} (s : Src T μ H b a xs kp) : WalkR T μ H ⟨enumL 0 xs, kp⟩ (IteA b T.K a) := by
  refine ⟨fun i μ1 h1 H1 hr fr ok hi => ?_, fun μ1 h1 H1 hr fr ok => ?_, fun i μ1 h1 H1 x H2 hr fr ok hi y => ?_⟩
  · obtain ⟨vs, z, q⟩ := s μ1 h1 H1 hr fr ok
    obtain ⟨v, e, _⟩ := q.get (List.getElem?_eq_getElem (by rw [enumL_len] at hi; exact hi))
    exact ⟨vs, v, z, e⟩
  · obtain ⟨vs, z, q⟩ := s μ1 h1 H1 hr fr ok
    exact ⟨vs, z, by rw [← q.length, enumL_len]⟩
  · obtain ⟨vs, z, q⟩ := s μ1 h1 H1 hr fr ok
    obtain ⟨Ta, u, rfl, hn, rfl, f⟩ := y
    have hl : i < xs.length := by rw [enumL_len] at hi; exact hi
    obtain ⟨v, e, qv⟩ := q.get (List.getElem?_eq_getElem hl)
    have eu := f vs z
    rw [e] at eu
    cases eu
    refine ⟨_, enumL_get xs 0 i _ (List.getElem?_eq_getElem hl), hr.new hn, hr.frNew hn, .tup (SqT.of upd_same) (.cons ?_ (.cons (qv.mono (hr.frNew hn)) .nil))⟩
    rw [Nat.zero_add]
    exact .int _
theorem walk_zipA {b1 b2 : Bool} {a1 a2 : Addr} {xs ys : List D} {kp kq : List (Nat × List D)} (s1 : Src T μ H b1 a1 xs kp) (s2 : Src T μ H b2 a2 ys kq) : WalkR T μ H ⟨zipL xs ys, kp ++ kq⟩ (ItzA b1 b2 T.K a1 a2) := by
  have rd : ∀ {μ1 : List Addr} {h1 : Hh} {H1 : Hp}, HR T μ1 h1 H1 → Fr μ H μ1 H1 → Plan.ok ⟨zipL xs ys, kp ++ kq⟩ h1 = true → (∃ vs, Sq b1 T.K H1 a1 vs ∧ Reps T μ1 H1 xs vs) ∧ ∃ ws, Sq b2 T.K H1 a2 ws ∧ Reps T μ1 H1 ys ws := fun hr fr ok => by
    unfold Plan.ok at ok
    rw [List.all_append, Bool.and_eq_true] at ok
    exact ⟨s1 _ _ _ hr fr ok.1, s2 _ _ _ hr fr ok.2⟩
  refine ⟨fun i μ1 h1 H1 hr fr ok hi => ?_, fun μ1 h1 H1 hr fr ok => ?_, fun i μ1 h1 H1 x H2 hr fr ok hi y => ?_⟩
  · obtain ⟨⟨vs, z1, q1⟩, ws, z2, q2⟩ := rd hr fr ok
    simp only [zipL_len] at hi
    obtain ⟨v, e, _⟩ := q1.get (List.getElem?_eq_getElem (show i < xs.length by omega))
    obtain ⟨w, e2, _⟩ := q2.get (List.getElem?_eq_getElem (show i < ys.length by omega))
    exact ⟨vs, ws, v, w, z1, z2, e, e2⟩
  · obtain ⟨⟨vs, z1, q1⟩, ws, z2, q2⟩ := rd hr fr ok
    refine ⟨vs, ws, z1, z2, ?_⟩
    simp only [zipL_len]
    rw [← q1.length, ← q2.length]
    omega
  · obtain ⟨⟨vs, z1, q1⟩, ws, z2, q2⟩ := rd hr fr ok
    obtain ⟨Ta, u, u2, rfl, hn, rfl, f, g⟩ := y
    simp only [zipL_len] at hi
    have l1 : i < xs.length := by omega
    have l2 : i < ys.length := by omega
    obtain ⟨v, e, qv⟩ := q1.get (List.getElem?_eq_getElem l1)
    obtain ⟨w, e2, qw⟩ := q2.get (List.getElem?_eq_getElem l2)
    have eu := f vs z1
    rw [e] at eu
    cases eu
    have eu := g ws z2
    rw [e2] at eu
    cases eu
    exact ⟨_, zipL_get xs ys i _ _ (List.getElem?_eq_getElem l1) (List.getElem?_eq_getElem l2), hr.new hn, hr.frNew hn, .tup (SqT.of upd_same) (.cons (qv.mono (hr.frNew hn)) (.cons (qw.mono (hr.frNew hn)) .nil))⟩
theorem si_enum {a : E} {es : List Expr} {kk : Nat} {tp : Pos} {e : Expr} {p pos : Pos} (ok : XOk T B C k W sc X) (hg : glB sc "enumerate" = true) (hs : nst e = true) (ha : PE X e (te T C W a)) : PI X (.Tuple es kk tp) (.Call (.Name "enumerate" p) [e] [] pos) (ti T C W (.enum a)) := by
  refine PI.imp (pi_enumA (ok.gl' hg) (ok.bi _ (by decide)) (pa_cons ha pa_nil (star_of [] X.env hs)) (star_of [] X.env hs)) fun σ H R t => ?_
  obtain ⟨μ, h, ρ, hr, er, q⟩ := t
  simp only [evI] at q
  refine te_go hr er q fun d h1 μ1 H1 v hr1 fr1 er1 q1 p1 => ?_
  rw [ok.K]
  split at p1
  · rename_i xs ex
    obtain ⟨b, ad, rfl, sr, vs, z⟩ := src_of hr1 q1 ex
    exact ⟨b, ad, vs, rfl, z, p1 μ1 H1 _ hr1 (Fr.refl _ _) (walk_enumA sr)⟩
  · exact p1.elim
theorem si_zip {a b : E} {es : List Expr} {kk : Nat} {tp : Pos} {e f : Expr} {p pos : Pos} (ok : XOk T B C k W sc X) (hg : glB sc "zip" = true) (hs : nst e = true) (hs2 : nst f = true) (ha : PE X e (te T C W a)) (hb : PE X f (te T C W b)) : PI X (.Tuple es kk tp) (.Call (.Name "zip" p) [e, f] [] pos) (ti T C W (.zip a b)) := by
  refine PI.imp (pi_zipB (ok.gl' hg) (ok.bi _ (by decide)) (pa_cons ha (pa_cons hb pa_nil (star_of [] X.env hs2)) (star_of [f] X.env hs)) (star_of [f] X.env hs) (by rw [star_of [] X.env hs2]; rfl)) fun σ H R t => ?_
  obtain ⟨μ, h, ρ, hr, er, q⟩ := t
  simp only [evI] at q
  refine te_go hr er q fun d h1 μ1 H1 v hr1 fr1 er1 q1 p1 => ?_
  refine te_go hr1 er1 p1 fun d2 h2 μ2 H2 w hr2 fr2 er2 q2 p2 => ?_
  rw [ok.K]
  split at p2
  · rename_i xs ys ex ey
    obtain ⟨b1, a1, rfl, s1, vs, z1⟩ := src_of hr2 (q1.mono fr2) ex
    obtain ⟨b2, a2, rfl, s2, ws, z2⟩ := src_of hr2 q2 ey
    exact ⟨b1, b2, a1, a2, vs, ws, rfl, z1, z2, p2 μ2 H2 _ hr2 (Fr.refl _ _) (walk_zipA s1 s2)⟩
  · exact p2.elim

/-! ### comprehensions -/
theorem Post.nx {α β : Type} {R : List Addr → Hp → α → β → Prop} {W W' : XK} {r : Res α} {Q : β → Hp → Prop} (p : Post T R μ H W r.nx Q) : Post T R μ H W' r Q := by
  cases r with
  | ok a h => exact p
  | exc c fs h => exact p.elim
  | bad => exact p
theorem ownN_map {own : List Nat} (h : (ownN B own).map (·.2) = own) : (ownN B own).map (·.2) = own := h
/-- the context of the block -/
theorem XOk.blk (ok : XOk T B C k W sc X) {scope : Scope} (hk : scope.kind = .function) (s : Shared) (H : Hp) (c : Addr) (cl : List (Str × Addr)) (fp : List Addr) :
    XOk T B C k (fun _ _ _ _ => False) (relS scope sc) (X.blk s H scope (compEnvC scope cl c X.env) fp) where
  n := ok.n
  nd := ok.nd
  s := by
    show relS scope X.env.scope = _
    rw [ok.s]
  kd := hk
  calm := ok.calm
  K := ok.K
  tk := takes0
  room := ok.room
  bi := ok.bi
  gl := ok.gl
  call := ok.call
theorem sto_blk (ok : XOk T B C k W sc X) {scope : Scope} (s : Shared) (H : Hp) (c : Addr) (cl : List (Str × Addr)) (fp : List Addr) : Sto scope (X.blk s H scope (compEnvC scope cl c X.env) fp) := fun x hx => by
  rcases loc_of hx with z | z
  · have e : (relS scope X.env.scope).names.lookup x = some .local := lookup_relS_keep (by decide) z
    exact ⟨.inl e, .inr e⟩
  · have e : (relS scope X.env.scope).names.lookup x = some .cell := lookup_relS_keep (by decide) z
    refine ⟨.inr e, .inl ?_⟩
    show (scope.names.lookup x == some .cell) = true
    rw [z]; rfl

/-- as te_go, the wish of another moment -/
theorem te_nx {e : E} {σ : St} {Q : VK} {α β : Type} {R' : List Addr → Hp → α → β → Prop} {μ1 : List Addr} {H1 : Hp} {W1 : XK} {ρ : Env} {kk : D → Hh → Res α} {Q' : β → Hp → Prop} (hr : HR T μ h H) (er : EnvR T μ H ρ σ)
    (p : Post T R' μ1 H1 W1 ((evE C e ρ h).nx.bind kk) Q') (f : ∀ d h2 μ2 H2 v, HR T μ2 h2 H2 → Fr μ H μ2 H2 → Rep T μ2 H2 d v → Post T R' μ1 H1 W1 (kk d h2) Q' → Q v H2) : te T C W e σ H Q := by
  refine ⟨μ, h, ρ, hr, er, ?_⟩
  cases q : evE C e ρ h with
  | ok d h2 => rw [q] at p; exact fun μ2 H2 v hr2 fr2 q2 => f d h2 μ2 H2 v hr2 fr2 q2 p
  | exc c fs h2 => rw [q] at p; exact p.elim
  | bad => rw [q] at p; exact p.elim
theorem tt_nx {e : E} {σ : St} {Q : Bool → Hp → Prop} {α β : Type} {R' : List Addr → Hp → α → β → Prop} {μ1 : List Addr} {H1 : Hp} {W1 : XK} {ρ : Env} {kk : Bool → Hh → Res α} {Q' : β → Hp → Prop} (hr : HR T μ h H) (er : EnvR T μ H ρ σ)
    (p : Post T R' μ1 H1 W1 ((evE C e ρ h).nx.tr kk) Q') (f : ∀ b h2 μ2 H2, HR T μ2 h2 H2 → Fr μ H μ2 H2 → EnvR T μ2 H2 ρ σ → Post T R' μ1 H1 W1 (kk b h2) Q' → Q b H2) : tt T C W e σ H Q := by
  refine ⟨μ, h, ρ, hr, er, ?_⟩
  unfold Res.tr at p ⊢
  cases q : evE C e ρ h with
  | ok d h2 =>
    rw [q] at p
    simp only [Res.ok_bind, Res.ok_nx] at p ⊢
    cases z : truth h2 d with
    | some b => rw [z] at p; exact fun μ2 H2 b1 hr2 fr2 e1 => by subst e1; exact f _ h2 μ2 H2 hr2 fr2 (er.mono fr2) p
    | none => rw [z] at p; exact p.elim
  | exc c fs h2 => rw [q] at p; exact p.elim
  | bad => rw [q] at p; exact p.elim
theorem compL_noexc {keep : Hh → Bool} {f : D → Hh → Res (Option D)} (hf : ∀ x h c fs h', f x h ≠ .exc c fs h') : ∀ (xs : List D) (h : Hh) (c : Nat) (fs : List D) (h' : Hh), compL keep f xs h ≠ .exc c fs h'
  | [], h, c, fs, h', e => by simp only [compL] at e; split at e <;> cases e
  | x :: xs, h, c, fs, h', e => by
    simp only [compL] at e
    split at e
    · cases z : f x h with
      | ok o h1 =>
        rw [z] at e
        simp only [Res.ok_bind] at e
        cases z2 : compL keep f xs h1 with
        | ok ys h2 => rw [z2] at e; cases e
        | exc c2 fs2 h2 => exact compL_noexc hf xs h1 _ _ _ z2
        | bad => rw [z2] at e; cases e
      | exc c2 fs2 h2 => exact hf _ _ _ _ _ z
      | bad => rw [z] at e; cases e
    · cases e
/-- a comprehension's turn -/
def compF (C : Cf) (ρ : Env) (own : List Nat) (tg : Tg) (c e : E) : D → Hh → Res (Option D) := fun x h2 => match bindTg h2 (wipeD ρ own) tg x with
  | some ρ1 => (evE C c ρ1 h2).nx.tr fun t h3 => if t then (evE C e ρ1 h3).nx.bind fun y h4 => .ok (some y) h4 else .ok none h3
  | none => .bad
theorem nx_exc {α β : Type} {r : Res α} {kk : α → Hh → Res β} (hk : ∀ a h c fs h', kk a h ≠ .exc c fs h') (c : Nat) (fs : List D) (h' : Hh) : r.nx.bind kk ≠ .exc c fs h' := fun e => by
  cases r with
  | ok a h => exact hk a h c fs h' e
  | exc => cases e
  | bad => cases e
theorem compF_noexc {ρ : Env} {own : List Nat} {tg : Tg} {c e : E} : ∀ x h cc fs h', compF C ρ own tg c e x h ≠ .exc cc fs h' := fun x h cc fs h' q => by
  unfold compF at q
  split at q
  · refine nx_exc (fun d h1 c1 fs1 h2 q1 => ?_) _ _ _ q
    split at q1
    · dsimp only at q1
      split at q1
      · exact nx_exc (fun _ _ _ _ _ z => by cases z) _ _ _ q1
      · cases q1
    · cases q1
  · cases q
theorem compF_go {ρ ρ1 : Env} {own : List Nat} {tg : Tg} {c e : E} {x : D} {h2 : Hh} {α : Type} {kk : Option D → Hh → Res α} (eb : bindTg h2 (wipeD ρ own) tg x = some ρ1) :
    (compF C ρ own tg c e x h2).bind kk = (evE C c ρ1 h2).nx.tr fun t h3 => if t then (evE C e ρ1 h3).nx.bind fun y h4 => kk (some y) h4 else kk none h3 := by
  unfold compF
  rw [eb]
  simp only
  unfold Res.tr
  cases (evE C c ρ1 h2).nx with
  | ok d h3 =>
    simp only [Res.ok_bind]
    cases truth h3 d with
    | some b =>
      cases b with
      | true =>
        simp only [if_true]
        cases (evE C e ρ1 h3).nx <;> rfl
      | false => rfl
    | none => rfl
  | exc => rfl
  | bad => rfl
theorem comp_ok {own : List Nat} {tg : Tg} {it c e : E} {σ : St} {Q : VK} (hsl : tg.slots.all own.contains = true) (t : te T C W (.comp own tg it c e) σ H Q) :
    tLc (ti T C W it) (gOf T.K tg) (tt T C (fun _ _ _ _ => False) c) (te T C (fun _ _ _ _ => False) e) own σ H Q := by
  obtain ⟨μ, h, ρ, hr, er, q⟩ := t
  simp only [evE] at q
  refine ⟨μ, h, ρ, hr, er, q.bind fun p h1 μ1 H1 J hr1 fr1 w p1 => fun D nD => ?_⟩
  have er1 := (er.mono fr1).wipe own
  have p1 : Post T (Rep T) μ1 H1 (WE W σ) ((compL p.ok (compF C ρ own tg c e) p.its h1).bind fun ys h2 => if ys.length ≤ sizeLine then alloc h2 (.lst ys) else .bad) Q := p1
  let Fin : List Ly.D → Nat → Hh → Prop := fun acc i h2 => Post T (Rep T) μ1 H1 (WE W σ) ((compL p.ok (compF C ρ own tg c e) (p.its.drop i) h2).bind fun ys h3 => if (acc ++ ys).length ≤ sizeLine then alloc h3 (.lst (acc ++ ys)) else .bad) Q
  let Inv : Nat → Hp → Prop := fun i H2 => ∃ μ2 h2 acc vacc, HR T μ2 h2 H2 ∧ Fr μ1 H1 μ2 H2 ∧ D ∉ μ2 ∧ H2 D = some (.lst vacc) ∧ Reps T μ2 H2 acc vacc ∧ Fin acc i h2
  refine ⟨fun i m H2 => m = p.its.length - i ∧ i ≤ p.its.length ∧ Inv i H2, ⟨_, rfl, Nat.zero_le _, μ1, h1, [], [], hr1.new nD, hr1.frNew nD, hr1.fresh nD, upd_same, .nil, ?_⟩, ?_⟩
  · show Post T (Rep T) μ1 _ _ ((compL p.ok _ (p.its.drop 0) h1).bind _) Q
    rw [List.drop_zero]
    exact p1
  rintro i m H2 ⟨rfl, hi, μ2, h2, acc, vacc, hr2, fr2, nd2, eD, qa, fin⟩
  by_cases hlt : i < p.its.length
  · have ed : p.its.drop i = p.its[i] :: p.its.drop (i + 1) := List.drop_eq_getElem_cons hlt
    have fin' : Post T (Rep T) μ1 H1 (WE W σ) ((compL p.ok (compF C ρ own tg c e) (p.its[i] :: p.its.drop (i + 1)) h2).bind fun ys h3 => if (acc ++ ys).length ≤ sizeLine then alloc h3 (.lst (acc ++ ys)) else .bad) Q := by
      rw [← ed]; exact fin
    have hk : p.ok h2 = true := by
      cases z : p.ok h2 with
      | true => rfl
      | false =>
        simp only [compL, z] at fin'
        exact fin'.elim
    simp only [compL, hk, if_true] at fin'
    refine .inr ⟨w.goes i μ2 h2 H2 hr2 fr2 hk hlt, Inv (i + 1), fun H' hN => ⟨p.its.length - (i + 1), by omega, rfl, hlt, hN⟩, fun x H3 y => ?_⟩
    obtain ⟨d, e1, hr3, fr3, qd⟩ := w.ylds i μ2 h2 H2 x H3 hr2 fr2 hk hlt y
    rw [List.getElem?_eq_getElem hlt] at e1
    cases e1
    have eD3 : H3 D = some (.lst vacc) := fr3.keep D _ eD nd2
    have er3 := (er1.mono fr2).mono fr3
    cases eb : bindTg h2 (wipeD ρ own) tg p.its[i] with
    | none =>
      have z : compF C ρ own tg c e p.its[i] h2 = .bad := by unfold compF; rw [eb]
      rw [z] at fin'
      exact fin'.elim
    | some ρ1 =>
      refine bind_tg hr3 er3 qd eb fun σ2 er4 hw => ⟨by rw [hw own hsl, wipe_wipe], ?_⟩
      have p4 : Post T (Rep T) μ1 H1 (WE W σ) ((compF C ρ own tg c e p.its[i] h2).bind fun o h4 => (compL p.ok (compF C ρ own tg c e) (p.its.drop (i + 1)) h4).bind fun ys h5 => if (acc ++ (o.toList ++ ys)).length ≤ sizeLine then alloc h5 (.lst (acc ++ (o.toList ++ ys))) else .bad) Q := by
        revert fin'
        cases compF C ρ own tg c e p.its[i] h2 with
        | ok o h4 =>
          simp only [Res.ok_bind]
          cases compL p.ok (compF C ρ own tg c e) (p.its.drop (i + 1)) h4 with
          | ok ys h5 => exact fun z => z
          | exc => exact fun z => z
          | bad => exact fun z => z
        | exc => exact fun z => z
        | bad => exact fun z => z
      rw [compF_go eb] at p4
      refine tt_nx hr3 er4 p4 fun b h4 μ4 H4 hr4 fr4 er5 p6 => ?_
      have nD4 : D ∉ μ4 := fun z => by
        rcases fr4.new D z with z | z
        · exact nd2 z
        · rw [eD3] at z; cases z
      have eD4 : H4 D = some (.lst vacc) := fr4.keep D _ eD3 nd2
      cases b with
      | false =>
        rw [if_neg Bool.false_ne_true] at p6 ⊢
        simp only [Option.toList_none, List.nil_append] at p6
        exact ⟨μ4, h4, acc, vacc, hr4, (fr2.trans fr3).trans fr4, nD4, eD4, (qa.mono fr3).mono fr4, p6⟩
      | true =>
        rw [if_pos rfl] at p6 ⊢
        refine te_nx hr4 er5 p6 fun y h5 μ5 H5 v hr5 fr5 qy p7 => ?_
        have nD5 : D ∉ μ5 := fun z => by
          rcases fr5.new D z with z | z
          · exact nD4 z
          · rw [eD4] at z; cases z
        have eD5 : H5 D = some (.lst vacc) := fr5.keep D _ eD4 nD4
        have qa5 := ((qa.mono fr3).mono fr4).mono fr5
        have fr15 : Fr μ1 H1 μ5 H5 := ((fr2.trans fr3).trans fr4).trans fr5
        have frU : Fr μ1 H1 μ5 (upd H5 D (.lst (vacc ++ [v]))) := hr1.frame fr15.pre fr15.new fun a o e hn => by
          rw [upd_ne (ne_of_none e nD)]
          exact fr15.keep a o e hn
        have p7 : Post T (Rep T) μ1 H1 (WE W σ) ((compL p.ok (compF C ρ own tg c e) (p.its.drop (i + 1)) h5).bind fun ys h6 => if (acc ++ ([y] ++ ys)).length ≤ sizeLine then alloc h6 (.lst (acc ++ ([y] ++ ys))) else .bad) Q := p7
        have szs : acc.length < sizeLine := by
          cases z : compL p.ok (compF C ρ own tg c e) (p.its.drop (i + 1)) h5 with
          | ok ys h6 =>
            rw [z] at p7
            simp only [Res.ok_bind] at p7
            by_cases hl : (acc ++ ([y] ++ ys)).length ≤ sizeLine
            · simp at hl
              omega
            · rw [if_neg hl] at p7
              exact p7.elim
          | exc => exact absurd z (compL_noexc compF_noexc _ _ _ _ _)
          | bad => rw [z] at p7; exact p7.elim
        refine ⟨vacc, eD5, by rw [← qa5.length]; exact szs, μ5, h5, acc ++ [y], vacc ++ [v], hr5.other eD5 nD5, frU, nD5, upd_same, (qa5.append (.cons qy .nil)).monoW (fw_upd eD5), ?_⟩
        show Post T (Rep T) μ1 H1 (WE W σ) ((compL p.ok (compF C ρ own tg c e) (p.its.drop (i + 1)) h5).bind fun ys h6 => if (acc ++ [y] ++ ys).length ≤ sizeLine then alloc h6 (.lst (acc ++ [y] ++ ys)) else .bad) Q
        have e3 : (fun (ys : List Ly.D) (h6 : Hh) => if (acc ++ [y] ++ ys).length ≤ sizeLine then alloc h6 (.lst (acc ++ [y] ++ ys)) else Res.bad) = fun ys h6 => if (acc ++ ([y] ++ ys)).length ≤ sizeLine then alloc h6 (.lst (acc ++ ([y] ++ ys))) else Res.bad := by
          funext ys h6
          rw [List.append_assoc]
        rw [e3]
        exact p7
  · have ei : i = p.its.length := by omega
    subst ei
    have fin' : Post T (Rep T) μ1 H1 (WE W σ) ((compL p.ok (compF C ρ own tg c e) [] h2).bind fun ys h3 => if (acc ++ ys).length ≤ sizeLine then alloc h3 (.lst (acc ++ ys)) else .bad) Q := by
      have : p.its.drop p.its.length = [] := List.drop_length
      rw [← this]; exact fin
    simp only [compL] at fin'
    cases hk : p.ok h2 with
    | false => rw [hk] at fin'; exact fin'.elim
    | true =>
      rw [hk] at fin'
      simp only [if_true, Res.ok_bind, List.append_nil] at fin'
      split at fin'
      · refine .inl ⟨w.stops μ2 h2 H2 hr2 fr2 hk, fin' (μ2 ++ [D]) H2 (.ref D) (hr2.adopt eD nd2 qa) ?_ (.ref (by rw [← hr2.len]; simp))⟩
        refine hr1.frame (fr2.pre.trans ⟨[D], rfl⟩) (fun a ha => ?_) fr2.keep
        rcases List.mem_append.mp ha with z | z
        · exact fr2.new a z
        · simp at z; subst z; exact .inr nD
      · exact fin'.elim
theorem se_comp {own : List Nat} {tg : Tg} {it c e : E} {t i elt : Expr} {ifs : List Expr} {scope : Scope} {pos : Pos} (ok : XOk T B C k W sc X) (h1 : (ownN B own).map (·.2) = own) (h2 : blkC B.N sc scope (ownN B own) = true) (h3 : tg.slots.all own.contains = true) (h4 : nset i = true)
    (hi : PI X t i (ti T C W it)) (hm : mtTg B scope tg t = true)
    (hc : ∀ X', XOk T B C k (fun _ _ _ _ => False) (relS scope sc) X' → PTs X' ifs (tt T C (fun _ _ _ _ => False) c)) (he : ∀ X', XOk T B C k (fun _ _ _ _ => False) (relS scope sc) X' → PE X' elt (te T C (fun _ _ _ _ => False) e)) :
    PE X (.ListComp elt [⟨t, i, ifs, 0⟩] scope pos) (te T C W (.comp own tg it c e)) := by
  have ob : BlkOk X.N X.env.scope scope (ownN B own) := by rw [ok.n, ok.s]; exact blkOk_by h2
  have kd := ob.kind
  refine PE.imp (pe_lc (own := ownN B own) (g := gOf T.K tg) ok.calm ok.nd' hi ob (fun s H c cl fp => ?_) (fun s H c cl fp => hc _ (ok.blk kd s H c cl fp)) (fun s H c cl fp => he _ (ok.blk kd s H c cl fp)) fun x => fold_nset h4 _ _) fun σ H Q t => ?_
  · rw [← ok.K]
    exact pg_tg (X := X.blk s H scope (compEnvC scope cl c X.env) fp) ok.n ok.nd ok.calm (sto_blk ok s H c cl fp) hm
  · rw [h1]
    exact comp_ok h3 t
end
end Ly

set_option Elab.async false
set_option linter.all false
set_option maxRecDepth 100000
set_option autoImplicit false
/-! Ly6: every term of the language that stands for a text is sound. -/
namespace Ly
open PySem L2
structure Snd (T : Tb) (B : Nm) (C : Cf) (k : Nat) (ir : E) : Prop where
  e : ∀ W sc X x, XOk T B C k W sc X → mtE B ir sc x = true → PE X x (te T C W ir)
  t : ∀ W sc X x, XOk T B C k W sc X → mtE B ir sc x = true → tst x = true → PT X x (tt T C W ir)
  w : ∀ W sc X op es p, XOk T B C k W sc X → mtE B ir sc (.BoolOp op es p) = true → PW X (.BoolOp op es p) (tt T C W ir)
  a : ∀ W sc X es, XOk T B C k W sc X → mtA B ir sc es = true → PA X es (ta T C W ir)
  o : ∀ W sc X x, XOk T B C k W sc X → mtO B ir sc x = true → PO X x (to T C W ir)
  i : ∀ W sc X t x, XOk T B C k W sc X → mtI B ir sc t x = true → PI X t x (ti T C W ir)
section
variable {T : Tb} {B : Nm} {C : Cf} {k : Nat}
theorem plain_match {ir : E} {sc : Scope} {x : Expr} (h : mtE B ir sc x = true) (hp : (match ir with | .nev | .not _ | .cmp .. | .cmp2 .. | .isN _ | .isNN _ | .and .. | .or .. | .one _ | .ite .. => false | _ => true) = true) : plainT x = true := by
  cases ir <;> first | (cases hp; done) | (simp only [mtE] at h; first | (split at h <;> first | rfl | cases h) | cases h)

theorem snd_nev  : Snd T B C k (.nev) := by
  refine ⟨fun W sc X x ok hm => ⟨fun _ _ _ _ _ _ t => ?_⟩, fun W sc X x ok hm _ => ⟨fun _ _ _ _ _ _ t => ?_⟩, fun W sc X op es p ok hm => ⟨fun _ _ _ _ _ _ _ t => ?_⟩, fun W sc X es ok hm => by simp [mtA] at hm, fun W sc X x ok hm => by simp [mtO] at hm, fun W sc X t x ok hm => by simp [mtI] at hm⟩
  · obtain ⟨μ, h, ρ, hr, er, q⟩ := t; exact q.elim
  · obtain ⟨μ, h, ρ, hr, er, q⟩ := t; exact q.elim
  · obtain ⟨μ, h, ρ, hr, er, q⟩ := t; exact q.elim
theorem snd_var {i : Nat}  : Snd T B C k (.var i) := by
  have he : ∀ W sc X x, XOk T B C k W sc X → mtE B (.var i) sc x = true → PE X x (te T C W (.var i)) := fun W sc X x ok hm => by
    simp only [mtE] at hm
    split at hm
    · simp only [Bool.and_eq_true, decide_eq_true_eq] at hm; exact se_var ok hm.1.1 hm.1.2 hm.2
    · cases hm
  have ht : ∀ W sc X x, XOk T B C k W sc X → mtE B (.var i) sc x = true → tst x = true → PT X x (tt T C W (.var i)) := fun W sc X x ok hm _ => pt_plain ok (he W sc X x ok hm) (plain_match hm rfl)
  have hw : ∀ W sc X op es p, XOk T B C k W sc X → mtE B (.var i) sc (.BoolOp op es p) = true → PW X (.BoolOp op es p) (tt T C W (.var i)) := fun W sc X op es p ok hm => by simp [mtE] at hm
  exact ⟨he, ht, hw, fun W sc X es ok hm => by simp [mtA] at hm, fun W sc X x ok hm => by simp [mtO] at hm, fun W sc X t x ok hm => by simp [mtI] at hm⟩
theorem snd_int {i : Int}  : Snd T B C k (.int i) := by
  have he : ∀ W sc X x, XOk T B C k W sc X → mtE B (.int i) sc x = true → PE X x (te T C W (.int i)) := fun W sc X x ok hm => by
    simp only [mtE] at hm
    split at hm
    · simp only [decide_eq_true_eq] at hm; subst hm; exact PE.imp pe_int fun σ H Q t => te_c t (fun _ _ => rfl) fun μ => .int _
    · cases hm
  have ht : ∀ W sc X x, XOk T B C k W sc X → mtE B (.int i) sc x = true → tst x = true → PT X x (tt T C W (.int i)) := fun W sc X x ok hm _ => pt_plain ok (he W sc X x ok hm) (plain_match hm rfl)
  have hw : ∀ W sc X op es p, XOk T B C k W sc X → mtE B (.int i) sc (.BoolOp op es p) = true → PW X (.BoolOp op es p) (tt T C W (.int i)) := fun W sc X op es p ok hm => by simp [mtE] at hm
  exact ⟨he, ht, hw, fun W sc X es ok hm => by simp [mtA] at hm, fun W sc X x ok hm => by simp [mtO] at hm, fun W sc X t x ok hm => by simp [mtI] at hm⟩
theorem snd_bl {b : Bool}  : Snd T B C k (.bl b) := by
  have he : ∀ W sc X x, XOk T B C k W sc X → mtE B (.bl b) sc x = true → PE X x (te T C W (.bl b)) := fun W sc X x ok hm => by
    simp only [mtE] at hm
    split at hm
    · simp only [decide_eq_true_eq] at hm; subst hm; exact PE.imp pe_bl fun σ H Q t => te_c t (fun _ _ => rfl) fun μ => .bl _
    · cases hm
  have ht : ∀ W sc X x, XOk T B C k W sc X → mtE B (.bl b) sc x = true → tst x = true → PT X x (tt T C W (.bl b)) := fun W sc X x ok hm _ => pt_plain ok (he W sc X x ok hm) (plain_match hm rfl)
  have hw : ∀ W sc X op es p, XOk T B C k W sc X → mtE B (.bl b) sc (.BoolOp op es p) = true → PW X (.BoolOp op es p) (tt T C W (.bl b)) := fun W sc X op es p ok hm => by simp [mtE] at hm
  exact ⟨he, ht, hw, fun W sc X es ok hm => by simp [mtA] at hm, fun W sc X x ok hm => by simp [mtO] at hm, fun W sc X t x ok hm => by simp [mtI] at hm⟩
theorem snd_non  : Snd T B C k (.non) := by
  have he : ∀ W sc X x, XOk T B C k W sc X → mtE B (.non) sc x = true → PE X x (te T C W (.non)) := fun W sc X x ok hm => by
    simp only [mtE] at hm
    split at hm
    · exact PE.imp pe_non fun σ H Q t => te_c t (fun _ _ => rfl) fun μ => .non
    · cases hm
  have ht : ∀ W sc X x, XOk T B C k W sc X → mtE B (.non) sc x = true → tst x = true → PT X x (tt T C W (.non)) := fun W sc X x ok hm _ => pt_plain ok (he W sc X x ok hm) (plain_match hm rfl)
  have hw : ∀ W sc X op es p, XOk T B C k W sc X → mtE B (.non) sc (.BoolOp op es p) = true → PW X (.BoolOp op es p) (tt T C W (.non)) := fun W sc X op es p ok hm => by simp [mtE] at hm
  exact ⟨he, ht, hw, fun W sc X es ok hm => by simp [mtA] at hm, fun W sc X x ok hm => by simp [mtO] at hm, fun W sc X t x ok hm => by simp [mtI] at hm⟩
theorem snd_str {s : Str}  : Snd T B C k (.str s) := by
  have he : ∀ W sc X x, XOk T B C k W sc X → mtE B (.str s) sc x = true → PE X x (te T C W (.str s)) := fun W sc X x ok hm => by
    simp only [mtE] at hm
    split at hm
    · simp only [decide_eq_true_eq] at hm; subst hm; exact PE.imp pe_str fun σ H Q t => te_c t (fun _ _ => rfl) fun μ => .str _
    · cases hm
  have ht : ∀ W sc X x, XOk T B C k W sc X → mtE B (.str s) sc x = true → tst x = true → PT X x (tt T C W (.str s)) := fun W sc X x ok hm _ => pt_plain ok (he W sc X x ok hm) (plain_match hm rfl)
  have hw : ∀ W sc X op es p, XOk T B C k W sc X → mtE B (.str s) sc (.BoolOp op es p) = true → PW X (.BoolOp op es p) (tt T C W (.str s)) := fun W sc X op es p ok hm => by simp [mtE] at hm
  exact ⟨he, ht, hw, fun W sc X es ok hm => by simp [mtA] at hm, fun W sc X x ok hm => by simp [mtO] at hm, fun W sc X t x ok hm => by simp [mtI] at hm⟩
theorem snd_glob {g : Nat}  : Snd T B C k (.glob g) := by
  have he : ∀ W sc X x, XOk T B C k W sc X → mtE B (.glob g) sc x = true → PE X x (te T C W (.glob g)) := fun W sc X x ok hm => by
    simp only [mtE] at hm
    split at hm
    · simp only [Bool.and_eq_true, decide_eq_true_eq] at hm; exact se_glob ok hm.1.1 hm.1.2 hm.2
    · cases hm
  have ht : ∀ W sc X x, XOk T B C k W sc X → mtE B (.glob g) sc x = true → tst x = true → PT X x (tt T C W (.glob g)) := fun W sc X x ok hm _ => pt_plain ok (he W sc X x ok hm) (plain_match hm rfl)
  have hw : ∀ W sc X op es p, XOk T B C k W sc X → mtE B (.glob g) sc (.BoolOp op es p) = true → PW X (.BoolOp op es p) (tt T C W (.glob g)) := fun W sc X op es p ok hm => by simp [mtE] at hm
  exact ⟨he, ht, hw, fun W sc X es ok hm => by simp [mtA] at hm, fun W sc X x ok hm => by simp [mtO] at hm, fun W sc X t x ok hm => by simp [mtI] at hm⟩
theorem snd_bin {o : BOp} {a : E} {b : E} (iha : Snd T B C k a) (ihb : Snd T B C k b) : Snd T B C k (.bin o a b) := by
  have he : ∀ W sc X x, XOk T B C k W sc X → mtE B (.bin o a b) sc x = true → PE X x (te T C W (.bin o a b)) := fun W sc X x ok hm => by
    simp only [mtE] at hm
    split at hm
    · simp only [Bool.and_eq_true] at hm; obtain rfl := bopB_of hm.1.1; exact se_bin ok (iha.e _ _ _ _ ok hm.1.2) (ihb.e _ _ _ _ ok hm.2)
    · cases hm
  have ht : ∀ W sc X x, XOk T B C k W sc X → mtE B (.bin o a b) sc x = true → tst x = true → PT X x (tt T C W (.bin o a b)) := fun W sc X x ok hm _ => pt_plain ok (he W sc X x ok hm) (plain_match hm rfl)
  have hw : ∀ W sc X op es p, XOk T B C k W sc X → mtE B (.bin o a b) sc (.BoolOp op es p) = true → PW X (.BoolOp op es p) (tt T C W (.bin o a b)) := fun W sc X op es p ok hm => by simp [mtE] at hm
  exact ⟨he, ht, hw, fun W sc X es ok hm => by simp [mtA] at hm, fun W sc X x ok hm => by simp [mtO] at hm, fun W sc X t x ok hm => by simp [mtI] at hm⟩
theorem snd_neg {a : E} (iha : Snd T B C k a) : Snd T B C k (.neg a) := by
  have he : ∀ W sc X x, XOk T B C k W sc X → mtE B (.neg a) sc x = true → PE X x (te T C W (.neg a)) := fun W sc X x ok hm => by
    simp only [mtE] at hm
    split at hm
    · exact se_neg (iha.e _ _ _ _ ok hm)
    · cases hm
  have ht : ∀ W sc X x, XOk T B C k W sc X → mtE B (.neg a) sc x = true → tst x = true → PT X x (tt T C W (.neg a)) := fun W sc X x ok hm _ => pt_plain ok (he W sc X x ok hm) (plain_match hm rfl)
  have hw : ∀ W sc X op es p, XOk T B C k W sc X → mtE B (.neg a) sc (.BoolOp op es p) = true → PW X (.BoolOp op es p) (tt T C W (.neg a)) := fun W sc X op es p ok hm => by simp [mtE] at hm
  exact ⟨he, ht, hw, fun W sc X es ok hm => by simp [mtA] at hm, fun W sc X x ok hm => by simp [mtO] at hm, fun W sc X t x ok hm => by simp [mtI] at hm⟩
theorem snd_not {a : E} (iha : Snd T B C k a) : Snd T B C k (.not a) := by
  have he : ∀ W sc X x, XOk T B C k W sc X → mtE B (.not a) sc x = true → PE X x (te T C W (.not a)) := fun W sc X x ok hm => by
    simp only [mtE] at hm
    split at hm
    · simp only [Bool.and_eq_true] at hm; exact se_not ok (iha.e _ _ _ _ ok hm.1)
    · cases hm
  have ht : ∀ W sc X x, XOk T B C k W sc X → mtE B (.not a) sc x = true → tst x = true → PT X x (tt T C W (.not a)) := fun W sc X x ok hm hs => by
    simp only [mtE] at hm
    split at hm
    · simp only [Bool.and_eq_true] at hm; exact st_not (iha.t _ _ _ _ ok hm.1 hm.2)
    · cases hm
  have hw : ∀ W sc X op es p, XOk T B C k W sc X → mtE B (.not a) sc (.BoolOp op es p) = true → PW X (.BoolOp op es p) (tt T C W (.not a)) := fun W sc X op es p ok hm => by simp [mtE] at hm
  exact ⟨he, ht, hw, fun W sc X es ok hm => by simp [mtA] at hm, fun W sc X x ok hm => by simp [mtO] at hm, fun W sc X t x ok hm => by simp [mtI] at hm⟩
theorem snd_cmp {o : COp} {a : E} {b : E} (iha : Snd T B C k a) (ihb : Snd T B C k b) : Snd T B C k (.cmp o a b) := by
  have he : ∀ W sc X x, XOk T B C k W sc X → mtE B (.cmp o a b) sc x = true → PE X x (te T C W (.cmp o a b)) := fun W sc X x ok hm => by
    simp only [mtE] at hm
    split at hm
    · simp only [Bool.and_eq_true, Bool.not_eq_true'] at hm; obtain rfl := copB_of hm.1.1.1; exact se_cmp ok hm.1.1.2 (iha.e _ _ _ _ ok hm.1.2) (ihb.e _ _ _ _ ok hm.2)
    · cases hm
  have ht : ∀ W sc X x, XOk T B C k W sc X → mtE B (.cmp o a b) sc x = true → tst x = true → PT X x (tt T C W (.cmp o a b)) := fun W sc X x ok hm hs => by
    simp only [mtE] at hm
    split at hm
    · simp only [Bool.and_eq_true, Bool.not_eq_true'] at hm; obtain rfl := copB_of hm.1.1.1; exact st_cmp ok hm.1.1.2 (iha.e _ _ _ _ ok hm.1.2) (ihb.e _ _ _ _ ok hm.2)
    · cases hm
  have hw : ∀ W sc X op es p, XOk T B C k W sc X → mtE B (.cmp o a b) sc (.BoolOp op es p) = true → PW X (.BoolOp op es p) (tt T C W (.cmp o a b)) := fun W sc X op es p ok hm => by simp [mtE] at hm
  exact ⟨he, ht, hw, fun W sc X es ok hm => by simp [mtA] at hm, fun W sc X x ok hm => by simp [mtO] at hm, fun W sc X t x ok hm => by simp [mtI] at hm⟩
theorem snd_cmp2 {o : COp} {q : COp} {a : E} {b : E} {c : E} (iha : Snd T B C k a) (ihb : Snd T B C k b) (ihc : Snd T B C k c) : Snd T B C k (.cmp2 o q a b c) := by
  have he : ∀ W sc X x, XOk T B C k W sc X → mtE B (.cmp2 o q a b c) sc x = true → PE X x (te T C W (.cmp2 o q a b c)) := fun W sc X x ok hm => by
    simp only [mtE] at hm
    split at hm
    · simp only [Bool.and_eq_true, Bool.not_eq_true'] at hm; obtain rfl := copB_of hm.1.1.1.1.1; obtain rfl := copB_of hm.1.1.1.1.2; exact se_cmp2 ok hm.1.1.1.2 (iha.e _ _ _ _ ok hm.1.1.2) (ihb.e _ _ _ _ ok hm.1.2) (ihc.e _ _ _ _ ok hm.2)
    · cases hm
  have ht : ∀ W sc X x, XOk T B C k W sc X → mtE B (.cmp2 o q a b c) sc x = true → tst x = true → PT X x (tt T C W (.cmp2 o q a b c)) := fun W sc X x ok hm hs => by
    simp only [mtE] at hm
    split at hm
    · simp only [Bool.and_eq_true, Bool.not_eq_true'] at hm; obtain rfl := copB_of hm.1.1.1.1.1; obtain rfl := copB_of hm.1.1.1.1.2; exact st_cmp2 ok hm.1.1.1.2 (iha.e _ _ _ _ ok hm.1.1.2) (ihb.e _ _ _ _ ok hm.1.2) (ihc.e _ _ _ _ ok hm.2)
    · cases hm
  have hw : ∀ W sc X op es p, XOk T B C k W sc X → mtE B (.cmp2 o q a b c) sc (.BoolOp op es p) = true → PW X (.BoolOp op es p) (tt T C W (.cmp2 o q a b c)) := fun W sc X op es p ok hm => by simp [mtE] at hm
  exact ⟨he, ht, hw, fun W sc X es ok hm => by simp [mtA] at hm, fun W sc X x ok hm => by simp [mtO] at hm, fun W sc X t x ok hm => by simp [mtI] at hm⟩
theorem snd_isN {a : E} (iha : Snd T B C k a) : Snd T B C k (.isN a) := by
  have he : ∀ W sc X x, XOk T B C k W sc X → mtE B (.isN a) sc x = true → PE X x (te T C W (.isN a)) := fun W sc X x ok hm => by
    simp only [mtE] at hm
    split at hm
    · exact se_isN (iha.e _ _ _ _ ok hm)
    · cases hm
  have ht : ∀ W sc X x, XOk T B C k W sc X → mtE B (.isN a) sc x = true → tst x = true → PT X x (tt T C W (.isN a)) := fun W sc X x ok hm hs => by
    simp only [mtE] at hm
    split at hm
    · exact st_isN (iha.e _ _ _ _ ok hm)
    · cases hm
  have hw : ∀ W sc X op es p, XOk T B C k W sc X → mtE B (.isN a) sc (.BoolOp op es p) = true → PW X (.BoolOp op es p) (tt T C W (.isN a)) := fun W sc X op es p ok hm => by simp [mtE] at hm
  exact ⟨he, ht, hw, fun W sc X es ok hm => by simp [mtA] at hm, fun W sc X x ok hm => by simp [mtO] at hm, fun W sc X t x ok hm => by simp [mtI] at hm⟩
theorem snd_isNN {a : E} (iha : Snd T B C k a) : Snd T B C k (.isNN a) := by
  have he : ∀ W sc X x, XOk T B C k W sc X → mtE B (.isNN a) sc x = true → PE X x (te T C W (.isNN a)) := fun W sc X x ok hm => by
    simp only [mtE] at hm
    split at hm
    · exact se_isNN (iha.e _ _ _ _ ok hm)
    · cases hm
  have ht : ∀ W sc X x, XOk T B C k W sc X → mtE B (.isNN a) sc x = true → tst x = true → PT X x (tt T C W (.isNN a)) := fun W sc X x ok hm hs => by
    simp only [mtE] at hm
    split at hm
    · exact st_isNN (iha.e _ _ _ _ ok hm)
    · cases hm
  have hw : ∀ W sc X op es p, XOk T B C k W sc X → mtE B (.isNN a) sc (.BoolOp op es p) = true → PW X (.BoolOp op es p) (tt T C W (.isNN a)) := fun W sc X op es p ok hm => by simp [mtE] at hm
  exact ⟨he, ht, hw, fun W sc X es ok hm => by simp [mtA] at hm, fun W sc X x ok hm => by simp [mtO] at hm, fun W sc X t x ok hm => by simp [mtI] at hm⟩
theorem snd_and {a : E} {b : E} (iha : Snd T B C k a) (ihb : Snd T B C k b) : Snd T B C k (.and a b) := by
  have he : ∀ W sc X x, XOk T B C k W sc X → mtE B (.and a b) sc x = true → PE X x (te T C W (.and a b)) := fun W sc X x ok hm => by
    simp only [mtE] at hm
    split at hm
    · simp only [Bool.and_eq_true] at hm; exact se_and ok (iha.e _ _ _ _ ok hm.1.1) (ihb.e _ _ _ _ ok hm.2)
    · cases hm
  have ht : ∀ W sc X x, XOk T B C k W sc X → mtE B (.and a b) sc x = true → tst x = true → PT X x (tt T C W (.and a b)) := fun W sc X x ok hm hs => by
    simp only [mtE] at hm
    split at hm
    · simp only [Bool.and_eq_true] at hm; exact (sw_and (iha.t _ _ _ _ ok hm.1.1 hm.1.2) (ihb.w _ _ _ _ _ _ ok hm.2)).pt
    · cases hm
  have hw : ∀ W sc X op es p, XOk T B C k W sc X → mtE B (.and a b) sc (.BoolOp op es p) = true → PW X (.BoolOp op es p) (tt T C W (.and a b)) := fun W sc X op es p ok hm => by
    simp only [mtE] at hm
    split at hm
    · (try (rename_i heq; cases heq)); simp only [Bool.and_eq_true] at hm; exact sw_and (iha.t _ _ _ _ ok hm.1.1 hm.1.2) (ihb.w _ _ _ _ _ _ ok hm.2)
    · cases hm
  exact ⟨he, ht, hw, fun W sc X es ok hm => by simp [mtA] at hm, fun W sc X x ok hm => by simp [mtO] at hm, fun W sc X t x ok hm => by simp [mtI] at hm⟩
theorem snd_or {a : E} {b : E} (iha : Snd T B C k a) (ihb : Snd T B C k b) : Snd T B C k (.or a b) := by
  have he : ∀ W sc X x, XOk T B C k W sc X → mtE B (.or a b) sc x = true → PE X x (te T C W (.or a b)) := fun W sc X x ok hm => by
    simp only [mtE] at hm
    split at hm
    · simp only [Bool.and_eq_true] at hm; exact se_or ok (iha.e _ _ _ _ ok hm.1.1) (ihb.e _ _ _ _ ok hm.2)
    · cases hm
  have ht : ∀ W sc X x, XOk T B C k W sc X → mtE B (.or a b) sc x = true → tst x = true → PT X x (tt T C W (.or a b)) := fun W sc X x ok hm hs => by
    simp only [mtE] at hm
    split at hm
    · simp only [Bool.and_eq_true] at hm; exact (sw_or (iha.t _ _ _ _ ok hm.1.1 hm.1.2) (ihb.w _ _ _ _ _ _ ok hm.2)).pt
    · cases hm
  have hw : ∀ W sc X op es p, XOk T B C k W sc X → mtE B (.or a b) sc (.BoolOp op es p) = true → PW X (.BoolOp op es p) (tt T C W (.or a b)) := fun W sc X op es p ok hm => by
    simp only [mtE] at hm
    split at hm
    · (try (rename_i heq; cases heq)); simp only [Bool.and_eq_true] at hm; exact sw_or (iha.t _ _ _ _ ok hm.1.1 hm.1.2) (ihb.w _ _ _ _ _ _ ok hm.2)
    · cases hm
  exact ⟨he, ht, hw, fun W sc X es ok hm => by simp [mtA] at hm, fun W sc X x ok hm => by simp [mtO] at hm, fun W sc X t x ok hm => by simp [mtI] at hm⟩
theorem snd_one {a : E} (iha : Snd T B C k a) : Snd T B C k (.one a) := by
  have he : ∀ W sc X x, XOk T B C k W sc X → mtE B (.one a) sc x = true → PE X x (te T C W (.one a)) := fun W sc X x ok hm => by
    simp only [mtE] at hm
    split at hm
    · simp only [Bool.and_eq_true] at hm; exact se_one (iha.e _ _ _ _ ok hm.1)
    · cases hm
  have ht : ∀ W sc X x, XOk T B C k W sc X → mtE B (.one a) sc x = true → tst x = true → PT X x (tt T C W (.one a)) := fun W sc X x ok hm hs => by
    simp only [mtE] at hm
    split at hm
    · simp only [Bool.and_eq_true] at hm; exact (sw_one (iha.t _ _ _ _ ok hm.1 hm.2)).pt
    · cases hm
  have hw : ∀ W sc X op es p, XOk T B C k W sc X → mtE B (.one a) sc (.BoolOp op es p) = true → PW X (.BoolOp op es p) (tt T C W (.one a)) := fun W sc X op es p ok hm => by
    simp only [mtE] at hm
    split at hm
    · (try (rename_i heq; cases heq)); simp only [Bool.and_eq_true] at hm; exact sw_one (iha.t _ _ _ _ ok hm.1 hm.2)
    · cases hm
  exact ⟨he, ht, hw, fun W sc X es ok hm => by simp [mtA] at hm, fun W sc X x ok hm => by simp [mtO] at hm, fun W sc X t x ok hm => by simp [mtI] at hm⟩
theorem snd_ite {c : E} {a : E} {b : E} (ihc : Snd T B C k c) (iha : Snd T B C k a) (ihb : Snd T B C k b) : Snd T B C k (.ite c a b) := by
  have he : ∀ W sc X x, XOk T B C k W sc X → mtE B (.ite c a b) sc x = true → PE X x (te T C W (.ite c a b)) := fun W sc X x ok hm => by
    simp only [mtE] at hm
    split at hm
    · simp only [Bool.and_eq_true] at hm; exact se_ite (ihc.t _ _ _ _ ok hm.1.1.1 hm.1.1.2) (iha.e _ _ _ _ ok hm.1.2) (ihb.e _ _ _ _ ok hm.2)
    · cases hm
  have ht : ∀ W sc X x, XOk T B C k W sc X → mtE B (.ite c a b) sc x = true → tst x = true → PT X x (tt T C W (.ite c a b)) := fun W sc X x ok hm hs => by
    simp only [mtE] at hm
    split at hm
    · cases hs
    · cases hm
  have hw : ∀ W sc X op es p, XOk T B C k W sc X → mtE B (.ite c a b) sc (.BoolOp op es p) = true → PW X (.BoolOp op es p) (tt T C W (.ite c a b)) := fun W sc X op es p ok hm => by simp [mtE] at hm
  exact ⟨he, ht, hw, fun W sc X es ok hm => by simp [mtA] at hm, fun W sc X x ok hm => by simp [mtO] at hm, fun W sc X t x ok hm => by simp [mtI] at hm⟩
theorem snd_tup {as : E} (ihas : Snd T B C k as) : Snd T B C k (.tup as) := by
  have he : ∀ W sc X x, XOk T B C k W sc X → mtE B (.tup as) sc x = true → PE X x (te T C W (.tup as)) := fun W sc X x ok hm => by
    simp only [mtE] at hm
    split at hm
    · exact se_tup (ihas.a _ _ _ _ ok hm)
    · cases hm
  have ht : ∀ W sc X x, XOk T B C k W sc X → mtE B (.tup as) sc x = true → tst x = true → PT X x (tt T C W (.tup as)) := fun W sc X x ok hm _ => pt_plain ok (he W sc X x ok hm) (plain_match hm rfl)
  have hw : ∀ W sc X op es p, XOk T B C k W sc X → mtE B (.tup as) sc (.BoolOp op es p) = true → PW X (.BoolOp op es p) (tt T C W (.tup as)) := fun W sc X op es p ok hm => by simp [mtE] at hm
  exact ⟨he, ht, hw, fun W sc X es ok hm => by simp [mtA] at hm, fun W sc X x ok hm => by simp [mtO] at hm, fun W sc X t x ok hm => by simp [mtI] at hm⟩
theorem snd_lst {as : E} (ihas : Snd T B C k as) : Snd T B C k (.lst as) := by
  have he : ∀ W sc X x, XOk T B C k W sc X → mtE B (.lst as) sc x = true → PE X x (te T C W (.lst as)) := fun W sc X x ok hm => by
    simp only [mtE] at hm
    split at hm
    · exact se_lst (ihas.a _ _ _ _ ok hm)
    · cases hm
  have ht : ∀ W sc X x, XOk T B C k W sc X → mtE B (.lst as) sc x = true → tst x = true → PT X x (tt T C W (.lst as)) := fun W sc X x ok hm _ => pt_plain ok (he W sc X x ok hm) (plain_match hm rfl)
  have hw : ∀ W sc X op es p, XOk T B C k W sc X → mtE B (.lst as) sc (.BoolOp op es p) = true → PW X (.BoolOp op es p) (tt T C W (.lst as)) := fun W sc X op es p ok hm => by simp [mtE] at hm
  exact ⟨he, ht, hw, fun W sc X es ok hm => by simp [mtA] at hm, fun W sc X x ok hm => by simp [mtO] at hm, fun W sc X t x ok hm => by simp [mtI] at hm⟩
theorem snd_nil  : Snd T B C k (.nil) := by
  have he : ∀ W sc X x, XOk T B C k W sc X → mtE B (.nil) sc x = true → PE X x (te T C W (.nil)) := fun W sc X x ok hm => by simp [mtE] at hm
  have ht : ∀ W sc X x, XOk T B C k W sc X → mtE B (.nil) sc x = true → tst x = true → PT X x (tt T C W (.nil)) := fun W sc X x ok hm _ => pt_plain ok (he W sc X x ok hm) (plain_match hm rfl)
  have hw : ∀ W sc X op es p, XOk T B C k W sc X → mtE B (.nil) sc (.BoolOp op es p) = true → PW X (.BoolOp op es p) (tt T C W (.nil)) := fun W sc X op es p ok hm => by simp [mtE] at hm
  exact ⟨he, ht, hw, fun W sc X es ok hm => by cases es with | nil => exact sa_nil | cons x r => simp [mtA] at hm, fun W sc X x ok hm => by simp [mtO] at hm, fun W sc X t x ok hm => by simp [mtI] at hm⟩
theorem snd_cons {a : E} {as : E} (iha : Snd T B C k a) (ihas : Snd T B C k as) : Snd T B C k (.cons a as) := by
  have he : ∀ W sc X x, XOk T B C k W sc X → mtE B (.cons a as) sc x = true → PE X x (te T C W (.cons a as)) := fun W sc X x ok hm => by simp [mtE] at hm
  have ht : ∀ W sc X x, XOk T B C k W sc X → mtE B (.cons a as) sc x = true → tst x = true → PT X x (tt T C W (.cons a as)) := fun W sc X x ok hm _ => pt_plain ok (he W sc X x ok hm) (plain_match hm rfl)
  have hw : ∀ W sc X op es p, XOk T B C k W sc X → mtE B (.cons a as) sc (.BoolOp op es p) = true → PW X (.BoolOp op es p) (tt T C W (.cons a as)) := fun W sc X op es p ok hm => by simp [mtE] at hm
  exact ⟨he, ht, hw, fun W sc X es ok hm => by cases es with | nil => simp [mtA] at hm | cons x r => (simp only [mtA, Bool.and_eq_true] at hm; exact sa_cons hm.1.1 (iha.e _ _ _ _ ok hm.1.2) (ihas.a _ _ _ _ ok hm.2)), fun W sc X x ok hm => by simp [mtO] at hm, fun W sc X t x ok hm => by simp [mtI] at hm⟩
theorem snd_idx {a : E} {b : E} (iha : Snd T B C k a) (ihb : Snd T B C k b) : Snd T B C k (.idx a b) := by
  have he : ∀ W sc X x, XOk T B C k W sc X → mtE B (.idx a b) sc x = true → PE X x (te T C W (.idx a b)) := fun W sc X x ok hm => by
    simp only [mtE] at hm
    split at hm
    · simp only [Bool.and_eq_true] at hm; exact se_idx ok hm.2 (iha.e _ _ _ _ ok hm.1.1) (ihb.e _ _ _ _ ok hm.1.2)
    · cases hm
  have ht : ∀ W sc X x, XOk T B C k W sc X → mtE B (.idx a b) sc x = true → tst x = true → PT X x (tt T C W (.idx a b)) := fun W sc X x ok hm _ => pt_plain ok (he W sc X x ok hm) (plain_match hm rfl)
  have hw : ∀ W sc X op es p, XOk T B C k W sc X → mtE B (.idx a b) sc (.BoolOp op es p) = true → PW X (.BoolOp op es p) (tt T C W (.idx a b)) := fun W sc X op es p ok hm => by simp [mtE] at hm
  exact ⟨he, ht, hw, fun W sc X es ok hm => by simp [mtA] at hm, fun W sc X x ok hm => by simp [mtO] at hm, fun W sc X t x ok hm => by simp [mtI] at hm⟩
theorem snd_slc {a : E} {lo : E} {hi : E} (iha : Snd T B C k a) (ihlo : Snd T B C k lo) (ihhi : Snd T B C k hi) : Snd T B C k (.slc a lo hi) := by
  have he : ∀ W sc X x, XOk T B C k W sc X → mtE B (.slc a lo hi) sc x = true → PE X x (te T C W (.slc a lo hi)) := fun W sc X x ok hm => by
    simp only [mtE] at hm
    split at hm
    · simp only [Bool.and_eq_true] at hm; exact se_slc ok (iha.e _ _ _ _ ok hm.1.1) (ihlo.o _ _ _ _ ok hm.1.2) (ihhi.o _ _ _ _ ok hm.2)
    · cases hm
  have ht : ∀ W sc X x, XOk T B C k W sc X → mtE B (.slc a lo hi) sc x = true → tst x = true → PT X x (tt T C W (.slc a lo hi)) := fun W sc X x ok hm _ => pt_plain ok (he W sc X x ok hm) (plain_match hm rfl)
  have hw : ∀ W sc X op es p, XOk T B C k W sc X → mtE B (.slc a lo hi) sc (.BoolOp op es p) = true → PW X (.BoolOp op es p) (tt T C W (.slc a lo hi)) := fun W sc X op es p ok hm => by simp [mtE] at hm
  exact ⟨he, ht, hw, fun W sc X es ok hm => by simp [mtA] at hm, fun W sc X x ok hm => by simp [mtO] at hm, fun W sc X t x ok hm => by simp [mtI] at hm⟩
theorem snd_nop  : Snd T B C k (.nop) := by
  have he : ∀ W sc X x, XOk T B C k W sc X → mtE B (.nop) sc x = true → PE X x (te T C W (.nop)) := fun W sc X x ok hm => by simp [mtE] at hm
  have ht : ∀ W sc X x, XOk T B C k W sc X → mtE B (.nop) sc x = true → tst x = true → PT X x (tt T C W (.nop)) := fun W sc X x ok hm _ => pt_plain ok (he W sc X x ok hm) (plain_match hm rfl)
  have hw : ∀ W sc X op es p, XOk T B C k W sc X → mtE B (.nop) sc (.BoolOp op es p) = true → PW X (.BoolOp op es p) (tt T C W (.nop)) := fun W sc X op es p ok hm => by simp [mtE] at hm
  exact ⟨he, ht, hw, fun W sc X es ok hm => by simp [mtA] at hm, fun W sc X x ok hm => by cases x with | none => exact so_none | some y => simp [mtO] at hm, fun W sc X t x ok hm => by simp [mtI] at hm⟩
theorem snd_opt {a : E} (iha : Snd T B C k a) : Snd T B C k (.opt a) := by
  have he : ∀ W sc X x, XOk T B C k W sc X → mtE B (.opt a) sc x = true → PE X x (te T C W (.opt a)) := fun W sc X x ok hm => by simp [mtE] at hm
  have ht : ∀ W sc X x, XOk T B C k W sc X → mtE B (.opt a) sc x = true → tst x = true → PT X x (tt T C W (.opt a)) := fun W sc X x ok hm _ => pt_plain ok (he W sc X x ok hm) (plain_match hm rfl)
  have hw : ∀ W sc X op es p, XOk T B C k W sc X → mtE B (.opt a) sc (.BoolOp op es p) = true → PW X (.BoolOp op es p) (tt T C W (.opt a)) := fun W sc X op es p ok hm => by simp [mtE] at hm
  exact ⟨he, ht, hw, fun W sc X es ok hm => by simp [mtA] at hm, fun W sc X x ok hm => by cases x with | none => simp [mtO] at hm | some y => exact so_some (iha.e _ _ _ _ ok hm), fun W sc X t x ok hm => by simp [mtI] at hm⟩
theorem snd_call {f : Nat} {as : E} (ihas : Snd T B C k as) : Snd T B C k (.call f as) := by
  have he : ∀ W sc X x, XOk T B C k W sc X → mtE B (.call f as) sc x = true → PE X x (te T C W (.call f as)) := fun W sc X x ok hm => by
    simp only [mtE] at hm
    split at hm
    · simp only [Bool.and_eq_true, decide_eq_true_eq] at hm; exact se_call ok hm.1.1.1 hm.1.1.2 hm.1.2 hm.2 (ihas.a _ _ _ _ ok hm.2)
    · cases hm
  have ht : ∀ W sc X x, XOk T B C k W sc X → mtE B (.call f as) sc x = true → tst x = true → PT X x (tt T C W (.call f as)) := fun W sc X x ok hm _ => pt_plain ok (he W sc X x ok hm) (plain_match hm rfl)
  have hw : ∀ W sc X op es p, XOk T B C k W sc X → mtE B (.call f as) sc (.BoolOp op es p) = true → PW X (.BoolOp op es p) (tt T C W (.call f as)) := fun W sc X op es p ok hm => by simp [mtE] at hm
  exact ⟨he, ht, hw, fun W sc X es ok hm => by simp [mtA] at hm, fun W sc X x ok hm => by simp [mtO] at hm, fun W sc X t x ok hm => by simp [mtI] at hm⟩
theorem snd_bi {b : BI} {as : E} (ihas : Snd T B C k as) : Snd T B C k (.bi b as) := by
  have he : ∀ W sc X x, XOk T B C k W sc X → mtE B (.bi b as) sc x = true → PE X x (te T C W (.bi b as)) := fun W sc X x ok hm => by
    simp only [mtE] at hm
    split at hm
    · simp only [Bool.and_eq_true, decide_eq_true_eq] at hm; obtain ⟨⟨rfl, h1⟩, h2⟩ := hm; exact se_bi ok h1 h2 (ihas.a _ _ _ _ ok h2)
    · cases hm
  have ht : ∀ W sc X x, XOk T B C k W sc X → mtE B (.bi b as) sc x = true → tst x = true → PT X x (tt T C W (.bi b as)) := fun W sc X x ok hm _ => pt_plain ok (he W sc X x ok hm) (plain_match hm rfl)
  have hw : ∀ W sc X op es p, XOk T B C k W sc X → mtE B (.bi b as) sc (.BoolOp op es p) = true → PW X (.BoolOp op es p) (tt T C W (.bi b as)) := fun W sc X op es p ok hm => by simp [mtE] at hm
  exact ⟨he, ht, hw, fun W sc X es ok hm => by simp [mtA] at hm, fun W sc X x ok hm => by simp [mtO] at hm, fun W sc X t x ok hm => by simp [mtI] at hm⟩
theorem snd_isi {a : E} {t : Ty} (iha : Snd T B C k a) : Snd T B C k (.isi a t) := by
  have he : ∀ W sc X x, XOk T B C k W sc X → mtE B (.isi a t) sc x = true → PE X x (te T C W (.isi a t)) := fun W sc X x ok hm => by
    simp only [mtE] at hm
    split at hm
    · simp only [Bool.and_eq_true, decide_eq_true_eq] at hm; obtain ⟨⟨⟨⟨⟨rfl, rfl⟩, h1⟩, h2⟩, h3⟩, h4⟩ := hm; exact se_isi ok h1 h2 h3 (iha.e _ _ _ _ ok h4)
    · cases hm
  have ht : ∀ W sc X x, XOk T B C k W sc X → mtE B (.isi a t) sc x = true → tst x = true → PT X x (tt T C W (.isi a t)) := fun W sc X x ok hm _ => pt_plain ok (he W sc X x ok hm) (plain_match hm rfl)
  have hw : ∀ W sc X op es p, XOk T B C k W sc X → mtE B (.isi a t) sc (.BoolOp op es p) = true → PW X (.BoolOp op es p) (tt T C W (.isi a t)) := fun W sc X op es p ok hm => by simp [mtE] at hm
  exact ⟨he, ht, hw, fun W sc X es ok hm => by simp [mtA] at hm, fun W sc X x ok hm => by simp [mtO] at hm, fun W sc X t x ok hm => by simp [mtI] at hm⟩
theorem snd_meth {m : Mt} {a : E} {as : E} (iha : Snd T B C k a) (ihas : Snd T B C k as) : Snd T B C k (.meth m a as) := by
  have he : ∀ W sc X x, XOk T B C k W sc X → mtE B (.meth m a as) sc x = true → PE X x (te T C W (.meth m a as)) := fun W sc X x ok hm => by
    simp only [mtE] at hm
    split at hm
    · rename_i o n p es q
      simp only [Bool.and_eq_true, decide_eq_true_eq] at hm
      obtain ⟨⟨⟨⟨⟨rfl, h1⟩, h2⟩, h3⟩, h4⟩, h5⟩ := hm
      cases es with
      | nil =>
        cases as with
        | nil => exact se_meth0 ok h1 h2 (iha.e _ _ _ _ ok h4)
        | _ => simp [mtA] at h5
      | cons e es => exact se_meth ok h1 h2 h3 h5 (iha.e _ _ _ _ ok h4) (ihas.a _ _ _ _ ok h5)
    · cases hm
  have ht : ∀ W sc X x, XOk T B C k W sc X → mtE B (.meth m a as) sc x = true → tst x = true → PT X x (tt T C W (.meth m a as)) := fun W sc X x ok hm _ => pt_plain ok (he W sc X x ok hm) (plain_match hm rfl)
  have hw : ∀ W sc X op es p, XOk T B C k W sc X → mtE B (.meth m a as) sc (.BoolOp op es p) = true → PW X (.BoolOp op es p) (tt T C W (.meth m a as)) := fun W sc X op es p ok hm => by simp [mtE] at hm
  exact ⟨he, ht, hw, fun W sc X es ok hm => by simp [mtA] at hm, fun W sc X x ok hm => by simp [mtO] at hm, fun W sc X t x ok hm => by simp [mtI] at hm⟩
theorem snd_comp {own : List Nat} {tg : Tg} {it : E} {c : E} {e : E} (ihit : Snd T B C k it) (ihc : Snd T B C k c) (ihe : Snd T B C k e) : Snd T B C k (.comp own tg it c e) := by
  have he : ∀ W sc X x, XOk T B C k W sc X → mtE B (.comp own tg it c e) sc x = true → PE X x (te T C W (.comp own tg it c e)) := fun W sc X x ok hm => by
    simp only [mtE] at hm
    split at hm
    rotate_left
    · cases hm
    simp only [Bool.and_eq_true, decide_eq_true_eq] at hm
    obtain ⟨⟨⟨⟨⟨⟨⟨⟨rfl, h1⟩, h2⟩, h3⟩, h4⟩, h5⟩, h6⟩, h7⟩, h8⟩ := hm
    refine se_comp ok h1 h2 h3 h4 (ihit.i _ _ _ _ _ ok h5) h6 (fun X' ok' => ?_) (fun X' ok' => ihe.e _ _ _ _ ok' h7)
    split at h8
    · obtain rfl := isTr_of h8
      exact ⟨fun pins s σ H Q I t => pts_nil.run pins s σ H Q I (by
        obtain ⟨μ, h, ρ, hr, er, q⟩ := t
        exact q μ H true hr (Fr.refl _ _) rfl)⟩
    · simp only [Bool.and_eq_true] at h8
      exact pts_one (ihc.t _ _ _ _ ok' h8.1 h8.2)
    · cases h8
  have ht : ∀ W sc X x, XOk T B C k W sc X → mtE B (.comp own tg it c e) sc x = true → tst x = true → PT X x (tt T C W (.comp own tg it c e)) := fun W sc X x ok hm _ => pt_plain ok (he W sc X x ok hm) (plain_match hm rfl)
  have hw : ∀ W sc X op es p, XOk T B C k W sc X → mtE B (.comp own tg it c e) sc (.BoolOp op es p) = true → PW X (.BoolOp op es p) (tt T C W (.comp own tg it c e)) := fun W sc X op es p ok hm => by simp [mtE] at hm
  exact ⟨he, ht, hw, fun W sc X es ok hm => by simp [mtA] at hm, fun W sc X x ok hm => by simp [mtO] at hm, fun W sc X t x ok hm => by simp [mtI] at hm⟩
theorem snd_seq {a : E} (iha : Snd T B C k a) : Snd T B C k (.seq a) := by
  have he : ∀ W sc X x, XOk T B C k W sc X → mtE B (.seq a) sc x = true → PE X x (te T C W (.seq a)) := fun W sc X x ok hm => by simp [mtE] at hm
  have ht : ∀ W sc X x, XOk T B C k W sc X → mtE B (.seq a) sc x = true → tst x = true → PT X x (tt T C W (.seq a)) := fun W sc X x ok hm _ => pt_plain ok (he W sc X x ok hm) (plain_match hm rfl)
  have hw : ∀ W sc X op es p, XOk T B C k W sc X → mtE B (.seq a) sc (.BoolOp op es p) = true → PW X (.BoolOp op es p) (tt T C W (.seq a)) := fun W sc X op es p ok hm => by simp [mtE] at hm
  exact ⟨he, ht, hw, fun W sc X es ok hm => by simp [mtA] at hm, fun W sc X x ok hm => by simp [mtO] at hm, fun W sc X t x ok hm => si_seq ok (iha.e _ _ _ _ ok hm)⟩
theorem snd_rng1 {a : E} (iha : Snd T B C k a) : Snd T B C k (.rng1 a) := by
  have he : ∀ W sc X x, XOk T B C k W sc X → mtE B (.rng1 a) sc x = true → PE X x (te T C W (.rng1 a)) := fun W sc X x ok hm => by simp [mtE] at hm
  have ht : ∀ W sc X x, XOk T B C k W sc X → mtE B (.rng1 a) sc x = true → tst x = true → PT X x (tt T C W (.rng1 a)) := fun W sc X x ok hm _ => pt_plain ok (he W sc X x ok hm) (plain_match hm rfl)
  have hw : ∀ W sc X op es p, XOk T B C k W sc X → mtE B (.rng1 a) sc (.BoolOp op es p) = true → PW X (.BoolOp op es p) (tt T C W (.rng1 a)) := fun W sc X op es p ok hm => by simp [mtE] at hm
  exact ⟨he, ht, hw, fun W sc X es ok hm => by simp [mtA] at hm, fun W sc X x ok hm => by simp [mtO] at hm, fun W sc X t x ok hm => by
    simp only [mtI] at hm
    split at hm <;> first
      | (rename_i heq; cases heq; simp only [Bool.and_eq_true, decide_eq_true_eq] at hm; obtain ⟨⟨⟨rfl, h1⟩, h2⟩, h3⟩ := hm; exact si_rng1 ok h1 h2 (iha.e _ _ _ _ ok h3))
      | (simp only [Bool.and_eq_true, decide_eq_true_eq] at hm; obtain ⟨⟨⟨rfl, h1⟩, h2⟩, h3⟩ := hm; exact si_rng1 ok h1 h2 (iha.e _ _ _ _ ok h3))
      | cases hm⟩
theorem snd_rng2 {a : E} {b : E} (iha : Snd T B C k a) (ihb : Snd T B C k b) : Snd T B C k (.rng2 a b) := by
  have he : ∀ W sc X x, XOk T B C k W sc X → mtE B (.rng2 a b) sc x = true → PE X x (te T C W (.rng2 a b)) := fun W sc X x ok hm => by simp [mtE] at hm
  have ht : ∀ W sc X x, XOk T B C k W sc X → mtE B (.rng2 a b) sc x = true → tst x = true → PT X x (tt T C W (.rng2 a b)) := fun W sc X x ok hm _ => pt_plain ok (he W sc X x ok hm) (plain_match hm rfl)
  have hw : ∀ W sc X op es p, XOk T B C k W sc X → mtE B (.rng2 a b) sc (.BoolOp op es p) = true → PW X (.BoolOp op es p) (tt T C W (.rng2 a b)) := fun W sc X op es p ok hm => by simp [mtE] at hm
  exact ⟨he, ht, hw, fun W sc X es ok hm => by simp [mtA] at hm, fun W sc X x ok hm => by simp [mtO] at hm, fun W sc X t x ok hm => by
    simp only [mtI] at hm
    split at hm <;> first
      | (rename_i heq; cases heq; simp only [Bool.and_eq_true, decide_eq_true_eq] at hm; obtain ⟨⟨⟨⟨⟨rfl, h1⟩, h2⟩, h3⟩, h4⟩, h5⟩ := hm; exact si_rng2 ok h1 h2 h3 (iha.e _ _ _ _ ok h4) (ihb.e _ _ _ _ ok h5))
      | (simp only [Bool.and_eq_true, decide_eq_true_eq] at hm; obtain ⟨⟨⟨⟨⟨rfl, h1⟩, h2⟩, h3⟩, h4⟩, h5⟩ := hm; exact si_rng2 ok h1 h2 h3 (iha.e _ _ _ _ ok h4) (ihb.e _ _ _ _ ok h5))
      | cases hm⟩
theorem snd_enum {a : E} (iha : Snd T B C k a) : Snd T B C k (.enum a) := by
  have he : ∀ W sc X x, XOk T B C k W sc X → mtE B (.enum a) sc x = true → PE X x (te T C W (.enum a)) := fun W sc X x ok hm => by simp [mtE] at hm
  have ht : ∀ W sc X x, XOk T B C k W sc X → mtE B (.enum a) sc x = true → tst x = true → PT X x (tt T C W (.enum a)) := fun W sc X x ok hm _ => pt_plain ok (he W sc X x ok hm) (plain_match hm rfl)
  have hw : ∀ W sc X op es p, XOk T B C k W sc X → mtE B (.enum a) sc (.BoolOp op es p) = true → PW X (.BoolOp op es p) (tt T C W (.enum a)) := fun W sc X op es p ok hm => by simp [mtE] at hm
  exact ⟨he, ht, hw, fun W sc X es ok hm => by simp [mtA] at hm, fun W sc X x ok hm => by simp [mtO] at hm, fun W sc X t x ok hm => by
    simp only [mtI] at hm
    split at hm
    · simp only [Bool.and_eq_true, decide_eq_true_eq] at hm; obtain ⟨⟨⟨rfl, h1⟩, h2⟩, h3⟩ := hm; exact si_enum ok h1 h2 (iha.e _ _ _ _ ok h3)
    · cases hm⟩
theorem snd_zip {a : E} {b : E} (iha : Snd T B C k a) (ihb : Snd T B C k b) : Snd T B C k (.zip a b) := by
  have he : ∀ W sc X x, XOk T B C k W sc X → mtE B (.zip a b) sc x = true → PE X x (te T C W (.zip a b)) := fun W sc X x ok hm => by simp [mtE] at hm
  have ht : ∀ W sc X x, XOk T B C k W sc X → mtE B (.zip a b) sc x = true → tst x = true → PT X x (tt T C W (.zip a b)) := fun W sc X x ok hm _ => pt_plain ok (he W sc X x ok hm) (plain_match hm rfl)
  have hw : ∀ W sc X op es p, XOk T B C k W sc X → mtE B (.zip a b) sc (.BoolOp op es p) = true → PW X (.BoolOp op es p) (tt T C W (.zip a b)) := fun W sc X op es p ok hm => by simp [mtE] at hm
  exact ⟨he, ht, hw, fun W sc X es ok hm => by simp [mtA] at hm, fun W sc X x ok hm => by simp [mtO] at hm, fun W sc X t x ok hm => by
    simp only [mtI] at hm
    split at hm
    · simp only [Bool.and_eq_true, decide_eq_true_eq] at hm; obtain ⟨⟨⟨⟨⟨rfl, h1⟩, h2⟩, h3⟩, h4⟩, h5⟩ := hm; exact si_zip ok h1 h2 h3 (iha.e _ _ _ _ ok h4) (ihb.e _ _ _ _ ok h5)
    · cases hm⟩
theorem snd : ∀ ir : E, Snd T B C k ir
  | .nev => snd_nev
  | .var i => snd_var
  | .int i => snd_int
  | .bl b => snd_bl
  | .non => snd_non
  | .str s => snd_str
  | .glob g => snd_glob
  | .bin o a b => snd_bin (snd a) (snd b)
  | .neg a => snd_neg (snd a)
  | .not a => snd_not (snd a)
  | .cmp o a b => snd_cmp (snd a) (snd b)
  | .cmp2 o q a b c => snd_cmp2 (snd a) (snd b) (snd c)
  | .isN a => snd_isN (snd a)
  | .isNN a => snd_isNN (snd a)
  | .and a b => snd_and (snd a) (snd b)
  | .or a b => snd_or (snd a) (snd b)
  | .one a => snd_one (snd a)
  | .ite c a b => snd_ite (snd c) (snd a) (snd b)
  | .tup as => snd_tup (snd as)
  | .lst as => snd_lst (snd as)
  | .nil => snd_nil
  | .cons a as => snd_cons (snd a) (snd as)
  | .idx a b => snd_idx (snd a) (snd b)
  | .slc a lo hi => snd_slc (snd a) (snd lo) (snd hi)
  | .nop => snd_nop
  | .opt a => snd_opt (snd a)
  | .call f as => snd_call (snd as)
  | .bi b as => snd_bi (snd as)
  | .isi a t => snd_isi (snd a)
  | .meth m a as => snd_meth (snd a) (snd as)
  | .comp own tg it c e => snd_comp (snd it) (snd c) (snd e)
  | .seq a => snd_seq (snd a)
  | .rng1 a => snd_rng1 (snd a)
  | .rng2 a b => snd_rng2 (snd a) (snd b)
  | .enum a => snd_enum (snd a)
  | .zip a b => snd_zip (snd a) (snd b)
end
end Ly

set_option Elab.async false
set_option linter.all false
set_option maxRecDepth 100000
set_option autoImplicit false
/-! Ly7: statements, defs. -/
namespace Ly
open PySem L2

def PostS (T : Tb) (μ : List Addr) (H : Hp) (W : WX) (r : SR) (D : Ends) : Prop :=
  match r with
  | .next ρ h' => ∀ μ' H' σ', HR T μ' h' H' → Fr μ H μ' H' → EnvR T μ' H' ρ σ' → D.nx σ' H'
  | .brk ρ h' => ∀ μ' H' σ', HR T μ' h' H' → Fr μ H μ' H' → EnvR T μ' H' ρ σ' → D.bk σ' H'
  | .cnt ρ h' => ∀ μ' H' σ', HR T μ' h' H' → Fr μ H μ' H' → EnvR T μ' H' ρ σ' → D.ct σ' H'
  | .ret d h' => ∀ μ' H' v, HR T μ' h' H' → Fr μ H μ' H' → Rep T μ' H' d v → D.rt v H'
  | .exc c fs ρ h' => ∀ μ' H' σ' cls d, HR T μ' h' H' → Fr μ H μ' H' → EnvR T μ' H' ρ σ' → ExcR T μ' H' c fs cls d → W cls d σ' H'
  | .bad => False
def ts (T : Tb) (C : Cf) (W : WX) (s : S) : TS := fun D σ H => ∃ μ h ρ, HR T μ h H ∧ EnvR T μ H ρ σ ∧ PostS T μ H W (evS C s ρ h) D

theorem PS.imp {X : Cx} {e : Stmt} {t t' : TS} (h : PS X e t) (f : ∀ D σ H, t' D σ H → t D σ H) : PS X e t' := ⟨fun pins s σ H D I q => h.run pins s σ H D I (f D σ H q)⟩
theorem PSs.imp {X : Cx} {e : List Stmt} {t t' : TS} (h : PSs X e t) (f : ∀ D σ H, t' D σ H → t D σ H) : PSs X e t' := ⟨fun pins s σ H D I q => h.run pins s σ H D I (f D σ H q)⟩

section
variable {T : Tb} {B : Nm} {C : Cf} {k : Nat} {W : WX} {sc : Scope} {X : Cx} {μ : List Addr} {h : Hh} {H : Hp}

theorem PostS.from {μ1 : List Addr} {H1 : Hp} {r : SR} {D : Ends} (f : Fr μ H μ1 H1) (p : PostS T μ H W r D) : PostS T μ1 H1 W r D := by
  cases r with
  | next ρ h => exact fun μ' H' σ' hr fr => p μ' H' σ' hr (f.trans fr)
  | brk ρ h => exact fun μ' H' σ' hr fr => p μ' H' σ' hr (f.trans fr)
  | cnt ρ h => exact fun μ' H' σ' hr fr => p μ' H' σ' hr (f.trans fr)
  | ret d h => exact fun μ' H' σ' hr fr => p μ' H' σ' hr (f.trans fr)
  | exc c fs ρ h => exact fun μ' H' σ' cls d hr fr => p μ' H' σ' cls d hr (f.trans fr)
  | bad => exact p
/-- from an expression of a statement on -/
theorem st_go {e : E} {σ : St} {Q : VK} {D : Ends} {ρ : Env} {kk : Ly.D → Hh → SR} (hr : HR T μ h H) (er : EnvR T μ H ρ σ) (p : PostS T μ H W ((evE C e ρ h).st ρ kk) D)
    (f : ∀ d h1 μ1 H1 v, HR T μ1 h1 H1 → Fr μ H μ1 H1 → EnvR T μ1 H1 ρ σ → Rep T μ1 H1 d v → PostS T μ1 H1 W (kk d h1) D → Q v H1) : te T C W e σ H Q := by
  refine ⟨μ, h, ρ, hr, er, ?_⟩
  cases q : evE C e ρ h with
  | ok d h1 => rw [q] at p; exact fun μ1 H1 v hr1 fr1 q1 => f d h1 μ1 H1 v hr1 fr1 (er.mono fr1) q1 (p.from fr1)
  | exc c fs h1 => rw [q] at p; exact fun μ1 H1 cls d hr1 fr1 x => p μ1 H1 σ cls d hr1 fr1 (er.mono fr1) x
  | bad => rw [q] at p; exact p.elim
theorem stT_go {e : E} {σ : St} {Q : Bool → Hp → Prop} {D : Ends} {ρ : Env} {kk : Bool → Hh → SR} (hr : HR T μ h H) (er : EnvR T μ H ρ σ) (p : PostS T μ H W ((evE C e ρ h).stT ρ kk) D)
    (f : ∀ b h1 μ1 H1, HR T μ1 h1 H1 → Fr μ H μ1 H1 → EnvR T μ1 H1 ρ σ → PostS T μ1 H1 W (kk b h1) D → Q b H1) : tt T C W e σ H Q := by
  refine ⟨μ, h, ρ, hr, er, ?_⟩
  unfold Res.stT at p
  unfold Res.tr
  cases q : evE C e ρ h with
  | ok d h1 =>
    rw [q] at p
    simp only [Res.st] at p
    simp only [Res.ok_bind]
    cases z : truth h1 d with
    | some b => rw [z] at p; exact fun μ1 H1 b1 hr1 fr1 e1 => by subst e1; exact f _ h1 μ1 H1 hr1 fr1 (er.mono fr1) (p.from fr1)
    | none => rw [z] at p; exact p.elim
  | exc c fs h1 => rw [q] at p; exact fun μ1 H1 cls d hr1 fr1 x => p μ1 H1 σ cls d hr1 fr1 (er.mono fr1) x
  | bad => rw [q] at p; exact p.elim

/-- where a statement stands -/
structure XSk (T : Tb) (B : Nm) (C : Cf) (k : Nat) (W : WX) (sc : Scope) (X : Cx) : Prop where
  ok : XOk T B C k W sc X
  st : Sto sc X
  po : PassesOwn (model X.prog X.w) X.A X.env X.xe

theorem ss_nil : PSs X [] (ts T C W .skip) := PSs.imp pss_nil fun D σ H t => by
  obtain ⟨μ, h, ρ, hr, er, q⟩ := t
  exact q μ H σ hr (Fr.refl _ _) er
theorem ss_cons {a b : S} {st : Stmt} {r : List Stmt} (ha : PS X st (ts T C W a)) (hb : PSs X r (ts T C W b)) : PSs X (st :: r) (ts T C W (.cat a b)) := PSs.imp (pss_cons ha hb) fun D σ H t => by
  obtain ⟨μ, h, ρ, hr, er, q⟩ := t
  refine ⟨μ, h, ρ, hr, er, ?_⟩
  simp only [evS] at q
  cases z : evS C a ρ h with
  | next ρ1 h1 => rw [z] at q; exact fun μ1 H1 σ1 hr1 fr1 er1 => ⟨μ1, h1, ρ1, hr1, er1, q.from fr1⟩
  | brk ρ1 h1 => rw [z] at q; exact q
  | cnt ρ1 h1 => rw [z] at q; exact q
  | ret d h1 => rw [z] at q; exact q
  | exc c fs ρ1 h1 => rw [z] at q; exact q
  | bad => rw [z] at q; exact q.elim
theorem ts_next {s : S} {D : Ends} {σ : St} {H : Hp} (t : ts T C W s D σ H) (e : ∀ ρ h, evS C s ρ h = .next ρ h) : D.nx σ H := by
  obtain ⟨μ, h, ρ, hr, er, q⟩ := t
  rw [e] at q
  exact q μ H σ hr (Fr.refl _ _) er
theorem s1_ex {e : E} {x : Expr} {pos : Pos} (hn : ncomp x = true) (he : PE X x (te T C W e)) : PS X (.Expr x pos) (ts T C W (.ex e)) := by
  refine PS.imp (ps_expr he (swap_ncomp hn none pos.line X.env)) fun D σ H t => ?_
  obtain ⟨μ, h, ρ, hr, er, q⟩ := t
  simp only [evS] at q
  exact st_go hr er q fun d h1 μ1 H1 v hr1 fr1 er1 q1 p1 => p1 μ1 H1 σ hr1 (Fr.refl _ _) er1
theorem asg_ok {tg : Tg} {e : E} {D : Ends} {σ : St} {H : Hp} (t : ts T C W (.asg tg e) D σ H) : tAsg (te T C W e) (gOf T.K tg) D σ H := by
  obtain ⟨μ, h, ρ, hr, er, q⟩ := t
  simp only [evS] at q
  refine st_go hr er q fun d h1 μ1 H1 v hr1 fr1 er1 q1 p1 => ?_
  split at p1
  · rename_i ρ1 eb
    exact bind_tg hr1 er1 q1 eb fun σ' er' _ => p1 μ1 H1 σ' hr1 (Fr.refl _ _) er'
  · exact p1.elim
theorem swapped_name {y : Str} {p : Pos} (x : Expr) (env : PySem.Env) : swappedStores [.Name y p] x env = pure none := by cases x <;> rfl
theorem swapped_sub {a b : Expr} {p : Pos} (x : Expr) (env : PySem.Env) : swappedStores [.Subscript a b p] x env = pure none := by cases x <;> rfl
theorem swapped_tup {es : List Expr} {k : Nat} {p : Pos} {x : Expr} (env : PySem.Env) (h : ntup x = true) : swappedStores [.Tuple es k p] x env = pure none := by
  cases x <;> first | rfl | cases h
theorem swap_sub {a b : Expr} {p : Pos} (x : Expr) (l : Nat) (env : PySem.Env) : swapsWith x (some (.Subscript a b p)) l env = pure false := by cases x <;> rfl
theorem s1_name {i : Nat} {y : Str} {py pos : Pos} {e : E} {x : Expr} (xs : XSk T B C k W sc X) (h1 : B.N[i]? = some y) (h2 : locB sc y = true) (hs : swapsWith x (some (.Name y py)) pos.line X.env = pure false) (he : PE X x (te T C W e)) :
    PS X (.Assign [.Name y py] x pos) (ts T C W (.asg (.name i) e)) := by
  have g : PG X (.Name y py) (gOf X.K (.name i)) := pg_tg (sc := sc) xs.ok.n xs.ok.nd xs.ok.calm xs.st (by simp only [mtTg, h1, h2, Bool.and_eq_true, decide_eq_true_eq]; exact ⟨trivial, trivial⟩)
  refine PS.imp (ps_asg he g hs (swapped_name x X.env)) fun D σ H t => ?_
  exact asg_ok t
theorem s1_tup {is : List Nat} {es : List Expr} {j : Nat} {p pos : Pos} {e : E} {x : Expr} (xs : XSk T B C k W sc X) (h1 : mtNames B sc is es = true) (h2 : ncomp x = true) (h3 : ntup x = true) (he : PE X x (te T C W e)) :
    PS X (.Assign [.Tuple es j p] x pos) (ts T C W (.asg (.tup is) e)) := by
  have g : PG X (.Tuple es j p) (gOf X.K (.tup is)) := pg_tg (sc := sc) xs.ok.n xs.ok.nd xs.ok.calm xs.st h1
  refine PS.imp (ps_asg he g (swap_ncomp h2 (some (.Tuple es j p)) pos.line X.env) (swapped_tup X.env h3)) fun D σ H t => ?_
  have := asg_ok t
  rw [xs.ok.K]
  exact this
/-- a name and a comprehension -/
theorem s1_lc {j : Nat} {y : Str} {py spos : Pos} {own : List Nat} {tg : Tg} {it c e : E} {t i elt : Expr} {ifs : List Expr} {scope : Scope} {pos : Pos} (xs : XSk T B C k W sc X) (hy : B.N[j]? = some y) (hyl : locB sc y = true)
    (h1 : (ownN B own).map (·.2) = own) (h2 : blkC B.N sc scope (ownN B own) = true) (h3 : tg.slots.all own.contains = true) (h4 : nset i = true)
    (hi : PI X t i (ti T C W it)) (hm : mtTg B scope tg t = true)
    (hc : ∀ X', XOk T B C k (fun _ _ _ _ => False) (relS scope sc) X' → PTs X' ifs (tt T C (fun _ _ _ _ => False) c)) (he : ∀ X', XOk T B C k (fun _ _ _ _ => False) (relS scope sc) X' → PE X' elt (te T C (fun _ _ _ _ => False) e)) :
    PS X (.Assign [.Name y py] (.ListComp elt [⟨t, i, ifs, 0⟩] scope pos) spos) (ts T C W (.asg (.name j) (.comp own tg it c e))) := by
  have ok := xs.ok
  cases hb : swB sc y py (.ListComp elt [⟨t, i, ifs, 0⟩] scope pos) with
  | true =>
    simp only [swB, Bool.and_eq_true, decide_eq_true_eq, Bool.not_eq_true'] at hb
    have ob : BlkOk X.N X.env.scope scope (ownN B own) := by rw [ok.n, ok.s]; exact blkOk_by h2
    have kd := ob.kind
    have yl : X.env.scope.names.lookup y = some .local := by rw [ok.s]; exact hb.1.1
    refine PS.imp (ps_setLc (own := ownN B own) (g := gOf T.K tg) ok.calm ok.nd' (ok.at hy) yl (sw_true (by rw [ok.s]; exact ok.kd) yl hb.1.2 hb.2) hi ob (fun s H c cl fp => ?_) (fun s H c cl fp => hc _ (ok.blk kd s H c cl fp)) (fun s H c cl fp => he _ (ok.blk kd s H c cl fp)) fun x => fold_nset h4 _ _) fun D σ H t => ?_
    · rw [← ok.K]
      exact pg_tg (X := X.blk s H scope (compEnvC scope cl c X.env) fp) ok.n ok.nd ok.calm (sto_blk ok s H c cl fp) hm
    · rw [h1]
      exact comp_ok h3 (asg_ok t)
  | false =>
    refine s1_name xs hy hyl ?_ (se_comp ok h1 h2 h3 h4 hi hm hc he)
    have hk : X.env.blockKind = .function := by
      unfold Env.blockKind
      rw [ok.s, ok.kd]; rfl
    have hkk : X.env.kindOf y = sc.names.lookup y := by
      show X.env.scope.names.lookup y = _
      rw [ok.s]
    unfold swapsWith
    simp only [hk, hkk, Expr.pos]
    have e : ((ScopeKind.function == ScopeKind.function) && (sc.names.lookup y == some NameKind.local) && (py.line == pos.line) && !(scope.names.any fun (n, k) => n == y && (k == .local || k == .cell))) = false := by
      simp only [swB] at hb
      have e2 : (sc.names.lookup y == some NameKind.local) = decide (sc.names.lookup y = some NameKind.local) := by
        cases z : sc.names.lookup y with
        | none => rfl
        | some kk => cases kk <;> rfl
      rw [e2, show (ScopeKind.function == ScopeKind.function) = true from rfl, Bool.true_and]
      exact hb
    first
      | (rw [e]; rfl)
      | (simp only [e]; rfl)
      | (show (pure _ : Sem Bool) = pure false; rw [e])
theorem s1_set {o i e : E} {a b x : Expr} {p pos : Pos} (hs : nsl b = true) (ho : PE X a (te T C W o)) (hi : PE X b (te T C W i)) (he : PE X x (te T C W e)) : PS X (.Assign [.Subscript a b p] x pos) (ts T C W (.set o i e)) := by
  have g : PG X (.Subscript a b p) (gSub (te T C W o) (te T C W i) rSetL) := pg_sub ho hi set_list (by intro v; cases b <;> first | rfl | cases hs)
  refine PS.imp (ps_asg he g (swap_sub (a := a) (b := b) (p := p) x pos.line X.env) (swapped_sub x X.env)) fun D σ H t => ?_
  obtain ⟨μ, h, ρ, hr, er, q⟩ := t
  simp only [evS] at q
  refine st_go hr er q fun v h1 μ1 H1 w hr1 fr1 er1 q1 p1 => ?_
  refine st_go hr1 er1 p1 fun d h2 μ2 H2 u hr2 fr2 er2 q2 p2 => ?_
  refine st_go hr2 er2 p2 fun j h3 μ3 H3 z hr3 fr3 er3 q3 p3 => ?_
  split at p3
  · rename_i h4 e4
    exact set_ok hr3 (q2.mono fr3) q3 ((q1.mono fr2).mono fr3) e4 fun H' hr4 fr4 => p3 μ3 H' σ hr4 fr4 (er3.mono fr4)
  · exact p3.elim
theorem augD_add {a b z : Ly.D} (e : augD .add a b = some z) : ∃ i j, a = .int i ∧ b = .int j ∧ z = .int (i + j) := by
  cases a <;> cases b <;> simp [augD] at e
  exact ⟨_, _, rfl, rfl, e.symm⟩
theorem augD_sub {a b z : Ly.D} (e : augD .sub a b = some z) : ∃ i j, a = .int i ∧ b = .int j ∧ z = .int (i - j) := by
  cases a <;> cases b <;> simp [augD] at e
  exact ⟨_, _, rfl, rfl, e.symm⟩
theorem s1_aug {i : Nat} {y : Str} {o : BOp} {op : Operator} {e : E} {x : Expr} {p pos : Pos} (xs : XSk T B C k W sc X) (h1 : B.N[i]? = some y) (h2 : locB sc y = true) (h3 : augB o op = true) (he : PE X x (te T C W e)) : PS X (.AugAssign (.Name y p) op x pos) (ts T C W (.aug i o e)) := by
  obtain ⟨l1, l2⟩ := xs.st y h2
  cases o with
  | add =>
    cases op <;> try (cases h3; done)
    refine PS.imp (ps_aug xs.ok.nd' (xs.ok.at h1) l1 he ip_add l2) fun D σ H t => ?_
    obtain ⟨μ, h, ρ, hr, er, q⟩ := t
    simp only [evS] at q
    split at q
    · rename_i a ea
      obtain ⟨v, ev, qv⟩ := er.get ea
      refine ⟨v, ev, st_go hr er q fun b h1 μ1 H1 w hr1 fr1 er1 q1 p1 => ?_⟩
      split at p1
      · rename_i z ez
        obtain ⟨m, n, rfl, rfl, rfl⟩ := augD_add ez
        cases qv; cases q1
        exact ⟨_, _, rfl, rfl, p1 μ1 H1 _ hr1 (Fr.refl _ _) (er1.set i (.int _))⟩
      · exact p1.elim
    · exact q.elim
  | sub =>
    cases op <;> try (cases h3; done)
    refine PS.imp (ps_aug xs.ok.nd' (xs.ok.at h1) l1 he ip_sub l2) fun D σ H t => ?_
    obtain ⟨μ, h, ρ, hr, er, q⟩ := t
    simp only [evS] at q
    split at q
    · rename_i a ea
      obtain ⟨v, ev, qv⟩ := er.get ea
      refine ⟨v, ev, st_go hr er q fun b h1 μ1 H1 w hr1 fr1 er1 q1 p1 => ?_⟩
      split at p1
      · rename_i z ez
        obtain ⟨m, n, rfl, rfl, rfl⟩ := augD_sub ez
        cases qv; cases q1
        exact ⟨_, _, rfl, rfl, p1 μ1 H1 _ hr1 (Fr.refl _ _) (er1.set i (.int _))⟩
      · exact p1.elim
    · exact q.elim
  | _ => cases op <;> cases h3
theorem s1_ret {e : E} {x : Expr} {pos : Pos} (he : PE X x (te T C W e)) : PS X (.Return (some x) pos) (ts T C W (.ret e)) := by
  refine PS.imp (ps_ret he) fun D σ H t => ?_
  obtain ⟨μ, h, ρ, hr, er, q⟩ := t
  simp only [evS] at q
  exact st_go hr er q fun d h1 μ1 H1 v hr1 fr1 er1 q1 p1 => p1 μ1 H1 v hr1 (Fr.refl _ _) q1
theorem s1_retN {pos : Pos} : PS X (.Return none pos) (ts T C W .retN) := by
  refine PS.imp ps_retN fun D σ H t => ?_
  obtain ⟨μ, h, ρ, hr, er, q⟩ := t
  exact q μ H .non hr (Fr.refl _ _) .non
theorem s1_if {c : E} {a b : S} {x : Expr} {y z : List Stmt} {pos : Pos} (hc : PT X x (tt T C W c)) (ha : PSs X y (ts T C W a)) (hb : PSs X z (ts T C W b)) : PS X (.If x y z pos) (ts T C W (.ifS c a b)) := by
  refine PS.imp (ps_if hc ha hb) fun D σ H t => ?_
  obtain ⟨μ, h, ρ, hr, er, q⟩ := t
  simp only [evS] at q
  refine stT_go hr er q fun b h1 μ1 H1 hr1 fr1 er1 p1 => ?_
  cases b with
  | true => rw [if_pos rfl] at p1 ⊢; exact ⟨μ1, h1, ρ, hr1, er1, p1⟩
  | false => rw [if_neg Bool.false_ne_true] at p1 ⊢; exact ⟨μ1, h1, ρ, hr1, er1, p1⟩
theorem s1_for {tg : Tg} {it : E} {b : S} {t i : Expr} {body : List Stmt} {pos : Pos} (xs : XSk T B C k W sc X) (h1 : mtTg B sc tg t = true) (h2 : nset i = true) (hi : PI X t i (ti T C W it)) (hb : PSs X body (ts T C W b)) : PS X (.For t i body [] pos) (ts T C W (.forS tg it b)) := by
  have g : PG X t (gOf X.K tg) := pg_tg xs.ok.n xs.ok.nd xs.ok.calm xs.st h1
  rw [xs.ok.K] at g
  refine PS.imp (ps_for xs.po xs.ok.calm hi g hb fun x => fold_nset h2 _ _) fun D σ H t => ?_
  obtain ⟨μ, h, ρ, hr, er, q⟩ := t
  simp only [evS] at q
  have step : ∀ (p : Plan) (h1 : Hh) (μ1 : List Addr) (H1 : Hp) (J : It), HR T μ1 h1 H1 → Fr μ H μ1 H1 → WalkR T μ1 H1 p J →
      PostS T μ1 H1 W (forL p.ok (fun x ρ1 h2 => match bindTg h2 ρ1 tg x with
        | some ρ2 => evS C b ρ2 h2
        | none => .bad) p.its ρ h1) D → ∃ Wv : Nat → Nat → St → Hp → Prop, (∃ m, Wv 0 m σ H1) ∧ ∀ i m σ H, Wv i m σ H →
        (J.stop i H ∧ D.nx σ H) ∨ (J.go i H ∧ ∃ N : St → Hp → Prop, (∀ σ' H', N σ' H' → ∃ m', m' < m ∧ Wv (i + 1) m' σ' H') ∧ ∀ x H', J.yld i H x H' → gOf T.K tg x σ H' fun σ2 H2 => ts T C W b { D with nx := N, ct := N, bk := D.nx } σ2 H2) := by
    intro p h1 μ1 H1 J hr1 fr1 w p1
    have er1 := er.mono fr1
    generalize hf : (fun (x : Ly.D) (ρ1 : Env) (h2 : Hh) => match bindTg h2 ρ1 tg x with
        | some ρ2 => evS C b ρ2 h2
        | none => SR.bad) = f at p1
    let Iv : Nat → St → Hp → Prop := fun i σ2 H2 => ∃ μ2 h2 ρ2, HR T μ2 h2 H2 ∧ Fr μ1 H1 μ2 H2 ∧ EnvR T μ2 H2 ρ2 σ2 ∧ PostS T μ2 H2 W (forL p.ok f (p.its.drop i) ρ2 h2) D
    refine ⟨fun i m σ2 H2 => m = p.its.length - i ∧ i ≤ p.its.length ∧ Iv i σ2 H2, ⟨_, rfl, Nat.zero_le _, μ1, h1, ρ, hr1, Fr.refl _ _, er1, by rw [List.drop_zero]; exact p1⟩, ?_⟩
    rintro i m σ2 H2 ⟨rfl, hi, μ2, h2, ρ2, hr2, fr2, er2, fin⟩
    by_cases hlt : i < p.its.length
    · have ed : p.its.drop i = p.its[i] :: p.its.drop (i + 1) := List.drop_eq_getElem_cons hlt
      rw [ed] at fin
      simp only [forL] at fin
      cases hk : p.ok h2 with
      | false => rw [hk] at fin; exact fin.elim
      | true =>
        rw [hk, if_pos rfl] at fin
        refine .inr ⟨w.goes i μ2 h2 H2 hr2 fr2 hk hlt, Iv (i + 1), fun σ' H' hN => ⟨p.its.length - (i + 1), by omega, rfl, hlt, hN⟩, fun x H3 y => ?_⟩
        obtain ⟨d, e1, hr3, fr3, qd⟩ := w.ylds i μ2 h2 H2 x H3 hr2 fr2 hk hlt y
        rw [List.getElem?_eq_getElem hlt] at e1
        cases e1
        have er3 := er2.mono fr3
        have fin3 := fin.from fr3
        cases eb : bindTg h2 ρ2 tg p.its[i] with
        | none =>
          have z : f p.its[i] ρ2 h2 = .bad := by rw [← hf]; simp only [eb]
          rw [z] at fin3
          exact fin3.elim
        | some ρ3 =>
          have z : f p.its[i] ρ2 h2 = evS C b ρ3 h2 := by rw [← hf]; simp only [eb]
          rw [z] at fin3
          refine bind_tg hr3 er3 qd eb fun σ3 er4 _ => ⟨μ2, h2, ρ3, hr3, er4, ?_⟩
          cases ez : evS C b ρ3 h2 with
          | next ρ4 h4 => rw [ez] at fin3; exact fun μ4 H4 σ4 hr4 fr4 er5 => ⟨μ4, h4, ρ4, hr4, (fr2.trans fr3).trans fr4, er5, fin3.from fr4⟩
          | cnt ρ4 h4 => rw [ez] at fin3; exact fun μ4 H4 σ4 hr4 fr4 er5 => ⟨μ4, h4, ρ4, hr4, (fr2.trans fr3).trans fr4, er5, fin3.from fr4⟩
          | brk ρ4 h4 => rw [ez] at fin3; exact fin3
          | ret d h4 => rw [ez] at fin3; exact fin3
          | exc c fs ρ4 h4 => rw [ez] at fin3; exact fin3
          | bad => rw [ez] at fin3; exact fin3.elim
    · have ei : i = p.its.length := by omega
      subst ei
      rw [List.drop_length] at fin
      simp only [forL] at fin
      cases hk : p.ok h2 with
      | false => rw [hk] at fin; exact fin.elim
      | true =>
        rw [hk, if_pos rfl] at fin
        exact .inl ⟨w.stops μ2 h2 H2 hr2 fr2 hk, fin μ2 H2 σ2 hr2 (Fr.refl _ _) er2⟩
  refine ⟨μ, h, ρ, hr, er, ?_⟩
  cases z : evI C it ρ h with
  | ok p h1 =>
    rw [z] at q
    exact fun μ1 H1 J hr1 fr1 w => step p h1 μ1 H1 J hr1 fr1 w (q.from fr1)
  | exc c fs h1 => rw [z] at q; exact fun μ1 H1 cls d hr1 fr1 x => q μ1 H1 σ cls d hr1 fr1 (er.mono fr1) x
  | bad => rw [z] at q; exact q.elim
theorem s1_whl {c : E} {b : S} {x : Expr} {body : List Stmt} {pos : Pos} (xs : XSk T B C k W sc X) (hc : PT X x (tt T C W c)) (hb : PSs X body (ts T C W b)) : PS X (.While x body [] pos) (ts T C W (.whl c b)) := by
  refine PS.imp (ps_while xs.po hc hb) fun D σ H t => ?_
  obtain ⟨μ, h, ρ, hr, er, q⟩ := t
  simp only [evS] at q
  generalize hcc : (fun (ρ1 : Env) (h1 : Hh) => (evE C c ρ1 h1).tr fun t h2 => Res.ok t h2) = cc at q
  generalize hff : (fun (ρ1 : Env) (h1 : Hh) => evS C b ρ1 h1) = ff at q
  refine ⟨fun m σ2 H2 => ∃ μ2 h2 ρ2, HR T μ2 h2 H2 ∧ EnvR T μ2 H2 ρ2 σ2 ∧ PostS T μ2 H2 W (whlL cc ff m ρ2 h2) D, ⟨_, μ, h, ρ, hr, er, q⟩, ?_⟩
  rintro m σ2 H2 ⟨μ2, h2, ρ2, hr2, er2, p⟩
  cases m with
  | zero => exact p.elim
  | succ m =>
    simp only [whlL] at p
    refine ⟨μ2, h2, ρ2, hr2, er2, ?_⟩
    have ec : cc ρ2 h2 = (evE C c ρ2 h2).tr fun t h2 => Res.ok t h2 := by rw [← hcc]
    rw [← ec]
    cases z : cc ρ2 h2 with
    | ok t h3 =>
      rw [z] at p
      intro μ3 H3 t' hr3 fr3 et
      subst et
      have er3 := er2.mono fr3
      cases t with
      | true =>
        rw [if_pos rfl]
        simp only at p
        refine ⟨fun σ4 H4 => ∃ μ4 h4 ρ4, HR T μ4 h4 H4 ∧ EnvR T μ4 H4 ρ4 σ4 ∧ PostS T μ4 H4 W (whlL cc ff m ρ4 h4) D, fun σ4 H4 hN => ⟨m, by omega, hN⟩, μ3, h3, ρ2, hr3, er3, ?_⟩
        have ef : ff ρ2 h3 = evS C b ρ2 h3 := by rw [← hff]
        rw [ef] at p
        have p := p.from fr3
        cases ez : evS C b ρ2 h3 with
        | next ρ4 h4 => rw [ez] at p; exact fun μ4 H4 σ4 hr4 fr4 er5 => ⟨μ4, h4, ρ4, hr4, er5, p.from fr4⟩
        | cnt ρ4 h4 => rw [ez] at p; exact fun μ4 H4 σ4 hr4 fr4 er5 => ⟨μ4, h4, ρ4, hr4, er5, p.from fr4⟩
        | brk ρ4 h4 => rw [ez] at p; exact p
        | ret d h4 => rw [ez] at p; exact p
        | exc c fs ρ4 h4 => rw [ez] at p; exact p
        | bad => rw [ez] at p; exact p.elim
      | false =>
        rw [if_neg Bool.false_ne_true]
        exact p μ3 H3 σ2 hr3 fr3 er3
    | exc c fs h3 => rw [z] at p; exact fun μ1 H1 cls d hr1 fr1 x => p μ1 H1 σ2 cls d hr1 fr1 (er2.mono fr1) x
    | bad => rw [z] at p; exact p.elim
theorem lc_case {i : Nat} {y : Str} {py pos : Pos} {e : E} {x : Expr} (xs : XSk T B C k W sc X) (h1 : B.N[i]? = some y) (h2 : locB sc y = true) (h3 : mtE B e sc x = true) (h4 : lcB x = true) : PS X (.Assign [.Name y py] x pos) (ts T C W (.asg (.name i) e)) := by
  cases x with
  | ListComp elt gs scope lp =>
    cases e with
    | nev => exact ⟨fun _ _ _ _ _ _ t => by obtain ⟨μ, h, ρ, hr, er, q⟩ := t; exact q.elim⟩
    | comp own tg it c e =>
      simp only [mtE] at h3
      split at h3
      rotate_left
      · cases h3
      rename_i heq
      cases heq
      simp only [Bool.and_eq_true, decide_eq_true_eq] at h3
      obtain ⟨⟨⟨⟨⟨⟨⟨⟨rfl, g1⟩, g2⟩, g3⟩, g4⟩, g5⟩, g6⟩, g7⟩, g8⟩ := h3
      refine s1_lc xs h1 h2 g1 g2 g3 g4 ((snd it).i _ _ _ _ _ xs.ok g5) g6 (fun X' ok' => ?_) (fun X' ok' => (snd e).e _ _ _ _ ok' g7)
      split at g8
      · obtain rfl := isTr_of g8
        exact ⟨fun pins s σ H Q I t => pts_nil.run pins s σ H Q I (by
          obtain ⟨μ, h, ρ, hr, er, q⟩ := t
          exact q μ H true hr (Fr.refl _ _) rfl)⟩
      · simp only [Bool.and_eq_true] at g8
        exact pts_one ((snd c).t _ _ _ _ ok' g8.1 g8.2)
      · cases g8
    | _ => simp [mtE] at h3
  | _ => cases h4

/-! ### every statement -/
mutual
theorem snd1 (xs : XSk T B C k W sc X) : ∀ (a : S) (st : Stmt), mt1 B sc a st = true → PS X st (ts T C W a)
  | .nev, st, _ => ⟨fun _ _ _ _ _ _ t => by obtain ⟨μ, h, ρ, hr, er, q⟩ := t; exact q.elim⟩
  | .pass, st, hm => by
    simp only [mt1] at hm
    split at hm
    · exact PS.imp ps_pass fun D σ H t => ts_next t fun _ _ => rfl
    · exact PS.imp ps_doc fun D σ H t => ts_next t fun _ _ => rfl
    · cases hm
  | .ex e, st, hm => by
    simp only [mt1] at hm
    split at hm
    · simp only [Bool.and_eq_true] at hm
      exact s1_ex hm.2 ((snd e).e _ _ _ _ xs.ok hm.1)
    · cases hm
  | .asg tg e, st, hm => by
    simp only [mt1] at hm
    split at hm
    · split at hm
      · simp only [Bool.and_eq_true, decide_eq_true_eq, Bool.or_eq_true] at hm
        obtain ⟨⟨⟨h1, h2⟩, h3⟩, h4⟩ := hm
        rcases h4 with h4 | h4
        · exact s1_name xs h1 h2 (swap_ncomp h4 _ _ _) ((snd e).e _ _ _ _ xs.ok h3)
        · exact lc_case xs h1 h2 h3 h4
      · cases hm
    · split at hm
      · simp only [Bool.and_eq_true] at hm
        exact s1_tup xs hm.1.1.1 hm.1.2 hm.2 ((snd e).e _ _ _ _ xs.ok hm.1.1.2)
      · cases hm
    · cases hm
  | .set o i e, st, hm => by
    simp only [mt1] at hm
    split at hm
    · simp only [Bool.and_eq_true] at hm
      exact s1_set hm.1.2 ((snd o).e _ _ _ _ xs.ok hm.1.1.1) ((snd i).e _ _ _ _ xs.ok hm.1.1.2) ((snd e).e _ _ _ _ xs.ok hm.2)
    · cases hm
  | .aug i o e, st, hm => by
    simp only [mt1] at hm
    split at hm
    · simp only [Bool.and_eq_true, decide_eq_true_eq] at hm
      exact s1_aug xs hm.1.1.1 hm.1.1.2 hm.1.2 ((snd e).e _ _ _ _ xs.ok hm.2)
    · cases hm
  | .ret e, st, hm => by
    simp only [mt1] at hm
    split at hm
    · exact s1_ret ((snd e).e _ _ _ _ xs.ok hm)
    · cases hm
  | .retN, st, hm => by
    simp only [mt1] at hm
    split at hm
    · exact s1_retN
    · cases hm
  | .ifS c a b, st, hm => by
    simp only [mt1] at hm
    split at hm
    · simp only [Bool.and_eq_true] at hm
      exact s1_if ((snd c).t _ _ _ _ xs.ok hm.1.1.1 hm.1.1.2) (sndS xs a _ hm.1.2) (sndS xs b _ hm.2)
    · cases hm
  | .forS tg it b, st, hm => by
    simp only [mt1] at hm
    split at hm
    · simp only [Bool.and_eq_true] at hm
      exact s1_for xs hm.1.1.1 hm.1.2 ((snd it).i _ _ _ _ _ xs.ok hm.1.1.2) (sndS xs b _ hm.2)
    · cases hm
  | .whl c b, st, hm => by
    simp only [mt1] at hm
    split at hm
    · simp only [Bool.and_eq_true] at hm
      exact s1_whl xs ((snd c).t _ _ _ _ xs.ok hm.1.1 hm.1.2) (sndS xs b _ hm.2)
    · cases hm
  | .brk, st, hm => by
    simp only [mt1] at hm
    split at hm
    · exact PS.imp ps_break fun D σ H t => by
        obtain ⟨μ, h, ρ, hr, er, q⟩ := t
        exact q μ H σ hr (Fr.refl _ _) er
    · cases hm
  | .cnt, st, hm => by
    simp only [mt1] at hm
    split at hm
    · exact PS.imp ps_continue fun D σ H t => by
        obtain ⟨μ, h, ρ, hr, er, q⟩ := t
        exact q μ H σ hr (Fr.refl _ _) er
    · cases hm
  | .skip, st, hm => by simp [mt1] at hm
  | .cat a b, st, hm => by simp [mt1] at hm
  | .rse c as, st, hm => by simp [mt1] at hm
theorem sndS (xs : XSk T B C k W sc X) : ∀ (a : S) (st : List Stmt), mtS B sc a st = true → PSs X st (ts T C W a)
  | .skip, st, hm => by
    simp only [mtS] at hm
    split at hm
    · exact ss_nil
    · cases hm
  | .cat a b, st, hm => by
    simp only [mtS] at hm
    split at hm
    · simp only [Bool.and_eq_true] at hm
      exact ss_cons (snd1 xs a _ hm.1) (sndS xs b _ hm.2)
    · cases hm
  | .nev, st, hm => by simp [mtS] at hm
  | .pass, st, hm => by simp [mtS] at hm
  | .ex e, st, hm => by simp [mtS] at hm
  | .asg tg e, st, hm => by simp [mtS] at hm
  | .set o i e, st, hm => by simp [mtS] at hm
  | .aug i o e, st, hm => by simp [mtS] at hm
  | .ret e, st, hm => by simp [mtS] at hm
  | .retN, st, hm => by simp [mtS] at hm
  | .ifS c a b, st, hm => by simp [mtS] at hm
  | .forS tg it b, st, hm => by simp [mtS] at hm
  | .whl c b, st, hm => by simp [mtS] at hm
  | .brk, st, hm => by simp [mtS] at hm
  | .cnt, st, hm => by simp [mtS] at hm
  | .rse c as, st, hm => by simp [mtS] at hm
end
end
end Ly

set_option Elab.async false
set_option linter.all false
set_option maxRecDepth 100000
set_option autoImplicit false
/-! Ly8: defs, by levels. -/
namespace Ly
open PySem L2
section
variable {T : Tb} {μ : List Addr} {h : Hh} {H : Hp}
mutual
theorem Rep.cut {n : Nat} : ∀ {d : D} {v : V}, d.lt n = true → Rep T μ H d v → Rep T (μ.take n) H d v
  | _, _, _, .non => .non
  | _, _, _, .bl b => .bl b
  | _, _, _, .int i => .int i
  | _, _, _, .str s => .str s
  | _, _, e, .tup s q => .tup s (Reps.cut (by simpa [D.lt] using e) q)
  | _, _, e, .rol s q => .rol s (Reps.cut (by simpa [D.lt] using e) q)
  | _, _, e, .ref s => .ref (by
    have hn : _ < n := of_decide_eq_true (by simpa [D.lt] using e)
    rw [List.getElem?_take_of_lt hn]; exact s)
  | _, _, _, .fn s => .fn s
theorem Reps.cut {n : Nat} : ∀ {ds : List D} {vs : List V}, D.lts n ds = true → Reps T μ H ds vs → Reps T (μ.take n) H ds vs
  | _, _, _, .nil => .nil
  | _, _, e, .cons a b => by
    simp only [D.lts, Bool.and_eq_true] at e
    exact .cons (Rep.cut e.1 a) (Reps.cut e.2 b)
end
theorem HR.cut {n : Nat} (r : HR T μ h H) (e : (h.take n).all (Ob.lt n) = true) : HR T (μ.take n) (h.take n) H := by
  refine ⟨by simp [r.len], r.nd.sublist (List.take_sublist _ _), fun m ob hm => ?_⟩
  have hl := (List.getElem?_eq_some_iff.mp hm).1
  simp only [List.length_take] at hl
  have hmn : m < n := by omega
  have lt := List.all_eq_true.mp e ob (List.mem_of_getElem? hm)
  rw [List.getElem?_take_of_lt hmn] at hm
  obtain ⟨a, ha, q⟩ := r.ob m ob hm
  refine ⟨a, by rw [List.getElem?_take_of_lt hmn]; exact ha, ?_⟩
  cases ob with
  | lst ds =>
    obtain ⟨vs, z, q⟩ := q
    exact ⟨vs, z, q.cut lt⟩
theorem pre_take {μ μ' : List Addr} (p : μ <+: μ') : μ'.take μ.length = μ := by
  obtain ⟨t, rfl⟩ := p
  simp
/-- what a call leaves, without what it made -/
theorem fin_ok {W : XK} {WX0 : WX} {Q : VK} {r : SR} (hr : HR T μ h H) (hW : ∀ cls d σ H, W cls d H → WX0 cls d σ H) (p : Post T (Rep T) μ H W (fin h.length r) Q) :
    PostS T μ H WX0 r { nx := fun _ H' => Q .non H', rt := Q } := by
  have back : ∀ {μ' : List Addr} {H' : Hp}, Fr μ H μ' H' → Fr μ H (μ'.take h.length) H' := fun {μ' H'} fr => by
    rw [← hr.len, pre_take fr.pre]
    exact ⟨List.prefix_refl _, fun _ z => .inl z, fr.keep, fr.tup, fr.frz⟩
  have one : ∀ {d : D} {h' : Hh}, Post T (Rep T) μ H W (.ok d (gc h.length d h')) Q → ∀ μ' H' v, HR T μ' h' H' → Fr μ H μ' H' → Rep T μ' H' d v → Q v H' := fun {d h'} p μ' H' v hr' fr' q => by
    by_cases hc : (d.lt h.length && (h'.take h.length).all (Ob.lt h.length)) = true
    · have eg : gc h.length d h' = h'.take h.length := by unfold gc; rw [if_pos hc]
      rw [eg] at p
      simp only [Bool.and_eq_true] at hc
      exact p _ H' v (hr'.cut hc.2) (back fr') (q.cut hc.1)
    · have eg : gc h.length d h' = h' := by unfold gc; rw [if_neg hc]
      rw [eg] at p
      exact p μ' H' v hr' fr' q
  cases r with
  | next ρ h' => exact fun μ' H' σ' hr' fr' er => one p μ' H' .non hr' fr' .non
  | ret d h' => exact fun μ' H' v hr' fr' q => one p μ' H' v hr' fr' q
  | brk ρ h' => exact p.elim
  | cnt ρ h' => exact p.elim
  | bad => exact p.elim
  | exc c fs ρ h' =>
    intro μ' H' σ' cls d hr' fr' er x
    refine hW _ _ _ _ ?_
    by_cases hc : (D.lts h.length fs && (h'.take h.length).all (Ob.lt h.length)) = true
    · have p : Post T (Rep T) μ H W (.exc c fs (h'.take h.length)) Q := by
        have e : fin h.length (.exc c fs ρ h') = .exc c fs (h'.take h.length) := by simp only [fin]; rw [if_pos hc]
        rw [e] at p; exact p
      simp only [Bool.and_eq_true] at hc
      exact p _ H' cls d (hr'.cut hc.2) (back fr') x
    · have p : Post T (Rep T) μ H W (.exc c fs h') Q := by
        have e : fin h.length (.exc c fs ρ h') = .exc c fs h' := by simp only [fin]; rw [if_neg hc]
        rw [e] at p; exact p
      exact p μ' H' cls d hr' fr' x
theorem env_start {N : List Str} {ds : List D} {vs : List V} {m : Nat} (q : Reps T μ H ds vs) (hm : m = N.length - vs.length) : EnvR T μ H (ds.map some ++ List.replicate m none) (L2.start N vs) := by
  subst hm
  unfold L2.start
  refine ⟨by simp [q.length], fun i d e => ?_⟩
  by_cases hi : i < ds.length
  · rw [List.getElem?_append_left (by simpa using hi), List.getElem?_map] at e
    cases z : ds[i]? with
    | none => rw [z] at e; cases e
    | some c =>
      rw [z] at e; cases e
      obtain ⟨v, ev, qv⟩ := q.get z
      exact ⟨v, by rw [List.getElem?_append_left (by rw [List.length_map, ← q.length]; exact hi), List.getElem?_map, ev]; rfl, qv⟩
  · rw [List.getElem?_append_right (by simpa using hi), List.getElem?_replicate] at e
    split at e <;> cases e
end

/-- a def of the text -/
structure Df where
  x : Str
  N : List Str
  ps : List Str
  st : Stmt
  F : Fn
/-- how it is to be checked -/
structure DfOk (fn gn : List Str) (d : Df) : Prop where
  sc : FnScope d.N d.ps (defScope d.st)
  mt : mtS ⟨d.N, fn, gn⟩ (defScope d.st) d.F.body (defBody d.st) = true
  ps : d.F.ps = d.ps.length
  sl : d.F.sl = d.N.length

structure Md (P : Program) (w : World) (K : PySem.W.Frag) (mg : Str → Option Value) (T : Tb) (G : Pg) (gn : List Str) (defs : List Df) (fa : Nat → Addr) : Prop where
  hK : K = T.K
  bi : ∀ x, x ∈ biNames → mg x = none
  gl : ∀ (g : Nat) (x : Str), gn[g]? = some x → ∃ d u v, G.glob[g]? = some d ∧ mg x = some u ∧ RelV v u ∧ ∀ μ H, Rep T μ H d v
  fns : G.fns = defs.map (·.F)
  fn : ∀ (i : Nat) (d : Df), defs[i]? = some d → (∃ fd, FunD K d.x d.x (defArgs d.st) (defBody d.st) (defScope d.st) [] [] (fa i) fd ∧ Binds K fd d.ps []) ∧ mg d.x = some (.ref (fa i)) ∧ DfOk (defs.map (·.x)) gn d

theorem all_ok {P : Program} {w : World} {K : PySem.W.Frag} {mg : Str → Option Value} {T : Tb} {G : Pg} {gn : List Str} {defs : List Df} {fa : Nat → Addr} (M : Md P w K mg T G gn defs fa) (base : Heap) :
    ∀ (k i : Nat) (d : Df), defs[i]? = some d → ∀ fd, FunD K d.x d.x (defArgs d.st) (defBody d.st) (defScope d.st) [] [] (fa i) fd → FnOk P w K mg base (L2.CX P w) k (fa i) fd d.ps (spF T (G.cf k) i) := by
  intro k
  induction k with
  | zero =>
    intro i d hd fd _
    have no : ∀ vs H Q E, ¬ spF T (G.cf 0) i vs H Q E := fun vs H Q E ⟨μ, h, ds, hr, q, p⟩ => p
    exact ⟨fun vs H Q E s => (no _ _ _ _ s).elim, fun A outer s H args us vs Q E _ _ _ _ hs => (no _ _ _ _ hs).elim⟩
  | succ k ih =>
    intro i d hd fd F
    obtain ⟨_, hm, ck⟩ := M.fn i d hd
    have gF : G.fns[i]? = some d.F := by rw [M.fns, List.getElem?_map, hd]; rfl
    have cal : ∀ ds h, (G.cf (k + 1)).call i ds h = runFn (G.cf k) d.F ds h := fun ds h => by
      show callN G (k + 1) i ds h = _
      unfold callN
      rw [gF]
      rfl
    refine F.ok ck.sc (fun vs H Q E s => ?_) (fun cdv A outer s H vs Q E hr sp => ?_)
    · obtain ⟨μ, h, ds, hr, q, p⟩ := s
      rw [cal] at p
      unfold runFn at p
      split at p
      · rename_i hl
        rw [← q.length, hl, ck.ps]
      · exact p.elim
    · obtain ⟨μ, h, ds, hR, q, p⟩ := sp
      rw [cal] at p
      unfold runFn at p
      split at p
      rotate_left
      · exact p.elim
      rename_i hl
      have xs : XSk T ⟨d.N, defs.map (·.x), gn⟩ (G.cf k) k (fun cls dd _ H => E cls dd H) (defScope d.st) (cxOf (L2.CX P w) P w K mg base d.N d.x (defScope d.st) (fa i) cdv A outer s H E) := by
        refine ⟨⟨rfl, ck.sc.nd, rfl, ck.sc.kind, rfl, M.hK, takes_of rfl rfl rfl rfl, hr, M.bi, M.gl, fun f x hx => ?_⟩, fun x hx => ⟨loc_of hx, .inl rfl⟩, passes_of rfl⟩
        simp only [List.getElem?_map] at hx
        cases z : defs[f]? with
        | none => rw [z] at hx; cases hx
        | some e =>
          rw [z] at hx
          cases hx
          obtain ⟨⟨fd', F', hb'⟩, hm', _⟩ := M.fn f e z
          exact ⟨fa f, fd', e.ps, hm', F'.kp, hb', ih f e z fd' F'⟩
      refine ⟨_, sndS xs d.F.body (defBody d.st) ck.mt, μ, h, _, hR, env_start (m := d.F.sl - d.F.ps) q ?_, fin_ok hR (fun _ _ _ _ z => z) p⟩
      rw [ck.sl, ← q.length, hl]
end Ly

set_option Elab.async false
set_option linter.all false
set_option maxRecDepth 100000
set_option autoImplicit false
/-! Ly9: from the head to the interpreter. -/
namespace Ly
open PySem L2

/-- a constant of the module -/
inductive Cn where
  | int (i : Int) | str (s : Str) | tup (vs : List (Sum Int Str))
def cvD : Sum Int Str → D
  | .inl i => .int i
  | .inr s => .str s
def cvV : Sum Int Str → He.Dv
  | .inl i => .int i
  | .inr s => .str s
def Cn.d : Cn → D
  | .int i => .int i
  | .str s => .str s
  | .tup vs => .tup (vs.map cvD)
def Cn.ok (K : PySem.W.Frag) (x : Str) : Cn → Bool
  | .int i => (He.Fa.int x i).ok K
  | .str s => (He.Fa.str x s).ok K
  | .tup vs => (He.Fa.glo x).ok K && He.tupB K x (vs.map cvV)

def toDD (d : Df) : He.DefD := ⟨(d.x, none), d.x, d.x, defArgs d.st, defBody d.st, defScope d.st, [], []⟩
def chk (defs : List Df) (cs : List (Str × Cn)) (K : PySem.W.Frag) : Bool :=
  (defs.all fun d => (He.Fa.glo d.x).ok K) && ((biNames.all fun x => (He.Fa.free x).ok K) && (cs.all fun p => p.2.ok K p.1))
def obsL (defs : List Df) (cs : List (Str × Cn)) (K : PySem.W.Frag) : He.AlD :=
  (chk defs cs K && (defs.map toDD).all fun d => d.ok K, (defs.map toDD).map fun d => He.fnW K d.at_)
def valL (defs : List Df) : He.AlD := (true, (defs.map toDD).map He.DefD.val)
def hookL (n : Nat) (defs : List Df) (cs : List (Str × Cn)) : PySem.W.Hook where
  α := He.AlD
  obs := fun s => obsL defs cs (He.frG s.heap.get? (He.asD s.heap.get? n))
  val := fun _ => valL defs
  says := fun _ h => ∃ K : PySem.W.Frag, K.In h ∧ obsL defs cs K = valL defs
  of := fun _ _ e => ⟨_, He.frG_in, e⟩
  keeps := fun _ _ _ ⟨K, hK, c⟩ k => ⟨K, PySem.W.Frag.In.keeps hK k, c⟩
def obL (n : Nat) (defs : List Df) (cs : List (Str × Cn)) (s : PySem.W.SharedT) : He.AlD := obsL defs cs (He.frG (HandSHeadRun.getT s) (He.asD (HandSHeadRun.getT s) n))
theorem obL_eq (n : Nat) (defs : List Df) (cs : List (Str × Cn)) (s : PySem.W.SharedT) : obL n defs cs s = (hookL n defs cs).obs s.abs := by
  have e : HandSHeadRun.getT s = s.abs.heap.get? := funext (HandSHeadRun.getT_eq s)
  unfold obL
  rw [e]
  rfl

/-- how the arguments of a def come to its parameters -/
def Bd (d : Df) : Prop := ∀ (kV doc pm : Value) (an : Option Addr) (cdv ct : Value) (us : List Value), us.length = d.ps.length →
  bindArgs (PySem.W.fnOf d.x d.x (defArgs d.st) (defBody d.st) (defScope d.st) .none kV doc pm an cdv ct) ⟨us, []⟩ = pure (d.ps.zip us)

theorem cv_ok {T : Tb} {μ : List Addr} {H : Hp} : ∀ vs : List (Sum Int Str), Reps T μ H (vs.map cvD) ((vs.map cvV).map (He.Dv.v T.K))
  | [] => .nil
  | .inl i :: r => .cons (.int i) (cv_ok r)
  | .inr s :: r => .cons (.str s) (cv_ok r)

theorem md_of {P : Program} {w : World} {K : PySem.W.Frag} {mg : Str → Option Value} {h : Heap} {fuel : Nat} {defs : List Df} {cs : List (Str × Cn)} (X : K.In h) (G : h.Ns mainGlobals mg) (c : obsL defs cs K = valL defs)
    (ck : ∀ d ∈ defs, DfOk (defs.map (·.x)) (cs.map (·.1)) d ∧ Bd d) :
    Md P w K mg ⟨K, [], []⟩ ⟨defs.map (·.F), cs.map (·.2.d), fuel⟩ (cs.map (·.1)) defs (fun i => He.ga K ((defs.map (·.x)).getD i (Str.ofString ""))) := by
  have c1 : (chk defs cs K && (defs.map toDD).all fun d => d.ok K) = true := congrArg (fun z : He.AlD => z.1) c
  have c2 : (defs.map toDD).map (fun d => He.fnW K d.at_) = (defs.map toDD).map He.DefD.val := congrArg (fun z : He.AlD => z.2) c
  obtain ⟨c3, c4⟩ := Bool.and_eq_true_iff.mp c1
  unfold chk at c3
  obtain ⟨c5, c6⟩ := Bool.and_eq_true_iff.mp c3
  obtain ⟨c7, c8⟩ := Bool.and_eq_true_iff.mp c6
  have nm : ∀ (i : Nat) (d : Df), defs[i]? = some d → (defs.map (·.x)).getD i (Str.ofString "") = d.x := fun i d hd => by
    rw [List.getD_eq_getElem?_getD, List.getElem?_map, hd]; rfl
  have get : ∀ (i : Nat) (d : Df), defs[i]? = some d → ∃ fd, FunD K d.x d.x (defArgs d.st) (defBody d.st) (defScope d.st) [] [] (He.ga K ((defs.map (·.x)).getD i (Str.ofString ""))) fd := fun i d hd => by
    have hm : (defs.map toDD)[i]? = some (toDD d) := by rw [List.getElem?_map, hd]; rfl
    have e2 : ((defs.map toDD)[i]?).map (fun d => He.fnW K d.at_) = ((defs.map toDD)[i]?).map He.DefD.val := by rw [← List.getElem?_map, ← List.getElem?_map, c2]
    rw [hm] at e2
    obtain ⟨fd, F⟩ := He.DefD.funD (Option.some.inj e2) (List.all_eq_true.mp c4 _ (List.mem_of_getElem? hm))
    refine ⟨fd, ?_⟩
    rw [nm i d hd]
    exact F
  refine ⟨rfl, fun x hx => ?_, fun g x hg => ?_, rfl, fun i d hd => ?_⟩
  · exact He.free_ok X G (List.all_eq_true.mp c7 x hx)
  · simp only [List.getElem?_map] at hg
    cases z : cs[g]? with
    | none => rw [z] at hg; cases hg
    | some p =>
      rw [z] at hg
      cases hg
      have ok := List.all_eq_true.mp c8 p (List.mem_of_getElem? z)
      obtain ⟨x, cn⟩ := p
      cases cn with
      | int i =>
        obtain ⟨t, e⟩ := He.int_ok X G ok
        exact ⟨_, _, .int i, by simp [z]; rfl, e, ⟨t, rfl⟩, fun μ H => .int i⟩
      | str s =>
        obtain ⟨t, e⟩ := He.str_ok X G ok
        exact ⟨_, _, .str s, by simp [z]; rfl, e, ⟨t, rfl⟩, fun μ H => .str s⟩
      | tup vs =>
        obtain ⟨o1, o2⟩ := Bool.and_eq_true_iff.mp ok
        exact ⟨_, _, .ref _, by simp [z]; rfl, He.glo_ok X G o1, rfl, fun μ H => .tup (He.tupB_ok o2 H) (cv_ok vs)⟩
  · obtain ⟨k1, k2⟩ := ck d (List.mem_of_getElem? hd)
    obtain ⟨fd, F⟩ := get i d hd
    refine ⟨⟨fd, F, F.bindsN k2⟩, ?_, k1⟩
    rw [nm i d hd]
    exact He.glo_ok X G (List.all_eq_true.mp c5 d (List.mem_of_getElem? hd))

/-- the law's promise, by the interpreter -/
theorem law_sp {K : PySem.W.Frag} {G : Pg} {k i n : Nat} (law : ∀ ns : List Int, ns.length ≤ n → ∃ h', callN G k i [.rol (ns.map .int)] [] = .ok (.bl true) h') (H : Hp) (a : Addr) (ns : List Int) (hl : ns.length ≤ n) (hO : Only H) (hS : SqL K H a (ns.map V.int)) :
    spF ⟨K, [], []⟩ (G.cf k) i [.ref a] H (fun v _ => v = .bl true) fun _ _ _ => False := by
  obtain ⟨h', e⟩ := law ns hl
  have intS : ∀ ns : List Int, Reps ⟨K, [], []⟩ [] H (ns.map .int) (ns.map V.int) := fun ns => by
    induction ns with
    | nil => exact .nil
    | cons x r ih => exact .cons (.int x) ih
  refine ⟨[], [], [.rol (ns.map .int)], ⟨rfl, List.nodup_nil, fun n o e => by simp at e⟩, .cons (.rol ?_ (intS ns)) .nil, ?_⟩
  · rcases hS with (z | ⟨o, z⟩) | z
    · rcases hO a with q | ⟨o, xs, q⟩
      · rw [q] at z; cases z
      · rw [q] at z; cases z
    · exact .inl ⟨o, z⟩
    · exact .inr z
  · show Post _ _ _ _ _ (callN G k i _ _) _
    rw [e]
    intro μ' H' b _ _ q
    cases q
    rfl
/-- a def that is asked to let nothing out -/
theorem to0 {P : Program} {w : World} {K : PySem.W.Frag} {mg : Str → Option Value} {base : Heap} {k : Nat} {f : Addr} {fd : FuncData} {ps : List Str} {sp : Sp} (F : FnOk P w K mg base (L2.CX P w) k f fd ps sp) :
    FnOk P w K mg base CX0 k f fd ps (fun vs H Q _ => sp vs H Q fun _ _ _ => False) := by
  refine ⟨fun vs H Q E q => F.len _ _ _ _ q, fun A outer s H args us vs Q E hr he hb hv hs => ?_⟩
  refine codeAny_mono (F.run A outer s H args us vs Q _ hr he hb hv hs) fun r s' hq => ?_
  cases r with
  | ok fl => cases fl <;> exact hq
  | error e =>
    obtain ⟨_, _, _, _, _, _, _, _, _, _, _, _, z⟩ := (show L2.CX P w outer H s _ e s' from hq)
    exact z.elim
theorem law_fin {P : Program} {w : World} {K : PySem.W.Frag} {mg : Str → Option Value} {h : Heap} {f : Addr} {n k i fuel : Nat} {par : Str} {defs : List Df} {cs : List (Str × Cn)} {d : Df} (X : K.In h) (Gm : h.Ns mainGlobals mg) (hmg : mg "law" = some (.ref f))
    (c : obsL defs cs K = valL defs) (ck : ∀ d ∈ defs, DfOk (defs.map (·.x)) (cs.map (·.1)) d ∧ Bd d) (hd : defs[i]? = some d) (hx : d.x = "law") (hp : d.ps = [par])
    (law : ∀ ns : List Int, ns.length ≤ n → ∃ h', callN ⟨defs.map (·.F), cs.map (·.2.d), fuel⟩ k i [.rol (ns.map .int)] [] = .ok (.bl true) h') :
    ∃ (K : PySem.W.Frag) (fd : FuncData) (sp : Sp), K.In h ∧ (∀ (s : Shared) (u : Value), BindsTo s fd ⟨[u], []⟩ [(par, u)]) ∧
      (∀ (H : Hp) (a : Addr) (ns : List Int), ns.length ≤ n → Only H → SqL K H a (ns.map V.int) → sp [.ref a] H (fun v _ => v = .bl true) fun _ _ _ => False) ∧
      ∀ base : Heap, K.In base → base.Ns mainGlobals mg → FnOk P w K mg base CX0 k f fd [par] sp := by
  have M := md_of (P := P) (w := w) (fuel := fuel) X Gm c ck
  obtain ⟨⟨fd, F, _⟩, hm, _⟩ := M.fn i d hd
  rw [hx, hmg] at hm
  have ef : f = He.ga K ((defs.map (·.x)).getD i (Str.ofString "")) := by injection (Option.some.inj hm)
  have b := FunD.bindsA F (ck d (List.mem_of_getElem? hd)).2
  rw [hp] at b
  refine ⟨K, fd, (fun vs H Q _ => spF ⟨K, [], []⟩ (Pg.cf ⟨defs.map (·.F), cs.map (·.2.d), fuel⟩ k) i vs H Q fun _ _ _ => False), X, fun s u => b s [u] rfl, fun H a ns hl hO hS => law_sp law H a ns hl hO hS, fun base _ _ => ?_⟩
  have z := to0 (all_ok M base k i d hd fd F)
  rw [hp] at z
  rw [ef]
  exact z
end Ly

set_option Elab.async false
set_option linter.all false
set_option maxRecDepth 100000
set_option maxHeartbeats 0
namespace K11
open PySem L2 Ly
def topS (i : Nat) : Stmt := PySem.Challenge.pw_sumnets_k11_nets_let_by.main.body.getD i (.Pass ⟨0, 0, 0, 0⟩)
/-! ### the defs -/
/- 0 is_number (thing): 0 thing -/
def ir_is_number : S :=
  .cat (.ret (.and (.isi (.var 0) .int) (.one (.not (.isi (.var 0) .bool))))) <|
  .skip
def d_is_number : Df := ⟨"is_number", ["thing"], ["thing"], topS 4, ⟨1, 1, ir_is_number⟩⟩
/- 1 is_from (thing, low, high): 0 thing, 1 low, 2 high -/
def ir_is_from : S :=
  .cat (.ret (.and (.call 0 (.cons (.var 0) .nil)) (.and (.cmp .le (.var 1) (.var 0)) (.one (.cmp .le (.var 0) (.var 2)))))) <|
  .skip
def d_is_from : Df := ⟨"is_from", ["thing", "low", "high"], ["thing", "low", "high"], topS 5, ⟨3, 3, ir_is_from⟩⟩
/- 2 is_knot (thing, number): 0 thing, 1 number -/
def ir_is_knot : S :=
  .cat (.ifS (.or (.not (.isi (.var 0) .tuple)) (.one (.cmp .ne (.bi .len (.cons (.var 0) .nil)) (.int 2)))) (.cat (.ret (.bl false)) <|
    .skip) (.skip)) <|
  .cat (.ret (.and (.call 1 (.cons (.idx (.var 0) (.int 0)) (.cons (.int 0) (.cons (.bin .sub (.var 1) (.int 1)) .nil)))) (.one (.call 1 (.cons (.idx (.var 0) (.int 1)) (.cons (.int 0) (.cons (.bin .sub (.var 1) (.int 1)) .nil))))))) <|
  .skip
def d_is_knot : Df := ⟨"is_knot", ["thing", "number"], ["thing", "number"], topS 10, ⟨2, 2, ir_is_knot⟩⟩
/- 3 are_knots (thing, width): 0 thing, 1 width, 2 place, 3 knot -/
def b1_are_knots : S :=
  .cat (.ifS (.not (.call 2 (.cons (.var 3) (.cons (.bin .add (.var 1) (.var 2)) .nil)))) (.cat (.ret (.bl false)) <|
    .skip) (.skip)) <|
  .skip
def ir_are_knots : S :=
  .cat (.ifS (.or (.not (.isi (.var 0) .tuple)) (.one (.cmp .gt (.bi .len (.cons (.var 0) .nil)) (.glob 1)))) (.cat (.ret (.bl false)) <|
    .skip) (.skip)) <|
  .cat (.forS (.tup [2, 3]) (.enum (.var 0)) b1_are_knots) <|
  .cat (.ret (.bl true)) <|
  .skip
def d_are_knots : Df := ⟨"are_knots", ["thing", "width", "place", "knot"], ["thing", "width"], topS 11, ⟨2, 4, ir_are_knots⟩⟩
/- 4 are_ends (thing, count): 0 thing, 1 count, 2 end -/
def b1_are_ends : S :=
  .cat (.ifS (.not (.call 1 (.cons (.var 2) (.cons (.int 0) (.cons (.bin .sub (.var 1) (.int 1)) .nil))))) (.cat (.ret (.bl false)) <|
    .skip) (.skip)) <|
  .skip
def ir_are_ends : S :=
  .cat (.ifS (.or (.not (.isi (.var 0) .tuple)) (.or (.cmp .lt (.bi .len (.cons (.var 0) .nil)) (.int 1)) (.one (.cmp .gt (.bi .len (.cons (.var 0) .nil)) (.glob 2))))) (.cat (.ret (.bl false)) <|
    .skip) (.skip)) <|
  .cat (.forS (.name 2) (.seq (.var 0)) b1_are_ends) <|
  .cat (.ret (.bl true)) <|
  .skip
def d_are_ends : Df := ⟨"are_ends", ["thing", "count", "end"], ["thing", "count"], topS 12, ⟨2, 3, ir_are_ends⟩⟩
/- 5 is_net (thing): 0 thing -/
def ir_is_net : S :=
  .cat (.ifS (.or (.not (.isi (.var 0) .tuple)) (.one (.cmp .ne (.bi .len (.cons (.var 0) .nil)) (.int 3)))) (.cat (.ret (.bl false)) <|
    .skip) (.skip)) <|
  .cat (.ifS (.or (.not (.call 1 (.cons (.idx (.var 0) (.int 0)) (.cons (.int 1) (.cons (.glob 0) .nil))))) (.one (.not (.call 3 (.cons (.idx (.var 0) (.int 1)) (.cons (.idx (.var 0) (.int 0)) .nil)))))) (.cat (.ret (.bl false)) <|
    .skip) (.skip)) <|
  .cat (.ret (.call 4 (.cons (.idx (.var 0) (.int 2)) (.cons (.bin .add (.idx (.var 0) (.int 0)) (.bi .len (.cons (.idx (.var 0) (.int 1)) .nil))) .nil)))) <|
  .skip
def d_is_net : Df := ⟨"is_net", ["thing"], ["thing"], topS 13, ⟨1, 1, ir_is_net⟩⟩
/- 6 look_at_net (net): 0 net -/
def ir_look_at_net : S :=
  .cat (.ifS (.not (.call 5 (.cons (.var 0) .nil))) (.cat .nev <|
    .skip) (.skip)) <|
  .skip
def d_look_at_net : Df := ⟨"look_at_net", ["net"], ["net"], topS 14, ⟨1, 1, ir_look_at_net⟩⟩
/- 7 _law_next (_law_state, _law_below): 0 _law_state, 1 _law_below, 2 _law_found, 3 _law_cell -/
def ir_law_next : S :=
  .cat (.ifS (.cmp .gt (.idx (.var 0) (.int 2)) (.int 0)) (.cat (.asg (.name 2) (.bin .mod (.idx (.var 0) (.int 2)) (.var 1))) <|
    .cat (.set (.var 0) (.int 2) (.bin .fdiv (.idx (.var 0) (.int 2)) (.var 1))) <|
    .cat (.ret (.var 2)) <|
    .skip) (.skip)) <|
  .cat (.asg (.name 3) (.int 0)) <|
  .cat (.ifS (.cmp .lt (.idx (.var 0) (.int 1)) (.bi .len (.cons (.idx (.var 0) (.int 0)) .nil))) (.cat (.asg (.name 3) (.idx (.idx (.var 0) (.int 0)) (.idx (.var 0) (.int 1)))) <|
    .skip) (.skip)) <|
  .cat (.set (.var 0) (.int 1) (.bin .add (.idx (.var 0) (.int 1)) (.int 1))) <|
  .cat (.ifS (.cmp .ge (.var 3) (.bin .pow (.int 10) (.int 18))) (.cat (.set (.var 0) (.int 2) (.bin .fdiv (.var 3) (.var 1))) <|
    .cat (.ret (.bin .mod (.var 3) (.var 1))) <|
    .skip) (.skip)) <|
  .cat (.set (.var 0) (.int 3) (.bin .mod (.bin .add (.bin .add (.bin .mul (.idx (.var 0) (.int 3)) (.int 48271)) (.bin .mod (.var 3) (.int 2147483629))) (.bin .mul (.int 7) (.idx (.var 0) (.int 1)))) (.int 2147483647))) <|
  .cat (.ret (.bin .mod (.bin .fdiv (.bin .mod (.bin .mul (.idx (.var 0) (.int 3)) (.int 69621)) (.int 2147483629)) (.int 64)) (.var 1))) <|
  .skip
def d_law_next : Df := ⟨"_law_next", ["_law_state", "_law_below", "_law_found", "_law_cell"], ["_law_state", "_law_below"], topS 16, ⟨2, 4, ir_law_next⟩⟩
/- 8 _law_beside (_law_spans, _law_left): 0 _law_spans, 1 _law_left, 2 _law_number -/
def ir_law_beside : S :=
  .cat (.ret (.comp [2] (.name 2) (.rng1 (.bi .len (.cons (.var 0) .nil))) (.cmp .eq (.idx (.idx (.var 0) (.var 2)) (.int 0)) (.bin .add (.idx (.idx (.var 0) (.var 1)) (.int 1)) (.int 1))) (.var 2))) <|
  .skip
def d_law_beside : Df := ⟨"_law_beside", ["_law_spans", "_law_left", "_law_number"], ["_law_spans", "_law_left"], topS 17, ⟨2, 3, ir_law_beside⟩⟩
/- 9 _law_knot (_law_state, _law_spans, _law_loose): 0 _law_state, 1 _law_spans, 2 _law_loose, 3 _law_left, 4 _law_some -/
def ir_law_knot : S :=
  .cat (.asg (.name 3) (.call 7 (.cons (.var 0) (.cons (.bi .len (.cons (.var 1) .nil)) .nil)))) <|
  .cat (.asg (.name 4) (.call 8 (.cons (.var 1) (.cons (.var 3) .nil)))) <|
  .cat (.ifS (.or (.cmp .eq (.var 4) (.lst .nil)) (.one (.var 2))) (.cat (.asg (.name 3) (.call 7 (.cons (.var 0) (.cons (.bin .sub (.bi .len (.cons (.var 1) .nil)) (.int 1)) .nil)))) <|
    .cat (.asg (.name 4) (.call 8 (.cons (.var 1) (.cons (.var 3) .nil)))) <|
    .skip) (.skip)) <|
  .cat (.ifS (.or (.cmp .eq (.var 4) (.lst .nil)) (.one (.and (.var 2) (.one (.cmp .eq (.call 7 (.cons (.var 0) (.cons (.int 3) .nil))) (.int 0)))))) (.cat (.ret (.tup (.cons (.var 3) (.cons (.call 7 (.cons (.var 0) (.cons (.bi .len (.cons (.var 1) .nil)) .nil))) .nil)))) <|
    .skip) (.skip)) <|
  .cat (.ret (.tup (.cons (.var 3) (.cons (.idx (.var 4) (.call 7 (.cons (.var 0) (.cons (.bi .len (.cons (.var 4) .nil)) .nil)))) .nil)))) <|
  .skip
def d_law_knot : Df := ⟨"_law_knot", ["_law_state", "_law_spans", "_law_loose", "_law_left", "_law_some"], ["_law_state", "_law_spans", "_law_loose"], topS 18, ⟨3, 5, ir_law_knot⟩⟩
/- 10 _law_net (_law_state, _law_loose): 0 _law_state, 1 _law_loose, 2 _law_width, 3 _law_spans, 4 _law_knots, 5 _law_k, 6 _law_left, 7 _law_right, 8 _law_ends, 9 _law_place -/
def b1_law_net : S :=
  .cat (.ifS (.cmp .gt (.var 2) (.int 1)) (.cat (.asg (.tup [6, 7]) (.call 9 (.cons (.var 0) (.cons (.var 3) (.cons (.var 1) .nil))))) <|
    .cat (.ifS (.or (.var 1) (.one (.cmp .eq (.bin .add (.idx (.idx (.var 3) (.var 6)) (.int 1)) (.int 1)) (.idx (.idx (.var 3) (.var 7)) (.int 0))))) (.cat (.ex (.meth .append (.var 4) (.cons (.tup (.cons (.var 6) (.cons (.var 7) .nil))) .nil))) <|
      .cat (.ex (.meth .append (.var 3) (.cons (.tup (.cons (.idx (.idx (.var 3) (.var 6)) (.int 0)) (.cons (.idx (.idx (.var 3) (.var 7)) (.int 1)) .nil))) .nil))) <|
      .skip) (.skip)) <|
    .skip) (.skip)) <|
  .skip
def ir_law_net : S :=
  .cat (.asg (.name 2) (.idx (.lst (.cons (.bin .add (.int 1) (.call 7 (.cons (.var 0) (.cons (.int 9) .nil)))) (.cons (.bin .add (.int 1) (.call 7 (.cons (.var 0) (.cons (.int 64) .nil)))) .nil))) (.bi .int (.cons (.cmp .eq (.call 7 (.cons (.var 0) (.cons (.int 4) .nil))) (.int 0)) .nil)))) <|
  .cat (.asg (.name 3) (.comp [9] (.name 9) (.rng1 (.var 2)) (.bl true) (.tup (.cons (.var 9) (.cons (.var 9) .nil))))) <|
  .cat (.asg (.name 4) (.lst .nil)) <|
  .cat (.forS (.name 5) (.rng1 (.idx (.lst (.cons (.call 7 (.cons (.var 0) (.cons (.int 12) .nil))) (.cons (.call 7 (.cons (.var 0) (.cons (.int 60) .nil))) .nil))) (.bi .int (.cons (.cmp .eq (.call 7 (.cons (.var 0) (.cons (.int 4) .nil))) (.int 0)) .nil)))) b1_law_net) <|
  .cat (.asg (.name 8) (.comp [5] (.name 5) (.rng1 (.bin .add (.int 1) (.call 7 (.cons (.var 0) (.cons (.int 9) .nil))))) (.bl true) (.call 7 (.cons (.var 0) (.cons (.bi .len (.cons (.var 3) .nil)) .nil))))) <|
  .cat (.ret (.tup (.cons (.var 2) (.cons (.bi .tuple (.cons (.var 4) .nil)) (.cons (.bi .tuple (.cons (.var 8) .nil)) .nil))))) <|
  .skip
def d_law_net : Df := ⟨"_law_net", ["_law_state", "_law_loose", "_law_width", "_law_spans", "_law_knots", "_law_k", "_law_left", "_law_right", "_law_ends", "_law_place"], ["_law_state", "_law_loose"], topS 19, ⟨2, 10, ir_law_net⟩⟩
/- 11 _law_bounds (_law_state): 0 _law_state, 1 _law_width, 2 _law_many, 3 _law_knots, 4 _law_ends, 5 _law_k -/
def ir_law_bounds : S :=
  .cat (.asg (.name 1) (.idx (.lst (.cons (.int 1) (.cons (.int 64) (.cons (.bin .add (.int 1) (.call 7 (.cons (.var 0) (.cons (.int 64) .nil)))) .nil)))) (.call 7 (.cons (.var 0) (.cons (.int 3) .nil))))) <|
  .cat (.asg (.name 2) (.idx (.lst (.cons (.int 1000) (.cons (.int 999) (.cons (.bin .add (.int 1) (.call 7 (.cons (.var 0) (.cons (.int 1000) .nil)))) .nil)))) (.call 7 (.cons (.var 0) (.cons (.int 3) .nil))))) <|
  .cat (.ifS (.cmp .eq (.call 7 (.cons (.var 0) (.cons (.int 2) .nil))) (.int 0)) (.cat (.asg (.name 3) (.bi .tuple (.cons (.comp [5] (.name 5) (.rng1 (.var 2)) (.bl true) (.tup (.cons (.bin .sub (.bin .add (.var 1) (.var 5)) (.int 1)) (.cons (.bin .sub (.bin .add (.var 1) (.var 5)) (.int 1)) .nil)))) .nil))) <|
    .skip) (.cat (.asg (.name 3) (.bi .tuple (.cons (.comp [5] (.name 5) (.rng1 (.var 2)) (.bl true) (.tup (.cons (.call 7 (.cons (.var 0) (.cons (.bin .add (.var 1) (.var 5)) .nil))) (.cons (.bin .sub (.bin .add (.var 1) (.var 5)) (.int 1)) .nil)))) .nil))) <|
    .skip)) <|
  .cat (.asg (.name 4) (.bin .mul (.tup (.cons (.bin .sub (.bin .add (.var 1) (.var 2)) (.int 1)) .nil)) (.idx (.lst (.cons (.int 400) (.cons (.int 399) (.cons (.bin .add (.int 1) (.call 7 (.cons (.var 0) (.cons (.int 400) .nil)))) .nil)))) (.call 7 (.cons (.var 0) (.cons (.int 3) .nil)))))) <|
  .cat (.ret (.tup (.cons (.var 1) (.cons (.var 3) (.cons (.var 4) .nil))))) <|
  .skip
def d_law_bounds : Df := ⟨"_law_bounds", ["_law_state", "_law_width", "_law_many", "_law_knots", "_law_ends", "_law_k"], ["_law_state"], topS 20, ⟨1, 6, ir_law_bounds⟩⟩
/- 12 _law_copy (_law_net_here): 0 _law_net_here, 1 _law_left, 2 _law_right, 3 _law_end -/
def ir_law_copy : S :=
  .cat (.ret (.tup (.cons (.idx (.var 0) (.int 0)) (.cons (.bi .tuple (.cons (.comp [1, 2] (.tup [1, 2]) (.seq (.idx (.var 0) (.int 1))) (.bl true) (.tup (.cons (.var 1) (.cons (.var 2) .nil)))) .nil)) (.cons (.bi .tuple (.cons (.comp [3] (.name 3) (.seq (.idx (.var 0) (.int 2))) (.bl true) (.var 3)) .nil)) .nil))))) <|
  .skip
def d_law_copy : Df := ⟨"_law_copy", ["_law_net_here", "_law_left", "_law_right", "_law_end"], ["_law_net_here"], topS 21, ⟨1, 4, ir_law_copy⟩⟩
/- 13 law (_law_script): 0 _law_script, 1 _law_state, 2 _law_net_here, 3 _law_kept -/
def b1_law : S :=
  .cat (.asg (.name 3) (.call 12 (.cons (.var 2) .nil))) <|
  .cat (.ifS (.or (.isNN (.call 6 (.cons (.var 2) .nil))) (.or (.cmp .ne (.var 2) (.var 3)) (.one (.isNN (.call 6 (.cons (.var 2) .nil)))))) (.cat (.ret (.bl false)) <|
    .skip) (.skip)) <|
  .skip
def ir_law : S :=
  .cat (.asg (.name 1) (.lst (.cons (.var 0) (.cons (.int 0) (.cons (.int 0) (.cons (.int 11) .nil)))))) <|
  .cat (.forS (.name 2) (.seq (.lst (.cons (.call 10 (.cons (.var 1) (.cons (.bl false) .nil))) (.cons (.call 10 (.cons (.var 1) (.cons (.bl true) .nil))) (.cons (.call 11 (.cons (.var 1) .nil)) (.cons (.tup (.cons (.int 1) (.cons (.tup .nil) (.cons (.tup (.cons (.int 0) .nil)) .nil)))) .nil)))))) b1_law) <|
  .cat (.ret (.bl true)) <|
  .skip
def d_law : Df := ⟨"law", ["_law_script", "_law_state", "_law_net_here", "_law_kept"], ["_law_script"], topS 22, ⟨1, 4, ir_law⟩⟩
def defs : List Df := [d_is_number, d_is_from, d_is_knot, d_are_knots, d_are_ends, d_is_net, d_look_at_net, d_law_next, d_law_beside, d_law_knot, d_law_net, d_law_bounds, d_law_copy, d_law]
def cons : List (Str × Cn) := [("MOST_WIDTH", .int 64), ("MOST_KNOTS", .int 1000), ("MOST_ENDS", .int 400)]
def G : Pg := ⟨defs.map (·.F), cons.map (·.2.d), 1000000⟩
theorem ck_is_number : DfOk (defs.map (·.x)) (cons.map (·.1)) d_is_number ∧ Bd d_is_number :=
  ⟨⟨⟨rfl, rfl, rfl, by decide +kernel, rfl, by decide +kernel, by decide +kernel⟩, by decide +kernel, rfl, rfl⟩, fun _ _ _ _ _ _ us hl => match us, hl with | [_], _ => rfl⟩
theorem ck_is_from : DfOk (defs.map (·.x)) (cons.map (·.1)) d_is_from ∧ Bd d_is_from :=
  ⟨⟨⟨rfl, rfl, rfl, by decide +kernel, rfl, by decide +kernel, by decide +kernel⟩, by decide +kernel, rfl, rfl⟩, fun _ _ _ _ _ _ us hl => match us, hl with | [_, _, _], _ => rfl⟩
theorem ck_is_knot : DfOk (defs.map (·.x)) (cons.map (·.1)) d_is_knot ∧ Bd d_is_knot :=
  ⟨⟨⟨rfl, rfl, rfl, by decide +kernel, rfl, by decide +kernel, by decide +kernel⟩, by decide +kernel, rfl, rfl⟩, fun _ _ _ _ _ _ us hl => match us, hl with | [_, _], _ => rfl⟩
theorem ck_are_knots : DfOk (defs.map (·.x)) (cons.map (·.1)) d_are_knots ∧ Bd d_are_knots :=
  ⟨⟨⟨rfl, rfl, rfl, by decide +kernel, rfl, by decide +kernel, by decide +kernel⟩, by decide +kernel, rfl, rfl⟩, fun _ _ _ _ _ _ us hl => match us, hl with | [_, _], _ => rfl⟩
theorem ck_are_ends : DfOk (defs.map (·.x)) (cons.map (·.1)) d_are_ends ∧ Bd d_are_ends :=
  ⟨⟨⟨rfl, rfl, rfl, by decide +kernel, rfl, by decide +kernel, by decide +kernel⟩, by decide +kernel, rfl, rfl⟩, fun _ _ _ _ _ _ us hl => match us, hl with | [_, _], _ => rfl⟩
theorem ck_is_net : DfOk (defs.map (·.x)) (cons.map (·.1)) d_is_net ∧ Bd d_is_net :=
  ⟨⟨⟨rfl, rfl, rfl, by decide +kernel, rfl, by decide +kernel, by decide +kernel⟩, by decide +kernel, rfl, rfl⟩, fun _ _ _ _ _ _ us hl => match us, hl with | [_], _ => rfl⟩
theorem ck_look_at_net : DfOk (defs.map (·.x)) (cons.map (·.1)) d_look_at_net ∧ Bd d_look_at_net :=
  ⟨⟨⟨rfl, rfl, rfl, by decide +kernel, rfl, by decide +kernel, by decide +kernel⟩, by decide +kernel, rfl, rfl⟩, fun _ _ _ _ _ _ us hl => match us, hl with | [_], _ => rfl⟩
theorem ck_law_next : DfOk (defs.map (·.x)) (cons.map (·.1)) d_law_next ∧ Bd d_law_next :=
  ⟨⟨⟨rfl, rfl, rfl, by decide +kernel, rfl, by decide +kernel, by decide +kernel⟩, by decide +kernel, rfl, rfl⟩, fun _ _ _ _ _ _ us hl => match us, hl with | [_, _], _ => rfl⟩
theorem ck_law_beside : DfOk (defs.map (·.x)) (cons.map (·.1)) d_law_beside ∧ Bd d_law_beside :=
  ⟨⟨⟨rfl, rfl, rfl, by decide +kernel, rfl, by decide +kernel, by decide +kernel⟩, by decide +kernel, rfl, rfl⟩, fun _ _ _ _ _ _ us hl => match us, hl with | [_, _], _ => rfl⟩
theorem ck_law_knot : DfOk (defs.map (·.x)) (cons.map (·.1)) d_law_knot ∧ Bd d_law_knot :=
  ⟨⟨⟨rfl, rfl, rfl, by decide +kernel, rfl, by decide +kernel, by decide +kernel⟩, by decide +kernel, rfl, rfl⟩, fun _ _ _ _ _ _ us hl => match us, hl with | [_, _, _], _ => rfl⟩
theorem ck_law_net : DfOk (defs.map (·.x)) (cons.map (·.1)) d_law_net ∧ Bd d_law_net :=
  ⟨⟨⟨rfl, rfl, rfl, by decide +kernel, rfl, by decide +kernel, by decide +kernel⟩, by decide +kernel, rfl, rfl⟩, fun _ _ _ _ _ _ us hl => match us, hl with | [_, _], _ => rfl⟩
theorem ck_law_bounds : DfOk (defs.map (·.x)) (cons.map (·.1)) d_law_bounds ∧ Bd d_law_bounds :=
  ⟨⟨⟨rfl, rfl, rfl, by decide +kernel, rfl, by decide +kernel, by decide +kernel⟩, by decide +kernel, rfl, rfl⟩, fun _ _ _ _ _ _ us hl => match us, hl with | [_], _ => rfl⟩
theorem ck_law_copy : DfOk (defs.map (·.x)) (cons.map (·.1)) d_law_copy ∧ Bd d_law_copy :=
  ⟨⟨⟨rfl, rfl, rfl, by decide +kernel, rfl, by decide +kernel, by decide +kernel⟩, by decide +kernel, rfl, rfl⟩, fun _ _ _ _ _ _ us hl => match us, hl with | [_], _ => rfl⟩
theorem ck_law : DfOk (defs.map (·.x)) (cons.map (·.1)) d_law ∧ Bd d_law :=
  ⟨⟨⟨rfl, rfl, rfl, by decide +kernel, rfl, by decide +kernel, by decide +kernel⟩, by decide +kernel, rfl, rfl⟩, fun _ _ _ _ _ _ us hl => match us, hl with | [_], _ => rfl⟩
theorem ck : ∀ d ∈ defs, DfOk (defs.map (·.x)) (cons.map (·.1)) d ∧ Bd d := by
  intro d hd
  simp only [defs, List.mem_cons, List.not_mem_nil, or_false] at hd
  rcases hd with rfl | rfl | rfl | rfl | rfl | rfl | rfl | rfl | rfl | rfl | rfl | rfl | rfl | rfl
  · exact ck_is_number
  · exact ck_is_from
  · exact ck_is_knot
  · exact ck_are_knots
  · exact ck_are_ends
  · exact ck_is_net
  · exact ck_look_at_net
  · exact ck_law_next
  · exact ck_law_beside
  · exact ck_law_knot
  · exact ck_law_net
  · exact ck_law_bounds
  · exact ck_law_copy
  · exact ck_law
/-! ### the head -/
def nms0 : List Str := ["NetError", "NoNet", "is_number", "is_from", "MOST_WIDTH", "MOST_KNOTS", "MOST_ENDS", "is_knot", "are_knots", "are_ends", "is_net", "look_at_net", "_law_next", "_law_beside", "_law_knot", "_law_net", "_law_bounds", "_law_copy"]
def nms : List Str := nms0
abbrev R : PySem.W.OpenRow := PySem.W.OpenLaw.row PySem.Challenge.rw_sumnets_k11_nets_let_by
theorem run (w : World) : HandSHeadRun.RunEq R (PySem.W.view R.prog [22]) (hookL 4 defs cons) (obL 4 defs cons) 2700 nms w := by
  intro os
  kernel_rfl
end K11

set_option Elab.async false
set_option linter.all false
set_option maxRecDepth 100000
set_option autoImplicit false
/-! LyU: working with the interpreter. -/
namespace Ly
open PySem
theorem sz {n : Nat} (h : n ≤ 16777216 := by simp) : n ≤ sizeLine := by rw [sizeLine_eq]; exact h
theorem szl {n : Nat} (h : n < 16777216 := by simp) : n < sizeLine := by rw [sizeLine_eq]; exact h
/-- no ref beyond -/
def wf (h : Hh) : Prop := h.all (Ob.lt h.length) = true
theorem gc_same {n : Nat} {d : D} {h : Hh} (e : h.length = n) : gc n d h = h := by
  unfold gc
  split
  · rw [← e, List.take_length]
  · rfl
theorem gc_drop {d : D} {h g : Hh} (hd : d.lt h.length = true) (w : wf h) : gc h.length d (h ++ g) = h := by
  unfold gc
  have e : (h ++ g).take h.length = h := by simp
  rw [e, hd, w]
  rfl
theorem lts_all {n : Nat} : ∀ {xs : List D}, D.lts n xs = xs.all (D.lt n)
  | [] => rfl
  | x :: xs => by simp [D.lts, lts_all]
theorem lts_ints {n : Nat} (ns : List Int) : D.lts n (ns.map .int) = true := by
  rw [lts_all]; simp [D.lt]
mutual
theorem lt_mono {n m : Nat} (h : n ≤ m) : ∀ {d : D}, d.lt n = true → d.lt m = true
  | .non, _ => rfl
  | .bl _, _ => rfl
  | .int _, _ => rfl
  | .str _, _ => rfl
  | .fn _, _ => rfl
  | .tup xs, e => by simp only [D.lt] at e ⊢; exact lts_mono h e
  | .rol xs, e => by simp only [D.lt] at e ⊢; exact lts_mono h e
  | .ref k, e => by simp only [D.lt, decide_eq_true_eq] at e ⊢; omega
theorem lts_mono {n m : Nat} (h : n ≤ m) : ∀ {d : List D}, D.lts n d = true → D.lts m d = true
  | [], _ => rfl
  | x :: xs, e => by
    simp only [D.lts, Bool.and_eq_true] at e ⊢
    exact ⟨lt_mono h e.1, lts_mono h e.2⟩
end
theorem olt_mono {n m : Nat} (h : n ≤ m) {o : Ob} (e : o.lt n = true) : o.lt m = true := by
  cases o with
  | lst xs => exact lts_mono h e
theorem wf_nil : wf [] := rfl
theorem wf_app {h : Hh} {o : Ob} (w : wf h) (e : o.lt (h.length + 1) = true) : wf (h ++ [o]) := by
  unfold wf at *
  rw [List.all_append]
  simp only [List.length_append, List.length_cons, List.length_nil, List.all_cons, List.all_nil, Bool.and_true, Bool.and_eq_true]
  refine ⟨?_, by simpa using e⟩
  rw [List.all_eq_true] at w ⊢
  exact fun x hx => olt_mono (by omega) (w x hx)
theorem wf_set {h : Hh} {n : Nat} {o : Ob} (w : wf h) (e : o.lt h.length = true) : wf (h.set n o) := by
  unfold wf at *
  rw [List.all_eq_true] at w ⊢
  intro x hx
  rw [List.length_set]
  rcases List.mem_or_eq_of_mem_set hx with z | z
  · exact w x z
  · rw [z]; exact e
theorem wf_get {h : Hh} {n : Nat} {o : Ob} (w : wf h) (e : h[n]? = some o) : o.lt h.length = true := by
  unfold wf at w
  rw [List.all_eq_true] at w
  exact w o (List.mem_of_getElem? e)

theorem call_eq {P : Pg} {k f : Nat} {xs : List D} {h : Hh} (F : Fn) (hP : P.fns[f]? = some F) (hl : xs.length = F.ps) : callN P (k + 1) f xs h = fin h.length (evS (P.cf k) F.body (xs.map some ++ List.replicate (F.sl - F.ps) none) h) := by
  simp only [callN, hP, runFn, if_pos hl]
  rfl
theorem lstAt_of {h : Hh} {n : Nat} {xs : List D} (e : h[n]? = some (.lst xs)) : lstAt h n = some xs := by unfold lstAt; rw [e]
theorem lstAt_iff {h : Hh} {n : Nat} {xs : List D} : lstAt h n = some xs ↔ h[n]? = some (.lst xs) := by
  unfold lstAt
  cases q : h[n]? with
  | none => simp
  | some o => cases o; simp
@[simp] theorem lstAt_new {h : Hh} {xs : List D} : lstAt (h ++ [.lst xs]) h.length = some xs := by
  unfold lstAt; simp
theorem lstAt_app {h g : Hh} {n : Nat} {xs : List D} (e : lstAt h n = some xs) : lstAt (h ++ g) n = some xs := by
  rw [lstAt_iff] at e ⊢
  rw [List.getElem?_append_left (List.getElem?_eq_some_iff.mp e).1]; exact e
theorem lstAt_set {h : Hh} {n : Nat} {xs ys : List D} (e : lstAt h n = some xs) : lstAt (h.set n (.lst ys)) n = some ys := by
  rw [lstAt_iff] at e ⊢
  rw [List.getElem?_set_self (List.getElem?_eq_some_iff.mp e).1]
theorem lstAt_set_ne {h : Hh} {n m : Nat} {o : Ob} (hne : n ≠ m) : lstAt (h.set n o) m = lstAt h m := by
  unfold lstAt; rw [List.getElem?_set_ne hne]
theorem lstAt_lt {h : Hh} {n : Nat} {xs : List D} (e : lstAt h n = some xs) : n < h.length := (List.getElem?_eq_some_iff.mp (lstAt_iff.mp e)).1

/-! ### loops -/
theorem forL_inv {keep : Hh → Bool} {f : D → Env → Hh → SR} (I : Env → Hh → Prop) (hk : ∀ ρ h, I ρ h → keep h = true) : ∀ (xs : List D), (∀ x ∈ xs, ∀ ρ h, I ρ h → ∃ ρ' h', f x ρ h = .next ρ' h' ∧ I ρ' h') → ∀ ρ h, I ρ h → ∃ ρ' h', forL keep f xs ρ h = .next ρ' h' ∧ I ρ' h'
  | [], _, ρ, h, i => ⟨ρ, h, by simp [forL, hk ρ h i], i⟩
  | x :: xs, step, ρ, h, i => by
    obtain ⟨ρ1, h1, e1, i1⟩ := step x (by simp) ρ h i
    obtain ⟨ρ2, h2, e2, i2⟩ := forL_inv I hk xs (fun y hy => step y (by simp [hy])) ρ1 h1 i1
    exact ⟨ρ2, h2, by simp [forL, hk ρ h i, e1, e2], i2⟩
/-- with the place -/
theorem forL_ix {keep : Hh → Bool} {f : D → Env → Hh → SR} (I : Nat → Env → Hh → Prop) (hk : ∀ i ρ h, I i ρ h → keep h = true) : ∀ (xs : List D) (n : Nat), (∀ i x, xs[i]? = some x → ∀ ρ h, I (n + i) ρ h → ∃ ρ' h', f x ρ h = .next ρ' h' ∧ I (n + i + 1) ρ' h') → ∀ ρ h, I n ρ h → ∃ ρ' h', forL keep f xs ρ h = .next ρ' h' ∧ I (n + xs.length) ρ' h'
  | [], n, _, ρ, h, i => ⟨ρ, h, by simp [forL, hk n ρ h i], i⟩
  | x :: xs, n, step, ρ, h, i => by
    obtain ⟨ρ1, h1, e1, i1⟩ := step 0 x (by simp) ρ h i
    obtain ⟨ρ2, h2, e2, i2⟩ := forL_ix I hk xs (n + 1) (fun j y hy ρ h q => by
      have := step (j + 1) y (by simpa using hy) ρ h (by rw [show n + (j + 1) = n + 1 + j by omega]; exact q)
      rw [show n + (j + 1) + 1 = n + 1 + j + 1 by omega] at this
      exact this) ρ1 h1 i1
    refine ⟨ρ2, h2, by simp [forL, hk n ρ h i, e1, e2], ?_⟩
    rw [List.length_cons, show n + (xs.length + 1) = n + 1 + xs.length by omega]
    exact i2
/-- comprehensions whose turns leave the heap as it is -/
theorem compL_map {keep : Hh → Bool} {f : D → Hh → Res (Option D)} {g : D → Option D} {h : Hh} (hk : keep h = true) : ∀ (xs : List D), (∀ x ∈ xs, f x h = .ok (g x) h) → compL keep f xs h = .ok (xs.filterMap g) h
  | [], _ => by simp [compL, hk]
  | x :: xs, hf => by
    unfold compL
    rw [hk, if_pos rfl, hf x (by simp)]
    simp only [Res.ok_bind]
    rw [compL_map hk xs fun y hy => hf y (by simp [hy])]
    simp only [Res.ok_bind, List.filterMap_cons]
    cases g x <;> rfl
theorem rangeL_eq (lo : Int) : ∀ n : Nat, rangeL lo n = (List.range n).map fun i : Nat => D.int (lo + i)
  | 0 => rfl
  | n + 1 => by
    rw [rangeL, rangeL_eq (lo + 1) n, List.range_succ_eq_map]
    simp only [List.map_cons, List.map_map]
    congr 1
    · simp
    · refine List.map_congr_left fun i _ => ?_
      simp only [Function.comp]
      congr 1
      push_cast
      omega
theorem mem_rangeL {lo : Int} {n : Nat} {x : D} (h : x ∈ rangeL lo n) : ∃ i : Nat, i < n ∧ x = .int (lo + i) := by
  rw [rangeL_eq] at h
  obtain ⟨i, hi, rfl⟩ := List.mem_map.mp h
  exact ⟨i, List.mem_range.mp hi, rfl⟩
theorem rangeL_at {lo : Int} {n i : Nat} {x : D} (h : (rangeL lo n)[i]? = some x) : i < n ∧ x = .int (lo + i) := by
  rw [rangeL_eq, List.getElem?_map] at h
  cases q : (List.range n)[i]? with
  | none => rw [q] at h; cases h
  | some j =>
    rw [q] at h
    have := List.getElem?_eq_some_iff.mp q
    obtain ⟨h1, h2⟩ := this
    simp at h1 h2
    subst h2
    cases h
    exact ⟨h1, rfl⟩
theorem rangeL_length (lo : Int) (n : Nat) : (rangeL lo n).length = n := by rw [rangeL_eq]; simp
end Ly

set_option Elab.async false
set_option linter.all false
set_option maxRecDepth 100000
set_option autoImplicit false
/-! LyS: the interpreter's equations. -/
namespace Ly
open PySem
set_option exponentiation.threshold 10000
@[simp] theorem nx_ite {α : Type} {c : Prop} [Decidable c] (a b : Res α) : (if c then a else b).nx = if c then a.nx else b.nx := by split <;> rfl
section
variable (C : Cf) (ρ : Env) (h : Hh) (a b c e as lo hi it : E) (s t : S)
@[simp] theorem e_var (i : Nat) : evE C (.var i) ρ h = match ρ.getD i none with
    | some d => .ok d h
    | none => .bad := by (simp only [evE]) <;> rfl
@[simp] theorem e_int (i : Int) : evE C (.int i) ρ h = .ok (.int i) h := by (simp only [evE]) <;> rfl
@[simp] theorem e_bl (i : Bool) : evE C (.bl i) ρ h = .ok (.bl i) h := by (simp only [evE]) <;> rfl
@[simp] theorem e_non : evE C .non ρ h = .ok .non h := by (simp only [evE]) <;> rfl
@[simp] theorem e_str (i : Str) : evE C (.str i) ρ h = .ok (.str i) h := by (simp only [evE]) <;> rfl
@[simp] theorem e_glob (g : Nat) : evE C (.glob g) ρ h = match C.glob[g]? with
    | some d => .ok d h
    | none => .bad := by (simp only [evE]) <;> rfl
@[simp] theorem e_nev : evE C .nev ρ h = .bad := by (simp only [evE]) <;> rfl
@[simp] theorem a_nil : evA C .nil ρ h = .ok [] h := by (simp only [evA]) <;> rfl
@[simp] theorem o_nop : evO C .nop ρ h = .ok none h := by (simp only [evO]) <;> rfl
@[simp] theorem s_skip : evS C .skip ρ h = .next ρ h := by (simp only [evS]) <;> rfl
@[simp] theorem s_pass : evS C .pass ρ h = .next ρ h := by (simp only [evS]) <;> rfl
@[simp] theorem s_retN : evS C .retN ρ h = .ret .non h := by (simp only [evS]) <;> rfl
@[simp] theorem s_brk : evS C .brk ρ h = .brk ρ h := by (simp only [evS]) <;> rfl
@[simp] theorem s_cnt : evS C .cnt ρ h = .cnt ρ h := by (simp only [evS]) <;> rfl
@[simp] theorem s_nev : evS C .nev ρ h = .bad := by (simp only [evS]) <;> rfl
@[simp] theorem e_one : evE C (.one a) ρ h = evE C a ρ h := by (simp only [evE]) <;> rfl
end
/-- a plan of a sequence -/
def planS (o : Option (List D)) (x : D) (h : Hh) : Res Plan := match o with
  | some xs => .ok ⟨xs, keepOf x xs⟩ h
  | none => .bad
@[simp] theorem planS_some (xs : List D) (x : D) (h : Hh) : planS (some xs) x h = .ok ⟨xs, keepOf x xs⟩ h := rfl
def planE (o : Option (List D)) (x : D) (h : Hh) : Res Plan := match o with
  | some xs => .ok ⟨enumL 0 xs, keepOf x xs⟩ h
  | none => .bad
@[simp] theorem planE_some (xs : List D) (x : D) (h : Hh) : planE (some xs) x h = .ok ⟨enumL 0 xs, keepOf x xs⟩ h := rfl
def planZ (o p : Option (List D)) (x y : D) (h : Hh) : Res Plan := match o, p with
  | some xs, some ys => .ok ⟨zipL xs ys, keepOf x xs ++ keepOf y ys⟩ h
  | _, _ => .bad
@[simp] theorem planZ_some (xs ys : List D) (x y : D) (h : Hh) : planZ (some xs) (some ys) x y h = .ok ⟨zipL xs ys, keepOf x xs ++ keepOf y ys⟩ h := rfl
/-- the range's bounds -/
def rg1 (j : Int) (h : Hh) : Res Plan := if sm62 j then .ok ⟨rangeL 0 j.toNat, []⟩ h else .bad
def rg2 (i j : Int) (h : Hh) : Res Plan := if sm62 i && sm62 j then .ok ⟨rangeL i (j - i).toNat, []⟩ h else .bad
theorem rg1_ok {j : Int} {h : Hh} (h0 : -1000000000 ≤ j) (h1 : j ≤ 1000000000) : rg1 j h = .ok ⟨rangeL 0 j.toNat, []⟩ h := by
  unfold rg1; rw [if_pos (sm62_ok (by omega))]
theorem rg2_ok {i j : Int} {h : Hh} (h0 : -1000000000 ≤ i) (h1 : i ≤ 1000000000) (h2 : -1000000000 ≤ j) (h3 : j ≤ 1000000000) : rg2 i j h = .ok ⟨rangeL i (j - i).toNat, []⟩ h := by
  unfold rg2; rw [if_pos (by rw [sm62_ok (i := i) (by omega), sm62_ok (i := j) (by omega)]; rfl)]
def asgB (o : Option Env) (h : Hh) : SR := match o with
  | some ρ => .next ρ h
  | none => .bad
@[simp] theorem asgB_some (ρ : Env) (h : Hh) : asgB (some ρ) h = .next ρ h := rfl
def setB (ρ : Env) (o : Option Hh) : SR := match o with
  | some h => .next ρ h
  | none => .bad
@[simp] theorem setB_some (ρ : Env) (h : Hh) : setB ρ (some h) = .next ρ h := rfl
def augB' (ρ : Env) (i : Nat) (o : Option D) (h : Hh) : SR := match o with
  | some z => .next (ρ.set i (some z)) h
  | none => .bad
@[simp] theorem augB_some (ρ : Env) (i : Nat) (z : D) (h : Hh) : augB' ρ i (some z) h = .next (ρ.set i (some z)) h := rfl
def lcOf (r : Res (List D)) : Res D := r.bind fun ys h2 => if ys.length ≤ sizeLine then alloc h2 (.lst ys) else .bad
/-- a comprehension's turn, a for's body -/
def compT (C : Cf) (ρ : Env) (c e : E) (own : List Nat) (tg : Tg) : D → Hh → Res (Option D) := fun x h2 => match bindTg h2 (wipeD ρ own) tg x with
  | some ρ1 => (evE C c ρ1 h2).nx.tr fun t h3 => if t then (evE C e ρ1 h3).nx.bind fun y h4 => .ok (some y) h4 else .ok none h3
  | none => .bad
def forB (C : Cf) (s : S) (tg : Tg) : D → Env → Hh → SR := fun x ρ1 h2 => match bindTg h2 ρ1 tg x with
  | some ρ2 => evS C s ρ2 h2
  | none => .bad
def whl (C : Cf) (c : E) (s : S) (n : Nat) (ρ : Env) (h : Hh) : SR := whlL (fun ρ1 h1 => (evE C c ρ1 h1).tr fun t h2 => .ok t h2) (fun ρ1 h1 => evS C s ρ1 h1) n ρ h

def kBin2 (o : BOp) (x : D) : Res D → Res D
  | .ok z h1 => binD h1 o x z
  | .exc c fs h1 => .exc c fs h1
  | .bad => .bad
theorem kBin2_eq (o : BOp) (x : D) (r : Res D) : kBin2 o x r = r.bind fun z h1 => binD h1 o x z := by cases r <;> rfl
@[simp] theorem kBin2_ok (o : BOp) (x : D) (z : D) (h : Hh) : kBin2 o x (.ok z h) = binD h o x z := rfl
@[simp] theorem kBin2_exc (o : BOp) (x : D) (cc : Nat) (fs : List D) (h : Hh) : kBin2 o x (.exc cc fs h) = .exc cc fs h := rfl
@[simp] theorem kBin2_bad (o : BOp) (x : D) : kBin2 o x .bad = .bad := rfl
@[simp] theorem kBin2_ite (o : BOp) (x : D) {cc : Prop} [Decidable cc] (r1 r2 : Res D) : kBin2 o x (if cc then r1 else r2) = if cc then kBin2 o x r1 else kBin2 o x r2 := by split <;> rfl
def kBin (C : Cf) (o : BOp) (b : E) (ρ : Env) : Res D → Res D
  | .ok z h1 => kBin2 o z (evE C b ρ h1)
  | .exc c fs h1 => .exc c fs h1
  | .bad => .bad
theorem kBin_eq (C : Cf) (o : BOp) (b : E) (ρ : Env) (r : Res D) : kBin C o b ρ r = r.bind fun z h1 => kBin2 o z (evE C b ρ h1) := by cases r <;> rfl
@[simp] theorem kBin_ok (C : Cf) (o : BOp) (b : E) (ρ : Env) (z : D) (h : Hh) : kBin C o b ρ (.ok z h) = kBin2 o z (evE C b ρ h) := rfl
@[simp] theorem kBin_exc (C : Cf) (o : BOp) (b : E) (ρ : Env) (cc : Nat) (fs : List D) (h : Hh) : kBin C o b ρ (.exc cc fs h) = .exc cc fs h := rfl
@[simp] theorem kBin_bad (C : Cf) (o : BOp) (b : E) (ρ : Env) : kBin C o b ρ .bad = .bad := rfl
@[simp] theorem kBin_ite (C : Cf) (o : BOp) (b : E) (ρ : Env) {cc : Prop} [Decidable cc] (r1 r2 : Res D) : kBin C o b ρ (if cc then r1 else r2) = if cc then kBin C o b ρ r1 else kBin C o b ρ r2 := by split <;> rfl
def kNeg  : Res D → Res D
  | .ok z h1 => negD h1 z
  | .exc c fs h1 => .exc c fs h1
  | .bad => .bad
theorem kNeg_eq  (r : Res D) : kNeg  r = r.bind fun z h1 => negD h1 z := by cases r <;> rfl
@[simp] theorem kNeg_ok  (z : D) (h : Hh) : kNeg  (.ok z h) = negD h z := rfl
@[simp] theorem kNeg_exc  (cc : Nat) (fs : List D) (h : Hh) : kNeg  (.exc cc fs h) = .exc cc fs h := rfl
@[simp] theorem kNeg_bad  : kNeg  .bad = .bad := rfl
@[simp] theorem kNeg_ite  {cc : Prop} [Decidable cc] (r1 r2 : Res D) : kNeg  (if cc then r1 else r2) = if cc then kNeg  r1 else kNeg  r2 := by split <;> rfl
def kNot  : Res D → Res D
  | .ok z h1 => (Res.ok z h1).tr fun b h2 => .ok (.bl (!b)) h2
  | .exc c fs h1 => .exc c fs h1
  | .bad => .bad
theorem kNot_eq  (r : Res D) : kNot  r = r.bind fun z h1 => (Res.ok z h1).tr fun b h2 => .ok (.bl (!b)) h2 := by cases r <;> rfl
@[simp] theorem kNot_ok  (t : Bool) (h : Hh) : kNot  (.ok (.bl t) h) = .ok (.bl (!t)) h := rfl
@[simp] theorem kNot_exc  (cc : Nat) (fs : List D) (h : Hh) : kNot  (.exc cc fs h) = .exc cc fs h := rfl
@[simp] theorem kNot_bad  : kNot  .bad = .bad := rfl
@[simp] theorem kNot_ite  {cc : Prop} [Decidable cc] (r1 r2 : Res D) : kNot  (if cc then r1 else r2) = if cc then kNot  r1 else kNot  r2 := by split <;> rfl
def kCmp2 (q : COp) (x : D) : Res D → Res D
  | .ok z h1 => cmpD h1 q x z
  | .exc c fs h1 => .exc c fs h1
  | .bad => .bad
theorem kCmp2_eq (q : COp) (x : D) (r : Res D) : kCmp2 q x r = r.bind fun z h1 => cmpD h1 q x z := by cases r <;> rfl
@[simp] theorem kCmp2_ok (q : COp) (x : D) (z : D) (h : Hh) : kCmp2 q x (.ok z h) = cmpD h q x z := rfl
@[simp] theorem kCmp2_exc (q : COp) (x : D) (cc : Nat) (fs : List D) (h : Hh) : kCmp2 q x (.exc cc fs h) = .exc cc fs h := rfl
@[simp] theorem kCmp2_bad (q : COp) (x : D) : kCmp2 q x .bad = .bad := rfl
@[simp] theorem kCmp2_ite (q : COp) (x : D) {cc : Prop} [Decidable cc] (r1 r2 : Res D) : kCmp2 q x (if cc then r1 else r2) = if cc then kCmp2 q x r1 else kCmp2 q x r2 := by split <;> rfl
def kCmp (C : Cf) (q : COp) (b : E) (ρ : Env) : Res D → Res D
  | .ok z h1 => kCmp2 q z (evE C b ρ h1)
  | .exc c fs h1 => .exc c fs h1
  | .bad => .bad
theorem kCmp_eq (C : Cf) (q : COp) (b : E) (ρ : Env) (r : Res D) : kCmp C q b ρ r = r.bind fun z h1 => kCmp2 q z (evE C b ρ h1) := by cases r <;> rfl
@[simp] theorem kCmp_ok (C : Cf) (q : COp) (b : E) (ρ : Env) (z : D) (h : Hh) : kCmp C q b ρ (.ok z h) = kCmp2 q z (evE C b ρ h) := rfl
@[simp] theorem kCmp_exc (C : Cf) (q : COp) (b : E) (ρ : Env) (cc : Nat) (fs : List D) (h : Hh) : kCmp C q b ρ (.exc cc fs h) = .exc cc fs h := rfl
@[simp] theorem kCmp_bad (C : Cf) (q : COp) (b : E) (ρ : Env) : kCmp C q b ρ .bad = .bad := rfl
@[simp] theorem kCmp_ite (C : Cf) (q : COp) (b : E) (ρ : Env) {cc : Prop} [Decidable cc] (r1 r2 : Res D) : kCmp C q b ρ (if cc then r1 else r2) = if cc then kCmp C q b ρ r1 else kCmp C q b ρ r2 := by split <;> rfl
def kCh3 (C : Cf) (r : COp) (c : E) (ρ : Env) (y : D) : Res D → Res D
  | .ok z h1 => match z with | .bl true => kCmp2 r y (evE C c ρ h1) | .bl false => .ok (.bl false) h1 | _ => .bad
  | .exc c fs h1 => .exc c fs h1
  | .bad => .bad
theorem kCh3_eq (C : Cf) (r : COp) (c : E) (ρ : Env) (y : D) (rr : Res D) : kCh3 C r c ρ y rr = rr.bind fun z h1 => match z with | .bl true => kCmp2 r y (evE C c ρ h1) | .bl false => .ok (.bl false) h1 | _ => .bad := by cases rr <;> rfl
@[simp] theorem kCh3_ok (C : Cf) (r : COp) (c : E) (ρ : Env) (y : D) (t : Bool) (h : Hh) : kCh3 C r c ρ y (.ok (.bl t) h) = if t then kCmp2 r y (evE C c ρ h) else .ok (.bl false) h := by cases t <;> rfl
@[simp] theorem kCh3_exc (C : Cf) (r : COp) (c : E) (ρ : Env) (y : D) (cc : Nat) (fs : List D) (h : Hh) : kCh3 C r c ρ y (.exc cc fs h) = .exc cc fs h := rfl
@[simp] theorem kCh3_bad (C : Cf) (r : COp) (c : E) (ρ : Env) (y : D) : kCh3 C r c ρ y .bad = .bad := rfl
@[simp] theorem kCh3_ite (C : Cf) (r : COp) (c : E) (ρ : Env) (y : D) {cc : Prop} [Decidable cc] (r1 r2 : Res D) : kCh3 C r c ρ y (if cc then r1 else r2) = if cc then kCh3 C r c ρ y r1 else kCh3 C r c ρ y r2 := by split <;> rfl
def kCh2 (C : Cf) (q : COp) (r : COp) (c : E) (ρ : Env) (x : D) : Res D → Res D
  | .ok z h1 => kCh3 C r c ρ z (cmpD h1 q x z)
  | .exc c fs h1 => .exc c fs h1
  | .bad => .bad
theorem kCh2_eq (C : Cf) (q : COp) (r : COp) (c : E) (ρ : Env) (x : D) (rr : Res D) : kCh2 C q r c ρ x rr = rr.bind fun z h1 => kCh3 C r c ρ z (cmpD h1 q x z) := by cases rr <;> rfl
@[simp] theorem kCh2_ok (C : Cf) (q : COp) (r : COp) (c : E) (ρ : Env) (x : D) (z : D) (h : Hh) : kCh2 C q r c ρ x (.ok z h) = kCh3 C r c ρ z (cmpD h q x z) := rfl
@[simp] theorem kCh2_exc (C : Cf) (q : COp) (r : COp) (c : E) (ρ : Env) (x : D) (cc : Nat) (fs : List D) (h : Hh) : kCh2 C q r c ρ x (.exc cc fs h) = .exc cc fs h := rfl
@[simp] theorem kCh2_bad (C : Cf) (q : COp) (r : COp) (c : E) (ρ : Env) (x : D) : kCh2 C q r c ρ x .bad = .bad := rfl
@[simp] theorem kCh2_ite (C : Cf) (q : COp) (r : COp) (c : E) (ρ : Env) (x : D) {cc : Prop} [Decidable cc] (r1 r2 : Res D) : kCh2 C q r c ρ x (if cc then r1 else r2) = if cc then kCh2 C q r c ρ x r1 else kCh2 C q r c ρ x r2 := by split <;> rfl
def kCh (C : Cf) (q : COp) (r : COp) (b : E) (c : E) (ρ : Env) : Res D → Res D
  | .ok z h1 => kCh2 C q r c ρ z (evE C b ρ h1)
  | .exc c fs h1 => .exc c fs h1
  | .bad => .bad
theorem kCh_eq (C : Cf) (q : COp) (r : COp) (b : E) (c : E) (ρ : Env) (rr : Res D) : kCh C q r b c ρ rr = rr.bind fun z h1 => kCh2 C q r c ρ z (evE C b ρ h1) := by cases rr <;> rfl
@[simp] theorem kCh_ok (C : Cf) (q : COp) (r : COp) (b : E) (c : E) (ρ : Env) (z : D) (h : Hh) : kCh C q r b c ρ (.ok z h) = kCh2 C q r c ρ z (evE C b ρ h) := rfl
@[simp] theorem kCh_exc (C : Cf) (q : COp) (r : COp) (b : E) (c : E) (ρ : Env) (cc : Nat) (fs : List D) (h : Hh) : kCh C q r b c ρ (.exc cc fs h) = .exc cc fs h := rfl
@[simp] theorem kCh_bad (C : Cf) (q : COp) (r : COp) (b : E) (c : E) (ρ : Env) : kCh C q r b c ρ .bad = .bad := rfl
@[simp] theorem kCh_ite (C : Cf) (q : COp) (r : COp) (b : E) (c : E) (ρ : Env) {cc : Prop} [Decidable cc] (r1 r2 : Res D) : kCh C q r b c ρ (if cc then r1 else r2) = if cc then kCh C q r b c ρ r1 else kCh C q r b c ρ r2 := by split <;> rfl
def kIsN  : Res D → Res D
  | .ok z h1 => .ok (.bl (decide (z = .non))) h1
  | .exc c fs h1 => .exc c fs h1
  | .bad => .bad
theorem kIsN_eq  (r : Res D) : kIsN  r = r.bind fun z h1 => .ok (.bl (decide (z = .non))) h1 := by cases r <;> rfl
@[simp] theorem kIsN_ok  (z : D) (h : Hh) : kIsN  (.ok z h) = .ok (.bl (decide (z = .non))) h := rfl
@[simp] theorem kIsN_exc  (cc : Nat) (fs : List D) (h : Hh) : kIsN  (.exc cc fs h) = .exc cc fs h := rfl
@[simp] theorem kIsN_bad  : kIsN  .bad = .bad := rfl
@[simp] theorem kIsN_ite  {cc : Prop} [Decidable cc] (r1 r2 : Res D) : kIsN  (if cc then r1 else r2) = if cc then kIsN  r1 else kIsN  r2 := by split <;> rfl
def kIsNN  : Res D → Res D
  | .ok z h1 => .ok (.bl (!decide (z = .non))) h1
  | .exc c fs h1 => .exc c fs h1
  | .bad => .bad
theorem kIsNN_eq  (r : Res D) : kIsNN  r = r.bind fun z h1 => .ok (.bl (!decide (z = .non))) h1 := by cases r <;> rfl
@[simp] theorem kIsNN_ok  (z : D) (h : Hh) : kIsNN  (.ok z h) = .ok (.bl (!decide (z = .non))) h := rfl
@[simp] theorem kIsNN_exc  (cc : Nat) (fs : List D) (h : Hh) : kIsNN  (.exc cc fs h) = .exc cc fs h := rfl
@[simp] theorem kIsNN_bad  : kIsNN  .bad = .bad := rfl
@[simp] theorem kIsNN_ite  {cc : Prop} [Decidable cc] (r1 r2 : Res D) : kIsNN  (if cc then r1 else r2) = if cc then kIsNN  r1 else kIsNN  r2 := by split <;> rfl
def kAnd (C : Cf) (b : E) (ρ : Env) : Res D → Res D
  | .ok z h1 => match truth h1 z with | some true => evE C b ρ h1 | some false => .ok z h1 | none => .bad
  | .exc c fs h1 => .exc c fs h1
  | .bad => .bad
theorem kAnd_eq (C : Cf) (b : E) (ρ : Env) (r : Res D) : kAnd C b ρ r = r.bind fun z h1 => match truth h1 z with | some true => evE C b ρ h1 | some false => .ok z h1 | none => .bad := by cases r <;> rfl
@[simp] theorem kAnd_ok (C : Cf) (b : E) (ρ : Env) (t : Bool) (h : Hh) : kAnd C b ρ (.ok (.bl t) h) = if t then evE C b ρ h else .ok (.bl false) h := by cases t <;> rfl
@[simp] theorem kAnd_exc (C : Cf) (b : E) (ρ : Env) (cc : Nat) (fs : List D) (h : Hh) : kAnd C b ρ (.exc cc fs h) = .exc cc fs h := rfl
@[simp] theorem kAnd_bad (C : Cf) (b : E) (ρ : Env) : kAnd C b ρ .bad = .bad := rfl
@[simp] theorem kAnd_ite (C : Cf) (b : E) (ρ : Env) {cc : Prop} [Decidable cc] (r1 r2 : Res D) : kAnd C b ρ (if cc then r1 else r2) = if cc then kAnd C b ρ r1 else kAnd C b ρ r2 := by split <;> rfl
def kOr (C : Cf) (b : E) (ρ : Env) : Res D → Res D
  | .ok z h1 => match truth h1 z with | some true => .ok z h1 | some false => evE C b ρ h1 | none => .bad
  | .exc c fs h1 => .exc c fs h1
  | .bad => .bad
theorem kOr_eq (C : Cf) (b : E) (ρ : Env) (r : Res D) : kOr C b ρ r = r.bind fun z h1 => match truth h1 z with | some true => .ok z h1 | some false => evE C b ρ h1 | none => .bad := by cases r <;> rfl
@[simp] theorem kOr_ok (C : Cf) (b : E) (ρ : Env) (t : Bool) (h : Hh) : kOr C b ρ (.ok (.bl t) h) = if t then .ok (.bl true) h else evE C b ρ h := by cases t <;> rfl
@[simp] theorem kOr_exc (C : Cf) (b : E) (ρ : Env) (cc : Nat) (fs : List D) (h : Hh) : kOr C b ρ (.exc cc fs h) = .exc cc fs h := rfl
@[simp] theorem kOr_bad (C : Cf) (b : E) (ρ : Env) : kOr C b ρ .bad = .bad := rfl
@[simp] theorem kOr_ite (C : Cf) (b : E) (ρ : Env) {cc : Prop} [Decidable cc] (r1 r2 : Res D) : kOr C b ρ (if cc then r1 else r2) = if cc then kOr C b ρ r1 else kOr C b ρ r2 := by split <;> rfl
def kIte (C : Cf) (a : E) (b : E) (ρ : Env) : Res D → Res D
  | .ok z h1 => (Res.ok z h1).tr fun t h2 => if t then evE C a ρ h2 else evE C b ρ h2
  | .exc c fs h1 => .exc c fs h1
  | .bad => .bad
theorem kIte_eq (C : Cf) (a : E) (b : E) (ρ : Env) (r : Res D) : kIte C a b ρ r = r.bind fun z h1 => (Res.ok z h1).tr fun t h2 => if t then evE C a ρ h2 else evE C b ρ h2 := by cases r <;> rfl
@[simp] theorem kIte_ok (C : Cf) (a : E) (b : E) (ρ : Env) (t : Bool) (h : Hh) : kIte C a b ρ (.ok (.bl t) h) = if t then evE C a ρ h else evE C b ρ h := rfl
@[simp] theorem kIte_exc (C : Cf) (a : E) (b : E) (ρ : Env) (cc : Nat) (fs : List D) (h : Hh) : kIte C a b ρ (.exc cc fs h) = .exc cc fs h := rfl
@[simp] theorem kIte_bad (C : Cf) (a : E) (b : E) (ρ : Env) : kIte C a b ρ .bad = .bad := rfl
@[simp] theorem kIte_ite (C : Cf) (a : E) (b : E) (ρ : Env) {cc : Prop} [Decidable cc] (r1 r2 : Res D) : kIte C a b ρ (if cc then r1 else r2) = if cc then kIte C a b ρ r1 else kIte C a b ρ r2 := by split <;> rfl
def kTup  : Res (List D) → Res D
  | .ok z h1 => if z.length ≤ sizeLine then .ok (.tup z) h1 else .bad
  | .exc c fs h1 => .exc c fs h1
  | .bad => .bad
theorem kTup_eq  (r : Res (List D)) : kTup  r = r.bind fun z h1 => if z.length ≤ sizeLine then .ok (.tup z) h1 else .bad := by cases r <;> rfl
@[simp] theorem kTup_ok  (z : List D) (h : Hh) : kTup  (.ok z h) = if z.length ≤ sizeLine then .ok (.tup z) h else .bad := rfl
@[simp] theorem kTup_exc  (cc : Nat) (fs : List D) (h : Hh) : kTup  (.exc cc fs h) = .exc cc fs h := rfl
@[simp] theorem kTup_bad  : kTup  .bad = .bad := rfl
@[simp] theorem kTup_ite  {cc : Prop} [Decidable cc] (r1 r2 : Res (List D)) : kTup  (if cc then r1 else r2) = if cc then kTup  r1 else kTup  r2 := by split <;> rfl
def kLst  : Res (List D) → Res D
  | .ok z h1 => if z.length ≤ sizeLine then alloc h1 (.lst z) else .bad
  | .exc c fs h1 => .exc c fs h1
  | .bad => .bad
theorem kLst_eq  (r : Res (List D)) : kLst  r = r.bind fun z h1 => if z.length ≤ sizeLine then alloc h1 (.lst z) else .bad := by cases r <;> rfl
@[simp] theorem kLst_ok  (z : List D) (h : Hh) : kLst  (.ok z h) = if z.length ≤ sizeLine then .ok (.ref h.length) (h ++ [.lst z]) else .bad := rfl
@[simp] theorem kLst_exc  (cc : Nat) (fs : List D) (h : Hh) : kLst  (.exc cc fs h) = .exc cc fs h := rfl
@[simp] theorem kLst_bad  : kLst  .bad = .bad := rfl
@[simp] theorem kLst_ite  {cc : Prop} [Decidable cc] (r1 r2 : Res (List D)) : kLst  (if cc then r1 else r2) = if cc then kLst  r1 else kLst  r2 := by split <;> rfl
def kIdx2 (x : D) : Res D → Res D
  | .ok z h1 => idxD h1 x z
  | .exc c fs h1 => .exc c fs h1
  | .bad => .bad
theorem kIdx2_eq (x : D) (r : Res D) : kIdx2 x r = r.bind fun z h1 => idxD h1 x z := by cases r <;> rfl
@[simp] theorem kIdx2_ok (x : D) (z : D) (h : Hh) : kIdx2 x (.ok z h) = idxD h x z := rfl
@[simp] theorem kIdx2_exc (x : D) (cc : Nat) (fs : List D) (h : Hh) : kIdx2 x (.exc cc fs h) = .exc cc fs h := rfl
@[simp] theorem kIdx2_bad (x : D) : kIdx2 x .bad = .bad := rfl
@[simp] theorem kIdx2_ite (x : D) {cc : Prop} [Decidable cc] (r1 r2 : Res D) : kIdx2 x (if cc then r1 else r2) = if cc then kIdx2 x r1 else kIdx2 x r2 := by split <;> rfl
def kIdx (C : Cf) (b : E) (ρ : Env) : Res D → Res D
  | .ok z h1 => kIdx2 z (evE C b ρ h1)
  | .exc c fs h1 => .exc c fs h1
  | .bad => .bad
theorem kIdx_eq (C : Cf) (b : E) (ρ : Env) (r : Res D) : kIdx C b ρ r = r.bind fun z h1 => kIdx2 z (evE C b ρ h1) := by cases r <;> rfl
@[simp] theorem kIdx_ok (C : Cf) (b : E) (ρ : Env) (z : D) (h : Hh) : kIdx C b ρ (.ok z h) = kIdx2 z (evE C b ρ h) := rfl
@[simp] theorem kIdx_exc (C : Cf) (b : E) (ρ : Env) (cc : Nat) (fs : List D) (h : Hh) : kIdx C b ρ (.exc cc fs h) = .exc cc fs h := rfl
@[simp] theorem kIdx_bad (C : Cf) (b : E) (ρ : Env) : kIdx C b ρ .bad = .bad := rfl
@[simp] theorem kIdx_ite (C : Cf) (b : E) (ρ : Env) {cc : Prop} [Decidable cc] (r1 r2 : Res D) : kIdx C b ρ (if cc then r1 else r2) = if cc then kIdx C b ρ r1 else kIdx C b ρ r2 := by split <;> rfl
def kSl3 (x : D) (l : Option Int) : Res (Option Int) → Res D
  | .ok z h1 => slcD h1 x l z
  | .exc c fs h1 => .exc c fs h1
  | .bad => .bad
theorem kSl3_eq (x : D) (l : Option Int) (r : Res (Option Int)) : kSl3 x l r = r.bind fun z h1 => slcD h1 x l z := by cases r <;> rfl
@[simp] theorem kSl3_ok (x : D) (l : Option Int) (z : Option Int) (h : Hh) : kSl3 x l (.ok z h) = slcD h x l z := rfl
@[simp] theorem kSl3_exc (x : D) (l : Option Int) (cc : Nat) (fs : List D) (h : Hh) : kSl3 x l (.exc cc fs h) = .exc cc fs h := rfl
@[simp] theorem kSl3_bad (x : D) (l : Option Int) : kSl3 x l .bad = .bad := rfl
@[simp] theorem kSl3_ite (x : D) (l : Option Int) {cc : Prop} [Decidable cc] (r1 r2 : Res (Option Int)) : kSl3 x l (if cc then r1 else r2) = if cc then kSl3 x l r1 else kSl3 x l r2 := by split <;> rfl
def kSl2 (C : Cf) (hi : E) (ρ : Env) (x : D) : Res (Option Int) → Res D
  | .ok z h1 => kSl3 x z (evO C hi ρ h1)
  | .exc c fs h1 => .exc c fs h1
  | .bad => .bad
theorem kSl2_eq (C : Cf) (hi : E) (ρ : Env) (x : D) (r : Res (Option Int)) : kSl2 C hi ρ x r = r.bind fun z h1 => kSl3 x z (evO C hi ρ h1) := by cases r <;> rfl
@[simp] theorem kSl2_ok (C : Cf) (hi : E) (ρ : Env) (x : D) (z : Option Int) (h : Hh) : kSl2 C hi ρ x (.ok z h) = kSl3 x z (evO C hi ρ h) := rfl
@[simp] theorem kSl2_exc (C : Cf) (hi : E) (ρ : Env) (x : D) (cc : Nat) (fs : List D) (h : Hh) : kSl2 C hi ρ x (.exc cc fs h) = .exc cc fs h := rfl
@[simp] theorem kSl2_bad (C : Cf) (hi : E) (ρ : Env) (x : D) : kSl2 C hi ρ x .bad = .bad := rfl
@[simp] theorem kSl2_ite (C : Cf) (hi : E) (ρ : Env) (x : D) {cc : Prop} [Decidable cc] (r1 r2 : Res (Option Int)) : kSl2 C hi ρ x (if cc then r1 else r2) = if cc then kSl2 C hi ρ x r1 else kSl2 C hi ρ x r2 := by split <;> rfl
def kSl (C : Cf) (lo : E) (hi : E) (ρ : Env) : Res D → Res D
  | .ok z h1 => kSl2 C hi ρ z (evO C lo ρ h1)
  | .exc c fs h1 => .exc c fs h1
  | .bad => .bad
theorem kSl_eq (C : Cf) (lo : E) (hi : E) (ρ : Env) (r : Res D) : kSl C lo hi ρ r = r.bind fun z h1 => kSl2 C hi ρ z (evO C lo ρ h1) := by cases r <;> rfl
@[simp] theorem kSl_ok (C : Cf) (lo : E) (hi : E) (ρ : Env) (z : D) (h : Hh) : kSl C lo hi ρ (.ok z h) = kSl2 C hi ρ z (evO C lo ρ h) := rfl
@[simp] theorem kSl_exc (C : Cf) (lo : E) (hi : E) (ρ : Env) (cc : Nat) (fs : List D) (h : Hh) : kSl C lo hi ρ (.exc cc fs h) = .exc cc fs h := rfl
@[simp] theorem kSl_bad (C : Cf) (lo : E) (hi : E) (ρ : Env) : kSl C lo hi ρ .bad = .bad := rfl
@[simp] theorem kSl_ite (C : Cf) (lo : E) (hi : E) (ρ : Env) {cc : Prop} [Decidable cc] (r1 r2 : Res D) : kSl C lo hi ρ (if cc then r1 else r2) = if cc then kSl C lo hi ρ r1 else kSl C lo hi ρ r2 := by split <;> rfl
def kCall (C : Cf) (f : Nat) : Res (List D) → Res D
  | .ok z h1 => C.call f z h1
  | .exc c fs h1 => .exc c fs h1
  | .bad => .bad
theorem kCall_eq (C : Cf) (f : Nat) (r : Res (List D)) : kCall C f r = r.bind fun z h1 => C.call f z h1 := by cases r <;> rfl
@[simp] theorem kCall_ok (C : Cf) (f : Nat) (z : List D) (h : Hh) : kCall C f (.ok z h) = C.call f z h := rfl
@[simp] theorem kCall_exc (C : Cf) (f : Nat) (cc : Nat) (fs : List D) (h : Hh) : kCall C f (.exc cc fs h) = .exc cc fs h := rfl
@[simp] theorem kCall_bad (C : Cf) (f : Nat) : kCall C f .bad = .bad := rfl
@[simp] theorem kCall_ite (C : Cf) (f : Nat) {cc : Prop} [Decidable cc] (r1 r2 : Res (List D)) : kCall C f (if cc then r1 else r2) = if cc then kCall C f r1 else kCall C f r2 := by split <;> rfl
def kBi (bi : BI) : Res (List D) → Res D
  | .ok z h1 => biD h1 bi z
  | .exc c fs h1 => .exc c fs h1
  | .bad => .bad
theorem kBi_eq (bi : BI) (r : Res (List D)) : kBi bi r = r.bind fun z h1 => biD h1 bi z := by cases r <;> rfl
@[simp] theorem kBi_ok (bi : BI) (z : List D) (h : Hh) : kBi bi (.ok z h) = biD h bi z := rfl
@[simp] theorem kBi_exc (bi : BI) (cc : Nat) (fs : List D) (h : Hh) : kBi bi (.exc cc fs h) = .exc cc fs h := rfl
@[simp] theorem kBi_bad (bi : BI) : kBi bi .bad = .bad := rfl
@[simp] theorem kBi_ite (bi : BI) {cc : Prop} [Decidable cc] (r1 r2 : Res (List D)) : kBi bi (if cc then r1 else r2) = if cc then kBi bi r1 else kBi bi r2 := by split <;> rfl
def kIsi (ty : Ty) : Res D → Res D
  | .ok z h1 => rB (isiD h1 z ty) h1
  | .exc c fs h1 => .exc c fs h1
  | .bad => .bad
theorem kIsi_eq (ty : Ty) (r : Res D) : kIsi ty r = r.bind fun z h1 => rB (isiD h1 z ty) h1 := by cases r <;> rfl
@[simp] theorem kIsi_ok (ty : Ty) (z : D) (h : Hh) : kIsi ty (.ok z h) = rB (isiD h z ty) h := rfl
@[simp] theorem kIsi_exc (ty : Ty) (cc : Nat) (fs : List D) (h : Hh) : kIsi ty (.exc cc fs h) = .exc cc fs h := rfl
@[simp] theorem kIsi_bad (ty : Ty) : kIsi ty .bad = .bad := rfl
@[simp] theorem kIsi_ite (ty : Ty) {cc : Prop} [Decidable cc] (r1 r2 : Res D) : kIsi ty (if cc then r1 else r2) = if cc then kIsi ty r1 else kIsi ty r2 := by split <;> rfl
def kMe2 (m : Mt) (x : D) : Res (List D) → Res D
  | .ok z h1 => mtD h1 m x z
  | .exc c fs h1 => .exc c fs h1
  | .bad => .bad
theorem kMe2_eq (m : Mt) (x : D) (r : Res (List D)) : kMe2 m x r = r.bind fun z h1 => mtD h1 m x z := by cases r <;> rfl
@[simp] theorem kMe2_ok (m : Mt) (x : D) (z : List D) (h : Hh) : kMe2 m x (.ok z h) = mtD h m x z := rfl
@[simp] theorem kMe2_exc (m : Mt) (x : D) (cc : Nat) (fs : List D) (h : Hh) : kMe2 m x (.exc cc fs h) = .exc cc fs h := rfl
@[simp] theorem kMe2_bad (m : Mt) (x : D) : kMe2 m x .bad = .bad := rfl
@[simp] theorem kMe2_ite (m : Mt) (x : D) {cc : Prop} [Decidable cc] (r1 r2 : Res (List D)) : kMe2 m x (if cc then r1 else r2) = if cc then kMe2 m x r1 else kMe2 m x r2 := by split <;> rfl
def kMe (C : Cf) (m : Mt) (as : E) (ρ : Env) : Res D → Res D
  | .ok z h1 => if recvOk h1 m z then kMe2 m z (evA C as ρ h1) else .bad
  | .exc c fs h1 => .exc c fs h1
  | .bad => .bad
theorem kMe_eq (C : Cf) (m : Mt) (as : E) (ρ : Env) (r : Res D) : kMe C m as ρ r = r.bind fun z h1 => if recvOk h1 m z then kMe2 m z (evA C as ρ h1) else .bad := by cases r <;> rfl
@[simp] theorem kMe_ok (C : Cf) (m : Mt) (as : E) (ρ : Env) (z : D) (h : Hh) : kMe C m as ρ (.ok z h) = if recvOk h m z then kMe2 m z (evA C as ρ h) else .bad := rfl
@[simp] theorem kMe_exc (C : Cf) (m : Mt) (as : E) (ρ : Env) (cc : Nat) (fs : List D) (h : Hh) : kMe C m as ρ (.exc cc fs h) = .exc cc fs h := rfl
@[simp] theorem kMe_bad (C : Cf) (m : Mt) (as : E) (ρ : Env) : kMe C m as ρ .bad = .bad := rfl
@[simp] theorem kMe_ite (C : Cf) (m : Mt) (as : E) (ρ : Env) {cc : Prop} [Decidable cc] (r1 r2 : Res D) : kMe C m as ρ (if cc then r1 else r2) = if cc then kMe C m as ρ r1 else kMe C m as ρ r2 := by split <;> rfl
def kLc (C : Cf) (own : List Nat) (tg : Tg) (c : E) (e : E) (ρ : Env) : Res Plan → Res D
  | .ok z h1 => lcOf (compL z.ok (compT C ρ c e own tg) z.its h1)
  | .exc c fs h1 => .exc c fs h1
  | .bad => .bad
theorem kLc_eq (C : Cf) (own : List Nat) (tg : Tg) (c : E) (e : E) (ρ : Env) (r : Res Plan) : kLc C own tg c e ρ r = r.bind fun z h1 => lcOf (compL z.ok (compT C ρ c e own tg) z.its h1) := by cases r <;> rfl
@[simp] theorem kLc_ok (C : Cf) (own : List Nat) (tg : Tg) (c : E) (e : E) (ρ : Env) (z : Plan) (h : Hh) : kLc C own tg c e ρ (.ok z h) = lcOf (compL z.ok (compT C ρ c e own tg) z.its h) := rfl
@[simp] theorem kLc_exc (C : Cf) (own : List Nat) (tg : Tg) (c : E) (e : E) (ρ : Env) (cc : Nat) (fs : List D) (h : Hh) : kLc C own tg c e ρ (.exc cc fs h) = .exc cc fs h := rfl
@[simp] theorem kLc_bad (C : Cf) (own : List Nat) (tg : Tg) (c : E) (e : E) (ρ : Env) : kLc C own tg c e ρ .bad = .bad := rfl
@[simp] theorem kLc_ite (C : Cf) (own : List Nat) (tg : Tg) (c : E) (e : E) (ρ : Env) {cc : Prop} [Decidable cc] (r1 r2 : Res Plan) : kLc C own tg c e ρ (if cc then r1 else r2) = if cc then kLc C own tg c e ρ r1 else kLc C own tg c e ρ r2 := by split <;> rfl
def kAc2 (x : D) : Res (List D) → Res (List D)
  | .ok z h1 => .ok (x :: z) h1
  | .exc c fs h1 => .exc c fs h1
  | .bad => .bad
theorem kAc2_eq (x : D) (r : Res (List D)) : kAc2 x r = r.bind fun z h1 => .ok (x :: z) h1 := by cases r <;> rfl
@[simp] theorem kAc2_ok (x : D) (z : List D) (h : Hh) : kAc2 x (.ok z h) = .ok (x :: z) h := rfl
@[simp] theorem kAc2_exc (x : D) (cc : Nat) (fs : List D) (h : Hh) : kAc2 x (.exc cc fs h) = .exc cc fs h := rfl
@[simp] theorem kAc2_bad (x : D) : kAc2 x .bad = .bad := rfl
@[simp] theorem kAc2_ite (x : D) {cc : Prop} [Decidable cc] (r1 r2 : Res (List D)) : kAc2 x (if cc then r1 else r2) = if cc then kAc2 x r1 else kAc2 x r2 := by split <;> rfl
def kAc (C : Cf) (as : E) (ρ : Env) : Res D → Res (List D)
  | .ok z h1 => kAc2 z (evA C as ρ h1)
  | .exc c fs h1 => .exc c fs h1
  | .bad => .bad
theorem kAc_eq (C : Cf) (as : E) (ρ : Env) (r : Res D) : kAc C as ρ r = r.bind fun z h1 => kAc2 z (evA C as ρ h1) := by cases r <;> rfl
@[simp] theorem kAc_ok (C : Cf) (as : E) (ρ : Env) (z : D) (h : Hh) : kAc C as ρ (.ok z h) = kAc2 z (evA C as ρ h) := rfl
@[simp] theorem kAc_exc (C : Cf) (as : E) (ρ : Env) (cc : Nat) (fs : List D) (h : Hh) : kAc C as ρ (.exc cc fs h) = .exc cc fs h := rfl
@[simp] theorem kAc_bad (C : Cf) (as : E) (ρ : Env) : kAc C as ρ .bad = .bad := rfl
@[simp] theorem kAc_ite (C : Cf) (as : E) (ρ : Env) {cc : Prop} [Decidable cc] (r1 r2 : Res D) : kAc C as ρ (if cc then r1 else r2) = if cc then kAc C as ρ r1 else kAc C as ρ r2 := by split <;> rfl
def kOpt  : Res D → Res (Option Int)
  | .ok z h1 => match z with | .int i => .ok (some i) h1 | _ => .bad
  | .exc c fs h1 => .exc c fs h1
  | .bad => .bad
theorem kOpt_eq  (r : Res D) : kOpt  r = r.bind fun z h1 => match z with | .int i => .ok (some i) h1 | _ => .bad := by cases r <;> rfl
@[simp] theorem kOpt_ok  (i : Int) (h : Hh) : kOpt  (.ok (.int i) h) = .ok (some i) h := rfl
@[simp] theorem kOpt_exc  (cc : Nat) (fs : List D) (h : Hh) : kOpt  (.exc cc fs h) = .exc cc fs h := rfl
@[simp] theorem kOpt_bad  : kOpt  .bad = .bad := rfl
@[simp] theorem kOpt_ite  {cc : Prop} [Decidable cc] (r1 r2 : Res D) : kOpt  (if cc then r1 else r2) = if cc then kOpt  r1 else kOpt  r2 := by split <;> rfl
def kSeq  : Res D → Res Plan
  | .ok z h1 => planS (items h1 z) z h1
  | .exc c fs h1 => .exc c fs h1
  | .bad => .bad
theorem kSeq_eq  (r : Res D) : kSeq  r = r.bind fun z h1 => planS (items h1 z) z h1 := by cases r <;> rfl
@[simp] theorem kSeq_ok  (z : D) (h : Hh) : kSeq  (.ok z h) = planS (items h z) z h := rfl
@[simp] theorem kSeq_exc  (cc : Nat) (fs : List D) (h : Hh) : kSeq  (.exc cc fs h) = .exc cc fs h := rfl
@[simp] theorem kSeq_bad  : kSeq  .bad = .bad := rfl
@[simp] theorem kSeq_ite  {cc : Prop} [Decidable cc] (r1 r2 : Res D) : kSeq  (if cc then r1 else r2) = if cc then kSeq  r1 else kSeq  r2 := by split <;> rfl
def kR1  : Res D → Res Plan
  | .ok z h1 => match z with | .int j => rg1 j h1 | _ => .bad
  | .exc c fs h1 => .exc c fs h1
  | .bad => .bad
theorem kR1_eq  (r : Res D) : kR1  r = r.bind fun z h1 => match z with | .int j => rg1 j h1 | _ => .bad := by cases r <;> rfl
@[simp] theorem kR1_ok  (i : Int) (h : Hh) : kR1  (.ok (.int i) h) = rg1 i h := rfl
@[simp] theorem kR1_exc  (cc : Nat) (fs : List D) (h : Hh) : kR1  (.exc cc fs h) = .exc cc fs h := rfl
@[simp] theorem kR1_bad  : kR1  .bad = .bad := rfl
@[simp] theorem kR1_ite  {cc : Prop} [Decidable cc] (r1 r2 : Res D) : kR1  (if cc then r1 else r2) = if cc then kR1  r1 else kR1  r2 := by split <;> rfl
def kR22 (x : D) : Res D → Res Plan
  | .ok z h1 => match x, z with | .int i, .int j => rg2 i j h1 | _, _ => .bad
  | .exc c fs h1 => .exc c fs h1
  | .bad => .bad
theorem kR22_eq (x : D) (r : Res D) : kR22 x r = r.bind fun z h1 => match x, z with | .int i, .int j => rg2 i j h1 | _, _ => .bad := by cases r <;> rfl
@[simp] theorem kR22_exc (x : D) (cc : Nat) (fs : List D) (h : Hh) : kR22 x (.exc cc fs h) = .exc cc fs h := rfl
@[simp] theorem kR22_bad (x : D) : kR22 x .bad = .bad := rfl
@[simp] theorem kR22_ite (x : D) {cc : Prop} [Decidable cc] (r1 r2 : Res D) : kR22 x (if cc then r1 else r2) = if cc then kR22 x r1 else kR22 x r2 := by split <;> rfl
@[simp] theorem kR22_int (i j : Int) (h : Hh) : kR22 (.int i) (.ok (.int j) h) = rg2 i j h := rfl
def kR2 (C : Cf) (b : E) (ρ : Env) : Res D → Res Plan
  | .ok z h1 => kR22 z (evE C b ρ h1)
  | .exc c fs h1 => .exc c fs h1
  | .bad => .bad
theorem kR2_eq (C : Cf) (b : E) (ρ : Env) (r : Res D) : kR2 C b ρ r = r.bind fun z h1 => kR22 z (evE C b ρ h1) := by cases r <;> rfl
@[simp] theorem kR2_ok (C : Cf) (b : E) (ρ : Env) (z : D) (h : Hh) : kR2 C b ρ (.ok z h) = kR22 z (evE C b ρ h) := rfl
@[simp] theorem kR2_exc (C : Cf) (b : E) (ρ : Env) (cc : Nat) (fs : List D) (h : Hh) : kR2 C b ρ (.exc cc fs h) = .exc cc fs h := rfl
@[simp] theorem kR2_bad (C : Cf) (b : E) (ρ : Env) : kR2 C b ρ .bad = .bad := rfl
@[simp] theorem kR2_ite (C : Cf) (b : E) (ρ : Env) {cc : Prop} [Decidable cc] (r1 r2 : Res D) : kR2 C b ρ (if cc then r1 else r2) = if cc then kR2 C b ρ r1 else kR2 C b ρ r2 := by split <;> rfl
def kEn  : Res D → Res Plan
  | .ok z h1 => planE (items h1 z) z h1
  | .exc c fs h1 => .exc c fs h1
  | .bad => .bad
theorem kEn_eq  (r : Res D) : kEn  r = r.bind fun z h1 => planE (items h1 z) z h1 := by cases r <;> rfl
@[simp] theorem kEn_ok  (z : D) (h : Hh) : kEn  (.ok z h) = planE (items h z) z h := rfl
@[simp] theorem kEn_exc  (cc : Nat) (fs : List D) (h : Hh) : kEn  (.exc cc fs h) = .exc cc fs h := rfl
@[simp] theorem kEn_bad  : kEn  .bad = .bad := rfl
@[simp] theorem kEn_ite  {cc : Prop} [Decidable cc] (r1 r2 : Res D) : kEn  (if cc then r1 else r2) = if cc then kEn  r1 else kEn  r2 := by split <;> rfl
def kZ2 (x : D) : Res D → Res Plan
  | .ok z h1 => planZ (items h1 x) (items h1 z) x z h1
  | .exc c fs h1 => .exc c fs h1
  | .bad => .bad
theorem kZ2_eq (x : D) (r : Res D) : kZ2 x r = r.bind fun z h1 => planZ (items h1 x) (items h1 z) x z h1 := by cases r <;> rfl
@[simp] theorem kZ2_ok (x : D) (z : D) (h : Hh) : kZ2 x (.ok z h) = planZ (items h x) (items h z) x z h := rfl
@[simp] theorem kZ2_exc (x : D) (cc : Nat) (fs : List D) (h : Hh) : kZ2 x (.exc cc fs h) = .exc cc fs h := rfl
@[simp] theorem kZ2_bad (x : D) : kZ2 x .bad = .bad := rfl
@[simp] theorem kZ2_ite (x : D) {cc : Prop} [Decidable cc] (r1 r2 : Res D) : kZ2 x (if cc then r1 else r2) = if cc then kZ2 x r1 else kZ2 x r2 := by split <;> rfl
def kZ (C : Cf) (b : E) (ρ : Env) : Res D → Res Plan
  | .ok z h1 => kZ2 z (evE C b ρ h1)
  | .exc c fs h1 => .exc c fs h1
  | .bad => .bad
theorem kZ_eq (C : Cf) (b : E) (ρ : Env) (r : Res D) : kZ C b ρ r = r.bind fun z h1 => kZ2 z (evE C b ρ h1) := by cases r <;> rfl
@[simp] theorem kZ_ok (C : Cf) (b : E) (ρ : Env) (z : D) (h : Hh) : kZ C b ρ (.ok z h) = kZ2 z (evE C b ρ h) := rfl
@[simp] theorem kZ_exc (C : Cf) (b : E) (ρ : Env) (cc : Nat) (fs : List D) (h : Hh) : kZ C b ρ (.exc cc fs h) = .exc cc fs h := rfl
@[simp] theorem kZ_bad (C : Cf) (b : E) (ρ : Env) : kZ C b ρ .bad = .bad := rfl
@[simp] theorem kZ_ite (C : Cf) (b : E) (ρ : Env) {cc : Prop} [Decidable cc] (r1 r2 : Res D) : kZ C b ρ (if cc then r1 else r2) = if cc then kZ C b ρ r1 else kZ C b ρ r2 := by split <;> rfl
def kCat (C : Cf) (t : S) : SR → SR
  | .next ρ h1 => evS C t ρ h1
  | r => r
@[simp] theorem kCat_ok (C : Cf) (t : S) (ρ : Env) (h : Hh) : kCat C t (.next ρ h) = evS C t ρ h := rfl
@[simp] theorem kCat_ok1 (C : Cf) (t : S) (z : D) (h : Hh) : kCat C t (.ret z h) = .ret z h := rfl
@[simp] theorem kCat_ok2 (C : Cf) (t : S) (ρ : Env) (h : Hh) : kCat C t (.brk ρ h) = .brk ρ h := rfl
@[simp] theorem kCat_ok3 (C : Cf) (t : S) (ρ : Env) (h : Hh) : kCat C t (.cnt ρ h) = .cnt ρ h := rfl
@[simp] theorem kCat_ok4 (C : Cf) (t : S) (c : Nat) (fs : List D) (ρ : Env) (h : Hh) : kCat C t (.exc c fs ρ h) = .exc c fs ρ h := rfl
@[simp] theorem kCat_bad (C : Cf) (t : S) : kCat C t .bad = .bad := rfl
@[simp] theorem kCat_ite (C : Cf) (t : S) {cc : Prop} [Decidable cc] (r1 r2 : SR) : kCat C t (if cc then r1 else r2) = if cc then kCat C t r1 else kCat C t r2 := by split <;> rfl
def kEx (ρ : Env) : Res D → SR
  | .ok z h1 => .next ρ h1
  | .exc c fs h1 => .exc c fs ρ h1
  | .bad => .bad
theorem kEx_eq (ρ : Env) (r : Ly.Res D) : kEx ρ r = r.st ρ fun z h1 => .next ρ h1 := by cases r <;> rfl
@[simp] theorem kEx_ok (ρ : Env) (z : D) (h : Hh) : kEx ρ (.ok z h) = .next ρ h := rfl
@[simp] theorem kEx_exc (ρ : Env) (cc : Nat) (fs : List D) (h : Hh) : kEx ρ (.exc cc fs h) = .exc cc fs ρ h := rfl
@[simp] theorem kEx_bad (ρ : Env) : kEx ρ .bad = .bad := rfl
@[simp] theorem kEx_ite (ρ : Env) {cc : Prop} [Decidable cc] (r1 r2 : Res D) : kEx ρ (if cc then r1 else r2) = if cc then kEx ρ r1 else kEx ρ r2 := by split <;> rfl
def kAsg (tg : Tg) (ρ : Env) : Res D → SR
  | .ok z h1 => asgB (bindTg h1 ρ tg z) h1
  | .exc c fs h1 => .exc c fs ρ h1
  | .bad => .bad
theorem kAsg_eq (tg : Tg) (ρ : Env) (r : Ly.Res D) : kAsg tg ρ r = r.st ρ fun z h1 => asgB (bindTg h1 ρ tg z) h1 := by cases r <;> rfl
@[simp] theorem kAsg_ok (tg : Tg) (ρ : Env) (z : D) (h : Hh) : kAsg tg ρ (.ok z h) = asgB (bindTg h ρ tg z) h := rfl
@[simp] theorem kAsg_exc (tg : Tg) (ρ : Env) (cc : Nat) (fs : List D) (h : Hh) : kAsg tg ρ (.exc cc fs h) = .exc cc fs ρ h := rfl
@[simp] theorem kAsg_bad (tg : Tg) (ρ : Env) : kAsg tg ρ .bad = .bad := rfl
@[simp] theorem kAsg_ite (tg : Tg) (ρ : Env) {cc : Prop} [Decidable cc] (r1 r2 : Res D) : kAsg tg ρ (if cc then r1 else r2) = if cc then kAsg tg ρ r1 else kAsg tg ρ r2 := by split <;> rfl
def kSe3 (ρ : Env) (v : D) (x : D) : Res D → SR
  | .ok z h1 => setB ρ (setD h1 x z v)
  | .exc c fs h1 => .exc c fs ρ h1
  | .bad => .bad
theorem kSe3_eq (ρ : Env) (v : D) (x : D) (r : Ly.Res D) : kSe3 ρ v x r = r.st ρ fun z h1 => setB ρ (setD h1 x z v) := by cases r <;> rfl
@[simp] theorem kSe3_ok (ρ : Env) (v : D) (x : D) (z : D) (h : Hh) : kSe3 ρ v x (.ok z h) = setB ρ (setD h x z v) := rfl
@[simp] theorem kSe3_exc (ρ : Env) (v : D) (x : D) (cc : Nat) (fs : List D) (h : Hh) : kSe3 ρ v x (.exc cc fs h) = .exc cc fs ρ h := rfl
@[simp] theorem kSe3_bad (ρ : Env) (v : D) (x : D) : kSe3 ρ v x .bad = .bad := rfl
@[simp] theorem kSe3_ite (ρ : Env) (v : D) (x : D) {cc : Prop} [Decidable cc] (r1 r2 : Res D) : kSe3 ρ v x (if cc then r1 else r2) = if cc then kSe3 ρ v x r1 else kSe3 ρ v x r2 := by split <;> rfl
def kSe2 (C : Cf) (b : E) (ρ : Env) (v : D) : Res D → SR
  | .ok z h1 => kSe3 ρ v z (evE C b ρ h1)
  | .exc c fs h1 => .exc c fs ρ h1
  | .bad => .bad
theorem kSe2_eq (C : Cf) (b : E) (ρ : Env) (v : D) (r : Ly.Res D) : kSe2 C b ρ v r = r.st ρ fun z h1 => kSe3 ρ v z (evE C b ρ h1) := by cases r <;> rfl
@[simp] theorem kSe2_ok (C : Cf) (b : E) (ρ : Env) (v : D) (z : D) (h : Hh) : kSe2 C b ρ v (.ok z h) = kSe3 ρ v z (evE C b ρ h) := rfl
@[simp] theorem kSe2_exc (C : Cf) (b : E) (ρ : Env) (v : D) (cc : Nat) (fs : List D) (h : Hh) : kSe2 C b ρ v (.exc cc fs h) = .exc cc fs ρ h := rfl
@[simp] theorem kSe2_bad (C : Cf) (b : E) (ρ : Env) (v : D) : kSe2 C b ρ v .bad = .bad := rfl
@[simp] theorem kSe2_ite (C : Cf) (b : E) (ρ : Env) (v : D) {cc : Prop} [Decidable cc] (r1 r2 : Res D) : kSe2 C b ρ v (if cc then r1 else r2) = if cc then kSe2 C b ρ v r1 else kSe2 C b ρ v r2 := by split <;> rfl
def kSe (C : Cf) (a : E) (b : E) (ρ : Env) : Res D → SR
  | .ok z h1 => kSe2 C b ρ z (evE C a ρ h1)
  | .exc c fs h1 => .exc c fs ρ h1
  | .bad => .bad
theorem kSe_eq (C : Cf) (a : E) (b : E) (ρ : Env) (r : Ly.Res D) : kSe C a b ρ r = r.st ρ fun z h1 => kSe2 C b ρ z (evE C a ρ h1) := by cases r <;> rfl
@[simp] theorem kSe_ok (C : Cf) (a : E) (b : E) (ρ : Env) (z : D) (h : Hh) : kSe C a b ρ (.ok z h) = kSe2 C b ρ z (evE C a ρ h) := rfl
@[simp] theorem kSe_exc (C : Cf) (a : E) (b : E) (ρ : Env) (cc : Nat) (fs : List D) (h : Hh) : kSe C a b ρ (.exc cc fs h) = .exc cc fs ρ h := rfl
@[simp] theorem kSe_bad (C : Cf) (a : E) (b : E) (ρ : Env) : kSe C a b ρ .bad = .bad := rfl
@[simp] theorem kSe_ite (C : Cf) (a : E) (b : E) (ρ : Env) {cc : Prop} [Decidable cc] (r1 r2 : Res D) : kSe C a b ρ (if cc then r1 else r2) = if cc then kSe C a b ρ r1 else kSe C a b ρ r2 := by split <;> rfl
def kAu (i : Nat) (o : BOp) (x : D) (ρ : Env) : Res D → SR
  | .ok z h1 => augB' ρ i (augD o x z) h1
  | .exc c fs h1 => .exc c fs ρ h1
  | .bad => .bad
theorem kAu_eq (i : Nat) (o : BOp) (x : D) (ρ : Env) (r : Ly.Res D) : kAu i o x ρ r = r.st ρ fun z h1 => augB' ρ i (augD o x z) h1 := by cases r <;> rfl
@[simp] theorem kAu_ok (i : Nat) (o : BOp) (x : D) (ρ : Env) (z : D) (h : Hh) : kAu i o x ρ (.ok z h) = augB' ρ i (augD o x z) h := rfl
@[simp] theorem kAu_exc (i : Nat) (o : BOp) (x : D) (ρ : Env) (cc : Nat) (fs : List D) (h : Hh) : kAu i o x ρ (.exc cc fs h) = .exc cc fs ρ h := rfl
@[simp] theorem kAu_bad (i : Nat) (o : BOp) (x : D) (ρ : Env) : kAu i o x ρ .bad = .bad := rfl
@[simp] theorem kAu_ite (i : Nat) (o : BOp) (x : D) (ρ : Env) {cc : Prop} [Decidable cc] (r1 r2 : Res D) : kAu i o x ρ (if cc then r1 else r2) = if cc then kAu i o x ρ r1 else kAu i o x ρ r2 := by split <;> rfl
def kRet (ρ : Env) : Res D → SR
  | .ok z h1 => .ret z h1
  | .exc c fs h1 => .exc c fs ρ h1
  | .bad => .bad
theorem kRet_eq (ρ : Env) (r : Ly.Res D) : kRet ρ r = r.st ρ fun z h1 => .ret z h1 := by cases r <;> rfl
@[simp] theorem kRet_ok (ρ : Env) (z : D) (h : Hh) : kRet ρ (.ok z h) = .ret z h := rfl
@[simp] theorem kRet_exc (ρ : Env) (cc : Nat) (fs : List D) (h : Hh) : kRet ρ (.exc cc fs h) = .exc cc fs ρ h := rfl
@[simp] theorem kRet_bad (ρ : Env) : kRet ρ .bad = .bad := rfl
@[simp] theorem kRet_ite (ρ : Env) {cc : Prop} [Decidable cc] (r1 r2 : Res D) : kRet ρ (if cc then r1 else r2) = if cc then kRet ρ r1 else kRet ρ r2 := by split <;> rfl
def kIf (C : Cf) (s : S) (t : S) (ρ : Env) : Res D → SR
  | .ok z h1 => match truth h1 z with | some true => evS C s ρ h1 | some false => evS C t ρ h1 | none => .bad
  | .exc c fs h1 => .exc c fs ρ h1
  | .bad => .bad
theorem kIf_eq (C : Cf) (s : S) (t : S) (ρ : Env) (r : Ly.Res D) : kIf C s t ρ r = r.st ρ fun z h1 => match truth h1 z with | some true => evS C s ρ h1 | some false => evS C t ρ h1 | none => .bad := by cases r <;> rfl
@[simp] theorem kIf_ok (C : Cf) (s : S) (t : S) (ρ : Env) (t2 : Bool) (h : Hh) : kIf C s t ρ (.ok (.bl t2) h) = if t2 then evS C s ρ h else evS C t ρ h := by cases t2 <;> rfl
@[simp] theorem kIf_exc (C : Cf) (s : S) (t : S) (ρ : Env) (cc : Nat) (fs : List D) (h : Hh) : kIf C s t ρ (.exc cc fs h) = .exc cc fs ρ h := rfl
@[simp] theorem kIf_bad (C : Cf) (s : S) (t : S) (ρ : Env) : kIf C s t ρ .bad = .bad := rfl
@[simp] theorem kIf_ite (C : Cf) (s : S) (t : S) (ρ : Env) {cc : Prop} [Decidable cc] (r1 r2 : Res D) : kIf C s t ρ (if cc then r1 else r2) = if cc then kIf C s t ρ r1 else kIf C s t ρ r2 := by split <;> rfl
def forK (ρ : Env) (fb : D → Env → Hh → SR) : Res Plan → SR
  | .ok z h1 => forL z.ok fb z.its ρ h1
  | .exc c fs h1 => .exc c fs ρ h1
  | .bad => .bad
theorem forK_eq (ρ : Env) (fb : D → Env → Hh → SR) (r : Ly.Res Plan) : forK ρ fb r = (match r with | .ok z h1 => forL z.ok fb z.its ρ h1 | .exc c fs h1 => .exc c fs ρ h1 | .bad => .bad) := by cases r <;> rfl
@[simp] theorem forK_ok (ρ : Env) (fb : D → Env → Hh → SR) (z : Plan) (h : Hh) : forK ρ fb (.ok z h) = forL z.ok fb z.its ρ h := rfl
@[simp] theorem forK_exc (ρ : Env) (fb : D → Env → Hh → SR) (cc : Nat) (fs : List D) (h : Hh) : forK ρ fb (.exc cc fs h) = .exc cc fs ρ h := rfl
@[simp] theorem forK_bad (ρ : Env) (fb : D → Env → Hh → SR) : forK ρ fb .bad = .bad := rfl
@[simp] theorem forK_ite (ρ : Env) (fb : D → Env → Hh → SR) {cc : Prop} [Decidable cc] (r1 r2 : Res Plan) : forK ρ fb (if cc then r1 else r2) = if cc then forK ρ fb r1 else forK ρ fb r2 := by split <;> rfl
def kWh2 (C : Cf) (c : E) (s : S) (n : Nat) : SR → SR
  | .next ρ h => whl C c s n ρ h
  | .cnt ρ h => whl C c s n ρ h
  | .brk ρ h => .next ρ h
  | r => r
@[simp] theorem kWh2_next (C : Cf) (c : E) (s : S) (n : Nat) (ρ : Env) (h : Hh) : kWh2 C c s n (.next ρ h) = whl C c s n ρ h := rfl
@[simp] theorem kWh2_cnt (C : Cf) (c : E) (s : S) (n : Nat) (ρ : Env) (h : Hh) : kWh2 C c s n (.cnt ρ h) = whl C c s n ρ h := rfl
@[simp] theorem kWh2_brk (C : Cf) (c : E) (s : S) (n : Nat) (ρ : Env) (h : Hh) : kWh2 C c s n (.brk ρ h) = .next ρ h := rfl
@[simp] theorem kWh2_ret (C : Cf) (c : E) (s : S) (n : Nat) (z : D) (h : Hh) : kWh2 C c s n (.ret z h) = .ret z h := rfl
@[simp] theorem kWh2_bad (C : Cf) (c : E) (s : S) (n : Nat) : kWh2 C c s n .bad = .bad := rfl
@[simp] theorem kWh2_ite (C : Cf) (c : E) (s : S) (n : Nat) {cc : Prop} [Decidable cc] (r1 r2 : SR) : kWh2 C c s n (if cc then r1 else r2) = if cc then kWh2 C c s n r1 else kWh2 C c s n r2 := by split <;> rfl
def kWh (C : Cf) (c : E) (s : S) (n : Nat) (ρ : Env) : Res D → SR
  | .ok z h1 => match truth h1 z with | some true => kWh2 C c s n (evS C s ρ h1) | some false => .next ρ h1 | none => .bad
  | .exc c fs h1 => .exc c fs ρ h1
  | .bad => .bad
theorem kWh_eq (C : Cf) (c : E) (s : S) (n : Nat) (ρ : Env) (r : Ly.Res D) : kWh C c s n ρ r = r.st ρ fun z h1 => match truth h1 z with | some true => kWh2 C c s n (evS C s ρ h1) | some false => .next ρ h1 | none => .bad := by cases r <;> rfl
@[simp] theorem kWh_ok (C : Cf) (c : E) (s : S) (n : Nat) (ρ : Env) (t2 : Bool) (h : Hh) : kWh C c s n ρ (.ok (.bl t2) h) = if t2 then kWh2 C c s n (evS C s ρ h) else .next ρ h := by cases t2 <;> rfl
@[simp] theorem kWh_exc (C : Cf) (c : E) (s : S) (n : Nat) (ρ : Env) (cc : Nat) (fs : List D) (h : Hh) : kWh C c s n ρ (.exc cc fs h) = .exc cc fs ρ h := rfl
@[simp] theorem kWh_bad (C : Cf) (c : E) (s : S) (n : Nat) (ρ : Env) : kWh C c s n ρ .bad = .bad := rfl
@[simp] theorem kWh_ite (C : Cf) (c : E) (s : S) (n : Nat) (ρ : Env) {cc : Prop} [Decidable cc] (r1 r2 : Res D) : kWh C c s n ρ (if cc then r1 else r2) = if cc then kWh C c s n ρ r1 else kWh C c s n ρ r2 := by split <;> rfl
def kCt2  : Res D → Res (Option D)
  | .ok z h1 => .ok (some z) h1
  | .exc c fs h1 => .exc c fs h1
  | .bad => .bad
theorem kCt2_eq  (r : Res D) : kCt2  r = r.bind fun z h1 => .ok (some z) h1 := by cases r <;> rfl
@[simp] theorem kCt2_ok  (z : D) (h : Hh) : kCt2  (.ok z h) = .ok (some z) h := rfl
@[simp] theorem kCt2_exc  (cc : Nat) (fs : List D) (h : Hh) : kCt2  (.exc cc fs h) = .exc cc fs h := rfl
@[simp] theorem kCt2_bad  : kCt2  .bad = .bad := rfl
@[simp] theorem kCt2_ite  {cc : Prop} [Decidable cc] (r1 r2 : Res D) : kCt2  (if cc then r1 else r2) = if cc then kCt2  r1 else kCt2  r2 := by split <;> rfl
@[simp] theorem lc_ok (ys : List D) (h : Hh) : lcOf (.ok ys h) = if ys.length ≤ sizeLine then .ok (.ref h.length) (h ++ [.lst ys]) else .bad := rfl
@[simp] theorem lc_bad : lcOf .bad = .bad := rfl
def kCt (C : Cf) (e : E) (ρ : Env) : Res D → Res (Option D)
  | .ok z h1 => match truth h1 z with
    | some true => kCt2 (evE C e ρ h1).nx
    | some false => .ok none h1
    | none => .bad
  | _ => .bad
@[simp] theorem kCt_ok (C : Cf) (e : E) (ρ : Env) (t : Bool) (h : Hh) : kCt C e ρ (.ok (.bl t) h) = if t then kCt2 (evE C e ρ h).nx else .ok none h := by cases t <;> rfl
@[simp] theorem kCt_bad (C : Cf) (e : E) (ρ : Env) : kCt C e ρ .bad = .bad := rfl
@[simp] theorem kCt_ite (C : Cf) (e : E) (ρ : Env) {cc : Prop} [Decidable cc] (r1 r2 : Res D) : kCt C e ρ (if cc then r1 else r2) = if cc then kCt C e ρ r1 else kCt C e ρ r2 := by split <;> rfl
theorem compT_eq (C : Cf) (ρ ρ1 : Env) (c e : E) (own : List Nat) (tg : Tg) (x : D) (h : Hh) (eb : bindTg h (wipeD ρ own) tg x = some ρ1) : compT C ρ c e own tg x h = kCt C e ρ1 (evE C c ρ1 h) := by
  unfold compT
  rw [eb]
  simp only
  cases evE C c ρ1 h with
  | ok z h1 =>
    simp only [Res.ok_nx, Res.tr, Res.ok_bind, kCt]
    cases truth h1 z with
    | some t =>
      cases t with
      | true =>
        simp only [if_true]
        cases (evE C e ρ1 h1) <;> rfl
      | false => rfl
    | none => rfl
  | exc => rfl
  | bad => rfl
theorem compT_name (C : Cf) (ρ : Env) (c e : E) (own : List Nat) (i : Nat) (x : D) (h : Hh) : compT C ρ c e own (.name i) x h = kCt C e ((wipeD ρ own).set i (some x)) (evE C c ((wipeD ρ own).set i (some x)) h) := compT_eq C ρ _ c e own _ x h rfl
theorem forB_name (C : Cf) (s : S) (i : Nat) (x : D) (ρ : Env) (h : Hh) : forB C s (.name i) x ρ h = evS C s (ρ.set i (some x)) h := rfl
theorem forB_eq (C : Cf) (s : S) (tg : Tg) (x : D) (ρ ρ1 : Env) (h : Hh) (eb : bindTg h ρ tg x = some ρ1) : forB C s tg x ρ h = evS C s ρ1 h := by unfold forB; rw [eb]
section
variable (C : Cf) (ρ : Env) (h : Hh) (a b c e as lo hi it : E) (s t : S)
@[simp] theorem e_bin (o : BOp) : evE C (.bin o a b) ρ h = kBin C o b ρ (evE C a ρ h) := by
  (simp only [evE]) <;> first
    | rfl
    | (cases evE C a ρ h <;> rfl)
    | ((simp only [kBin2_eq, kBin_eq, kNeg_eq, kNot_eq, kCmp2_eq, kCmp_eq, kCh3_eq, kCh2_eq, kCh_eq, kIsN_eq, kIsNN_eq, kAnd_eq, kOr_eq, kIte_eq, kTup_eq, kLst_eq, kIdx2_eq, kIdx_eq, kSl3_eq, kSl2_eq, kSl_eq, kCall_eq, kBi_eq, kIsi_eq, kMe2_eq, kMe_eq, kLc_eq, kAc2_eq, kAc_eq, kOpt_eq, kSeq_eq, kR1_eq, kR22_eq, kR2_eq, kEn_eq, kZ2_eq, kZ_eq, kEx_eq, kAsg_eq, kSe3_eq, kSe2_eq, kSe_eq, kRet_eq]) <;> rfl)
@[simp] theorem e_neg  : evE C (.neg a) ρ h = kNeg (evE C a ρ h) := by
  (simp only [evE]) <;> first
    | rfl
    | (cases evE C a ρ h <;> rfl)
    | ((simp only [kBin2_eq, kBin_eq, kNeg_eq, kNot_eq, kCmp2_eq, kCmp_eq, kCh3_eq, kCh2_eq, kCh_eq, kIsN_eq, kIsNN_eq, kAnd_eq, kOr_eq, kIte_eq, kTup_eq, kLst_eq, kIdx2_eq, kIdx_eq, kSl3_eq, kSl2_eq, kSl_eq, kCall_eq, kBi_eq, kIsi_eq, kMe2_eq, kMe_eq, kLc_eq, kAc2_eq, kAc_eq, kOpt_eq, kSeq_eq, kR1_eq, kR22_eq, kR2_eq, kEn_eq, kZ2_eq, kZ_eq, kEx_eq, kAsg_eq, kSe3_eq, kSe2_eq, kSe_eq, kRet_eq]) <;> rfl)
@[simp] theorem e_not  : evE C (.not a) ρ h = kNot (evE C a ρ h) := by
  (simp only [evE]) <;> first
    | rfl
    | (cases evE C a ρ h <;> rfl)
    | ((simp only [kBin2_eq, kBin_eq, kNeg_eq, kNot_eq, kCmp2_eq, kCmp_eq, kCh3_eq, kCh2_eq, kCh_eq, kIsN_eq, kIsNN_eq, kAnd_eq, kOr_eq, kIte_eq, kTup_eq, kLst_eq, kIdx2_eq, kIdx_eq, kSl3_eq, kSl2_eq, kSl_eq, kCall_eq, kBi_eq, kIsi_eq, kMe2_eq, kMe_eq, kLc_eq, kAc2_eq, kAc_eq, kOpt_eq, kSeq_eq, kR1_eq, kR22_eq, kR2_eq, kEn_eq, kZ2_eq, kZ_eq, kEx_eq, kAsg_eq, kSe3_eq, kSe2_eq, kSe_eq, kRet_eq]) <;> rfl)
@[simp] theorem e_cmp (o : COp) : evE C (.cmp o a b) ρ h = kCmp C o b ρ (evE C a ρ h) := by
  (simp only [evE]) <;> first
    | rfl
    | (cases evE C a ρ h <;> rfl)
    | ((simp only [kBin2_eq, kBin_eq, kNeg_eq, kNot_eq, kCmp2_eq, kCmp_eq, kCh3_eq, kCh2_eq, kCh_eq, kIsN_eq, kIsNN_eq, kAnd_eq, kOr_eq, kIte_eq, kTup_eq, kLst_eq, kIdx2_eq, kIdx_eq, kSl3_eq, kSl2_eq, kSl_eq, kCall_eq, kBi_eq, kIsi_eq, kMe2_eq, kMe_eq, kLc_eq, kAc2_eq, kAc_eq, kOpt_eq, kSeq_eq, kR1_eq, kR22_eq, kR2_eq, kEn_eq, kZ2_eq, kZ_eq, kEx_eq, kAsg_eq, kSe3_eq, kSe2_eq, kSe_eq, kRet_eq]) <;> rfl)
@[simp] theorem e_cmp2 (o p : COp) : evE C (.cmp2 o p a b c) ρ h = kCh C o p b c ρ (evE C a ρ h) := by
  (simp only [evE]) <;> first
    | rfl
    | (cases evE C a ρ h <;> rfl)
    | ((simp only [kBin2_eq, kBin_eq, kNeg_eq, kNot_eq, kCmp2_eq, kCmp_eq, kCh3_eq, kCh2_eq, kCh_eq, kIsN_eq, kIsNN_eq, kAnd_eq, kOr_eq, kIte_eq, kTup_eq, kLst_eq, kIdx2_eq, kIdx_eq, kSl3_eq, kSl2_eq, kSl_eq, kCall_eq, kBi_eq, kIsi_eq, kMe2_eq, kMe_eq, kLc_eq, kAc2_eq, kAc_eq, kOpt_eq, kSeq_eq, kR1_eq, kR22_eq, kR2_eq, kEn_eq, kZ2_eq, kZ_eq, kEx_eq, kAsg_eq, kSe3_eq, kSe2_eq, kSe_eq, kRet_eq]) <;> rfl)
@[simp] theorem e_isN  : evE C (.isN a) ρ h = kIsN (evE C a ρ h) := by
  (simp only [evE]) <;> first
    | rfl
    | (cases evE C a ρ h <;> rfl)
    | ((simp only [kBin2_eq, kBin_eq, kNeg_eq, kNot_eq, kCmp2_eq, kCmp_eq, kCh3_eq, kCh2_eq, kCh_eq, kIsN_eq, kIsNN_eq, kAnd_eq, kOr_eq, kIte_eq, kTup_eq, kLst_eq, kIdx2_eq, kIdx_eq, kSl3_eq, kSl2_eq, kSl_eq, kCall_eq, kBi_eq, kIsi_eq, kMe2_eq, kMe_eq, kLc_eq, kAc2_eq, kAc_eq, kOpt_eq, kSeq_eq, kR1_eq, kR22_eq, kR2_eq, kEn_eq, kZ2_eq, kZ_eq, kEx_eq, kAsg_eq, kSe3_eq, kSe2_eq, kSe_eq, kRet_eq]) <;> rfl)
@[simp] theorem e_isNN  : evE C (.isNN a) ρ h = kIsNN (evE C a ρ h) := by
  (simp only [evE]) <;> first
    | rfl
    | (cases evE C a ρ h <;> rfl)
    | ((simp only [kBin2_eq, kBin_eq, kNeg_eq, kNot_eq, kCmp2_eq, kCmp_eq, kCh3_eq, kCh2_eq, kCh_eq, kIsN_eq, kIsNN_eq, kAnd_eq, kOr_eq, kIte_eq, kTup_eq, kLst_eq, kIdx2_eq, kIdx_eq, kSl3_eq, kSl2_eq, kSl_eq, kCall_eq, kBi_eq, kIsi_eq, kMe2_eq, kMe_eq, kLc_eq, kAc2_eq, kAc_eq, kOpt_eq, kSeq_eq, kR1_eq, kR22_eq, kR2_eq, kEn_eq, kZ2_eq, kZ_eq, kEx_eq, kAsg_eq, kSe3_eq, kSe2_eq, kSe_eq, kRet_eq]) <;> rfl)
@[simp] theorem e_and  : evE C (.and a b) ρ h = kAnd C b ρ (evE C a ρ h) := by
  (simp only [evE]) <;> first
    | rfl
    | (cases evE C a ρ h <;> rfl)
    | ((simp only [kBin2_eq, kBin_eq, kNeg_eq, kNot_eq, kCmp2_eq, kCmp_eq, kCh3_eq, kCh2_eq, kCh_eq, kIsN_eq, kIsNN_eq, kAnd_eq, kOr_eq, kIte_eq, kTup_eq, kLst_eq, kIdx2_eq, kIdx_eq, kSl3_eq, kSl2_eq, kSl_eq, kCall_eq, kBi_eq, kIsi_eq, kMe2_eq, kMe_eq, kLc_eq, kAc2_eq, kAc_eq, kOpt_eq, kSeq_eq, kR1_eq, kR22_eq, kR2_eq, kEn_eq, kZ2_eq, kZ_eq, kEx_eq, kAsg_eq, kSe3_eq, kSe2_eq, kSe_eq, kRet_eq]) <;> rfl)
@[simp] theorem e_or  : evE C (.or a b) ρ h = kOr C b ρ (evE C a ρ h) := by
  (simp only [evE]) <;> first
    | rfl
    | (cases evE C a ρ h <;> rfl)
    | ((simp only [kBin2_eq, kBin_eq, kNeg_eq, kNot_eq, kCmp2_eq, kCmp_eq, kCh3_eq, kCh2_eq, kCh_eq, kIsN_eq, kIsNN_eq, kAnd_eq, kOr_eq, kIte_eq, kTup_eq, kLst_eq, kIdx2_eq, kIdx_eq, kSl3_eq, kSl2_eq, kSl_eq, kCall_eq, kBi_eq, kIsi_eq, kMe2_eq, kMe_eq, kLc_eq, kAc2_eq, kAc_eq, kOpt_eq, kSeq_eq, kR1_eq, kR22_eq, kR2_eq, kEn_eq, kZ2_eq, kZ_eq, kEx_eq, kAsg_eq, kSe3_eq, kSe2_eq, kSe_eq, kRet_eq]) <;> rfl)
@[simp] theorem e_ite  : evE C (.ite c a b) ρ h = kIte C a b ρ (evE C c ρ h) := by
  (simp only [evE]) <;> first
    | rfl
    | (cases evE C a ρ h <;> rfl)
    | ((simp only [kBin2_eq, kBin_eq, kNeg_eq, kNot_eq, kCmp2_eq, kCmp_eq, kCh3_eq, kCh2_eq, kCh_eq, kIsN_eq, kIsNN_eq, kAnd_eq, kOr_eq, kIte_eq, kTup_eq, kLst_eq, kIdx2_eq, kIdx_eq, kSl3_eq, kSl2_eq, kSl_eq, kCall_eq, kBi_eq, kIsi_eq, kMe2_eq, kMe_eq, kLc_eq, kAc2_eq, kAc_eq, kOpt_eq, kSeq_eq, kR1_eq, kR22_eq, kR2_eq, kEn_eq, kZ2_eq, kZ_eq, kEx_eq, kAsg_eq, kSe3_eq, kSe2_eq, kSe_eq, kRet_eq]) <;> rfl)
@[simp] theorem e_tup  : evE C (.tup as) ρ h = kTup (evA C as ρ h) := by
  (simp only [evE]) <;> first
    | rfl
    | (cases evE C a ρ h <;> rfl)
    | ((simp only [kBin2_eq, kBin_eq, kNeg_eq, kNot_eq, kCmp2_eq, kCmp_eq, kCh3_eq, kCh2_eq, kCh_eq, kIsN_eq, kIsNN_eq, kAnd_eq, kOr_eq, kIte_eq, kTup_eq, kLst_eq, kIdx2_eq, kIdx_eq, kSl3_eq, kSl2_eq, kSl_eq, kCall_eq, kBi_eq, kIsi_eq, kMe2_eq, kMe_eq, kLc_eq, kAc2_eq, kAc_eq, kOpt_eq, kSeq_eq, kR1_eq, kR22_eq, kR2_eq, kEn_eq, kZ2_eq, kZ_eq, kEx_eq, kAsg_eq, kSe3_eq, kSe2_eq, kSe_eq, kRet_eq]) <;> rfl)
@[simp] theorem e_lst  : evE C (.lst as) ρ h = kLst (evA C as ρ h) := by
  (simp only [evE]) <;> first
    | rfl
    | (cases evE C a ρ h <;> rfl)
    | ((simp only [kBin2_eq, kBin_eq, kNeg_eq, kNot_eq, kCmp2_eq, kCmp_eq, kCh3_eq, kCh2_eq, kCh_eq, kIsN_eq, kIsNN_eq, kAnd_eq, kOr_eq, kIte_eq, kTup_eq, kLst_eq, kIdx2_eq, kIdx_eq, kSl3_eq, kSl2_eq, kSl_eq, kCall_eq, kBi_eq, kIsi_eq, kMe2_eq, kMe_eq, kLc_eq, kAc2_eq, kAc_eq, kOpt_eq, kSeq_eq, kR1_eq, kR22_eq, kR2_eq, kEn_eq, kZ2_eq, kZ_eq, kEx_eq, kAsg_eq, kSe3_eq, kSe2_eq, kSe_eq, kRet_eq]) <;> rfl)
@[simp] theorem e_idx  : evE C (.idx a b) ρ h = kIdx C b ρ (evE C a ρ h) := by
  (simp only [evE]) <;> first
    | rfl
    | (cases evE C a ρ h <;> rfl)
    | ((simp only [kBin2_eq, kBin_eq, kNeg_eq, kNot_eq, kCmp2_eq, kCmp_eq, kCh3_eq, kCh2_eq, kCh_eq, kIsN_eq, kIsNN_eq, kAnd_eq, kOr_eq, kIte_eq, kTup_eq, kLst_eq, kIdx2_eq, kIdx_eq, kSl3_eq, kSl2_eq, kSl_eq, kCall_eq, kBi_eq, kIsi_eq, kMe2_eq, kMe_eq, kLc_eq, kAc2_eq, kAc_eq, kOpt_eq, kSeq_eq, kR1_eq, kR22_eq, kR2_eq, kEn_eq, kZ2_eq, kZ_eq, kEx_eq, kAsg_eq, kSe3_eq, kSe2_eq, kSe_eq, kRet_eq]) <;> rfl)
@[simp] theorem e_slc  : evE C (.slc a lo hi) ρ h = kSl C lo hi ρ (evE C a ρ h) := by
  (simp only [evE]) <;> first
    | rfl
    | (cases evE C a ρ h <;> rfl)
    | ((simp only [kBin2_eq, kBin_eq, kNeg_eq, kNot_eq, kCmp2_eq, kCmp_eq, kCh3_eq, kCh2_eq, kCh_eq, kIsN_eq, kIsNN_eq, kAnd_eq, kOr_eq, kIte_eq, kTup_eq, kLst_eq, kIdx2_eq, kIdx_eq, kSl3_eq, kSl2_eq, kSl_eq, kCall_eq, kBi_eq, kIsi_eq, kMe2_eq, kMe_eq, kLc_eq, kAc2_eq, kAc_eq, kOpt_eq, kSeq_eq, kR1_eq, kR22_eq, kR2_eq, kEn_eq, kZ2_eq, kZ_eq, kEx_eq, kAsg_eq, kSe3_eq, kSe2_eq, kSe_eq, kRet_eq]) <;> rfl)
@[simp] theorem e_call (f : Nat) : evE C (.call f as) ρ h = kCall C f (evA C as ρ h) := by
  (simp only [evE]) <;> first
    | rfl
    | (cases evE C a ρ h <;> rfl)
    | ((simp only [kBin2_eq, kBin_eq, kNeg_eq, kNot_eq, kCmp2_eq, kCmp_eq, kCh3_eq, kCh2_eq, kCh_eq, kIsN_eq, kIsNN_eq, kAnd_eq, kOr_eq, kIte_eq, kTup_eq, kLst_eq, kIdx2_eq, kIdx_eq, kSl3_eq, kSl2_eq, kSl_eq, kCall_eq, kBi_eq, kIsi_eq, kMe2_eq, kMe_eq, kLc_eq, kAc2_eq, kAc_eq, kOpt_eq, kSeq_eq, kR1_eq, kR22_eq, kR2_eq, kEn_eq, kZ2_eq, kZ_eq, kEx_eq, kAsg_eq, kSe3_eq, kSe2_eq, kSe_eq, kRet_eq]) <;> rfl)
@[simp] theorem e_bi (f : BI) : evE C (.bi f as) ρ h = kBi f (evA C as ρ h) := by
  (simp only [evE]) <;> first
    | rfl
    | (cases evE C a ρ h <;> rfl)
    | ((simp only [kBin2_eq, kBin_eq, kNeg_eq, kNot_eq, kCmp2_eq, kCmp_eq, kCh3_eq, kCh2_eq, kCh_eq, kIsN_eq, kIsNN_eq, kAnd_eq, kOr_eq, kIte_eq, kTup_eq, kLst_eq, kIdx2_eq, kIdx_eq, kSl3_eq, kSl2_eq, kSl_eq, kCall_eq, kBi_eq, kIsi_eq, kMe2_eq, kMe_eq, kLc_eq, kAc2_eq, kAc_eq, kOpt_eq, kSeq_eq, kR1_eq, kR22_eq, kR2_eq, kEn_eq, kZ2_eq, kZ_eq, kEx_eq, kAsg_eq, kSe3_eq, kSe2_eq, kSe_eq, kRet_eq]) <;> rfl)
@[simp] theorem e_isi (f : Ty) : evE C (.isi a f) ρ h = kIsi f (evE C a ρ h) := by
  (simp only [evE]) <;> first
    | rfl
    | (cases evE C a ρ h <;> rfl)
    | ((simp only [kBin2_eq, kBin_eq, kNeg_eq, kNot_eq, kCmp2_eq, kCmp_eq, kCh3_eq, kCh2_eq, kCh_eq, kIsN_eq, kIsNN_eq, kAnd_eq, kOr_eq, kIte_eq, kTup_eq, kLst_eq, kIdx2_eq, kIdx_eq, kSl3_eq, kSl2_eq, kSl_eq, kCall_eq, kBi_eq, kIsi_eq, kMe2_eq, kMe_eq, kLc_eq, kAc2_eq, kAc_eq, kOpt_eq, kSeq_eq, kR1_eq, kR22_eq, kR2_eq, kEn_eq, kZ2_eq, kZ_eq, kEx_eq, kAsg_eq, kSe3_eq, kSe2_eq, kSe_eq, kRet_eq]) <;> rfl)
@[simp] theorem e_meth (m : Mt) : evE C (.meth m a as) ρ h = kMe C m as ρ (evE C a ρ h) := by
  (simp only [evE]) <;> first
    | rfl
    | (cases evE C a ρ h <;> rfl)
    | ((simp only [kBin2_eq, kBin_eq, kNeg_eq, kNot_eq, kCmp2_eq, kCmp_eq, kCh3_eq, kCh2_eq, kCh_eq, kIsN_eq, kIsNN_eq, kAnd_eq, kOr_eq, kIte_eq, kTup_eq, kLst_eq, kIdx2_eq, kIdx_eq, kSl3_eq, kSl2_eq, kSl_eq, kCall_eq, kBi_eq, kIsi_eq, kMe2_eq, kMe_eq, kLc_eq, kAc2_eq, kAc_eq, kOpt_eq, kSeq_eq, kR1_eq, kR22_eq, kR2_eq, kEn_eq, kZ2_eq, kZ_eq, kEx_eq, kAsg_eq, kSe3_eq, kSe2_eq, kSe_eq, kRet_eq]) <;> rfl)
@[simp] theorem e_comp (own : List Nat) (tg : Tg) : evE C (.comp own tg it c e) ρ h = kLc C own tg c e ρ (evI C it ρ h) := by
  simp only [evE, kLc_eq, lcOf, compT] <;> rfl
@[simp] theorem a_cons  : evA C (.cons a as) ρ h = kAc C as ρ (evE C a ρ h) := by
  (simp only [evA]) <;> first
    | rfl
    | (cases evE C a ρ h <;> rfl)
    | ((simp only [kBin2_eq, kBin_eq, kNeg_eq, kNot_eq, kCmp2_eq, kCmp_eq, kCh3_eq, kCh2_eq, kCh_eq, kIsN_eq, kIsNN_eq, kAnd_eq, kOr_eq, kIte_eq, kTup_eq, kLst_eq, kIdx2_eq, kIdx_eq, kSl3_eq, kSl2_eq, kSl_eq, kCall_eq, kBi_eq, kIsi_eq, kMe2_eq, kMe_eq, kLc_eq, kAc2_eq, kAc_eq, kOpt_eq, kSeq_eq, kR1_eq, kR22_eq, kR2_eq, kEn_eq, kZ2_eq, kZ_eq, kEx_eq, kAsg_eq, kSe3_eq, kSe2_eq, kSe_eq, kRet_eq]) <;> rfl)
@[simp] theorem o_opt  : evO C (.opt a) ρ h = kOpt (evE C a ρ h) := by
  (simp only [evO]) <;> first
    | rfl
    | (cases evE C a ρ h <;> rfl)
    | ((simp only [kBin2_eq, kBin_eq, kNeg_eq, kNot_eq, kCmp2_eq, kCmp_eq, kCh3_eq, kCh2_eq, kCh_eq, kIsN_eq, kIsNN_eq, kAnd_eq, kOr_eq, kIte_eq, kTup_eq, kLst_eq, kIdx2_eq, kIdx_eq, kSl3_eq, kSl2_eq, kSl_eq, kCall_eq, kBi_eq, kIsi_eq, kMe2_eq, kMe_eq, kLc_eq, kAc2_eq, kAc_eq, kOpt_eq, kSeq_eq, kR1_eq, kR22_eq, kR2_eq, kEn_eq, kZ2_eq, kZ_eq, kEx_eq, kAsg_eq, kSe3_eq, kSe2_eq, kSe_eq, kRet_eq]) <;> rfl)
@[simp] theorem i_seq  : evI C (.seq a) ρ h = kSeq (evE C a ρ h) := by
  (simp only [evI]) <;> first
    | rfl
    | (cases evE C a ρ h <;> rfl)
    | ((simp only [kBin2_eq, kBin_eq, kNeg_eq, kNot_eq, kCmp2_eq, kCmp_eq, kCh3_eq, kCh2_eq, kCh_eq, kIsN_eq, kIsNN_eq, kAnd_eq, kOr_eq, kIte_eq, kTup_eq, kLst_eq, kIdx2_eq, kIdx_eq, kSl3_eq, kSl2_eq, kSl_eq, kCall_eq, kBi_eq, kIsi_eq, kMe2_eq, kMe_eq, kLc_eq, kAc2_eq, kAc_eq, kOpt_eq, kSeq_eq, kR1_eq, kR22_eq, kR2_eq, kEn_eq, kZ2_eq, kZ_eq, kEx_eq, kAsg_eq, kSe3_eq, kSe2_eq, kSe_eq, kRet_eq]) <;> rfl)
@[simp] theorem i_rng1  : evI C (.rng1 a) ρ h = kR1 (evE C a ρ h) := by
  (simp only [evI]) <;> first
    | rfl
    | (cases evE C a ρ h <;> rfl)
    | ((simp only [kBin2_eq, kBin_eq, kNeg_eq, kNot_eq, kCmp2_eq, kCmp_eq, kCh3_eq, kCh2_eq, kCh_eq, kIsN_eq, kIsNN_eq, kAnd_eq, kOr_eq, kIte_eq, kTup_eq, kLst_eq, kIdx2_eq, kIdx_eq, kSl3_eq, kSl2_eq, kSl_eq, kCall_eq, kBi_eq, kIsi_eq, kMe2_eq, kMe_eq, kLc_eq, kAc2_eq, kAc_eq, kOpt_eq, kSeq_eq, kR1_eq, kR22_eq, kR2_eq, kEn_eq, kZ2_eq, kZ_eq, kEx_eq, kAsg_eq, kSe3_eq, kSe2_eq, kSe_eq, kRet_eq]) <;> rfl)
@[simp] theorem i_rng2  : evI C (.rng2 a b) ρ h = kR2 C b ρ (evE C a ρ h) := by
  (simp only [evI]) <;> first
    | rfl
    | (cases evE C a ρ h <;> rfl)
    | ((simp only [kBin2_eq, kBin_eq, kNeg_eq, kNot_eq, kCmp2_eq, kCmp_eq, kCh3_eq, kCh2_eq, kCh_eq, kIsN_eq, kIsNN_eq, kAnd_eq, kOr_eq, kIte_eq, kTup_eq, kLst_eq, kIdx2_eq, kIdx_eq, kSl3_eq, kSl2_eq, kSl_eq, kCall_eq, kBi_eq, kIsi_eq, kMe2_eq, kMe_eq, kLc_eq, kAc2_eq, kAc_eq, kOpt_eq, kSeq_eq, kR1_eq, kR22_eq, kR2_eq, kEn_eq, kZ2_eq, kZ_eq, kEx_eq, kAsg_eq, kSe3_eq, kSe2_eq, kSe_eq, kRet_eq]) <;> rfl)
@[simp] theorem i_enum  : evI C (.enum a) ρ h = kEn (evE C a ρ h) := by
  (simp only [evI]) <;> first
    | rfl
    | (cases evE C a ρ h <;> rfl)
    | ((simp only [kBin2_eq, kBin_eq, kNeg_eq, kNot_eq, kCmp2_eq, kCmp_eq, kCh3_eq, kCh2_eq, kCh_eq, kIsN_eq, kIsNN_eq, kAnd_eq, kOr_eq, kIte_eq, kTup_eq, kLst_eq, kIdx2_eq, kIdx_eq, kSl3_eq, kSl2_eq, kSl_eq, kCall_eq, kBi_eq, kIsi_eq, kMe2_eq, kMe_eq, kLc_eq, kAc2_eq, kAc_eq, kOpt_eq, kSeq_eq, kR1_eq, kR22_eq, kR2_eq, kEn_eq, kZ2_eq, kZ_eq, kEx_eq, kAsg_eq, kSe3_eq, kSe2_eq, kSe_eq, kRet_eq]) <;> rfl)
@[simp] theorem i_zip  : evI C (.zip a b) ρ h = kZ C b ρ (evE C a ρ h) := by
  (simp only [evI]) <;> first
    | rfl
    | (cases evE C a ρ h <;> rfl)
    | ((simp only [kBin2_eq, kBin_eq, kNeg_eq, kNot_eq, kCmp2_eq, kCmp_eq, kCh3_eq, kCh2_eq, kCh_eq, kIsN_eq, kIsNN_eq, kAnd_eq, kOr_eq, kIte_eq, kTup_eq, kLst_eq, kIdx2_eq, kIdx_eq, kSl3_eq, kSl2_eq, kSl_eq, kCall_eq, kBi_eq, kIsi_eq, kMe2_eq, kMe_eq, kLc_eq, kAc2_eq, kAc_eq, kOpt_eq, kSeq_eq, kR1_eq, kR22_eq, kR2_eq, kEn_eq, kZ2_eq, kZ_eq, kEx_eq, kAsg_eq, kSe3_eq, kSe2_eq, kSe_eq, kRet_eq]) <;> rfl)
@[simp] theorem s_cat  : evS C (.cat s t) ρ h = kCat C t (evS C s ρ h) := by
  simp only [evS]
  cases evS C s ρ h <;> rfl
@[simp] theorem s_ex  : evS C (.ex e) ρ h = kEx ρ (evE C e ρ h) := by
  (simp only [evS]) <;> first
    | rfl
    | (cases evE C a ρ h <;> rfl)
    | ((simp only [kBin2_eq, kBin_eq, kNeg_eq, kNot_eq, kCmp2_eq, kCmp_eq, kCh3_eq, kCh2_eq, kCh_eq, kIsN_eq, kIsNN_eq, kAnd_eq, kOr_eq, kIte_eq, kTup_eq, kLst_eq, kIdx2_eq, kIdx_eq, kSl3_eq, kSl2_eq, kSl_eq, kCall_eq, kBi_eq, kIsi_eq, kMe2_eq, kMe_eq, kLc_eq, kAc2_eq, kAc_eq, kOpt_eq, kSeq_eq, kR1_eq, kR22_eq, kR2_eq, kEn_eq, kZ2_eq, kZ_eq, kEx_eq, kAsg_eq, kSe3_eq, kSe2_eq, kSe_eq, kRet_eq]) <;> rfl)
@[simp] theorem s_asg (tg : Tg) : evS C (.asg tg e) ρ h = kAsg tg ρ (evE C e ρ h) := by
  (simp only [evS]) <;> first
    | rfl
    | (cases evE C a ρ h <;> rfl)
    | ((simp only [kBin2_eq, kBin_eq, kNeg_eq, kNot_eq, kCmp2_eq, kCmp_eq, kCh3_eq, kCh2_eq, kCh_eq, kIsN_eq, kIsNN_eq, kAnd_eq, kOr_eq, kIte_eq, kTup_eq, kLst_eq, kIdx2_eq, kIdx_eq, kSl3_eq, kSl2_eq, kSl_eq, kCall_eq, kBi_eq, kIsi_eq, kMe2_eq, kMe_eq, kLc_eq, kAc2_eq, kAc_eq, kOpt_eq, kSeq_eq, kR1_eq, kR22_eq, kR2_eq, kEn_eq, kZ2_eq, kZ_eq, kEx_eq, kAsg_eq, kSe3_eq, kSe2_eq, kSe_eq, kRet_eq]) <;> rfl)
@[simp] theorem s_set  : evS C (.set a b e) ρ h = kSe C a b ρ (evE C e ρ h) := by
  (simp only [evS]) <;> first
    | rfl
    | (cases evE C a ρ h <;> rfl)
    | ((simp only [kBin2_eq, kBin_eq, kNeg_eq, kNot_eq, kCmp2_eq, kCmp_eq, kCh3_eq, kCh2_eq, kCh_eq, kIsN_eq, kIsNN_eq, kAnd_eq, kOr_eq, kIte_eq, kTup_eq, kLst_eq, kIdx2_eq, kIdx_eq, kSl3_eq, kSl2_eq, kSl_eq, kCall_eq, kBi_eq, kIsi_eq, kMe2_eq, kMe_eq, kLc_eq, kAc2_eq, kAc_eq, kOpt_eq, kSeq_eq, kR1_eq, kR22_eq, kR2_eq, kEn_eq, kZ2_eq, kZ_eq, kEx_eq, kAsg_eq, kSe3_eq, kSe2_eq, kSe_eq, kRet_eq]) <;> rfl)
@[simp] theorem s_ret  : evS C (.ret e) ρ h = kRet ρ (evE C e ρ h) := by
  (simp only [evS]) <;> first
    | rfl
    | (cases evE C a ρ h <;> rfl)
    | ((simp only [kBin2_eq, kBin_eq, kNeg_eq, kNot_eq, kCmp2_eq, kCmp_eq, kCh3_eq, kCh2_eq, kCh_eq, kIsN_eq, kIsNN_eq, kAnd_eq, kOr_eq, kIte_eq, kTup_eq, kLst_eq, kIdx2_eq, kIdx_eq, kSl3_eq, kSl2_eq, kSl_eq, kCall_eq, kBi_eq, kIsi_eq, kMe2_eq, kMe_eq, kLc_eq, kAc2_eq, kAc_eq, kOpt_eq, kSeq_eq, kR1_eq, kR22_eq, kR2_eq, kEn_eq, kZ2_eq, kZ_eq, kEx_eq, kAsg_eq, kSe3_eq, kSe2_eq, kSe_eq, kRet_eq]) <;> rfl)
@[simp] theorem s_if  : evS C (.ifS c s t) ρ h = kIf C s t ρ (evE C c ρ h) := by
  simp only [evS]
  cases evE C c ρ h with
  | ok z h1 => (unfold Res.stT kIf; simp only [Res.st]; cases truth h1 z with | none => rfl | some t => cases t <;> rfl)
  | exc => rfl
  | bad => rfl
@[simp] theorem s_for (tg : Tg) : evS C (.forS tg it s) ρ h = forK ρ (forB C s tg) (evI C it ρ h) := by
  simp only [evS]
  cases evI C it ρ h <;> rfl
@[simp] theorem s_whl  : evS C (.whl c s) ρ h = whl C c s C.fuel ρ h := by
  simp only [evS, whl]
end
theorem whl_succ (C : Cf) (c : E) (s : S) (n : Nat) (ρ : Env) (h : Hh) : whl C c s (n + 1) ρ h = kWh C c s n ρ (evE C c ρ h) := by
  unfold whl
  simp only [whlL]
  cases evE C c ρ h with
  | ok z h1 =>
    unfold Res.tr kWh
    simp only [Res.ok_bind]
    cases truth h1 z with
    | none => rfl
    | some t =>
      cases t with
      | false => rfl
      | true =>
        simp only
        cases evS C s ρ h1 <;> rfl
  | exc => rfl
  | bad => rfl
theorem s_aug (C : Cf) (ρ : Env) (h : Hh) (e : E) (i : Nat) (o : BOp) (x : D) (hx : ρ.getD i none = some x) : evS C (.aug i o e) ρ h = kAu i o x ρ (evE C e ρ h) := by
  simp only [evS, hx]
  cases evE C e ρ h with
  | ok z h1 => simp only [Res.st, kAu]; cases augD o x z <;> rfl
  | exc => rfl
  | bad => rfl
section
variable {h : Hh} {n : Nat} {xs : List D} {i j : Int}
@[simp] theorem b_name (ρ : Env) (i : Nat) (d : D) : bindTg h ρ (.name i) d = some (ρ.set i (some d)) := rfl
theorem b_tup (ρ : Env) (is : List Nat) (d : D) : bindTg h ρ (.tup is) d = match items h d with
    | some xs => if xs.length = is.length then some (setsV ρ is xs) else none
    | none => none := rfl
@[simp] theorem it_tup : items h (.tup xs) = some xs := rfl
@[simp] theorem it_rol : items h (.rol xs) = some xs := rfl
@[simp] theorem it_ref : items h (.ref n) = lstAt h n := rfl
@[simp] theorem b_add : binD h .add (.int i) (.int j) = .ok (.int (i + j)) h := rfl
@[simp] theorem b_sub : binD h .sub (.int i) (.int j) = .ok (.int (i - j)) h := rfl
theorem b_mul (hi : i.natAbs ≤ 18446744073709551615) : binD h .mul (.int i) (.int j) = .ok (.int (i * j)) h := by
  have : mulOk i j = true := by
    unfold mulOk
    rw [sm64_ok hi]; rfl
  simp only [binD, rI, this, if_true]
theorem b_mulR (hj : j.natAbs ≤ 18446744073709551615) : binD h .mul (.int i) (.int j) = .ok (.int (i * j)) h := by
  have : mulOk i j = true := by
    unfold mulOk
    rw [sm64_ok hj, Bool.or_true, Bool.true_or]
  simp only [binD, rI, this, if_true]
theorem log2_small {m : Nat} (h : m < 2 ^ 9000) : m.log2 < 9000 := by
  by_cases z : m = 0
  · subst z; decide
  · exact (Nat.log2_lt z).mpr h
theorem b_fdiv (h0 : 0 < j) (h1 : j < 1152921504606846976) : binD h .fdiv (.int i) (.int j) = .ok (.int (i / j)) h := by
  have : divOk j = true := by
    unfold divOk
    have h2 : j.natAbs.log2 < 9000 := log2_small (Nat.lt_of_lt_of_le (show j.natAbs < 2 ^ 60 by omega) (Nat.pow_le_pow_right (by decide) (by decide)))
    simp [h0, h2]
  simp only [binD, rI, this, if_true]
theorem b_mod (h0 : 0 < j) : binD h .mod (.int i) (.int j) = .ok (.int (i % j)) h := by
  simp only [binD, rI, h0, decide_true, if_true]
theorem pow_of (h0 : 0 ≤ j) (h1 : j.natAbs ≤ 1000000) (h2 : i.natAbs ≤ 18446744073709551615) : powOk i j = true := by
  unfold powOk
  rw [decide_eq_true h0, Nat.ble_eq_true_of_le h1, sm64_ok h2]; rfl
theorem b_pow (h0 : 0 ≤ j) (h1 : j.natAbs ≤ 1000000) (h2 : i.natAbs ≤ 18446744073709551615) : binD h .pow (.int i) (.int j) = .ok (.int (i ^ j.toNat)) h := by
  have : powOk i j = true := pow_of h0 h1 h2
  simp only [binD, rI, this, if_true]
theorem b_shl (h0 : 0 ≤ j) (h1 : j.natAbs ≤ 1000000) (h2 : i.natAbs ≤ 18446744073709551615) : binD h .shl (.int i) (.int j) = .ok (.int (i * 2 ^ j.toNat)) h := by
  have : powOk i j = true := pow_of h0 h1 h2
  simp only [binD, rI, this, if_true]
theorem b_catT {ys : List D} (hl : xs.length + ys.length ≤ 16777216) : binD h .add (.tup xs) (.tup ys) = .ok (.tup (xs ++ ys)) h := by
  simp only [binD]; rw [if_pos (sz hl)]
theorem b_catL {m n : Nat} {ys : List D} (h1 : lstAt h m = some xs) (h2 : lstAt h n = some ys) (hl : xs.length + ys.length ≤ 16777216) : binD h .add (.ref m) (.ref n) = .ok (.ref h.length) (h ++ [.lst (xs ++ ys)]) := by
  simp only [binD, h1, h2]; rw [if_pos (sz hl)]; rfl
@[simp] theorem c_lt : cmpD h .lt (.int i) (.int j) = .ok (.bl (decide (i < j))) h := rfl
@[simp] theorem c_le : cmpD h .le (.int i) (.int j) = .ok (.bl (decide (i ≤ j))) h := rfl
@[simp] theorem c_gt : cmpD h .gt (.int i) (.int j) = .ok (.bl (decide (j < i))) h := rfl
@[simp] theorem c_ge : cmpD h .ge (.int i) (.int j) = .ok (.bl (decide (j ≤ i))) h := rfl
@[simp] theorem c_eq : cmpD h .eq (.int i) (.int j) = .ok (.bl (decide (i = j))) h := rfl
@[simp] theorem c_ne : cmpD h .ne (.int i) (.int j) = .ok (.bl (!decide (i = j))) h := rfl
theorem c_eqD {d e : D} {b : Bool} (q : eqD h d e = some b) : cmpD h .eq d e = .ok (.bl b) h := by simp only [cmpD, q]; rfl
theorem c_neD {d e : D} {b : Bool} (q : eqD h d e = some b) : cmpD h .ne d e = .ok (.bl (!b)) h := by simp only [cmpD, q]; rfl
@[simp] theorem n_int : negD h (.int i) = .ok (.int (-i)) h := rfl
theorem at_nat {α : Type} (xs : List α) (m : Nat) : L2.atI xs (m : Int) = xs[m]? := by
  unfold L2.atI L2.ixN
  by_cases hm : m < xs.length
  · simp [hm]
  · simp [hm]
theorem at_neg {α : Type} (xs : List α) (m : Nat) (h : m < xs.length) : L2.atI xs (-(m + 1 : Nat)) = xs[xs.length - 1 - m]? := by
  unfold L2.atI L2.ixN
  rw [if_neg (by omega), if_pos (by omega)]
  simp only [Option.bind_some]
  congr 1
  omega
@[simp] theorem x_tup : idxD h (.tup xs) (.int i) = match L2.atI xs i with
    | some v => .ok v h
    | none => .bad := rfl
@[simp] theorem x_rol : idxD h (.rol xs) (.int i) = match L2.atI xs i with
    | some v => .ok v h
    | none => .bad := rfl
theorem x_ref (e : lstAt h n = some xs) : idxD h (.ref n) (.int i) = match L2.atI xs i with
    | some v => .ok v h
    | none => .bad := by (simp only [idxD, items, e]) <;> rfl
@[simp] theorem isi_int (t : Ty) : isiD h (.int i) t = some (decide (t = .int)) := by cases t <;> rfl
@[simp] theorem isi_bl (b : Bool) (t : Ty) : isiD h (.bl b) t = some (decide (t = .int) || decide (t = .bool)) := by cases t <;> rfl
@[simp] theorem isi_tup (t : Ty) : isiD h (.tup xs) t = some (decide (t = .tuple)) := by cases t <;> rfl
@[simp] theorem isi_str (s : Str) (t : Ty) : isiD h (.str s) t = some (decide (t = .str)) := by cases t <;> rfl
@[simp] theorem isi_non (t : Ty) : isiD h .non t = some false := by cases t <;> rfl
theorem isi_ref (e : lstAt h n = some xs) (t : Ty) : isiD h (.ref n) t = some (decide (t = .list)) := by simp [isiD, e]
@[simp] theorem rB_some (b : Bool) : rB (some b) h = .ok (.bl b) h := rfl
@[simp] theorem l_tup : biD h .len [.tup xs] = .ok (.int xs.length) h := rfl
@[simp] theorem l_rol : biD h .len [.rol xs] = .ok (.int xs.length) h := rfl
theorem l_ref (e : lstAt h n = some xs) : biD h .len [.ref n] = .ok (.int xs.length) h := by simp only [biD, items, e]
theorem t_ref (e : lstAt h n = some xs) : biD h .tuple [.ref n] = .ok (.tup xs) h := by simp only [biD, items, e]
@[simp] theorem t_tup : biD h .tuple [.tup xs] = .ok (.tup xs) h := rfl
@[simp] theorem t_list : biD h .list [.tup xs] = .ok (.ref h.length) (h ++ [.lst xs]) := rfl
theorem t_listR (e : lstAt h n = some xs) : biD h .list [.ref n] = .ok (.ref h.length) (h ++ [.lst xs]) := by simp only [biD, items, e]; rfl
@[simp] theorem i_int : biD h .int [.int i] = .ok (.int i) h := rfl
@[simp] theorem i_bl (b : Bool) : biD h .int [.bl b] = .ok (.int (if b then 1 else 0)) h := rfl
@[simp] theorem m_min : biD h .min [.int i, .int j] = .ok (.int (if j < i then j else i)) h := rfl
@[simp] theorem m_max : biD h .max [.int i, .int j] = .ok (.int (if j > i then j else i)) h := rfl
theorem m_app {d : D} (e : lstAt h n = some xs) (hl : xs.length < 16777216) : mtD h .append (.ref n) [d] = .ok .non (h.set n (.lst (xs ++ [d]))) := by
  simp only [mtD, e]; rw [if_pos (szl hl)]
theorem r_ok (m : Mt) (e : lstAt h n = some xs) : recvOk h m (.ref n) = true := by simp [recvOk, e]
theorem set_ok' {d : D} {m : Nat} (e : lstAt h n = some xs) (hm : m < xs.length) : setD h (.ref n) (.int (m : Int)) d = some (h.set n (.lst (xs.set m d))) := by
  simp only [setD, e, L2.ixN]
  rw [if_pos (by omega), if_pos (by omega)]
  simp
@[simp] theorem al_eq (o : Ob) : alloc h o = .ok (.ref h.length) (h ++ [o]) := rfl
@[simp] theorem k_ref : keepOf (.ref n) xs = [(n, xs)] := rfl
@[simp] theorem k_tup (ys : List D) : keepOf (.tup ys) xs = [] := rfl
@[simp] theorem k_rol (ys : List D) : keepOf (.rol ys) xs = [] := rfl
@[simp] theorem pl_nil (xs : List D) : (Plan.ok ⟨xs, []⟩ : Hh → Bool) = fun _ => true := rfl
end

@[simp] theorem at_0 {α : Type} (xs : List α) : L2.atI xs 0 = xs[0]? := at_nat xs 0
@[simp] theorem at_1 {α : Type} (xs : List α) : L2.atI xs 1 = xs[1]? := at_nat xs 1
@[simp] theorem at_2 {α : Type} (xs : List α) : L2.atI xs 2 = xs[2]? := at_nat xs 2
@[simp] theorem at_3 {α : Type} (xs : List α) : L2.atI xs 3 = xs[3]? := at_nat xs 3
@[simp] theorem at_4 {α : Type} (xs : List α) : L2.atI xs 4 = xs[4]? := at_nat xs 4
@[simp] theorem at_5 {α : Type} (xs : List α) : L2.atI xs 5 = xs[5]? := at_nat xs 5
@[simp] theorem at_6 {α : Type} (xs : List α) : L2.atI xs 6 = xs[6]? := at_nat xs 6
@[simp] theorem at_7 {α : Type} (xs : List α) : L2.atI xs 7 = xs[7]? := at_nat xs 7
@[simp] theorem at_8 {α : Type} (xs : List α) : L2.atI xs 8 = xs[8]? := at_nat xs 8
@[simp] theorem at_9 {α : Type} (xs : List α) : L2.atI xs 9 = xs[9]? := at_nat xs 9
@[simp] theorem at_m1 {α : Type} (xs : List α) (x : α) : L2.atI (xs ++ [x]) (-1) = some x := L2.atI_last xs x
end Ly

set_option Elab.async false
set_option linter.all false
set_option maxRecDepth 100000
set_option maxHeartbeats 400000
set_option autoImplicit false
/-! LyN: the laws' own draws. -/
namespace Ly
open PySem
/-- a drawn number by the state [cells, place, rest, seed] -/
def irNext : S :=
  .cat (.ifS (.cmp .gt (.idx (.var 0) (.int 2)) (.int 0)) (.cat (.asg (.name 2) (.bin .mod (.idx (.var 0) (.int 2)) (.var 1))) <|
    .cat (.set (.var 0) (.int 2) (.bin .fdiv (.idx (.var 0) (.int 2)) (.var 1))) <|
    .cat (.ret (.var 2)) <|
    .skip) (.skip)) <|
  .cat (.asg (.name 3) (.int 0)) <|
  .cat (.ifS (.cmp .lt (.idx (.var 0) (.int 1)) (.bi .len (.cons (.idx (.var 0) (.int 0)) .nil))) (.cat (.asg (.name 3) (.idx (.idx (.var 0) (.int 0)) (.idx (.var 0) (.int 1)))) <|
    .skip) (.skip)) <|
  .cat (.set (.var 0) (.int 1) (.bin .add (.idx (.var 0) (.int 1)) (.int 1))) <|
  .cat (.ifS (.cmp .ge (.var 3) (.bin .pow (.int 10) (.int 18))) (.cat (.set (.var 0) (.int 2) (.bin .fdiv (.var 3) (.var 1))) <|
    .cat (.ret (.bin .mod (.var 3) (.var 1))) <|
    .skip) (.skip)) <|
  .cat (.set (.var 0) (.int 3) (.bin .mod (.bin .add (.bin .add (.bin .mul (.idx (.var 0) (.int 3)) (.int 48271)) (.bin .mod (.var 3) (.int 2147483629))) (.bin .mul (.int 7) (.idx (.var 0) (.int 1)))) (.int 2147483647))) <|
  .cat (.ret (.bin .mod (.bin .fdiv (.bin .mod (.bin .mul (.idx (.var 0) (.int 3)) (.int 69621)) (.int 2147483629)) (.int 64)) (.var 1))) <|
  .skip
/-- its end -/
def irNext2 : S :=
  .cat (.set (.var 0) (.int 1) (.bin .add (.idx (.var 0) (.int 1)) (.int 1))) <|
  .cat (.ifS (.cmp .ge (.var 3) (.bin .pow (.int 10) (.int 18))) (.cat (.set (.var 0) (.int 2) (.bin .fdiv (.var 3) (.var 1))) <|
    .cat (.ret (.bin .mod (.var 3) (.var 1))) <|
    .skip) (.skip)) <|
  .cat (.set (.var 0) (.int 3) (.bin .mod (.bin .add (.bin .add (.bin .mul (.idx (.var 0) (.int 3)) (.int 48271)) (.bin .mod (.var 3) (.int 2147483629))) (.bin .mul (.int 7) (.idx (.var 0) (.int 1)))) (.int 2147483647))) <|
  .cat (.ret (.bin .mod (.bin .fdiv (.bin .mod (.bin .mul (.idx (.var 0) (.int 3)) (.int 69621)) (.int 2147483629)) (.int 64)) (.var 1))) <|
  .skip
/-- the state -/
def stL (cs : List Int) (a r s : Int) : List D := [.rol (cs.map .int), .int a, .int r, .int s]
/-- a state of the law's draws at n -/
structure Sta (h : Hh) (n : Nat) (cs : List Int) : Prop where
  ex : ∃ a r s, lstAt h n = some (stL cs a r s) ∧ 0 ≤ a ∧ 0 ≤ s ∧ s < 2147483647
theorem next_ev (C : Cf) {n : Nat} {b : Int} {cs : List Int} {h : Hh} (hb : 0 < b) (hb2 : b < 1073741824) (hs : Sta h n cs) :
    ∃ v a r s, 0 ≤ v ∧ v < b ∧ 0 ≤ a ∧ 0 ≤ s ∧ s < 2147483647 ∧ evS C irNext [some (.ref n), some (.int b), none, none] h = .ret (.int v) (h.set n (.lst (stL cs a r s))) := by
  obtain ⟨a, r, s, hs, ha, hse, hs2⟩ := hs.ex
  have idx : ∀ {h : Hh} {a r s : Int} {i : Int}, lstAt h n = some (stL cs a r s) → idxD h (.ref n) (.int i) = match L2.atI (stL cs a r s) i with
    | some v => .ok v h
    | none => .bad := fun e => x_ref e
  have fd : ∀ {h : Hh} {i : Int}, binD h .fdiv (.int i) (.int b) = .ok (.int (i / b)) h := b_fdiv hb (by omega)
  have md : ∀ {h : Hh} {i : Int}, binD h .mod (.int i) (.int b) = .ok (.int (i % b)) h := b_mod hb
  have st1 : ∀ {h : Hh} {a r s : Int} {v : D}, lstAt h n = some (stL cs a r s) → setD h (.ref n) (.int 1) v = some (h.set n (.lst [.rol (cs.map .int), v, .int r, .int s])) := fun e => set_ok' (m := 1) e (by simp [stL])
  have st2 : ∀ {h : Hh} {a r s : Int} {v : D}, lstAt h n = some (stL cs a r s) → setD h (.ref n) (.int 2) v = some (h.set n (.lst [.rol (cs.map .int), .int a, v, .int s])) := fun e => set_ok' (m := 2) e (by simp [stL])
  have st3 : ∀ {h : Hh} {a r s : Int} {v : D}, lstAt h n = some (stL cs a r s) → setD h (.ref n) (.int 3) v = some (h.set n (.lst [.rol (cs.map .int), .int a, .int r, v])) := fun e => set_ok' (m := 3) e (by simp [stL])
  by_cases hr : 0 < r
  · refine ⟨r % b, a, r / b, s, Int.emod_nonneg _ (by omega), Int.emod_lt_of_pos _ hb, ha, hse, hs2, ?_⟩
    simp [irNext, idx hs, stL, hr, md, fd, st2 hs]
  · -- the rest by the cell that is met
    have main : ∀ c : Int, ∃ v a' r' s', 0 ≤ v ∧ v < b ∧ 0 ≤ a' ∧ 0 ≤ s' ∧ s' < 2147483647 ∧ evS C irNext2 [some (.ref n), some (.int b), none, some (.int c)] h = .ret (.int v) (h.set n (.lst (stL cs a' r' s'))) := by
      intro c
      have hs' : lstAt (h.set n (.lst (stL cs (a + 1) r s))) n = some (stL cs (a + 1) r s) := lstAt_set hs
      have pw : ∀ {h : Hh}, binD h .pow (.int 10) (.int 18) = .ok (.int 1000000000000000000) h := fun {h} => by rw [b_pow (by decide) (by decide) (by decide)]; rfl
      by_cases hc : 1000000000000000000 ≤ c
      · refine ⟨c % b, a + 1, c / b, s, Int.emod_nonneg _ (by omega), Int.emod_lt_of_pos _ hb, by omega, hse, hs2, ?_⟩
        have e2 : setD (h.set n (.lst (stL cs (a + 1) r s))) (.ref n) (.int 2) (.int (c / b)) = _ := st2 hs'
        simp only [stL] at e2
        simp [irNext2, idx hs, stL, st1 hs, pw, hc, md, fd, e2]
      · have sd : 0 ≤ (s * 48271 + c % 2147483629 + 7 * (a + 1)) % 2147483647 := Int.emod_nonneg _ (by omega)
        have sd2 : (s * 48271 + c % 2147483629 + 7 * (a + 1)) % 2147483647 < 2147483647 := Int.emod_lt_of_pos _ (by omega)
        generalize hsn : (s * 48271 + c % 2147483629 + 7 * (a + 1)) % 2147483647 = sn at sd sd2
        refine ⟨sn * 69621 % 2147483629 / 64 % b, a + 1, r, sn, Int.emod_nonneg _ (by omega), Int.emod_lt_of_pos _ hb, by omega, sd, sd2, ?_⟩
        have mul1 : ∀ {h : Hh} {j : Int}, binD h .mul (.int s) (.int j) = .ok (.int (s * j)) h := b_mul (by omega)
        have mul2 : ∀ {h : Hh} {j : Int}, binD h .mul (.int 7) (.int j) = .ok (.int (7 * j)) h := b_mul (by decide)
        have mul3 : ∀ {h : Hh} {j : Int}, binD h .mul (.int sn) (.int j) = .ok (.int (sn * j)) h := b_mul (by omega)
        have md1 : ∀ {h : Hh} {i : Int}, binD h .mod (.int i) (.int 2147483629) = .ok (.int (i % 2147483629)) h := b_mod (by decide)
        have md2 : ∀ {h : Hh} {i : Int}, binD h .mod (.int i) (.int 2147483647) = .ok (.int (i % 2147483647)) h := b_mod (by decide)
        have fd1 : ∀ {h : Hh} {i : Int}, binD h .fdiv (.int i) (.int 64) = .ok (.int (i / 64)) h := b_fdiv (by decide) (by decide)
        have e3 : setD (h.set n (.lst (stL cs (a + 1) r s))) (.ref n) (.int 3) (.int sn) = some ((h.set n (.lst (stL cs (a + 1) r s))).set n (.lst (stL cs (a + 1) r sn))) := st3 hs'
        have hs3 : lstAt ((h.set n (.lst (stL cs (a + 1) r s))).set n (.lst (stL cs (a + 1) r sn))) n = some (stL cs (a + 1) r sn) := lstAt_set hs'
        simp only [stL] at e3 hs3 hs'
        rw [List.set_set] at hs3
        have x1 : idxD (h.set n (.lst [.rol (cs.map .int), .int (a + 1), .int r, .int s])) (.ref n) (.int 1) = .ok (.int (a + 1)) (h.set n (.lst [.rol (cs.map .int), .int (a + 1), .int r, .int s])) := by rw [x_ref hs']; simp
        have x3 : idxD (h.set n (.lst [.rol (cs.map .int), .int (a + 1), .int r, .int s])) (.ref n) (.int 3) = .ok (.int s) (h.set n (.lst [.rol (cs.map .int), .int (a + 1), .int r, .int s])) := by rw [x_ref hs']; simp
        have x4 : idxD (h.set n (.lst [.rol (cs.map .int), .int (a + 1), .int r, .int sn])) (.ref n) (.int 3) = .ok (.int sn) (h.set n (.lst [.rol (cs.map .int), .int (a + 1), .int r, .int sn])) := by rw [x_ref hs3]; simp
        simp [irNext2, idx hs, stL, st1 hs, pw, hc, md, fd, x1, x3, x4, mul1, md1, mul2, md2, hsn, e3, mul3, fd1]
    by_cases hl : a < cs.length
    · obtain ⟨m, rfl⟩ := Int.eq_ofNat_of_zero_le ha
      have hm : m < cs.length := by omega
      obtain ⟨v, a', r', s', h1, h2, h3, h4, h5, h6⟩ := main cs[m]
      refine ⟨v, a', r', s', h1, h2, h3, h4, h5, ?_⟩
      rw [← h6]
      simp [irNext, irNext2, idx hs, stL, hr, hl, at_nat, hm]
    · obtain ⟨v, a', r', s', h1, h2, h3, h4, h5, h6⟩ := main 0
      refine ⟨v, a', r', s', h1, h2, h3, h4, h5, ?_⟩
      rw [← h6]
      simp [irNext, irNext2, idx hs, stL, hr, hl]
theorem next_call {P : Pg} {i k n : Nat} {b : Int} {cs : List Int} {h : Hh} (hP : P.fns[i]? = some ⟨2, 4, irNext⟩) (hb : 0 < b) (hb2 : b < 1073741824) (hs : Sta h n cs) :
    ∃ v a r s, 0 ≤ v ∧ v < b ∧ 0 ≤ a ∧ 0 ≤ s ∧ s < 2147483647 ∧ callN P (k + 1) i [.ref n, .int b] h = .ok (.int v) (h.set n (.lst (stL cs a r s))) := by
  obtain ⟨v, a, r, s, h1, h2, h3, h4, h5, e⟩ := next_ev (P.cf k) hb hb2 hs
  refine ⟨v, a, r, s, h1, h2, h3, h4, h5, ?_⟩
  have e0 : callN P (k + 1) i [.ref n, .int b] h = fin h.length (evS (P.cf k) irNext [some (.ref n), some (.int b), none, none] h) := by
    simp only [callN, hP]; rfl
  rw [e0, e]
  simp only [fin]
  rw [gc_same (by simp)]
theorem Sta.set {h : Hh} {n : Nat} {cs : List Int} (s : Sta h n cs) {a r x : Int} (ha : 0 ≤ a) (hx : 0 ≤ x) (hx2 : x < 2147483647) : Sta (h.set n (.lst (stL cs a r x))) n cs := by
  obtain ⟨_, _, _, e, _⟩ := s.ex
  exact ⟨a, r, x, lstAt_set e, ha, hx, hx2⟩

theorem lt_st {n : Nat} {cs : List Int} {a r s : Int} : D.lts n (stL cs a r s) = true := by
  simp [stL, D.lts, D.lt, lts_ints]
/-- a draw: what it tells, what it changes -/
theorem draw {P : Pg} {i k n : Nat} {b : Int} {cs : List Int} {h : Hh} (hP : P.fns[i]? = some ⟨2, 4, irNext⟩) (hb : 0 < b) (hb2 : b < 1073741824) (hs : Sta h n cs) (w : wf h) :
    ∃ (v : Nat) (h' : Hh), (v : Int) < b ∧ callN P (k + 1) i [.ref n, .int b] h = .ok (.int v) h' ∧ Sta h' n cs ∧ wf h' ∧ h'.length = h.length ∧ ∀ m, m ≠ n → lstAt h' m = lstAt h m := by
  obtain ⟨v, a, r, s, h1, h2, h3, h4, h5, e⟩ := next_call (k := k) hP hb hb2 hs
  obtain ⟨m, rfl⟩ := Int.eq_ofNat_of_zero_le h1
  exact ⟨m, _, h2, e, hs.set h3 h4 h5, wf_set w lt_st, by simp, fun j hj => lstAt_set_ne (Ne.symm hj)⟩
theorem Sta.app {h g : Hh} {n : Nat} {cs : List Int} (s : Sta h n cs) : Sta (h ++ g) n cs := by
  obtain ⟨a, r, x, e, p⟩ := s.ex
  exact ⟨a, r, x, lstAt_app e, p⟩
theorem Sta.lt {h : Hh} {n : Nat} {cs : List Int} (s : Sta h n cs) : n < h.length := by
  obtain ⟨a, r, x, e, p⟩ := s.ex
  exact lstAt_lt e

/-! ### what is equal -/
theorem shaped_of {p : PyData} (h1 : p.canLay0 = true) (h2 : p.depth ≤ 64) : SeqAt.shaped p = true := by
  unfold SeqAt.shaped
  simp [h1, h2]
theorem eq_pair (h : Hh) (a b c d : Int) : eqD h (.tup [.int a, .int b]) (.tup [.int c, .int d]) = some (decide (a = c) && decide (b = d)) := by
  simp [eqD, toP, toPs, SeqAt.shaped, PyData.canLay0, PyData.canLayAll0, PyData.depth, PyData.depthAll, PyData.eqv, PyData.eqvAll, Bool.beq_eq_decide_eq]
theorem eq_nil {h : Hh} {m n : Nat} (h1 : lstAt h m = some []) (h2 : lstAt h n = some []) : eqD h (.ref m) (.ref n) = some true := by
  simp [eqD, toP, toPs, h1, h2, SeqAt.shaped, PyData.canLay0, PyData.canLayAll0, PyData.depth, PyData.depthAll, PyData.eqv, PyData.eqvAll]
end Ly

set_option Elab.async false
set_option linter.all false
set_option maxRecDepth 100000
set_option maxHeartbeats 400000
set_option autoImplicit false
/-! LyX: a heap that has gone on, the state of the draws being written. -/
namespace Ly
open PySem
@[simp] theorem cf_call (P : Pg) (k f : Nat) (xs : List D) (h : Hh) : (P.cf k).call f xs h = callN P k f xs h := rfl
@[simp] theorem cf_glob (P : Pg) (k : Nat) : (P.cf k).glob = P.glob := rfl
@[simp] theorem fin_ret (d : D) (h : Hh) : fin h.length (.ret d h) = .ok d h := by simp only [fin]; rw [gc_same rfl]
@[simp] theorem fin_next (ρ : Env) (h : Hh) : fin h.length (.next ρ h) = .ok .non h := by simp only [fin]; rw [gc_same rfl]
/-- from h to h': only the state at n is written, the rest is new -/
structure Ex (n : Nat) (cs : List Int) (h h' : Hh) : Prop where
  le : h.length ≤ h'.length
  eq : ∀ m, m < h.length → m ≠ n → h'[m]? = h[m]?
  st : Sta h' n cs
  wf : wf h'
section
variable {n : Nat} {cs : List Int} {h h' h'' : Hh}
theorem Ex.refl (s : Sta h n cs) (w : Ly.wf h) : Ex n cs h h := ⟨Nat.le_refl _, fun _ _ _ => rfl, s, w⟩
theorem Ex.trans (a : Ex n cs h h') (b : Ex n cs h' h'') : Ex n cs h h'' :=
  ⟨Nat.le_trans a.le b.le, fun m hm hn => (b.eq m (Nat.lt_of_lt_of_le hm a.le) hn).trans (a.eq m hm hn), b.st, b.wf⟩
theorem Ex.app (a : Ex n cs h h') {o : Ob} (ho : o.lt (h'.length + 1) = true) : Ex n cs h (h' ++ [o]) :=
  ⟨by have := a.le; simp; omega, fun m hm hn => by rw [List.getElem?_append_left (Nat.lt_of_lt_of_le hm a.le)]; exact a.eq m hm hn, a.st.app, wf_app a.wf ho⟩
theorem Ex.set (a : Ex n cs h h') {m : Nat} {o : Ob} (hm : h.length ≤ m) (hn : m ≠ n) (ho : o.lt h'.length = true) : Ex n cs h (h'.set m o) := by
  refine ⟨by have := a.le; simpa using this, fun j hj hn => ?_, ?_, wf_set a.wf ho⟩
  · rw [List.getElem?_set_ne (by omega)]; exact a.eq j hj hn
  · obtain ⟨x, r, s, e, p⟩ := a.st.ex
    exact ⟨x, r, s, by rw [lstAt_set_ne hn]; exact e, p⟩
theorem Ex.at (a : Ex n cs h h') {m : Nat} (hm : m < h.length) (hn : m ≠ n) : lstAt h' m = lstAt h m := by
  unfold lstAt
  rw [a.eq m hm hn]
theorem Ex.lst (a : Ex n cs h h') {m : Nat} {xs : List D} (e : lstAt h m = some xs) (hn : m ≠ n) : lstAt h' m = some xs := by
  rw [a.at (lstAt_lt e) hn]; exact e
/-- what was made is dropped -/
theorem Ex.drop (a : Ex n cs h h') (hn : n < h.length) (w : Ly.wf h) : Ex n cs h (h'.take h.length) ∧ (h'.take h.length).length = h.length ∧ (h'.take h.length).all (Ob.lt h.length) = true := by
  have hl : (h'.take h.length).length = h.length := by have := a.le; simp; omega
  have al : (h'.take h.length).all (Ob.lt h.length) = true := by
    rw [List.all_eq_true]
    intro o ho
    obtain ⟨m, hm, e⟩ := List.mem_iff_getElem.mp ho
    have hm' : m < h.length := by rw [← hl]; exact hm
    have e' : h'[m]? = some o := by
      rw [← e, List.getElem_take, List.getElem?_eq_getElem]
    by_cases hmn : m = n
    · subst hmn
      obtain ⟨x, r, s, q, _⟩ := a.st.ex
      rw [lstAt_iff] at q
      rw [q] at e'
      cases e'
      exact lt_st
    · rw [a.eq m hm' hmn] at e'
      exact wf_get w e'
  refine ⟨⟨by omega, fun m hm hmn => ?_, ?_, ?_⟩, hl, al⟩
  · rw [List.getElem?_take_of_lt hm]; exact a.eq m hm hmn
  · obtain ⟨x, r, s, q, p⟩ := a.st.ex
    refine ⟨x, r, s, ?_, p⟩
    rw [lstAt_iff] at q ⊢
    rw [List.getElem?_take_of_lt hn]; exact q
  · unfold Ly.wf
    rw [hl]
    exact al
theorem Ex.fin (a : Ex n cs h h') (hn : n < h.length) (w : Ly.wf h) {d : D} (hd : d.lt h.length = true) : ∃ h2, Ly.fin h.length (.ret d h') = .ok d h2 ∧ Ex n cs h h2 ∧ h2.length = h.length := by
  obtain ⟨x, l, al⟩ := a.drop hn w
  refine ⟨h'.take h.length, ?_, x, l⟩
  simp only [Ly.fin, gc, hd, al, Bool.and_true, if_true]
theorem Ex.draw {P : Pg} {i k : Nat} {b : Int} (a : Ex n cs h h') (hP : P.fns[i]? = some ⟨2, 4, irNext⟩) (hb : 0 < b) (hb2 : b < 1073741824) : ∃ (v : Nat) (h2 : Hh), (v : Int) < b ∧ callN P (k + 1) i [.ref n, .int b] h' = .ok (.int v) h2 ∧ Ex n cs h h2 ∧ h2.length = h'.length ∧ ∀ m, m ≠ n → lstAt h2 m = lstAt h' m := by
  obtain ⟨v, x, r, s, h1, h2, h3, h4, h5, e⟩ := next_call (k := k) hP hb hb2 a.st
  obtain ⟨m, rfl⟩ := Int.eq_ofNat_of_zero_le h1
  refine ⟨m, _, h2, e, ⟨by simpa using a.le, fun j hj hn => ?_, a.st.set h3 h4 h5, wf_set a.wf lt_st⟩, by simp, fun j hj => lstAt_set_ne (Ne.symm hj)⟩
  rw [List.getElem?_set_ne (Ne.symm hn)]
  exact a.eq j hj hn
end
end Ly

set_option Elab.async false
set_option linter.all false
set_option maxRecDepth 100000
set_option maxHeartbeats 400000
set_option autoImplicit false
/-! PkNd: defs of the nets, as terms. -/
namespace Ly
open PySem
/- is_number (thing): 0 thing -/
def P_is_number : S :=
  .cat (.ret (.and (.isi (.var 0) .int) (.one (.not (.isi (.var 0) .bool))))) <|
  .skip
abbrev F_is_number : Fn := ⟨1, 1, P_is_number ⟩
/- is_from (thing, low, high): 0 thing, 1 low, 2 high -/
def P_is_from (i_is_number : Nat) : S :=
  .cat (.ret (.and (.call i_is_number (.cons (.var 0) .nil)) (.and (.cmp .le (.var 1) (.var 0)) (.one (.cmp .le (.var 0) (.var 2)))))) <|
  .skip
abbrev F_is_from (i_is_number : Nat) : Fn := ⟨3, 3, P_is_from i_is_number⟩
/- is_knot (thing, number): 0 thing, 1 number -/
def P_is_knot (i_is_from : Nat) : S :=
  .cat (.ifS (.or (.not (.isi (.var 0) .tuple)) (.one (.cmp .ne (.bi .len (.cons (.var 0) .nil)) (.int 2)))) (.cat (.ret (.bl false)) <|
    .skip) (.skip)) <|
  .cat (.ret (.and (.call i_is_from (.cons (.idx (.var 0) (.int 0)) (.cons (.int 0) (.cons (.bin .sub (.var 1) (.int 1)) .nil)))) (.one (.call i_is_from (.cons (.idx (.var 0) (.int 1)) (.cons (.int 0) (.cons (.bin .sub (.var 1) (.int 1)) .nil))))))) <|
  .skip
abbrev F_is_knot (i_is_from : Nat) : Fn := ⟨2, 2, P_is_knot i_is_from⟩
/- are_knots (thing, width): 0 thing, 1 width, 2 place, 3 knot -/
def Pb1_are_knots (g_MOST_KNOTS i_is_knot : Nat) : S :=
  .cat (.ifS (.not (.call i_is_knot (.cons (.var 3) (.cons (.bin .add (.var 1) (.var 2)) .nil)))) (.cat (.ret (.bl false)) <|
    .skip) (.skip)) <|
  .skip
def P_are_knots (g_MOST_KNOTS i_is_knot : Nat) : S :=
  .cat (.ifS (.or (.not (.isi (.var 0) .tuple)) (.one (.cmp .gt (.bi .len (.cons (.var 0) .nil)) (.glob g_MOST_KNOTS)))) (.cat (.ret (.bl false)) <|
    .skip) (.skip)) <|
  .cat (.forS (.tup [2, 3]) (.enum (.var 0)) (Pb1_are_knots g_MOST_KNOTS i_is_knot)) <|
  .cat (.ret (.bl true)) <|
  .skip
abbrev F_are_knots (g_MOST_KNOTS i_is_knot : Nat) : Fn := ⟨2, 4, P_are_knots g_MOST_KNOTS i_is_knot⟩
/- are_ends (thing, count): 0 thing, 1 count, 2 end -/
def Pb1_are_ends (g_MOST_ENDS i_is_from : Nat) : S :=
  .cat (.ifS (.not (.call i_is_from (.cons (.var 2) (.cons (.int 0) (.cons (.bin .sub (.var 1) (.int 1)) .nil))))) (.cat (.ret (.bl false)) <|
    .skip) (.skip)) <|
  .skip
def P_are_ends (g_MOST_ENDS i_is_from : Nat) : S :=
  .cat (.ifS (.or (.not (.isi (.var 0) .tuple)) (.or (.cmp .lt (.bi .len (.cons (.var 0) .nil)) (.int 1)) (.one (.cmp .gt (.bi .len (.cons (.var 0) .nil)) (.glob g_MOST_ENDS))))) (.cat (.ret (.bl false)) <|
    .skip) (.skip)) <|
  .cat (.forS (.name 2) (.seq (.var 0)) (Pb1_are_ends g_MOST_ENDS i_is_from)) <|
  .cat (.ret (.bl true)) <|
  .skip
abbrev F_are_ends (g_MOST_ENDS i_is_from : Nat) : Fn := ⟨2, 3, P_are_ends g_MOST_ENDS i_is_from⟩
/- is_net (thing): 0 thing -/
def P_is_net (i_are_knots i_is_from g_MOST_WIDTH i_are_ends : Nat) : S :=
  .cat (.ifS (.or (.not (.isi (.var 0) .tuple)) (.one (.cmp .ne (.bi .len (.cons (.var 0) .nil)) (.int 3)))) (.cat (.ret (.bl false)) <|
    .skip) (.skip)) <|
  .cat (.ifS (.or (.not (.call i_is_from (.cons (.idx (.var 0) (.int 0)) (.cons (.int 1) (.cons (.glob g_MOST_WIDTH) .nil))))) (.one (.not (.call i_are_knots (.cons (.idx (.var 0) (.int 1)) (.cons (.idx (.var 0) (.int 0)) .nil)))))) (.cat (.ret (.bl false)) <|
    .skip) (.skip)) <|
  .cat (.ret (.call i_are_ends (.cons (.idx (.var 0) (.int 2)) (.cons (.bin .add (.idx (.var 0) (.int 0)) (.bi .len (.cons (.idx (.var 0) (.int 1)) .nil))) .nil)))) <|
  .skip
abbrev F_is_net (i_are_knots i_is_from g_MOST_WIDTH i_are_ends : Nat) : Fn := ⟨1, 1, P_is_net i_are_knots i_is_from g_MOST_WIDTH i_are_ends⟩
/- look_at_net (net): 0 net -/
def P_look_at_net (i_is_net : Nat) : S :=
  .cat (.ifS (.not (.call i_is_net (.cons (.var 0) .nil))) (.cat .nev <|
    .skip) (.skip)) <|
  .skip
abbrev F_look_at_net (i_is_net : Nat) : Fn := ⟨1, 1, P_look_at_net i_is_net⟩
end Ly

set_option Elab.async false
set_option linter.all false
set_option maxRecDepth 100000
set_option maxHeartbeats 400000
set_option autoImplicit false
/-! PkN: what the nets' own questions answer, of any thing. -/
namespace Ly
open PySem
mutual
/-- no ref beyond n, no function -/
def good (n : Nat) : D → Bool
  | .tup xs => goods n xs
  | .rol xs => goods n xs
  | .ref m => decide (m < n)
  | .fn _ => false
  | _ => true
def goods (n : Nat) : List D → Bool
  | [] => true
  | x :: xs => good n x && goods n xs
end
theorem goods_all {n : Nat} : ∀ {xs : List D}, goods n xs = xs.all (good n)
  | [] => rfl
  | x :: xs => by simp [goods, goods_all]
def tyB : D → Ty → Bool
  | .bl _, t => decide (t = .int) || decide (t = .bool)
  | .int _, t => decide (t = .int)
  | .str _, t => decide (t = .str)
  | .tup _, t => decide (t = .tuple)
  | _, _ => false
theorem lst_some {h : Hh} {m : Nat} (e : m < h.length) : ∃ xs, lstAt h m = some xs := by
  cases q : h[m] with
  | lst xs => exact ⟨xs, lstAt_of (by rw [List.getElem?_eq_getElem e, q])⟩
theorem isi_good {h : Hh} {d : D} {t : Ty} (g : good h.length d = true) (ht : t ≠ .list ∧ t ≠ .dict) : isiD h d t = some (tyB d t) := by
  cases d with
  | ref m =>
    simp only [good, decide_eq_true_eq] at g
    obtain ⟨xs, e⟩ := lst_some g
    rw [isi_ref e]
    cases t <;> simp [tyB] <;> simp at ht
  | rol xs => cases t <;> simp [isiD, tyB] <;> simp at ht
  | fn i => simp [good] at g
  | _ => cases t <;> simp [isiD, tyB]
def isNum : D → Bool
  | .int _ => true
  | _ => false
def isFrom (lo hi : Int) : D → Bool
  | .int i => decide (lo ≤ i) && decide (i ≤ hi)
  | _ => false
section
variable {G : Pg} {k : Nat} {h : Hh}
theorem number_ok {i : Nat} (hf : G.fns[i]? = some F_is_number) {d : D} (g : good h.length d = true) : callN G (k + 1) i [d] h = .ok (.bl (isNum d)) h := by
  rw [call_eq F_is_number hf rfl]
  have i1 := isi_good (t := .int) g (by decide)
  have i2 := isi_good (t := .bool) g (by decide)
  simp only [P_is_number, List.map_cons, List.map_nil]
  cases d <;> simp [i1, i2, tyB, isNum]
theorem from_ok {i j : Nat} (hf : G.fns[i]? = some F_is_number) (hj : G.fns[j]? = some (F_is_from i)) {d : D} {lo hi : Int} (g : good h.length d = true) : callN G (k + 2) j [d, .int lo, .int hi] h = .ok (.bl (isFrom lo hi d)) h := by
  rw [call_eq (F_is_from i) hj rfl]
  simp only [P_is_from, List.map_cons, List.map_nil]
  cases d <;> simp [number_ok hf g, isNum, isFrom]
  rename_i n
  by_cases h1 : lo ≤ n <;> by_cases h2 : n ≤ hi <;> simp [h1, h2]
end
theorem forL_all {keep : Hh → Bool} {f : D → Env → Hh → SR} {h : Hh} {d : D} (p : D → Bool) (I : Env → Prop) (hk : keep h = true) : ∀ (xs : List D), (∀ x ∈ xs, ∀ ρ, I ρ → if p x = true then ∃ ρ', f x ρ h = .next ρ' h ∧ I ρ' else f x ρ h = .ret d h) → ∀ ρ, I ρ →
    ∃ ρ', I ρ' ∧ forL keep f xs ρ h = if xs.all p then .next ρ' h else .ret d h
  | [], _, ρ, i => ⟨ρ, i, by simp [forL, hk]⟩
  | x :: xs, step, ρ, i => by
    have s0 := step x (by simp) ρ i
    by_cases hp : p x = true
    · rw [if_pos hp] at s0
      obtain ⟨ρ1, e1, i1⟩ := s0
      obtain ⟨ρ2, i2, e2⟩ := forL_all p I hk xs (fun y hy => step y (by simp [hy])) ρ1 i1
      exact ⟨ρ2, i2, by simp [forL, hk, e1, e2, hp]⟩
    · rw [if_neg hp] at s0
      exact ⟨ρ, i, by simp [forL, hk, s0, hp]⟩
def isKnot (n : Int) : D → Bool
  | .tup [a, b] => isFrom 0 (n - 1) a && isFrom 0 (n - 1) b
  | _ => false
def areKnots (w : Int) : Nat → List D → Bool
  | _, [] => true
  | i, x :: xs => isKnot (w + i) x && areKnots w (i + 1) xs
theorem areKnots_eq (w : Int) : ∀ (i : Nat) (xs : List D), (enumL i xs).all (fun p => match p with | .tup [.int j, x] => isKnot (w + j) x | _ => false) = areKnots w i xs
  | _, [] => rfl
  | i, x :: xs => by simp [enumL, areKnots, areKnots_eq w (i + 1) xs]
theorem mem_enumL {x : D} : ∀ {xs : List D} {k : Nat}, x ∈ enumL k xs → ∃ (i : Nat) (d : D), x = .tup [.int i, d] ∧ d ∈ xs
  | [], _, h => by simp [enumL] at h
  | y :: ys, k, h => by
    simp only [enumL, List.mem_cons] at h
    rcases h with rfl | h
    · exact ⟨k, y, rfl, by simp⟩
    · obtain ⟨i, d, e, m⟩ := mem_enumL h
      exact ⟨i, d, e, by simp [m]⟩
theorem forB_tup {C : Cf} {s : S} {is : List Nat} {xs : List D} {ρ : Env} {h : Hh} (hl : xs.length = is.length) : forB C s (.tup is) (.tup xs) ρ h = evS C s (setsV ρ is xs) h := by
  refine forB_eq _ _ _ _ _ _ _ ?_
  rw [b_tup, it_tup]
  simp only [hl, if_true]
theorem compT_tup {C : Cf} {ρ : Env} {c e : E} {own is : List Nat} {xs : List D} {h : Hh} (hl : xs.length = is.length) : compT C ρ c e own (.tup is) (.tup xs) h = kCt C e (setsV (wipeD ρ own) is xs) (evE C c (setsV (wipeD ρ own) is xs) h) := by
  refine compT_eq _ _ _ _ _ _ _ _ _ ?_
  rw [b_tup, it_tup]
  simp only [hl, if_true]
def areEnds (c : Int) (xs : List D) : Bool := xs.all (isFrom 0 (c - 1))
section
variable {G : Pg} {k : Nat} {h : Hh}
theorem knot_ok {i j m : Nat} (hi : G.fns[i]? = some F_is_number) (hj : G.fns[j]? = some (F_is_from i)) (hm : G.fns[m]? = some (F_is_knot j)) {d : D} {n : Int} (g : good h.length d = true) : callN G (k + 3) m [d, .int n] h = .ok (.bl (isKnot n d)) h := by
  rw [call_eq (F_is_knot j) hm rfl]
  have i1 := isi_good (t := .tuple) g (by decide)
  simp only [P_is_knot, List.map_cons, List.map_nil]
  cases d with
  | tup xs =>
    simp only [good, goods_all] at g
    match xs, g with
    | [], _ => simp [isKnot]
    | [a], _ => simp [isKnot]
    | [a, b], g =>
      simp only [List.all_cons, List.all_nil, Bool.and_true, Bool.and_eq_true] at g
      simp [from_ok hi hj g.1, from_ok hi hj g.2, isKnot]
      cases isFrom 0 (n - 1) a <;> simp
    | a :: b :: c :: r, _ =>
      have : ¬ ((r.length : Int) + 1 + 1 + 1 = 2) := by omega
      simp [isKnot, this]
  | _ => simp [i1, tyB, isKnot]
/-- the length of a list, as a number -/
theorem knots_ok {i j m q g : Nat} (hi : G.fns[i]? = some F_is_number) (hj : G.fns[j]? = some (F_is_from i)) (hm : G.fns[m]? = some (F_is_knot j)) (hq : G.fns[q]? = some (F_are_knots g m)) (hg : G.glob[g]? = some (.int 1000)) {d : D} {w : Int} (gd : good h.length d = true) :
    callN G (k + 4) q [d, .int w] h = .ok (.bl (match d with | .tup xs => decide (xs.length ≤ 1000) && areKnots w 0 xs | _ => false)) h := by
  rw [call_eq (F_are_knots g m) hq rfl]
  have i1 := isi_good (t := .tuple) gd (by decide)
  simp only [P_are_knots, List.map_cons, List.map_nil]
  cases d with
  | tup xs =>
    simp only [good, goods_all] at gd
    obtain ⟨ρ', _, e⟩ := forL_all (keep := fun _ => true) (f := forB (G.cf (k + 3)) (Pb1_are_knots g m) (.tup [2, 3])) (h := h) (d := .bl false) (fun p => match p with | .tup [.int j, x] => isKnot (w + j) x | _ => false) (fun ρ => ∃ a b, ρ = [some (.tup xs), some (.int w), a, b]) rfl (enumL 0 xs) (by
      rintro x hx ρ ⟨a, b, rfl⟩
      obtain ⟨n, d, rfl, hd⟩ := mem_enumL hx
      have gx := List.all_eq_true.mp gd d hd
      have cl := knot_ok (k := k) (n := w + (n : Int)) hi hj hm gx
      rw [forB_tup rfl]
      cases hk : isKnot (w + (n : Int)) d <;> simp [Pb1_are_knots, setsV, cl, hk])
      [some (.tup xs), some (.int w), none, none] ⟨none, none, rfl⟩
    rw [areKnots_eq] at e
    by_cases hl : xs.length ≤ 1000
    · have hl' : ¬ ((1000 : Int) < (xs.length : Int)) := by omega
      cases ha : areKnots w 0 xs <;> simp only [ha] at e <;> simp [hg, hl, hl', e, ha]
    · have hl' : ((1000 : Int) < (xs.length : Int)) := by omega
      simp [hg, hl, hl']
  | _ => simp [i1, tyB]
theorem ends_ok {i j m g : Nat} (hi : G.fns[i]? = some F_is_number) (hj : G.fns[j]? = some (F_is_from i)) (hm : G.fns[m]? = some (F_are_ends g j)) (hg : G.glob[g]? = some (.int 400)) {d : D} {c : Int} (gd : good h.length d = true) :
    callN G (k + 3) m [d, .int c] h = .ok (.bl (match d with | .tup xs => decide (1 ≤ xs.length) && decide (xs.length ≤ 400) && areEnds c xs | _ => false)) h := by
  rw [call_eq (F_are_ends g j) hm rfl]
  have i1 := isi_good (t := .tuple) gd (by decide)
  simp only [P_are_ends, List.map_cons, List.map_nil]
  cases d with
  | tup xs =>
    simp only [good, goods_all] at gd
    obtain ⟨ρ', _, e⟩ := forL_all (keep := fun _ => true) (f := forB (G.cf (k + 2)) (Pb1_are_ends g j) (.name 2)) (h := h) (d := .bl false) (isFrom 0 (c - 1)) (fun ρ => ∃ a, ρ = [some (.tup xs), some (.int c), a]) rfl xs (by
      rintro x hx ρ ⟨a, rfl⟩
      have gx := List.all_eq_true.mp gd x hx
      have cl := from_ok (k := k) (lo := 0) (hi := c - 1) hi hj gx
      cases hk : isFrom 0 (c - 1) x <;> simp [forB_name, Pb1_are_ends, cl, hk])
      [some (.tup xs), some (.int c), none] ⟨none, rfl⟩
    by_cases h1 : xs.length < 1
    · have h1' : ((xs.length : Int) < 1) := by omega
      have h2 : ¬ (1 ≤ xs.length) := by omega
      simp [h1', h2]
    · have h1' : ¬ ((xs.length : Int) < 1) := by omega
      have h2 : 1 ≤ xs.length := by omega
      by_cases hl : xs.length ≤ 400
      · have hl' : ¬ ((400 : Int) < (xs.length : Int)) := by omega
        rw [show xs.all (isFrom 0 (c - 1)) = areEnds c xs from rfl] at e
        cases ha : areEnds c xs <;> simp only [ha] at e <;> simp [hg, hl, hl', h1', h2, e, ha]
      · have hl' : ((400 : Int) < (xs.length : Int)) := by omega
        simp [hg, hl, hl', h1', h2]
  | _ => simp [i1, tyB]
/-- a net, by what it is -/
def isNet : D → Bool
  | .tup [.int w, .tup ks, .tup es] => decide (1 ≤ w) && decide (w ≤ 64) && (decide (ks.length ≤ 1000) && areKnots w 0 ks) && (decide (1 ≤ es.length) && decide (es.length ≤ 400) && areEnds (w + ks.length) es)
  | _ => false
/-- where the questions about nets stand -/
structure NetF (G : Pg) (i j m q e n g1 g2 g3 : Nat) : Prop where
  hi : G.fns[i]? = some F_is_number
  hj : G.fns[j]? = some (F_is_from i)
  hm : G.fns[m]? = some (F_is_knot j)
  hq : G.fns[q]? = some (F_are_knots g2 m)
  he : G.fns[e]? = some (F_are_ends g3 j)
  hn : G.fns[n]? = some (F_is_net q j g1 e)
  hg1 : G.glob[g1]? = some (.int 64)
  hg2 : G.glob[g2]? = some (.int 1000)
  hg3 : G.glob[g3]? = some (.int 400)
theorem net_ok {i j m q e n g1 g2 g3 : Nat} (N : NetF G i j m q e n g1 g2 g3) {d : D} (gd : good h.length d = true) : callN G (k + 5) n [d] h = .ok (.bl (isNet d)) h := by
  rw [call_eq (F_is_net q j g1 e) N.hn rfl]
  have i1 := isi_good (t := .tuple) gd (by decide)
  simp only [P_is_net, List.map_cons, List.map_nil]
  cases d with
  | tup xs =>
    simp only [good, goods_all] at gd
    match xs, gd with
    | [], _ => simp [isNet]
    | [a], _ => simp [isNet]
    | [a, b], _ => simp [isNet]
    | a :: b :: c :: d :: r, _ =>
      have : ¬ ((r.length : Int) + 1 + 1 + 1 + 1 = 3) := by omega
      simp [isNet, this]
    | [a, b, c], gd =>
      simp only [List.all_cons, List.all_nil, Bool.and_true, Bool.and_eq_true] at gd
      have fr := from_ok (k := k + 2) (lo := 1) (hi := 64) N.hi N.hj gd.1
      cases a with
      | int w =>
        have kn := knots_ok (k := k) (w := w) N.hi N.hj N.hm N.hq N.hg2 gd.2.1
        by_cases hw : 1 ≤ w ∧ w ≤ 64
        · simp only [isFrom, hw.1, hw.2, decide_true, Bool.and_true] at fr
          cases b with
          | tup ks =>
            have en := ends_ok (k := k + 1) (c := w + (ks.length : Int)) N.hi N.hj N.he N.hg3 gd.2.2
            simp only at kn
            cases hk : (decide (ks.length ≤ 1000) && areKnots w 0 ks) with
            | true =>
              rw [hk] at kn
              simp [N.hg1, fr, kn, en]
              cases c <;> simp [isNet, hw.1, hw.2, hk]
            | false =>
              rw [hk] at kn
              simp [N.hg1, fr, kn]
              cases c <;> simp [isNet, hk]
          | _ => simp [N.hg1, fr, kn, isNet]
        · have hf : isFrom 1 64 (.int w) = false := by
            simp only [isFrom]
            by_cases h1 : 1 ≤ w <;> by_cases h2 : w ≤ 64 <;> simp [h1, h2]
            exact hw ⟨h1, h2⟩
          rw [hf] at fr
          have hn : isNet (.tup [.int w, b, c]) = false := by
            unfold isNet
            split
            · rename_i heq
              cases heq
              by_cases h1 : 1 ≤ w <;> by_cases h2 : w ≤ 64 <;> simp [h1, h2]
              exact absurd ⟨h1, h2⟩ hw
            · rfl
          simp [N.hg1, fr, hn]
      | _ => simp [N.hg1, fr, isNet, isFrom]
  | _ => simp [i1, tyB, isNet]
end
end Ly

set_option Elab.async false
set_option linter.all false
set_option maxRecDepth 100000
set_option maxHeartbeats 400000
set_option autoImplicit false
/-! PkGd: the law's own drawn nets, as terms. -/
namespace Ly
open PySem
/- _law_beside (_law_spans, _law_left): 0 _law_spans, 1 _law_left, 2 _law_number -/
def P_law_beside : S :=
  .cat (.ret (.comp [2] (.name 2) (.rng1 (.bi .len (.cons (.var 0) .nil))) (.cmp .eq (.idx (.idx (.var 0) (.var 2)) (.int 0)) (.bin .add (.idx (.idx (.var 0) (.var 1)) (.int 1)) (.int 1))) (.var 2))) <|
  .skip
abbrev F_law_beside : Fn := ⟨2, 3, P_law_beside ⟩
/- _law_knot (_law_state, _law_spans, _law_loose): 0 _law_state, 1 _law_spans, 2 _law_loose, 3 _law_left, 4 _law_some -/
def P_law_knot (i_law_next i_law_beside : Nat) : S :=
  .cat (.asg (.name 3) (.call i_law_next (.cons (.var 0) (.cons (.bi .len (.cons (.var 1) .nil)) .nil)))) <|
  .cat (.asg (.name 4) (.call i_law_beside (.cons (.var 1) (.cons (.var 3) .nil)))) <|
  .cat (.ifS (.or (.cmp .eq (.var 4) (.lst .nil)) (.one (.var 2))) (.cat (.asg (.name 3) (.call i_law_next (.cons (.var 0) (.cons (.bin .sub (.bi .len (.cons (.var 1) .nil)) (.int 1)) .nil)))) <|
    .cat (.asg (.name 4) (.call i_law_beside (.cons (.var 1) (.cons (.var 3) .nil)))) <|
    .skip) (.skip)) <|
  .cat (.ifS (.or (.cmp .eq (.var 4) (.lst .nil)) (.one (.and (.var 2) (.one (.cmp .eq (.call i_law_next (.cons (.var 0) (.cons (.int 3) .nil))) (.int 0)))))) (.cat (.ret (.tup (.cons (.var 3) (.cons (.call i_law_next (.cons (.var 0) (.cons (.bi .len (.cons (.var 1) .nil)) .nil))) .nil)))) <|
    .skip) (.skip)) <|
  .cat (.ret (.tup (.cons (.var 3) (.cons (.idx (.var 4) (.call i_law_next (.cons (.var 0) (.cons (.bi .len (.cons (.var 4) .nil)) .nil)))) .nil)))) <|
  .skip
abbrev F_law_knot (i_law_next i_law_beside : Nat) : Fn := ⟨3, 5, P_law_knot i_law_next i_law_beside⟩
/- _law_net (_law_state, _law_loose): 0 _law_state, 1 _law_loose, 2 _law_width, 3 _law_spans, 4 _law_knots, 5 _law_k, 6 _law_left, 7 _law_right, 8 _law_ends, 9 _law_place -/
def Pb1_law_net (i_law_next i_law_knot : Nat) : S :=
  .cat (.ifS (.cmp .gt (.var 2) (.int 1)) (.cat (.asg (.tup [6, 7]) (.call i_law_knot (.cons (.var 0) (.cons (.var 3) (.cons (.var 1) .nil))))) <|
    .cat (.ifS (.or (.var 1) (.one (.cmp .eq (.bin .add (.idx (.idx (.var 3) (.var 6)) (.int 1)) (.int 1)) (.idx (.idx (.var 3) (.var 7)) (.int 0))))) (.cat (.ex (.meth .append (.var 4) (.cons (.tup (.cons (.var 6) (.cons (.var 7) .nil))) .nil))) <|
      .cat (.ex (.meth .append (.var 3) (.cons (.tup (.cons (.idx (.idx (.var 3) (.var 6)) (.int 0)) (.cons (.idx (.idx (.var 3) (.var 7)) (.int 1)) .nil))) .nil))) <|
      .skip) (.skip)) <|
    .skip) (.skip)) <|
  .skip
def P_law_net (i_law_next i_law_knot : Nat) : S :=
  .cat (.asg (.name 2) (.idx (.lst (.cons (.bin .add (.int 1) (.call i_law_next (.cons (.var 0) (.cons (.int 9) .nil)))) (.cons (.bin .add (.int 1) (.call i_law_next (.cons (.var 0) (.cons (.int 64) .nil)))) .nil))) (.bi .int (.cons (.cmp .eq (.call i_law_next (.cons (.var 0) (.cons (.int 4) .nil))) (.int 0)) .nil)))) <|
  .cat (.asg (.name 3) (.comp [9] (.name 9) (.rng1 (.var 2)) (.bl true) (.tup (.cons (.var 9) (.cons (.var 9) .nil))))) <|
  .cat (.asg (.name 4) (.lst .nil)) <|
  .cat (.forS (.name 5) (.rng1 (.idx (.lst (.cons (.call i_law_next (.cons (.var 0) (.cons (.int 12) .nil))) (.cons (.call i_law_next (.cons (.var 0) (.cons (.int 60) .nil))) .nil))) (.bi .int (.cons (.cmp .eq (.call i_law_next (.cons (.var 0) (.cons (.int 4) .nil))) (.int 0)) .nil)))) (Pb1_law_net i_law_next i_law_knot)) <|
  .cat (.asg (.name 8) (.comp [5] (.name 5) (.rng1 (.bin .add (.int 1) (.call i_law_next (.cons (.var 0) (.cons (.int 9) .nil))))) (.bl true) (.call i_law_next (.cons (.var 0) (.cons (.bi .len (.cons (.var 3) .nil)) .nil))))) <|
  .cat (.ret (.tup (.cons (.var 2) (.cons (.bi .tuple (.cons (.var 4) .nil)) (.cons (.bi .tuple (.cons (.var 8) .nil)) .nil))))) <|
  .skip
abbrev F_law_net (i_law_next i_law_knot : Nat) : Fn := ⟨2, 10, P_law_net i_law_next i_law_knot⟩
end Ly

set_option Elab.async false
set_option linter.all false
set_option maxRecDepth 100000
set_option maxHeartbeats 400000
set_option autoImplicit false
/-! PkG: the law's own drawn nets. -/
namespace Ly
open PySem
def iD (n : Nat) : D := .int (n : Int)
def pD (p : Nat × Nat) : D := .tup [.int (p.1 : Int), .int (p.2 : Int)]
theorem lt_pD {n : Nat} (sp : List (Nat × Nat)) : D.lts n (sp.map pD) = true := by
  rw [lts_all]; simp [pD, D.lt, D.lts]
theorem lt_iD {n : Nat} (ns : List Nat) : D.lts n (ns.map iD) = true := by
  rw [lts_all]; simp [iD, D.lt]
theorem fm_filter {α β : Type} {f : α → Option β} {p : α → Bool} {g : α → β} (hf : ∀ x, f x = if p x then some (g x) else none) : ∀ xs : List α, xs.filterMap f = (xs.filter p).map g
  | [] => rfl
  | x :: xs => by
    rw [List.filterMap_cons, List.filter_cons, hf x, fm_filter hf xs]
    cases p x <;> simp
section
variable {G : Pg} {k n : Nat} {cs : List Int} {h h' : Hh}
theorem x_pD {s i : Nat} {sp : List (Nat × Nat)} (e : lstAt h s = some (sp.map pD)) (hi : i < sp.length) : idxD h (.ref s) (.int (i : Int)) = .ok (pD sp[i]) h := by
  rw [x_ref e, at_nat, List.getElem?_map, List.getElem?_eq_getElem hi]; rfl
theorem x_fst (p : Nat × Nat) : idxD h (pD p) (.int 0) = .ok (.int (p.1 : Int)) h := by simp [pD]
theorem x_snd (p : Nat × Nat) : idxD h (pD p) (.int 1) = .ok (.int (p.2 : Int)) h := by simp [pD]
def beside (sp : List (Nat × Nat)) (l : Nat) : List Nat := (List.range sp.length).filter fun i => decide (((sp.getD i (0, 0)).1 : Int) = ((sp.getD l (0, 0)).2 : Int) + 1)
theorem beside_ok {b s l : Nat} {sp : List (Nat × Nat)} (hf : G.fns[b]? = some F_law_beside) (e : lstAt h s = some (sp.map pD)) (hl : l < sp.length) (hz : sp.length ≤ 1000000) :
    callN G (k + 1) b [.ref s, .int (l : Int)] h = .ok (.ref h.length) (h ++ [.lst ((beside sp l).map iD)]) := by
  rw [call_eq F_law_beside hf rfl]
  have hc : compL (fun _ => true) (compT (G.cf k) [some (.ref s), some (.int (l : Int)), none] (.cmp .eq (.idx (.idx (.var 0) (.var 2)) (.int 0)) (.bin .add (.idx (.idx (.var 0) (.var 1)) (.int 1)) (.int 1))) (.var 2) [2] (.name 2)) (rangeL 0 sp.length) h = .ok ((beside sp l).map iD) h := by
    rw [compL_map (g := fun x => match x with | .int i => if ((sp.getD i.toNat (0, 0)).1 : Int) = ((sp.getD l (0, 0)).2 : Int) + 1 then some x else none | _ => none) rfl]
    · rw [rangeL_eq]
      unfold beside
      simp only [List.filterMap_map, Function.comp_def, Int.zero_add, Int.toNat_natCast]
      rw [fm_filter (g := iD) fun i => ?_]
      by_cases hh : ((sp.getD i (0, 0)).1 : Int) = ((sp.getD l (0, 0)).2 : Int) + 1 <;> simp [hh, iD]
    · intro x hx
      obtain ⟨i, hi, rfl⟩ := mem_rangeL hx
      rw [Int.zero_add]
      have g1 : sp.getD i (0, 0) = sp[i] := by simp [hi]
      have g2 : sp.getD l (0, 0) = sp[l] := by simp [hl]
      simp only [Int.toNat_natCast, g1, g2]
      simp [compT_name, wipeD, x_pD e hi, x_pD e hl, x_fst, x_snd]
      split <;> simp
  have hbl : (beside sp l).length ≤ sp.length := by
    have := List.length_filter_le (fun i => decide (((sp.getD i (0, 0)).1 : Int) = ((sp.getD l (0, 0)).2 : Int) + 1)) (List.range sp.length)
    simpa [beside] using this
  simp only [P_law_beside, List.map_cons, List.map_nil]
  simp [l_ref e, rg1_ok (j := (sp.length : Int)) (by omega) (by omega), hc, sz (n := (beside sp l).length) (by omega), fin, gc, D.lt]
theorem beside_lt {sp : List (Nat × Nat)} {l y : Nat} (hy : y ∈ beside sp l) : y < sp.length := by
  unfold beside at hy
  exact List.mem_range.mp (List.mem_filter.mp hy).1

theorem toPs_iD {r : Nat} : ∀ ys : List Nat, toPs h r (ys.map iD) = some (ys.map fun y : Nat => PyData.int (y : Int))
  | [] => by simp [toPs]
  | y :: ys => by simp [toPs, iD, toP, toPs_iD ys]
theorem lay_ints : ∀ ys : List Nat, PyData.canLayAll0 (ys.map fun y : Nat => PyData.int (y : Int)) = true ∧ PyData.depthAll (ys.map fun y : Nat => PyData.int (y : Int)) ≤ 1
  | [] => by simp [PyData.canLayAll0, PyData.depthAll]
  | y :: ys => by
    have := lay_ints ys
    simp [PyData.canLayAll0, PyData.depthAll, PyData.canLay0, PyData.depth, this.1]
    omega
theorem eq_emp {m q : Nat} {ys : List Nat} (h1 : lstAt h m = some (ys.map iD)) (h2 : lstAt h q = some []) : eqD h (.ref m) (.ref q) = some ys.isEmpty := by
  have l := lay_ints ys
  have s1 : SeqAt.shaped (.list (ys.map fun y : Nat => PyData.int (y : Int))) = true := shaped_of (by simp [PyData.canLay0, l.1]) (by simp [PyData.depth]; omega)
  have s2 : SeqAt.shaped (.list []) = true := shaped_of (by simp [PyData.canLay0, PyData.canLayAll0]) (by simp [PyData.depth, PyData.depthAll])
  simp only [eqD, toP, h1, h2, toPs_iD, toPs, Option.map_some, s1, s2, Bool.and_self, if_true]
  cases ys <;> simp [PyData.eqv, PyData.eqvAll]
/-- the drawn knot's end -/
def knB (i_law_next : Nat) : S :=
  .cat (.ifS (.or (.cmp .eq (.var 4) (.lst .nil)) (.one (.and (.var 2) (.one (.cmp .eq (.call i_law_next (.cons (.var 0) (.cons (.int 3) .nil))) (.int 0)))))) (.cat (.ret (.tup (.cons (.var 3) (.cons (.call i_law_next (.cons (.var 0) (.cons (.bi .len (.cons (.var 1) .nil)) .nil))) .nil)))) <|
    .skip) (.skip)) <|
  .cat (.ret (.tup (.cons (.var 3) (.cons (.idx (.var 4) (.call i_law_next (.cons (.var 0) (.cons (.bi .len (.cons (.var 4) .nil)) .nil)))) .nil)))) <|
  .skip
theorem x_iD {m i : Nat} {ys : List Nat} (e : lstAt h m = some (ys.map iD)) (hi : i < ys.length) : idxD h (.ref m) (.int (i : Int)) = .ok (.int (ys[i] : Int)) h := by
  rw [x_ref e, at_nat, List.getElem?_map, List.getElem?_eq_getElem hi]; rfl
theorem l_iD {m : Nat} {ys : List Nat} (e : lstAt h m = some (ys.map iD)) : biD h .len [.ref m] = .ok (.int (ys.length : Int)) h := by rw [l_ref e]; simp
theorem l_pD {m : Nat} {ys : List (Nat × Nat)} (e : lstAt h m = some (ys.map pD)) : biD h .len [.ref m] = .ok (.int (ys.length : Int)) h := by rw [l_ref e]; simp
theorem knB_ok {i s y l : Nat} {sp : List (Nat × Nat)} {ys : List Nat} {loose : Bool} (hi : G.fns[i]? = some ⟨2, 4, irNext⟩) (a : Ex n cs h h') (e : lstAt h' s = some (sp.map pD)) (hs : s ≠ n) (ey : lstAt h' y = some (ys.map iD)) (hy : y ≠ n) (hl : l < sp.length) (hys : ∀ z ∈ ys, z < sp.length) (hz : sp.length ≤ 1000000) (hyz : ys.length ≤ 1000000) :
    ∃ r h2, evS (G.cf (k + 1)) (knB i) [some (.ref n), some (.ref s), some (.bl loose), some (.int (l : Int)), some (.ref y)] h' = .ret (pD (l, r)) h2 ∧ Ex n cs h h2 ∧ r < sp.length := by
  have a1 : Ex n cs h (h' ++ [.lst []]) := a.app rfl
  have q1 := eq_emp (lstAt_app (g := [.lst []]) ey) (lstAt_new (h := h') (xs := []))
  have pick : ∀ h3, Ex n cs h h3 → lstAt h3 s = some (sp.map pD) → ∃ (r : Nat) (h2 : Hh), callN G (k + 1) i [.ref n, .int (sp.length : Int)] h3 = .ok (.int (r : Int)) h2 ∧ Ex n cs h h2 ∧ r < sp.length := fun h3 a3 e3 => by
    obtain ⟨v, h2, hv, ec, a4, _, _⟩ := a3.draw (k := k) (b := (sp.length : Int)) hi (by omega) (by omega)
    exact ⟨v, h2, ec, a4, by omega⟩
  have pickY : ys ≠ [] → ∀ h3, Ex n cs h h3 → lstAt h3 y = some (ys.map iD) → ∃ (r : Nat) (h2 : Hh) (z : Nat), callN G (k + 1) i [.ref n, .int (ys.length : Int)] h3 = .ok (.int (r : Int)) h2 ∧ Ex n cs h h2 ∧ idxD h2 (.ref y) (.int (r : Int)) = .ok (.int (z : Int)) h2 ∧ z < sp.length := fun hne h3 a3 e3 => by
    have hp : 0 < ys.length := List.length_pos_iff.mpr hne
    obtain ⟨v, h2, hv, ec, a4, _, o4⟩ := a3.draw (k := k) (b := (ys.length : Int)) hi (by omega) (by omega)
    have hv' : v < ys.length := by omega
    exact ⟨v, h2, ys[v], ec, a4, x_iD (by rw [o4 y hy]; exact e3) hv', hys _ (List.getElem_mem hv')⟩
  by_cases hE : ys = []
  · subst hE
    obtain ⟨r, h2, ec, a4, hr⟩ := pick _ a1 (lstAt_app e)
    refine ⟨r, h2, ?_, a4, hr⟩
    simp [knB, c_eqD q1, l_pD (lstAt_app e), ec, sz, pD]
  · have hne : ys.isEmpty = false := by cases ys <;> simp_all
    rw [hne] at q1
    cases loose with
    | false =>
      obtain ⟨r, h2, z, ec, a4, ex, hr⟩ := pickY hE _ a1 (lstAt_app ey)
      refine ⟨z, h2, ?_, a4, hr⟩
      simp [knB, c_eqD q1, l_iD (lstAt_app ey), ec, ex, sz, pD]
    | true =>
      obtain ⟨v, h3, hv, ec3, a3, l3, o3⟩ := a1.draw (k := k) (b := 3) hi (by decide) (by decide)
      by_cases hv0 : v = 0
      · subst hv0
        obtain ⟨r, h2, ec, a4, hr⟩ := pick _ a3 (by rw [o3 s hs]; exact lstAt_app e)
        refine ⟨r, h2, ?_, a4, hr⟩
        have e3 : lstAt h3 s = some (sp.map pD) := by rw [o3 s hs]; exact lstAt_app e
        simp at ec3
        simp [knB, c_eqD q1, ec3, l_pD e3, ec, sz, pD]
      · have e3 : lstAt h3 y = some (ys.map iD) := by rw [o3 y hy]; exact lstAt_app ey
        obtain ⟨r, h2, z, ec, a4, ex, hr⟩ := pickY hE _ a3 e3
        refine ⟨z, h2, ?_, a4, hr⟩
        simp [knB, c_eqD q1, ec3, hv0, l_iD e3, ec, ex, sz, pD]

theorem lknot_ok {i b m s : Nat} {sp : List (Nat × Nat)} {loose : Bool} (hi : G.fns[i]? = some ⟨2, 4, irNext⟩) (hb : G.fns[b]? = some F_law_beside) (hm : G.fns[m]? = some (F_law_knot i b)) (st : Sta h n cs) (w : wf h) (e : lstAt h s = some (sp.map pD)) (hs : s ≠ n) (h2 : 2 ≤ sp.length) (hz : sp.length ≤ 1000000) :
    ∃ l r h', callN G (k + 2) m [.ref n, .ref s, .bl loose] h = .ok (pD (l, r)) h' ∧ Ex n cs h h' ∧ h'.length = h.length ∧ l < sp.length ∧ r < sp.length := by
  have hbl : ∀ l, (beside sp l).length ≤ 1000000 := fun l => by
    have := List.length_filter_le (fun i => decide (((sp.getD i (0, 0)).1 : Int) = ((sp.getD l (0, 0)).2 : Int) + 1)) (List.range sp.length)
    have : (beside sp l).length ≤ sp.length := by simpa [beside] using this
    omega
  have hn := st.lt
  rw [call_eq (F_law_knot i b) hm rfl]
  suffices H : ∃ l r h1, evS (G.cf (k + 1)) (P_law_knot i b) [some (.ref n), some (.ref s), some (.bl loose), none, none] h = .ret (pD (l, r)) h1 ∧ Ex n cs h h1 ∧ l < sp.length ∧ r < sp.length by
    obtain ⟨l, r, h1, e1, a1, hl, hr⟩ := H
    obtain ⟨h2, e2, a2, l2⟩ := a1.fin hn w (d := pD (l, r)) (by simp [pD, D.lt, D.lts])
    exact ⟨l, r, h2, by simp only [List.map_cons, List.map_nil]; exact (congrArg _ e1).trans e2, a2, l2, hl, hr⟩
  obtain ⟨v, h1, hv, ec1, a1, l1, o1⟩ := (Ex.refl st w).draw (k := k) (b := (sp.length : Int)) hi (by omega) (by omega)
  have e1 : lstAt h1 s = some (sp.map pD) := by rw [o1 s hs]; exact e
  have hv' : v < sp.length := by omega
  have eb1 := beside_ok (k := k) hb e1 hv' hz
  have a2 : Ex n cs h (h1 ++ [.lst ((beside sp v).map iD)]) := a1.app (lt_iD _)
  have y2 : lstAt (h1 ++ [.lst ((beside sp v).map iD)]) h1.length = some ((beside sp v).map iD) := lstAt_new
  have s2 : lstAt (h1 ++ [.lst ((beside sp v).map iD)]) s = some (sp.map pD) := lstAt_app e1
  generalize h1 ++ [.lst ((beside sp v).map iD)] = hb2 at eb1 a2 y2 s2
  have a3 : Ex n cs h (hb2 ++ [.lst []]) := a2.app rfl
  have q1 := eq_emp (lstAt_app (g := [.lst []]) y2) (lstAt_new (h := hb2) (xs := []))
  have hP : P_law_knot i b = .cat (.asg (.name 3) (.call i (.cons (.var 0) (.cons (.bi .len (.cons (.var 1) .nil)) .nil)))) (.cat (.asg (.name 4) (.call b (.cons (.var 1) (.cons (.var 3) .nil)))) (.cat (.ifS (.or (.cmp .eq (.var 4) (.lst .nil)) (.one (.var 2))) (.cat (.asg (.name 3) (.call i (.cons (.var 0) (.cons (.bin .sub (.bi .len (.cons (.var 1) .nil)) (.int 1)) .nil)))) <|
    .cat (.asg (.name 4) (.call b (.cons (.var 1) (.cons (.var 3) .nil)))) <|
    .skip) (.skip)) (knB i))) := rfl
  have n1 : h1.length ≠ n := by omega
  by_cases hc : (beside sp v).isEmpty = true ∨ loose = true
  · have a3s := a3
    obtain ⟨v2, h4, hv2, ec4, a4, l4, o4⟩ := a3.draw (k := k) (b := (sp.length : Int) - 1) hi (by omega) (by omega)
    have e4 : lstAt h4 s = some (sp.map pD) := by rw [o4 s hs]; exact lstAt_app s2
    have hv2' : v2 < sp.length := by omega
    have eb4 := beside_ok (k := k) hb e4 hv2' hz
    have a5 : Ex n cs h (h4 ++ [.lst ((beside sp v2).map iD)]) := a4.app (lt_iD _)
    obtain ⟨r, h6, e6, a6, hr⟩ := knB_ok (k := k) (loose := loose) hi a5 (lstAt_app e4) hs lstAt_new (by have := a4.st.lt; omega) hv2' (fun z => beside_lt) hz (hbl v2)
    refine ⟨v2, r, h6, ?_, a6, hv2', hr⟩
    rw [hP, ← e6]
    have lp := l_pD (lstAt_app (g := [.lst []]) s2)
    rcases hc with hc | hc
    · rw [hc] at q1
      simp [l_pD e, ec1, eb1, c_eqD q1, lp, ec4, eb4]
    · subst hc
      cases hq : (beside sp v).isEmpty <;> rw [hq] at q1 <;> simp [l_pD e, ec1, eb1, c_eqD q1, lp, ec4, eb4]
  · have hc1 : (beside sp v).isEmpty = false := by
      cases z : (beside sp v).isEmpty
      · rfl
      · exact absurd (.inl z) hc
    have hc2 : loose = false := by
      cases loose
      · rfl
      · exact absurd (.inr rfl) hc
    subst hc2
    obtain ⟨r, h6, e6, a6, hr⟩ := knB_ok (k := k) (loose := false) hi a3 (lstAt_app s2) hs (lstAt_app y2) n1 hv' (fun z => beside_lt) hz (hbl v)
    refine ⟨v, r, h6, ?_, a6, hv', hr⟩
    rw [hP, ← e6]
    rw [hc1] at q1
    simp [l_pD e, ec1, eb1, c_eqD q1]
end
theorem compL_inv {keep : Hh → Bool} {f : D → Hh → Res (Option D)} (I : List D → Hh → Prop) (hk : ∀ ys h, I ys h → keep h = true) : ∀ (xs : List D), (∀ x ∈ xs, ∀ ys h, I ys h → ∃ y h', f x h = .ok (some y) h' ∧ I (ys ++ [y]) h') → ∀ ys h, I ys h → ∃ zs h', compL keep f xs h = .ok zs h' ∧ I (ys ++ zs) h' ∧ zs.length = xs.length
  | [], _, ys, h, i => ⟨[], h, by simp [compL, hk ys h i], by simpa using i, rfl⟩
  | x :: xs, step, ys, h, i => by
    obtain ⟨y, h1, e1, i1⟩ := step x (by simp) ys h i
    obtain ⟨zs, h2, e2, i2, l2⟩ := compL_inv I hk xs (fun z hz => step z (by simp [hz])) (ys ++ [y]) h1 i1
    refine ⟨y :: zs, h2, ?_, by simpa using i2, by simp [l2]⟩
    unfold compL
    rw [hk ys h i, if_pos rfl, e1]
    simp only [Res.ok_bind, e2]
    rfl
theorem compL_ix {keep : Hh → Bool} {f : D → Hh → Res (Option D)} (I : List D → Hh → Prop) (hk : ∀ ys h, I ys h → keep h = true) : ∀ (xs : List D) (m : Nat), (∀ i x, xs[i]? = some x → ∀ ys h, ys.length = m + i → I ys h → ∃ y h', f x h = .ok (some y) h' ∧ I (ys ++ [y]) h') → ∀ ys h, ys.length = m → I ys h → ∃ zs h', compL keep f xs h = .ok zs h' ∧ I (ys ++ zs) h' ∧ zs.length = xs.length
  | [], _, _, ys, h, _, i => ⟨[], h, by simp [compL, hk ys h i], by simpa using i, rfl⟩
  | x :: xs, m, step, ys, h, hm, i => by
    obtain ⟨y, h1, e1, i1⟩ := step 0 x (by simp) ys h hm i
    obtain ⟨zs, h2, e2, i2, l2⟩ := compL_ix I hk xs (m + 1) (fun j z hz ys h hl q => step (j + 1) z (by simpa using hz) ys h (by omega) q) (ys ++ [y]) h1 (by simp [hm]) i1
    refine ⟨y :: zs, h2, ?_, by simpa using i2, by simp [l2]⟩
    unfold compL
    rw [hk ys h i, if_pos rfl, e1]
    simp only [Res.ok_bind, e2]
    rfl
/-! ### spans -/
abbrev g2 (sp : List (Nat × Nat)) (i : Nat) : Nat × Nat := sp.getD i (0, 0)
def spA (sp : List (Nat × Nat)) : List (Nat × Nat) → List (Nat × Nat)
  | [] => sp
  | p :: ks => spA (sp ++ [((g2 sp p.1).1, (g2 sp p.2).2)]) ks
def base (w : Nat) : List (Nat × Nat) := (List.range w).map fun i => (i, i)
def spn (w : Nat) (ks : List (Nat × Nat)) : List (Nat × Nat) := spA (base w) ks
theorem spA_app (p : Nat × Nat) : ∀ (ks sp : List (Nat × Nat)), spA sp (ks ++ [p]) = spA sp ks ++ [((g2 (spA sp ks) p.1).1, (g2 (spA sp ks) p.2).2)]
  | [], sp => rfl
  | q :: ks, sp => by simp only [List.cons_append, spA]; exact spA_app p ks _
theorem spA_len : ∀ (ks sp : List (Nat × Nat)), (spA sp ks).length = sp.length + ks.length
  | [], sp => rfl
  | q :: ks, sp => by simp [spA, spA_len ks]; omega
theorem spn_app (w : Nat) (p : Nat × Nat) (ks : List (Nat × Nat)) : spn w (ks ++ [p]) = spn w ks ++ [((g2 (spn w ks) p.1).1, (g2 (spn w ks) p.2).2)] := spA_app p ks _
theorem spn_len (w : Nat) (ks : List (Nat × Nat)) : (spn w ks).length = w + ks.length := by unfold spn base; rw [spA_len]; simp
def vK (w : Nat) (ks : List (Nat × Nat)) : Prop := ∀ (i : Nat) (p : Nat × Nat), ks[i]? = some p → p.1 < w + i ∧ p.2 < w + i
def rK (w : Nat) (ks : List (Nat × Nat)) : Prop := ∀ (i : Nat) (p : Nat × Nat), ks[i]? = some p → (g2 (spn w ks) p.1).2 + 1 = (g2 (spn w ks) p.2).1
theorem snoc_get {α : Type} {xs : List α} {x y : α} {i : Nat} (h : (xs ++ [x])[i]? = some y) : (xs[i]? = some y ∧ i < xs.length) ∨ (i = xs.length ∧ y = x) := by
  by_cases hi : i < xs.length
  · rw [List.getElem?_append_left hi] at h; exact .inl ⟨h, hi⟩
  · have : i < (xs ++ [x]).length := (List.getElem?_eq_some_iff.mp h).1
    have hi' : i = xs.length := by simp at this; omega
    subst hi'
    simp at h
    exact .inr ⟨rfl, h.symm⟩
theorem g2_app {sp t : List (Nat × Nat)} {i : Nat} (h : i < sp.length) : g2 (sp ++ t) i = g2 sp i := by
  simp [g2, List.getD_eq_getElem?_getD, List.getElem?_append_left h]
theorem vK.snoc {w : Nat} {ks : List (Nat × Nat)} {p : Nat × Nat} (v : vK w ks) (h1 : p.1 < w + ks.length) (h2 : p.2 < w + ks.length) : vK w (ks ++ [p]) := fun i q h => by
  rcases snoc_get h with ⟨h, _⟩ | ⟨rfl, rfl⟩
  · exact v i q h
  · exact ⟨h1, h2⟩
theorem rK.snoc {w : Nat} {ks : List (Nat × Nat)} {p : Nat × Nat} (v : vK w ks) (r : rK w ks) (h1 : p.1 < w + ks.length) (h2 : p.2 < w + ks.length) (hp : (g2 (spn w ks) p.1).2 + 1 = (g2 (spn w ks) p.2).1) : rK w (ks ++ [p]) := fun i q h => by
  rw [spn_app]
  rcases snoc_get h with ⟨h, hi⟩ | ⟨rfl, rfl⟩
  · have := v i q h
    rw [g2_app (by rw [spn_len]; omega), g2_app (by rw [spn_len]; omega)]
    exact r i q h
  · rw [g2_app (by rw [spn_len]; omega), g2_app (by rw [spn_len]; omega)]
    exact hp
/-- a drawn net -/
structure DNet (loose : Bool) (w : Nat) (ks : List (Nat × Nat)) (es : List Nat) : Prop where
  w1 : 1 ≤ w
  w2 : w ≤ 64
  k : ks.length ≤ 60
  v : vK w ks
  r : loose = false → rK w ks
  e1 : 1 ≤ es.length
  e2 : es.length ≤ 9
  e : ∀ x ∈ es, x < w + ks.length
def netD (w : Nat) (ks : List (Nat × Nat)) (es : List Nat) : D := .tup [iD w, .tup (ks.map pD), .tup (es.map iD)]
theorem getD_g2 {sp : List (Nat × Nat)} {i : Nat} (h : i < sp.length) : sp[i] = g2 sp i := by simp [g2, h]
section
variable {G : Pg} {k n : Nat} {cs : List Int} {h h' : Hh}
/-- one turn -/
theorem lnet_turn {i b m s t w : Nat} {loose : Bool} {x : D} {a1 a2 a3 : Option D} {ks : List (Nat × Nat)} (hi : G.fns[i]? = some ⟨2, 4, irNext⟩) (hb : G.fns[b]? = some F_law_beside) (hm : G.fns[m]? = some (F_law_knot i b))
    (a : Ex n cs h h') (es : lstAt h' s = some ((spn w ks).map pD)) (et : lstAt h' t = some (ks.map pD)) (hs : h.length ≤ s) (ht : h.length ≤ t) (hst : s ≠ t) (hn : n < h.length) (hz : w + ks.length ≤ 100000) (v : vK w ks) (r : loose = false → rK w ks) :
    ∃ a1' a2' a3' h2 ks', forB (G.cf (k + 2)) (Pb1_law_net i m) (.name 5) x [some (.ref n), some (.bl loose), some (.int (w : Int)), some (.ref s), some (.ref t), a1, a2, a3, none, none] h' = .next [some (.ref n), some (.bl loose), some (.int (w : Int)), some (.ref s), some (.ref t), a1', a2', a3', none, none] h2 ∧
      Ex n cs h h2 ∧ lstAt h2 s = some ((spn w ks').map pD) ∧ lstAt h2 t = some (ks'.map pD) ∧ ks'.length ≤ ks.length + 1 ∧ vK w ks' ∧ (loose = false → rK w ks') ∧ h2.length = h'.length := by
  by_cases hw : 1 < w
  rotate_left
  · have hw' : ¬ ((1 : Int) < (w : Int)) := by omega
    exact ⟨some x, a2, a3, h', ks, by simp [forB_name, Pb1_law_net, hw'], a, es, et, by omega, v, r, rfl⟩
  have hw' : ((1 : Int) < (w : Int)) := by omega
  obtain ⟨l, q, h2, ek, e2, l2, hl, hq⟩ := lknot_ok (k := k) (loose := loose) hi hb hm a.st a.wf es (by omega) (by rw [spn_len]; omega) (by rw [spn_len]; omega)
  have a2' := a.trans e2
  have es2 := e2.lst es (by omega)
  have et2 := e2.lst et (by omega)
  have x1 := x_pD es2 hl
  have x2 := x_pD es2 hq
  have ll : l < w + ks.length := by rw [spn_len] at hl; exact hl
  have lq : q < w + ks.length := by rw [spn_len] at hq; exact hq
  by_cases hc : loose = true ∨ ((spn w ks)[l].2 : Int) + 1 = ((spn w ks)[q].1 : Int)
  · refine ⟨some x, some (.int (l : Int)), some (.int (q : Int)), (h2.set t (.lst ((ks ++ [(l, q)]).map pD))).set s (.lst ((spn w (ks ++ [(l, q)])).map pD)), ks ++ [(l, q)], ?_, ?_, ?_, ?_, by simp, v.snoc ll lq, fun hl0 => ?_, by simp [l2]⟩
    · have m1 : mtD h2 .append (.ref t) [.tup [.int (l : Int), .int (q : Int)]] = .ok .non (h2.set t (.lst ((ks ++ [(l, q)]).map pD))) := by
        rw [m_app et2 (by simp; omega)]; simp [pD]
      have es3 : lstAt (h2.set t (.lst ((ks ++ [(l, q)]).map pD))) s = some ((spn w ks).map pD) := by rw [lstAt_set_ne (Ne.symm hst)]; exact es2
      have x3 := x_pD es3 hl
      have x4 := x_pD es3 hq
      have m2 : mtD (h2.set t (.lst ((ks ++ [(l, q)]).map pD))) .append (.ref s) [.tup [.int ((spn w ks)[l].1 : Int), .int ((spn w ks)[q].2 : Int)]] = .ok .non ((h2.set t (.lst ((ks ++ [(l, q)]).map pD))).set s (.lst ((spn w (ks ++ [(l, q)])).map pD))) := by
        rw [m_app es3 (by simp [spn_len]; omega), spn_app]; simp [pD, getD_g2 hl, getD_g2 hq]
      have r1 := r_ok .append et2
      have r2 := r_ok .append es3
      generalize h2.set t (.lst ((ks ++ [(l, q)]).map pD)) = h3 at *
      rcases hc with rfl | hc
      · simp [forB_name, Pb1_law_net, hw', ek, b_tup, pD, setsV, sz]
        simp only [pD] at x3 x4
        simp [r1, m1, sz, x3, x4, r2, m2]
      · cases loose <;> (simp [forB_name, Pb1_law_net, hw', ek, b_tup, pD, setsV, sz]; simp only [pD] at x1 x2 x3 x4; simp [r1, m1, sz, x1, x2, x3, x4, hc, r2, m2])
    · exact (a2'.set ht (by omega) (lt_pD _)).set hs (by omega) (lt_pD _)
    · exact lstAt_set (by rw [lstAt_set_ne (Ne.symm hst)]; exact es2)
    · rw [lstAt_set_ne hst]; exact lstAt_set et2
    · refine rK.snoc v (r hl0) ll lq ?_
      rw [hl0] at hc
      have := hc.resolve_left (by decide)
      rw [← getD_g2 hl, ← getD_g2 hq]
      omega
  · refine ⟨some x, some (.int (l : Int)), some (.int (q : Int)), h2, ks, ?_, a2', es2, et2, by omega, v, r, l2⟩
    have hc1 : loose = false := by
      cases loose
      · rfl
      · exact absurd (.inl rfl) hc
    subst hc1
    have hc2 : ¬ (((spn w ks)[l].2 : Int) + 1 = ((spn w ks)[q].1 : Int)) := fun z => hc (.inr z)
    simp [forB_name, Pb1_law_net, hw', ek, b_tup, pD, setsV, sz]
    simp only [pD] at x1 x2
    simp [x1, x2, hc2]

/-- one of two numbers -/
theorem pick2 {p q v : Nat} {x y : Int} (e : lstAt h p = some [.int x, .int y]) : idxD h (.ref p) (.int (if v = 0 then 1 else 0)) = .ok (.int (if v = 0 then y else x)) h := by
  by_cases hv : v = 0
  · simp [hv, x_ref e]
  · simp [hv, x_ref e]
theorem lnet_ok {i b m q : Nat} {loose : Bool} (hi : G.fns[i]? = some ⟨2, 4, irNext⟩) (hb : G.fns[b]? = some F_law_beside) (hm : G.fns[m]? = some (F_law_knot i b)) (hq : G.fns[q]? = some (F_law_net i m)) (st : Sta h n cs) (wh : wf h) :
    ∃ w ks es h', callN G (k + 3) q [.ref n, .bl loose] h = .ok (netD w ks es) h' ∧ Ex n cs h h' ∧ h'.length = h.length ∧ DNet loose w ks es := by
  have hn := st.lt
  rw [call_eq (F_law_net i m) hq rfl]
  suffices H : ∃ w ks es h1, evS (G.cf (k + 2)) (P_law_net i m) [some (.ref n), some (.bl loose), none, none, none, none, none, none, none, none] h = .ret (netD w ks es) h1 ∧ Ex n cs h h1 ∧ DNet loose w ks es by
    obtain ⟨w, ks, es, h1, e1, a1, d1⟩ := H
    obtain ⟨h2, e2, a2, l2⟩ := a1.fin hn wh (d := netD w ks es) (by simp [netD, D.lt, D.lts, lt_pD, lt_iD, iD])
    exact ⟨w, ks, es, h2, (congrArg _ e1).trans e2, a2, l2, d1⟩
  -- the width
  obtain ⟨v1, h1, p1, c1, a1, l1, o1⟩ := (Ex.refl st wh).draw (k := k + 1) (b := 9) hi (by decide) (by decide)
  obtain ⟨v2, h2, p2, c2, a2, l2, o2⟩ := a1.draw (k := k + 1) (b := 64) hi (by decide) (by decide)
  have a3 : Ex n cs h (h2 ++ [.lst [.int (1 + (v1 : Int)), .int (1 + (v2 : Int))]]) := a2.app rfl
  obtain ⟨v4, h4, p4, c4, a4, l4, o4⟩ := a3.draw (k := k + 1) (b := 4) hi (by decide) (by decide)
  have k4 := pick2 (q := 0) (v := v4) (h := h4) (p := h2.length) (x := 1 + (v1 : Int)) (y := 1 + (v2 : Int)) (by rw [o4 _ (by omega)]; exact lstAt_new)
  obtain ⟨w, hw, w1, w2⟩ : ∃ w : Nat, (if v4 = 0 then 1 + (v2 : Int) else 1 + (v1 : Int)) = (w : Int) ∧ 1 ≤ w ∧ w ≤ 64 := by
    by_cases z : v4 = 0
    · exact ⟨1 + v2, by simp [z], by omega, by omega⟩
    · exact ⟨1 + v1, by simp [z], by omega, by omega⟩
  rw [hw] at k4
  -- the things
  have hc : ∀ ρ : Env, ∀ h0 : Hh, compL (fun _ => true) (compT (G.cf (k + 2)) (ρ ++ [none]) (.bl true) (.tup (.cons (.var 9) (.cons (.var 9) .nil))) [9] (.name 9)) (rangeL 0 w) h0 = .ok ((base w).map pD) h0 ∨ ρ.length ≠ 9 := fun ρ h0 => by
    by_cases hl : ρ.length = 9
    · refine .inl ?_
      rw [compL_map (g := fun x => some (.tup [x, x])) rfl]
      · rw [rangeL_eq]
        simp [List.filterMap_map, Function.comp_def, base, pD]
      · intro x hx
        match ρ, hl with
        | [r0, r1, r2, r3, r4, r5, r6, r7, r8], _ => simp [compT_name, wipeD, sz]
    · exact .inr hl
  have a5 : Ex n cs h (h4 ++ [.lst ((base w).map pD)]) := a4.app (lt_pD _)
  have y5 : lstAt (h4 ++ [.lst ((base w).map pD)]) h4.length = some ((base w).map pD) := lstAt_new
  have l5 : (h4 ++ [Ob.lst ((base w).map pD)]).length = h4.length + 1 := by simp
  have hc5 := (hc [some (.ref n), some (.bl loose), some (.int (w : Int)), none, none, none, none, none, none] h4).resolve_right (by simp)
  generalize eh5 : h4 ++ [.lst ((base w).map pD)] = h5 at a5 y5 l5
  have a6 : Ex n cs h (h5 ++ [.lst []]) := a5.app rfl
  have y6 : lstAt (h5 ++ [.lst []]) h4.length = some ((base w).map pD) := lstAt_app y5
  have t6 : lstAt (h5 ++ [.lst []]) h5.length = some [] := lstAt_new
  have l6 : (h5 ++ [Ob.lst []]).length = h5.length + 1 := by simp
  generalize eh6 : h5 ++ [.lst []] = h6 at a6 y6 t6 l6
  -- how many turns
  obtain ⟨v7, h7, p7, c7, a7, l7, o7⟩ := a6.draw (k := k + 1) (b := 12) hi (by decide) (by decide)
  obtain ⟨v8, h8, p8, c8, a8, l8, o8⟩ := a7.draw (k := k + 1) (b := 60) hi (by decide) (by decide)
  have a9 : Ex n cs h (h8 ++ [.lst [.int (v7 : Int), .int (v8 : Int)]]) := a8.app rfl
  obtain ⟨v10, h10, p10, c10, a10, l10, o10⟩ := a9.draw (k := k + 1) (b := 4) hi (by decide) (by decide)
  have k10 := pick2 (q := 0) (v := v10) (h := h10) (p := h8.length) (x := (v7 : Int)) (y := (v8 : Int)) (by rw [o10 _ (by have := a8.le; omega)]; exact lstAt_new)
  obtain ⟨c, hcn, cl⟩ : ∃ c : Nat, (if v10 = 0 then (v8 : Int) else (v7 : Int)) = (c : Int) ∧ c ≤ 60 := by
    by_cases z : v10 = 0
    · exact ⟨v8, by simp [z], by omega⟩
    · exact ⟨v7, by simp [z], by omega⟩
  rw [hcn] at k10
  have g4 := a4.le
  have y10 : lstAt h10 h4.length = some ((base w).map pD) := by
    rw [o10 _ (by omega), lstAt_app (by rw [o8 _ (by omega), o7 _ (by omega)]; exact y6)]
  have t10 : lstAt h10 h5.length = some [] := by
    rw [o10 _ (by omega), lstAt_app (by rw [o8 _ (by omega), o7 _ (by omega)]; exact t6)]
  -- the knots
  obtain ⟨ρ, h11, e11, b1, b2, b3, ks, rfl, a11, y11, t11, n11, v11, r11⟩ := forL_ix (keep := fun _ => true) (f := forB (G.cf (k + 2)) (Pb1_law_net i m) (.name 5))
    (fun j ρ h' => ∃ b1 b2 b3 ks, ρ = [some (.ref n), some (.bl loose), some (.int (w : Int)), some (.ref h4.length), some (.ref h5.length), b1, b2, b3, none, none] ∧ Ex n cs h h' ∧ lstAt h' h4.length = some ((spn w ks).map pD) ∧ lstAt h' h5.length = some (ks.map pD) ∧ ks.length ≤ min j c ∧ vK w ks ∧ (loose = false → rK w ks))
    (fun _ _ _ _ => rfl) (rangeL 0 c) 0 (by
      rintro j x hx ρ h' ⟨b1, b2, b3, ks, rfl, a, y, t, hl, v, r⟩
      obtain ⟨hj, rfl⟩ := rangeL_at hx
      obtain ⟨b1', b2', b3', h2', ks', et, a', y', t', hl', v', r', _⟩ := lnet_turn (k := k) (x := .int (0 + (j : Int))) (a1 := b1) (a2 := b2) (a3 := b3) hi hb hm a y t (by omega) (by omega) (by omega) hn (by omega) v r
      exact ⟨_, h2', et, b1', b2', b3', ks', rfl, a', y', t', by omega, v', r'⟩)
    [some (.ref n), some (.bl loose), some (.int (w : Int)), some (.ref h4.length), some (.ref h5.length), none, none, none, none, none] h10
    ⟨none, none, none, [], rfl, a10, by simpa [spn, spA] using y10, by simpa using t10, by simp, fun _ _ z => by simp at z, fun _ _ _ z => by simp at z⟩
  -- the ends
  obtain ⟨v12, h12, p12, c12, a12, l12, o12⟩ := a11.draw (k := k + 1) (b := 9) hi (by decide) (by decide)
  have y12 : lstAt h12 h4.length = some ((spn w ks).map pD) := by rw [o12 _ (by omega)]; exact y11
  have t12 : lstAt h12 h5.length = some (ks.map pD) := by rw [o12 _ (by omega)]; exact t11
  obtain ⟨zs, h13, e13, ⟨es, ezs, he, a13, y13, t13⟩, lz⟩ := compL_inv (keep := fun _ => true) (f := compT (G.cf (k + 2)) [some (.ref n), some (.bl loose), some (.int (w : Int)), some (.ref h4.length), some (.ref h5.length), b1, b2, b3, none, none] (.bl true) (.call i (.cons (.var 0) (.cons (.bi .len (.cons (.var 3) .nil)) .nil))) [5] (.name 5))
    (fun ys h' => ∃ es : List Nat, ys = es.map iD ∧ (∀ e ∈ es, e < w + ks.length) ∧ Ex n cs h h' ∧ lstAt h' h4.length = some ((spn w ks).map pD) ∧ lstAt h' h5.length = some (ks.map pD)) (fun _ _ _ => rfl) (rangeL 0 (1 + v12)) (by
      rintro x hx ys h' ⟨es, rfl, he, a, y, t⟩
      obtain ⟨v, h'', p, c', a', l', o'⟩ := a.draw (k := k + 1) (b := ((spn w ks).length : Int)) hi (by rw [spn_len]; omega) (by rw [spn_len]; omega)
      refine ⟨iD v, h'', ?_, es ++ [v], by simp, ?_, a', by rw [o' _ (by omega)]; exact y, by rw [o' _ (by omega)]; exact t⟩
      · simp [compT_name, wipeD, l_pD y, c', iD]
      · intro e hm
        rcases List.mem_append.mp hm with hm | hm
        · exact he e hm
        · simp at hm
          subst hm
          rw [spn_len] at p
          omega) [] h12 ⟨[], rfl, by simp, a12, y12, t12⟩
  simp only [List.nil_append] at ezs
  subst ezs
  have lz' : es.length = 1 + v12 := by rw [List.length_map, rangeL_length] at lz; exact lz
  have a14 : Ex n cs h (h13 ++ [.lst (es.map iD)]) := a13.app (lt_iD _)
  have t14 : lstAt (h13 ++ [.lst (es.map iD)]) h5.length = some (ks.map pD) := lstAt_app t13
  have z14 : lstAt (h13 ++ [.lst (es.map iD)]) h13.length = some (es.map iD) := lstAt_new
  generalize eh14 : h13 ++ [.lst (es.map iD)] = h14 at a14 t14 z14
  refine ⟨w, ks, es, h14, ?_, a14, w1, w2, by omega, v11, r11, by omega, by omega, he⟩
  have rg1 := rg1_ok (h := h4) (j := (w : Int)) (by omega) (by omega)
  have rg2 := rg1_ok (h := h10) (j := (c : Int)) (by omega) (by omega)
  have rg3 := rg1_ok (h := h12) (j := 1 + (v12 : Int)) (by omega) (by omega)
  have tn : (1 + (v12 : Int)).toNat = 1 + v12 := by omega
  rw [tn] at rg3
  simp only [Int.toNat_natCast] at rg1 rg2
  simp only [List.cons_append, List.nil_append] at hc5
  have s1 := sz (n := (base w).length) (by simp [base]; omega)
  have s2 := sz (n := es.length) (by omega)
  simp [P_law_net, c1, c2, sz, c4, k4, rg1, hc5, s1, eh5, eh6, c7, c8, c10, k10, rg2, e11, c12, rg3, e13, s2, eh14, t_ref t14, t_ref z14, netD, iD]
end
end Ly

set_option Elab.async false
set_option linter.all false
set_option maxRecDepth 100000
set_option maxHeartbeats 400000
set_option autoImplicit false
/-! LyQ: a value is equal to itself. -/
namespace Ly
open PySem
mutual
theorem toP_lay {h : Hh} : ∀ (r : Nat) (d : D) (p : PyData), toP h r d = some p → p.depth ≤ r + 1
  | r, .non, p, e => by cases r <;> (simp only [toP, Option.some.injEq] at e; subst e; simp [PyData.depth])
  | r, .bl b, p, e => by cases r <;> (simp only [toP, Option.some.injEq] at e; subst e; simp [PyData.depth])
  | r, .int i, p, e => by cases r <;> (simp only [toP, Option.some.injEq] at e; subst e; simp [PyData.depth])
  | r, .str s, p, e => by cases r <;> (simp only [toP, Option.some.injEq] at e; subst e; simp [PyData.depth])
  | 0, .tup xs, p, e => by simp [toP] at e
  | 0, .rol xs, p, e => by simp [toP] at e
  | 0, .ref n, p, e => by simp [toP] at e
  | 0, .fn n, p, e => by simp [toP] at e
  | r + 1, .fn n, p, e => by simp [toP] at e
  | r + 1, .tup xs, p, e => by
    simp only [toP, Option.map_eq_some_iff] at e
    obtain ⟨ps, e, rfl⟩ := e
    have := toPs_lay r xs ps e
    simp only [PyData.depth]
    omega
  | r + 1, .rol xs, p, e => by
    simp only [toP, Option.map_eq_some_iff] at e
    obtain ⟨ps, e, rfl⟩ := e
    have := toPs_lay r xs ps e
    simp only [PyData.depth]
    omega
  | r + 1, .ref n, p, e => by
    simp only [toP] at e
    split at e
    · rename_i xs _
      simp only [Option.map_eq_some_iff] at e
      obtain ⟨ps, e, rfl⟩ := e
      have := toPs_lay r xs ps e
      simp only [PyData.depth]
      omega
    · cases e
termination_by r d => (r, 0)
theorem toPs_lay {h : Hh} : ∀ (r : Nat) (xs : List D) (ps : List PyData), toPs h r xs = some ps → PyData.depthAll ps ≤ r + 1
  | r, [], ps, e => by simp only [toPs, Option.some.injEq] at e; subst e; simp [PyData.depthAll]
  | r, x :: xs, ps, e => by
    simp only [toPs] at e
    split at e
    · rename_i p qs e1 e2
      simp only [Option.some.injEq] at e
      subst e
      have h1 := toP_lay r x p e1
      have h2 := toPs_lay r xs qs e2
      simp only [PyData.depthAll]
      omega
    · cases e
termination_by r xs => (r, xs.length + 1)
end
mutual
theorem toP_up {h : Hh} : ∀ (r : Nat) (d : D) (p : PyData), toP h r d = some p → toP h (r + 1) d = some p
  | r, .non, p, e => by cases r <;> simpa [toP] using e
  | r, .bl b, p, e => by cases r <;> simpa [toP] using e
  | r, .int i, p, e => by cases r <;> simpa [toP] using e
  | r, .str s, p, e => by cases r <;> simpa [toP] using e
  | 0, .tup xs, p, e => by simp [toP] at e
  | 0, .rol xs, p, e => by simp [toP] at e
  | 0, .ref n, p, e => by simp [toP] at e
  | 0, .fn n, p, e => by simp [toP] at e
  | r + 1, .fn n, p, e => by simp [toP] at e
  | r + 1, .tup xs, p, e => by
    simp only [toP, Option.map_eq_some_iff] at e ⊢
    obtain ⟨ps, e, rfl⟩ := e
    exact ⟨ps, toPs_up r xs ps e, rfl⟩
  | r + 1, .rol xs, p, e => by
    simp only [toP, Option.map_eq_some_iff] at e ⊢
    obtain ⟨ps, e, rfl⟩ := e
    exact ⟨ps, toPs_up r xs ps e, rfl⟩
  | r + 1, .ref n, p, e => by
    simp only [toP] at e ⊢
    split at e
    · rename_i xs _
      simp only [Option.map_eq_some_iff] at e ⊢
      obtain ⟨ps, e, rfl⟩ := e
      exact ⟨ps, toPs_up r xs ps e, rfl⟩
    · cases e
termination_by r d => (r, 0)
theorem toPs_up {h : Hh} : ∀ (r : Nat) (xs : List D) (ps : List PyData), toPs h r xs = some ps → toPs h (r + 1) xs = some ps
  | r, [], ps, e => by simpa [toPs] using e
  | r, x :: xs, ps, e => by
    simp only [toPs] at e ⊢
    split at e
    · rename_i p qs e1 e2
      rw [toP_up r x p e1, toPs_up r xs qs e2]
      exact e
    · cases e
termination_by r xs => (r, xs.length + 1)
end
theorem toP_le {h : Hh} {d : D} {p : PyData} {r : Nat} (e : toP h r d = some p) : ∀ j, toP h (r + j) d = some p
  | 0 => e
  | j + 1 => toP_up _ _ _ (toP_le e j)
theorem toP_sh {h : Hh} {d : D} {p : PyData} {r : Nat} (e : toP h r d = some p) (hl : p.canLay0 = true) (hr : r ≤ 63) : toP h 64 d = some p ∧ SeqAt.shaped p = true := by
  have := toP_le e (64 - r)
  rw [show r + (64 - r) = 64 by omega] at this
  have l := toP_lay r d p e
  exact ⟨this, shaped_of hl (by omega)⟩
theorem eqD_gen {h : Hh} {d e : D} {p q : PyData} {r : Nat} (hd : toP h r d = some p) (he : toP h r e = some q) (lp : p.canLay0 = true) (lq : q.canLay0 = true) (hr : r ≤ 63) : eqD h d e = some (PyData.eqv p q) := by
  have a := toP_sh hd lp hr
  have b := toP_sh he lq hr
  unfold eqD
  split
  · cases r <;> (simp only [toP, Option.some.injEq] at hd he; subst hd he; simp [PyData.eqv, Bool.beq_eq_decide_eq])
  · cases r <;> (simp only [toP, Option.some.injEq] at hd he; subst hd he; simp [PyData.eqv, Bool.beq_eq_decide_eq])
  · cases r <;> (simp only [toP, Option.some.injEq] at hd he; subst hd he; simp [PyData.eqv, Bool.beq_eq_decide_eq])
  · cases r <;> (simp only [toP, Option.some.injEq] at hd he; subst hd he; simp [PyData.eqv])
  · rw [a.1, b.1]
    simp [a.2, b.2]
theorem eqD_self {h : Hh} {d : D} {p : PyData} {r : Nat} (hd : toP h r d = some p) (lp : p.canLay0 = true) (hr : r ≤ 63) : eqD h d d = some true := by
  rw [eqD_gen hd hd lp lp hr, SeqAt.eqv_refl p lp]
end Ly

set_option Elab.async false
set_option linter.all false
set_option maxRecDepth 100000
set_option maxHeartbeats 400000
set_option autoImplicit false
/-! PkM: drawn nets are nets. -/
namespace Ly
open PySem
theorem areKnots_of {w : Nat} : ∀ (ks : List (Nat × Nat)) (i : Nat), (∀ (j : Nat) (p : Nat × Nat), ks[j]? = some p → p.1 < w + (i + j) ∧ p.2 < w + (i + j)) → areKnots (w : Int) i (ks.map pD) = true
  | [], _, _ => rfl
  | p :: ks, i, v => by
    have v0 := v 0 p (by simp)
    have ih := areKnots_of (w := w) ks (i + 1) fun j q h => by
      have := v (j + 1) q (by simpa using h)
      omega
    have h1 : ((p.1 : Int) ≤ (w : Int) + (i : Int) - 1) := by omega
    have h2 : ((p.2 : Int) ≤ (w : Int) + (i : Int) - 1) := by omega
    simp [areKnots, pD, isKnot, isFrom, ih, h1, h2]
theorem areEnds_of {c : Int} {es : List Nat} (h : ∀ e ∈ es, (e : Int) < c) : areEnds c (es.map iD) = true := by
  unfold areEnds
  rw [List.all_map, List.all_eq_true]
  intro e he
  have := h e he
  simp [iD, isFrom]
  omega
theorem isNet_of {w : Nat} {ks : List (Nat × Nat)} {es : List Nat} (w1 : 1 ≤ w) (w2 : w ≤ 64) (k : ks.length ≤ 1000) (v : vK w ks) (e1 : 1 ≤ es.length) (e2 : es.length ≤ 400) (e : ∀ x ∈ es, x < w + ks.length) : isNet (netD w ks es) = true := by
  have a := areKnots_of (w := w) ks 0 fun j p h => by have := v j p h; omega
  have b := areEnds_of (c := (w : Int) + (ks.length : Int)) (es := es) fun x hx => by have := e x hx; omega
  have h1 : (1 : Int) ≤ (w : Int) := by omega
  have h2 : (w : Int) ≤ 64 := by omega
  simp [netD, iD, isNet, h1, h2, k, e1, e2, a]
  exact b
theorem DNet.isNet {l : Bool} {w : Nat} {ks : List (Nat × Nat)} {es : List Nat} (d : DNet l w ks es) : isNet (netD w ks es) = true := isNet_of d.w1 d.w2 (by have := d.k; omega) d.v d.e1 (by have := d.e2; omega) d.e
theorem good_pD {n : Nat} (ks : List (Nat × Nat)) : goods n (ks.map pD) = true := by rw [goods_all]; simp [pD, good, goods]
theorem good_iD {n : Nat} (es : List Nat) : goods n (es.map iD) = true := by rw [goods_all]; simp [iD, good]
theorem good_net {n w : Nat} {ks : List (Nat × Nat)} {es : List Nat} : good n (netD w ks es) = true := by simp [netD, good, goods, good_pD, good_iD, iD]
theorem lt_net {n w : Nat} {ks : List (Nat × Nat)} {es : List Nat} : (netD w ks es).lt n = true := by simp [netD, D.lt, D.lts, lt_pD, lt_iD, iD]
def pP (p : Nat × Nat) : PyData := .tuple [.int (p.1 : Int), .int (p.2 : Int)]
theorem toPs_pD {h : Hh} {r : Nat} : ∀ ks : List (Nat × Nat), toPs h (r + 1) (ks.map pD) = some (ks.map pP)
  | [] => by simp [toPs]
  | y :: ys => by simp [toPs, pD, toP, pP, toPs_pD ys]
theorem lay_pP : ∀ ks : List (Nat × Nat), PyData.canLayAll0 (ks.map pP) = true
  | [] => by simp [PyData.canLayAll0]
  | y :: ys => by simp [PyData.canLayAll0, PyData.canLay0, pP, lay_pP ys]
theorem toP_net {h : Hh} {w : Nat} {ks : List (Nat × Nat)} {es : List Nat} : toP h 3 (netD w ks es) = some (.tuple [.int (w : Int), .tuple (ks.map pP), .tuple (es.map fun y : Nat => PyData.int (y : Int))]) := by
  simp [netD, toP, toPs, toPs_pD, toPs_iD, iD]
theorem eq_net {h : Hh} {w : Nat} {ks : List (Nat × Nat)} {es : List Nat} : eqD h (netD w ks es) (netD w ks es) = some true :=
  eqD_self toP_net (by simp [PyData.canLay0, PyData.canLayAll0, lay_pP, (lay_ints es).1]) (by decide)
section
variable {G : Pg} {k : Nat} {h : Hh}
theorem look_ok {i j m q e n l g1 g2 g3 : Nat} (N : NetF G i j m q e n g1 g2 g3) (hl : G.fns[l]? = some (F_look_at_net n)) {d : D} (gd : good h.length d = true) (hd : isNet d = true) : callN G (k + 6) l [d] h = .ok .non h := by
  rw [call_eq (F_look_at_net n) hl rfl]
  simp [P_look_at_net, net_ok N gd, hd]
end
end Ly

set_option Elab.async false
set_option linter.all false
set_option maxRecDepth 100000
set_option maxHeartbeats 400000
namespace K11
open PySem Ly
theorem nf : NetF G 0 1 2 3 4 5 0 1 2 := ⟨rfl, rfl, rfl, rfl, rfl, rfl, rfl, rfl, rfl⟩
theorem hi : G.fns[7]? = some ⟨2, 4, irNext⟩ := rfl
theorem hb : G.fns[8]? = some F_law_beside := rfl
theorem hm : G.fns[9]? = some (F_law_knot 7 8) := rfl
theorem hq : G.fns[10]? = some (F_law_net 7 9) := rfl
theorem hl : G.fns[6]? = some (F_look_at_net 5) := rfl
/-- what is looked at -/
def Ok (d : D) : Prop := ∃ w ks es, d = netD w ks es ∧ isNet d = true
theorem copy_ok {k w : Nat} {ks : List (Nat × Nat)} {es : List Nat} {h : Hh} (hw : wf h) (hk : ks.length ≤ 1000000) (he : es.length ≤ 1000000) : callN G (k + 1) 12 [netD w ks es] h = .ok (netD w ks es) h := by
  have e0 : callN G (k + 1) 12 [netD w ks es] h = fin h.length (evS (G.cf k) ir_law_copy [some (netD w ks es), none, none, none] h) := call_eq d_law_copy.F rfl rfl
  have c1 : compL (fun _ => true) (compT (G.cf k) [some (netD w ks es), none, none, none] (.bl true) (.tup (.cons (.var 1) (.cons (.var 2) .nil))) [1, 2] (.tup [1, 2])) (ks.map pD) h = .ok (ks.map pD) h := by
    rw [compL_map (g := some) rfl]
    · simp
    · intro x hx
      obtain ⟨p, hp, rfl⟩ := List.mem_map.mp hx
      unfold pD
      rw [compT_tup rfl]
      simp [wipeD, setsV, sz]
  have c2 : ∀ h', compL (fun _ => true) (compT (G.cf k) [some (netD w ks es), none, none, none] (.bl true) (.var 3) [3] (.name 3)) (es.map iD) h' = .ok (es.map iD) h' := fun h' => by
    rw [compL_map (g := some) rfl]
    · simp
    · intro x hx
      simp [compT_name, wipeD]
  have x0 : ∀ h, idxD h (netD w ks es) (.int 0) = .ok (iD w) h := fun h => by simp [netD]
  have x1 : ∀ h, idxD h (netD w ks es) (.int 1) = .ok (.tup (ks.map pD)) h := fun h => by simp [netD]
  have x2 : ∀ h, idxD h (netD w ks es) (.int 2) = .ok (.tup (es.map iD)) h := fun h => by simp [netD]
  rw [e0]
  have t1 : lstAt (h ++ [.lst (ks.map pD)]) h.length = some (ks.map pD) := lstAt_new
  generalize eh1 : h ++ [.lst (ks.map pD)] = h1 at t1
  have t2 : lstAt (h1 ++ [.lst (es.map iD)]) h1.length = some (es.map iD) := lstAt_new
  simp [ir_law_copy, x0, x1, x2, c1, c2, sz (n := ks.length) (by omega), sz (n := es.length) (by omega), eh1, t_ref t1, t_ref t2, sz]
  simp only [← eh1, fin, List.append_assoc]
  rw [show (D.tup [iD w, .tup (ks.map pD), .tup (es.map iD)]) = netD w ks es from rfl, gc_drop lt_net hw]
theorem pick3 {h : Hh} {p v : Nat} {x y z : Int} (e : lstAt h p = some [.int x, .int y, .int z]) (hv : (v : Int) < 3) : ∃ u, idxD h (.ref p) (.int (v : Int)) = .ok (.int u) h ∧ (u = x ∨ u = y ∨ u = z) := by
  have : v = 0 ∨ v = 1 ∨ v = 2 := by omega
  rcases this with rfl | rfl | rfl
  · exact ⟨x, by simp [x_ref e], .inl rfl⟩
  · exact ⟨y, by simp [x_ref e], .inr (.inl rfl)⟩
  · exact ⟨z, by simp [x_ref e], .inr (.inr rfl)⟩
def bkA : S :=
  .cat (.asg (.name 3) (.bi .tuple (.cons (.comp [5] (.name 5) (.rng1 (.var 2)) (.bl true) (.tup (.cons (.bin .sub (.bin .add (.var 1) (.var 5)) (.int 1)) (.cons (.bin .sub (.bin .add (.var 1) (.var 5)) (.int 1)) .nil)))) .nil))) <|
    .skip
def bkB : S :=
  .cat (.asg (.name 3) (.bi .tuple (.cons (.comp [5] (.name 5) (.rng1 (.var 2)) (.bl true) (.tup (.cons (.call 7 (.cons (.var 0) (.cons (.bin .add (.var 1) (.var 5)) .nil))) (.cons (.bin .sub (.bin .add (.var 1) (.var 5)) (.int 1)) .nil)))) .nil))) <|
    .skip
theorem irb : ir_law_bounds =
  (.cat (.asg (.name 1) (.idx (.lst (.cons (.int 1) (.cons (.int 64) (.cons (.bin .add (.int 1) (.call 7 (.cons (.var 0) (.cons (.int 64) .nil)))) .nil)))) (.call 7 (.cons (.var 0) (.cons (.int 3) .nil))))) <|
  .cat (.asg (.name 2) (.idx (.lst (.cons (.int 1000) (.cons (.int 999) (.cons (.bin .add (.int 1) (.call 7 (.cons (.var 0) (.cons (.int 1000) .nil)))) .nil)))) (.call 7 (.cons (.var 0) (.cons (.int 3) .nil))))) <|
  .cat (.ifS (.cmp .eq (.call 7 (.cons (.var 0) (.cons (.int 2) .nil))) (.int 0)) bkA bkB) <|
  .cat (.asg (.name 4) (.bin .mul (.tup (.cons (.bin .sub (.bin .add (.var 1) (.var 2)) (.int 1)) .nil)) (.idx (.lst (.cons (.int 400) (.cons (.int 399) (.cons (.bin .add (.int 1) (.call 7 (.cons (.var 0) (.cons (.int 400) .nil)))) .nil)))) (.call 7 (.cons (.var 0) (.cons (.int 3) .nil)))))) <|
  .cat (.ret (.tup (.cons (.var 1) (.cons (.var 3) (.cons (.var 4) .nil))))) <|
  .skip) := rfl
/-- the knots of the second sort -/
theorem vK_of {w c : Nat} {ks : List (Nat × Nat)} (h : ∀ (j : Nat) (p : Nat × Nat), ks[j]? = some p → p.1 < w + j ∧ p.2 < w + j) : vK w ks := h
theorem bounds_ok {k n : Nat} {cs : List Int} {h : Hh} (st : Sta h n cs) (wh : wf h) : ∃ w ks es h', callN G (k + 2) 11 [.ref n] h = .ok (netD w ks es) h' ∧ Ex n cs h h' ∧ h'.length = h.length ∧ isNet (netD w ks es) = true ∧ ks.length ≤ 1000 ∧ es.length ≤ 400 := by
  have hn := st.lt
  have e0 : callN G (k + 2) 11 [.ref n] h = fin h.length (evS (G.cf (k + 1)) ir_law_bounds [some (.ref n), none, none, none, none, none] h) := call_eq d_law_bounds.F rfl rfl
  rw [e0]
  suffices H : ∃ w ks es h1, evS (G.cf (k + 1)) ir_law_bounds [some (.ref n), none, none, none, none, none] h = .ret (netD w ks es) h1 ∧ Ex n cs h h1 ∧ isNet (netD w ks es) = true ∧ ks.length ≤ 1000 ∧ es.length ≤ 400 by
    obtain ⟨w, ks, es, h1, e1, a1, d1⟩ := H
    obtain ⟨h2, e2, a2, l2⟩ := a1.fin hn wh (d := netD w ks es) lt_net
    exact ⟨w, ks, es, h2, (congrArg _ e1).trans e2, a2, l2, d1⟩
  obtain ⟨v1, h1, p1, c1, a1, l1, o1⟩ := (Ex.refl st wh).draw (k := k) (b := 64) hi (by decide) (by decide)
  have a2 : Ex n cs h (h1 ++ [.lst [.int 1, .int 64, .int (1 + (v1 : Int))]]) := a1.app rfl
  obtain ⟨v3, h3, p3, c3, a3, l3, o3⟩ := a2.draw (k := k) (b := 3) hi (by decide) (by decide)
  obtain ⟨u3, x3, q3⟩ := pick3 (h := h3) (p := h1.length) (v := v3) (by rw [o3 _ (by omega)]; exact lstAt_new) p3
  obtain ⟨w, rfl, w1, w2⟩ : ∃ w : Nat, u3 = (w : Int) ∧ 1 ≤ w ∧ w ≤ 64 := ⟨u3.toNat, by omega, by omega, by omega⟩
  obtain ⟨v4, h4, p4, c4, a4, l4, o4⟩ := a3.draw (k := k) (b := 1000) hi (by decide) (by decide)
  have a5 : Ex n cs h (h4 ++ [.lst [.int 1000, .int 999, .int (1 + (v4 : Int))]]) := a4.app rfl
  obtain ⟨v6, h6, p6, c6, a6, l6, o6⟩ := a5.draw (k := k) (b := 3) hi (by decide) (by decide)
  obtain ⟨u6, x6, q6⟩ := pick3 (h := h6) (p := h4.length) (v := v6) (by rw [o6 _ (by have := a4.le; omega)]; exact lstAt_new) p6
  obtain ⟨c, rfl, c1', c2'⟩ : ∃ c : Nat, u6 = (c : Int) ∧ 1 ≤ c ∧ c ≤ 1000 := ⟨u6.toNat, by omega, by omega, by omega⟩
  obtain ⟨v7, h7, p7, c7, a7, l7, o7⟩ := a6.draw (k := k) (b := 2) hi (by decide) (by decide)
  have rg := rg1_ok (h := h7) (j := (c : Int)) (by omega) (by omega)
  simp only [Int.toNat_natCast] at rg
  -- the knots
  obtain ⟨ks, h8, e8, a8, lk, vk⟩ : ∃ ks h8, evS (G.cf (k + 1)) (if v7 = 0 then bkA else bkB) [some (.ref n), some (.int (w : Int)), some (.int (c : Int)), none, none, none] h7 = .next [some (.ref n), some (.int (w : Int)), some (.int (c : Int)), some (.tup (ks.map pD)), none, none] h8 ∧ Ex n cs h h8 ∧ ks.length = c ∧ vK w ks := by
    by_cases hv : v7 = 0
    · refine ⟨(List.range c).map fun j => (w + j - 1, w + j - 1), h7 ++ [.lst (((List.range c).map fun j => (w + j - 1, w + j - 1)).map pD)], ?_, a7.app (o := .lst _) (lt_pD _), by simp, fun j p hp => ?_⟩
      · have hc : compL (fun _ => true) (compT (G.cf (k + 1)) [some (.ref n), some (.int (w : Int)), some (.int (c : Int)), none, none, none] (.bl true) (.tup (.cons (.bin .sub (.bin .add (.var 1) (.var 5)) (.int 1)) (.cons (.bin .sub (.bin .add (.var 1) (.var 5)) (.int 1)) .nil))) [5] (.name 5)) (rangeL 0 c) h7 = .ok (((List.range c).map fun j => (w + j - 1, w + j - 1)).map pD) h7 := by
          rw [compL_map (g := fun x => match x with | .int j => some (.tup [.int ((w : Int) + j - 1), .int ((w : Int) + j - 1)]) | _ => none) rfl]
          · rw [rangeL_eq]
            simp only [List.filterMap_map, Function.comp_def, Int.zero_add, List.map_map]
            rw [List.filterMap_eq_map']
            congr 1
            refine List.map_congr_left fun j _ => ?_
            simp only [pD]
            have : ((w + j - 1 : Nat) : Int) = (w : Int) + (j : Int) - 1 := by omega
            rw [this]
          · intro x hx
            obtain ⟨j, hj, rfl⟩ := mem_rangeL hx
            simp [compT_name, wipeD, sz]
        have t1 : lstAt (h7 ++ [.lst (((List.range c).map fun j => (w + j - 1, w + j - 1)).map pD)]) h7.length = _ := lstAt_new
        have hs := sz (n := (((List.range c).map fun j => (w + j - 1, w + j - 1)).map pD).length) (by simp; omega)
        generalize ((List.range c).map fun j => (w + j - 1, w + j - 1)).map pD = zs at *
        simp [hv, bkA, rg, hc, hs, t_ref t1]
      · rw [List.getElem?_map] at hp
        cases q : (List.range c)[j]? with
        | none => rw [q] at hp; cases hp
        | some i =>
          have := List.getElem?_eq_some_iff.mp q
          obtain ⟨h1, h2⟩ := this
          simp at h1 h2
          subst h2
          rw [q] at hp
          cases hp
          simp
          omega
    · obtain ⟨zs, h8, e8, ⟨ks, ezs, vk, a8⟩, lz⟩ := compL_ix (keep := fun _ => true) (f := compT (G.cf (k + 1)) [some (.ref n), some (.int (w : Int)), some (.int (c : Int)), none, none, none] (.bl true) (.tup (.cons (.call 7 (.cons (.var 0) (.cons (.bin .add (.var 1) (.var 5)) .nil))) (.cons (.bin .sub (.bin .add (.var 1) (.var 5)) (.int 1)) .nil))) [5] (.name 5))
        (fun ys h' => ∃ ks : List (Nat × Nat), ys = ks.map pD ∧ vK w ks ∧ Ex n cs h h') (fun _ _ _ => rfl) (rangeL 0 c) 0 (by
          rintro j x hx ys h' hl ⟨ks, rfl, vk, a⟩
          obtain ⟨hj, rfl⟩ := rangeL_at hx
          simp at hl
          obtain ⟨v, h'', p, c', a', l', o'⟩ := a.draw (k := k) (b := (w : Int) + (j : Int)) hi (by omega) (by omega)
          refine ⟨pD (v, w + j - 1), h'', ?_, ks ++ [(v, w + j - 1)], by simp, vk.snoc ?_ ?_, a'⟩
          · have : ((w + j - 1 : Nat) : Int) = (w : Int) + (j : Int) - 1 := by omega
            simp [compT_name, wipeD, c', sz, pD, this]
          · show v < _
            omega
          · show w + j - 1 < _
            omega) [] h7 rfl ⟨[], rfl, fun _ _ z => by simp at z, a7⟩
      simp only [List.nil_append] at ezs
      subst ezs
      have lk : ks.length = c := by rw [List.length_map, rangeL_length] at lz; exact lz
      refine ⟨ks, h8 ++ [.lst (ks.map pD)], ?_, a8.app (o := .lst (ks.map pD)) (lt_pD _), lk, vk⟩
      have t1 : lstAt (h8 ++ [.lst (ks.map pD)]) h8.length = _ := lstAt_new
      have hs := sz (n := ks.length) (by omega)
      simp [hv, bkB, rg, e8, hs, t_ref t1]
  -- the ends
  obtain ⟨v9, h9, p9, c9, a9, l9, o9⟩ := a8.draw (k := k) (b := 400) hi (by decide) (by decide)
  have a10 : Ex n cs h (h9 ++ [.lst [.int 400, .int 399, .int (1 + (v9 : Int))]]) := a9.app rfl
  obtain ⟨v11, h11, p11, c11, a11, l11, o11⟩ := a10.draw (k := k) (b := 3) hi (by decide) (by decide)
  obtain ⟨u11, x11, q11⟩ := pick3 (h := h11) (p := h9.length) (v := v11) (by rw [o11 _ (by have := a9.le; omega)]; exact lstAt_new) p11
  obtain ⟨m, rfl, m1, m2⟩ : ∃ m : Nat, u11 = (m : Int) ∧ 1 ≤ m ∧ m ≤ 400 := ⟨u11.toNat, by omega, by omega, by omega⟩
  have rp : (List.replicate m [D.int ((w : Int) + (c : Int) - 1)]).flatten = (List.replicate m (w + c - 1)).map iD := by
    have : ((w + c - 1 : Nat) : Int) = (w : Int) + (c : Int) - 1 := by omega
    rw [List.map_replicate, iD, this]
    generalize (w : Int) + (c : Int) - 1 = z
    clear m1 m2 x11 q11
    induction m with
    | zero => rfl
    | succ m ih => rw [List.replicate_succ, List.flatten_cons, ih]; rfl
  have mu : binD h11 .mul (.tup [.int ((w : Int) + (c : Int) - 1)]) (.int (m : Int)) = .ok (.tup ((List.replicate m (w + c - 1)).map iD)) h11 := by
    have rk : repOk [D.int ((w : Int) + (c : Int) - 1)] (m : Int) = true := by
      simp only [repOk, Int.toNat_natCast, List.length_cons, List.length_nil, Bool.and_eq_true]
      exact ⟨⟨Nat.ble_eq_true_of_le m1, Nat.ble_eq_true_of_le (by omega)⟩, rfl⟩
    simp only [binD, rk, if_true, Int.toNat_natCast, rp]
  refine ⟨w, ks, List.replicate m (w + c - 1), h11, ?_, a11, isNet_of w1 w2 (by omega) vk (by simp; omega) (by simp; omega) (fun x hx => ?_), by omega, by simp; omega⟩
  · by_cases hv : v7 = 0
    · rw [if_pos hv] at e8
      simp [irb, c1, sz, c3, x3, c4, c6, x6, c7, hv, e8, c9, c11, x11, mu, netD, iD]
    · rw [if_neg hv] at e8
      simp [irb, c1, sz, c3, x3, c4, c6, x6, c7, hv, e8, c9, c11, x11, mu, netD, iD]
  · rw [List.mem_replicate] at hx
    omega
/-- one turn of the law -/
theorem law_turn {k w : Nat} {ks : List (Nat × Nat)} {es : List Nat} {a b c d : Option D} {h : Hh} (hw : wf h) (hN : isNet (netD w ks es) = true) (hk : ks.length ≤ 1000) (he : es.length ≤ 400) :
    forB (G.cf (k + 6)) b1_law (.name 2) (netD w ks es) [a, b, c, d] h = .next [a, b, some (netD w ks es), some (netD w ks es)] h := by
  have e1 := copy_ok (k := k + 5) (w := w) (ks := ks) (es := es) hw (by omega) (by omega)
  have e2 := look_ok (k := k) (h := h) nf hl (d := netD w ks es) good_net hN
  simp [forB_name, b1_law, e1, e2, c_neD eq_net]
theorem net0 : D.tup [.int 1, .tup [], .tup [.int 0]] = netD 1 [] [0] := rfl
theorem law (ns : List Int) (_ : ns.length ≤ 63) : ∃ h', callN G 100 13 [.rol (ns.map .int)] [] = .ok (.bl true) h' := by
  have e0 : callN G 100 13 [.rol (ns.map .int)] [] = fin 0 (evS (G.cf 99) ir_law [some (.rol (ns.map .int)), none, none, none] []) := call_eq d_law.F rfl rfl
  rw [e0]
  have w0 : wf [.lst (stL ns 0 0 11)] := wf_app (h := []) wf_nil lt_st
  have s0 : Sta [.lst (stL ns 0 0 11)] 0 ns := ⟨0, 0, 11, rfl, by omega, by omega, by omega⟩
  obtain ⟨wa, ka, ea, h1, c1, a1, l1, d1⟩ := lnet_ok (k := 96) (loose := false) hi hb hm hq s0 w0
  obtain ⟨wb, kb, eb, h2, c2, a2, l2, d2⟩ := lnet_ok (k := 96) (loose := true) hi hb hm hq a1.st a1.wf
  obtain ⟨wc, kc, ec, h3, c3, a3, l3, i3, k3, e3⟩ := bounds_ok (k := 97) a2.st a2.wf
  have w4 : wf (h3 ++ [.lst [netD wa ka ea, netD wb kb eb, netD wc kc ec, netD 1 [] [0]]]) := wf_app a3.wf (by simp [Ob.lt, D.lts, lt_net])
  have t4 : lstAt (h3 ++ [.lst [netD wa ka ea, netD wb kb eb, netD wc kc ec, netD 1 [] [0]]]) h3.length = _ := lstAt_new
  generalize eh4 : h3 ++ [.lst [netD wa ka ea, netD wb kb eb, netD wc kc ec, netD 1 [] [0]]] = h4 at w4 t4
  have t1 := fun a b c d => law_turn (k := 93) (a := a) (b := b) (c := c) (d := d) w4 d1.isNet (by have := d1.k; omega) (by have := d1.e2; omega)
  have t2 := fun a b c d => law_turn (k := 93) (a := a) (b := b) (c := c) (d := d) w4 d2.isNet (by have := d2.k; omega) (by have := d2.e2; omega)
  have t3 := fun a b c d => law_turn (k := 93) (a := a) (b := b) (c := c) (d := d) w4 i3 k3 e3
  have t5 := fun a b c d => law_turn (k := 93) (a := a) (b := b) (c := c) (d := d) w4 (w := 1) (ks := []) (es := [0]) (by decide) (by decide) (by decide)
  have kp : Plan.ok ⟨[netD wa ka ea, netD wb kb eb, netD wc kc ec, netD 1 [] [0]], [(h3.length, [netD wa ka ea, netD wb kb eb, netD wc kc ec, netD 1 [] [0]])]⟩ h4 = true := by simp [Plan.ok, t4]
  have fl : ∀ a b c d, forL (Plan.ok ⟨[netD wa ka ea, netD wb kb eb, netD wc kc ec, netD 1 [] [0]], [(h3.length, [netD wa ka ea, netD wb kb eb, netD wc kc ec, netD 1 [] [0]])]⟩) (forB (G.cf 99) b1_law (.name 2)) [netD wa ka ea, netD wb kb eb, netD wc kc ec, netD 1 [] [0]] [a, b, c, d] h4 = .next [a, b, some (netD 1 [] [0]), some (netD 1 [] [0])] h4 := fun a b c d => by
    simp only [forL, kp, if_true, t1, t2, t3, t5]
  have st0 : ([] : Hh) ++ [.lst [.rol (ns.map .int), .int 0, .int 0, .int 11]] = [.lst (stL ns 0 0 11)] := rfl
  refine ⟨gc 0 (.bl true) h4, ?_⟩
  simp only [List.nil_append] at st0
  simp [ir_law, sz, st0, c1, c2, c3, net0, eh4, t4, fl, fin]
end K11

open PySem PySem.W PySem.Calls PyProof.Rows
set_option maxRecDepth 100000 in
set_option maxHeartbeats 0 in
theorem PySem.Challenge.cw_sumnets_k11_nets_let_by_holds : PySem.Challenge.rw_sumnets_k11_nets_let_by.Holds := by
  w_on; o_law
  refine HandSHeadRun.head_any (r := OpenLaw.row PySem.Challenge.rw_sumnets_k11_nets_let_by) (q := view (OpenLaw.row PySem.Challenge.rw_sumnets_k11_nets_let_by).prog [22]) (H := Ly.hookL 4 K11.defs K11.cons) (ob := Ly.obL 4 K11.defs K11.cons) (M := 2700) (loose := K11.nms) (d := HandSHeadRun.topDef (OpenLaw.row PySem.Challenge.rw_sumnets_k11_nets_let_by).prog 22) (kwd := []) (Ly.obL_eq 4 K11.defs K11.cons)
    (by kernel_rfl) (fun s => by kernel_rfl) K11.run (by kernel_rfl) (by kernel_rfl) (by kernel_rfl) (by rfl) (by first | assumption | decide +kernel) (by decide +kernel) ⟨rfl, rfl, rfl, rfl, rfl, by decide +kernel⟩ ?hw ?hc
  case hw => w_witness2
  case hc =>
    refine L2.walk_ofE (l := PySem.Challenge.rw_sumnets_k11_nets_let_by) (n := 63) (k := 100) (x := "_law_script") (CX := L2.CX0) rfl (by decide) (by kernel_rfl) ⟨rfl, by decide, by decide⟩ ?F (fun _ _ _ _ z => z)
    intro w mg fa h Y G hmg0
    obtain ⟨K, KX, c⟩ := Y
    have hmg : mg ("law" : PySem.Str) = some (.ref fa) := by
      have e : (HandSHeadRun.topDef (OpenLaw.row PySem.Challenge.rw_sumnets_k11_nets_let_by).prog 22).name = ("law" : PySem.Str) := by kernel_rfl
      rw [← e]
      exact hmg0
    exact Ly.law_fin (i := 13) (d := K11.d_law) (fuel := 1000000) KX G hmg c K11.ck rfl rfl rfl K11.law
