import PyProof.Rows.All
import Wide.All
import OpenK.AllK
import Wide.FinOn
import HandS.ForMost
import PyProof.P3Statements
import PyProof.ReprReads
import PyProof.EqLayable
import HandS.Base
import HandS.Call
import HandS.List
import HandS.Dict
import HandS.Iter
import HandS.Words
import HandS.Comp
import HandS.Wide
import HandS.Style
import HandS.TupAny
import HandS.Text
import HandS.Deep
import PyProof.P3In
import HandS.IsInst
import PyProof.ReprRoads
import HandS.Walk
import HandS.Defaults
import HandS.Ends
import HandS.Codes
import PySem.Challenge.RW_slackweb_k14_numbers_put_between
set_option Elab.async false
set_option linter.all false
set_option maxRecDepth 100000
set_option maxHeartbeats 4000000
/-! DxA: data, a small heap, syntax and its meaning by a function -/
namespace Dx
open PySem

inductive D where
  | non | bl (b : Bool) | int (i : Int) | str (s : Str)
  | tup (xs : List D) | lst (xs : List D) | dct (t : Bool) (kvs : List (D × D))
  | ref (n : Nat) | scr (ns : List Int)
deriving Inhabited

mutual
def D.beq : D → D → Bool
  | .non, .non => true
  | .bl a, .bl b => a == b
  | .int a, .int b => a == b
  | .str a, .str b => decide (a = b)
  | .tup a, .tup b => D.beqL a b
  | .lst a, .lst b => D.beqL a b
  | .dct t a, .dct u b => t == u && D.beqP a b
  | .ref a, .ref b => a == b
  | .scr a, .scr b => decide (a = b)
  | _, _ => false
def D.beqL : List D → List D → Bool
  | [], [] => true
  | a :: r, b :: r' => D.beq a b && D.beqL r r'
  | _, _ => false
def D.beqP : List (D × D) → List (D × D) → Bool
  | [], [] => true
  | (a, b) :: r, (c, d) :: r' => D.beq a c && D.beq b d && D.beqP r r'
  | _, _ => false
end
mutual
theorem D.beq_refl : ∀ d : D, D.beq d d = true
  | .non => by simp [D.beq]
  | .bl _ => by simp [D.beq]
  | .int _ => by simp [D.beq]
  | .str _ => by simp [D.beq]
  | .tup xs => by simp [D.beq, D.beqL_refl xs]
  | .lst xs => by simp [D.beq, D.beqL_refl xs]
  | .dct t xs => by simp [D.beq, D.beqP_refl xs]
  | .ref _ => by simp [D.beq]
  | .scr _ => by simp [D.beq]
theorem D.beqL_refl : ∀ d : List D, D.beqL d d = true
  | [] => by simp [D.beqL]
  | a :: r => by simp [D.beqL, D.beq_refl a, D.beqL_refl r]
theorem D.beqP_refl : ∀ d : List (D × D), D.beqP d d = true
  | [] => by simp [D.beqP]
  | (a, b) :: r => by simp [D.beqP, D.beq_refl a, D.beq_refl b, D.beqP_refl r]
end
mutual
theorem D.eq_of_beq : ∀ a b : D, D.beq a b = true → a = b
  | .non, b, h => by cases b <;> simp_all [D.beq]
  | .bl _, b, h => by cases b <;> simp_all [D.beq]
  | .int _, b, h => by cases b <;> simp_all [D.beq]
  | .str _, b, h => by cases b <;> simp_all [D.beq]
  | .tup xs, b, h => by
    cases b <;> simp [D.beq] at h
    rw [D.eq_of_beqL _ _ h]
  | .lst xs, b, h => by
    cases b <;> simp [D.beq] at h
    rw [D.eq_of_beqL _ _ h]
  | .dct t xs, b, h => by
    cases b <;> simp [D.beq] at h
    rw [h.1, D.eq_of_beqP _ _ h.2]
  | .ref _, b, h => by cases b <;> simp_all [D.beq]
  | .scr _, b, h => by cases b <;> simp_all [D.beq]
theorem D.eq_of_beqL : ∀ a b : List D, D.beqL a b = true → a = b
  | [], b, h => by cases b <;> simp_all [D.beqL]
  | a :: r, b, h => by
    cases b with
    | nil => simp [D.beqL] at h
    | cons c q =>
      simp [D.beqL] at h
      rw [D.eq_of_beq _ _ h.1, D.eq_of_beqL _ _ h.2]
theorem D.eq_of_beqP : ∀ a b : List (D × D), D.beqP a b = true → a = b
  | [], b, h => by cases b <;> simp_all [D.beqP]
  | (a, a') :: r, b, h => by
    cases b with
    | nil => simp [D.beqP] at h
    | cons c q =>
      obtain ⟨c1, c2⟩ := c
      simp [D.beqP] at h
      rw [D.eq_of_beq _ _ h.1.1, D.eq_of_beq _ _ h.1.2, D.eq_of_beqP _ _ h.2]
end
instance : BEq D := ⟨D.beq⟩
instance : LawfulBEq D where
  rfl := D.beq_refl _
  eq_of_beq := D.eq_of_beq _ _
instance : DecidableEq D := fun a b =>
  if h : D.beq a b = true then isTrue (D.eq_of_beq _ _ h) else isFalse fun e => h (e ▸ D.beq_refl a)

mutual
/-- all references lie below k -/
def D.und (k : Nat) : D → Bool
  | .tup xs => D.undL k xs
  | .lst xs => D.undL k xs
  | .dct _ xs => D.undP k xs
  | .ref n => decide (n < k)
  | .non | .bl _ | .int _ | .str _ | .scr _ => true
def D.undL (k : Nat) : List D → Bool
  | [] => true
  | a :: r => D.und k a && D.undL k r
def D.undP (k : Nat) : List (D × D) → Bool
  | [] => true
  | (a, b) :: r => D.und k a && D.und k b && D.undP k r
end
mutual
/-- the data as the library's -/
def D.py : D → PyData
  | .non => .none
  | .bl b => .bool b
  | .int i => .int i
  | .str s => .str s
  | .tup xs => .tuple (D.pyL xs)
  | .lst xs => .list (D.pyL xs)
  | .dct _ _ => .none
  | .ref _ => .none
  | .scr _ => .none
def D.pyL : List D → List PyData
  | [] => []
  | a :: r => D.py a :: D.pyL r
end
mutual
/-- no reference, no dict within -/
def D.flat : D → Bool
  | .tup xs => D.flatL xs
  | .lst xs => D.flatL xs
  | .dct _ _ => false
  | .ref _ => false
  | .scr _ => false
  | .non | .bl _ | .int _ | .str _ => true
def D.flatL : List D → Bool
  | [] => true
  | a :: r => D.flat a && D.flatL r
end

/-- an object -/
inductive O where
  | lst (xs : List D) | dct (t : Bool) (kvs : List (D × D)) | ins (c : Nat) (fs : List (Nat × D)) | dead
deriving DecidableEq
abbrev Hd := List O
def O.und (k : Nat) : O → Bool
  | .lst xs => D.undL k xs
  | .dct _ kvs => D.undP k kvs
  | .ins _ fs => fs.all fun p => D.und k p.2
  | .dead => true

/-- an outcome -/
inductive R (α : Type) where
  | ok (a : α) (m : Hd) | exc (c : Nat) (fs : List (Nat × D)) (m : Hd) | no
def R.bind {α β : Type} (r : R α) (f : α → Hd → R β) : R β :=
  match r with
  | .ok a m => f a m
  | .exc c fs m => .exc c fs m
  | .no => .no
@[simp] theorem R.bind_ok {α β : Type} (a : α) (m : Hd) (f : α → Hd → R β) : (R.ok a m).bind f = f a m := rfl
@[simp] theorem R.bind_exc {α β : Type} (c fs m) (f : α → Hd → R β) : (R.exc c fs m : R α).bind f = .exc c fs m := rfl
@[simp] theorem R.bind_no {α β : Type} (f : α → Hd → R β) : (R.no : R α).bind f = .no := rfl
def ifs {α : Type} (b : Bool) (r : R α) : R α := if b then r else .no
@[simp] theorem ifs_true {α : Type} (r : R α) : ifs true r = r := rfl
@[simp] theorem ifs_false {α : Type} (r : R α) : ifs false r = .no := rfl

def optB {α : Type} (o : Option α) (m : Hd) : R α := match o with
  | some a => .ok a m
  | none => .no
@[simp] theorem optB_some {α : Type} (a : α) (m : Hd) : optB (some a) m = .ok a m := rfl
@[simp] theorem optB_none {α : Type} (m : Hd) : optB (none : Option α) m = .no := rfl

/-! ### reading -/
/-- the items of a list or tuple -/
def sq (m : Hd) : D → Option (List D)
  | .scr ns => some (ns.map .int)
  | .tup xs => some xs
  | .lst xs => some xs
  | .ref n => match m[n]? with
    | some (.lst xs) => some xs
    | _ => none
  | _ => none
/-- a list as a value -/
def fz (m : Hd) : D → D
  | .ref n => match m[n]? with
    | some (.lst xs) => .lst xs
    | _ => .ref n
  | d => d
/-- the pairs of a dict -/
def dq (m : Hd) : D → Option (Bool × List (D × D))
  | .dct t kvs => some (t, kvs)
  | .ref n => match m[n]? with
    | some (.dct t kvs) => some (t, kvs)
    | _ => none
  | _ => none
def mkL (b : Bool) (xs : List D) (m : Hd) : R D := if b then .ok (.ref m.length) (m ++ [.lst xs]) else .ok (.lst xs) m

/-- a key: an int or a text; of a tuple-keyed dict a tuple of these -/
def isK : D → Bool
  | .int _ => true
  | .str _ => true
  | _ => false
def keyOk (t : Bool) : D → Bool
  | .tup xs => t && xs.all isK
  | d => !t && isK d
def find (kvs : List (D × D)) (k : D) : Option D := (kvs.find? fun p => D.beq p.1 k).map (·.2)
def put (kvs : List (D × D)) (k v : D) : List (D × D) :=
  if kvs.any fun p => D.beq p.1 k then kvs.map fun p => if D.beq p.1 k then (p.1, v) else p else kvs ++ [(k, v)]

/-! ### operators -/
inductive Bop where
  | add | sub | mul | fdiv | mod | pow
deriving DecidableEq
inductive Cop where
  | eq | ne | lt | le | gt | ge | is | isnot | isin | notin
deriving DecidableEq
def small (i : Int) : Bool := decide (-(2 ^ 64) < i ∧ i < 2 ^ 64)

def addD (b : Bool) (x y : D) (m : Hd) : R D :=
  match x, y with
  | .int i, .int j => .ok (.int (i + j)) m
  | .str s, .str t => ifs (decide (s.length + t.length ≤ sizeLine)) (.ok (.str (s ++ t)) m)
  | .tup s, .tup t => ifs (decide (s.length + t.length ≤ sizeLine)) (.ok (.tup (s ++ t)) m)
  | x, y => match fz m x, fz m y with
    | .lst s, .lst t => ifs (decide (s.length + t.length ≤ sizeLine)) (mkL b (s ++ t) m)
    | _, _ => .no
def repS (s : Str) (k : Nat) : Str := ⟨(List.replicate k s.cps.toList).flatten.toArray⟩
def mulD (b : Bool) (x y : D) (m : Hd) : R D :=
  match x, y with
  | .int i, .int j => ifs (small i || small j) (.ok (.int (i * j)) m)
  | .str s, .int k => ifs (decide (0 ≤ k) && decide (k < 2 ^ 60) && decide (s.length * k.toNat ≤ 1000000)) (.ok (.str (repS s k.toNat)) m)
  | x, .int k => match fz m x with
    | .lst s => ifs (decide (-(2 ^ 63) ≤ k) && decide (k < 2 ^ 63) && decide (s.length * k.toNat ≤ sizeLine)) (mkL b (List.replicate k.toNat s).flatten m)
    | _ => .no
  | _, _ => .no
def bopD (b : Bool) (o : Bop) (x y : D) (m : Hd) : R D :=
  match o with
  | .add => addD b x y m
  | .mul => mulD b x y m
  | .sub => match x, y with
    | .int i, .int j => .ok (.int (i - j)) m
    | _, _ => .no
  | .fdiv => match x, y with
    | .int i, .int j => ifs (decide (0 < j) && small j) (.ok (.int (i / j)) m)
    | _, _ => .no
  | .mod => match x, y with
    | .int i, .int j => ifs (decide (0 < j)) (.ok (.int (i % j)) m)
    | _, _ => .no
  | .pow => match x, y with
    | .int i, .int j => ifs (decide (0 ≤ j) && decide (j ≤ 1000000) && small i) (.ok (.int (i ^ j.toNat)) m)
    | _, _ => .no

/-- == -/
def eqF (m : Hd) (x y : D) : Option Bool :=
  let a := fz m x
  let b := fz m y
  if D.flat a && D.flat b && SeqAt.shaped (D.py a) && SeqAt.shaped (D.py b) then some (PyData.eqv (D.py a) (D.py b)) else none
def eqD (m : Hd) (x y : D) : Option Bool := match x, y with
  | .str s, .str t => some (decide (s = t))
  | x, y => eqF m x y
/-- x == a flat item -/
def flat1 : D → Bool
  | .non | .bl _ | .int _ | .str _ => true
  | _ => false
def memD (x : D) (xs : List D) : Option Bool :=
  if D.flat x && SeqAt.shaped (D.py x) && D.flatL xs && PyData.canLayAll0 (D.pyL xs) then some ((D.pyL xs).any fun y => PyData.eqv y (D.py x)) else none
def inD (m : Hd) (x y : D) : Option Bool :=
  match y with
  | .str t => match x with
    | .str s => if s.length = 1 then some (decide (s.cps.getD 0 0 ∈ t.cps.toList)) else none
    | _ => none
  | y => match sq m y with
    | some ys => memD x ys
    | none => match dq m y with
      | some (t, kvs) => if keyOk t x then some (find kvs x).isSome else none
      | none => none
def cmpI (o : Cop) (i j : Int) : Option Bool :=
  match o with
  | .lt => some (decide (i < j)) | .le => some (decide (i ≤ j)) | .gt => some (decide (j < i)) | .ge => some (decide (j ≤ i)) | _ => none
def cmpD (m : Hd) (o : Cop) (x y : D) : Option Bool :=
  match o with
  | .eq => eqD m x y
  | .ne => (eqD m x y).map (!·)
  | .is => match y with
    | .non => some (match x with | .non => true | _ => false)
    | .bl b => match x with
      | .bl c => some (c == b)
      | _ => none
    | _ => none
  | .isnot => match y with
    | .non => some (match x with | .non => false | _ => true)
    | .bl b => match x with
      | .bl c => some (!(c == b))
      | _ => none
    | _ => none
  | .isin => inD m x y
  | .notin => (inD m x y).map (!·)
  | o => match x, y with
    | .int i, .int j => cmpI o i j
    | _, _ => none
def truD (m : Hd) (x : D) : Option Bool :=
  match x with
  | .non => some false
  | .bl b => some b
  | .int i => some (i != 0)
  | .str s => if s.length ≤ sizeLine then some ((s.length : Int) != 0) else none
  | x => (sq m x).map fun xs => !xs.isEmpty
def ixNat (n : Nat) (i : Int) : Option Nat := if 0 ≤ i then (if i < n then some i.toNat else none) else if -(n : Int) ≤ i then some (i + n).toNat else none
def getD (m : Hd) (x y : D) : Option D :=
  match sq m x with
  | some xs => match y with
    | .int i => (ixNat xs.length i).bind fun j => xs[j]?
    | _ => none
  | none => match x with
    | .str s => match y with
      | .int i => if s.length ≤ sizeLine then ((ixNat s.cps.toList.length i).bind fun j => s.cps.toList[j]?).map fun c => .str ⟨#[c]⟩ else none
      | _ => none
    | x => match dq m x with
      | some (t, kvs) => if keyOk t y then find kvs y else none
      | none => none
/-- a slice's bound as a place among n -/
def sIx (n d : Nat) : Option Int → Nat
  | none => d
  | some v => if v < 0 then (v + (n : Int)).toNat else min v.toNat n
def cut {α : Type} (xs : List α) (lo hi : Option Int) : List α := (xs.drop (sIx xs.length 0 lo)).take (sIx xs.length xs.length hi - sIx xs.length 0 lo)
def part (a : Bool) (d : D) : Option (Option Int) := if a then some none else match d with
  | .int i => some (some i)
  | _ => none
def slD (b : Bool) (x : D) (lo hi : Option Int) (m : Hd) : R D :=
  match x with
  | .tup xs => .ok (.tup (cut xs lo hi)) m
  | .str s => ifs (decide (s.length ≤ sizeLine)) (.ok (.str ⟨(cut s.cps.toList lo hi).toArray⟩) m)
  | x => match sq m x with
    | some xs => mkL b (cut xs lo hi) m
    | none => .no
def revD (b : Bool) (x : D) (m : Hd) : R D :=
  match sq m x, x with
  | _, .tup _ => .no
  | some xs, _ => mkL b xs.reverse m
  | _, _ => .no
def setD (x y v : D) (m : Hd) : R Unit :=
  match x with
  | .ref n => match m[n]? with
    | some (.lst xs) => match y with
      | .int i => match ixNat xs.length i with
        | some j => .ok () (m.set n (.lst (xs.set j v)))
        | none => .no
      | _ => .no
    | some (.dct t kvs) => ifs (keyOk t y && decide (kvs.length < sizeLine)) (.ok () (m.set n (.dct t (put kvs y v))))
    | _ => .no
  | _ => .no

/-! ### built-in functions -/
inductive Ty where
  | int | str | bool | tuple | list | dict
deriving DecidableEq
def tyOf (m : Hd) : D → Option String
  | .non => some "NoneType" | .bl _ => some "bool" | .int _ => some "int" | .str _ => some "str" | .tup _ => some "tuple" | .lst _ => some "list" | .scr _ => some "list"
  | .dct _ _ => none
  | .ref n => match m[n]? with
    | some (.lst _) => some "list"
    | some (.dct _ _) => some "dict"
    | _ => none
def Ty.name : Ty → String
  | .int => "int" | .str => "str" | .bool => "bool" | .tuple => "tuple" | .list => "list" | .dict => "dict"
def isTy (m : Hd) (d : D) (t : Ty) : Option Bool := (tyOf m d).map fun n => n == t.name || (n == "bool" && t.name == "int")
/-- the items of a list -/
def lq (m : Hd) (d : D) : Option (List D) := match d with
  | .tup _ => none
  | d => sq m d
inductive Bi where
  | len | max2 | min2 | abs | int | repr | list (b : Bool) | tuple | isinst (t : Ty) | all | any | sum | str | maxL | minL
deriving DecidableEq
def intsOf : List D → Option (List Int)
  | [] => some []
  | .int i :: r => (intsOf r).map (i :: ·)
  | _ :: _ => none
def blsOf : List D → Option (List Bool)
  | [] => some []
  | .bl i :: r => (blsOf r).map (i :: ·)
  | _ :: _ => none
def lenD (m : Hd) (x : D) : Option Nat :=
  match x with
  | .str s => if s.length ≤ sizeLine then some s.length else none
  | x => match sq m x with
    | some xs => some xs.length
    | none => none
def biD (f : Bi) (xs : List D) (m : Hd) : R D :=
  match f, xs with
  | .len, [x] => match lenD m x with
    | some n => .ok (.int n) m
    | none => .no
  | .max2, [.int i, .int j] => .ok (.int (if j > i then j else i)) m
  | .min2, [.int i, .int j] => .ok (.int (if j < i then j else i)) m
  | .abs, [.int i] => .ok (.int (if i < 0 then -i else i)) m
  | .int, [.int i] => .ok (.int i) m
  | .int, [.bl b] => .ok (.int (if b then 1 else 0)) m
  | .repr, [x] =>
    let d := fz m x
    ifs (D.flat d && (match d with | .tup _ => true | .lst _ => true | _ => false) && (D.py d).showable && decide ((D.py d).depth ≤ 64) && decide ((D.py d).shown.length ≤ sizeLine)) (.ok (.str (D.py d).shown) m)
  | .list b, [x] => match sq m x with
    | some xs => mkL b xs m
    | none => .no
  | .tuple, [x] => match sq m x with
    | some xs => .ok (.tup xs) m
    | none => .no
  | .isinst t, [x] => optB ((isTy m x t).map .bl) m
  | .all, [x] => match (lq m x).bind blsOf with
    | some bs => .ok (.bl (bs.all id)) m
    | none => .no
  | .any, [x] => match (lq m x).bind blsOf with
    | some bs => .ok (.bl (bs.any id)) m
    | none => .no
  | .sum, [x] => match (lq m x).bind intsOf with
    | some ns => .ok (.int ns.sum) m
    | none => .no
  | .str, [.int i] => ifs (decide (i.natAbs.log2 < 1920)) (.ok (.str (toString i)) m)
  | .maxL, [x] => match (lq m x).bind intsOf with
    | some (n :: ns) => .ok (.int (ns.foldl max n)) m
    | _ => .no
  | .minL, [x] => match (lq m x).bind intsOf with
    | some (n :: ns) => .ok (.int (ns.foldl min n)) m
    | _ => .no
  | _, _ => .no

/-! ### methods of built-in types -/
inductive Mt where
  | append | extend | pop | clear | get1 | get2
deriving DecidableEq
/-- the receiver's kind -/
def mtTy (m : Hd) (d : D) (f : Mt) : Bool := match fz m d with
  | .lst _ => (match f with | .append | .extend | .pop | .clear => true | _ => false)
  | _ => match dq m d with
    | some _ => (match f with | .get1 | .get2 => true | _ => false)
    | none => false
def mtD (f : Mt) (x : D) (xs : List D) (m : Hd) : R D :=
  match f, x, xs with
  | .append, .ref n, [v] => match m[n]? with
    | some (.lst ys) => ifs (decide (ys.length < sizeLine)) (.ok .non (m.set n (.lst (ys ++ [v]))))
    | _ => .no
  | .extend, .ref n, [v] => match m[n]?, fz m v with
    | some (.lst ys), .lst zs => ifs (decide (ys.length + zs.length ≤ sizeLine)) (.ok .non (m.set n (.lst (ys ++ zs))))
    | _, _ => .no
  | .pop, .ref n, [] => match m[n]? with
    | some (.lst ys) => match ys.getLast? with
      | some v => .ok v (m.set n (.lst ys.dropLast))
      | none => .no
    | _ => .no
  | .clear, .ref n, [] => match m[n]? with
    | some (.lst ys) => .ok .non (m.set n (.lst []))
    | _ => .no
  | .get1, x, [k] => match dq m x with
    | some (t, kvs) => ifs (keyOk t k) (.ok ((find kvs k).getD .non) m)
    | none => .no
  | .get2, x, [k, d] => match dq m x with
    | some (t, kvs) => ifs (keyOk t k) (.ok ((find kvs k).getD d) m)
    | none => .no
  | _, _, _ => .no

/-! ### small parts -/
def negD (d : D) (m : Hd) : R D := match d with
  | .int i => .ok (.int (-i)) m
  | _ => .no
def notD (d : D) (m : Hd) : R D := match d with
  | .bl b => .ok (.bl (!b)) m
  | _ => .no
def andD (d : D) (m : Hd) (r : Hd → R D) : R D := match d with
  | .bl true => r m
  | .bl false => .ok (.bl false) m
  | _ => .no
def orD (d : D) (m : Hd) (r : Hd → R D) : R D := match d with
  | .bl false => r m
  | .bl true => .ok (.bl true) m
  | _ => .no
/-- a list or dict of one's own is told to stay -/
def fzD (d : D) (m : Hd) : R D := match d with
  | .ref n => match m[n]? with
    | some (.lst xs) => .ok (.lst xs) (m.set n .dead)
    | some (.dct t kvs) => .ok (.dct t kvs) (m.set n .dead)
    | _ => .no
  | d => .ok d m
def varD (s : List (Option D)) (i : Nat) (m : Hd) : R D := match s[i]? with
  | some (some d) => .ok d m
  | _ => .no

/-! ### syntax -/
inductive Tg where
  | name (i : Nat) | tup (ts : List Tg)
mutual
inductive Ex where
  | var (i : Nat)
  | con (d : D)
  | bin (b : Bool) (o : Bop) (x y : Ex)
  | neg (x : Ex)
  | cmp (o : Cop) (x y : Ex)
  | chain (o o' : Cop) (x y z : Ex)
  | and (x y : Ex) | or (x y : Ex) | not (x : Ex)
  | cond (c : Te) (x y : Ex)
  | tup (es : List Ex) | lst (b : Bool) (es : List Ex) | dnew (t : Bool)
  | ix (x y : Ex) | sl (b : Bool) (x lo hi : Ex) | rev (b : Bool) (x : Ex)
  | call (f : Nat) (es : List Ex) (g : List (Nat ⊕ D))
  | bi (f : Bi) (es : List Ex)
  | mt (f : Mt) (x : Ex) (es : List Ex)
  | lc (b : Bool) (own : List Nat) (tg : Tg) (it : Iw) (c : Te) (e : Ex)
  | fz (x : Ex)
inductive Te where
  | cmp (o : Cop) (x y : Ex) | chain (o o' : Cop) (x y z : Ex)
  | and (a b : Te) | or (a b : Te) | not (a : Te)
  | val (x : Ex) | yes
inductive Iw where
  | seq (x : Ex) | rng (lo hi : Ex) | enum (x : Ex) | zip (x y : Ex)
end
inductive Sm where
  | asg (tg : Tg) (e : Ex)
  | setix (o i e : Ex)
  | exp (e : Ex)
  | ret (e : Ex)
  | iff (c : Te) (a b : List Sm)
  | fr (tg : Tg) (it : Iw) (body : List Sm)
  | whl (c : Te) (body : List Sm)
  | pass
  | never

/-! ### meaning -/
abbrev SD := List (Option D)
mutual
def bindTg : Tg → D → SD → Option SD
  | .name i, d, s => some (s.set i (some d))
  | .tup ts, d, s => match d with
    | .tup ds => bindTgs ts ds s
    | _ => none
def bindTgs : List Tg → List D → SD → Option SD
  | [], [], s => some s
  | t :: ts, d :: ds, s => (bindTg t d s).bind fun s' => bindTgs ts ds s'
  | _, _, _ => none
end
def wipeD (s : SD) : List Nat → SD
  | [] => s
  | v :: vs => (wipeD s vs).set v none
/-- the guard of a walk: lists that stay while it goes -/
abbrev Gu := List (Nat × List D)
def guOk (g : Gu) (m : Hd) : Bool := g.all fun p => match m[p.1]? with
  | some (.lst xs) => D.beqL xs p.2
  | _ => false
def guOf (m : Hd) : D → Gu
  | .ref n => match m[n]? with
    | some (.lst xs) => [(n, xs)]
    | _ => []
  | _ => []
def lcGo (g : Gu) (step : D → Hd → R (Option D)) : List D → Hd → R (List D)
  | [], m => ifs (guOk g m) (.ok [] m)
  | d :: ds, m => ifs (guOk g m) ((step d m).bind fun o m1 => (lcGo g step ds m1).bind fun r m2 => .ok (o.toList ++ r) m2)
def lcStep (tg : Tg) (s : SD) (c : SD → Hd → R Bool) (e : SD → Hd → R D) (d : D) (m : Hd) : R (Option D) :=
  (optB (bindTg tg d s) m).bind fun s2 m2 => (c s2 m2).bind fun k m3 => if k then (e s2 m3).bind fun x m4 => .ok (some x) m4 else .ok none m3
def rangeD (lo hi : Int) : List D := (List.range (hi - lo).toNat).map fun i => .int (lo + (i : Nat))
def enumD (xs : List D) : List D := xs.zipIdx.map fun p => .tup [.int (p.2 : Nat), p.1]
def zipD (xs ys : List D) : List D := (xs.zip ys).map fun p => .tup [p.1, p.2]
def bigI (i : Int) : Bool := decide (-(2 ^ 62) ≤ i ∧ i < 2 ^ 62)
def rngD (d e : D) (m : Hd) : R (List D × Gu) := match d, e with
  | .int i, .int j => ifs (bigI i && bigI j) (.ok (rangeD i j, []) m)
  | _, _ => .no
/-- a part of a slice that is left out -/
def isAbs : Ex → Bool
  | .con .non => true
  | _ => false
/-- the arguments in the parameters' order -/
def arr (g : List (Nat ⊕ D)) (ds : List D) : Option (List D) := g.mapM fun x => match x with
  | .inl i => ds[i]?
  | .inr d => some d

section
variable (call : Nat → List D → Hd → R D)
mutual
def evE : Ex → SD → Hd → R D
  | .var i, s, m => varD s i m
  | .con d, _, m => .ok d m
  | .bin b o x y, s, m => (evE x s m).bind fun d m1 => (evE y s m1).bind fun e m2 => bopD b o d e m2
  | .neg x, s, m => (evE x s m).bind negD
  | .cmp o x y, s, m => (evE x s m).bind fun d m1 => (evE y s m1).bind fun e m2 => optB ((cmpD m2 o d e).map .bl) m2
  | .chain o o' x y z, s, m => (evE x s m).bind fun d m1 => (evE y s m1).bind fun e m2 => (optB (cmpD m2 o d e) m2).bind fun k m3 =>
      if k then (evE z s m3).bind fun f m4 => optB ((cmpD m4 o' e f).map .bl) m4 else .ok (.bl false) m3
  | .and x y, s, m => (evE x s m).bind fun d m1 => andD d m1 (evE y s)
  | .or x y, s, m => (evE x s m).bind fun d m1 => orD d m1 (evE y s)
  | .not x, s, m => (evE x s m).bind notD
  | .cond c x y, s, m => (evT c s m).bind fun b m1 => if b then evE x s m1 else evE y s m1
  | .tup es, s, m => (evEs es s m).bind fun ds m1 => ifs (decide (ds.length ≤ sizeLine)) (.ok (.tup ds) m1)
  | .lst b es, s, m => (evEs es s m).bind fun ds m1 => ifs (decide (ds.length ≤ sizeLine)) (mkL b ds m1)
  | .dnew t, _, m => .ok (.ref m.length) (m ++ [.dct t []])
  | .ix x y, s, m => (evE x s m).bind fun d m1 => (evE y s m1).bind fun e m2 => optB (getD m2 d e) m2
  | .sl b x lo hi, s, m => (evE x s m).bind fun d m1 => ((evE lo s m1).bind fun l m2 => optB (part (isAbs lo) l) m2).bind fun lo m2 => ((evE hi s m2).bind fun l m3 => optB (part (isAbs hi) l) m3).bind fun hi m3 => slD b d lo hi m3
  | .rev b x, s, m => (evE x s m).bind (revD b)
  | .call f es g, s, m => (evEs es s m).bind fun ds m1 => (optB (arr g ds) m1).bind fun vs m2 => call f vs m2
  | .bi f es, s, m => (evEs es s m).bind (biD f)
  | .mt f x es, s, m => (evE x s m).bind fun d m1 => (ifs (mtTy m1 d f) (.ok () m1)).bind fun _ m1 => (evEs es s m1).bind fun ds m2 => mtD f d ds m2
  | .lc b own tg it c e, s, m => (evI it s m).bind fun p m1 => ifs (decide (p.1.length ≤ sizeLine))
      ((lcGo p.2 (lcStep tg (wipeD s own) (evT c) (evE e)) p.1 m1).bind (mkL b))
  | .fz x, s, m => (evE x s m).bind fzD
def evEs : List Ex → SD → Hd → R (List D)
  | [], _, m => .ok [] m
  | e :: es, s, m => (evE e s m).bind fun d m1 => (evEs es s m1).bind fun ds m2 => .ok (d :: ds) m2
def evT : Te → SD → Hd → R Bool
  | .cmp o x y, s, m => (evE x s m).bind fun d m1 => (evE y s m1).bind fun e m2 => optB (cmpD m2 o d e) m2
  | .chain o o' x y z, s, m => (evE x s m).bind fun d m1 => (evE y s m1).bind fun e m2 => (optB (cmpD m2 o d e) m2).bind fun k m3 =>
      if k then (evE z s m3).bind fun f m4 => optB (cmpD m4 o' e f) m4 else .ok false m3
  | .and a b, s, m => (evT a s m).bind fun k m1 => if k then evT b s m1 else .ok false m1
  | .or a b, s, m => (evT a s m).bind fun k m1 => if k then .ok true m1 else evT b s m1
  | .not a, s, m => (evT a s m).bind fun k m1 => .ok (!k) m1
  | .val x, s, m => (evE x s m).bind fun d m1 => optB (truD m1 d) m1
  | .yes, _, m => .ok true m
/-- what is walked: the items, and the lists that stay -/
def evI : Iw → SD → Hd → R (List D × Gu)
  | .seq x, s, m => (evE x s m).bind fun d m1 => (optB (sq m1 d) m1).bind fun xs m2 => .ok (xs, guOf m2 d) m2
  | .rng lo hi, s, m => (evE lo s m).bind fun d m1 => (evE hi s m1).bind fun e m2 => rngD d e m2
  | .enum x, s, m => (evE x s m).bind fun d m1 => (optB (sq m1 d) m1).bind fun xs m2 => .ok (enumD xs, guOf m2 d) m2
  | .zip x y, s, m => (evE x s m).bind fun d m1 => (evE y s m1).bind fun e m2 => (optB (sq m2 d) m2).bind fun xs m3 => (optB (sq m3 e) m3).bind fun ys m4 =>
      .ok (zipD xs ys, guOf m4 d ++ guOf m4 e) m4
end

/-- where a statement leads -/
inductive Fl where
  | next (s : SD) | ret (d : D)
def loopF : Nat := 2 ^ 30
def frTurn (tg : Tg) (body : SD → Hd → R Fl) (go : SD → Hd → R Fl) (d : D) (s : SD) (m : Hd) : R Fl :=
  (optB (bindTg tg d s) m).bind fun s1 m1 => (body s1 m1).bind fun f m2 => match f with
    | .next s2 => go s2 m2
    | .ret d => .ok (.ret d) m2
def frGo (g : Gu) (tg : Tg) (body : SD → Hd → R Fl) : List D → SD → Hd → R Fl
  | [], s, m => ifs (guOk g m) (.ok (.next s) m)
  | d :: ds, s, m => ifs (guOk g m) (frTurn tg body (frGo g tg body ds) d s m)
def whStep (body : SD → Hd → R Fl) (go : SD → Hd → R Fl) (s : SD) (k : Bool) (m : Hd) : R Fl :=
  if k then (body s m).bind fun f m2 => match f with
    | .next s2 => go s2 m2
    | .ret d => .ok (.ret d) m2
  else .ok (.next s) m
def whGo (c : SD → Hd → R Bool) (body : SD → Hd → R Fl) : Nat → SD → Hd → R Fl
  | 0, _, _ => .no
  | n + 1, s, m => (c s m).bind fun k m1 => whStep body (whGo c body n) s k m1
def asgD (t : Tg) (s : SD) (d : D) (m : Hd) : R Fl := match bindTg t d s with
  | some s1 => .ok (.next s1) m
  | none => .no
def seqD (g : SD → Hd → R Fl) (f : Fl) (m : Hd) : R Fl := match f with
  | .next s1 => g s1 m
  | .ret d => .ok (.ret d) m
mutual
def evS : Sm → SD → Hd → R Fl
  | .asg tg e, s, m => (evE call e s m).bind (asgD tg s)
  | .setix o i e, s, m => (evE call e s m).bind fun v m1 => (evE call o s m1).bind fun x m2 => (evE call i s m2).bind fun y m3 => (setD x y v m3).bind fun _ m4 => .ok (.next s) m4
  | .exp e, s, m => (evE call e s m).bind fun _ m1 => .ok (.next s) m1
  | .ret e, s, m => (evE call e s m).bind fun d m1 => .ok (.ret d) m1
  | .iff c a b, s, m => (evT call c s m).bind fun k m1 => if k then evB a s m1 else evB b s m1
  | .fr tg it body, s, m => (evI call it s m).bind fun p m1 => frGo p.2 tg (evB body) p.1 s m1
  | .whl c body, s, m => whGo (evT call c) (evB body) loopF s m
  | .pass, s, m => .ok (.next s) m
  | .never, _, _ => .no
def evB : List Sm → SD → Hd → R Fl
  | [], s, m => .ok (.next s) m
  | a :: r, s, m => (evS a s m).bind (seqD (evB r))
end
end

/-! ### defs -/
structure Fn where
  slots : Nat
  pars : Nat
  gc : Bool
  body : List Sm
/-- what was laid in the call and is not told is forgotten -/
def keepOk (k : Nat) : Hd → Hd → Bool
  | [], _ => true
  | o :: r, o' :: r' => (decide (o = o') || O.und k o') && keepOk k r r'
  | _ :: _, [] => false
def leave (gc : Bool) (m0 : Hd) (r : R D) : R D :=
  match r with
  | .ok d m => if gc && D.und m0.length d && keepOk m0.length m0 m then .ok d (m.take m0.length) else .ok d m
  | r => r
def runFn (call : Nat → List D → Hd → R D) (f : Fn) (ds : List D) (m : Hd) : R D :=
  if ds.length = f.pars then
    leave f.gc m ((evB call f.body (ds.map some ++ List.replicate (f.slots - f.pars) none) m).bind fun x m1 => match x with
      | .next _ => .ok .non m1
      | .ret d => .ok d m1)
  else .no
def callN (T : List Fn) : Nat → Nat → List D → Hd → R D
  | 0, _, _, _ => .no
  | n + 1, i, ds, m => match T[i]? with
    | some f => runFn (callN T n) f ds m
    | none => .no
end Dx
/-! DxB: data against the layer's values -/
namespace Dx
open PySem PySem.Spec PyProof.Rows L2
abbrev VS := List (Option V)

structure Lnk where
  K : PySem.W.Frag
  cl : Nat → Addr
  nm : Nat → Str

/-- a list that stays -/
def FrL (K : PySem.W.Frag) (H : Hp) (a : Addr) (xs : List V) : Prop :=
  (∃ o, H a = some (.frz o (.lst xs))) ∨
    ∃ (o : Obj) (its : Array Value) (n : Nat), K.lookup a = some o ∧ o.cls = .type "list" ∧ o.dict = none ∧ o.data = .seq its n ∧ its.size ≤ sizeLine ∧ Vals xs its.toList
theorem FrL.sq {K H a xs} (h : FrL K H a xs) : SqL K H a xs := h.elim (fun h => .inl (.inr h)) .inr

def kD : Key → D
  | .inl i => .int i
  | .inr s => .str s

section
variable (K : PySem.W.Frag) (H : Hp) (ρ : List Addr)
mutual
def Rv : D → V → Prop
  | .non, v => v = .non
  | .bl b, v => v = .bl b
  | .int i, v => v = .int i
  | .str s, v => v = .str s
  | .tup ds, v => ∃ a vs, v = .ref a ∧ H a = some (.tup vs) ∧ RvL ds vs
  | .lst ds, v => ∃ a o vs, v = .ref a ∧ H a = some (.frz o (.lst vs)) ∧ RvL ds vs
  | .dct t kvs, v => ∃ a o, v = .ref a ∧ ((t = false ∧ ∃ ps, H a = some (.frz o (.dK ps)) ∧ RvK kvs ps) ∨ (t = true ∧ ∃ ps, H a = some (.frz o (.dT ps)) ∧ RvT kvs ps))
  | .ref n, v => ∃ a, ρ[n]? = some a ∧ v = .ref a
  | .scr ns, v => ∃ a, v = .ref a ∧ FrL K H a (ns.map V.int)
def RvL : List D → List V → Prop
  | [], vs => vs = []
  | d :: ds, vs => ∃ v r, vs = v :: r ∧ Rv d v ∧ RvL ds r
def RvK : List (D × D) → List (Key × V) → Prop
  | [], ps => ps = []
  | (d, e) :: r, ps => ∃ k v q, ps = (k, v) :: q ∧ d = kD k ∧ Rv e v ∧ RvK r q
def RvT : List (D × D) → List (List Key × V) → Prop
  | [], ps => ps = []
  | (d, e) :: r, ps => ∃ k v q, ps = (k, v) :: q ∧ d = .tup (k.map kD) ∧ Rv e v ∧ RvT r q
end
end

/-- fields -/
def RvF (L : Lnk) (H : Hp) (ρ : List Addr) : List (Nat × D) → List (Str × V) → Prop
  | [], gs => gs = []
  | (f, d) :: r, gs => ∃ v q, gs = (L.nm f, v) :: q ∧ Rv L.K H ρ d v ∧ RvF L H ρ r q

def OR (L : Lnk) (H : Hp) (ρ : List Addr) (a : Addr) : O → Prop
  | .lst ds => ∃ vs, H a = some (.lst vs) ∧ RvL L.K H ρ ds vs
  | .dct t kvs => (t = false ∧ ∃ ps, H a = some (.dK ps) ∧ RvK L.K H ρ kvs ps) ∨ (t = true ∧ ∃ ps, H a = some (.dT ps) ∧ RvT L.K H ρ kvs ps)
  | .ins c fs => ∃ dx gs, H a = some (.ins (L.cl c) dx gs) ∧ RvF L H ρ fs gs
  | .dead => ∃ o u, H a = some (.frz o u)

structure Sim (L : Lnk) (H : Hp) (ρ : List Addr) (m : Hd) : Prop where
  len : ρ.length = m.length
  nd : ρ.Nodup
  ob : ∀ (n : Nat) (a : Addr) (o : O), ρ[n]? = some a → m[n]? = some o → OR L H ρ a o

structure Ext (H : Hp) (ρ : List Addr) (H' : Hp) (ρ' : List Addr) : Prop where
  pre : ρ <+: ρ'
  new : ∀ a ∈ ρ', a ∈ ρ ∨ H a = none
  tup : ∀ a xs, H a = some (.tup xs) → H' a = some (.tup xs)
  frz : ∀ a o u, H a = some (.frz o u) → H' a = some (.frz o u)
  rest : ∀ a o, H a = some o → a ∉ ρ → H' a = some o

theorem Ext.refl (H : Hp) (ρ : List Addr) : Ext H ρ H ρ := ⟨List.prefix_refl _, fun _ h => .inl h, fun _ _ h => h, fun _ _ _ h => h, fun _ _ h _ => h⟩
theorem Ext.trans {H H1 H2 : Hp} {ρ ρ1 ρ2 : List Addr} (a : Ext H ρ H1 ρ1) (b : Ext H1 ρ1 H2 ρ2) : Ext H ρ H2 ρ2 where
  pre := a.pre.trans b.pre
  new := fun x hx => by
    rcases b.new x hx with h | h
    · exact a.new x h
    · by_cases hm : x ∈ ρ
      · exact .inl hm
      · refine .inr ?_
        cases e : H x with
        | none => rfl
        | some o =>
          have := a.rest x o e hm
          rw [h] at this; cases this
  tup := fun x xs h => b.tup x xs (a.tup x xs h)
  frz := fun x o u h => b.frz x o u (a.frz x o u h)
  rest := fun x o h hn => b.rest x o (a.rest x o h hn) fun hm => by
    rcases a.new x hm with z | z
    · exact hn z
    · rw [h] at z; cases z
theorem get_pre {ρ ρ' : List Addr} (h : ρ <+: ρ') {n : Nat} {a : Addr} (e : ρ[n]? = some a) : ρ'[n]? = some a := by
  obtain ⟨t, rfl⟩ := h
  rw [List.getElem?_append_left (by exact (List.getElem?_eq_some_iff.mp e).1)]
  exact e
theorem Ext.frl {K H ρ H' ρ'} (x : Ext H ρ H' ρ') {a xs} (h : FrL K H a xs) : FrL K H' a xs := h.elim (fun ⟨o, h⟩ => .inl ⟨o, x.frz _ _ _ h⟩) .inr

section
variable {K : PySem.W.Frag} {H H' : Hp} {ρ ρ' : List Addr}
mutual
theorem Rv.mono (pre : ρ <+: ρ') (ht : ∀ a xs, H a = some (.tup xs) → H' a = some (.tup xs)) (hf : ∀ a o u, H a = some (.frz o u) → H' a = some (.frz o u)) : ∀ {d : D} {v : V}, Rv K H ρ d v → Rv K H' ρ' d v
  | .non, _, h => by simpa [Rv] using h
  | .bl _, _, h => by simpa [Rv] using h
  | .int _, _, h => by simpa [Rv] using h
  | .str _, _, h => by simpa [Rv] using h
  | .tup ds, v, h => by
    unfold Rv at h ⊢
    obtain ⟨a, vs, e, q, r⟩ := h
    exact ⟨a, vs, e, ht _ _ q, RvL.mono pre ht hf r⟩
  | .lst ds, v, h => by
    unfold Rv at h ⊢
    obtain ⟨a, o, vs, e, q, r⟩ := h
    exact ⟨a, o, vs, e, hf _ _ _ q, RvL.mono pre ht hf r⟩
  | .dct t kvs, v, h => by
    unfold Rv at h ⊢
    obtain ⟨a, o, e, q⟩ := h
    refine ⟨a, o, e, ?_⟩
    rcases q with ⟨rfl, ps, q, r⟩ | ⟨rfl, ps, q, r⟩
    · exact .inl ⟨rfl, ps, hf _ _ _ q, RvK.mono pre ht hf r⟩
    · exact .inr ⟨rfl, ps, hf _ _ _ q, RvT.mono pre ht hf r⟩
  | .ref n, v, h => by
    unfold Rv at h ⊢
    obtain ⟨a, q, e⟩ := h
    exact ⟨a, get_pre pre q, e⟩
  | .scr ns, v, h => by
    unfold Rv at h ⊢
    obtain ⟨a, e, q⟩ := h
    exact ⟨a, e, q.elim (fun ⟨o, q⟩ => .inl ⟨o, hf _ _ _ q⟩) .inr⟩
theorem RvL.mono (pre : ρ <+: ρ') (ht : ∀ a xs, H a = some (.tup xs) → H' a = some (.tup xs)) (hf : ∀ a o u, H a = some (.frz o u) → H' a = some (.frz o u)) : ∀ {d : List D} {v : List V}, RvL K H ρ d v → RvL K H' ρ' d v
  | [], _, h => by simpa [RvL] using h
  | d :: ds, vs, h => by
    unfold RvL at h ⊢
    obtain ⟨v, r, e, q, z⟩ := h
    exact ⟨v, r, e, Rv.mono pre ht hf q, RvL.mono pre ht hf z⟩
theorem RvK.mono (pre : ρ <+: ρ') (ht : ∀ a xs, H a = some (.tup xs) → H' a = some (.tup xs)) (hf : ∀ a o u, H a = some (.frz o u) → H' a = some (.frz o u)) : ∀ {d : List (D × D)} {v : List (Key × V)}, RvK K H ρ d v → RvK K H' ρ' d v
  | [], _, h => by simpa [RvK] using h
  | (d, e) :: ds, vs, h => by
    unfold RvK at h ⊢
    obtain ⟨k, v, r, e, ek, q, z⟩ := h
    exact ⟨k, v, r, e, ek, Rv.mono pre ht hf q, RvK.mono pre ht hf z⟩
theorem RvT.mono (pre : ρ <+: ρ') (ht : ∀ a xs, H a = some (.tup xs) → H' a = some (.tup xs)) (hf : ∀ a o u, H a = some (.frz o u) → H' a = some (.frz o u)) : ∀ {d : List (D × D)} {v : List (List Key × V)}, RvT K H ρ d v → RvT K H' ρ' d v
  | [], _, h => by simpa [RvT] using h
  | (d, e) :: ds, vs, h => by
    unfold RvT at h ⊢
    obtain ⟨k, v, r, e, ek, q, z⟩ := h
    exact ⟨k, v, r, e, ek, Rv.mono pre ht hf q, RvT.mono pre ht hf z⟩
end
theorem Rv.ext {d : D} {v : V} (h : Rv K H ρ d v) (x : Ext H ρ H' ρ') : Rv K H' ρ' d v := Rv.mono x.pre x.tup x.frz h
theorem RvL.ext {d : List D} {v : List V} (h : RvL K H ρ d v) (x : Ext H ρ H' ρ') : RvL K H' ρ' d v := RvL.mono x.pre x.tup x.frz h

/-! ### lists -/
theorem rvl_nil : RvL K H ρ [] [] := by simp [RvL]
theorem rvl_cons {d ds v vs} (h : Rv K H ρ d v) (r : RvL K H ρ ds vs) : RvL K H ρ (d :: ds) (v :: vs) := by
  unfold RvL; exact ⟨v, vs, rfl, h, r⟩
theorem RvL.len : ∀ {ds : List D} {vs : List V}, RvL K H ρ ds vs → ds.length = vs.length
  | [], vs, h => by unfold RvL at h; subst h; rfl
  | d :: ds, vs, h => by
    unfold RvL at h
    obtain ⟨v, r, rfl, _, z⟩ := h
    simp [RvL.len z]
theorem RvL.get : ∀ {ds : List D} {vs : List V} {i : Nat} {d : D}, RvL K H ρ ds vs → ds[i]? = some d → ∃ v, vs[i]? = some v ∧ Rv K H ρ d v
  | [], vs, i, d, h, e => by simp at e
  | d :: ds, vs, 0, x, h, e => by
    unfold RvL at h
    obtain ⟨v, r, rfl, q, z⟩ := h
    simp at e; subst e
    exact ⟨v, rfl, q⟩
  | d :: ds, vs, i + 1, x, h, e => by
    unfold RvL at h
    obtain ⟨v, r, rfl, q, z⟩ := h
    simpa using RvL.get (i := i) z (by simpa using e)
theorem RvL.getV {ds : List D} {vs : List V} {i : Nat} {v : V} (h : RvL K H ρ ds vs) (e : vs[i]? = some v) : ∃ d, ds[i]? = some d ∧ Rv K H ρ d v := by
  have hl := h.len
  have hi : i < ds.length := by rw [hl]; exact (List.getElem?_eq_some_iff.mp e).1
  obtain ⟨v', e', r⟩ := h.get (List.getElem?_eq_getElem hi)
  rw [e] at e'; cases e'
  exact ⟨_, List.getElem?_eq_getElem hi, r⟩
theorem RvL.app : ∀ {ds es : List D} {vs ws : List V}, RvL K H ρ ds vs → RvL K H ρ es ws → RvL K H ρ (ds ++ es) (vs ++ ws)
  | [], es, vs, ws, h, q => by unfold RvL at h; subst h; exact q
  | d :: ds, es, vs, ws, h, q => by
    unfold RvL at h
    obtain ⟨v, r, rfl, z, y⟩ := h
    exact rvl_cons z (RvL.app y q)
theorem RvL.set {d : D} {v : V} (r : Rv K H ρ d v) : ∀ {ds : List D} {vs : List V} (i : Nat), RvL K H ρ ds vs → RvL K H ρ (ds.set i d) (vs.set i v)
  | [], vs, i, h => by unfold RvL at h; subst h; exact rvl_nil
  | e :: ds, vs, 0, h => by
    unfold RvL at h
    obtain ⟨w, q, rfl, z, y⟩ := h
    exact rvl_cons r y
  | e :: ds, vs, i + 1, h => by
    unfold RvL at h
    obtain ⟨w, q, rfl, z, y⟩ := h
    exact rvl_cons z (RvL.set r i y)
theorem RvL.take : ∀ {ds : List D} {vs : List V} (n : Nat), RvL K H ρ ds vs → RvL K H ρ (ds.take n) (vs.take n)
  | _, _, 0, _ => by simpa using rvl_nil
  | [], vs, _ + 1, h => by unfold RvL at h; subst h; exact rvl_nil
  | d :: ds, vs, n + 1, h => by
    unfold RvL at h
    obtain ⟨w, q, rfl, z, y⟩ := h
    exact rvl_cons z (RvL.take n y)
theorem RvL.drop : ∀ {ds : List D} {vs : List V} (n : Nat), RvL K H ρ ds vs → RvL K H ρ (ds.drop n) (vs.drop n)
  | _, _, 0, h => h
  | [], vs, _ + 1, h => by unfold RvL at h; subst h; exact rvl_nil
  | d :: ds, vs, n + 1, h => by
    unfold RvL at h
    obtain ⟨w, q, rfl, z, y⟩ := h
    exact RvL.drop n y
theorem RvL.rev : ∀ {ds : List D} {vs : List V}, RvL K H ρ ds vs → RvL K H ρ ds.reverse vs.reverse
  | [], vs, h => by unfold RvL at h; subst h; exact rvl_nil
  | d :: ds, vs, h => by
    unfold RvL at h
    obtain ⟨w, q, rfl, z, y⟩ := h
    rw [List.reverse_cons, List.reverse_cons]
    exact RvL.app (RvL.rev y) (rvl_cons z rvl_nil)
theorem RvL.rep {ds : List D} {vs : List V} (h : RvL K H ρ ds vs) : ∀ k : Nat, RvL K H ρ (List.replicate k ds).flatten (List.replicate k vs).flatten
  | 0 => rvl_nil
  | k + 1 => by
    rw [List.replicate_succ, List.replicate_succ, List.flatten_cons, List.flatten_cons]
    exact h.app (RvL.rep h k)
theorem RvL.emp {ds : List D} {vs : List V} (h : RvL K H ρ ds vs) : vs.isEmpty = ds.isEmpty := by
  have := h.len
  cases ds <;> cases vs <;> simp_all
theorem RvL.dropLast {ds : List D} {vs : List V} (h : RvL K H ρ ds vs) : RvL K H ρ ds.dropLast vs.dropLast := by
  rw [List.dropLast_eq_take, List.dropLast_eq_take, h.len]
  exact h.take _
end

/-! ### what an object's relation leans on -/
section
variable {L : Lnk} {H H' : Hp} {ρ ρ' : List Addr} {m : Hd}
theorem RvF.mono (pre : ρ <+: ρ') (ht : ∀ a xs, H a = some (.tup xs) → H' a = some (.tup xs)) (hf : ∀ a o u, H a = some (.frz o u) → H' a = some (.frz o u)) : ∀ {fs : List (Nat × D)} {gs : List (Str × V)}, RvF L H ρ fs gs → RvF L H' ρ' fs gs
  | [], _, h => h
  | (f, d) :: r, gs, h => by
    obtain ⟨v, q, e, z, y⟩ := h
    exact ⟨v, q, e, Rv.mono pre ht hf z, RvF.mono pre ht hf y⟩
theorem OR.mono {a : Addr} {o : O} (h : OR L H ρ a o) (pre : ρ <+: ρ') (ht : ∀ a xs, H a = some (.tup xs) → H' a = some (.tup xs)) (hf : ∀ a o u, H a = some (.frz o u) → H' a = some (.frz o u)) (ha : o ≠ .dead → H' a = H a) : OR L H' ρ' a o := by
  cases o with
  | lst ds =>
    obtain ⟨vs, e, r⟩ := h
    exact ⟨vs, (ha (by intro z; cases z)).trans e, RvL.mono pre ht hf r⟩
  | dct t kvs =>
    rcases h with ⟨z, ps, e, r⟩ | ⟨z, ps, e, r⟩
    · exact .inl ⟨z, ps, (ha (by intro z; cases z)).trans e, RvK.mono pre ht hf r⟩
    · exact .inr ⟨z, ps, (ha (by intro z; cases z)).trans e, RvT.mono pre ht hf r⟩
  | ins c fs =>
    obtain ⟨dx, gs, e, r⟩ := h
    exact ⟨dx, gs, (ha (by intro z; cases z)).trans e, RvF.mono pre ht hf r⟩
  | dead =>
    obtain ⟨o, u, e⟩ := h
    exact ⟨o, u, hf _ _ _ e⟩

theorem Sim.get (S : Sim L H ρ m) {n : Nat} {o : O} (e : m[n]? = some o) : ∃ a, ρ[n]? = some a ∧ OR L H ρ a o := by
  have hn : n < ρ.length := by rw [S.len]; exact (List.getElem?_eq_some_iff.mp e).1
  exact ⟨ρ[n], List.getElem?_eq_getElem hn, S.ob n _ o (List.getElem?_eq_getElem hn) e⟩

theorem upd_tup {H : Hp} {p : Addr} {o : HO} (hp : H p = none) {a : Addr} {u : HO} (h : H a = some u) : upd H p o a = some u := by
  rw [upd_ne (ne_of_none h hp)]; exact h
/-- a new thing is laid -/
theorem Ext.laid {p : Addr} {o : HO} (hp : H p = none) : Ext H ρ (upd H p o) ρ := ⟨List.prefix_refl _, fun _ h => .inl h, fun _ _ h => upd_tup hp h, fun _ _ _ h => upd_tup hp h, fun _ _ h _ => upd_tup hp h⟩
/-- things that stand at the known places stay -/
def Stay (L : Lnk) (H H' : Hp) (ρ : List Addr) (m : Hd) : Prop := ∀ (n : Nat) (a : Addr) (o : O), ρ[n]? = some a → m[n]? = some o → o ≠ .dead → H' a = H a
theorem Sim.keep (S : Sim L H ρ m) (ht : ∀ a xs, H a = some (.tup xs) → H' a = some (.tup xs)) (hf : ∀ a o u, H a = some (.frz o u) → H' a = some (.frz o u)) (hs : Stay L H H' ρ m) : Sim L H' ρ m :=
  ⟨S.len, S.nd, fun n a o e1 e2 => (S.ob n a o e1 e2).mono (List.prefix_refl _) ht hf fun hd => hs n a o e1 e2 hd⟩
theorem OR.there {a : Addr} {o : O} (h : OR L H ρ a o) : ∃ u, H a = some u := by
  cases o with
  | lst ds => obtain ⟨vs, e, r⟩ := h; exact ⟨_, e⟩
  | dct t kvs =>
    rcases h with ⟨z, ps, e, r⟩ | ⟨z, ps, e, r⟩
    · exact ⟨_, e⟩
    · exact ⟨_, e⟩
  | ins c fs => obtain ⟨dx, gs, e, r⟩ := h; exact ⟨_, e⟩
  | dead => obtain ⟨o, u, e⟩ := h; exact ⟨_, e⟩
theorem Sim.laid {p : Addr} {o : HO} (S : Sim L H ρ m) (hp : H p = none) : Sim L (upd H p o) ρ m := by
  refine S.keep (fun _ _ h => upd_tup hp h) (fun _ _ _ h => upd_tup hp h) fun n a o' e1 e2 hd => ?_
  obtain ⟨u, e⟩ := (S.ob n a o' e1 e2).there
  exact upd_ne (ne_of_none e hp)
theorem Sim.out {p : Addr} (S : Sim L H ρ m) (hp : H p = none) : p ∉ ρ := fun hm => by
  obtain ⟨n, hn, e⟩ := List.getElem_of_mem hm
  have hl : n < m.length := by rw [← S.len]; exact hn
  obtain ⟨u, q⟩ := (S.ob n p _ (by rw [List.getElem?_eq_getElem hn, e]) (List.getElem?_eq_getElem hl)).there
  rw [hp] at q; cases q
/-- a new object -/
theorem Sim.new {p : Addr} {u : HO} {o : O} (S : Sim L H ρ m) (hp : H p = none) (ho : OR L (upd H p u) (ρ ++ [p]) p o) : Sim L (upd H p u) (ρ ++ [p]) (m ++ [o]) := by
  refine ⟨by simp [S.len], ?_, fun n a o' e1 e2 => ?_⟩
  · rw [List.nodup_append]
    exact ⟨S.nd, by simp, fun a ha b hb => by simp at hb; subst hb; exact fun e => S.out hp (e ▸ ha)⟩
  · by_cases hlt : n < ρ.length
    · rw [List.getElem?_append_left hlt] at e1
      rw [List.getElem?_append_left (by rw [← S.len]; exact hlt)] at e2
      refine (S.ob n a o' e1 e2).mono (List.prefix_append _ _) (fun _ _ h => upd_tup hp h) (fun _ _ _ h => upd_tup hp h) fun hd => ?_
      obtain ⟨w, e⟩ := (S.ob n a o' e1 e2).there
      exact upd_ne (ne_of_none e hp)
    · rw [List.getElem?_append_right (by omega)] at e1
      rw [List.getElem?_append_right (by rw [← S.len]; omega)] at e2
      have h0 : n - ρ.length = 0 := by
        cases q : n - ρ.length with
        | zero => rfl
        | succ j => rw [q] at e1; simp at e1
      have h1 : n - m.length = 0 := by rw [← S.len]; exact h0
      rw [h0] at e1
      rw [h1] at e2
      simp at e1 e2
      subst e1 e2
      exact ho
theorem Ext.newO {p : Addr} {u : HO} (hp : H p = none) : Ext H ρ (upd H p u) (ρ ++ [p]) :=
  ⟨List.prefix_append _ _, fun a ha => by
    rcases List.mem_append.mp ha with h | h
    · exact .inl h
    · simp at h; subst h; exact .inr hp, fun _ _ h => upd_tup hp h, fun _ _ _ h => upd_tup hp h, fun _ _ h _ => upd_tup hp h⟩
/-- a known object is written -/
theorem Ext.write {n : Nat} {a : Addr} {u w : HO} (e : ρ[n]? = some a) (h0 : H a = some w) (hw : ∀ xs, w ≠ .tup xs) (hw' : ∀ o v, w ≠ .frz o v) : Ext H ρ (upd H a u) ρ := by
  have hm : a ∈ ρ := List.mem_of_getElem? e
  refine ⟨List.prefix_refl _, fun _ h => .inl h, fun b xs h => ?_, fun b o v h => ?_, fun b o h hn => ?_⟩
  · rw [upd_ne (ne_of h h0 fun z => hw xs z.symm)]; exact h
  · rw [upd_ne (ne_of h h0 fun z => hw' o v z.symm)]; exact h
  · rw [upd_ne (fun z => hn (by rw [z]; exact hm))]; exact h
theorem Sim.write {n : Nat} {a : Addr} {u w : HO} {o : O} (S : Sim L H ρ m) (e : ρ[n]? = some a) (h0 : H a = some w) (hw : ∀ xs, w ≠ .tup xs) (hw' : ∀ o v, w ≠ .frz o v) (ho : OR L (upd H a u) ρ a o) : Sim L (upd H a u) ρ (m.set n o) := by
  have x : Ext H ρ (upd H a u) ρ := Ext.write e h0 hw hw'
  refine ⟨by simp [S.len], S.nd, fun k b o' e1 e2 => ?_⟩
  by_cases hk : k = n
  · subst hk
    rw [e] at e1; cases e1
    have hl : k < m.length := by rw [← S.len]; exact (List.getElem?_eq_some_iff.mp e).1
    rw [List.getElem?_set_self hl] at e2
    cases e2
    exact ho
  · rw [List.getElem?_set_ne (Ne.symm hk)] at e2
    have hba : b ≠ a := by
      intro z; subst z
      obtain ⟨h1, q1⟩ := List.getElem?_eq_some_iff.mp e
      obtain ⟨h2, q2⟩ := List.getElem?_eq_some_iff.mp e1
      exact hk ((List.getElem_inj S.nd).mp (q2.trans q1.symm))
    exact (S.ob k b o' e1 e2).mono (List.prefix_refl _) x.tup x.frz fun _ => upd_ne hba
end

/-! ### the slots -/
def EnvR (L : Lnk) (H : Hp) (ρ : List Addr) (s : SD) (σ : VS) : Prop := s.length = σ.length ∧ ∀ (i : Nat) (d : D), s[i]? = some (some d) → ∃ v, σ[i]? = some (some v) ∧ Rv L.K H ρ d v
section
variable {L : Lnk} {H H' : Hp} {ρ ρ' : List Addr} {m : Hd} {s : SD} {σ : VS}
theorem EnvR.ext (e : EnvR L H ρ s σ) (x : Ext H ρ H' ρ') : EnvR L H' ρ' s σ := ⟨e.1, fun i d h => let ⟨v, h1, h2⟩ := e.2 i d h; ⟨v, h1, h2.ext x⟩⟩
theorem EnvR.set (e : EnvR L H ρ s σ) {i : Nat} {d : D} {v : V} (r : Rv L.K H ρ d v) : EnvR L H ρ (s.set i (some d)) (σ.set i (some v)) := by
  refine ⟨by simp [e.1], fun j x h => ?_⟩
  by_cases hj : i = j
  · subst hj
    by_cases hl : i < s.length
    · rw [List.getElem?_set_self hl] at h
      cases h
      exact ⟨v, List.getElem?_set_self (by rw [← e.1]; exact hl), r⟩
    · rw [List.getElem?_eq_none (by simpa using hl)] at h; cases h
  · rw [List.getElem?_set_ne hj] at h
    obtain ⟨w, h1, h2⟩ := e.2 j x h
    exact ⟨w, by rw [List.getElem?_set_ne hj]; exact h1, h2⟩
theorem EnvR.wipe (e : EnvR L H ρ s σ) : ∀ vs : List Nat, EnvR L H ρ (wipeD s vs) (L2.wipe σ vs)
  | [] => e
  | v :: vs => by
    have ih := EnvR.wipe e vs
    refine ⟨by simp [wipeD, L2.wipe, ih.1], fun j x h => ?_⟩
    show ∃ w, ((L2.wipe σ vs).set v none)[j]? = _ ∧ _
    change ((wipeD s vs).set v none)[j]? = _ at h
    by_cases hj : v = j
    · subst hj
      by_cases hl : v < (wipeD s vs).length
      · rw [List.getElem?_set_self hl] at h; cases h
      · rw [List.getElem?_eq_none (by simpa using hl)] at h; cases h
    · rw [List.getElem?_set_ne hj] at h
      obtain ⟨w, h1, h2⟩ := ih.2 j x h
      exact ⟨w, by rw [List.getElem?_set_ne hj]; exact h1, h2⟩
end

/-! ### outcomes -/
def OutG {α : Type} (L : Lnk) (H : Hp) (ρ : List Addr) (P : α → Hd → Hp → List Addr → Prop) : R α → Prop
  | .ok a m => ∀ H' ρ', Ext H ρ H' ρ' → Sim L H' ρ' m → P a m H' ρ'
  | _ => False
abbrev Out (L : Lnk) (H : Hp) (ρ : List Addr) (Q : VK) : R D → Prop := OutG L H ρ fun d _ H' ρ' => ∀ v, Rv L.K H' ρ' d v → Q v H'
section
variable {α β : Type} {L : Lnk} {H H' : Hp} {ρ ρ' : List Addr} {m : Hd} {P P' : α → Hd → Hp → List Addr → Prop}
theorem OutG.base {r : R α} (o : OutG L H ρ P r) (x : Ext H ρ H' ρ') : OutG L H' ρ' P r := by
  cases r with
  | ok a m => exact fun H2 ρ2 x2 S => o H2 ρ2 (x.trans x2) S
  | exc c fs m => exact o
  | no => exact o
theorem OutG.imp {r : R α} (o : OutG L H ρ P r) (h : ∀ a m H' ρ', Ext H ρ H' ρ' → Sim L H' ρ' m → P a m H' ρ' → P' a m H' ρ') : OutG L H ρ P' r := by
  cases r with
  | ok a m => exact fun H2 ρ2 x2 S => h _ _ _ _ x2 S (o H2 ρ2 x2 S)
  | exc c fs m => exact o
  | no => exact o
theorem OutG.bind {P : β → Hd → Hp → List Addr → Prop} {r : R α} {k : α → Hd → R β} (o : OutG L H ρ P (r.bind k)) : OutG L H ρ (fun a m H' ρ' => OutG L H' ρ' P (k a m)) r := by
  cases r with
  | ok a m => exact fun H2 ρ2 x2 S => OutG.base (r := k a m) o x2
  | exc c fs m => exact o
  | no => exact o
theorem OutG.here {a : α} {m : Hd} (o : OutG L H ρ P (.ok a m)) (S : Sim L H ρ m) : P a m H ρ := o H ρ (Ext.refl _ _) S
theorem OutG.ifs {b : Bool} {r : R α} (o : OutG L H ρ P (ifs b r)) : b = true ∧ OutG L H ρ P r := by
  cases b with
  | true => exact ⟨rfl, o⟩
  | false => exact o.elim
theorem OutG.optB {x : Option α} {m : Hd} (o : OutG L H ρ P (optB x m)) : ∃ a, x = some a ∧ OutG L H ρ P (.ok a m) := by
  cases x with
  | some a => exact ⟨a, rfl, o⟩
  | none => exact o.elim
end
end Dx
/-! DxC: the operators, by values -/
namespace Dx
open PySem PySem.Spec PyProof.Rows L2

section
variable {L : Lnk} {X : Cx} {H : Hp} {ρ : List Addr} {m : Hd} {pins : List (Addr × Obj)} {σ : VS} {s : Shared} {Q : VK} {b : Bool}

/-- a new mutable thing told, which may be told to stay -/
def QLk (Q : VK) : VK := fun v H => ∃ a u, v = .ref a ∧ H a = some u ∧ Mut (some u) ∧ ∀ o, Q v (upd H a (.frz o u))
theorem ep_lock {u : Value} (h : EP X pins σ (QLk Q) u s) : EP X pins σ Q u s := by
  obtain ⟨v, H', I, r, a, w, rfl, e, mu, q⟩ := h
  obtain ⟨o, I'⟩ := I.lock e mu
  exact ⟨_, _, I', r, q o⟩
/-- a new list -/
theorem mk_ok {b : Bool} {xs : List D} {vs : List V} (S : Sim L H ρ m) (r : RvL L.K H ρ xs vs) (o : Out L H ρ Q (mkL b xs m)) {p : Addr} (hp : H p = none) :
    if b = true then Q (.ref p) (upd H p (.lst vs)) else QLk Q (.ref p) (upd H p (.lst vs)) := by
  cases b with
  | true =>
    have x : Ext H ρ (upd H p (.lst vs)) (ρ ++ [p]) := Ext.newO hp
    refine o _ _ x (S.new hp ⟨vs, upd_same, r.ext x⟩) _ ?_
    unfold Rv
    exact ⟨p, by rw [← S.len]; simp, rfl⟩
  | false =>
    refine ⟨p, .lst vs, rfl, upd_same, trivial, fun ob => ?_⟩
    rw [upd_upd]
    have x : Ext H ρ (upd H p (.frz ob (.lst vs))) ρ := Ext.laid hp
    refine o _ _ x (S.laid hp) _ ?_
    unfold Rv
    exact ⟨p, ob, vs, rfl, upd_same, r.ext x⟩
/-- from «a new list, whatever its place» -/
theorem mk_fin {b : Bool} {xs : List D} {vs : List V} (S : Sim L H ρ m) (r : RvL L.K H ρ xs vs) (o : Out L H ρ Q (mkL b xs m)) {P : VK → Prop}
    (h : ∀ Q' : VK, (∀ p, H p = none → Q' (.ref p) (upd H p (.lst vs))) → P Q') : ∃ Q', P Q' ∧ (∀ u s, EP X pins σ Q' u s → EP X pins σ Q u s) := by
  cases b with
  | true => exact ⟨Q, h Q fun p hp => by simpa using mk_ok S r o hp, fun _ _ z => z⟩
  | false => exact ⟨QLk Q, h (QLk Q) fun p hp => by simpa using mk_ok S r o hp, fun _ _ z => ep_lock z⟩

theorem out_val {d : D} {v : V} (o : Out L H ρ Q (.ok d m)) (S : Sim L H ρ m) (r : Rv L.K H ρ d v) : Q v H := o _ _ (Ext.refl _ _) S _ r
/-- a new tuple -/
theorem out_tup {xs : List D} {vs : List V} (S : Sim L H ρ m) (r : RvL L.K H ρ xs vs) (o : Out L H ρ Q (.ok (.tup xs) m)) {p : Addr} (hp : H p = none) : Q (.ref p) (upd H p (.tup vs)) := by
  have x : Ext H ρ (upd H p (.tup vs)) ρ := Ext.laid hp
  refine o _ _ x (S.laid hp) _ ?_
  unfold Rv
  exact ⟨p, vs, rfl, upd_same, r.ext x⟩

/-! ### what stands at a value -/
theorem sq_ok {K : PySem.W.Frag} {d : D} {x : V} {xs : List D} (S : Sim L H ρ m) (r : Rv L.K H ρ d x) (e : sq m d = some xs) :
    ∃ a vs, x = .ref a ∧ (SqL L.K H a vs ∨ SqT L.K H a vs) ∧ RvL L.K H ρ xs vs := by
  cases d with
  | tup ds =>
    unfold Rv at r
    obtain ⟨a, vs, rfl, h, q⟩ := r
    cases e
    exact ⟨a, vs, rfl, .inr (.of h), q⟩
  | lst ds =>
    unfold Rv at r
    obtain ⟨a, o, vs, rfl, h, q⟩ := r
    cases e
    exact ⟨a, vs, rfl, .inl (.inl (.inr ⟨o, h⟩)), q⟩
  | scr ns =>
    unfold Rv at r
    obtain ⟨a, rfl, h⟩ := r
    cases e
    refine ⟨a, _, rfl, .inl h.sq, ?_⟩
    clear h
    induction ns with
    | nil => exact rvl_nil
    | cons n ns ih => exact rvl_cons (by simp [Rv]) ih
  | ref n =>
    unfold Rv at r
    obtain ⟨a, h, rfl⟩ := r
    simp only [sq] at e
    cases q : m[n]? with
    | none => rw [q] at e; cases e
    | some o =>
      rw [q] at e
      cases o with
      | lst ds =>
        cases e
        obtain ⟨vs, h1, h2⟩ := S.ob n a _ h q
        exact ⟨a, vs, rfl, .inl (.of h1), h2⟩
      | _ => cases e
  | _ => cases e
theorem fz_lst {d : D} {x : V} {xs : List D} (S : Sim L H ρ m) (r : Rv L.K H ρ d x) (e : fz m d = .lst xs) :
    ∃ a vs, x = .ref a ∧ Rd H a (.lst vs) ∧ RvL L.K H ρ xs vs := by
  cases d with
  | lst ds =>
    unfold Rv at r
    obtain ⟨a, o, vs, rfl, h, q⟩ := r
    cases e
    exact ⟨a, vs, rfl, .inr ⟨o, h⟩, q⟩
  | ref n =>
    unfold Rv at r
    obtain ⟨a, h, rfl⟩ := r
    simp only [fz] at e
    cases q : m[n]? with
    | none => rw [q] at e; cases e
    | some o =>
      rw [q] at e
      cases o with
      | lst ds =>
        cases e
        obtain ⟨vs, h1, h2⟩ := S.ob n a _ h q
        exact ⟨a, vs, rfl, .of h1, h2⟩
      | _ => cases e
  | _ => cases e
theorem dq_ok {d : D} {x : V} {t : Bool} {kvs : List (D × D)} (S : Sim L H ρ m) (r : Rv L.K H ρ d x) (e : dq m d = some (t, kvs)) :
    ∃ a, x = .ref a ∧ ((t = false ∧ ∃ ps, Rd H a (.dK ps) ∧ RvK L.K H ρ kvs ps) ∨ (t = true ∧ ∃ ps, Rd H a (.dT ps) ∧ RvT L.K H ρ kvs ps)) := by
  cases d with
  | dct t' ds =>
    unfold Rv at r
    obtain ⟨a, o, rfl, h⟩ := r
    cases e
    refine ⟨a, rfl, ?_⟩
    rcases h with ⟨z, ps, h1, h2⟩ | ⟨z, ps, h1, h2⟩
    · exact .inl ⟨z, ps, .inr ⟨o, h1⟩, h2⟩
    · exact .inr ⟨z, ps, .inr ⟨o, h1⟩, h2⟩
  | ref n =>
    unfold Rv at r
    obtain ⟨a, h, rfl⟩ := r
    simp only [dq] at e
    cases q : m[n]? with
    | none => rw [q] at e; cases e
    | some o =>
      rw [q] at e
      cases o with
      | dct t' ds =>
        cases e
        refine ⟨a, rfl, ?_⟩
        rcases S.ob n a _ h q with ⟨z, ps, h1, h2⟩ | ⟨z, ps, h1, h2⟩
        · exact .inl ⟨z, ps, .of h1, h2⟩
        · exact .inr ⟨z, ps, .of h1, h2⟩
      | _ => cases e
  | _ => cases e

/-! ### two-place operators -/
def rB (L : Lnk) (f : D → D → Hd → R D) : R2 := fun x y H Q => ∃ ρ m d e, Sim L H ρ m ∧ Rv L.K H ρ d x ∧ Rv L.K H ρ e y ∧ Out L H ρ Q (f d e m)

theorem rdL {a : Addr} {vs : List V} (I : Inv X pins σ H s) (h : Rd H a (.lst vs)) : vs.length ≤ sizeLine ∧ ∃ (its : List Value) (n : Nat), Vals vs its ∧ vs.length = its.length ∧ s.heap.get? a = some { cls := .type "list", data := .seq its.toArray n } := by
  obtain ⟨z, its, n, r, e⟩ := h.ok I.hok
  exact ⟨z, its, n, r, r.length, e⟩
theorem cat_ok {a b : Addr} {vs ws : List V} {Q' : VK} (I : Inv X pins σ H s) (ha : Rd H a (.lst vs)) (hb : Rd H b (.lst ws)) (hz : vs.length + ws.length ≤ sizeLine) (q : ∀ p, H p = none → Q' (.ref p) (upd H p (.lst (vs ++ ws)))) :
    wpAny (model X.prog X.w) X.A (binaryOp .Add (.ref a) (.ref b)) (EP X pins σ Q') X.xe s := by
  obtain ⟨z, its, n, r, hl, e⟩ := rdL I ha
  obtain ⟨z2, its2, n2, r2, hl2, e2⟩ := rdL I hb
  refine PySem.P.add_list e e2 ?_ (by rw [List.size_toArray, List.size_toArray]; omega)
  have ea : its.toArray ++ its2.toArray = (its ++ its2).toArray := by simp
  rw [ea]
  exact ⟨.ref _, _, I.lnew (t' := s.toks) (r.append r2) (by rw [List.length_append]; omega), rfl, q _ I.fresh⟩
theorem rep_ok {a : Addr} {vs : List V} {k : Int} {t : Tok} {Q' : VK} (I : Inv X pins σ H s) (hH : Rd H a (.lst vs)) (h1 : -(2 ^ 63) ≤ k) (h2 : k < 2 ^ 63) (hz : vs.length * k.toNat ≤ sizeLine)
    (q : ∀ p, H p = none → Q' (.ref p) (upd H p (.lst (List.replicate k.toNat vs).flatten))) : wpAny (model X.prog X.w) X.A (binaryOp .Mult (.ref a) (.int k t)) (EP X pins σ Q') X.xe s := by
  -- the rule speaks of a tracked list: unlock it for the step
  rcases hH with hH | ⟨o, hH⟩
  · exact op_rep pins s σ H (.ref a) (.int k) (.ref a) (.int k t) Q' I rfl ⟨t, rfl⟩ ⟨a, k, vs, rfl, rfl, hH, h1, h2, hz, q⟩
  · obtain ⟨z, its, n, r, hl, e⟩ := rdL I (.inr ⟨o, hH⟩)
    have hlen : its.toArray.size * k.toNat ≤ sizeLine := by rw [List.size_toArray, ← hl]; exact hz
    have hcap : ¬ its.toArray.size * k.toNat > (2 ^ 63 - 1) / 8 := by
      have : (sizeLine : Nat) ≤ (2 ^ 63 - 1) / 8 := by decide
      omega
    have hfit : ¬ (!Builtin.List.listFitsIndex k) = true := by
      rw [fitsIndex_both h1 h2]
      exact Bool.false_ne_true
    have hlong : ¬ Builtin.List.listTooLong (its.toArray.size * k.toNat) = true := by
      rw [notLongL hlen]
      exact Bool.false_ne_true
    have hnew : List.foldl (fun x1 x2 => x1 ++ x2) #[] (List.replicate (if its.toArray.isEmpty = true then 0 else k.toNat) its.toArray) = (List.replicate k.toNat its).flatten.toArray := by
      have f0 : ∀ m : Nat, List.foldl (fun x1 x2 => x1 ++ x2) #[] (List.replicate m its.toArray) = (List.replicate m its).flatten.toArray := fun m => by
        have := foldl_rep its m []
        rw [List.nil_append] at this
        exact this
      rw [f0]
      cases its with
      | nil => simp
      | cons a r' => rw [if_neg (by simp)]
    refine wpAny_binaryOp_repeat_ref (T := "list") (U := "int") (by decide) ⟨_, e, rfl⟩ (fun s' => typeIs_int s' k t) noFill_list_mul F.fills_int_mul F.slot_int_rmul repeat_list F.slot_int_index.lookup
      (call_meets F.slot_int_rmul (typeIs_int s k t) F.entry_int_rmul (F.args_int_rmul_2 _ _) (int___rmul___int_list k t a its.toArray n)
        ⟨e, rfl, ⟨_, e, rfl⟩, call_meets F.slot_list_mul ⟨_, e, rfl⟩ F.entry_list_mul (F.args_list_mul_2 _ _) (AutoListH.list___mul___list_int_3 a its.toArray n k t hfit hcap hlong) ⟨e, ?_⟩⟩)
    rw [hnew]
    exact ⟨.ref _, _, I.lnew (t' := s.toks) (r.rep k.toNat) (by rw [PyProof.Rows.lm_len_rep_flat, Nat.mul_comm]; exact hz), rfl, q _ I.fresh⟩

theorem small_or {i j : Int} (h : (small i || small j) = true) : CMul i j := by
  unfold small at h
  simp only [Bool.or_eq_true, decide_eq_true_eq] at h
  exact h
theorem small_log {i j : Int} (h0 : 0 < j) (h : small j = true) : CDivW i j := by
  unfold small at h
  simp only [decide_eq_true_eq] at h
  refine wide_div (b := 65) h0 ?_ (by decide) (by decide)
  have : j.natAbs < 2 ^ 64 := by omega
  omega

theorem op_addD (b : Bool) : OpR X (binaryOp .Add) (rB L (addD b)) := by
  intro pins s σ H x y v u Q I rx ry ⟨ρ, m, d, e, S, rd, re, o⟩
  unfold addD at o
  split at o
  next i j =>
    unfold Rv at rd re
    exact op_add pins s σ H x y v u Q I rx ry ⟨i, j, rd, re, out_val o S (by simp [Rv])⟩
  next a c =>
    unfold Rv at rd re
    obtain ⟨h, o⟩ := o.ifs
    exact op_add_str pins s σ H x y v u Q I rx ry ⟨a, c, rd, re, by simpa using h, out_val o S (by simp [Rv])⟩
  next a c =>
    have rd0 := rd
    have re0 := re
    unfold Rv at rd re
    obtain ⟨h, o⟩ := o.ifs
    have h : a.length + c.length ≤ sizeLine := by simpa using h
    obtain ⟨p, vs, rfl, hp, rp⟩ := rd
    obtain ⟨q, ws, rfl, hq, rq⟩ := re
    have e1 := rp.len
    have e2 := rq.len
    refine op_catA pins s σ H _ _ v u Q I rx ry ⟨p, q, vs, ws, rfl, rfl, .of hp, .of hq, by omega, fun z => ?_, fun z z' => ?_, fun z z' p' hp' => ?_⟩
    · have : a = [] := by cases a <;> simp_all
      subst this
      exact out_val o S re0
    · have : c = [] := by cases c <;> simp_all
      subst this
      rw [List.append_nil] at o
      exact out_val o S rd0
    · exact out_tup S (rp.app rq) o hp'
  next =>
    split at o
    next a c e1 e2 =>
      obtain ⟨h, o⟩ := o.ifs
      have h : a.length + c.length ≤ sizeLine := by simpa using h
      obtain ⟨p, vs, rfl, hp, rp⟩ := fz_lst S rd e1
      obtain ⟨q, ws, rfl, hq, rq⟩ := fz_lst S re e2
      have l1 := rp.len
      have l2 := rq.len
      cases rx
      cases ry
      obtain ⟨Q', w, f⟩ := mk_fin (X := X) (pins := pins) (σ := σ) S (rp.app rq) o (P := fun Q' => wpAny (model X.prog X.w) X.A (binaryOp .Add (.ref p) (.ref q)) (EP X pins σ Q') X.xe s) fun Q' hQ => cat_ok I hp hq (by omega) hQ
      exact thn w f
    next => exact o.elim

theorem ops_one {op : Operator} {C : Int → Int → Prop} {g : Int → Int → Int} {f : D → D → Hd → R D} (h : OpR X (binaryOp op) (rI C fun i j => .int (g i j)))
    (hf : ∀ d e m H ρ Q, Out L H ρ Q (f d e m) → ∃ i j, d = .int i ∧ e = .int j ∧ C i j ∧ Out L H ρ Q (.ok (.int (g i j)) m)) : OpR X (binaryOp op) (rB L f) := by
  intro pins s σ H x y v u Q I rx ry ⟨ρ, m, d, e, S, rd, re, o⟩
  obtain ⟨i, j, rfl, rfl, c, o⟩ := hf _ _ _ _ _ _ o
  unfold Rv at rd re
  exact h pins s σ H x y v u Q I rx ry ⟨i, j, rd, re, c, out_val o S (by simp [Rv])⟩
theorem op_subD : OpR X (binaryOp .Sub) (rB L (bopD b .sub)) := by
  intro pins s σ H x y v u Q I rx ry ⟨ρ, m, d, e, S, rd, re, o⟩
  unfold bopD at o
  dsimp only at o
  split at o
  next i j =>
    unfold Rv at rd re
    exact op_sub pins s σ H x y v u Q I rx ry ⟨i, j, rd, re, out_val o S (by simp [Rv])⟩
  next => exact o.elim
theorem op_fdivD : OpR X (binaryOp .FloorDiv) (rB L (bopD b .fdiv)) := ops_one op_fdivW fun d e m H ρ Q o => by
  unfold bopD at o
  dsimp only at o
  split at o
  next i j =>
    obtain ⟨h, o⟩ := o.ifs
    simp only [Bool.and_eq_true, decide_eq_true_eq] at h
    exact ⟨i, j, rfl, rfl, small_log h.1 h.2, o⟩
  next => exact o.elim
theorem op_modD : OpR X (binaryOp .Mod) (rB L (bopD b .mod)) := ops_one op_mod fun d e m H ρ Q o => by
  unfold bopD at o
  dsimp only at o
  split at o
  next i j =>
    obtain ⟨h, o⟩ := o.ifs
    exact ⟨i, j, rfl, rfl, by simpa using h, o⟩
  next => exact o.elim
theorem op_powD : OpR X (binaryOp .Pow) (rB L (bopD b .pow)) := ops_one op_pow fun d e m H ρ Q o => by
  unfold bopD at o
  dsimp only at o
  split at o
  next i j =>
    obtain ⟨h, o⟩ := o.ifs
    simp only [Bool.and_eq_true, decide_eq_true_eq] at h
    unfold small at h
    simp only [decide_eq_true_eq] at h
    exact ⟨i, j, rfl, rfl, ⟨h.1.1, h.1.2, by omega⟩, o⟩
  next => exact o.elim
theorem foldA (c : Array Nat) : ∀ (k : Nat) (acc : Array Nat), ((List.replicate k c).foldl (· ++ ·) acc) = acc ++ (List.replicate k c.toList).flatten.toArray
  | 0, acc => by simp
  | k + 1, acc => by
    rw [List.replicate_succ, List.foldl_cons, foldA c k, List.replicate_succ, List.flatten_cons, Array.append_assoc]
    congr 1
    apply Array.ext'
    simp
theorem mulstr_ok {z : Str} {k : Int} {t t' : Tok} {Q' : VK} (I : Inv X pins σ H s) (h0 : 0 ≤ k) (h1 : k < 2 ^ 60) (h2 : z.length * k.toNat ≤ 1000000) (q : Q' (.str (repS z k.toNat)) H) :
    wpAny (model X.prog X.w) X.A (binaryOp .Mult (.str z t) (.int k t')) (EP X pins σ Q') X.xe s := by
  have e0 : ((List.replicate k.toNat z.cps).foldl (· ++ ·) #[]) = (repS z k.toNat).cps := by
    rw [foldA]
    simp [repS]
  refine P.mul_str ?_ (fun a b => ?_) (fun a b => ?_) ?_
  · have g1 : ¬ k < -(2 ^ 63) := by omega
    have g2 : ¬ k ≥ 2 ^ 63 := by omega
    rw [decide_eq_false g1, decide_eq_false g2]
    rfl
  · have l1 : ((z.length * k.toNat : Nat) : Int) ≤ 1000000 := Int.ofNat_le.mpr h2
    have l2 : ((z.length * k.toNat : Nat) : Int) = (z.length : Int) * k := by rw [Int.natCast_mul, Int.toNat_of_nonneg h0]
    rw [l2] at l1
    have l3 : (z.length : Int) ≤ (2 ^ 63 - 1) / k := by
      rw [Int.le_ediv_iff_mul_le (by omega)]
      omega
    omega
  · show decide (_ > _) = false
    have : (1000000 : Nat) ≤ sizeLine := by decide
    exact decide_eq_false (by omega)
  · by_cases g : k < 1
    · rw [if_pos g]
      have : k = 0 := by omega
      subst this
      refine ⟨by decide, .str _, H, I.tok _, ⟨_, rfl⟩, ?_⟩
      exact q
    · rw [if_neg g]
      by_cases g2 : (k == 1 || z.length == 0) = true
      · rw [if_pos g2]
        have e : repS z k.toNat = z := by
          rcases Bool.or_eq_true _ _ |>.mp g2 with c | c
          · have : k = 1 := by simpa using c
            subst this
            simp [repS]
          · have c0 : z.length = 0 := by simpa using c
            have c : z.cps.size = 0 := c0
            obtain ⟨c'⟩ := z
            have : c' = #[] := Array.eq_empty_of_size_eq_zero c
            subst this
            simp [repS]
        rw [e] at q
        exact ⟨.str _, H, I, ⟨_, rfl⟩, q⟩
      · rw [if_neg g2, e0]
        refine ⟨?_, .str _, H, I.tok _, ⟨_, rfl⟩, q⟩
        have l : (repS z k.toNat).length = z.length * k.toNat := by
          show (List.replicate k.toNat z.cps.toList).flatten.toArray.size = _
          simp [List.length_flatten, Str.length, Nat.mul_comm]
        show (repS z k.toNat).length ≤ sizeLine
        have : (1000000 : Nat) ≤ sizeLine := by decide
        omega
theorem op_mulD (b : Bool) : OpR X (binaryOp .Mult) (rB L (mulD b)) := by
  intro pins s σ H x y v u Q I rx ry ⟨ρ, m, d, e, S, rd, re, o⟩
  unfold mulD at o
  split at o
  next i j =>
    unfold Rv at rd re
    obtain ⟨h, o⟩ := o.ifs
    exact op_mul pins s σ H x y v u Q I rx ry ⟨i, j, rd, re, small_or h, out_val o S (by simp [Rv])⟩
  next z k =>
    unfold Rv at rd re
    subst rd re
    obtain ⟨t, rfl⟩ := rx
    obtain ⟨t', rfl⟩ := ry
    obtain ⟨h, o⟩ := o.ifs
    simp only [Bool.and_eq_true, decide_eq_true_eq] at h
    exact mulstr_ok I h.1.1 h.1.2 h.2 (out_val o S (by simp [Rv]))
  next k _ _ =>
    split at o
    next a e1 =>
      obtain ⟨h, o⟩ := o.ifs
      simp only [Bool.and_eq_true, decide_eq_true_eq] at h
      obtain ⟨p, vs, rfl, hp, rp⟩ := fz_lst S rd e1
      have l1 := rp.len
      unfold Rv at re
      subst re
      cases rx
      obtain ⟨t, rfl⟩ := ry
      obtain ⟨Q', w, f⟩ := mk_fin (X := X) (pins := pins) (σ := σ) S (rp.rep k.toNat) o (P := fun Q' => wpAny (model X.prog X.w) X.A (binaryOp .Mult (.ref p) (.int k t)) (EP X pins σ Q') X.xe s) fun Q' hQ => rep_ok I hp h.1.1 h.1.2 (by rw [← l1]; exact h.2) hQ
      exact thn w f
    next => exact o.elim
  next => exact o.elim
def bopE : Bop → Operator
  | .add => .Add | .sub => .Sub | .mul => .Mult | .fdiv => .FloorDiv | .mod => .Mod | .pow => .Pow
theorem op_bopD (b : Bool) (o : Bop) : OpR X (binaryOp (bopE o)) (rB L (bopD b o)) := by
  cases o with
  | add => exact op_addD b
  | sub => exact op_subD
  | mul => exact op_mulD b
  | fdiv => exact op_fdivD
  | mod => exact op_modD
  | pow => exact op_powD
end
end Dx
/-! DxD: comparisons, truth, items, slices -/
namespace Dx
open PySem PySem.Spec PyProof.Rows L2
section
variable {L : Lnk} {X : Cx} {H : Hp} {ρ : List Addr} {m : Hd} {pins : List (Addr × Obj)} {σ : VS} {s : Shared} {Q : VK} {b : Bool}

mutual
theorem dp_of {K : PySem.W.Frag} : ∀ {d : D} {v : V}, Rv K H ρ d v → D.flat d = true → Dp K H v (D.py d)
  | .non, v, r, _ => by unfold Rv at r; subst r; exact .non
  | .bl _, v, r, _ => by unfold Rv at r; subst r; exact .bl _
  | .int _, v, r, _ => by unfold Rv at r; subst r; exact .int _
  | .str _, v, r, _ => by unfold Rv at r; subst r; exact .str _
  | .tup ds, v, r, f => by
    unfold Rv at r
    obtain ⟨a, vs, rfl, h, q⟩ := r
    unfold D.py
    exact .tup (.of h) (dps_of q (by simpa [D.flat] using f))
  | .lst ds, v, r, f => by
    unfold Rv at r
    obtain ⟨a, o, vs, rfl, h, q⟩ := r
    unfold D.py
    exact .lst (.inl (.inr ⟨o, h⟩)) (dps_of q (by simpa [D.flat] using f))
  | .dct _ _, v, r, f => by simp [D.flat] at f
  | .ref _, v, r, f => by simp [D.flat] at f
  | .scr _, v, r, f => by simp [D.flat] at f
theorem dps_of {K : PySem.W.Frag} : ∀ {ds : List D} {vs : List V}, RvL K H ρ ds vs → D.flatL ds = true → DpAll K H vs (D.pyL ds)
  | [], vs, r, _ => by unfold RvL at r; subst r; exact .nil
  | d :: ds, vs, r, f => by
    unfold RvL at r
    obtain ⟨v, q, rfl, h, z⟩ := r
    simp only [D.flatL, Bool.and_eq_true] at f
    unfold D.pyL
    exact .cons (dp_of h f.1) (dps_of z f.2)
end
theorem dp_fz {d : D} {v : V} (S : Sim L H ρ m) (r : Rv L.K H ρ d v) (f : D.flat (fz m d) = true) : Dp L.K H v (D.py (fz m d)) := by
  cases e : fz m d with
  | lst xs =>
    obtain ⟨a, vs, rfl, h, q⟩ := fz_lst S r e
    rw [e] at f
    unfold D.py
    exact .lst (.inl h) (dps_of q (by simpa [D.flat] using f))
  | _ =>
    have : fz m d = d := by
      cases d with
      | ref n =>
        cases q : m[n]? with
        | none => simp only [fz, q]
        | some o =>
          cases o with
          | lst xs => simp [fz, q] at e
          | _ => simp only [fz, q]
      | _ => rfl
    rw [← this] at r
    rw [e] at r f
    exact dp_of r f

/-! ### keys and dicts -/
theorem kD_beq : ∀ (a b : Key), D.beq (kD a) (kD b) = decide (a = b)
  | .inl i, .inl j => by
    by_cases h : i = j
    · subst h; simp [kD, D.beq]
    · have : ¬ (Sum.inl i : Key) = Sum.inl j := fun e => h (Sum.inl.inj e)
      simp [kD, D.beq, h, this]
  | .inr i, .inr j => by
    by_cases h : i = j
    · subst h; simp [kD, D.beq]
    · have : ¬ (Sum.inr i : Key) = Sum.inr j := fun e => h (Sum.inr.inj e)
      simp [kD, D.beq, h, this]
  | .inl i, .inr j => by simp [kD, D.beq]
  | .inr i, .inl j => by simp [kD, D.beq]
theorem kDs_beq : ∀ (a b : List Key), D.beqL (a.map kD) (b.map kD) = decide (a = b)
  | [], [] => by simp [D.beqL]
  | [], _ :: _ => by simp [D.beqL]
  | _ :: _, [] => by simp [D.beqL]
  | a :: r, b :: q => by
    simp only [List.map_cons, D.beqL, kD_beq, kDs_beq r q]
    by_cases h : a = b <;> by_cases h' : r = q <;> simp [h, h']
theorem key_of1 {d : D} (h : keyOk false d = true) : ∃ k, d = kD k := by
  cases d with
  | int i => exact ⟨.inl i, rfl⟩
  | str x => exact ⟨.inr x, rfl⟩
  | _ => simp [keyOk, isK] at h
theorem isK_of : ∀ {xs : List D}, xs.all isK = true → ∃ ks : List Key, xs = ks.map kD
  | [], _ => ⟨[], rfl⟩
  | d :: r, h => by
    simp only [List.all_cons, Bool.and_eq_true] at h
    obtain ⟨ks, rfl⟩ := isK_of h.2
    cases d with
    | int i => exact ⟨.inl i :: ks, rfl⟩
    | str x => exact ⟨.inr x :: ks, rfl⟩
    | _ => exact absurd h.1 (by simp [isK])
theorem key_ofT {d : D} (h : keyOk true d = true) : ∃ ks : List Key, d = .tup (ks.map kD) := by
  cases d with
  | tup xs =>
    simp only [keyOk, Bool.true_and] at h
    obtain ⟨ks, rfl⟩ := isK_of h
    exact ⟨ks, rfl⟩
  | _ => simp [keyOk] at h
theorem rv_key {K : PySem.W.Frag} {k : Key} {v : V} (r : Rv K H ρ (kD k) v) : v = kV k := by
  cases k with
  | inl i => simpa [kD, Rv, kV] using r
  | inr i => simpa [kD, Rv, kV] using r
theorem rvl_keys {K : PySem.W.Frag} : ∀ {ks : List Key} {vs : List V}, RvL K H ρ (ks.map kD) vs → vs = ks.map kV
  | [], vs, r => by unfold RvL at r; exact r
  | k :: ks, vs, r => by
    rw [List.map_cons] at r
    unfold RvL at r
    obtain ⟨v, q, rfl, h, z⟩ := r
    rw [rv_key h, rvl_keys z, List.map_cons]
theorem rv_keyT {K : PySem.W.Frag} {ks : List Key} {v : V} (r : Rv K H ρ (.tup (ks.map kD)) v) : ∃ b, v = .ref b ∧ H b = some (.tup (ks.map kV)) := by
  unfold Rv at r
  obtain ⟨a, vs, rfl, h, q⟩ := r
  rw [rvl_keys q] at h
  exact ⟨a, rfl, h⟩
/-- what is found -/
def FoundR (L : Lnk) (H : Hp) (ρ : List Addr) : Option D → Option V → Prop
  | some d, some v => Rv L.K H ρ d v
  | none, none => True
  | _, _ => False
theorem find_k {k : Key} : ∀ {kvs : List (D × D)} {ps : List (Key × V)}, RvK L.K H ρ kvs ps → FoundR L H ρ (find kvs (kD k)) (valV ps k)
  | [], ps, r => by unfold RvK at r; subst r; simp [find, valV, FoundR]
  | (d, e) :: r, ps, h => by
    unfold RvK at h
    obtain ⟨k', v, q, rfl, rfl, z, y⟩ := h
    have ih := find_k (k := k) y
    unfold find valV at ih ⊢
    by_cases c : k' = k
    · subst c
      simp [List.find?_cons, kD_beq, FoundR, z]
    · simpa [List.find?_cons, kD_beq, c] using ih
theorem find_t {k : List Key} : ∀ {kvs : List (D × D)} {ps : List (List Key × V)}, RvT L.K H ρ kvs ps → FoundR L H ρ (find kvs (.tup (k.map kD))) (valV ps k)
  | [], ps, r => by unfold RvT at r; subst r; simp [find, valV, FoundR]
  | (d, e) :: r, ps, h => by
    unfold RvT at h
    obtain ⟨k', v, q, rfl, rfl, z, y⟩ := h
    have ih := find_t (k := k) y
    unfold find valV at ih ⊢
    have hb : D.beq (.tup (k'.map kD)) (.tup (k.map kD)) = decide (k' = k) := by
      rw [← kDs_beq]; simp [D.beq]
    by_cases c : k' = k
    · subst c
      simp [List.find?_cons, hb, FoundR, z]
    · simpa [List.find?_cons, hb, c] using ih
/-- the dict at a value, asked for a key -/
theorem dget_ok {d e : D} {x y : V} {t : Bool} {kvs : List (D × D)} (S : Sim L H ρ m) (rd : Rv L.K H ρ d x) (re : Rv L.K H ρ e y) (h : dq m d = some (t, kvs)) (hk : keyOk t e = true) :
    ∃ a o, x = .ref a ∧ DGet H a y o ∧ FoundR L H ρ (find kvs e) o := by
  obtain ⟨a, rfl, q⟩ := dq_ok S rd h
  rcases q with ⟨rfl, ps, h1, h2⟩ | ⟨rfl, ps, h1, h2⟩
  · obtain ⟨k, rfl⟩ := key_of1 hk
    obtain rfl := rv_key re
    exact ⟨a, _, rfl, .inl ⟨ps, k, h1, rfl, rfl⟩, find_k h2⟩
  · obtain ⟨ks, rfl⟩ := key_ofT hk
    obtain ⟨b, rfl, hb⟩ := rv_keyT re
    exact ⟨a, _, rfl, .inr ⟨ps, ks, b, h1, rfl, hb, rfl⟩, find_t h2⟩
theorem FoundR.isSome {o : Option D} {p : Option V} (f : FoundR L H ρ o p) : p.isSome = o.isSome := by
  cases o <;> cases p <;> simp_all [FoundR]
theorem put_k {k : Key} {d : D} {v : V} (hv : Rv L.K H ρ d v) : ∀ {kvs : List (D × D)} {ps : List (Key × V)}, RvK L.K H ρ kvs ps → RvK L.K H ρ (put kvs (kD k) d) (putK ps k v) := by
  have any : ∀ {kvs : List (D × D)} {ps : List (Key × V)}, RvK L.K H ρ kvs ps → (kvs.any fun p => D.beq p.1 (kD k)) = ps.any fun kv => decide (kv.1 = k) := by
    intro kvs
    induction kvs with
    | nil => intro ps h; unfold RvK at h; subst h; rfl
    | cons p r ih =>
      intro ps h
      obtain ⟨d', e⟩ := p
      unfold RvK at h
      obtain ⟨k', w, q, rfl, rfl, z, y⟩ := h
      simp only [List.any_cons, ih y, kD_beq]
  have mp : ∀ {kvs : List (D × D)} {ps : List (Key × V)}, RvK L.K H ρ kvs ps → RvK L.K H ρ (kvs.map fun p => if D.beq p.1 (kD k) = true then (p.1, d) else p) (ps.map fun kv => if kv.1 = k then (kv.1, v) else kv) := by
    intro kvs
    induction kvs with
    | nil => intro ps h; unfold RvK at h; subst h; simp [RvK]
    | cons p r ih =>
      intro ps h
      obtain ⟨d', e⟩ := p
      unfold RvK at h
      obtain ⟨k', w, q, rfl, rfl, z, y⟩ := h
      simp only [List.map_cons, kD_beq]
      unfold RvK
      by_cases c : k' = k
      · subst c
        simp only [decide_true, if_true]
        exact ⟨k', v, _, rfl, rfl, hv, ih y⟩
      · simp only [c, decide_false, if_false]
        exact ⟨k', w, _, rfl, rfl, z, ih y⟩
  have app : ∀ {kvs : List (D × D)} {ps : List (Key × V)}, RvK L.K H ρ kvs ps → RvK L.K H ρ (kvs ++ [(kD k, d)]) (ps ++ [(k, v)]) := by
    intro kvs
    induction kvs with
    | nil => intro ps h; unfold RvK at h; subst h; unfold RvK; exact ⟨k, v, [], rfl, rfl, hv, by simp [RvK]⟩
    | cons p r ih =>
      intro ps h
      obtain ⟨d', e⟩ := p
      unfold RvK at h
      obtain ⟨k', w, q, rfl, rfl, z, y⟩ := h
      rw [List.cons_append, List.cons_append]
      unfold RvK
      exact ⟨k', w, _, rfl, rfl, z, ih y⟩
  intro kvs ps h
  unfold put putK
  rw [any h]
  split
  · exact mp h
  · exact app h
theorem put_t {k : List Key} {d : D} {v : V} (hv : Rv L.K H ρ d v) : ∀ {kvs : List (D × D)} {ps : List (List Key × V)}, RvT L.K H ρ kvs ps → RvT L.K H ρ (put kvs (.tup (k.map kD)) d) (putK ps k v) := by
  have hb : ∀ k' : List Key, D.beq (.tup (k'.map kD)) (.tup (k.map kD)) = decide (k' = k) := fun k' => by
    rw [← kDs_beq]; simp [D.beq]
  have any : ∀ {kvs : List (D × D)} {ps : List (List Key × V)}, RvT L.K H ρ kvs ps → (kvs.any fun p => D.beq p.1 (.tup (k.map kD))) = ps.any fun kv => decide (kv.1 = k) := by
    intro kvs
    induction kvs with
    | nil => intro ps h; unfold RvT at h; subst h; rfl
    | cons p r ih =>
      intro ps h
      obtain ⟨d', e⟩ := p
      unfold RvT at h
      obtain ⟨k', w, q, rfl, rfl, z, y⟩ := h
      simp only [List.any_cons, ih y, hb]
  have mp : ∀ {kvs : List (D × D)} {ps : List (List Key × V)}, RvT L.K H ρ kvs ps → RvT L.K H ρ (kvs.map fun p => if D.beq p.1 (.tup (k.map kD)) = true then (p.1, d) else p) (ps.map fun kv => if kv.1 = k then (kv.1, v) else kv) := by
    intro kvs
    induction kvs with
    | nil => intro ps h; unfold RvT at h; subst h; simp [RvT]
    | cons p r ih =>
      intro ps h
      obtain ⟨d', e⟩ := p
      unfold RvT at h
      obtain ⟨k', w, q, rfl, rfl, z, y⟩ := h
      simp only [List.map_cons, hb]
      unfold RvT
      by_cases c : k' = k
      · subst c
        simp only [decide_true, if_true]
        exact ⟨k', v, _, rfl, rfl, hv, ih y⟩
      · simp only [c, decide_false, if_false]
        exact ⟨k', w, _, rfl, rfl, z, ih y⟩
  have app : ∀ {kvs : List (D × D)} {ps : List (List Key × V)}, RvT L.K H ρ kvs ps → RvT L.K H ρ (kvs ++ [(.tup (k.map kD), d)]) (ps ++ [(k, v)]) := by
    intro kvs
    induction kvs with
    | nil => intro ps h; unfold RvT at h; subst h; unfold RvT; exact ⟨k, v, [], rfl, rfl, hv, by simp [RvT]⟩
    | cons p r ih =>
      intro ps h
      obtain ⟨d', e⟩ := p
      unfold RvT at h
      obtain ⟨k', w, q, rfl, rfl, z, y⟩ := h
      rw [List.cons_append, List.cons_append]
      unfold RvT
      exact ⟨k', w, _, rfl, rfl, z, ih y⟩
  intro kvs ps h
  unfold put putK
  rw [any h]
  split
  · exact mp h
  · exact app h

def copE : Cop → CmpOp
  | .eq => .Eq | .ne => .NotEq | .lt => .Lt | .le => .LtE | .gt => .Gt | .ge => .GtE | .is => .Is | .isnot => .IsNot | .isin => .In | .notin => .NotIn
/-- a comparison as an operation -/
def cmpF (o : Cop) : D → D → Hd → R D := fun d e m => optB ((cmpD m o d e).map .bl) m
theorem optmap {α β : Type} {o : Option α} {f : α → β} {y : β} (h : o.map f = some y) : ∃ x, o = some x ∧ f x = y := by
  cases o with
  | none => cases h
  | some x => exact ⟨x, rfl, by simpa using h⟩

theorem eqF_inv {m : Hd} {d e : D} {k : Bool} (h : eqF m d e = some k) : D.flat (fz m d) = true ∧ D.flat (fz m e) = true ∧ SeqAt.shaped (D.py (fz m d)) = true ∧ SeqAt.shaped (D.py (fz m e)) = true ∧ k = PyData.eqv (D.py (fz m d)) (D.py (fz m e)) := by
  unfold eqF at h
  dsimp only at h
  split at h
  next c =>
    simp only [Bool.and_eq_true] at c
    cases h
    exact ⟨c.1.1.1, c.1.1.2, c.1.2, c.2, rfl⟩
  next => cases h
theorem eq_inv {m : Hd} {d e : D} {k : Bool} (h : eqD m d e = some k) : (∃ s t, d = .str s ∧ e = .str t ∧ k = decide (s = t)) ∨ eqF m d e = some k := by
  unfold eqD at h
  split at h
  next s t => cases h; exact .inl ⟨s, t, rfl, rfl, rfl⟩
  next => exact .inr h
theorem str_one {x : Str} (h : x.length = 1) : x = ⟨#[x.cps.getD 0 0]⟩ := by
  obtain ⟨c⟩ := x
  have h : c.size = 1 := h
  congr
  apply Array.ext
  · simp [h]
  · intro i h1 h2
    have : i = 0 := by omega
    subst this
    simp [Array.getD, h]
theorem ints_dp {K : PySem.W.Frag} : ∀ ns : List Int, DpAll K H (ns.map V.int) (D.pyL (ns.map D.int))
  | [] => .nil
  | n :: ns => by
    simp only [List.map_cons, D.pyL]
    exact .cons (by unfold D.py; exact .int n) (ints_dp ns)
/-- a sequence of flat items, as the library's -/
theorem dp_seq {d : D} {x : V} {xs : List D} (S : Sim L H ρ m) (r : Rv L.K H ρ d x) (e : sq m d = some xs) (f : D.flatL xs = true) : Dp L.K H x (.list (D.pyL xs)) ∨ Dp L.K H x (.tuple (D.pyL xs)) := by
  cases d with
  | tup ds =>
    cases e
    have := dp_of r (by simpa [D.flat] using f)
    exact .inr (by simpa [D.py] using this)
  | lst ds =>
    cases e
    have := dp_of r (by simpa [D.flat] using f)
    exact .inl (by simpa [D.py] using this)
  | scr ns =>
    cases e
    unfold Rv at r
    obtain ⟨a, rfl, h⟩ := r
    exact .inl (.lst h.sq (ints_dp ns))
  | ref n =>
    have e2 : fz m (.ref n) = .lst xs := by
      simp only [sq] at e
      simp only [fz]
      split at e
      · cases e; rfl
      · cases e
    have := dp_fz S r (by rw [e2]; simpa [D.flat] using f)
    rw [e2] at this
    exact .inl (by simpa [D.py] using this)
  | _ => cases e
theorem in_ok {d e : D} {x y : V} {u v : Value} {k : Bool} (hK : L.K = X.K) (hu : X.A.units + 100 < cLine) (I : Inv X pins σ H s) (rx : RelV x v) (ry : RelV y u) (S : Sim L H ρ m) (rd : Rv L.K H ρ d x) (re : Rv L.K H ρ e y) (h : inD m d e = some k) :
    ∀ (n : Bool) (Q : VK), Q (.bl (if n then !k else k)) H → wpAny (model X.prog X.w) X.A (compareOp (if n then .NotIn else .In) v u) (EP X pins σ Q) X.xe s := by
  intro n Q q
  unfold inD at h
  split at h
  next t =>
    split at h
    next z =>
      split at h
      next h1 =>
        cases h
        unfold Rv at rd re
        subst rd re
        have e1 := str_one h1
        have q' : Q (.bl (if n then !decide (z.cps.getD 0 0 ∈ t.cps.toList) else decide (z.cps.getD 0 0 ∈ t.cps.toList))) H := q
        generalize z.cps.getD 0 0 = c at e1 q'
        subst e1
        cases n with
        | true => exact op_notIn_sign pins s σ H _ _ v u Q I rx ry ⟨c, t, rfl, rfl, q'⟩
        | false => exact op_in_sign pins s σ H _ _ v u Q I rx ry ⟨c, t, rfl, rfl, q'⟩
      next => cases h
    next => cases h
  next =>
    split at h
    next ys e1 =>
      unfold memD at h
      split at h
      next c =>
        simp only [Bool.and_eq_true] at c
        cases h
        have d1 := dp_of rd c.1.1.1
        rw [hK] at d1
        obtain ⟨as, r1⟩ := Dp.reads I _ _ _ d1 rx
        have hdep := SeqAt.depth_of_shaped c.1.1.2
        have hlay := SeqAt.canLay_of_shaped c.1.1.2
        have hm : min (PyData.depthAll (D.pyL ys)) (D.py d).depth ≤ (D.py d).depth := Nat.min_le_right _ _
        rcases dp_seq S re e1 c.1.2 with d2 | d2
        · rw [hK] at d2
          obtain ⟨bs, r2⟩ := Dp.reads I _ _ _ d2 ry
          cases n with
          | true => exact SeqAt.notIn_list_reads r2 r1 c.2 hlay (by omega) ⟨.bl _, H, I, rfl, q⟩
          | false => exact SeqAt.in_list_reads r2 r1 c.2 hlay (by omega) ⟨.bl _, H, I, rfl, q⟩
        · rw [hK] at d2
          obtain ⟨bs, r2⟩ := Dp.reads I _ _ _ d2 ry
          cases n with
          | true => exact SeqAt.notIn_tuple_reads r2 r1 c.2 hlay (by omega) ⟨.bl _, H, I, rfl, q⟩
          | false => exact SeqAt.in_tuple_reads r2 r1 c.2 hlay (by omega) ⟨.bl _, H, I, rfl, q⟩
      next => cases h
    next =>
      split at h
      next t kvs e2 =>
        split at h
        next hk =>
          cases h
          obtain ⟨a, o, rfl, g, f⟩ := dget_ok S re rd e2 hk
          have hs := f.isSome
          rw [← hs] at q
          cases ry
          cases n with
          | true => exact d_notIn (by omega) I g rx fun s3 I3 => ⟨.bl _, H, I3, rfl, q⟩
          | false => exact d_in (by omega) I g rx fun s3 I3 => ⟨.bl _, H, I3, rfl, q⟩
        next => cases h
      next => cases h
variable (hK : L.K = X.K) (hu : X.A.units + 100 < cLine)
include hK
theorem cmp_int {o : CmpOp} {g : Int → Int → Bool} {o' : Cop} (h : OpR X (compareOp o) (rI0 fun i j => .bl (g i j)))
    (hf : ∀ m d e k, cmpD m o' d e = some k → ∃ i j, d = .int i ∧ e = .int j ∧ k = g i j) : OpR X (compareOp o) (rB L (cmpF o')) := by
  intro pins s σ H x y v u Q I rx ry ⟨ρ, m, d, e, S, rd, re, o⟩
  obtain ⟨k0, hk0, o1⟩ := o.optB
  obtain ⟨k, hk, e1⟩ := optmap hk0
  subst e1
  clear hk0
  obtain ⟨i, j, rfl, rfl, rfl⟩ := hf _ _ _ _ hk
  unfold Rv at rd re
  exact h pins s σ H x y v u Q I rx ry ⟨i, j, rd, re, out_val o1 S (by simp [Rv])⟩
include hu
theorem op_cmpD (o : Cop) : OpR X (compareOp (copE o)) (rB L (cmpF o)) := by
  cases o with
  | eq =>
    intro pins s σ H x y v u Q I rx ry ⟨ρ, m, d, e, S, rd, re, o⟩
    obtain ⟨k0, hk0, o1⟩ := o.optB
    obtain ⟨k, hk, e1⟩ := optmap hk0
    subst e1
    clear hk0
    rcases eq_inv hk with ⟨z, z', rfl, rfl, rfl⟩ | hk
    · unfold Rv at rd re
      subst rd re
      exact op_eq pins s σ H _ _ v u Q I rx ry ⟨rfl, by rw [show decide (V.str z = V.str z') = decide (z = z') by simp]; exact out_val o1 S (by simp [Rv])⟩
    obtain ⟨f1, f2, s1, s2, rfl⟩ := eqF_inv hk
    have d1 := dp_fz S rd f1
    have d2 := dp_fz S re f2
    rw [hK] at d1 d2
    exact op_eqD (by omega) pins s σ H x y v u Q I rx ry ⟨_, _, d1, d2, s1, s2, out_val o1 S (by simp [Rv])⟩
  | ne =>
    intro pins s σ H x y v u Q I rx ry ⟨ρ, m, d, e, S, rd, re, o⟩
    obtain ⟨k0, hk0, o1⟩ := o.optB
    obtain ⟨k1, hk1, e1⟩ := optmap hk0
    subst e1
    obtain ⟨k, hk, e2⟩ := optmap hk1
    subst e2
    clear hk0 hk1
    rcases eq_inv hk with ⟨z, z', rfl, rfl, rfl⟩ | hk
    · unfold Rv at rd re
      subst rd re
      exact op_ne pins s σ H _ _ v u Q I rx ry ⟨rfl, by rw [show decide (V.str z = V.str z') = decide (z = z') by simp]; exact out_val o1 S (by simp [Rv])⟩
    obtain ⟨f1, f2, s1, s2, rfl⟩ := eqF_inv hk
    have d1 := dp_fz S rd f1
    have d2 := dp_fz S re f2
    rw [hK] at d1 d2
    exact op_neD (by omega) pins s σ H x y v u Q I rx ry ⟨_, _, d1, d2, s1, s2, out_val o1 S (by simp [Rv])⟩
  | lt =>
    refine cmp_int hK op_lt ?_
    intro m d e k h
    simp only [cmpD] at h
    split at h
    · next i j =>
      simp only [cmpI] at h
      exact ⟨i, j, rfl, rfl, (Option.some.inj h).symm⟩
    · cases h
  | le =>
    refine cmp_int hK op_le ?_
    intro m d e k h
    simp only [cmpD] at h
    split at h
    · next i j =>
      simp only [cmpI] at h
      exact ⟨i, j, rfl, rfl, (Option.some.inj h).symm⟩
    · cases h
  | gt =>
    refine cmp_int hK op_gt ?_
    intro m d e k h
    simp only [cmpD] at h
    split at h
    · next i j =>
      simp only [cmpI] at h
      exact ⟨i, j, rfl, rfl, (Option.some.inj h).symm⟩
    · cases h
  | ge =>
    refine cmp_int hK op_ge ?_
    intro m d e k h
    simp only [cmpD] at h
    split at h
    · next i j =>
      simp only [cmpI] at h
      exact ⟨i, j, rfl, rfl, (Option.some.inj h).symm⟩
    · cases h
  | is =>
    intro pins s σ H x y v u Q I rx ry ⟨ρ, m, d, e, S, rd, re, o⟩
    obtain ⟨k0, hk0, o1⟩ := o.optB
    obtain ⟨k, hk, e1⟩ := optmap hk0
    subst e1
    clear hk0
    simp only [cmpD] at hk
    split at hk
    next =>
      have hk := Option.some.inj hk
      unfold Rv at re
      refine op_isN pins s σ H x y v u Q I rx ry ⟨re, ?_⟩
      have : decide (x = V.non) = k := by
        cases d <;> simp only [Rv] at rd <;> simp_all
        all_goals (obtain ⟨a, h⟩ := rd; first | (obtain ⟨rfl, _⟩ := h; simp_all) | (obtain ⟨_, rfl⟩ := h; simp_all) | (obtain ⟨_, rfl, _⟩ := h; simp_all) | (obtain ⟨_, _, rfl, _⟩ := h; simp_all))
      rw [this]
      exact out_val o1 S (by simp [Rv])
    next c =>
      split at hk
      next a =>
        unfold Rv at re rd
        cases hk
        refine op_isBl pins s σ H x y v u Q I rx ry ⟨a, c, rd, re, ?_⟩
        have : (a == c) = decide (a = c) := by cases a <;> cases c <;> rfl
        rw [← this]
        exact out_val o1 S (by simp [Rv])
      next => cases hk
    next => cases hk
  | isnot =>
    intro pins s σ H x y v u Q I rx ry ⟨ρ, m, d, e, S, rd, re, o⟩
    obtain ⟨k0, hk0, o1⟩ := o.optB
    obtain ⟨k, hk, e1⟩ := optmap hk0
    subst e1
    clear hk0
    simp only [cmpD] at hk
    split at hk
    next =>
      have hk := Option.some.inj hk
      unfold Rv at re
      refine op_notN pins s σ H x y v u Q I rx ry ⟨re, ?_⟩
      have : (!decide (x = V.non)) = k := by
        cases d <;> simp only [Rv] at rd <;> simp_all
        all_goals (obtain ⟨a, h⟩ := rd; first | (obtain ⟨rfl, _⟩ := h; simp_all) | (obtain ⟨_, rfl⟩ := h; simp_all) | (obtain ⟨_, rfl, _⟩ := h; simp_all) | (obtain ⟨_, _, rfl, _⟩ := h; simp_all))
      rw [this]
      exact out_val o1 S (by simp [Rv])
    next c =>
      split at hk
      next a =>
        unfold Rv at re rd
        cases hk
        refine op_notBl pins s σ H x y v u Q I rx ry ⟨a, c, rd, re, ?_⟩
        have : (!(a == c)) = !decide (a = c) := by cases a <;> cases c <;> rfl
        rw [← this]
        exact out_val o1 S (by simp [Rv])
      next => cases hk
    next => cases hk
  | isin =>
    intro pins s σ H x y v u Q I rx ry ⟨ρ, m, d, e, S, rd, re, o⟩
    obtain ⟨k0, hk0, o1⟩ := o.optB
    obtain ⟨k, hk, e1⟩ := optmap hk0
    subst e1
    exact in_ok hK hu I rx ry S rd re hk false Q (out_val o1 S (by simp [Rv]))
  | notin =>
    intro pins s σ H x y v u Q I rx ry ⟨ρ, m, d, e, S, rd, re, o⟩
    obtain ⟨k0, hk0, o1⟩ := o.optB
    obtain ⟨k1, hk1, e1⟩ := optmap hk0
    subst e1
    obtain ⟨k, hk, e2⟩ := optmap hk1
    subst e2
    exact in_ok hK hu I rx ry S rd re hk true Q (out_val o1 S (by simp [Rv]))
end
end Dx
/-! DxE: truth, items, slices, stores, built-in functions, methods -/
namespace Dx
open PySem PySem.Spec PyProof.Rows L2
section
variable {L : Lnk} {X : Cx} {H : Hp} {ρ : List Addr} {m : Hd} {pins : List (Addr × Obj)} {σ : VS} {s : Shared} {Q : VK} {b : Bool}

theorem sq_len {d : D} {x : V} {xs : List D} (S : Sim L H ρ m) (r : Rv L.K H ρ d x) (e : sq m d = some xs) :
    ∃ a vs, x = .ref a ∧ (SqL L.K H a vs ∨ SqT L.K H a vs) ∧ RvL L.K H ρ xs vs ∧ xs.length = vs.length :=
  let ⟨a, vs, h1, h2, h3⟩ := sq_ok (K := L.K) S r e
  ⟨a, vs, h1, h2, h3, h3.len⟩
theorem tru_okD {d : D} {x : V} {k : Bool} (hK : L.K = X.K) (S : Sim L H ρ m) (r : Rv L.K H ρ d x) (h : truD m d = some k) : TruV X.K x H k := by
  unfold truD at h
  split at h
  next => unfold Rv at r; subst r; cases h; rfl
  next b => unfold Rv at r; subst r; cases h; rfl
  next i => unfold Rv at r; subst r; cases h; rfl
  next z =>
    split at h
    next c => unfold Rv at r; subst r; cases h; exact ⟨c, rfl⟩
    next => cases h
  next =>
    obtain ⟨xs, e, rfl⟩ := optmap h
    obtain ⟨a, vs, rfl, h2, h3⟩ := sq_ok (K := L.K) S r e
    rw [hK] at h2
    rcases h2 with h2 | h2
    · exact .inl ⟨vs, h2, by rw [h3.emp]⟩
    · exact .inr (.inl ⟨vs, h2, by rw [h3.emp]⟩)

/-! ### a subscript -/
theorem ixNat_at {α : Type} {xs : List α} {i : Int} {v : α} (h : ((ixNat xs.length i).bind fun j => xs[j]?) = some v) : atI xs i = some v := h
theorem tail_ok {value slice : Expr} {o i : Value} {T id : String} {Q : Value → Shared → Prop} {E : Value → Shared → Prop} {A : Around} {prog : Program} {w : World} (hT : s.TypeIs o T)
    (hl : typeLookup (.type T) "__getitem__" = pure (some (.builtin id))) (h : wpAny (model prog w) A (getItem o i) Q E s)
    (hs : subscripted slice false o i = operate [o, i] (getItem o i)) :
    wpAny (model prog w) A (subscriptTail value slice o i) Q E s := by
  unfold subscriptTail
  refine wpAny_bind ?_
  rw [getitemInPython_of_ne hT.not_modules]
  refine wpAny_bind (wpAny_specialOf hT hl ?_)
  have fin : wpAny (model prog w) A (subscripted slice false o i) (fun r s₃ => wpAny (model prog w) A (letTemporaryGo value o r >>= fun _ => pure r) Q E s₃) E s := by
    rw [hs]
    exact wpAny_operating (wpAny_mono h (fun r s₃ h₃ => wpAny_bind (wpAny_letTemporaryGo (wpAny_pure h₃))) fun _ _ x => x)
  first
    | exact wpAny_pure (wpAny_bind fin)
    | exact wpAny_bind (wpAny_pure (wpAny_bind fin))
    | exact wpAny_bind fin
theorem sq_lst {d : D} {x : V} {xs : List D} (S : Sim L H ρ m) (r : Rv L.K H ρ d x) (e : sq m d = some xs) (n : ∀ ys, d ≠ .tup ys) :
    ∃ a vs, x = .ref a ∧ SqL L.K H a vs ∧ RvL L.K H ρ xs vs := by
  cases d with
  | tup ds => exact absurd rfl (n ds)
  | lst ds =>
    unfold Rv at r
    obtain ⟨a, o, vs, rfl, h, q⟩ := r
    cases e
    exact ⟨a, vs, rfl, .inl (.inr ⟨o, h⟩), q⟩
  | scr ns =>
    unfold Rv at r
    obtain ⟨a, rfl, h⟩ := r
    cases e
    refine ⟨a, _, rfl, h.sq, ?_⟩
    clear h n
    induction ns with
    | nil => exact rvl_nil
    | cons n ns ih => exact rvl_cons (by simp [Rv]) ih
  | ref k =>
    unfold Rv at r
    obtain ⟨a, h, rfl⟩ := r
    simp only [sq] at e
    cases q : m[k]? with
    | none => rw [q] at e; cases e
    | some o =>
      rw [q] at e
      cases o with
      | lst ds =>
        cases e
        obtain ⟨vs, h1, h2⟩ := S.ob k a _ h q
        exact ⟨a, vs, rfl, .of h1, h2⟩
      | _ => cases e
  | _ => cases e
theorem ix_dict (hu : X.A.units + 1 < cLine) : IxR X (fun x y H Q => ∃ a v, x = .ref a ∧ DGet H a y (some v) ∧ Q v H) := by
  intro value slice pins s σ H x y v u Q I rx ry h hs
  obtain ⟨a, z, rfl, g, q⟩ := h
  cases rx
  exact tail_ok (dict_typeIs I g) PySem.F.slot_dict_getitem.lookup (d_getItem hu I g ry fun w' s3 I3 rw' => ⟨z, H, I3, rw', q⟩) hs
theorem ix_D (hK : L.K = X.K) (hu : X.A.units + 100 < cLine) : IxR X (rB L fun d e m => optB (getD m d e) m) := by
  intro value slice pins s σ H x y v u Q I rx ry ⟨ρ, m, d, e, S, rd, re, o⟩ hs
  obtain ⟨z, h, o1⟩ := o.optB
  clear o
  unfold getD at h
  split at h
  next xs e1 =>
    split at h
    next i =>
      obtain ⟨a, vs, rfl, h2, h3, hl⟩ := sq_len S rd e1
      unfold Rv at re
      subst re
      cases q : ixNat xs.length i with
      | none => rw [q] at h; cases h
      | some j =>
        rw [q] at h
        obtain ⟨w, g1, g2⟩ := h3.get (show xs[j]? = some z from h)
        have at_ : atI vs i = some w := by
          show ((ixNat vs.length i).bind fun j => vs[j]?) = some w
          rw [← hl, q]
          exact g1
        rw [hK] at h2
        refine ix_seq value slice pins s σ H _ _ v u Q I rx ry ?_ hs
        rcases h2 with h2 | h2
        · exact .inl ⟨a, vs, i, w, rfl, rfl, h2, at_, out_val o1 S g2⟩
        · exact .inr (.inl ⟨a, vs, i, w, rfl, rfl, h2, at_, out_val o1 S g2⟩)
    next => cases h
  next =>
    split at h
    next t _ =>
      split at h
      next i =>
        split at h
        next hz =>
          obtain ⟨c, hc, rfl⟩ := optmap h
          unfold Rv at rd re
          subst rd re
          exact ix_seq value slice pins s σ H _ _ v u Q I rx ry (.inr (.inr ⟨t, i, c, rfl, rfl, hz, hc, out_val o1 S (by simp [Rv])⟩)) hs
        next => cases h
      next => cases h
    next =>
      split at h
      next t kvs e2 =>
        split at h
        next hk =>
          obtain ⟨a, p, rfl, g, f⟩ := dget_ok S rd re e2 hk
          rw [h] at f
          cases p with
          | none => exact f.elim
          | some w => exact ix_dict (by omega) value slice pins s σ H _ _ v u Q I rx ry ⟨a, w, rfl, g, out_val o1 S f⟩ hs
        next => cases h
      next => cases h

/-! ### slices -/
theorem rvl_cut {K : PySem.W.Frag} {xs : List D} {vs : List V} (r : RvL K H ρ xs vs) (lo hi : Option Int) : RvL K H ρ (cut xs lo hi) (cutV vs lo hi) := by
  show RvL K H ρ ((xs.drop (sIx xs.length 0 lo)).take (sIx xs.length xs.length hi - sIx xs.length 0 lo)) ((vs.drop (sIx vs.length 0 lo)).take (sIx vs.length vs.length hi - sIx vs.length 0 lo))
  rw [r.len]
  exact (r.drop _).take _
/-- a slice's reading -/
def rSl (L : Lnk) (b : Bool) : V → Option Int → Option Int → Hp → VK → Prop := fun x lo hi H Q => ∃ ρ m d, Sim L H ρ m ∧ Rv L.K H ρ d x ∧ Out L H ρ Q (slD b d lo hi m)
theorem sl_D (hK : L.K = X.K) (b : Bool) : SlR X (rSl L b) := by
  intro pins s σ H x v vl vu lo hi sl Q I rx hs pl pu ⟨ρ, m, d, S, rd, o⟩
  unfold slD at o
  split at o
  next xs =>
    have rd0 := rd
    unfold Rv at rd
    obtain ⟨a, vs, rfl, hp, rp⟩ := rd
    refine sl_tupA pins s σ H _ v vl vu lo hi sl Q I rx hs pl pu ⟨a, vs, rfl, .of hp, fun c => ?_, fun c p' hp' => out_tup S (rvl_cut rp lo hi) o hp'⟩
    have ec : cut xs lo hi = xs := by
      have hl := rp.len
      obtain ⟨c1, c2⟩ := c
      show (xs.drop (HT.sIx xs.length 0 lo)).take (HT.sIx xs.length xs.length hi - HT.sIx xs.length 0 lo) = xs
      rw [hl, c1, c2, ← hl]
      simp
    rw [ec] at o
    exact out_val o S rd0
  next z =>
    obtain ⟨h, o⟩ := o.ifs
    unfold Rv at rd
    subst rd
    exact sl_str pins s σ H _ v vl vu lo hi sl Q I rx hs pl pu ⟨z, rfl, by simpa using h, out_val o S (by simp [Rv]; rfl)⟩
  next n _ =>
    split at o
    next xs e1 =>
      obtain ⟨a, vs, rfl, h2, h3⟩ := sq_lst S rd e1 fun ys z => n ys z
      rw [hK] at h2
      cases b with
      | true => exact sl_list pins s σ H _ v vl vu lo hi sl Q I rx hs pl pu ⟨a, vs, rfl, h2, fun p hp => by simpa using mk_ok S (rvl_cut h3 lo hi) o hp⟩
      | false =>
        obtain ⟨T, id, t1, t2, t3⟩ := sl_list pins s σ H _ v vl vu lo hi sl (QLk Q) I rx hs pl pu ⟨a, vs, rfl, h2, fun p hp => by simpa using mk_ok S (rvl_cut h3 lo hi) o hp⟩
        exact ⟨T, id, t1, t2, thn t3 fun _ _ z => ep_lock z⟩
    next => exact o.elim

/-! ### o[i] = v -/
theorem putK_len {κ : Type} [DecidableEq κ] (kvs : List (κ × V)) : kvs.length = kvs.length := rfl
theorem rvk_len {K : PySem.W.Frag} : ∀ {kvs : List (D × D)} {ps : List (Key × V)}, RvK K H ρ kvs ps → kvs.length = ps.length
  | [], ps, h => by unfold RvK at h; subst h; rfl
  | (d, e) :: r, ps, h => by
    unfold RvK at h
    obtain ⟨k, v, q, rfl, _, _, y⟩ := h
    simp [rvk_len y]
theorem rvt_len {K : PySem.W.Frag} : ∀ {kvs : List (D × D)} {ps : List (List Key × V)}, RvT K H ρ kvs ps → kvs.length = ps.length
  | [], ps, h => by unfold RvT at h; subst h; rfl
  | (d, e) :: r, ps, h => by
    unfold RvT at h
    obtain ⟨k, v, q, rfl, _, _, y⟩ := h
    simp [rvt_len y]
def rSet (L : Lnk) : V → V → V → Hp → (Hp → Prop) → Prop := fun o i v H Q => ∃ ρ m d e f, Sim L H ρ m ∧ Rv L.K H ρ d o ∧ Rv L.K H ρ e i ∧ Rv L.K H ρ f v ∧ OutG L H ρ (fun _ _ H' _ => Q H') (setD d e f m)
theorem set_D (hu : X.A.units + 100 < cLine) : PSet X (rSet L) := by
  intro pins s σ H o i v ov iv u Q I ro ri rv ⟨ρ, m, d, e, f, S, rd, re, rf, out⟩
  unfold setD at out
  split at out
  next n =>
    unfold Rv at rd
    obtain ⟨a, ha, rfl⟩ := rd
    split at out
    next xs e1 =>
      split at out
      next k =>
        split at out
        next j hj =>
          obtain ⟨vs, h1, h2⟩ := S.ob n a _ ha e1
          unfold Rv at re
          subst re
          have hl := h2.len
          refine set_list pins s σ H _ _ _ ov iv u Q I ro ri rv ⟨a, vs, k, j, rfl, rfl, h1, by rw [← hl]; exact hj, ?_⟩
          have x : Ext H ρ (upd H a (.lst (vs.set j v))) ρ := Ext.write ha h1 (by simp) (by simp)
          exact out _ _ x (S.write ha h1 (by simp) (by simp) ⟨_, upd_same, (RvL.set rf j h2).ext x⟩)
        next => exact out.elim
      next => exact out.elim
    next t kvs e1 =>
      obtain ⟨h, out⟩ := out.ifs
      simp only [Bool.and_eq_true, decide_eq_true_eq] at h
      cases ro
      rcases S.ob n a _ ha e1 with ⟨rfl, ps, h1, h2⟩ | ⟨rfl, ps, h1, h2⟩
      · obtain ⟨k, rfl⟩ := key_of1 h.1
        obtain rfl := rv_key re
        have hl := rvk_len h2
        refine d_setItem (by omega) I (DPut.k (k := k) (v := v) h1 (by omega)) ri rv fun s' I' => ⟨_, I', ?_⟩
        have x : Ext H ρ (upd H a (.dK (putK ps k v))) ρ := Ext.write ha h1 (by simp) (by simp)
        exact out _ _ x (S.write ha h1 (by simp) (by simp) (.inl ⟨rfl, _, upd_same, RvK.mono x.pre x.tup x.frz (put_k rf h2)⟩))
      · obtain ⟨ks, rfl⟩ := key_ofT h.1
        obtain ⟨b, rfl, hb⟩ := rv_keyT re
        have hl := rvt_len h2
        refine d_setItem (by omega) I (DPut.t (k := ks) (v := v) h1 hb (by omega)) ri rv fun s' I' => ⟨_, I', ?_⟩
        have x : Ext H ρ (upd H a (.dT (putK ps ks v))) ρ := Ext.write ha h1 (by simp) (by simp)
        exact out _ _ x (S.write ha h1 (by simp) (by simp) (.inr ⟨rfl, _, upd_same, RvT.mono x.pre x.tup x.frz (put_t rf h2)⟩))
    next => exact out.elim
  next => exact out.elim

/-! ### built-in functions -/
def rC (L : Lnk) (f : List D → Hd → R D) : List V → Hp → VK → Prop := fun vs H Q => ∃ ρ m ds, Sim L H ρ m ∧ RvL L.K H ρ ds vs ∧ Out L H ρ Q (f ds m)
theorem rvl1 {K : PySem.W.Frag} {d : D} {vs : List V} (r : RvL K H ρ [d] vs) : ∃ v, vs = [v] ∧ Rv K H ρ d v := by
  unfold RvL at r
  obtain ⟨v, q, rfl, h, z⟩ := r
  unfold RvL at z
  subst z
  exact ⟨v, rfl, h⟩
theorem rvl2 {K : PySem.W.Frag} {d e : D} {vs : List V} (r : RvL K H ρ [d, e] vs) : ∃ v w, vs = [v, w] ∧ Rv K H ρ d v ∧ Rv K H ρ e w := by
  unfold RvL at r
  obtain ⟨v, q, rfl, h, z⟩ := r
  obtain ⟨w, rfl, z'⟩ := rvl1 z
  exact ⟨v, w, rfl, h, z'⟩
theorem ints_of {K : PySem.W.Frag} : ∀ {ds : List D} {ns : List Int} {vs : List V}, intsOf ds = some ns → RvL K H ρ ds vs → vs = ns.map V.int
  | [], ns, vs, h, r => by unfold RvL at r; subst r; cases h; rfl
  | d :: ds, ns, vs, h, r => by
    unfold RvL at r
    obtain ⟨v, q, rfl, z, y⟩ := r
    cases d with
    | int i =>
      obtain ⟨ms, h1, rfl⟩ := optmap h
      unfold Rv at z
      rw [z, ints_of h1 y, List.map_cons]
    | _ => cases h
theorem bls_of {K : PySem.W.Frag} : ∀ {ds : List D} {ns : List Bool} {vs : List V}, blsOf ds = some ns → RvL K H ρ ds vs → vs = ns.map V.bl
  | [], ns, vs, h, r => by unfold RvL at r; subst r; cases h; rfl
  | d :: ds, ns, vs, h, r => by
    unfold RvL at r
    obtain ⟨v, q, rfl, z, y⟩ := r
    cases d with
    | bl i =>
      obtain ⟨ms, h1, rfl⟩ := optmap h
      unfold Rv at z
      rw [z, bls_of h1 y, List.map_cons]
    | _ => cases h
def biE : Bi → Option Value
  | .len => some (.builtin "len") | .max2 => some (.builtin "max") | .min2 => some (.builtin "min") | .abs => some (.builtin "abs") | .int => some (.type "int")
  | .repr => some (.builtin "repr") | .list _ => some (.type "list") | .tuple => some (.type "tuple") | .all => some (.builtin "all") | .any => some (.builtin "any")
  | .sum => some (.builtin "sum") | .str => some (.type "str") | .maxL => some (.builtin "max") | .minL => some (.builtin "min") | .isinst _ => none

theorem lq_ok {d : D} {x : V} {xs : List D} (S : Sim L H ρ m) (r : Rv L.K H ρ d x) (e : lq m d = some xs) : ∃ a vs, x = .ref a ∧ SqL L.K H a vs ∧ RvL L.K H ρ xs vs := by
  unfold lq at e
  split at e
  · cases e
  · next n => exact sq_lst S r e fun ys z => n ys z
theorem max_one {n : Int} : ∀ {ns : List Int} {k : Int}, k ∈ n :: ns → (∀ y ∈ n :: ns, y ≤ k) → k = ns.foldl max n := by
  intro ns
  induction ns generalizing n with
  | nil => intro k h _; simpa using h
  | cons a r ih =>
    intro k h g
    rw [List.foldl_cons]
    refine ih ?_ ?_
    · rcases List.mem_cons.mp h with rfl | h
      · have := g a (by simp)
        rw [show max k a = k by omega]
        simp
      · rcases List.mem_cons.mp h with rfl | h
        · have := g n (by simp)
          rw [show max n k = k by omega]
          simp
        · exact List.mem_cons_of_mem _ h
    · intro y hy
      rcases List.mem_cons.mp hy with rfl | hy
      · have h1 := g n (by simp)
        have h2 := g a (by simp)
        omega
      · exact g y (by simp [hy])
theorem min_one {n : Int} : ∀ {ns : List Int} {k : Int}, k ∈ n :: ns → (∀ y ∈ n :: ns, k ≤ y) → k = ns.foldl min n := by
  intro ns
  induction ns generalizing n with
  | nil => intro k h _; simpa using h
  | cons a r ih =>
    intro k h g
    rw [List.foldl_cons]
    refine ih ?_ ?_
    · rcases List.mem_cons.mp h with rfl | h
      · have := g a (by simp)
        rw [show min k a = k by omega]
        simp
      · rcases List.mem_cons.mp h with rfl | h
        · have := g n (by simp)
          rw [show min n k = k by omega]
          simp
        · exact List.mem_cons_of_mem _ h
    · intro y hy
      rcases List.mem_cons.mp hy with rfl | hy
      · have h1 := g n (by simp)
        have h2 := g a (by simp)
        omega
      · exact g y (by simp [hy])
theorem len_okD {d : D} {x : V} {n : Nat} (hK : L.K = X.K) (S : Sim L H ρ m) (r : Rv L.K H ρ d x) (h : lenD m d = some n) : LenV X.K x H n := by
  unfold lenD at h
  split at h
  next z =>
    split at h
    next c => unfold Rv at r; subst r; cases h; exact ⟨c, rfl⟩
    next => cases h
  next =>
    split at h
    next xs e =>
      cases h
      obtain ⟨a, vs, rfl, h2, h3, hl⟩ := sq_len S r e
      rw [hK] at h2
      rcases h2 with h2 | h2
      · exact .inl ⟨vs, h2, hl⟩
      · exact .inr ⟨vs, h2, hl⟩
    next => cases h
theorem ty_okD {d : D} {x : V} {n : String} (S : Sim L H ρ m) (r : Rv L.K H ρ d x) (h : tyOf m d = some n) (hK : L.K = X.K) : TyX X.K H x (.type n) := by
  cases d with
  | non => unfold Rv at r; subst r; cases h; exact .base .non
  | bl b => unfold Rv at r; subst r; cases h; exact .base (.bl b)
  | int b => unfold Rv at r; subst r; cases h; exact .base (.int b)
  | str b => unfold Rv at r; subst r; cases h; exact .base (.str b)
  | tup ds => unfold Rv at r; obtain ⟨a, vs, rfl, q, _⟩ := r; cases h; exact .base (.tup q)
  | lst ds => unfold Rv at r; obtain ⟨a, o, vs, rfl, q, _⟩ := r; cases h; exact .base (.frz q)
  | scr ns =>
    unfold Rv at r
    obtain ⟨a, rfl, q⟩ := r
    cases h
    rw [hK] at q
    rcases q with ⟨o, q⟩ | ⟨o, _, _, q, c, _⟩
    · exact .base (.frz q)
    · exact .kList q c
  | dct t kvs => cases h
  | ref n =>
    unfold Rv at r
    obtain ⟨a, q, rfl⟩ := r
    simp only [tyOf] at h
    split at h
    next ds e =>
      cases h
      obtain ⟨vs, h1, _⟩ := S.ob n a _ q e
      exact .base (.lst h1)
    next t kvs e =>
      cases h
      rcases S.ob n a _ q e with ⟨_, ps, h1, _⟩ | ⟨_, ps, h1, _⟩
      · exact .base (.dK h1)
      · exact .base (.dT h1)
    next => cases h
theorem kit_tyD {K : PySem.W.Frag} {n : String} (hn : n ∈ ["NoneType", "bool", "int", "str", "tuple", "list", "dict"]) (t : Ty) : PySem.W.kitOne K (.type n) (.type t.name) = some (n == t.name || (n == "bool" && t.name == "int")) := by
  refine kit_ty ?_
  simp only [List.mem_cons, List.not_mem_nil, or_false] at hn
  rcases hn with rfl | rfl | rfl | rfl | rfl | rfl | rfl <;> cases t <;> decide +kernel
theorem tyOf_mem {d : D} {n : String} (h : tyOf m d = some n) : n ∈ ["NoneType", "bool", "int", "str", "tuple", "list", "dict"] := by
  cases d <;> simp only [tyOf] at h
  all_goals first | (cases h; done) | (cases h; decide) | (split at h <;> first | (cases h; done) | (cases h; decide))
/-- isinstance(x, T) -/
theorem call_isinstD (hK : L.K = X.K) (t : Ty) : CallR X (.builtin "isinstance") (fun vs H Q => ∃ ρ m d v, vs = [v, .ty t.name] ∧ Sim L H ρ m ∧ Rv L.K H ρ d v ∧ Out L H ρ Q (biD (.isinst t) [d] m)) := by
  intro pins s σ H xs us Q I r ⟨ρ, m, d, v, e, S, rd, o⟩
  subst e
  have o : Out L H ρ Q (optB ((isTy m d t).map .bl) m) := o
  obtain ⟨k0, hk0, o1⟩ := o.optB
  obtain ⟨k, hk, e1⟩ := optmap hk0
  subst e1
  obtain ⟨n, hn, e2⟩ := optmap hk
  subst e2
  exact call_isi pins s σ H _ us Q I r ⟨v, .ty t.name, .type n, .type t.name, _, rfl, .ty _, ty_okD S rd hn hK, kit_tyD (tyOf_mem hn) t, out_val o1 S (by simp [Rv])⟩
mutual
theorem nodict : ∀ {d : D}, D.flat d = true → (D.py d).hasDict = false
  | .non, _ => rfl
  | .bl _, _ => rfl
  | .int _, _ => rfl
  | .str _, _ => rfl
  | .tup xs, h => by unfold D.py PyData.hasDict; exact nodictL (by simpa [D.flat] using h)
  | .lst xs, h => by unfold D.py PyData.hasDict; exact nodictL (by simpa [D.flat] using h)
  | .dct _ _, h => by simp [D.flat] at h
  | .ref _, h => by simp [D.flat] at h
  | .scr _, h => by simp [D.flat] at h
theorem nodictL : ∀ {d : List D}, D.flatL d = true → PyData.hasDictAll (D.pyL d) = false
  | [], _ => rfl
  | d :: ds, h => by
    simp only [D.flatL, Bool.and_eq_true] at h
    unfold D.pyL PyData.hasDictAll
    rw [nodict h.1, nodictL h.2]
    rfl
end
theorem repr_ok {d : D} {x : V} {u : Value} (hK : L.K = X.K) (hu : X.A.units + 100 < cLine) (hg : X.A.guards = some []) (I : Inv X pins σ H s) (S : Sim L H ρ m) (rd : Rv L.K H ρ d x) (rx : RelV x u)
    (o : Out L H ρ Q (biD .repr [d] m)) : wpAny (model X.prog X.w) X.A (call (.builtin "repr") [u]) (EP X pins σ Q) X.xe s := by
  have o : Out L H ρ Q (ifs (D.flat (fz m d) && (match fz m d with | .tup _ => true | .lst _ => true | _ => false) && (D.py (fz m d)).showable && decide ((D.py (fz m d)).depth ≤ 64) && decide ((D.py (fz m d)).shown.length ≤ sizeLine)) (.ok (.str (D.py (fz m d)).shown) m)) := o
  obtain ⟨h, o1⟩ := o.ifs
  simp only [Bool.and_eq_true, decide_eq_true_eq] at h
  obtain ⟨⟨⟨⟨h1, h2⟩, h3⟩, h4⟩, h5⟩ := h
  have d1 := dp_fz S rd h1
  rw [hK] at d1
  obtain ⟨as, r1⟩ := Dp.reads I _ _ _ d1 rx
  have nd : (D.py (fz m d)).hasDict = true → sysModules ∉ as := PyData.noDict_hsm (nodict h1)
  have hr : ∃ a, u = .ref a := by
    cases e : fz m d with
    | tup xs => rw [e] at r1; unfold D.py at r1; cases r1; exact ⟨_, rfl⟩
    | lst xs => rw [e] at r1; unfold D.py at r1; cases r1; exact ⟨_, rfl⟩
    | _ => rw [e] at h2; cases h2
  obtain ⟨a, rfl⟩ := hr
  exact repr_of_reads' r1 h3 nd hg (by omega) (fun _ _ q => q) (fun h' t tk hk => ⟨.str _, H, I.kept hk, ⟨t, rfl⟩, out_val o1 S (by simp [Rv])⟩) h5

theorem bi_ok (hK : L.K = X.K) (hu : X.A.units + 100 < cLine) (hg : X.A.guards = some []) (hc : X.calm = true) (f : Bi) (v : Value) (hv : biE f = some v) : CallR X v (rC L (biD f)) := by
  intro pins s σ H vs us Q I r ⟨ρ, m, ds, S, rd, o⟩
  unfold biD at o
  split at o
  next x =>
    cases hv
    obtain ⟨w, rfl, rw'⟩ := rvl1 rd
    split at o
    next n e => exact call_len pins s σ H _ us Q I r ⟨w, n, rfl, len_okD hK S rw' e, out_val o S (by simp [Rv])⟩
    next => exact o.elim
  next i j =>
    cases hv
    obtain ⟨w, w2, rfl, r1, r2⟩ := rvl2 rd
    unfold Rv at r1 r2
    subst r1 r2
    exact call_max2 hc pins s σ H _ us Q I r ⟨i, j, rfl, out_val o S (by simp [Rv])⟩
  next i j =>
    cases hv
    obtain ⟨w, w2, rfl, r1, r2⟩ := rvl2 rd
    unfold Rv at r1 r2
    subst r1 r2
    exact call_min2 hc pins s σ H _ us Q I r ⟨i, j, rfl, out_val o S (by simp [Rv])⟩
  next i =>
    cases hv
    obtain ⟨w, rfl, rw'⟩ := rvl1 rd
    unfold Rv at rw'
    subst rw'
    exact call_abs pins s σ H _ us Q I r ⟨i, rfl, out_val o S (by simp [Rv])⟩
  next i =>
    cases hv
    obtain ⟨w, rfl, rw'⟩ := rvl1 rd
    unfold Rv at rw'
    subst rw'
    exact call_int1 pins s σ H _ us Q I r (.inl ⟨i, rfl, out_val o S (by simp [Rv])⟩)
  next k =>
    cases hv
    obtain ⟨w, rfl, rw'⟩ := rvl1 rd
    unfold Rv at rw'
    subst rw'
    exact call_int1 pins s σ H _ us Q I r (.inr ⟨k, rfl, out_val o S (by simp [Rv])⟩)
  next x =>
    cases hv
    obtain ⟨w, rfl, rw'⟩ := rvl1 rd
    obtain ⟨u, rfl, rx⟩ := vals1 r
    exact repr_ok hK hu hg I S rw' rx o
  next b x =>
    cases hv
    obtain ⟨w, rfl, rw'⟩ := rvl1 rd
    split at o
    next xs e =>
      obtain ⟨a, ys, rfl, h2, h3⟩ := sq_ok (K := L.K) S rw' e
      rw [hK] at h2
      obtain ⟨Q', w, f⟩ := mk_fin (X := X) (pins := pins) (σ := σ) S h3 o (P := fun Q' => wpAny (model X.prog X.w) X.A (call (.type "list") us) (EP X pins σ Q') X.xe s) fun Q' hQ =>
        call_list_of pins s σ H _ us Q' I r ⟨a, ys, rfl, h2, hQ⟩
      exact thn w f
    next => exact o.elim
  next x =>
    cases hv
    obtain ⟨w, rfl, rw'⟩ := rvl1 rd
    split at o
    next xs e =>
      by_cases ht : ∃ ys, x = .tup ys
      · obtain ⟨ys, rfl⟩ := ht
        cases e
        have rw0 := rw'
        unfold Rv at rw'
        obtain ⟨a, vs, rfl, h1, h2⟩ := rw'
        exact call_tuple_of pins s σ H _ us Q I r ⟨a, vs, rfl, .inr ⟨.of h1, out_val o S rw0⟩⟩
      · obtain ⟨a, ys, rfl, h2, h3⟩ := sq_lst S rw' e fun ys z => ht ⟨ys, z⟩
        rw [hK] at h2
        exact call_tuple_of pins s σ H _ us Q I r ⟨a, ys, rfl, .inl ⟨h2, fun l hl => out_tup S h3 o hl⟩⟩
    next => exact o.elim
  next => cases hv
  next x =>
    cases hv
    obtain ⟨w, rfl, rw'⟩ := rvl1 rd
    split at o
    next bs e =>
      cases q : lq m x with
      | none => rw [q] at e; cases e
      | some xs =>
        rw [q] at e
        obtain ⟨a, ys, rfl, h2, h3⟩ := lq_ok S rw' q
        rw [hK] at h2
        rw [bls_of (show blsOf xs = some bs from e) h3] at h2
        exact cr_all hc pins s σ H _ us Q I r ⟨a, bs, rfl, h2, out_val o S (by simp [Rv])⟩
    next => exact o.elim
  next x =>
    cases hv
    obtain ⟨w, rfl, rw'⟩ := rvl1 rd
    split at o
    next bs e =>
      cases q : lq m x with
      | none => rw [q] at e; cases e
      | some xs =>
        rw [q] at e
        obtain ⟨a, ys, rfl, h2, h3⟩ := lq_ok S rw' q
        rw [hK] at h2
        rw [bls_of (show blsOf xs = some bs from e) h3] at h2
        exact cr_any hc pins s σ H _ us Q I r ⟨a, bs, rfl, h2, out_val o S (by simp [Rv])⟩
    next => exact o.elim
  next x =>
    cases hv
    obtain ⟨w, rfl, rw'⟩ := rvl1 rd
    split at o
    next bs e =>
      cases q : lq m x with
      | none => rw [q] at e; cases e
      | some xs =>
        rw [q] at e
        obtain ⟨a, ys, rfl, h2, h3⟩ := lq_ok S rw' q
        rw [hK] at h2
        rw [ints_of (show intsOf xs = some bs from e) h3] at h2
        exact cr_sum hc pins s σ H _ us Q I r ⟨a, bs, rfl, h2, out_val o S (by simp [Rv])⟩
    next => exact o.elim
  next i =>
    cases hv
    obtain ⟨h, o⟩ := o.ifs
    obtain ⟨w, rfl, rw'⟩ := rvl1 rd
    unfold Rv at rw'
    subst rw'
    exact call_str_int pins s σ H _ us Q I r ⟨i, rfl, by simpa using h, out_val o S (by simp [Rv])⟩
  next x =>
    cases hv
    obtain ⟨w, rfl, rw'⟩ := rvl1 rd
    split at o
    next n ns e =>
      cases q : lq m x with
      | none => rw [q] at e; cases e
      | some xs =>
        rw [q] at e
        obtain ⟨a, ys, rfl, h2, h3⟩ := lq_ok S rw' q
        rw [hK] at h2
        rw [ints_of (show intsOf xs = some (n :: ns) from e) h3] at h2
        refine cr_max hc pins s σ H _ us Q I r ⟨a, n :: ns, rfl, h2, by simp, fun k hk hy => ?_⟩
        rw [max_one hk hy]
        exact out_val o S (by simp [Rv])
    next => exact o.elim
  next x =>
    cases hv
    obtain ⟨w, rfl, rw'⟩ := rvl1 rd
    split at o
    next n ns e =>
      cases q : lq m x with
      | none => rw [q] at e; cases e
      | some xs =>
        rw [q] at e
        obtain ⟨a, ys, rfl, h2, h3⟩ := lq_ok S rw' q
        rw [hK] at h2
        rw [ints_of (show intsOf xs = some (n :: ns) from e) h3] at h2
        refine cr_min hc pins s σ H _ us Q I r ⟨a, n :: ns, rfl, h2, by simp, fun k hk hy => ?_⟩
        rw [min_one hk hy]
        exact out_val o S (by simp [Rv])
    next => exact o.elim
  next => exact o.elim

/-! ### methods -/
def mtE : Mt → String × String × String
  | .append => ("list", "append", "list.append") | .extend => ("list", "extend", "list.extend") | .pop => ("list", "pop", "list.pop") | .clear => ("list", "clear", "list.clear")
  | .get1 => ("dict", "get", "dict.get") | .get2 => ("dict", "get", "dict.get")
def rM (L : Lnk) (f : D → List D → Hd → R D) : V → List V → Hp → VK → Prop := fun x vs H Q => ∃ ρ m d ds, Sim L H ρ m ∧ Rv L.K H ρ d x ∧ RvL L.K H ρ ds vs ∧ Out L H ρ Q (f d ds m)
theorem rvl0 {K : PySem.W.Frag} {vs : List V} (r : RvL K H ρ [] vs) : vs = [] := by unfold RvL at r; exact r
end
end Dx
/-! DxF: expressions -/
namespace Dx
open PySem PySem.Spec PyProof.Rows L2
section
variable {L : Lnk} {X : Cx}
abbrev ME := SD → Hd → R D
def tE (L : Lnk) (f : ME) : TE := fun σ H Q => ∃ ρ m s, Sim L H ρ m ∧ EnvR L H ρ s σ ∧ Out L H ρ Q (f s m)
def tT (L : Lnk) (f : SD → Hd → R Bool) : TT := fun σ H Q => ∃ ρ m s, Sim L H ρ m ∧ EnvR L H ρ s σ ∧ OutG L H ρ (fun b _ H' _ => Q b H') (f s m)
def tA (L : Lnk) (f : SD → Hd → R (List D)) : TA := fun σ H Q => ∃ ρ m s, Sim L H ρ m ∧ EnvR L H ρ s σ ∧ OutG L H ρ (fun ds _ H' ρ' => ∀ vs, RvL L.K H' ρ' ds vs → Q vs H') (f s m)
theorem PE.weak {e : Expr} {t t' : TE} (h : PE X e t) (w : ∀ σ H Q, t' σ H Q → t σ H Q) : PE X e t' := ⟨fun pins s σ H Q I q => h.run pins s σ H Q I (w σ H Q q)⟩
theorem PT.weak {e : Expr} {t t' : TT} (h : PT X e t) (w : ∀ σ H Q, t' σ H Q → t σ H Q) : PT X e t' := ⟨fun pins s σ H Q I q => h.run pins s σ H Q I (w σ H Q q)⟩
theorem PA.weak {e : List Expr} {t t' : TA} (h : PA X e t) (w : ∀ σ H Q, t' σ H Q → t σ H Q) : PA X e t' := ⟨fun pos pins s σ H Q I q => h.run pos pins s σ H Q I (w σ H Q q)⟩
/-- one part, then the rest -/
theorem tE_then {α : Type} {f : ME} {σ : VS} {H : Hp} {k : SD → D → Hd → R α} {ρ : List Addr} {m : Hd} {s : SD} {P : α → Hd → Hp → List Addr → Prop} (S : Sim L H ρ m) (E : EnvR L H ρ s σ) (o : OutG L H ρ P ((f s m).bind (k s))) {Q : VK}
    (h : ∀ v H1 ρ1 d m1, Ext H ρ H1 ρ1 → Sim L H1 ρ1 m1 → EnvR L H1 ρ1 s σ → Rv L.K H1 ρ1 d v → OutG L H1 ρ1 P (k s d m1) → Q v H1) : tE L f σ H Q :=
  ⟨ρ, m, s, S, E, o.bind.imp fun d m1 H1 ρ1 x S1 o1 v r => h v H1 ρ1 d m1 x S1 (E.ext x) r o1⟩
theorem tT_then {α : Type} {f : SD → Hd → R Bool} {σ : VS} {H : Hp} {k : SD → Bool → Hd → R α} {ρ : List Addr} {m : Hd} {s : SD} {P : α → Hd → Hp → List Addr → Prop} (S : Sim L H ρ m) (E : EnvR L H ρ s σ) (o : OutG L H ρ P ((f s m).bind (k s))) {Q : Bool → Hp → Prop}
    (h : ∀ b H1 ρ1 m1, Ext H ρ H1 ρ1 → Sim L H1 ρ1 m1 → EnvR L H1 ρ1 s σ → OutG L H1 ρ1 P (k s b m1) → Q b H1) : tT L f σ H Q :=
  ⟨ρ, m, s, S, E, o.bind.imp fun b m1 H1 ρ1 x S1 o1 => h b H1 ρ1 m1 x S1 (E.ext x) o1⟩
theorem tA_then {α : Type} {f : SD → Hd → R (List D)} {σ : VS} {H : Hp} {k : SD → List D → Hd → R α} {ρ : List Addr} {m : Hd} {s : SD} {P : α → Hd → Hp → List Addr → Prop} (S : Sim L H ρ m) (E : EnvR L H ρ s σ) (o : OutG L H ρ P ((f s m).bind (k s))) {Q : List V → Hp → Prop}
    (h : ∀ vs H1 ρ1 ds m1, Ext H ρ H1 ρ1 → Sim L H1 ρ1 m1 → EnvR L H1 ρ1 s σ → RvL L.K H1 ρ1 ds vs → OutG L H1 ρ1 P (k s ds m1) → Q vs H1) : tA L f σ H Q :=
  ⟨ρ, m, s, S, E, o.bind.imp fun d m1 H1 ρ1 x S1 o1 v r => h v H1 ρ1 d m1 x S1 (E.ext x) r o1⟩

/-! ### names, constants -/
theorem de_var {i : Nat} {x : Str} {pos : Pos} (hN : X.N[i]? = some x) (hv : Vis X.env.scope x) (hd : (x == ("__debug__" : Str)) = false) (hcd : (x == ("__classdict__" : Str)) = false) :
    PE X (.Name x pos) (tE L fun s m => varD s i m) := by
  refine PE.weak (pe_var hN hv hd hcd) fun σ H Q ⟨ρ, m, s, S, E, o⟩ => ?_
  unfold varD at o
  dsimp only at o
  split at o
  next d e =>
    obtain ⟨v, e2, r⟩ := E.2 i d e
    exact ⟨v, e2, out_val o S r⟩
  next => exact o.elim
/-- a constant without a place -/
def constD : Const → Option D
  | .int i => some (.int i)
  | .bool b => some (.bl b)
  | .none => some .non
  | .str x => some (.str x)
  | _ => none
theorem de_con {c : Const} {k : Nat} {pos : Pos} {d : D} (h : constD c = some d) : PE X (.Constant c k pos) (tE L fun _ m => .ok d m) := by
  cases c with
  | int i => cases h; exact PE.weak pe_int fun σ H Q ⟨ρ, m, s, S, E, o⟩ => out_val o S (by simp [Rv])
  | bool i => cases h; exact PE.weak pe_bl fun σ H Q ⟨ρ, m, s, S, E, o⟩ => out_val o S (by simp [Rv])
  | none => cases h; exact PE.weak pe_non fun σ H Q ⟨ρ, m, s, S, E, o⟩ => out_val o S (by simp [Rv])
  | str i => cases h; exact PE.weak pe_str fun σ H Q ⟨ρ, m, s, S, E, o⟩ => out_val o S (by simp [Rv])
  | _ => cases h
/-- scalars, as the library's values -/
def scalV : D → Option V
  | .non => some .non | .bl b => some (.bl b) | .int i => some (.int i) | .str x => some (.str x)
  | _ => none
theorem scal_rv {K : PySem.W.Frag} {H : Hp} {ρ : List Addr} {d : D} {v : V} (h : scalV d = some v) : Rv K H ρ d v := by
  cases d <;> cases h <;> simp [Rv]
theorem de_glob {x : Str} {pos : Pos} {d : D} {v : V} {u : Value} (hs : scalV d = some v) (hg : Gl X x) (hm : X.mg x = some u) (r : RelV v u) (hd : (x == ("__debug__" : Str)) = false) : PE X (.Name x pos) (tE L fun _ m => .ok d m) :=
  PE.weak (pe_glob hg hm r hd) fun σ H Q ⟨ρ, m, s, S, E, o⟩ => out_val o S (scal_rv hs)

/-! ### operators -/
theorem tE_op {f g : ME} {k : D → D → Hd → R D} {σ : VS} {H : Hp} {Q : VK} (h : tE L (fun s m => (f s m).bind fun d m1 => (g s m1).bind fun e m2 => k d e m2) σ H Q) : tOp (rB L k) (tE L f) (tE L g) σ H Q := by
  obtain ⟨ρ, m, s, S, E, o⟩ := h
  refine tE_then (k := fun s d m1 => (g s m1).bind fun e m2 => k d e m2) S E o fun x H1 ρ1 d m1 x1 S1 E1 rx o1 => ?_
  refine tE_then (k := fun s e m2 => k d e m2) S1 E1 o1 fun y H2 ρ2 e m2 x2 S2 E2 ry o2 => ?_
  exact ⟨ρ2, m2, d, e, S2, rx.ext x2, ry, o2⟩
theorem de_bin {a c : Expr} {f g : ME} {pos : Pos} (b : Bool) (o : Bop) (ha : PE X a (tE L f)) (hc : PE X c (tE L g)) : PE X (.BinOp a (bopE o) c pos) (tE L fun s m => (f s m).bind fun d m1 => (g s m1).bind fun e m2 => bopD b o d e m2) :=
  PE.weak (pe_op (op_bopD b o) ha hc) fun _ _ _ h => tE_op h
theorem de_neg {a : Expr} {f : ME} {pos : Pos} (ha : PE X a (tE L f)) : PE X (.UnaryOp .USub a pos) (tE L fun s m => (f s m).bind negD) := by
  refine PE.weak (pe_un un_neg ha) fun σ H Q ⟨ρ, m, s, S, E, o⟩ => ?_
  refine tE_then (k := fun s => negD) S E o fun x H1 ρ1 d m1 x1 S1 E1 rx o1 => ?_
  unfold negD at o1
  split at o1
  next i =>
    unfold Rv at rx
    exact ⟨i, rx, out_val o1 S1 (by simp [Rv])⟩
  next => exact o1.elim
def notSet : Expr → Bool
  | .Set .. => false
  | _ => true
theorem OutG.congr {α β γ : Type} {H : Hp} {ρ : List Addr} {P : β → Hd → Hp → List Addr → Prop} {P' : γ → Hd → Hp → List Addr → Prop} {r : R α} {k : α → Hd → R β} {k' : α → Hd → R γ} (o : OutG L H ρ P (r.bind k)) (h : ∀ a m, OutG L H ρ P (k a m) → OutG L H ρ P' (k' a m)) : OutG L H ρ P' (r.bind k') := by
  cases r with
  | ok a m => exact h a m o
  | exc c fs m => exact o.elim
  | no => exact o.elim
theorem out_bool {H : Hp} {ρ : List Addr} {m : Hd} {q : Option Bool} {Q : Bool → Hp → Prop} (o : OutG L H ρ (fun b _ H' _ => Q b H') (optB q m)) : Out L H ρ (fun v H' => ∃ k, v = .bl k ∧ Q k H') (optB (q.map .bl) m) := by
  cases q with
  | none => exact o.elim
  | some k => exact fun H' ρ' x S' v r => ⟨k, by simpa [Rv] using r, o H' ρ' x S'⟩
theorem nomarkB (b : Expr) {op : CmpOp} (h : notSet b = true) : behindInMarks op b = false := by
  cases b <;> first | rfl | cases h
theorem de_cmp {a c : Expr} {f g : ME} {pos : Pos} (hK : L.K = X.K) (hu : X.A.units + 100 < cLine) (o : Cop) (ha : PE X a (tE L f)) (hc : PE X c (tE L g)) (hm : notSet c = true) :
    PE X (.Compare a [copE o] [c] pos) (tE L fun s m => (f s m).bind fun d m1 => (g s m1).bind fun e m2 => optB ((cmpD m2 o d e).map .bl) m2) :=
  PE.weak (pe_cmpR (op_cmpD hK hu o) ha hc (nomarkB c hm)) fun _ _ _ h => tE_op h
theorem dt_cmp {a c : Expr} {f g : ME} {pos : Pos} (hK : L.K = X.K) (hu : X.A.units + 100 < cLine) (o : Cop) (ha : PE X a (tE L f)) (hc : PE X c (tE L g)) (hm : notSet c = true) :
    PT X (.Compare a [copE o] [c] pos) (tT L fun s m => (f s m).bind fun d m1 => (g s m1).bind fun e m2 => optB (cmpD m2 o d e) m2) := by
  refine PT.weak (pt_cmpR (op_cmpD hK hu o) ha hc (nomarkB c hm)) fun σ H Q ⟨ρ, m, s, S, E, w⟩ => ?_
  show tOp (rB L (cmpF o)) (tE L f) (tE L g) σ H _
  exact tE_op ⟨ρ, m, s, S, E, OutG.congr w fun d m1 w => OutG.congr w fun e m2 w => out_bool w⟩
theorem lastMarksB {op op' : CmpOp} {b c : Expr} (h : notSet c = true) : lastMarks [op, op'] [b, c] = false := nomarkB c h
theorem de_chain {a b c : Expr} {f g k : ME} {pos : Pos} (hK : L.K = X.K) (hu : X.A.units + 100 < cLine) (o o' : Cop) (ha : PE X a (tE L f)) (hb : PE X b (tE L g)) (hc : PE X c (tE L k)) (hm : notSet c = true) :
    PE X (.Compare a [copE o, copE o'] [b, c] pos) (tE L fun s m => (f s m).bind fun d m1 => (g s m1).bind fun e m2 => (optB (cmpD m2 o d e) m2).bind fun q m3 =>
      if q then (k s m3).bind fun z m4 => optB ((cmpD m4 o' e z).map .bl) m4 else .ok (.bl false) m3) := by
  refine PE.weak (pe_chain (op_cmpD hK hu o) (op_cmpD hK hu o') ha hb hc (lastMarksB hm)) fun σ H Q ⟨ρ, m, s, S, E, w⟩ => ?_
  refine tE_then (k := fun s d m1 => (g s m1).bind fun e m2 => (optB (cmpD m2 o d e) m2).bind fun q m3 => if q then (k s m3).bind fun z m4 => optB ((cmpD m4 o' e z).map D.bl) m4 else R.ok (D.bl false) m3) S E w fun x H1 ρ1 d m1 x1 S1 E1 rx o1 => ?_
  refine tE_then (k := fun s e m2 => (optB (cmpD m2 o d e) m2).bind fun q m3 => if q then (k s m3).bind fun z m4 => optB ((cmpD m4 o' e z).map D.bl) m4 else R.ok (D.bl false) m3) S1 E1 o1 fun y H2 ρ2 e m2 x2 S2 E2 ry o2 => ?_
  cases hq : cmpD m2 o d e with
  | none => rw [hq] at o2; exact o2.elim
  | some q =>
    rw [hq] at o2
    simp only [optB_some, R.bind_ok] at o2
    refine ⟨ρ2, m2, d, e, S2, rx.ext x2, ry, ?_⟩
    show Out L H2 ρ2 _ (optB ((cmpD m2 o d e).map .bl) m2)
    rw [hq]
    intro H3 ρ3 x3 S3 v r
    unfold Rv at r
    refine ⟨q, r, ?_⟩
    cases q with
    | false => exact o2 H3 ρ3 x3 S3 _ (by simp [Rv])
    | true =>
      simp only [if_true] at o2 ⊢
      refine tE_then (k := fun s z m4 => optB ((cmpD m4 o' e z).map D.bl) m4) S3 (E2.ext x3) (o2.base x3) fun z H4 ρ4 f4 m4 x4 S4 E4 rz o4 => ?_
      exact ⟨ρ4, m4, e, f4, S4, (ry.ext x3).ext x4, rz, o4⟩
theorem dt_chain {a b c : Expr} {f g k : ME} {pos : Pos} (hK : L.K = X.K) (hu : X.A.units + 100 < cLine) (o o' : Cop) (ha : PE X a (tE L f)) (hb : PE X b (tE L g)) (hc : PE X c (tE L k)) (hm : notSet c = true) :
    PT X (.Compare a [copE o, copE o'] [b, c] pos) (tT L fun s m => (f s m).bind fun d m1 => (g s m1).bind fun e m2 => (optB (cmpD m2 o d e) m2).bind fun q m3 =>
      if q then (k s m3).bind fun z m4 => optB (cmpD m4 o' e z) m4 else .ok false m3) := by
  refine PT.weak (pt_chain (op_cmpD hK hu o) (op_cmpD hK hu o') ha hb hc (lastMarksB hm)) fun σ H Q ⟨ρ, m, s, S, E, w⟩ => ?_
  show tChain (rB L (cmpF o)) (rB L (cmpF o')) (tE L f) (tE L g) (tE L k) σ H _
  refine tE_then (k := fun s d m1 => (g s m1).bind fun e m2 => (optB (cmpD m2 o d e) m2).bind fun q m3 => if q then (k s m3).bind fun z m4 => optB (cmpD m4 o' e z) m4 else .ok false m3) S E w fun x H1 ρ1 d m1 x1 S1 E1 rx o1 => ?_
  refine tE_then (k := fun s e m2 => (optB (cmpD m2 o d e) m2).bind fun q m3 => if q then (k s m3).bind fun z m4 => optB (cmpD m4 o' e z) m4 else .ok false m3) S1 E1 o1 fun y H2 ρ2 e m2 x2 S2 E2 ry o2 => ?_
  cases hq : cmpD m2 o d e with
  | none => rw [hq] at o2; exact o2.elim
  | some q =>
    rw [hq] at o2
    simp only [optB_some, R.bind_ok] at o2
    refine ⟨ρ2, m2, d, e, S2, rx.ext x2, ry, ?_⟩
    show Out L H2 ρ2 _ (optB ((cmpD m2 o d e).map .bl) m2)
    rw [hq]
    intro H3 ρ3 x3 S3 v r
    unfold Rv at r
    refine ⟨q, r, ?_⟩
    cases q with
    | false => exact ⟨false, rfl, o2 H3 ρ3 x3 S3⟩
    | true =>
      simp only [if_true] at o2 ⊢
      refine tE_then (k := fun s z m4 => optB (cmpD m4 o' e z) m4) S3 (E2.ext x3) (o2.base x3) fun z H4 ρ4 f4 m4 x4 S4 E4 rz o4 => ?_
      exact ⟨ρ4, m4, e, f4, S4, (ry.ext x3).ext x4, rz, out_bool o4⟩

/-! ### and, or, not, if -/
theorem de_and {a b : Expr} {rest : List Expr} {f g : ME} {pos : Pos} (ha : PE X a (tE L f)) (hb : PE X (.BoolOp .And (b :: rest) pos) (tE L g)) : PE X (.BoolOp .And (a :: b :: rest) pos) (tE L fun s m => (f s m).bind fun d m1 => andD d m1 (g s)) := by
  refine PE.weak (pe_and ha hb) fun σ H Q ⟨ρ, m, s, S, E, o⟩ => ?_
  refine tE_then (k := fun s d m1 => andD d m1 (g s)) S E o fun x H1 ρ1 d m1 x1 S1 E1 rx o1 => ?_
  unfold andD at o1
  split at o1
  next =>
    unfold Rv at rx
    exact ⟨true, rx, by rw [if_pos rfl]; exact ⟨ρ1, m1, s, S1, E1, o1⟩⟩
  next =>
    unfold Rv at rx
    exact ⟨false, rx, by rw [if_neg (by decide)]; exact out_val o1 S1 (by simp [Rv])⟩
  next => exact o1.elim
theorem de_or {a b : Expr} {rest : List Expr} {f g : ME} {pos : Pos} (ha : PE X a (tE L f)) (hb : PE X (.BoolOp .Or (b :: rest) pos) (tE L g)) : PE X (.BoolOp .Or (a :: b :: rest) pos) (tE L fun s m => (f s m).bind fun d m1 => orD d m1 (g s)) := by
  refine PE.weak (pe_or ha hb) fun σ H Q ⟨ρ, m, s, S, E, o⟩ => ?_
  refine tE_then (k := fun s d m1 => orD d m1 (g s)) S E o fun x H1 ρ1 d m1 x1 S1 E1 rx o1 => ?_
  unfold orD at o1
  split at o1
  next =>
    unfold Rv at rx
    exact ⟨false, rx, by rw [if_neg (by decide)]; exact ⟨ρ1, m1, s, S1, E1, o1⟩⟩
  next =>
    unfold Rv at rx
    exact ⟨true, rx, by rw [if_pos rfl]; exact out_val o1 S1 (by simp [Rv])⟩
  next => exact o1.elim
theorem de_not {a : Expr} {f : ME} {pos : Pos} (ha : PE X a (tE L f)) : PE X (.UnaryOp .Not a pos) (tE L fun s m => (f s m).bind notD) := by
  refine PE.weak (pe_not ha) fun σ H Q ⟨ρ, m, s, S, E, o⟩ => ?_
  refine tE_then (k := fun s => notD) S E o fun x H1 ρ1 d m1 x1 S1 E1 rx o1 => ?_
  unfold notD at o1
  split at o1
  next b =>
    unfold Rv at rx
    exact ⟨b, rx, out_val o1 S1 (by simp [Rv])⟩
  next => exact o1.elim
theorem de_cond {c a b : Expr} {t : SD → Hd → R Bool} {f g : ME} {pos : Pos} (hc : PT X c (tT L t)) (ha : PE X a (tE L f)) (hb : PE X b (tE L g)) : PE X (.IfExp c a b pos) (tE L fun s m => (t s m).bind fun k m1 => if k then f s m1 else g s m1) := by
  refine PE.weak (pe_ifExp hc ha hb) fun σ H Q ⟨ρ, m, s, S, E, o⟩ => ?_
  refine tT_then (k := fun s k m1 => if k then f s m1 else g s m1) S E o fun k H1 ρ1 m1 x1 S1 E1 o1 => ?_
  cases k with
  | true => exact ⟨ρ1, m1, s, S1, E1, o1⟩
  | false => exact ⟨ρ1, m1, s, S1, E1, o1⟩
theorem dt_and {a b : Expr} {rest : List Expr} {f g : SD → Hd → R Bool} {pos : Pos} (ha : PT X a (tT L f)) (hb : PW X (.BoolOp .And (b :: rest) pos) (tT L g)) : PW X (.BoolOp .And (a :: b :: rest) pos) (tT L fun s m => (f s m).bind fun k m1 => if k then g s m1 else .ok false m1) := by
  refine ⟨fun wh pins s σ H Q I h => (pw_and ha hb).run wh pins s σ H Q I ?_⟩
  obtain ⟨ρ, m, s, S, E, o⟩ := h
  refine tT_then (k := fun s k m1 => if k then g s m1 else .ok false m1) S E o fun k H1 ρ1 m1 x1 S1 E1 o1 => ?_
  cases k with
  | true => exact ⟨ρ1, m1, s, S1, E1, o1⟩
  | false => exact o1.here S1
theorem dt_or {a b : Expr} {rest : List Expr} {f g : SD → Hd → R Bool} {pos : Pos} (ha : PT X a (tT L f)) (hb : PW X (.BoolOp .Or (b :: rest) pos) (tT L g)) : PW X (.BoolOp .Or (a :: b :: rest) pos) (tT L fun s m => (f s m).bind fun k m1 => if k then .ok true m1 else g s m1) := by
  refine ⟨fun wh pins s σ H Q I h => (pw_or ha hb).run wh pins s σ H Q I ?_⟩
  obtain ⟨ρ, m, s, S, E, o⟩ := h
  refine tT_then (k := fun s k m1 => if k then .ok true m1 else g s m1) S E o fun k H1 ρ1 m1 x1 S1 E1 o1 => ?_
  cases k with
  | true => exact o1.here S1
  | false => exact ⟨ρ1, m1, s, S1, E1, o1⟩
theorem dt_not {a : Expr} {f : SD → Hd → R Bool} {pos : Pos} (ha : PT X a (tT L f)) : PT X (.UnaryOp .Not a pos) (tT L fun s m => (f s m).bind fun k m1 => .ok (!k) m1) := by
  refine PT.weak (pt_not ha) fun σ H Q ⟨ρ, m, s, S, E, o⟩ => ?_
  exact tT_then (k := fun s k m1 => .ok (!k) m1) S E o fun k H1 ρ1 m1 x1 S1 E1 o1 => o1.here S1
/-- an expression whose test is its value's truth -/
def plainTest : Expr → Bool
  | .UnaryOp .Not .. => false
  | .BoolOp .. => false
  | .IfExp .. => false
  | .Compare .. => false
  | _ => true
theorem dt_val {a : Expr} {f : ME} (hK : L.K = X.K) (h : plainTest a = true) (ha : PE X a (tE L f)) : PT X a (tT L fun s m => (f s m).bind fun d m1 => optB (truD m1 d) m1) := by
  have he : ∀ whole, isTrue a X.env whole = (do let v ← whole; standAt a.pos; holding [v] (truthy v)) := by
    intro whole
    cases a
    case UnaryOp op x p => cases op <;> first | rfl | cases h
    all_goals first | rfl | cases h
  refine PT.weak (pt_truth ha he) fun σ H Q ⟨ρ, m, s, S, E, o⟩ => ?_
  refine tE_then (k := fun s d m1 => optB (truD m1 d) m1) S E o fun x H1 ρ1 d m1 x1 S1 E1 rx o1 => ?_
  obtain ⟨k, hk, o2⟩ := o1.optB
  exact ⟨k, tru_okD hK S1 rx hk, o2.here S1⟩

/-! ### argument lists, displays -/
def nostar : Expr → Bool
  | .Starred .. => false
  | _ => true
theorem star_cons {e : Expr} {es : List Expr} {env : Env} (h : nostar e = true) : starEach (e :: es) env = (false, eval e env) :: starEach es env := by
  cases e <;> first | rfl | cases h
theorem star_plain {env : Env} {pos : Pos} : ∀ {es : List Expr}, es.all nostar = true → (backTo pos (starEach es env)).any (·.1) = false
  | [], _ => rfl
  | e :: es, h => by
    simp only [List.all_cons, Bool.and_eq_true] at h
    rw [star_cons h.1]
    show (false || (backTo pos (starEach es env)).any (·.1)) = false
    rw [star_plain h.2]
    rfl
theorem da_nil : PA X [] (tA L fun _ m => .ok [] m) := PA.weak pa_nil fun σ H Q ⟨ρ, m, s, S, E, o⟩ => o.here S [] rvl_nil
theorem da_cons {e : Expr} {es : List Expr} {f : ME} {g : SD → Hd → R (List D)} (hn : nostar e = true) (he : PE X e (tE L f)) (hes : PA X es (tA L g)) : PA X (e :: es) (tA L fun s m => (f s m).bind fun d m1 => (g s m1).bind fun ds m2 => .ok (d :: ds) m2) := by
  refine PA.weak (pa_cons he hes (star_cons hn)) fun σ H Q ⟨ρ, m, s, S, E, o⟩ => ?_
  refine tE_then (k := fun s d m1 => (g s m1).bind fun ds m2 => .ok (d :: ds) m2) S E o fun x H1 ρ1 d m1 x1 S1 E1 rx o1 => ?_
  refine tA_then (k := fun s ds m2 => .ok (d :: ds) m2) S1 E1 o1 fun vs H2 ρ2 ds m2 x2 S2 E2 rs o2 => ?_
  exact o2.here S2 _ (rvl_cons (rx.ext x2) rs)
theorem de_tup {es : List Expr} {k : Nat} {pos : Pos} {g : SD → Hd → R (List D)} (h : PA X es (tA L g)) : PE X (.Tuple es k pos) (tE L fun s m => (g s m).bind fun ds m1 => ifs (decide (ds.length ≤ sizeLine)) (.ok (.tup ds) m1)) := by
  refine PE.weak (pe_tup h) fun σ H Q ⟨ρ, m, s, S, E, o⟩ => ?_
  refine tA_then (k := fun s ds m1 => ifs (decide (ds.length ≤ sizeLine)) (R.ok (D.tup ds) m1)) S E o fun vs H1 ρ1 ds m1 x1 S1 E1 rs o1 => ?_
  obtain ⟨h, o2⟩ := o1.ifs
  have hl := rs.len
  exact ⟨by rw [← hl]; simpa using h, fun p hp => out_tup S1 rs o2 hp⟩
/-- a new thing that may be told to stay -/
def tFz (b : Bool) (t : TE) : TE := fun σ H Q => t σ H (if b = true then Q else QLk Q)
theorem PE.fz {e : Expr} {t : TE} (b : Bool) (h : PE X e t) : PE X e (tFz b t) := by
  refine ⟨fun pins s σ H Q I q => ?_⟩
  cases b with
  | true => exact h.run pins s σ H Q I q
  | false => exact thn (h.run pins s σ H (QLk Q) I q) fun _ _ z => ep_lock z
theorem mk_ok' {b : Bool} {xs : List D} {vs : List V} {H : Hp} {ρ : List Addr} {m : Hd} {Q : VK} (S : Sim L H ρ m) (r : RvL L.K H ρ xs vs) (o : Out L H ρ Q (mkL b xs m)) {p : Addr} (hp : H p = none) : (if b = true then Q else QLk Q) (.ref p) (upd H p (.lst vs)) := by
  have := mk_ok S r o hp
  cases b with
  | true => simpa using this
  | false => simpa using this
theorem de_lst {es : List Expr} {pos : Pos} {g : SD → Hd → R (List D)} (b : Bool) (h : PA X es (tA L g)) : PE X (.List es pos) (tE L fun s m => (g s m).bind fun ds m1 => ifs (decide (ds.length ≤ sizeLine)) (mkL b ds m1)) := by
  refine PE.weak (PE.fz b (pe_lst h)) fun σ H Q ⟨ρ, m, s, S, E, o⟩ => ?_
  refine tA_then (k := fun s ds m1 => ifs (decide (ds.length ≤ sizeLine)) (mkL b ds m1)) S E o fun vs H1 ρ1 ds m1 x1 S1 E1 rs o1 => ?_
  obtain ⟨h, o2⟩ := o1.ifs
  have hl := rs.len
  exact ⟨by rw [← hl]; simpa using h, fun p hp => mk_ok' S1 rs o2 hp⟩
theorem de_dnew {pos : Pos} (t : Bool) : PE X (.Dict [] [] pos) (tE L fun _ m => .ok (.ref m.length) (m ++ [.dct t []])) := by
  cases t with
  | false =>
    refine PE.weak pe_dnewK fun σ H Q ⟨ρ, m, s, S, E, o⟩ => fun p hp => ?_
    have x : Ext H ρ (upd H p (.dK [])) (ρ ++ [p]) := Ext.newO hp
    exact o _ _ x (S.new hp (.inl ⟨rfl, [], upd_same, by simp [RvK]⟩)) _ (by unfold Rv; exact ⟨p, by rw [← S.len]; simp, rfl⟩)
  | true =>
    refine PE.weak pe_dnewT fun σ H Q ⟨ρ, m, s, S, E, o⟩ => fun p hp => ?_
    have x : Ext H ρ (upd H p (.dT [])) (ρ ++ [p]) := Ext.newO hp
    exact o _ _ x (S.new hp (.inr ⟨rfl, [], upd_same, by simp [RvT]⟩)) _ (by unfold Rv; exact ⟨p, by rw [← S.len]; simp, rfl⟩)

/-! ### subscripts, slices -/
def plainIx : Expr → Bool
  | .Slice _ _ none _ => false
  | _ => true
theorem plainIx_ok {b : Expr} (h : plainIx b = true) : PlainIx b := fun o i => by
  cases b
  case Slice lo hi st p => cases st <;> first | rfl | cases h
  all_goals rfl
theorem de_ix {a c : Expr} {f g : ME} {pos : Pos} (hK : L.K = X.K) (hu : X.A.units + 100 < cLine) (hp : plainIx c = true) (ha : PE X a (tE L f)) (hc : PE X c (tE L g)) : PE X (.Subscript a c pos) (tE L fun s m => (f s m).bind fun d m1 => (g s m1).bind fun e m2 => optB (getD m2 d e) m2) :=
  PE.weak (pe_ix (ix_D hK hu) ha hc (plainIx_ok hp)) fun _ _ _ h => tE_op h
/-- a slice's part -/
def tO (L : Lnk) (f : SD → Hd → R (Option Int)) : TO := fun σ H Q => ∃ ρ m s, Sim L H ρ m ∧ EnvR L H ρ s σ ∧ OutG L H ρ (fun o _ H' _ => Q o H') (f s m)
theorem do_none : PO X none (tO L fun s m => ((R.ok .non m : R D)).bind fun l m2 => optB (part true l) m2) := ⟨fun pins s σ H Q I ⟨ρ, m, sd, S, E, o⟩ => po_none.run pins s σ H Q I (OutG.here (a := none) o S)⟩
theorem do_some {e : Expr} {f : ME} (h : PE X e (tE L f)) : PO X (some e) (tO L fun s m => (f s m).bind fun l m2 => optB (part false l) m2) := by
  refine ⟨fun pins s σ H Q I ⟨ρ, m, sd, S, E, o⟩ => (po_some h).run pins s σ H Q I ?_⟩
  refine tE_then (k := fun _ l m2 => optB (part false l) m2) S E o fun x H1 ρ1 d m1 x1 S1 E1 rx o1 => ?_
  obtain ⟨k, hk, o2⟩ := o1.optB
  cases d <;> simp only [part] at hk <;> cases hk
  unfold Rv at rx
  exact ⟨_, rx, o2.here S1⟩
theorem tO_then {α : Type} {f : SD → Hd → R (Option Int)} {σ : VS} {H : Hp} {k : SD → Option Int → Hd → R α} {ρ : List Addr} {m : Hd} {s : SD} {P : α → Hd → Hp → List Addr → Prop} (S : Sim L H ρ m) (E : EnvR L H ρ s σ) (o : OutG L H ρ P ((f s m).bind (k s))) {Q : Option Int → Hp → Prop}
    (h : ∀ b H1 ρ1 m1, Ext H ρ H1 ρ1 → Sim L H1 ρ1 m1 → EnvR L H1 ρ1 s σ → OutG L H1 ρ1 P (k s b m1) → Q b H1) : tO L f σ H Q :=
  ⟨ρ, m, s, S, E, o.bind.imp fun b m1 H1 ρ1 x S1 o1 => h b H1 ρ1 m1 x S1 (E.ext x) o1⟩
theorem de_sl {a : Expr} {lo hi : Option Expr} {f : ME} {g k : SD → Hd → R (Option Int)} {p2 pos : Pos} (hK : L.K = X.K) (b : Bool) (ha : PE X a (tE L f)) (hl : PO X lo (tO L g)) (hh : PO X hi (tO L k)) :
    PE X (.Subscript a (.Slice lo hi none p2) pos) (tE L fun s m => (f s m).bind fun d m1 => (g s m1).bind fun lo m2 => (k s m2).bind fun hi m3 => slD b d lo hi m3) := by
  refine PE.weak (pe_slice (sl_D hK b) ha hl hh) fun σ H Q ⟨ρ, m, s, S, E, o⟩ => ?_
  refine tE_then (k := fun s d m1 => (g s m1).bind fun lo m2 => (k s m2).bind fun hi m3 => slD b d lo hi m3) S E o fun x H1 ρ1 d m1 x1 S1 E1 rx o1 => ?_
  refine tO_then (k := fun s lo m2 => (k s m2).bind fun hi m3 => slD b d lo hi m3) S1 E1 o1 fun l H2 ρ2 m2 x2 S2 E2 o2 => ?_
  refine tO_then (k := fun s hi m3 => slD b d l hi m3) S2 E2 o2 fun h H3 ρ3 m3 x3 S3 E3 o3 => ?_
  exact ⟨ρ3, m3, d, S3, (rx.ext x2).ext x3, o3⟩
theorem de_rev {a : Expr} {f : ME} {k : Nat} {p1 p2 p3 pos : Pos} (hK : L.K = X.K) (b : Bool) (ha : PE X a (tE L f)) : PE X (.Subscript a (.Slice none none (some (.UnaryOp .USub (.Constant (.int 1) k p1) p2)) p3) pos) (tE L fun s m => (f s m).bind (revD b)) := by
  refine PE.weak (PE.fz b (pe_revL ha)) fun σ H Q ⟨ρ, m, s, S, E, o⟩ => ?_
  refine tE_then (k := fun _ => revD b) S E o fun x H1 ρ1 d m1 x1 S1 E1 rx o1 => ?_
  unfold revD at o1
  split at o1
  next => exact o1.elim
  next xs n e =>
    obtain ⟨a, vs, rfl, h2, h3⟩ := sq_lst S1 rx e fun ys z => n ys z
    rw [hK] at h2
    exact ⟨a, vs, rfl, h2, fun p hp => mk_ok' S1 h3.rev o1 hp⟩
  next => exact o1.elim
end
end Dx
/-! DxG: calls, methods, comprehensions -/
namespace Dx
open PySem PySem.Spec PyProof.Rows L2
section
variable {L : Lnk} {X : Cx}

/-! ### built-in functions -/
theorem de_bi {x : Str} {p pos : Pos} {es : List Expr} {g : SD → Hd → R (List D)} {f : Bi} {v : Value} (hK : L.K = X.K) (hu : X.A.units + 100 < cLine) (hgd : X.A.guards = some []) (hc : X.calm = true)
    (hv : biE f = some v) (hg : Gl X x) (hm : X.mg x = none) (hb : bootBuiltins x = some v) (hn : x ≠ "__name__") (hdb : (x == ("__debug__" : Str)) = false) (hs : es.all nostar = true) (he : es ≠ [])
    (ha : PA X es (tA L g)) : PE X (.Call (.Name x p) es [] pos) (tE L fun s m => (g s m).bind (biD f)) := by
  cases es with
  | nil => exact absurd rfl he
  | cons e es =>
    simp only [List.all_cons, Bool.and_eq_true] at hs
    have hC := bi_ok (X := X) hK hu hgd hc f v hv
    have w : ∀ σ H Q, tE L (fun s m => (g s m).bind (biD f)) σ H Q → tCB (rC L (biD f)) (tA L g) σ H Q := fun σ H Q ⟨ρ, m, s, S, E, o⟩ =>
      tA_then (k := fun _ => biD f) S E o fun vs H1 ρ1 ds m1 x1 S1 E1 rs o1 => ⟨ρ1, m1, ds, S1, rs, o1⟩
    cases v with
    | builtin id => exact PE.weak (pe_callB hC hg hm hb ha hn hdb (star_cons hs.1) (star_plain hs.2)) w
    | type T => exact PE.weak (pe_callTy hC hg hm hb ha hn hdb (star_cons hs.1) (star_plain hs.2)) w
    | _ => cases f <;> simp [biE] at hv
/-- isinstance(x, T) -/
theorem de_isinst {y : Str} {e : Expr} {p p2 pos : Pos} {f : ME} {t : Ty} (hK : L.K = X.K) (hg : Gl X "isinstance") (hm : X.mg "isinstance" = none) (hg2 : Gl X y) (hm2 : X.mg y = none) (hb2 : bootBuiltins y = some (.type t.name))
    (hn : y ≠ "__name__") (hdb : (y == ("__debug__" : Str)) = false) (hs : nostar e = true) (he : PE X e (tE L f)) : PE X (.Call (.Name "isinstance" p) [e, .Name y p2] [] pos) (tE L fun s m => (f s m).bind fun d m1 => biD (.isinst t) [d] m1) := by
  have h2 : PE X (.Name y p2) (tC (.ty t.name)) := pe_bltn hg2 hm2 hb2 rfl hn hdb
  refine PE.weak (pe_callB (call_isinstD hK t) hg hm (by decide +kernel) (pa_cons he (pa_cons h2 pa_nil) (star_cons hs)) (by decide) (by decide) (star_cons hs) rfl) fun σ H Q ⟨ρ, m, s, S, E, o⟩ => ?_
  refine tE_then (k := fun _ d m1 => biD (.isinst t) [d] m1) S E o fun x H1 ρ1 d m1 x1 S1 E1 rx o1 => ?_
  exact ⟨ρ1, m1, d, x, rfl, S1, rx, o1⟩

/-! ### methods of built-in types -/
def TyM (K : PySem.W.Frag) (T : String) (x : V) (H : Hp) : Prop := tyV K T x H ∨ (T = "dict" ∧ ∃ a, x = .ref a ∧ IsD H a)
theorem tyM_is {pins : List (Addr × Obj)} {σ : VS} {H : Hp} {s : Shared} {T : String} {x : V} {v : Value} (I : Inv X pins σ H s) (r : RelV x v) (ty : TyM X.K T x H) :
    s.TypeIs v T ∧ ∀ a, v = .ref a → ∃ ob, s.heap.get? a = some ob ∧ ob.dict = none := by
  rcases ty with ty | ⟨rfl, a, rfl, d⟩
  · exact tyV_is I r ty
  · cases r
    exact ⟨(isD_at I d).1, (isD_at I d).2.1⟩
def tMt (K : PySem.W.Frag) (T : String) (r : V → List V → Hp → VK → Prop) (to : TE) (t : TA) : TE := fun σ H Q => to σ H fun x H1 => TyM K T x H1 ∧ t σ H1 fun xs H2 => r x xs H2 Q
def plainBase : Expr → Bool
  | .Call (.Name id _) [] [] _ => id != "super"
  | _ => true
theorem plainBase_ok {o : Expr} {attr : Str} {env : Env} {whole : Sem Value} (h : plainBase o = true) : attributeBase o attr env whole = whole := by
  unfold attributeBase
  split
  next id p pos =>
    have : (id != ("super" : Str)) = true := h
    simp [this]
  next => rfl
theorem few_ok {env : Env} {pos : Pos} : ∀ {es : List Expr}, es.all nostar = true → ((backTo pos (starEach es env)).all fun x => !x.1) = true
  | [], _ => rfl
  | e :: es, h => by
    simp only [List.all_cons, Bool.and_eq_true] at h
    rw [star_cons h.1]
    show (true && (backTo pos (starEach es env)).all fun x => !x.1) = true
    rw [few_ok h.2]
    rfl
section
variable {o : Expr} {e : Expr} {es : List Expr} {to : TE} {t : TA} {name : Str} {apos cpos : Pos} {T id : String} {r : V → List V → Hp → VK → Prop}
theorem pe_mt0 (pa : PlainAttrs T) (slot : Slot T name id) (hty : typeOf (.builtin id) = pure (.type "method_descriptor"))
    (hm : MtR X id r) (ho : PE X o to) (hbase : plainBase o = true) (hline : (apos.endLine == cpos.line) = true) :
    PE X (.Call (.Attribute o name apos) [] [] cpos) (fun σ H Q => to σ H fun x H1 => TyM X.K T x H1 ∧ r x [] H1 Q) := by
  refine ⟨fun pins s σ H Q I h => ?_⟩
  refine wpAny_Call_method0_late (plainBase_ok hbase) hline (thn (ho.run pins s σ H _ I h) fun v s1 ⟨x, H1, I1, r1, ty, q1⟩ => ?_)
  obtain ⟨h1, h2⟩ := tyM_is I1 r1 ty
  exact ⟨T, id, pa, slot, hty, h1, h2, Calls.callWith_builtin rfl (PySem.evalArgs_none (hm pins s1 σ H1 x [] v [] Q I1 r1 .nil q1))⟩
theorem pe_mt (pa : PlainAttrs T) (slot : Slot T name id) (hty : typeOf (.builtin id) = pure (.type "method_descriptor"))
    (hm : MtR X id r) (ho : PE X o to) (ha : PA X (e :: es) t) (hbase : plainBase o = true) (hs0 : (e :: es).all nostar = true) (hlen : (e :: es).length < 30) (hline : (apos.endLine == cpos.line) = true) :
    PE X (.Call (.Attribute o name apos) (e :: es) [] cpos) (tMt X.K T r to t) := by
  refine ⟨fun pins s σ H Q I h => ?_⟩
  have hs := hs0
  simp only [List.all_cons, Bool.and_eq_true] at hs
  refine wpAny_Call_method_late (plainBase_ok hbase) (by
    rw [few_ok hs0]
    show (true && decide ((e :: es).length + 0 + 0 < 30)) = true
    simpa using hlen) hline rfl (thn (ho.run pins s σ H _ I h) fun v s1 ⟨x, H1, I1, r1, ty, q1⟩ => ?_)
  obtain ⟨h1, h2⟩ := tyM_is I1 r1 ty
  refine ⟨T, id, pa, slot, hty, h1, h2, ?_⟩
  have hA := ha.run cpos pins s1 σ H1 _ I1 q1
  rw [star_cons hs.1] at hA ⊢
  refine Calls.callWith_builtin (by show (false || (backTo cpos (starEach es X.env)).any (·.1)) = false; rw [star_plain hs.2] <;> rfl) (Calls.evalArgs_plain ?_)
  exact thn hA fun us s2 ⟨vs, H2, I2, r2, q2⟩ => hm pins s2 σ H2 x vs v us Q I2 r1 r2 q2
end
/-! the methods, by values -/
theorem ref_lst {H : Hp} {ρ : List Addr} {m : Hd} {n : Nat} {ys : List D} {x : V} (S : Sim L H ρ m) (r : Rv L.K H ρ (.ref n) x) (e : m[n]? = some (.lst ys)) : ∃ a vs, ρ[n]? = some a ∧ x = .ref a ∧ H a = some (.lst vs) ∧ RvL L.K H ρ ys vs := by
  unfold Rv at r
  obtain ⟨a, h, rfl⟩ := r
  obtain ⟨vs, h1, h2⟩ := S.ob n a _ h e
  exact ⟨a, vs, h, rfl, h1, h2⟩
/-- a list is written -/
theorem out_write {H : Hp} {ρ : List Addr} {m : Hd} {n : Nat} {a : Addr} {vs ws : List V} {zs : List D} {d : D} {v : V} {Q : VK} (S : Sim L H ρ m) (e : ρ[n]? = some a) (h : H a = some (.lst vs)) (r : RvL L.K H ρ zs ws) (rd : Rv L.K H ρ d v) (o : Out L H ρ Q (.ok d (m.set n (.lst zs)))) :
    Q v (upd H a (.lst ws)) := by
  have x : Ext H ρ (upd H a (.lst ws)) ρ := Ext.write e h (by simp) (by simp)
  exact o _ _ x (S.write e h (by simp) (by simp) ⟨_, upd_same, r.ext x⟩) _ (rd.ext x)
theorem mt_ok (hu : X.A.units + 100 < cLine) (f : Mt) : MtR X (mtE f).2.2 (rM L (mtD f)) := by
  intro pins s σ H x xs v us Q I rx rs ⟨ρ, m, d, ds, S, rd, rds, o⟩
  unfold mtD at o
  split at o
  next n w =>
    split at o
    next ys e =>
      obtain ⟨h, o⟩ := o.ifs
      obtain ⟨a, vs, ha, rfl, h1, h2⟩ := ref_lst S rd e
      obtain ⟨y, rfl, ry⟩ := rvl1 rds
      have hl := h2.len
      refine mt_append pins s σ H _ _ v us Q I rx rs ⟨a, vs, y, rfl, rfl, h1, by rw [← hl]; simpa using h, ?_⟩
      exact out_write S ha h1 (h2.app (rvl_cons ry rvl_nil)) (by simp [Rv]) o
    next => exact o.elim
  next n w =>
    split at o
    next ys zs e1 e2 =>
      obtain ⟨h, o⟩ := o.ifs
      have h : ys.length + zs.length ≤ sizeLine := by simpa using h
      obtain ⟨a, vs, ha, rfl, h1, h2⟩ := ref_lst S rd e1
      obtain ⟨y, rfl, ry⟩ := rvl1 rds
      obtain ⟨b, ws, rfl, h3, h4⟩ := fz_lst S ry e2
      have l1 := h2.len
      have l2 := h4.len
      cases rx
      obtain ⟨u, rfl, ru⟩ := vals1 rs
      cases ru
      obtain ⟨z, its, n', r, hl, e⟩ := I.lstM h1
      obtain ⟨z2, its2, n2, r2, hl2, e2'⟩ := rdL I h3
      have hsz : its.toArray.size + its2.toArray.size ≤ sizeLine := by rw [List.size_toArray, List.size_toArray]; omega
      have hlong : ¬ (!its.toArray.isEmpty && Builtin.List.listTooLong (its.toArray.size + its2.toArray.size)) = true := by
        rw [notLongL hsz, Bool.and_false]
        exact Bool.false_ne_true
      refine call_meets F.slot_list_extend ⟨_, e, rfl⟩ F.entry_list_extend (F.args_list_extend_2 _ _)
        (AutoSeq1.list_extend_list_list_0 a its.toArray n' b its2.toArray n2 hlong (by rw [List.size_toArray]; omega) (by omega)) ⟨e, e2', ?_⟩
      refine ⟨.non, _, I.lset (its' := its ++ its2) h1 e (by simp) (r.append r2) ?_, rfl, out_write S ha h1 (h2.app h4) (by simp [Rv]) o⟩
      rw [List.length_append]
      omega
    next => exact o.elim
  next n =>
    split at o
    next ys e =>
      split at o
      next z hz =>
        obtain ⟨a, vs, ha, rfl, h1, h2⟩ := ref_lst S rd e
        obtain rfl := rvl0 rds
        rw [List.getLast?_eq_getElem?] at hz
        obtain ⟨y, g1, g2⟩ := h2.get hz
        have hl := h2.len
        refine mt_pop pins s σ H _ _ v us Q I rx rs ⟨a, vs, y, rfl, rfl, h1, by rw [← hl]; exact g1, ?_⟩
        exact out_write S ha h1 h2.dropLast g2 o
      next => exact o.elim
    next => exact o.elim
  next n =>
    split at o
    next ys e =>
      obtain ⟨a, vs, ha, rfl, h1, h2⟩ := ref_lst S rd e
      obtain rfl := rvl0 rds
      refine mt_clear pins s σ H _ _ v us Q I rx rs ⟨a, vs, rfl, rfl, h1, ?_⟩
      exact out_write S ha h1 rvl_nil (by simp [Rv]) o
    next => exact o.elim
  next k =>
    split at o
    next t kvs e =>
      obtain ⟨h, o⟩ := o.ifs
      obtain ⟨y, rfl, ry⟩ := rvl1 rds
      obtain ⟨u, rfl, ru⟩ := vals1 rs
      obtain ⟨a, p, rfl, g, fr⟩ := dget_ok S rd ry e h
      cases rx
      refine d_get1 (by omega) I g ru fun w' s' I' r' => ⟨_, H, I', r', ?_⟩
      cases q : find kvs k with
      | none =>
        rw [q] at fr o
        cases p with
        | none => exact out_val o S (by simp [Rv])
        | some w => exact fr.elim
      | some w =>
        rw [q] at fr o
        cases p with
        | none => exact fr.elim
        | some w => exact out_val o S fr
    next => exact o.elim
  next k z =>
    split at o
    next t kvs e =>
      obtain ⟨h, o⟩ := o.ifs
      obtain ⟨y, w2, rfl, ry, rz⟩ := rvl2 rds
      obtain ⟨u, u2, rfl, ru, ru2⟩ := vals2 rs
      obtain ⟨a, p, rfl, g, fr⟩ := dget_ok S rd ry e h
      cases rx
      refine d_get2 (by omega) I g ru ru2 fun w' s' I' r' => ⟨_, H, I', r', ?_⟩
      cases q : find kvs k with
      | none =>
        rw [q] at fr o
        cases p with
        | none => exact out_val o S rz
        | some w => exact fr.elim
      | some w =>
        rw [q] at fr o
        cases p with
        | none => exact fr.elim
        | some w => exact out_val o S fr
    next => exact o.elim
  next => exact o.elim
theorem de_mt {o e : Expr} {es : List Expr} {apos cpos : Pos} {fo : ME} {g : SD → Hd → R (List D)} (hK : L.K = X.K) (hu : X.A.units + 100 < cLine) (f : Mt) (ho : PE X o (tE L fo)) (ha : PA X (e :: es) (tA L g)) (hbase : plainBase o = true)
    (hs : (e :: es).all nostar = true) (hlen : (e :: es).length < 30) (hline : (apos.endLine == cpos.line) = true) :
    PE X (.Call (.Attribute o (mtE f).2.1 apos) (e :: es) [] cpos) (tE L fun s m => (fo s m).bind fun d m1 => (ifs (mtTy m1 d f) (.ok () m1)).bind fun _ m1 => (g s m1).bind fun ds m2 => mtD f d ds m2) := by
  have w : ∀ σ H Q, tE L (fun s m => (fo s m).bind fun d m1 => (ifs (mtTy m1 d f) (R.ok () m1)).bind fun _ m1 => (g s m1).bind fun ds m2 => mtD f d ds m2) σ H Q → tMt X.K (mtE f).1 (rM L (mtD f)) (tE L fo) (tA L g) σ H Q := fun σ H Q ⟨ρ, m, s, S, E, o⟩ => by
    refine tE_then (k := fun s d m1 => (ifs (mtTy m1 d f) (R.ok () m1)).bind fun _ m1 => (g s m1).bind fun ds m2 => mtD f d ds m2) S E o fun x H1 ρ1 d m1 x1 S1 E1 rx o1 => ?_
    cases ht : mtTy m1 d f with
    | false => rw [ht] at o1; exact o1.elim
    | true =>
      rw [ht] at o1
      refine ⟨?_, tA_then (k := fun _ ds m2 => mtD f d ds m2) S1 E1 o1 fun vs H2 ρ2 ds m2 x2 S2 E2 rs o2 => ⟨ρ2, m2, d, ds, S2, rx.ext x2, rs, o2⟩⟩
      unfold mtTy at ht
      split at ht
      next xs e1 =>
        obtain ⟨a, vs, rfl, h2, h3⟩ := fz_lst S1 rx e1
        have hf : (mtE f).1 = "list" := by cases f <;> first | rfl | cases ht
        rw [hf]
        exact .inl (.inl ⟨rfl, vs, .inl h2⟩)
      next =>
        split at ht
        next q e2 =>
          obtain ⟨t, kvs⟩ := q
          obtain ⟨a, rfl, hd⟩ := dq_ok S1 rx e2
          have hf : (mtE f).1 = "dict" := by cases f <;> first | rfl | cases ht
          rw [hf]
          refine .inr ⟨rfl, a, rfl, ?_⟩
          rcases hd with ⟨_, ps, h1, _⟩ | ⟨_, ps, h1, _⟩
          · exact .inl ⟨ps, h1⟩
          · exact .inr ⟨ps, h1⟩
        next => cases ht
  have hm := mt_ok (L := L) (X := X) hu f
  cases f with
  | append => exact PE.weak (pe_mt PySem.F.plainAttrs_list PySem.F.slot_list_append PySem.F.type_list_append hm ho ha hbase hs hlen hline) w
  | extend => exact PE.weak (pe_mt PySem.F.plainAttrs_list PySem.F.slot_list_extend PySem.F.type_list_extend hm ho ha hbase hs hlen hline) w
  | pop => exact PE.weak (pe_mt PySem.F.plainAttrs_list PySem.F.slot_list_pop PySem.F.type_list_pop hm ho ha hbase hs hlen hline) w
  | clear => exact PE.weak (pe_mt PySem.F.plainAttrs_list PySem.F.slot_list_clear PySem.F.type_list_clear hm ho ha hbase hs hlen hline) w
  | get1 => exact PE.weak (pe_mt PySem.F.plainAttrs_dict PySem.F.slot_dict_get PySem.F.type_dict_get hm ho ha hbase hs hlen hline) w
  | get2 => exact PE.weak (pe_mt PySem.F.plainAttrs_dict PySem.F.slot_dict_get PySem.F.type_dict_get hm ho ha hbase hs hlen hline) w
end
end Dx
/-! DxH: targets, walks, comprehensions -/
namespace Dx
open PySem PySem.Spec PyProof.Rows L2
section
variable {L : Lnk} {X : Cx}

/-! ### targets -/
mutual
def Tg.slots : Tg → List Nat
  | .name i => [i]
  | .tup ts => Tg.slotsL ts
def Tg.slotsL : List Tg → List Nat
  | [] => []
  | t :: ts => Tg.slots t ++ Tg.slotsL ts
end
def gD (L : Lnk) (tg : Tg) : TG := fun v σ H Q => ∃ ρ m s d s', Sim L H ρ m ∧ EnvR L H ρ s σ ∧ Rv L.K H ρ d v ∧ bindTg tg d s = some s' ∧
  ∀ σ', EnvR L H ρ s' σ' → (∀ vs : List Nat, (∀ i ∈ tg.slots, i ∈ vs) → L2.wipe σ' vs = L2.wipe σ vs) → Q σ' H
def gsD (L : Lnk) (ts : List Tg) : TGs := fun vs σ H Q => ∃ ρ m s ds s', Sim L H ρ m ∧ EnvR L H ρ s σ ∧ RvL L.K H ρ ds vs ∧ bindTgs ts ds s = some s' ∧
  ∀ σ', EnvR L H ρ s' σ' → (∀ ws : List Nat, (∀ i ∈ Tg.slotsL ts, i ∈ ws) → L2.wipe σ' ws = L2.wipe σ ws) → Q σ' H
theorem wipe_set {σ : VS} {i : Nat} {x : Option V} : ∀ {vs : List Nat}, i ∈ vs → L2.wipe (σ.set i x) vs = L2.wipe σ vs
  | v :: vs, h => by
    show (L2.wipe (σ.set i x) vs).set v none = (L2.wipe σ vs).set v none
    by_cases hv : i ∈ vs
    · rw [wipe_set hv]
    · rcases List.mem_cons.mp h with rfl | h
      · have key : ∀ {us : List Nat}, i ∉ us → L2.wipe (σ.set i x) us = (L2.wipe σ us).set i x := by
          intro us
          induction us with
          | nil => intro _; rfl
          | cons u us ih =>
            intro hu
            show (L2.wipe (σ.set i x) us).set u none = ((L2.wipe σ us).set u none).set i x
            rw [ih (fun z => hu (List.mem_cons_of_mem _ z)), List.set_comm]
            intro z; subst z; exact hu (by simp)
        rw [key hv, List.set_set]
      · exact absurd h hv
theorem wipe_get {σ : VS} {i : Nat} : ∀ {vs : List Nat}, (L2.wipe σ vs)[i]? = if i ∈ vs then (if i < σ.length then some none else none) else σ[i]?
  | [] => by simp [L2.wipe]
  | v :: vs => by
    show ((L2.wipe σ vs).set v none)[i]? = _
    by_cases h : v = i
    · subst h
      by_cases hl : v < σ.length
      · rw [List.getElem?_set_self (by rw [L2.wipe_length]; exact hl)]
        simp [hl]
      · rw [List.getElem?_eq_none (by rw [List.length_set, L2.wipe_length]; omega)]
        simp [hl]
    · rw [List.getElem?_set_ne h, wipe_get]
      have : i ≠ v := fun z => h z.symm
      simp [this]
theorem wipe_wipe {σ : VS} {vs : List Nat} : L2.wipe (L2.wipe σ vs) vs = L2.wipe σ vs := by
  apply List.ext_getElem?
  intro i
  rw [wipe_get, wipe_get, L2.wipe_length]
  by_cases h : i ∈ vs <;> simp [h]
theorem dg_name {i : Nat} {x : Str} {pos : Pos} (hN : X.N.Nodup) (hi : X.N[i]? = some x) (hx : Loc X.env.scope x) (hf : X.fn x = true ∨ X.env.scope.names.lookup x = some .local) : PG X (.Name x pos) (gD L (.name i)) := by
  refine ⟨fun pins s σ H v u Q I r ⟨ρ, m, sd, d, s', S, E, rd, hb, q⟩ => (pg_name hN hi hx hf).run pins s σ H v u Q I r ?_⟩
  unfold bindTg at hb
  cases hb
  exact q _ (E.set rd) fun vs h => wipe_set (h i (by simp [Tg.slots]))
theorem dgs_nil : PGs X [] (gsD L []) := by
  refine ⟨fun pins s σ H vs us Q I r ⟨ρ, m, sd, ds, s', S, E, rd, hb, q⟩ => pgs_nil.run pins s σ H vs us Q I r ?_⟩
  cases ds with
  | cons d ds => unfold bindTgs at hb; cases hb
  | nil =>
    unfold bindTgs at hb
    cases hb
    exact ⟨rvl0 rd, q σ E fun _ _ => rfl⟩
theorem each_cons {e : Expr} {es : List Expr} {env : Env} (h : nostar e = true) : (assignEach (e :: es) env).map (·.2) = assign e env :: (assignEach es env).map (·.2) := by
  cases e <;> first | rfl | cases h
theorem each_plain {env : Env} : ∀ {es : List Expr}, es.all nostar = true → (assignEach es env).length = es.length ∧ (assignEach es env).findIdx? (·.1) = none
  | [], _ => ⟨rfl, rfl⟩
  | e :: es, h => by
    simp only [List.all_cons, Bool.and_eq_true] at h
    have ih := each_plain (env := env) h.2
    have hc : assignEach (e :: es) env = (false, assign e env) :: assignEach es env := by
      have h1 := h.1
      cases e <;> first | rfl | cases h1
    rw [hc]
    refine ⟨by simp [ih.1], ?_⟩
    rw [List.findIdx?_cons]
    simp [ih.2]
theorem dgs_cons {e : Expr} {es : List Expr} {t : Tg} {ts : List Tg} (hn : nostar e = true) (h1 : PG X e (gD L t)) (h2 : PGs X es (gsD L ts)) : PGs X (e :: es) (gsD L (t :: ts)) := by
  refine ⟨fun pins s σ H vs us Q I r ⟨ρ, m, sd, ds, s', S, E, rd, hb, q⟩ => (pgs_cons h1 h2 (each_cons hn)).run pins s σ H vs us Q I r ?_⟩
  cases ds with
  | nil => unfold bindTgs at hb; cases hb
  | cons d ds =>
    unfold RvL at rd
    obtain ⟨v, w, rfl, r1, r2⟩ := rd
    unfold bindTgs at hb
    cases hb1 : bindTg t d sd with
    | none => rw [hb1] at hb; cases hb
    | some s1 =>
      rw [hb1] at hb
      refine ⟨v, w, rfl, ρ, m, sd, d, s1, S, E, r1, hb1, fun σ1 E1 w1 => ?_⟩
      refine ⟨ρ, m, s1, ds, s', S, E1, r2, hb, fun σ2 E2 w2 => q σ2 E2 fun ws hw => ?_⟩
      have hw : ∀ i ∈ Tg.slots t ++ Tg.slotsL ts, i ∈ ws := by simpa [Tg.slotsL] using hw
      rw [w2 ws fun i hi => hw i (List.mem_append_right _ hi), w1 ws fun i hi => hw i (List.mem_append_left _ hi)]
theorem dg_tup {es : List Expr} {k : Nat} {pos : Pos} {ts : List Tg} (hc : X.calm = true) (hs : es.all nostar = true) (hl : es.length = ts.length) (h : PGs X es (gsD L ts)) : PG X (.Tuple es k pos) (gD L (.tup ts)) := by
  have hp := each_plain (env := X.env) hs
  refine ⟨fun pins s σ H v u Q I r ⟨ρ, m, sd, d, s', S, E, rd, hb, q⟩ => (pg_tup (n := ts.length) hc h (hp.1.trans hl) hp.2).run pins s σ H v u Q I r ?_⟩
  unfold bindTg at hb
  split at hb
  next ds =>
    unfold Rv at rd
    obtain ⟨a, vs, rfl, h1, h2⟩ := rd
    have hlen : ∀ (ts : List Tg) (ds : List D) (s : SD) (s' : SD), bindTgs ts ds s = some s' → ds.length = ts.length := by
      intro ts
      induction ts with
      | nil => intro ds s s' h; cases ds <;> simp_all [bindTgs]
      | cons t ts ih =>
        intro ds s s' h
        cases ds with
        | nil => simp [bindTgs] at h
        | cons d ds =>
          unfold bindTgs at h
          cases h1 : bindTg t d s with
          | none => rw [h1] at h; cases h
          | some s1 =>
            rw [h1] at h
            simp [ih _ _ _ h]
    exact ⟨a, vs, rfl, .of h1, by rw [← h2.len]; exact hlen _ _ _ _ hb, ρ, m, sd, ds, s', S, E, h2, hb, fun σ' E' w => q σ' E' fun ws hw => w ws (by simpa [Tg.slots] using hw)⟩
  next => cases hb

/-! ### walks -/
structure WalkD (L : Lnk) (J : It) (xs : List D) (g : Gu) (H1 : Hp) (ρ1 : List Addr) : Prop where
  goes : ∀ i H ρ m, i < xs.length → Ext H1 ρ1 H ρ → Sim L H ρ m → guOk g m = true → J.go i H
  stops : ∀ H ρ m, Ext H1 ρ1 H ρ → Sim L H ρ m → guOk g m = true → J.stop xs.length H
  yields : ∀ i H ρ m x H', i < xs.length → Ext H1 ρ1 H ρ → Sim L H ρ m → guOk g m = true → J.yld i H x H' → ∃ d, xs[i]? = some d ∧ Ext H ρ H' ρ ∧ Sim L H' ρ m ∧ Rv L.K H' ρ d x
def tI (L : Lnk) (f : SD → Hd → R (List D × Gu)) : TI := fun σ H R => ∃ ρ m s, Sim L H ρ m ∧ EnvR L H ρ s σ ∧ OutG L H ρ (fun p _ H' ρ' => ∀ J, WalkD L J p.1 p.2 H' ρ' → R J H') (f s m)
theorem tI_then {α : Type} {f : SD → Hd → R (List D × Gu)} {σ : VS} {H : Hp} {k : SD → (List D × Gu) → Hd → R α} {ρ : List Addr} {m : Hd} {s : SD} {P : α → Hd → Hp → List Addr → Prop} (S : Sim L H ρ m) (E : EnvR L H ρ s σ) (o : OutG L H ρ P ((f s m).bind (k s))) {Q : It → Hp → Prop}
    (h : ∀ p H1 ρ1 m1, Ext H ρ H1 ρ1 → Sim L H1 ρ1 m1 → EnvR L H1 ρ1 s σ → OutG L H1 ρ1 P (k s p m1) → ∀ J, WalkD L J p.1 p.2 H1 ρ1 → Q J H1) : tI L f σ H Q :=
  ⟨ρ, m, s, S, E, o.bind.imp fun b m1 H1 ρ1 x S1 o1 => h b H1 ρ1 m1 x S1 (E.ext x) o1⟩
theorem gu_lst {m : Hd} {n : Nat} {xs : List D} {g : Gu} (h : guOk ((n, xs) :: g) m = true) : m[n]? = some (.lst xs) ∧ guOk g m = true := by
  unfold guOk at h
  simp only [List.all_cons, Bool.and_eq_true] at h
  refine ⟨?_, h.2⟩
  have h1 := h.1
  split at h1
  next ys e => rw [e, D.eq_of_beqL _ _ h1]
  next => cases h1
/-- a sequence that stays -/
theorem sq_stay {d : D} {xs : List D} {m1 m : Hd} (e : sq m1 d = some xs) (g : guOk (guOf m1 d) m = true) : sq m d = some xs := by
  cases d with
  | ref n =>
    simp only [sq] at e
    split at e
    next ys h =>
      cases e
      have : guOf m1 (.ref n) = [(n, xs)] := by simp [guOf, h]
      rw [this] at g
      simp [sq, (gu_lst g).1]
    next => cases e
  | _ => exact e
/-- the walk over a sequence's own iterator -/
theorem walk_seqL {a : Addr} {xs : List D} {H1 : Hp} {ρ1 : List Addr} {d : D} {m1 : Hd} {g0 : Gu} (hK : L.K = X.K) (rd : Rv L.K H1 ρ1 d (.ref a)) (e : sq m1 d = some xs) (nt : ∀ ys, d ≠ .tup ys) (hg : ∀ m, guOk g0 m = true → guOk (guOf m1 d) m = true) : WalkD L (Itl X.K a) xs g0 H1 ρ1 := by
  have key : ∀ H ρ m, Ext H1 ρ1 H ρ → Sim L H ρ m → guOk g0 m = true → ∃ ws, SqL X.K H a ws ∧ RvL L.K H ρ xs ws := by
    intro H ρ m x S g
    obtain ⟨a', ws, h1, h2, h3⟩ := sq_lst S (rd.ext x) (sq_stay e (hg m g)) nt
    cases h1
    rw [hK] at h2
    exact ⟨ws, h2, h3⟩
  refine ⟨fun i H ρ m hi x S g => ?_, fun H ρ m x S g => ?_, fun i H ρ m y H' hi x S g hy => ?_⟩
  · obtain ⟨ws, h1, h2⟩ := key H ρ m x S g
    obtain ⟨w, g1, _⟩ := h2.get (List.getElem?_eq_getElem hi)
    exact ⟨ws, w, h1, g1⟩
  · obtain ⟨ws, h1, h2⟩ := key H ρ m x S g
    exact ⟨ws, h1, by rw [h2.len]; exact Nat.le_refl _⟩
  · obtain ⟨ws, h1, h2⟩ := key H ρ m x S g
    obtain ⟨rfl, f⟩ := hy
    obtain ⟨d', g1, g2⟩ := h2.getV (f ws h1)
    exact ⟨d', g1, Ext.refl _ _, S, g2⟩
theorem walk_seqT {a : Addr} {xs : List D} {H1 : Hp} {ρ1 : List Addr} {g0 : Gu} (rd : Rv L.K H1 ρ1 (.tup xs) (.ref a)) : WalkD L (Itt X.K a) xs g0 H1 ρ1 := by
  have key : ∀ H ρ, Ext H1 ρ1 H ρ → ∃ ws, SqT X.K H a ws ∧ RvL L.K H ρ xs ws := by
    intro H ρ x
    have r := rd.ext x
    unfold Rv at r
    obtain ⟨a', ws, h1, h2, h3⟩ := r
    cases h1
    exact ⟨ws, .of h2, h3⟩
  refine ⟨fun i H ρ m hi x S g => ?_, fun H ρ m x S g => ?_, fun i H ρ m y H' hi x S g hy => ?_⟩
  · obtain ⟨ws, h1, h2⟩ := key H ρ x
    obtain ⟨w, g1, _⟩ := h2.get (List.getElem?_eq_getElem hi)
    exact ⟨ws, w, h1, g1⟩
  · obtain ⟨ws, h1, h2⟩ := key H ρ x
    exact ⟨ws, h1, by rw [h2.len]; exact Nat.le_refl _⟩
  · obtain ⟨ws, h1, h2⟩ := key H ρ x
    obtain ⟨rfl, f⟩ := hy
    obtain ⟨d', g1, g2⟩ := h2.getV (f ws h1)
    exact ⟨d', g1, Ext.refl _ _, S, g2⟩
/-- for .. in a list, a tuple -/
theorem di_seq {tg l : Expr} {f : ME} (hK : L.K = X.K) (hl : PE X l (tE L f)) : PI X tg l (tI L fun s m => (f s m).bind fun d m1 => (optB (sq m1 d) m1).bind fun xs m2 => .ok (xs, guOf m2 d) m2) := by
  refine ⟨fun pins s σ H RR I ⟨ρ, m, sd, S, E, o⟩ => ?_⟩
  have hE : tE L f σ H fun x H1 => ∃ ρ1 m1 d xs, Ext H ρ H1 ρ1 ∧ Sim L H1 ρ1 m1 ∧ Rv L.K H1 ρ1 d x ∧ sq m1 d = some xs ∧ ∀ J, WalkD L J xs (guOf m1 d) H1 ρ1 → RR J H1 := by
    refine tE_then (k := fun _ d m1 => (optB (sq m1 d) m1).bind fun xs m2 => .ok (xs, guOf m2 d) m2) S E o fun x H1 ρ1 d m1 x1 S1 E1 rx o1 => ?_
    cases hq : sq m1 d with
    | none => rw [hq] at o1; exact o1.elim
    | some xs =>
      rw [hq] at o1
      simp only [optB_some, R.bind_ok] at o1
      exact ⟨ρ1, m1, d, xs, x1, S1, rx, hq, fun J w => o1.here S1 J w⟩
  refine thn (hl.run pins s σ H _ I hE) fun v s1 ⟨x, H1, I1, r1, ρ1, m1, d, xs, x1, S1, rx, hq, q⟩ => ?_
  by_cases ht : ∃ ys, d = .tup ys
  · obtain ⟨ys, rfl⟩ := ht
    cases hq
    have rx0 := rx
    unfold Rv at rx
    obtain ⟨a, vs, rfl, h1, h2⟩ := rx
    cases r1
    obtain ⟨its, rv, p, hz⟩ := I1.tuple (.of h1)
    refine wpAny_pyIter_tuple (show s1.heap.IsTuple a its.toArray from p) ?_
    refine ⟨s1.heap.objs.size, [s1.heap.objs.size], _, _, H1, rfl, I1.kept (t' := s1.toks) fun b o e => Heap.get?_push_of_some _ e, turn_tuple a _, ⟨_, Heap.get?_push_size _ rfl, rfl, rfl⟩, fun b hb => ?_, q _ (walk_seqT rx0)⟩
    have e : b = s1.heap.objs.size := by simpa using hb
    subst e
    exact I1.fpOk (Nat.le_refl _) (I1.hok.fresh (Nat.le_refl _))
  · obtain ⟨a, vs, rfl, h1, h2⟩ := sq_lst S1 rx hq fun ys z => ht ⟨ys, z⟩
    rw [hK] at h1
    cases r1
    obtain ⟨its, rv, p, hz⟩ := I1.list h1
    refine wpAny_pyIter_list p.isList ?_
    refine ⟨s1.heap.objs.size, [s1.heap.objs.size], _, _, H1, rfl, I1.kept (t' := s1.toks) fun b o e => Heap.get?_push_of_some _ e, turn_list a _, ⟨_, Heap.get?_push_size _ rfl, rfl, rfl⟩, fun b hb => ?_, q _ (walk_seqL hK rx hq (fun ys z => ht ⟨ys, z⟩) fun _ h => h)⟩
    have e : b = s1.heap.objs.size := by simpa using hb
    subst e
    exact I1.fpOk (Nat.le_refl _) (I1.hok.fresh (Nat.le_refl _))
theorem walk_rng {lo hi : Int} {H1 : Hp} {ρ1 : List Addr} {g0 : Gu} : WalkD L (Itr lo (hi - lo).toNat) (rangeD lo hi) g0 H1 ρ1 := by
  have hl : (rangeD lo hi).length = (hi - lo).toNat := by simp [rangeD]
  refine ⟨fun i H ρ m hi' x S g => by rw [hl] at hi'; exact hi', fun H ρ m x S g => by rw [hl]; exact Nat.le_refl _, fun i H ρ m y H' hi' x S g hy => ?_⟩
  rw [hl] at hi'
  obtain ⟨rfl, rfl⟩ := hy
  refine ⟨.int (lo + i), ?_, Ext.refl _ _, S, by simp [Rv]⟩
  simp [rangeD, List.getElem?_map, List.getElem?_range hi']
theorem bigI_ok {i : Int} (h : bigI i = true) : -(2 ^ 62) ≤ i ∧ i < 2 ^ 62 := by simpa [bigI] using h
/-- range(a), range(a, b) -/
theorem di_rng1 {tg a : Expr} {p pos : Pos} {f : ME} (hg : Gl X "range") (hm : X.mg "range" = none) (hs : nostar a = true) (ha : PE X a (tE L f)) :
    PI X tg (.Call (.Name "range" p) [a] [] pos) (tI L fun s m => ((R.ok (.int 0) m : R D)).bind fun d m1 => (f s m1).bind fun e m2 => rngD d e m2) := by
  refine ⟨fun pins s σ H R I ⟨ρ, m, sd, S, E, o⟩ => (pi_range1 hg hm (pa_cons ha pa_nil (star_cons hs)) (star_cons hs)).run pins s σ H R I ?_⟩
  have o : OutG L H ρ _ ((f sd m).bind fun e m2 => rngD (.int 0) e m2) := o
  refine tE_then (k := fun _ e m2 => rngD (.int 0) e m2) S E o fun x H1 ρ1 d m1 x1 S1 E1 rx o1 => ?_
  unfold rngD at o1
  split at o1
  next i j e1 =>
    cases e1
    obtain ⟨h, o2⟩ := o1.ifs
    simp only [Bool.and_eq_true] at h
    unfold Rv at rx
    subst rx
    exact ⟨j, rfl, (bigI_ok h.2).1, (bigI_ok h.2).2, by simpa using o2.here S1 _ walk_rng⟩
  next => exact o1.elim
theorem di_rng2 {tg a b : Expr} {p pos : Pos} {f g : ME} (hg : Gl X "range") (hm : X.mg "range" = none) (hs : nostar a = true) (hs2 : nostar b = true) (ha : PE X a (tE L f)) (hb : PE X b (tE L g)) :
    PI X tg (.Call (.Name "range" p) [a, b] [] pos) (tI L fun s m => (f s m).bind fun d m1 => (g s m1).bind fun e m2 => rngD d e m2) := by
  refine ⟨fun pins s σ H R I ⟨ρ, m, sd, S, E, o⟩ => (pi_range2 hg hm (pa_cons ha (pa_cons hb pa_nil (star_cons hs2)) (star_cons hs)) (by rw [star_cons hs, star_cons hs2] <;> rfl) (star_cons hs2)).run pins s σ H R I ?_⟩
  refine tE_then (k := fun s d m1 => (g s m1).bind fun e m2 => rngD d e m2) S E o fun x H1 ρ1 d m1 x1 S1 E1 rx o1 => ?_
  refine tE_then (k := fun _ e m2 => rngD d e m2) S1 E1 o1 fun y H2 ρ2 e m2 x2 S2 E2 ry o2 => ?_
  unfold rngD at o2
  split at o2
  next i j =>
    obtain ⟨h, o3⟩ := o2.ifs
    simp only [Bool.and_eq_true] at h
    unfold Rv at rx ry
    subst rx ry
    exact ⟨i, j, rfl, ⟨(bigI_ok h.1).1, (bigI_ok h.1).2, (bigI_ok h.2).1, (bigI_ok h.2).2⟩, o3.here S2 _ walk_rng⟩
  next => exact o2.elim

/-! ### comprehensions -/
/-- the heap without one thing -/
def del (H : Hp) (d : Addr) : Hp := fun a => if a = d then none else H a
theorem del_same {H : Hp} {d : Addr} : del H d d = none := if_pos rfl
theorem del_ne {H : Hp} {d a : Addr} (h : a ≠ d) : del H d a = H a := if_neg h
theorem upd_del {H : Hp} {d : Addr} {o : HO} (h : H d = some o) : upd (del H d) d o = H := by
  funext a
  by_cases e : a = d
  · subst e; rw [upd_same, h]
  · rw [upd_ne e, del_ne e]
theorem del_tup {H : Hp} {d a : Addr} {vs : List V} {u : HO} (h : H d = some (.lst vs)) (e : H a = some u) (n : ∀ ws, u ≠ .lst ws) : del H d a = some u := by
  rw [del_ne (ne_of e h fun z => n vs z)]; exact e
theorem lc_run {tg iter elt : Expr} {ifs' : List Expr} {scope : Scope} {own : List (Str × Nat)} {fi : SD → Hd → R (List D × Gu)} {tgD : Tg} {c : SD → Hd → R Bool} {fe : ME} (b : Bool)
    (hc : X.calm = true) (hN : X.N.Nodup) (hi : PI X tg iter (tI L fi)) (ok : BlkOk X.N X.env.scope scope own)
    (hg : ∀ (s : Shared) (H : Hp) (C : Addr) (cl : List (Str × Addr)) (fp : List Addr), PG (X.blk s H scope (compEnvC scope cl C X.env) fp) tg (gD L tgD))
    (ht : ∀ (s : Shared) (H : Hp) (C : Addr) (cl : List (Str × Addr)) (fp : List Addr), PTs (X.blk s H scope (compEnvC scope cl C X.env) fp) ifs' (tT L c))
    (he : ∀ (s : Shared) (H : Hp) (C : Addr) (cl : List (Str × Addr)) (fp : List Addr), PE (X.blk s H scope (compEnvC scope cl C X.env) fp) elt (tE L fe))
    (hsl : ∀ i ∈ tgD.slots, i ∈ own.map (·.2)) {σ : VS} {H : Hp} {Q : VK}
    (h : tE L (fun s m => (fi s m).bind fun p m1 => ifs (decide (p.1.length ≤ sizeLine)) ((lcGo p.2 (lcStep tgD (wipeD s (own.map (·.2))) c fe) p.1 m1).bind (mkL b))) σ H Q) :
    tLc (tI L fi) (gD L tgD) (tT L c) (tE L fe) (own.map (·.2)) σ H (if b = true then Q else QLk Q) := by
  obtain ⟨ρ, m, sd, S, E, o⟩ := h
  refine tI_then (k := fun s p m1 => ifs (decide (p.1.length ≤ sizeLine)) ((lcGo p.2 (lcStep tgD (wipeD s (own.map (·.2))) c fe) p.1 m1).bind (mkL b))) S E o fun p H1 ρ1 m1 x1 S1 E1 o1 J w => ?_
  obtain ⟨xs, g⟩ := p
  obtain ⟨hz, o1⟩ := o1.ifs
  have hz : xs.length ≤ sizeLine := by simpa using hz
  intro D0 hD0
  refine ⟨fun i k H2 => ∃ H0 ρ m acc vs, i + k = xs.length ∧ H0 D0 = none ∧ H2 = upd H0 D0 (.lst vs) ∧ Ext H1 ρ1 H0 ρ ∧ Sim L H0 ρ m ∧ RvL L.K H0 ρ acc vs ∧ acc.length ≤ i ∧
    OutG L H0 ρ (fun r m' H' ρ' => Out L H' ρ' Q (mkL b (acc ++ r) m')) (lcGo g (lcStep tgD (wipeD sd (own.map (·.2))) c fe) (xs.drop i) m),
    ⟨xs.length, H1, ρ1, m1, [], [], by omega, hD0, rfl, Ext.refl _ _, S1, rvl_nil, Nat.le_refl _, ?_⟩, fun i k H2 ⟨H0, ρ2, m2, acc, vs, e1, n0, e2, x2, S2, ra, la, o2⟩ => ?_⟩
  · rw [List.drop_zero]
    exact o1.bind.imp fun r m' H' ρ' _ _ o3 => by simpa using o3
  · subst e2
    have x3 : Ext H0 ρ2 (upd H0 D0 (.lst vs)) ρ2 := Ext.laid n0
    have S3 : Sim L (upd H0 D0 (.lst vs)) ρ2 m2 := S2.laid n0
    have nD : D0 ∉ ρ2 := S2.out n0
    by_cases hlt : i < xs.length
    · rw [List.drop_eq_getElem_cons hlt] at o2
      unfold lcGo at o2
      obtain ⟨hgu, o2⟩ := o2.ifs
      refine .inr ⟨w.goes i _ ρ2 m2 hlt (x2.trans x3) S3 hgu, fun H' => ∃ k', k' < k ∧ ∃ H0 ρ m acc vs, (i + 1) + k' = xs.length ∧ H0 D0 = none ∧ H' = upd H0 D0 (.lst vs) ∧ Ext H1 ρ1 H0 ρ ∧ Sim L H0 ρ m ∧ RvL L.K H0 ρ acc vs ∧ acc.length ≤ i + 1 ∧
        OutG L H0 ρ (fun r m' H' ρ' => Out L H' ρ' Q (mkL b (acc ++ r) m')) (lcGo g (lcStep tgD (wipeD sd (own.map (·.2))) c fe) (xs.drop (i + 1)) m), fun H' h => h, fun x H' hy => ?_⟩
      obtain ⟨d, hd, x4, S4, rd⟩ := w.yields i _ ρ2 m2 x H' hlt (x2.trans x3) S3 hgu hy
      have hd : d = xs[i] := by rw [List.getElem?_eq_getElem hlt] at hd; exact (Option.some.inj hd).symm
      subst hd
      unfold lcStep at o2
      cases hb : bindTg tgD xs[i] (wipeD sd (own.map (·.2))) with
      | none => rw [hb] at o2; exact o2.elim
      | some s2 =>
        rw [hb] at o2
        simp only [optB_some, R.bind_ok] at o2
        have E4 : EnvR L H' ρ2 (wipeD sd (own.map (·.2))) (L2.wipe σ (own.map (·.2))) := ((E1.wipe _).ext ((x2.trans x3).trans x4))
        have hD4 : H' D0 = some (.lst vs) := x4.rest D0 _ upd_same nD
        refine ⟨ρ2, m2, _, xs[i], s2, S4, E4, rd, hb, fun σ2 E5 w2 => ⟨(w2 _ hsl).trans wipe_wipe, ?_⟩⟩
        -- behind the tests and the element
        have back : ∀ (H5 : Hp) (ρ5 : List Addr) (m5 : Hd) (more : Option D) (ys : List V), Ext H' ρ2 H5 ρ5 → Sim L H5 ρ5 m5 → RvL L.K H5 ρ5 more.toList ys →
            OutG L H0 ρ2 (fun r m' H' ρ' => Out L H' ρ' Q (mkL b (acc ++ r) m')) ((lcGo g (lcStep tgD (wipeD sd (own.map (·.2))) c fe) (xs.drop (i + 1)) m5).bind fun r m2 => R.ok (more.toList ++ r) m2) →
            H5 D0 = some (.lst vs) ∧ ∃ k', k' < k ∧ ∃ H0 ρ m acc vs', (i + 1) + k' = xs.length ∧ H0 D0 = none ∧ upd H5 D0 (.lst (vs ++ ys)) = upd H0 D0 (.lst vs') ∧ Ext H1 ρ1 H0 ρ ∧ Sim L H0 ρ m ∧ RvL L.K H0 ρ acc vs' ∧ acc.length ≤ i + 1 ∧
              OutG L H0 ρ (fun r m' H' ρ' => Out L H' ρ' Q (mkL b (acc ++ r) m')) (lcGo g (lcStep tgD (wipeD sd (own.map (·.2))) c fe) (xs.drop (i + 1)) m) := by
          intro H5 ρ5 m5 more ys x5 S5 ry o5
          have hl5 : more.toList.length ≤ 1 := by cases more <;> simp
          have h5 : H5 D0 = some (.lst vs) := x5.rest D0 _ hD4 nD
          refine ⟨h5, ?_⟩
          have nD5 : D0 ∉ ρ5 := fun hm => by
            rcases x5.new _ hm with z | z
            · exact nD z
            · rw [hD4] at z; cases z
          have t5 : ∀ a ws, H5 a = some (.tup ws) → del H5 D0 a = some (.tup ws) := fun a ws e => del_tup h5 e (by simp)
          have f5 : ∀ a o u, H5 a = some (.frz o u) → del H5 D0 a = some (.frz o u) := fun a o u e => del_tup h5 e (by simp)
          have stay : Stay L H5 (del H5 D0) ρ5 m5 := fun n a o' e1 _ _ => del_ne fun z => nD5 (by rw [← z]; exact List.mem_of_getElem? e1)
          have S6 : Sim L (del H5 D0) ρ5 m5 := S5.keep t5 f5 stay
          have x05 : Ext H0 ρ2 H5 ρ5 := (x3.trans x4).trans x5
          have x6 : Ext H0 ρ2 (del H5 D0) ρ5 := ⟨x05.pre, x05.new, fun a ws e => t5 _ _ (x05.tup a ws e), fun a o u e => f5 _ _ _ (x05.frz a o u e), fun a o e hn => by
              rw [del_ne (ne_of_none e n0)]; exact x05.rest a o e hn⟩
          have ra5 : RvL L.K (del H5 D0) ρ5 acc vs := ra.ext x6
          have ry5 : RvL L.K (del H5 D0) ρ5 more.toList ys := RvL.mono (List.prefix_refl _) t5 f5 ry
          refine ⟨k - 1, by omega, del H5 D0, ρ5, m5, acc ++ more.toList, vs ++ ys, by omega, del_same, ?_, x2.trans x6, S6, ra5.app ry5, by rw [List.length_append]; omega, ?_⟩
          · funext a
            by_cases e : a = D0
            · subst e; rw [upd_same, upd_same]
            · rw [upd_ne e, upd_ne e, del_ne e]
          · refine (o5.bind.base x6).imp fun r m' H' ρ' _ S' q => ?_
            have q' := q.here S'
            rw [List.append_assoc]
            exact q'
        have hsz : vs.length < sizeLine := by rw [← ra.len]; omega
        cases hcc : c s2 m2 with
        | exc => rw [hcc] at o2; exact o2.elim
        | no => rw [hcc] at o2; exact o2.elim
        | ok kc m3 =>
          rw [hcc] at o2
          simp only [R.bind_ok] at o2
          refine ⟨ρ2, m2, s2, S4, E5, ?_⟩
          rw [hcc]
          intro H5 ρ5 x5 S5
          cases kc with
          | false =>
            simp only [Bool.false_eq_true, if_false, R.bind_ok] at o2 ⊢
            obtain ⟨h5, q⟩ := back H5 ρ5 m3 none [] x5 S5 rvl_nil o2
            rw [List.append_nil] at q
            have : upd H5 D0 (.lst vs) = H5 := by
              funext a
              by_cases e : a = D0
              · subst e; rw [upd_same, h5]
              · rw [upd_ne e]
            rw [this] at q
            exact q
          | true =>
            simp only [if_true] at o2 ⊢
            refine ⟨ρ5, m3, s2, S5, E5.ext x5, ?_⟩
            cases hff : fe s2 m3 with
            | exc => rw [hff] at o2; exact o2.elim
            | no => rw [hff] at o2; exact o2.elim
            | ok y m4 =>
              rw [hff] at o2
              simp only [R.bind_ok] at o2
              intro H6 ρ6 x6 S6 v rv
              obtain ⟨h6, q⟩ := back H6 ρ6 m4 (some y) [v] (x5.trans x6) S6 (rvl_cons rv rvl_nil) o2
              exact ⟨vs, h6, hsz, q⟩
    · have hi' : i = xs.length := by omega
      subst hi'
      rw [List.drop_length] at o2
      unfold lcGo at o2
      obtain ⟨hgu, o2⟩ := o2.ifs
      refine .inl ⟨w.stops _ ρ2 m2 (x2.trans x3) S3 hgu, ?_⟩
      have o3 : Out L H0 ρ2 Q (mkL b acc m2) := by simpa using o2.here S2
      exact mk_ok' S2 ra o3 n0
end
end Dx
/-! DxI: statements -/
namespace Dx
open PySem PySem.Spec PyProof.Rows L2
section
variable {L : Lnk} {X : Cx}
theorem PTs.weak {e : List Expr} {t t' : TT} (h : PTs X e t) (w : ∀ σ H Q, t' σ H Q → t σ H Q) : PTs X e t' := ⟨fun pins s σ H Q I q => h.run pins s σ H Q I (w σ H Q q)⟩
theorem dts_nil : PTs X [] (tT L fun _ m => .ok true m) := PTs.weak pts_nil fun σ H Q ⟨ρ, m, s, S, E, o⟩ => o.here S
theorem dts_one {c : Expr} {f : SD → Hd → R Bool} (h : PT X c (tT L f)) : PTs X [c] (tT L f) := pts_one h

/-- where a statement leads, against what is wanted -/
def FlP (L : Lnk) (D : Ends) : Fl → Hd → Hp → List Addr → Prop := fun f _ H ρ => match f with
  | .next s => ∀ σ, EnvR L H ρ s σ → D.nx σ H
  | .ret d => ∀ v, Rv L.K H ρ d v → D.rt v H
abbrev MS := SD → Hd → R Fl
def tS (L : Lnk) (f : MS) : TS := fun D σ H => ∃ ρ m s, Sim L H ρ m ∧ EnvR L H ρ s σ ∧ OutG L H ρ (FlP L D) (f s m)
theorem PS.weak {st : Stmt} {t t' : TS} (h : PS X st t) (w : ∀ D σ H, t' D σ H → t D σ H) : PS X st t' := ⟨fun pins s σ H D I q => h.run pins s σ H D I (w D σ H q)⟩
theorem PSs.weak {st : List Stmt} {t t' : TS} (h : PSs X st t) (w : ∀ D σ H, t' D σ H → t D σ H) : PSs X st t' := ⟨fun pins s σ H D I q => h.run pins s σ H D I (w D σ H q)⟩

/-! ### blocks -/
theorem ds_nil : PSs X [] (tS L fun s m => .ok (.next s) m) := PSs.weak pss_nil fun D σ H ⟨ρ, m, s, S, E, o⟩ => o.here S σ E
theorem ds_cons {st : Stmt} {rest : List Stmt} {f g : MS} (h1 : PS X st (tS L f)) (h2 : PSs X rest (tS L g)) : PSs X (st :: rest) (tS L fun s m => (f s m).bind (seqD g)) := by
  refine PSs.weak (pss_cons h1 h2) fun D σ H ⟨ρ, m, s, S, E, o⟩ => ?_
  refine ⟨ρ, m, s, S, E, o.bind.imp fun fl m1 H1 ρ1 x1 S1 o1 => ?_⟩
  cases fl with
  | next s1 => exact fun σ1 E1 => ⟨ρ1, m1, s1, S1, E1, o1⟩
  | ret d => exact o1.here S1
theorem ds_pass {pos : Pos} : PS X (.Pass pos) (tS L fun s m => .ok (.next s) m) := PS.weak ps_pass fun D σ H ⟨ρ, m, s, S, E, o⟩ => o.here S σ E
theorem ds_doc {x k pos pos'} : PS X (.Expr (.Constant (.str x) k pos) pos') (tS L fun s m => .ok (.next s) m) := PS.weak ps_doc fun D σ H ⟨ρ, m, s, S, E, o⟩ => o.here S σ E
theorem ds_never {st : Stmt} : PS X st (tS L fun _ _ => .no) := PS.weak ps_never fun D σ H ⟨ρ, m, s, S, E, o⟩ => o
def isComp : Expr → Bool
  | .ListComp .. => true
  | .SetComp .. => true
  | .DictComp .. => true
  | _ => false
theorem swaps_no {e : Expr} {t : Option Expr} {l : Nat} {env : Env} (h : isComp e = false) : swapsWith e t l env = pure false := by
  cases e <;> first | rfl | cases h
theorem sole_no {e t : Expr} {l : Nat} {env : Env} (h : isComp e = false) : swapsWithSole [t] e l env = pure false := by
  cases e <;> first | rfl | cases h
theorem ds_exp {e : Expr} {f : ME} {pos : Pos} (h : isComp e = false) (he : PE X e (tE L f)) : PS X (.Expr e pos) (tS L fun s m => (f s m).bind fun _ m1 => .ok (.next s) m1) := by
  refine PS.weak (ps_expr he (swaps_no h)) fun D σ H ⟨ρ, m, s, S, E, o⟩ => ?_
  exact tE_then (k := fun s _ m1 => R.ok (Fl.next s) m1) S E o fun x H1 ρ1 d m1 x1 S1 E1 rx o1 => o1.here S1 σ E1
theorem ds_ret {e : Expr} {f : ME} {pos : Pos} (he : PE X e (tE L f)) : PS X (.Return (some e) pos) (tS L fun s m => (f s m).bind fun d m1 => .ok (.ret d) m1) := by
  refine PS.weak (ps_ret he) fun D σ H ⟨ρ, m, s, S, E, o⟩ => ?_
  exact tE_then (k := fun s d m1 => R.ok (Fl.ret d) m1) S E o fun x H1 ρ1 d m1 x1 S1 E1 rx o1 => o1.here S1 x rx
theorem ds_if {c : Expr} {a b : List Stmt} {t : SD → Hd → R Bool} {f g : MS} {pos : Pos} (hc : PT X c (tT L t)) (ha : PSs X a (tS L f)) (hb : PSs X b (tS L g)) : PS X (.If c a b pos) (tS L fun s m => (t s m).bind fun k m1 => if k then f s m1 else g s m1) := by
  refine PS.weak (ps_if hc ha hb) fun D σ H ⟨ρ, m, s, S, E, o⟩ => ?_
  refine tT_then (k := fun s k m1 => if k then f s m1 else g s m1) S E o fun k H1 ρ1 m1 x1 S1 E1 o1 => ?_
  cases k with
  | true => exact ⟨ρ1, m1, s, S1, E1, o1⟩
  | false => exact ⟨ρ1, m1, s, S1, E1, o1⟩

/-! ### assignments -/
theorem ds_asg {tg e : Expr} {t : Tg} {f : ME} {pos : Pos} (he : PE X e (tE L f)) (hg : PG X tg (gD L t)) (hs : swapsWithSole [tg] e pos.line X.env = pure false) (hw : swappedStores [tg] e X.env = pure none) (hn : nostar tg = true) :
    PS X (.Assign [tg] e pos) (tS L fun s m => (f s m).bind (asgD t s)) := by
  refine PS.weak (ps_asg he hg hs hw (by rw [each_cons hn] <;> rfl)) fun D σ H ⟨ρ, m, s, S, E, o⟩ => ?_
  refine tE_then (k := asgD t) S E o fun x H1 ρ1 d m1 x1 S1 E1 rx o1 => ?_
  unfold asgD at o1
  cases hb : bindTg t d s with
  | none => rw [hb] at o1; exact o1.elim
  | some s1 =>
    rw [hb] at o1
    exact ⟨ρ1, m1, s, d, s1, S1, E1, rx, hb, fun σ' E' _ => o1.here S1 σ' E'⟩
/-- name = [..] on one line, the name a plain local -/
theorem ds_setlc {i : Nat} {y : Str} {py : Pos} {tg iter elt : Expr} {ifs' : List Expr} {scope : Scope} {own : List (Str × Nat)} {pos spos : Pos} {fi : SD → Hd → R (List D × Gu)} {tgD : Tg} {c : SD → Hd → R Bool} {fe : ME} (b : Bool)
    (hc : X.calm = true) (hN : X.N.Nodup) (hy : X.N[i]? = some y) (hyl : X.env.scope.names.lookup y = some .local)
    (hsw : swapsWith (.ListComp elt [⟨tg, iter, ifs', 0⟩] scope pos) (some (.Name y py)) spos.line X.env = pure true)
    (hi : PI X tg iter (tI L fi)) (ok : BlkOk X.N X.env.scope scope own)
    (hg : ∀ (s : Shared) (H : Hp) (C : Addr) (cl : List (Str × Addr)) (fp : List Addr), PG (X.blk s H scope (compEnvC scope cl C X.env) fp) tg (gD L tgD))
    (ht : ∀ (s : Shared) (H : Hp) (C : Addr) (cl : List (Str × Addr)) (fp : List Addr), PTs (X.blk s H scope (compEnvC scope cl C X.env) fp) ifs' (tT L c))
    (he : ∀ (s : Shared) (H : Hp) (C : Addr) (cl : List (Str × Addr)) (fp : List Addr), PE (X.blk s H scope (compEnvC scope cl C X.env) fp) elt (tE L fe))
    (hs : ∀ x, foldedSetIterable iter X.env x = pure x) (hsl : ∀ j ∈ tgD.slots, j ∈ own.map (·.2)) :
    PS X (.Assign [.Name y py] (.ListComp elt [⟨tg, iter, ifs', 0⟩] scope pos) spos) (tS L fun s m => ((fi s m).bind fun p m1 => ifs (decide (p.1.length ≤ sizeLine)) ((lcGo p.2 (lcStep tgD (wipeD s (own.map (·.2))) c fe) p.1 m1).bind (mkL b))).bind (asgD (.name i) s)) := by
  have base := ps_setLc (py := py) (spos := spos) (pos := pos) hc hN hy hyl hsw hi ok hg ht he hs
  -- the store behind a lock
  refine ⟨fun pins s σ H D I ⟨ρ, m, sd, S, E, o⟩ => ?_⟩
  have h1 : tE L (fun s m => (fi s m).bind fun p m1 => ifs (decide (p.1.length ≤ sizeLine)) ((lcGo p.2 (lcStep tgD (wipeD s (own.map (·.2))) c fe) p.1 m1).bind (mkL b))) σ H fun x H1 => D.nx (σ.set i (some x)) H1 := by
    refine tE_then (k := asgD (.name i)) S E o fun x H1 ρ1 d m1 x1 S1 E1 rx o1 => ?_
    unfold asgD bindTg at o1
    exact o1.here S1 _ (E1.set rx)
  have h2 := lc_run b hc hN hi ok hg ht he hsl h1
  cases b with
  | true => exact base.run pins s σ H D I h2
  | false =>
    refine thn (base.run pins s σ H { D with nx := fun σ' H' => ∃ a u, σ' = σ.set i (some (.ref a)) ∧ H' a = some u ∧ Mut (some u) ∧ ∀ ob, D.nx σ' (upd H' a (.frz ob u)) } I ?_) fun f s' h => ?_
    · show tLc _ _ _ _ _ σ H _
      have w : ∀ v H', QLk (fun x H1 => D.nx (σ.set i (some x)) H1) v H' → (fun x H1 => gName i x σ H1 fun σ' H' => ∃ a u, σ' = σ.set i (some (.ref a)) ∧ H' a = some u ∧ Mut (some u) ∧ ∀ ob, D.nx σ' (upd H' a (.frz ob u))) v H' := by
        rintro v H' ⟨a, u, rfl, e, mu, q⟩
        exact ⟨a, u, rfl, e, mu, q⟩
      -- a reading of a comprehension is monotone in what is wanted of the list
      obtain ⟨ρ', m', s', S', E', o'⟩ := h2
      refine ⟨ρ', m', s', S', E', o'.imp fun p m1 H1 ρ1 x1 S1 g J wk => ?_⟩
      intro D0 hD0
      obtain ⟨W, w0, w1⟩ := g J wk D0 hD0
      refine ⟨W, w0, fun i k H2 hw => ?_⟩
      rcases w1 i k H2 hw with ⟨a1, a2⟩ | a
      · exact .inl ⟨a1, w _ _ a2⟩
      · exact .inr a
    · cases f with
      | next =>
        obtain ⟨σ', H', I', a, u, rfl, e, mu, q⟩ := h
        obtain ⟨ob, I''⟩ := I'.lock e mu
        exact ⟨_, _, I'', q ob⟩
      | ret v => exact h
      | brk => exact h
      | cont => exact h
theorem bind_two {i j : Nat} {ds : List D} {s s1 : SD} (h : bindTg (.tup [.name i, .name j]) (.tup ds) s = some s1) : ∃ d e, ds = [d, e] ∧ s1 = (s.set i (some d)).set j (some e) := by
  unfold bindTg at h
  cases ds with
  | nil => unfold bindTgs at h; cases h
  | cons d ds =>
    unfold bindTgs bindTg at h
    cases ds with
    | nil => unfold bindTgs at h; cases h
    | cons e ds =>
      have h : bindTgs [.name j] (e :: ds) (s.set i (some d)) = some s1 := h
      unfold bindTgs bindTg at h
      cases ds with
      | nil =>
        have h : bindTgs [] [] ((s.set i (some d)).set j (some e)) = some s1 := h
        unfold bindTgs at h
        cases h
        exact ⟨d, e, rfl, rfl⟩
      | cons f ds =>
        have h : bindTgs [] (f :: ds) ((s.set i (some d)).set j (some e)) = some s1 := h
        unfold bindTgs at h
        cases h
/-- a, b = x, y with plain local names -/
theorem ds_par {i j : Nat} {x y : Str} {a b : Expr} {g : SD → Hd → R (List D)} {px py pt pos : Pos} {kt k2 pt2} (hc : X.calm = true) (hN : X.N.Nodup) (hi : X.N[i]? = some x) (hj : X.N[j]? = some y) (hij : i ≠ j)
    (hx : X.env.scope.names.lookup x = some .local) (hy : X.env.scope.names.lookup y = some .local) (ha : PA X [a, b] (tA L g))
    (hw : swappedStores [.Tuple [.Name x px, .Name y py] kt pt] (.Tuple [a, b] k2 pt2) X.env = pure (some [x, y])) :
    PS X (.Assign [.Tuple [.Name x px, .Name y py] kt pt] (.Tuple [a, b] k2 pt2) pos) (tS L fun s m => ((g s m).bind fun ds m1 => ifs (decide (ds.length ≤ sizeLine)) (.ok (.tup ds) m1)).bind (asgD (.tup [.name i, .name j]) s)) := by
  refine PS.weak (ps_par (k2 := k2) (pt2 := pt2) hc hN hi hj hij hx hy ha hw) fun D σ H ⟨ρ, m, s, S, E, o⟩ => ?_
  have o : OutG L H ρ (FlP L D) ((g s m).bind fun ds m1 => (ifs (decide (ds.length ≤ sizeLine)) (R.ok (Dx.D.tup ds) m1)).bind (asgD (.tup [.name i, .name j]) s)) := by
    dsimp only at o
    cases h : g s m with
    | ok ds m1 => rw [h] at o; exact o
    | exc => rw [h] at o; exact o
    | no => rw [h] at o; exact o
  refine tA_then (k := fun s ds m1 => (ifs (decide (ds.length ≤ sizeLine)) (R.ok (Dx.D.tup ds) m1)).bind (asgD (.tup [.name i, .name j]) s)) S E o fun vs H1 ρ1 ds m1 x1 S1 E1 rs o1 => ?_
  cases hd : decide (ds.length ≤ sizeLine) with
  | false => rw [hd] at o1; exact o1.elim
  | true =>
    rw [hd] at o1
    have o1 : OutG L H1 ρ1 (FlP L D) (asgD (.tup [.name i, .name j]) s (Dx.D.tup ds) m1) := o1
    unfold asgD at o1
    cases hb : bindTg (.tup [.name i, .name j]) (Dx.D.tup ds) s with
    | none => rw [hb] at o1; exact o1.elim
    | some s1 =>
      rw [hb] at o1
      obtain ⟨d, e, rfl, rfl⟩ := bind_two hb
      obtain ⟨v, w, rfl, r1, r2⟩ := rvl2 rs
      exact ⟨v, w, rfl, o1.here S1 _ ((E1.set r1).set r2)⟩
/-- o[i] = e -/
theorem ds_setix {o i e : Expr} {fo fi fe : ME} {p pos : Pos} (hu : X.A.units + 100 < cLine) (hp : plainIx i = true) (hcm : isComp e = false) (ho : PE X o (tE L fo)) (hi : PE X i (tE L fi)) (he : PE X e (tE L fe)) :
    PS X (.Assign [.Subscript o i p] e pos) (tS L fun s m => (fe s m).bind fun v m1 => (fo s m1).bind fun x m2 => (fi s m2).bind fun y m3 => (setD x y v m3).bind fun _ m4 => .ok (.next s) m4) := by
  have hg : PG X (.Subscript o i p) (gSub (tE L fo) (tE L fi) (rSet L)) := pg_sub ho hi (set_D hu) (fun v => by
    cases i
    case Slice lo hi st q => cases st <;> first | rfl | cases hp
    all_goals rfl)
  refine PS.weak (ps_asg he hg (sole_no hcm) (by rfl) (by rfl)) fun D σ H ⟨ρ, m, s, S, E, w⟩ => ?_
  refine tE_then (k := fun s v m1 => (fo s m1).bind fun x m2 => (fi s m2).bind fun y m3 => (setD x y v m3).bind fun _ m4 => R.ok (Fl.next s) m4) S E w fun v H1 ρ1 dv m1 x1 S1 E1 rv o1 => ?_
  refine tE_then (k := fun s x m2 => (fi s m2).bind fun y m3 => (setD x y dv m3).bind fun _ m4 => R.ok (Fl.next s) m4) S1 E1 o1 fun x H2 ρ2 dx m2 x2 S2 E2 rx o2 => ?_
  refine tE_then (k := fun s y m3 => (setD dx y dv m3).bind fun _ m4 => R.ok (Fl.next s) m4) S2 E2 o2 fun y H3 ρ3 dy m3 x3 S3 E3 ry o3 => ?_
  refine ⟨ρ3, m3, dx, dy, dv, S3, rx.ext x3, ry, (rv.ext x2).ext x3, o3.bind.imp fun _ m4 H4 ρ4 x4 S4 o4 => o4.here S4 σ (E3.ext x4)⟩

/-! ### loops -/
def notSetI : Expr → Bool := notSet
theorem folded_ok {e : Expr} {env : Env} (h : notSet e = true) (x : Value) : foldedSetIterable e env x = pure x := by
  cases e <;> first | rfl | cases h
theorem ds_for {tg iter : Expr} {body : List Stmt} {fi : SD → Hd → R (List D × Gu)} {t : Tg} {f : MS} {pos : Pos} (hp : PassesOwn (model X.prog X.w) X.A X.env X.xe) (hc : X.calm = true) (hi : PI X tg iter (tI L fi)) (hg : PG X tg (gD L t)) (hb : PSs X body (tS L f)) (hs : notSet iter = true) :
    PS X (.For tg iter body [] pos) (tS L fun s m => (fi s m).bind fun p m1 => frGo p.2 t f p.1 s m1) := by
  refine PS.weak (ps_for hp hc hi hg hb (folded_ok hs)) fun D σ H ⟨ρ, m, s, S, E, o⟩ => ?_
  refine tI_then (k := fun s p m1 => frGo p.2 t f p.1 s m1) S E o fun p H1 ρ1 m1 x1 S1 E1 o1 J w => ?_
  obtain ⟨xs, g⟩ := p
  refine ⟨fun i k σ H => i + k = xs.length ∧ ∃ ρ m s, Ext H1 ρ1 H ρ ∧ Sim L H ρ m ∧ EnvR L H ρ s σ ∧ OutG L H ρ (FlP L D) (frGo g t f (xs.drop i) s m), ⟨xs.length, by omega, ρ1, m1, s, Ext.refl _ _, S1, E1, o1⟩, fun i k σ H ⟨e1, ρ2, m2, s2, x2, S2, E2, o2⟩ => ?_⟩
  by_cases hlt : i < xs.length
  · rw [List.drop_eq_getElem_cons hlt] at o2
    unfold frGo at o2
    obtain ⟨hgu, o2⟩ := o2.ifs
    refine .inr ⟨w.goes i _ ρ2 m2 hlt x2 S2 hgu, fun σ' H' => ∃ k', k' < k ∧ (i + 1 + k' = xs.length ∧ ∃ ρ m s, Ext H1 ρ1 H' ρ ∧ Sim L H' ρ m ∧ EnvR L H' ρ s σ' ∧ OutG L H' ρ (FlP L D) (frGo g t f (xs.drop (i + 1)) s m)), fun σ' H' h => h, fun x H' hy => ?_⟩
    obtain ⟨d, hd, x4, S4, rd⟩ := w.yields i _ ρ2 m2 x H' hlt x2 S2 hgu hy
    have hd : d = xs[i] := by rw [List.getElem?_eq_getElem hlt] at hd; exact (Option.some.inj hd).symm
    subst hd
    unfold frTurn at o2
    cases hb' : bindTg t xs[i] s2 with
    | none => rw [hb'] at o2; exact o2.elim
    | some s3 =>
      rw [hb'] at o2
      simp only [optB_some, R.bind_ok] at o2
      refine ⟨ρ2, m2, s2, xs[i], s3, S4, E2.ext x4, rd, hb', fun σ' E5 _ => ⟨ρ2, m2, s3, S4, E5, ?_⟩⟩
      refine (OutG.base o2 x4).bind.imp fun fl m5 H5 ρ5 x5 S5 o5 => ?_
      cases fl with
      | next s5 => exact fun σ5 E6 => ⟨k - 1, by omega, by omega, ρ5, m5, s5, (x2.trans x4).trans x5, S5, E6, o5⟩
      | ret d => exact o5.here S5
  · have hi' : i = xs.length := by omega
    subst hi'
    rw [List.drop_length] at o2
    unfold frGo at o2
    obtain ⟨hgu, o2⟩ := o2.ifs
    exact .inl ⟨w.stops _ ρ2 m2 x2 S2 hgu, o2.here S2 σ E2⟩
theorem ds_while {c : Expr} {body : List Stmt} {t : SD → Hd → R Bool} {f : MS} {pos : Pos} (n : Nat) (hp : PassesOwn (model X.prog X.w) X.A X.env X.xe) (hc : PT X c (tT L t)) (hb : PSs X body (tS L f)) :
    PS X (.While c body [] pos) (tS L fun s m => whGo t f n s m) := by
  refine PS.weak (ps_while hp hc hb) fun D σ H ⟨ρ, m, s, S, E, o⟩ => ?_
  refine ⟨fun k σ H => ∃ ρ m s, Sim L H ρ m ∧ EnvR L H ρ s σ ∧ OutG L H ρ (FlP L D) (whGo t f k s m), ⟨n, ρ, m, s, S, E, o⟩, fun k σ H ⟨ρ1, m1, s1, S1, E1, o1⟩ => ?_⟩
  cases k with
  | zero => exact o1.elim
  | succ k =>
    unfold whGo at o1
    refine tT_then (k := fun s q m1 => whStep f (whGo t f k) s q m1) S1 E1 o1 fun q H2 ρ2 m2 x2 S2 E2 o2 => ?_
    unfold whStep at o2
    cases q with
    | false => exact o2.here S2 σ E2
    | true =>
      simp only [if_true] at o2 ⊢
      refine ⟨fun σ' H' => ∃ k', k' < k + 1 ∧ ∃ ρ m s, Sim L H' ρ m ∧ EnvR L H' ρ s σ' ∧ OutG L H' ρ (FlP L D) (whGo t f k' s m), fun σ' H' h => h, ρ2, m2, s1, S2, E2, ?_⟩
      refine o2.bind.imp fun fl m5 H5 ρ5 x5 S5 o5 => ?_
      cases fl with
      | next s5 => exact fun σ5 E6 => ⟨k, by omega, ρ5, m5, s5, S5, E6, o5⟩
      | ret d => exact o5.here S5
end
end Dx
/-! DxJ: calls of the text's own defs -/
namespace Dx
open PySem PySem.Spec PyProof.Rows L2

/-- a def's promise where no display is being shown -/
structure FnG (P : Program) (w : World) (K : PySem.W.Frag) (mg : Str → Option Value) (base : Heap) (CX : CXT) (k : Nat) (f : Addr) (fd : FuncData) (ps : List Str) (sp : Sp) : Prop where
  len : ∀ vs H Q E, sp vs H Q E → vs.length = ps.length
  run : ∀ (A : Around) (outer : List Env) (s : Shared) (H : Hp) (args : Args) (us : List Value) (vs : List V) (Q : VK) (E : XK), Room k A → A.guards = some [] → Env0 P w K mg base A outer s H → BindsTo s fd args (ps.zip us) → Vals vs us → sp vs H Q E →
    codeAny (model P w) A (.call (.ref f) args) (CR CX outer P w H s Q E) s
/-- what a def promises: the function of data -/
def spD (L : Lnk) (n : Nat) (F : List D → Hd → R D) : Sp := fun vs H Q _ => ∃ ρ m ds, Sim L H ρ m ∧ RvL L.K H ρ ds vs ∧ ds.length = n ∧ Out L H ρ Q (F ds m)

/-- a way to call a def: its name, how many values by place, the keywords, the def's number, the parameters' sources -/
structure Shape where
  x : Str
  n : Nat
  ks : List Str
  f : Nat
  g : List (Nat ⊕ D)
deriving DecidableEq
/-- the values in the parameters' order -/
def arrV (g : List (Nat ⊕ D)) (us : List Value) : List Value → Prop := fun zs => zs.length = g.length ∧ ∀ (j : Nat) (z : Value), zs[j]? = some z → match g[j]? with
  | some (.inl i) => us[i]? = some z
  | some (.inr d) => ∃ v, scalV d = some v ∧ RelV v z
  | none => False
structure ShapeOk (L : Lnk) (X : Cx) (k : Nat) (call : Nat → List D → Hd → R D) (sh : Shape) : Prop where
  ok : ∃ (fa : Addr) (fd : FuncData) (ps : List Str), X.mg sh.x = some (.ref fa) ∧ PySem.W.keepIn X.K (.ref fa) = true ∧ ps.length = sh.g.length ∧
    FnG X.prog X.w X.K X.mg X.base CX0 k fa fd ps (spD L ps.length (call sh.f)) ∧
    ∀ (s : Shared) (us ws : List Value), X.K.In s.heap → us.length = sh.n → ws.length = sh.ks.length → ∃ zs, arrV sh.g (us ++ ws) zs ∧ BindsTo s fd ⟨us, sh.ks.zip ws⟩ (ps.zip zs)
section
variable {L : Lnk} {X : Cx}
theorem arr_get : ∀ {g : List (Nat ⊕ D)} {ds vs : List D}, arr g ds = some vs → vs.length = g.length ∧ ∀ (j : Nat) (x : Nat ⊕ D), g[j]? = some x → ∃ d, vs[j]? = some d ∧ (match x with | .inl i => ds[i]? = some d | .inr e => e = d)
  | [], ds, vs, h => by
    simp [arr] at h
    subst h
    exact ⟨rfl, fun j x e => by simp at e⟩
  | a :: g, ds, vs, h => by
    unfold arr at h
    rw [List.mapM_cons] at h
    simp only [Option.bind_eq_bind, Option.bind_eq_some_iff, Option.pure_def, Option.some.injEq] at h
    obtain ⟨d, h1, r, h2, rfl⟩ := h
    obtain ⟨l, ih⟩ := arr_get (g := g) (ds := ds) (vs := r) h2
    refine ⟨by simp [l], fun j x e => ?_⟩
    cases j with
    | zero =>
      simp at e
      subst e
      refine ⟨d, rfl, ?_⟩
      cases a with
      | inl i => exact h1
      | inr e => exact Option.some.inj h1
    | succ j => simpa using ih j x (by simpa using e)
theorem rvl_of {K : PySem.W.Frag} {H : Hp} {ρ : List Addr} : ∀ {ds : List D} {vs : List V}, ds.length = vs.length → (∀ (j : Nat) d v, ds[j]? = some d → vs[j]? = some v → Rv K H ρ d v) → RvL K H ρ ds vs
  | [], [], _, _ => rvl_nil
  | [], _ :: _, h, _ => by simp at h
  | _ :: _, [], h, _ => by simp at h
  | d :: ds, v :: vs, h, f => rvl_cons (f 0 d v rfl rfl) (rvl_of (by simpa using h) fun j d' v' e1 e2 => f (j + 1) d' v' (by simpa using e1) (by simpa using e2))
/-- values for a list of machine values -/
theorem abs_vals {g : List (Nat ⊕ D)} {us zs : List Value} {vs : List V} (h : arrV g us zs) (r : Vals vs us) : ∃ ws : List V, Vals ws zs ∧ ∀ (j : Nat) (w : V), ws[j]? = some w → match g[j]? with
    | some (.inl i) => vs[i]? = some w
    | some (.inr d) => scalV d = some w
    | none => False := by
  obtain ⟨hl, h⟩ := h
  clear hl
  have gen : ∀ (zs : List Value) (k : Nat), (∀ (j : Nat) (z : Value), zs[j]? = some z → match g[k + j]? with
      | some (.inl i) => us[i]? = some z
      | some (.inr d) => ∃ v, scalV d = some v ∧ RelV v z
      | none => False) → ∃ ws : List V, Vals ws zs ∧ ∀ (j : Nat) (w : V), ws[j]? = some w → match g[k + j]? with
      | some (.inl i) => vs[i]? = some w
      | some (.inr d) => scalV d = some w
      | none => False := by
    intro zs
    induction zs with
    | nil => intro k _; exact ⟨[], .nil, fun j w e => by simp at e⟩
    | cons z zs ih =>
      intro k h
      obtain ⟨ws, r1, r2⟩ := ih (k + 1) fun j z' e => by
        have := h (j + 1) z' (by simpa using e)
        rw [show k + 1 + j = k + (j + 1) by omega]
        exact this
      have h0 := h 0 z rfl
      rw [Nat.add_zero] at h0
      have hd : ∃ w, RelV w z ∧ match g[k]? with
          | some (.inl i) => vs[i]? = some w
          | some (.inr d) => scalV d = some w
          | none => False := by
        cases e : g[k]? with
        | none => rw [e] at h0; exact h0.elim
        | some x =>
          rw [e] at h0
          cases x with
          | inl i =>
            have hi : i < vs.length := by rw [r.length]; exact (List.getElem?_eq_some_iff.mp h0).1
            obtain ⟨u, g1, g2⟩ := r.get (List.getElem?_eq_getElem hi)
            rw [h0] at g1
            cases g1
            exact ⟨_, g2, List.getElem?_eq_getElem hi⟩
          | inr d =>
            obtain ⟨v, g1, g2⟩ := h0
            exact ⟨v, g2, g1⟩
      obtain ⟨w, hw1, hw2⟩ := hd
      refine ⟨w :: ws, .cons hw1 r1, fun j w' e => ?_⟩
      cases j with
      | zero =>
        simp at e
        subst e
        simpa using hw2
      | succ j =>
        have := r2 j w' (by simpa using e)
        rw [show k + 1 + j = k + (j + 1) by omega] at this
        exact this
  simpa using gen zs 0 (by simpa using h)
/-- a call, once its values are there -/
theorem run_shape {k : Nat} {call : Nat → List D → Hd → R D} {sh : Shape} {fa : Addr} {fd : FuncData} {ps : List Str} (hK : L.K = X.K) (hr : Room k X.A) (hgd : X.A.guards = some [])
    (hl : ps.length = sh.g.length) (F : FnG X.prog X.w X.K X.mg X.base CX0 k fa fd ps (spD L ps.length (call sh.f)))
    (hb : ∀ (s : Shared) (us ws : List Value), X.K.In s.heap → us.length = sh.n → ws.length = sh.ks.length → ∃ zs, arrV sh.g (us ++ ws) zs ∧ BindsTo s fd ⟨us, sh.ks.zip ws⟩ (ps.zip zs))
    {pins : List (Addr × Obj)} {σ : VS} {H : Hp} {s : Shared} {Q : VK} {us ws : List Value} {vs zs : List V} {ρ : List Addr} {m : Hd} {ds : List D} (I : Inv X pins σ H s) (r : Vals vs us) (rz : Vals zs ws) (S : Sim L H ρ m) (rd : RvL L.K H ρ ds (vs ++ zs))
    (l1 : vs.length = sh.n) (l2 : zs.length = sh.ks.length) (o : Out L H ρ Q ((optB (arr sh.g ds) m).bind (call sh.f))) :
    wpAny (model X.prog X.w) X.A (PySem.call (.ref fa) us (sh.ks.zip ws)) (EP X pins σ Q) X.xe s := by
  obtain ⟨as, ha, o⟩ := (show OutG L H ρ (fun a m' H' ρ' => OutG L H' ρ' _ (call sh.f a m')) (optB (arr sh.g ds) m) from OutG.bind o).optB
  have o := o.here S
  obtain ⟨ys, hy, hbind⟩ := hb s us ws I.kIn (by rw [← r.length]; exact l1) (by rw [← rz.length]; exact l2)
  have rr : Vals (vs ++ zs) (us ++ ws) := r.append rz
  obtain ⟨bs, g1, g2⟩ := abs_vals hy rr
  obtain ⟨e1, e2⟩ := arr_get ha
  have hbl : bs.length = sh.g.length := by rw [g1.length]; exact hy.1
  have rb : RvL L.K H ρ as bs := by
    refine rvl_of (by rw [e1, hbl]) fun j d v f1 f2 => ?_
    have hj : j < sh.g.length := by rw [← hbl]; exact (List.getElem?_eq_some_iff.mp f2).1
    have q := g2 j v f2
    obtain ⟨d', f3, f4⟩ := e2 j _ (List.getElem?_eq_getElem hj)
    rw [f1] at f3
    cases f3
    rw [List.getElem?_eq_getElem hj] at q
    cases hx : sh.g[j] with
    | inl i =>
      rw [hx] at q f4
      have f4 : ds[i]? = some d := f4
      have q : (vs ++ zs)[i]? = some v := q
      obtain ⟨w, h1, h2⟩ := rd.get f4
      rw [q] at h1
      cases h1
      exact h2
    | inr e =>
      rw [hx] at q f4
      have f4 : e = d := f4
      have q : scalV e = some v := q
      subst f4
      exact scal_rv q
  refine wpAny_call (codeAny_mono (F.run X.A X.stack s H ⟨us, sh.ks.zip ws⟩ ys bs Q E0 hr hgd I.env0 hbind g1 ⟨ρ, m, as, S, rb, by rw [e1, hl], o⟩) fun r s' hq => ?_)
  cases r with
  | error e => exact (show False from hq).elim
  | ok fl =>
    cases fl with
    | ret u => exact I.after hq
    | next => exact False.elim hq
    | brk => exact False.elim hq
    | cont => exact False.elim hq
/-- keywords -/
def kwNames (kws : List Keyword) : List (Option Str) := kws.map fun k => k.arg
end
end Dx
/-! DxK: the text against the small syntax -/
namespace Dx
open PySem PySem.Spec PyProof.Rows L2

structure Wd where
  N : List Str
  blts : List Str
  glb : List (Str × D)
  sh : List Shape
structure Sx where
  sc : Scope
  fn : Str → Bool
def visB (sc : Scope) (x : Str) : Bool := match sc.names.lookup x with
  | some .local | some .cell | some .free => true
  | _ => false
def locB (sx : Sx) (x : Str) : Bool := match sx.sc.names.lookup x with
  | some .local => true
  | some .cell => sx.fn x
  | _ => false
def glB (sc : Scope) (x : Str) : Bool := match sc.names.lookup x with
  | some .globalImplicit => true
  | _ => false
theorem visB_ok {sc : Scope} {x : Str} (h : visB sc x = true) : Vis sc x := by
  unfold visB at h
  split at h
  next e => exact .inl e
  next e => exact .inr (.inl e)
  next e => exact .inr (.inr e)
  next => cases h
def opB : Operator → Bop → Bool
  | .Add, .add => true | .Sub, .sub => true | .Mult, .mul => true | .FloorDiv, .fdiv => true | .Mod, .mod => true | .Pow, .pow => true
  | _, _ => false
theorem opB_ok {op : Operator} {o : Bop} (h : opB op o = true) : op = bopE o := by
  cases op <;> cases o <;> first | rfl | cases h
def copB : CmpOp → Cop → Bool
  | .Eq, .eq => true | .NotEq, .ne => true | .Lt, .lt => true | .LtE, .le => true | .Gt, .gt => true | .GtE, .ge => true | .Is, .is => true | .IsNot, .isnot => true | .In, .isin => true | .NotIn, .notin => true
  | _, _ => false
theorem copB_ok {op : CmpOp} {o : Cop} (h : copB op o = true) : op = copE o := by
  cases op <;> cases o <;> first | rfl | cases h
def biName : Bi → Str
  | .len => "len" | .max2 => "max" | .min2 => "min" | .abs => "abs" | .int => "int" | .repr => "repr" | .list _ => "list" | .tuple => "tuple" | .all => "all" | .any => "any"
  | .sum => "sum" | .str => "str" | .maxL => "max" | .minL => "min" | .isinst _ => "isinstance"
def tyName : Ty → Str
  | .int => "int" | .str => "str" | .bool => "bool" | .tuple => "tuple" | .list => "list" | .dict => "dict"
theorem bi_boot {f : Bi} {v : Value} (h : biE f = some v) : bootBuiltins (biName f) = some v ∧ biName f ≠ "__name__" ∧ (biName f == ("__debug__" : Str)) = false := by
  cases f
  case list b => cases b <;> simp only [biE, Option.some.injEq] at h <;> subst h <;> exact ⟨by decide +kernel, by decide +kernel, by decide +kernel⟩
  all_goals first
    | (simp only [biE, Option.some.injEq] at h; subst h; exact ⟨by decide +kernel, by decide +kernel, by decide +kernel⟩)
    | (simp [biE] at h)
theorem ty_boot (t : Ty) : bootBuiltins (tyName t) = some (.type t.name) ∧ tyName t ≠ "__name__" ∧ (tyName t == ("__debug__" : Str)) = false := by
  cases t <;> exact ⟨by decide +kernel, by decide +kernel, by decide +kernel⟩
def isIsinst : Bi → Bool
  | .isinst _ => true
  | _ => false
/-- the names of a block, in the scope that runs -/
def Sx.blk (sx : Sx) (scope : Scope) : Sx := ⟨relS scope sx.sc, fun x => scope.names.lookup x == some .cell⟩
def swP (sc : Scope) (ts vs : List Expr) : Option (Option (List Str)) :=
  if (!(ts.length == 2 || ts.length == 3) || vs.length != ts.length) then some none else
  if vs.any (fun | .Starred .. => true | _ => false) then some none else
  let line := (ts.head?.map (·.pos.line)).getD 0
  let names := ts.filterMap fun
    | .Name id pos => if sc.names.lookup id == some .local && pos.line == line then some id else none
    | _ => none
  if names.length != ts.length || names.eraseDups.length != names.length then some none else
  if vs.all (foldedForSure 8) then some none else
  if vs.all (constantsAlone 8) then none else some (some names)
def line1 : Expr → Nat
  | .Name _ p => p.line
  | _ => 0
def noTupPair (t v : Expr) : Bool := match t, v with
  | .Tuple .., .Tuple .. => false
  | .List .., .Tuple .. => false
  | _, _ => true

mutual
def chkE (W : Wd) : Nat → Sx → Expr → Ex → Bool
  | 0, _, _, _ => false
  | n + 1, sx, e, x => match x with
    | .var i => match e with
      | .Name id _ => decide (W.N[i]? = some id) && visB sx.sc id && !(id == ("__debug__" : Str)) && !(id == ("__classdict__" : Str))
      | _ => false
    | .con d => match e with
      | .Constant c _ _ => decide (constD c = some d)
      | .Name id _ => W.glb.any (fun p => decide (p = (id, d))) && glB sx.sc id && !(id == ("__debug__" : Str))
      | _ => false
    | .bin _ o x y => match e with
      | .BinOp a op c _ => opB op o && chkE W n sx a x && chkE W n sx c y
      | _ => false
    | .neg x => match e with
      | .UnaryOp .USub a _ => chkE W n sx a x
      | _ => false
    | .cmp o x y => match e with
      | .Compare a [op] [c] _ => copB op o && notSet c && chkE W n sx a x && chkE W n sx c y
      | _ => false
    | .chain o o' x y z => match e with
      | .Compare a [op, op'] [b, c] _ => copB op o && copB op' o' && notSet c && chkE W n sx a x && chkE W n sx b y && chkE W n sx c z
      | _ => false
    | .and x y => match e with
      | .BoolOp .And (a :: b :: rest) pos => chkE W n sx a x && chkB W n sx .And (b :: rest) y
      | _ => false
    | .or x y => match e with
      | .BoolOp .Or (a :: b :: rest) pos => chkE W n sx a x && chkB W n sx .Or (b :: rest) y
      | _ => false
    | .not x => match e with
      | .UnaryOp .Not a _ => chkE W n sx a x
      | _ => false
    | .cond c x y => match e with
      | .IfExp t a b _ => chkT W n sx t c && chkE W n sx a x && chkE W n sx b y
      | _ => false
    | .tup es => match e with
      | .Tuple l _ _ => l.all nostar && chkEs W n sx l es
      | _ => false
    | .lst _ es => match e with
      | .List l _ => l.all nostar && chkEs W n sx l es
      | _ => false
    | .dnew _ => match e with
      | .Dict [] [] _ => true
      | _ => false
    | .ix x y => match e with
      | .Subscript a c _ => plainIx c && chkE W n sx a x && chkE W n sx c y
      | _ => false
    | .sl _ x lo hi => match e with
      | .Subscript a (.Slice l h none _) _ => chkE W n sx a x && chkO W n sx l lo && chkO W n sx h hi
      | _ => false
    | .rev _ x => match e with
      | .Subscript a (.Slice none none (some (.UnaryOp .USub (.Constant (.int 1) _ _) _)) _) _ => chkE W n sx a x
      | _ => false
    | .call f es g => match e with
      | .Call (.Name id _) args kws _ => W.sh.any (fun sh => decide (sh = ⟨id, args.length, kws.filterMap (·.arg), f, g⟩)) && kws.all (·.arg.isSome) && args.all nostar && glB sx.sc id && !(id == ("__debug__" : Str)) && chkEs W n sx (args ++ kws.map (·.value)) es
      | _ => false
    | .bi f es => match e with
      | .Call (.Name id _) args [] _ =>
        match f, args, es with
        | .isinst t, [a, .Name y _], [x] => decide (id = ("isinstance" : Str)) && W.blts.contains id && glB sx.sc id && decide (y = tyName t) && W.blts.contains y && glB sx.sc y && nostar a && chkE W n sx a x
        | f, args, es => !isIsinst f && decide (id = biName f) && W.blts.contains id && glB sx.sc id && args.all nostar && !args.isEmpty && chkEs W n sx args es
      | _ => false
    | .mt f x es => match e with
      | .Call (.Attribute o name apos) args [] cpos => decide (name = Str.ofString (mtE f).2.1) && plainBase o && args.all nostar && !args.isEmpty && decide (args.length < 30) && (apos.endLine == cpos.line) && chkE W n sx o x && chkEs W n sx args es
      | _ => false
    | .lc _ own tg it c y => match e with
      | .ListComp elt [⟨t, iter, ifs, 0⟩] scope _ => blkC W.N sx.sc scope (own.filterMap fun i => W.N[i]?.map fun x => (x, i)) && decide ((own.filterMap fun i => W.N[i]?.map fun x => (x, i)).map (·.2) = own) && notSet iter && tg.slots.all (own.contains ·) &&
          chkI W n sx iter it && chkG W n (sx.blk scope) t tg && chkC W n (sx.blk scope) ifs c && chkE W n (sx.blk scope) elt y
      | _ => false
    | .fz x => chkE W n sx e x
def chkEs (W : Wd) : Nat → Sx → List Expr → List Ex → Bool
  | 0, _, _, _ => false
  | _ + 1, _, [], [] => true
  | n + 1, sx, e :: es, x :: xs => chkE W n sx e x && chkEs W n sx es xs
  | _, _, _, _ => false
/-- the rest of a row of and, or -/
def chkB (W : Wd) : Nat → Sx → BoolOp → List Expr → Ex → Bool
  | 0, _, _, _, _ => false
  | n + 1, sx, _, [a], x => chkE W n sx a x
  | n + 1, sx, .And, a :: b :: r, .and x y => chkE W n sx a x && chkB W n sx .And (b :: r) y
  | n + 1, sx, .Or, a :: b :: r, .or x y => chkE W n sx a x && chkB W n sx .Or (b :: r) y
  | _, _, _, _, _ => false
def chkO (W : Wd) : Nat → Sx → Option Expr → Ex → Bool
  | 0, _, _, _ => false
  | n + 1, sx, none, x => isAbs x
  | n + 1, sx, some e, x => !isAbs x && chkE W n sx e x
def chkT (W : Wd) : Nat → Sx → Expr → Te → Bool
  | 0, _, _, _ => false
  | n + 1, sx, e, t => match t with
    | .cmp o x y => match e with
      | .Compare a [op] [c] _ => copB op o && notSet c && chkE W n sx a x && chkE W n sx c y
      | _ => false
    | .chain o o' x y z => match e with
      | .Compare a [op, op'] [b, c] _ => copB op o && copB op' o' && notSet c && chkE W n sx a x && chkE W n sx b y && chkE W n sx c z
      | _ => false
    | .and x y => match e with
      | .BoolOp .And (a :: b :: rest) pos => chkT W n sx a x && chkW W n sx .And (b :: rest) y
      | _ => false
    | .or x y => match e with
      | .BoolOp .Or (a :: b :: rest) pos => chkT W n sx a x && chkW W n sx .Or (b :: rest) y
      | _ => false
    | .not x => match e with
      | .UnaryOp .Not a _ => chkT W n sx a x
      | _ => false
    | .val x => plainTest e && chkE W n sx e x
    | .yes => false
def chkW (W : Wd) : Nat → Sx → BoolOp → List Expr → Te → Bool
  | 0, _, _, _, _ => false
  | n + 1, sx, _, [a], x => chkT W n sx a x
  | n + 1, sx, .And, a :: b :: r, .and x y => chkT W n sx a x && chkW W n sx .And (b :: r) y
  | n + 1, sx, .Or, a :: b :: r, .or x y => chkT W n sx a x && chkW W n sx .Or (b :: r) y
  | _, _, _, _, _ => false
/-- a clause's tests -/
def chkC (W : Wd) : Nat → Sx → List Expr → Te → Bool
  | 0, _, _, _ => false
  | _ + 1, _, [], .yes => true
  | n + 1, sx, [c], t => chkT W n sx c t
  | _, _, _, _ => false
def chkI (W : Wd) : Nat → Sx → Expr → Iw → Bool
  | 0, _, _, _ => false
  | n + 1, sx, e, x => match x with
    | .seq x => chkE W n sx e x
    | .rng lo hi => match e with
      | .Call (.Name id _) [a] [] _ => decide (id = ("range" : Str)) && W.blts.contains id && glB sx.sc id && nostar a && (match lo with | .con (.int 0) => true | _ => false) && chkE W n sx a hi
      | .Call (.Name id _) [a, b] [] _ => decide (id = ("range" : Str)) && W.blts.contains id && glB sx.sc id && nostar a && nostar b && chkE W n sx a lo && chkE W n sx b hi
      | _ => false
    | _ => false
def chkG (W : Wd) : Nat → Sx → Expr → Tg → Bool
  | 0, _, _, _ => false
  | n + 1, sx, e, t => match t with
    | .name i => match e with
      | .Name id _ => decide (W.N[i]? = some id) && locB sx id
      | _ => false
    | .tup ts => match e with
      | .Tuple es _ _ => es.all nostar && decide (es.length = ts.length) && chkGs W n sx es ts
      | _ => false
def chkGs (W : Wd) : Nat → Sx → List Expr → List Tg → Bool
  | 0, _, _, _ => false
  | _ + 1, _, [], [] => true
  | n + 1, sx, e :: es, t :: ts => chkG W n sx e t && chkGs W n sx es ts
  | _, _, _, _ => false
end

/-! ### what the context gives -/
structure Good (L : Lnk) (W : Wd) (X : Cx) (k : Nat) (call : Nat → List D → Hd → R D) (sx : Sx) : Prop where
  hK : L.K = X.K
  hN : X.N = W.N
  nd : W.N.Nodup
  hsc : X.env.scope = sx.sc
  hfn : ∀ x, sx.fn x = true → X.fn x = true
  hu : X.A.units + 100 < cLine
  hg : X.A.guards = some []
  hc : X.calm = true
  hr : Room k X.A
  kd : sx.sc.kind = .function
  hb : ∀ x ∈ W.blts, X.mg x = none
  hglb : ∀ p ∈ W.glb, ∃ v u, scalV p.2 = some v ∧ X.mg p.1 = some u ∧ RelV v u
  hsh : ∀ sh ∈ W.sh, ShapeOk L X k call sh
section
variable {L : Lnk} {W : Wd} {X : Cx} {k : Nat} {call : Nat → List D → Hd → R D} {sx : Sx}
theorem Good.vis (G : Good L W X k call sx) {x : Str} (h : visB sx.sc x = true) : Vis X.env.scope x := by rw [G.hsc]; exact visB_ok h
theorem Good.gl (G : Good L W X k call sx) {x : Str} (h : glB sx.sc x = true) : Gl X x := by
  unfold glB at h
  show X.env.scope.names.lookup x = _
  rw [G.hsc]
  split at h
  next e => exact e
  next => cases h
theorem Good.loc (G : Good L W X k call sx) {x : Str} (h : locB sx x = true) : Loc X.env.scope x ∧ (X.fn x = true ∨ X.env.scope.names.lookup x = some .local) := by
  rw [G.hsc]
  unfold locB at h
  split at h
  next e => exact ⟨.inl e, .inr e⟩
  next e => exact ⟨.inr e, .inl (G.hfn x h)⟩
  next => cases h
theorem Good.bmem (G : Good L W X k call sx) {x : Str} (h : W.blts.contains x = true) : X.mg x = none := G.hb x (by simpa using h)
theorem ne_beq {a b : Str} (h : (!(a == b)) = true) : (a == b) = false := by simpa using h
theorem Good.blk (G : Good L W X k call sx) {scope : Scope} {own : List (Str × Nat)} (ok : BlkOk W.N sx.sc scope own) (s : Shared) (H : Hp) (C : Addr) (cl : List (Str × Addr)) (fp : List Addr) :
    Good L W (X.blk s H scope (compEnvC scope cl C X.env) fp) k call (sx.blk scope) :=
  ⟨G.hK, G.hN, G.nd, (by
    show relabel scope X.env = relS scope sx.sc
    rw [← G.hsc]
    rfl), fun x h => h, G.hu, G.hg, G.hc, G.hr, ok.kind, G.hb, G.hglb, fun sh h => ⟨(G.hsh sh h).ok⟩⟩
end
end Dx
/-! DxL: what passes the look is meant so -/
namespace Dx
open PySem PySem.Spec PyProof.Rows L2
section
variable {L : Lnk} {W : Wd} {X : Cx} {k : Nat} {call : Nat → List D → Hd → R D} {sx : Sx}
/-- expressions one by one -/
inductive PEs (L : Lnk) (call : Nat → List D → Hd → R D) (X : Cx) : List Expr → List Ex → Prop
  | nil : PEs L call X [] []
  | cons {e es x xs} : PE X e (tE L (evE call x)) → PEs L call X es xs → PEs L call X (e :: es) (x :: xs)
theorem PEs.pa {es : List Expr} {xs : List Ex} (h : PEs L call X es xs) (hs : es.all nostar = true) : PA X es (tA L (evEs call xs)) := by
  induction h with
  | nil => exact da_nil
  | cons a b ih =>
    simp only [List.all_cons, Bool.and_eq_true] at hs
    exact da_cons hs.1 a (ih hs.2)
theorem PEs.split : ∀ {as bs : List Expr} {xs : List Ex}, PEs L call X (as ++ bs) xs → ∃ ys zs, xs = ys ++ zs ∧ PEs L call X as ys ∧ PEs L call X bs zs
  | [], bs, xs, h => ⟨[], xs, rfl, .nil, h⟩
  | a :: as, bs, xs, h => by
    cases h with
    | cons p q =>
      obtain ⟨ys, zs, rfl, h1, h2⟩ := PEs.split q
      exact ⟨_ :: ys, zs, rfl, .cons p h1, h2⟩
theorem evEs_app : ∀ (xs ys : List Ex) (s : SD) (m : Hd), evEs call (xs ++ ys) s m = (evEs call xs s m).bind fun ds m1 => (evEs call ys s m1).bind fun es m2 => .ok (ds ++ es) m2
  | [], ys, s, m => by
    simp only [List.nil_append, evEs, R.bind_ok]
    cases evEs call ys s m <;> rfl
  | x :: xs, ys, s, m => by
    simp only [List.cons_append, evEs]
    cases evE call x s m with
    | ok d m1 =>
      simp only [R.bind_ok]
      rw [evEs_app xs ys s m1]
      cases evEs call xs s m1 with
      | ok ds m2 =>
        simp only [R.bind_ok]
        cases evEs call ys s m2 <;> rfl
      | exc => rfl
      | no => rfl
    | exc => rfl
    | no => rfl
/-- keywords -/
theorem PEs.pk {xs : List Ex} : ∀ {kws : List Keyword}, PEs L call X (kws.map (·.value)) xs → PK X kws (tA L (evEs call xs))
  | [], h => by
    cases h
    exact ⟨fun pos pins s σ H Q I ⟨ρ, m, sd, S, E, o⟩ => pk_nil.run pos pins s σ H Q I (o.here S [] rvl_nil)⟩
  | ⟨nm, e, kp⟩ :: kws, h => by
    cases h with
    | cons p q =>
      refine ⟨fun pos pins s σ H Q I ⟨ρ, m, sd, S, E, o⟩ => (pk_cons p (PEs.pk q)).run pos pins s σ H Q I ?_⟩
      simp only [evEs] at o
      refine tE_then (k := fun s d m1 => (evEs call _ s m1).bind fun ds m2 => R.ok (d :: ds) m2) S E o fun x H1 ρ1 d m1 x1 S1 E1 rx o1 => ?_
      refine tA_then (k := fun s ds m2 => R.ok (d :: ds) m2) S1 E1 o1 fun vs H2 ρ2 ds m2 x2 S2 E2 rs o2 => ?_
      exact o2.here S2 _ (rvl_cons (rx.ext x2) rs)
theorem kw_names {pos : Pos} {env : Env} : ∀ {kws : List Keyword}, kws.all (·.arg.isSome) = true →
    (backToKw pos (keywordEach kws env)).filterMap (·.1) = kws.filterMap (·.arg) ∧ (backToKw pos (keywordEach kws env)).all (·.1.isSome) = true ∧ (backToKw pos (keywordEach kws env)).any (·.1.isNone) = false
  | [], _ => ⟨rfl, rfl, rfl⟩
  | ⟨nm, e, kp⟩ :: kws, h => by
    simp only [List.all_cons, Bool.and_eq_true] at h
    obtain ⟨h1, h2, h3⟩ := kw_names (pos := pos) (env := env) h.2
    cases nm with
    | none => exact absurd h.1 (by simp)
    | some x =>
      refine ⟨?_, ?_, ?_⟩
      · show x :: (backToKw pos (keywordEach kws env)).filterMap (·.1) = _
        rw [h1]
        rfl
      · show (true && (backToKw pos (keywordEach kws env)).all (·.1.isSome)) = true
        rw [h2]
        rfl
      · show (false || (backToKw pos (keywordEach kws env)).any (·.1.isNone)) = false
        rw [h3]
        rfl
theorem vals_nil {us : List Value} (h : Vals ([] : List V) us) : us = [] := by cases h; rfl
theorem de_call {id : Str} {p pos : Pos} {args : List Expr} {kws : List Keyword} {xs : List Ex} {f : Nat} {g : List (Nat ⊕ D)} (G : Good L W X k call sx) (hsh : (⟨id, args.length, kws.filterMap (·.arg), f, g⟩ : Shape) ∈ W.sh)
    (hkw : kws.all (·.arg.isSome) = true) (hs : args.all nostar = true) (hg : glB sx.sc id = true) (hdb : (id == ("__debug__" : Str)) = false) (h : PEs L call X (args ++ kws.map (·.value)) xs) :
    PE X (.Call (.Name id p) args kws pos) (tE L fun s m => (evEs call xs s m).bind fun ds m1 => (optB (arr g ds) m1).bind fun vs m2 => call f vs m2) := by
  obtain ⟨fa, fd, ps, hm, hk, hl, F, hb⟩ := (G.hsh _ hsh).ok
  obtain ⟨ys, zs, rfl, h1, h2⟩ := h.split
  have hA := h1.pa hs
  have hK := h2.pk
  obtain ⟨n1, n2, n3⟩ := kw_names (pos := pos) (env := X.env) hkw
  have hlen : ∀ {kws : List Keyword}, kws.all (·.arg.isSome) = true → (kws.filterMap (·.arg)).length = (kws.map (·.value)).length := by
    intro kws
    induction kws with
    | nil => intro _; rfl
    | cons a r ih =>
      intro h
      simp only [List.all_cons, Bool.and_eq_true] at h
      obtain ⟨nm, e, kp⟩ := a
      cases nm with
      | none => exact absurd h.1 (by simp)
      | some x => simp [ih h.2]
  have evLen : ∀ (xs : List Ex) (s : SD) (m m1 : Hd) (ds : List D), evEs call xs s m = .ok ds m1 → ds.length = xs.length := by
    intro xs
    induction xs with
    | nil => intro s m m1 ds e; simp only [evEs] at e; cases e; rfl
    | cons x xs ih =>
      intro s m m1 ds e
      simp only [evEs] at e
      cases e1 : evE call x s m with
      | ok d m2 =>
        rw [e1] at e
        simp only [R.bind_ok] at e
        cases e2 : evEs call xs s m2 with
        | ok ds' m3 =>
          rw [e2] at e
          simp only [R.bind_ok] at e
          cases e
          simp [ih _ _ _ _ e2]
        | exc => rw [e2] at e; cases e
        | no => rw [e2] at e; cases e
      | exc => rw [e1] at e; cases e
      | no => rw [e1] at e; cases e
  have lens : ∀ {as : List Expr} {xs : List Ex}, PEs L call X as xs → as.length = xs.length := by
    intro as xs h
    induction h with
    | nil => rfl
    | cons _ _ ih => simp [ih]
  refine ⟨fun pins s σ H Q I ⟨ρ, m, sd, S, E, o⟩ => ?_⟩
  dsimp only at o
  rw [evEs_app] at o
  refine wpAny_Call_Name_kw (ld_glob I (G.gl hg) hm ?_ hdb)
  -- behind the values by place
  have more : ∀ (us : List Value) (s1 : Shared) (vs : List V) (H1 : Hp), Inv X pins σ H1 s1 → Vals vs us → vs.length = args.length → (∃ ρ1 m1 ds, Sim L H1 ρ1 m1 ∧ EnvR L H1 ρ1 sd σ ∧ RvL L.K H1 ρ1 ds vs ∧
      Out L H1 ρ1 Q ((evEs call zs sd m1).bind fun es m2 => (optB (arr g (ds ++ es)) m2).bind (call f))) →
      wpAny (model X.prog X.w) X.A (evalAll ((backToKw pos (keywordEach kws X.env)).map (·.2))) (fun ks s₂ => X.K.In s₂.heap ∧ wpAny (model X.prog X.w) X.A (PySem.call (.ref fa) ([] ++ us) (((backToKw pos (keywordEach kws X.env)).filterMap (·.1)).zip ks)) (EP X pins σ Q) X.xe s₂) X.xe s1 := by
    rintro us s1 vs H1 I1 r1 l1 ⟨ρ1, m1, ds, S1, E1, rd, o1⟩
    have tz : tA L (evEs call zs) σ H1 fun ws H2 => ∃ ρ2 m2 es, Ext H1 ρ1 H2 ρ2 ∧ Sim L H2 ρ2 m2 ∧ RvL L.K H2 ρ2 es ws ∧ es.length = zs.length ∧ Out L H2 ρ2 Q ((optB (arr g (ds ++ es)) m2).bind (call f)) := by
      refine ⟨ρ1, m1, sd, S1, E1, ?_⟩
      cases e : evEs call zs sd m1 with
      | ok es m2 =>
        rw [e] at o1
        exact fun H2 ρ2 x2 S2 ws rw' => ⟨ρ2, m2, es, x2, S2, rw', evLen _ _ _ _ _ e, OutG.base (r := (optB (arr g (ds ++ es)) m2).bind (call f)) o1 x2⟩
      | exc => rw [e] at o1; exact o1.elim
      | no => rw [e] at o1; exact o1.elim
    refine thn (hK.run pos pins s1 σ H1 _ I1 tz) fun ws s2 ⟨wv, H2, I2, r2, ρ2, m2, es, x2, S2, re, le, o2⟩ => ⟨I2.kIn, ?_⟩
    rw [n1, List.nil_append]
    refine run_shape G.hK G.hr G.hg hl F hb I2 r1 r2 S2 ((rd.ext x2).app re) l1 ?_ o2
    rw [← re.len, le]
    show zs.length = (kws.filterMap (·.arg)).length
    rw [hlen hkw, lens h2]
  cases args with
  | nil =>
    refine PySem.W.callWith_KW0 (h₀ := X.base) I.ok.mod.kin hk n2 ?_ (by rw [show (backTo pos (starEach [] X.env)).any (·.1) = false from rfl, n3] <;> rfl)
    refine more [] s [] H I .nil rfl ?_
    cases h1
    refine ⟨ρ, m, [], S, E, rvl_nil, ?_⟩
    simp only [evEs, R.bind_ok, List.nil_append] at o ⊢
    cases e2 : evEs call zs sd m with
    | ok es m2 => rw [e2] at o; exact o
    | exc => rw [e2] at o; exact o
    | no => rw [e2] at o; exact o
  | cons a as =>
    simp only [List.all_cons, Bool.and_eq_true] at hs
    refine PySem.W.callWith_KW (h₀ := X.base) I.ok.mod.kin hk n2 ?_ ?_ (star_cons hs.1)
    · have ta : tA L (evEs call ys) σ H fun vs H1 => ∃ ρ1 m1 ds, Ext H ρ H1 ρ1 ∧ Sim L H1 ρ1 m1 ∧ RvL L.K H1 ρ1 ds vs ∧ ds.length = ys.length ∧ Out L H1 ρ1 Q ((evEs call zs sd m1).bind fun es m2 => (optB (arr g (ds ++ es)) m2).bind (call f)) := by
        refine ⟨ρ, m, sd, S, E, ?_⟩
        cases e : evEs call ys sd m with
        | ok ds m1 =>
          rw [e] at o
          simp only [R.bind_ok] at o
          have o' : Out L H ρ Q ((evEs call zs sd m1).bind fun es m2 => (optB (arr g (ds ++ es)) m2).bind (call f)) := by
            cases e2 : evEs call zs sd m1 with
            | ok es m2 => rw [e2] at o; exact o
            | exc => rw [e2] at o; exact o
            | no => rw [e2] at o; exact o
          exact fun H1 ρ1 x1 S1 vs rv => ⟨ρ1, m1, ds, x1, S1, rv, evLen _ _ _ _ _ e, OutG.base (r := (evEs call zs sd m1).bind fun es m2 => (optB (arr g (ds ++ es)) m2).bind (call f)) o' x1⟩
        | exc => rw [e] at o; exact o.elim
        | no => rw [e] at o; exact o.elim
      refine thn (hA.run pos pins s σ H _ I ta) fun us s1 ⟨vs, H1, I1, r1, ρ1, m1, ds, x1, S1, rd, ld, o1⟩ => ?_
      exact more us s1 vs H1 I1 r1 (by rw [← rd.len, ld, ← lens h1]) ⟨ρ1, m1, ds, S1, E.ext x1, rd, o1⟩
    · rw [star_cons hs.1]
      show ((false || (backTo pos (starEach as X.env)).any (·.1)) || _) = false
      rw [star_plain hs.2, n3]
      rfl
theorem de_lc {t iter elt : Expr} {ifs' : List Expr} {scope : Scope} {own : List (Str × Nat)} {pos : Pos} {fi : SD → Hd → R (List D × Gu)} {tgD : Tg} {c : SD → Hd → R Bool} {fe : ME} (b : Bool) (hc : X.calm = true) (hN : X.N.Nodup) (hi : PI X t iter (tI L fi)) (ok : BlkOk X.N X.env.scope scope own)
    (hg : ∀ (s : Shared) (H : Hp) (C : Addr) (cl : List (Str × Addr)) (fp : List Addr), PG (X.blk s H scope (compEnvC scope cl C X.env) fp) t (gD L tgD))
    (ht : ∀ (s : Shared) (H : Hp) (C : Addr) (cl : List (Str × Addr)) (fp : List Addr), PTs (X.blk s H scope (compEnvC scope cl C X.env) fp) ifs' (tT L c))
    (he : ∀ (s : Shared) (H : Hp) (C : Addr) (cl : List (Str × Addr)) (fp : List Addr), PE (X.blk s H scope (compEnvC scope cl C X.env) fp) elt (tE L fe))
    (hs : notSet iter = true) (hsl : ∀ i ∈ tgD.slots, i ∈ own.map (·.2)) :
    PE X (.ListComp elt [⟨t, iter, ifs', 0⟩] scope pos) (tE L fun s m => (fi s m).bind fun p m1 => ifs (decide (p.1.length ≤ sizeLine)) ((lcGo p.2 (lcStep tgD (wipeD s (own.map (·.2))) c fe) p.1 m1).bind (mkL b))) :=
  PE.weak (PE.fz b (pe_lc hc hN hi ok hg ht he (folded_ok hs))) fun σ H Q h => lc_run b hc hN hi ok hg ht he hsl h
/-- a list or dict is told to stay -/
theorem de_fz {e : Expr} {f : ME} (he : PE X e (tE L f)) : PE X e (tE L fun s m => (f s m).bind fzD) := by
  refine ⟨fun pins s σ H Q I ⟨ρ, m, sd, S, E, o⟩ => ?_⟩
  have h : tE L f σ H fun x H1 => QLk Q x H1 ∨ Q x H1 := by
    refine tE_then (k := fun _ => fzD) S E o fun x H1 ρ1 d m1 x1 S1 E1 rx o1 => ?_
    unfold fzD at o1
    split at o1
    next n =>
      split at o1
      next xs e1 =>
        obtain ⟨a, vs, ha, rfl, h1, h2⟩ := ref_lst S1 rx e1
        refine .inl ⟨a, _, rfl, h1, trivial, fun ob => ?_⟩
        have x2 : Ext H1 ρ1 (upd H1 a (.frz ob (.lst vs))) ρ1 := Ext.write ha h1 (by simp) (by simp)
        refine o1 _ _ x2 (S1.write ha h1 (by simp) (by simp) ⟨ob, _, upd_same⟩) _ ?_
        unfold Rv
        exact ⟨a, ob, vs, rfl, upd_same, h2.ext x2⟩
      next t kvs e1 =>
        unfold Rv at rx
        obtain ⟨a, ha, rfl⟩ := rx
        rcases S1.ob n a _ ha e1 with ⟨rfl, ps, h1, h2⟩ | ⟨rfl, ps, h1, h2⟩
        · refine .inl ⟨a, _, rfl, h1, trivial, fun ob => ?_⟩
          have x2 : Ext H1 ρ1 (upd H1 a (.frz ob (.dK ps))) ρ1 := Ext.write ha h1 (by simp) (by simp)
          refine o1 _ _ x2 (S1.write ha h1 (by simp) (by simp) ⟨ob, _, upd_same⟩) _ ?_
          unfold Rv
          exact ⟨a, ob, rfl, .inl ⟨rfl, ps, upd_same, RvK.mono x2.pre x2.tup x2.frz h2⟩⟩
        · refine .inl ⟨a, _, rfl, h1, trivial, fun ob => ?_⟩
          have x2 : Ext H1 ρ1 (upd H1 a (.frz ob (.dT ps))) ρ1 := Ext.write ha h1 (by simp) (by simp)
          refine o1 _ _ x2 (S1.write ha h1 (by simp) (by simp) ⟨ob, _, upd_same⟩) _ ?_
          unfold Rv
          exact ⟨a, ob, rfl, .inr ⟨rfl, ps, upd_same, RvT.mono x2.pre x2.tup x2.frz h2⟩⟩
      next => exact o1.elim
    next => exact .inr (out_val o1 S1 rx)
  refine thn (he.run pins s σ H _ I h) fun u s1 ⟨v, H1, I1, r, q⟩ => ?_
  rcases q with q | q
  · exact ep_lock ⟨v, H1, I1, r, q⟩
  · exact ⟨v, H1, I1, r, q⟩
end
end Dx
/-! DxM: the look is right: expressions -/
namespace Dx
open PySem PySem.Spec PyProof.Rows L2
structure Snd (L : Lnk) (W : Wd) (k : Nat) (call : Nat → List D → Hd → R D) (n : Nat) : Prop where
  E : ∀ X sx e x, Good L W X k call sx → chkE W n sx e x = true → PE X e (tE L (evE call x))
  Es : ∀ X sx es xs, Good L W X k call sx → chkEs W n sx es xs = true → PEs L call X es xs
  B : ∀ X sx op l x pos, Good L W X k call sx → chkB W n sx op l x = true → PE X (.BoolOp op l pos) (tE L (evE call x))
  O : ∀ X sx o x, Good L W X k call sx → chkO W n sx o x = true → PO X o (tO L fun s m => (evE call x s m).bind fun l m2 => optB (part (isAbs x) l) m2)
  T : ∀ X sx e t, Good L W X k call sx → chkT W n sx e t = true → PT X e (tT L (evT call t))
  W' : ∀ X sx op l t pos, Good L W X k call sx → chkW W n sx op l t = true → PW X (.BoolOp op l pos) (tT L (evT call t))
  C : ∀ X sx l t, Good L W X k call sx → chkC W n sx l t = true → PTs X l (tT L (evT call t))
  I : ∀ X sx tg e it, Good L W X k call sx → chkI W n sx e it = true → PI X tg e (tI L (evI call it))
  G : ∀ X sx e t, Good L W X k call sx → chkG W n sx e t = true → PG X e (gD L t)
  Gs : ∀ X sx es ts, Good L W X k call sx → es.all nostar = true → chkGs W n sx es ts = true → PGs X es (gsD L ts)
section
variable {L : Lnk} {W : Wd} {k : Nat} {call : Nat → List D → Hd → R D}
theorem isAbs_eq {x : Ex} (h : isAbs x = true) : x = .con .non := by
  unfold isAbs at h
  split at h
  · rfl
  · cases h
theorem own_ix {N : List Str} {own : List Nat} (h : (own.filterMap fun i => N[i]?.map fun x => (x, i)).map (·.2) = own) : True := trivial
theorem snd0 : Snd L W k call 0 where
  E := fun _ _ _ _ _ h => by simp [chkE] at h
  Es := fun _ _ _ _ _ h => by simp [chkEs] at h
  B := fun _ _ _ _ _ _ _ h => by simp [chkB] at h
  O := fun _ _ _ _ _ h => by simp [chkO] at h
  T := fun _ _ _ _ _ h => by simp [chkT] at h
  W' := fun _ _ _ _ _ _ _ h => by simp [chkW] at h
  C := fun _ _ _ _ _ h => by simp [chkC] at h
  I := fun _ _ _ _ _ _ h => by simp [chkI] at h
  G := fun _ _ _ _ _ h => by simp [chkG] at h
  Gs := fun _ _ _ _ _ _ h => by simp [chkGs] at h
theorem sndG {n : Nat} (ih : Snd L W k call n) (X : Cx) (sx : Sx) (e : Expr) (t : Tg) (G : Good L W X k call sx) (h : chkG W (n + 1) sx e t = true) : PG X e (gD L t) := by
  unfold chkG at h
  split at h
  next i =>
    split at h
    next id p =>
      simp only [Bool.and_eq_true, decide_eq_true_eq] at h
      exact dg_name (by rw [G.hN]; exact G.nd) (by rw [G.hN]; exact h.1) (G.loc h.2).1 (G.loc h.2).2
    next => cases h
  next ts =>
    split at h
    next es k p =>
      simp only [Bool.and_eq_true, decide_eq_true_eq] at h
      exact dg_tup G.hc h.1.1 h.1.2 (ih.Gs X sx es ts G h.1.1 h.2)
    next => cases h
theorem sndGs {n : Nat} (ih : Snd L W k call n) (X : Cx) (sx : Sx) (es : List Expr) (ts : List Tg) (G : Good L W X k call sx) (hs : es.all nostar = true) (h : chkGs W (n + 1) sx es ts = true) : PGs X es (gsD L ts) := by
  cases es with
  | nil =>
    cases ts with
    | nil => exact dgs_nil
    | cons t ts => simp [chkGs] at h
  | cons e es =>
    cases ts with
    | nil => simp [chkGs] at h
    | cons t ts =>
      simp only [chkGs, Bool.and_eq_true] at h
      simp only [List.all_cons, Bool.and_eq_true] at hs
      exact dgs_cons hs.1 (ih.G X sx e t G h.1) (ih.Gs X sx es ts G hs.2 h.2)
theorem sndEs {n : Nat} (ih : Snd L W k call n) (X : Cx) (sx : Sx) (es : List Expr) (xs : List Ex) (G : Good L W X k call sx) (h : chkEs W (n + 1) sx es xs = true) : PEs L call X es xs := by
  cases es with
  | nil =>
    cases xs with
    | nil => exact .nil
    | cons t ts => simp [chkEs] at h
  | cons e es =>
    cases xs with
    | nil => simp [chkEs] at h
    | cons t ts =>
      simp only [chkEs, Bool.and_eq_true] at h
      exact .cons (ih.E X sx e t G h.1) (ih.Es X sx es ts G h.2)
theorem sndC {n : Nat} (ih : Snd L W k call n) (X : Cx) (sx : Sx) (l : List Expr) (t : Te) (G : Good L W X k call sx) (h : chkC W (n + 1) sx l t = true) : PTs X l (tT L (evT call t)) := by
  match l with
  | [] =>
    cases t <;> first | (simp [chkC] at h; done) | exact dts_nil
  | [c] =>
    have h : chkT W n sx c t = true := by
      cases t <;> first | (simp only [chkC] at h; exact h)
    exact dts_one (ih.T X sx c t G h)
  | _ :: _ :: _ => cases t <;> simp [chkC] at h
theorem sndO {n : Nat} (ih : Snd L W k call n) (X : Cx) (sx : Sx) (o : Option Expr) (x : Ex) (G : Good L W X k call sx) (h : chkO W (n + 1) sx o x = true) : PO X o (tO L fun s m => (evE call x s m).bind fun l m2 => optB (part (isAbs x) l) m2) := by
  cases o with
  | none =>
    simp only [chkO] at h
    have e := isAbs_eq h
    subst e
    exact do_none
  | some e =>
    simp only [chkO, Bool.and_eq_true, Bool.not_eq_true'] at h
    rw [h.1]
    exact do_some (ih.E X sx e x G h.2)
theorem sndB {n : Nat} (ih : Snd L W k call n) (X : Cx) (sx : Sx) (op : BoolOp) (l : List Expr) (x : Ex) (pos : Pos) (G : Good L W X k call sx) (h : chkB W (n + 1) sx op l x = true) : PE X (.BoolOp op l pos) (tE L (evE call x)) := by
  match l with
  | [] => cases op <;> cases x <;> simp [chkB] at h
  | [a] =>
    have h : chkE W n sx a x = true := by cases op <;> cases x <;> simpa [chkB] using h
    exact pe_one (ih.E X sx a x G h)
  | a :: b :: r =>
    cases op with
    | And =>
      cases x <;> first | (simp [chkB] at h; done) | skip
      next x y =>
        simp only [chkB, Bool.and_eq_true] at h
        exact de_and (ih.E X sx a x G h.1) (ih.B X sx .And (b :: r) y pos G h.2)
    | Or =>
      cases x <;> first | (simp [chkB] at h; done) | skip
      next x y =>
        simp only [chkB, Bool.and_eq_true] at h
        exact de_or (ih.E X sx a x G h.1) (ih.B X sx .Or (b :: r) y pos G h.2)
theorem sndW {n : Nat} (ih : Snd L W k call n) (X : Cx) (sx : Sx) (op : BoolOp) (l : List Expr) (t : Te) (pos : Pos) (G : Good L W X k call sx) (h : chkW W (n + 1) sx op l t = true) : PW X (.BoolOp op l pos) (tT L (evT call t)) := by
  match l with
  | [] => cases op <;> cases t <;> simp [chkW] at h
  | [a] =>
    have h : chkT W n sx a t = true := by cases op <;> cases t <;> simpa [chkW] using h
    cases op with
    | And => exact pw_and1 (ih.T X sx a t G h)
    | Or => exact pw_or1 (ih.T X sx a t G h)
  | a :: b :: r =>
    cases op with
    | And =>
      cases t <;> first | (simp [chkW] at h; done) | skip
      next x y =>
        simp only [chkW, Bool.and_eq_true] at h
        exact dt_and (ih.T X sx a x G h.1) (ih.W' X sx .And (b :: r) y pos G h.2)
    | Or =>
      cases t <;> first | (simp [chkW] at h; done) | skip
      next x y =>
        simp only [chkW, Bool.and_eq_true] at h
        exact dt_or (ih.T X sx a x G h.1) (ih.W' X sx .Or (b :: r) y pos G h.2)
theorem sndT {n : Nat} (ih : Snd L W k call n) (X : Cx) (sx : Sx) (e : Expr) (t : Te) (G : Good L W X k call sx) (h : chkT W (n + 1) sx e t = true) : PT X e (tT L (evT call t)) := by
  cases t with
  | cmp o x y =>
    simp only [chkT] at h
    split at h
    next a op c p =>
      simp only [Bool.and_eq_true] at h
      obtain ⟨⟨⟨h1, h2⟩, h3⟩, h4⟩ := h
      rw [copB_ok h1]
      exact dt_cmp G.hK G.hu o (ih.E X sx a x G h3) (ih.E X sx c y G h4) h2
    next => cases h
  | chain o o' x y z =>
    simp only [chkT] at h
    split at h
    next a op op' b c p =>
      simp only [Bool.and_eq_true] at h
      obtain ⟨⟨⟨⟨⟨h1, h2⟩, h3⟩, h4⟩, h5⟩, h6⟩ := h
      rw [copB_ok h1, copB_ok h2]
      exact dt_chain G.hK G.hu o o' (ih.E X sx a x G h4) (ih.E X sx b y G h5) (ih.E X sx c z G h6) h3
    next => cases h
  | and x y =>
    simp only [chkT] at h
    split at h
    next a b rest pos =>
      simp only [Bool.and_eq_true] at h
      exact (dt_and (ih.T X sx a x G h.1) (ih.W' X sx .And (b :: rest) y pos G h.2)).pt
    next => cases h
  | or x y =>
    simp only [chkT] at h
    split at h
    next a b rest pos =>
      simp only [Bool.and_eq_true] at h
      exact (dt_or (ih.T X sx a x G h.1) (ih.W' X sx .Or (b :: rest) y pos G h.2)).pt
    next => cases h
  | not x =>
    simp only [chkT] at h
    split at h
    next a p => exact dt_not (ih.T X sx a x G h)
    next => cases h
  | val x =>
    simp only [chkT, Bool.and_eq_true] at h
    exact dt_val G.hK h.1 (ih.E X sx e x G h.2)
  | yes => simp [chkT] at h
theorem sndI {n : Nat} (ih : Snd L W k call n) (X : Cx) (sx : Sx) (tg e : Expr) (it : Iw) (G : Good L W X k call sx) (h : chkI W (n + 1) sx e it = true) : PI X tg e (tI L (evI call it)) := by
  cases it with
  | seq x =>
    simp only [chkI] at h
    exact di_seq G.hK (ih.E X sx e x G h)
  | rng lo hi =>
    simp only [chkI] at h
    split at h
    next id p a pos =>
      simp only [Bool.and_eq_true, decide_eq_true_eq] at h
      obtain ⟨⟨⟨⟨⟨rfl, h2⟩, h3⟩, h4⟩, h5⟩, h6⟩ := h
      split at h5
      next => exact di_rng1 (G.gl h3) (G.bmem h2) h4 (ih.E X sx a hi G h6)
      next => cases h5
    next id p a b pos =>
      simp only [Bool.and_eq_true, decide_eq_true_eq] at h
      obtain ⟨⟨⟨⟨⟨⟨rfl, h2⟩, h3⟩, h4⟩, h5⟩, h6⟩, h7⟩ := h
      exact di_rng2 (G.gl h3) (G.bmem h2) h4 h5 (ih.E X sx a lo G h6) (ih.E X sx b hi G h7)
    next => cases h
  | _ => simp [chkI] at h
theorem sndE {n : Nat} (ih : Snd L W k call n) (X : Cx) (sx : Sx) (e : Expr) (x : Ex) (G : Good L W X k call sx) (h : chkE W (n + 1) sx e x = true) : PE X e (tE L (evE call x)) := by
  cases x with
  | var i =>
    simp only [chkE] at h
    split at h
    next id p =>
      simp only [Bool.and_eq_true, decide_eq_true_eq] at h
      obtain ⟨⟨⟨h1, h2⟩, h3⟩, h4⟩ := h
      exact de_var (by rw [G.hN]; exact h1) (G.vis h2) (ne_beq h3) (ne_beq h4)
    next => cases h
  | con d =>
    simp only [chkE] at h
    split at h
    next c k' p => exact de_con (by simpa using h)
    next id p =>
      simp only [Bool.and_eq_true, List.any_eq_true, decide_eq_true_eq] at h
      obtain ⟨⟨⟨q, h1, rfl⟩, h2⟩, h3⟩ := h
      obtain ⟨v, u, g1, g2, g3⟩ := G.hglb _ h1
      exact de_glob g1 (G.gl h2) g2 g3 (ne_beq h3)
    next => cases h
  | bin b o x y =>
    simp only [chkE] at h
    split at h
    next a op c p =>
      simp only [Bool.and_eq_true] at h
      rw [opB_ok h.1.1]
      exact de_bin b o (ih.E X sx a x G h.1.2) (ih.E X sx c y G h.2)
    next => cases h
  | neg x =>
    simp only [chkE] at h
    split at h
    next a p => exact de_neg (ih.E X sx a x G h)
    next => cases h
  | cmp o x y =>
    simp only [chkE] at h
    split at h
    next a op c p =>
      simp only [Bool.and_eq_true] at h
      obtain ⟨⟨⟨h1, h2⟩, h3⟩, h4⟩ := h
      rw [copB_ok h1]
      exact de_cmp G.hK G.hu o (ih.E X sx a x G h3) (ih.E X sx c y G h4) h2
    next => cases h
  | chain o o' x y z =>
    simp only [chkE] at h
    split at h
    next a op op' b c p =>
      simp only [Bool.and_eq_true] at h
      obtain ⟨⟨⟨⟨⟨h1, h2⟩, h3⟩, h4⟩, h5⟩, h6⟩ := h
      rw [copB_ok h1, copB_ok h2]
      exact de_chain G.hK G.hu o o' (ih.E X sx a x G h4) (ih.E X sx b y G h5) (ih.E X sx c z G h6) h3
    next => cases h
  | and x y =>
    simp only [chkE] at h
    split at h
    next a b rest pos =>
      simp only [Bool.and_eq_true] at h
      exact de_and (ih.E X sx a x G h.1) (ih.B X sx .And (b :: rest) y pos G h.2)
    next => cases h
  | or x y =>
    simp only [chkE] at h
    split at h
    next a b rest pos =>
      simp only [Bool.and_eq_true] at h
      exact de_or (ih.E X sx a x G h.1) (ih.B X sx .Or (b :: rest) y pos G h.2)
    next => cases h
  | not x =>
    simp only [chkE] at h
    split at h
    next a p => exact de_not (ih.E X sx a x G h)
    next => cases h
  | cond c x y =>
    simp only [chkE] at h
    split at h
    next t a b p =>
      simp only [Bool.and_eq_true] at h
      exact de_cond (ih.T X sx t c G h.1.1) (ih.E X sx a x G h.1.2) (ih.E X sx b y G h.2)
    next => cases h
  | tup es =>
    simp only [chkE] at h
    split at h
    next l k' p =>
      simp only [Bool.and_eq_true] at h
      exact de_tup ((ih.Es X sx l es G h.2).pa h.1)
    next => cases h
  | lst b es =>
    simp only [chkE] at h
    split at h
    next l p =>
      simp only [Bool.and_eq_true] at h
      exact de_lst b ((ih.Es X sx l es G h.2).pa h.1)
    next => cases h
  | dnew t =>
    simp only [chkE] at h
    split at h
    next => exact de_dnew t
    next => cases h
  | ix x y =>
    simp only [chkE] at h
    split at h
    next a c p =>
      simp only [Bool.and_eq_true] at h
      exact de_ix G.hK G.hu h.1.1 (ih.E X sx a x G h.1.2) (ih.E X sx c y G h.2)
    next => cases h
  | sl b x lo hi =>
    simp only [chkE] at h
    split at h
    next a l hh p1 p2 =>
      simp only [Bool.and_eq_true] at h
      exact de_sl G.hK b (ih.E X sx a x G h.1.1) (ih.O X sx l lo G h.1.2) (ih.O X sx hh hi G h.2)
    next => cases h
  | rev b x =>
    simp only [chkE] at h
    split at h
    next a k' p1 p2 p3 p4 => exact de_rev G.hK b (ih.E X sx a x G h)
    next => cases h
  | call f es g =>
    simp only [chkE] at h
    split at h
    next id p args kws pos =>
      simp only [Bool.and_eq_true, List.any_eq_true, decide_eq_true_eq] at h
      obtain ⟨⟨⟨⟨⟨⟨sh, h1, rfl⟩, h2⟩, h3⟩, h4⟩, h5⟩, h6⟩ := h
      exact de_call G h1 h2 h3 h4 (ne_beq h5) (ih.Es X sx _ es G h6)
    next => cases h
  | bi f es =>
    simp only [chkE] at h
    split at h
    next id p args pos =>
      split at h
      next t a y p2 x =>
        simp only [Bool.and_eq_true, decide_eq_true_eq] at h
        obtain ⟨⟨⟨⟨⟨⟨⟨rfl, h2⟩, h3⟩, h4⟩, h5⟩, h6⟩, h7⟩, h8⟩ := h
        subst h4
        obtain ⟨b1, b2, b3⟩ := ty_boot t
        have hx := de_isinst (L := L) (pos := pos) (p := p) (p2 := p2) G.hK (G.gl h3) (G.bmem h2) (G.gl h6) (G.bmem h5) b1 b2 b3 h7 (ih.E X sx a x G h8)
        refine PE.weak hx fun σ H Q ⟨ρ, m, s, S, E, o⟩ => ⟨ρ, m, s, S, E, ?_⟩
        simp only [evE, evEs] at o
        dsimp only
        cases e : evE call x s m with
        | ok d m1 => rw [e] at o; exact o
        | exc => rw [e] at o; exact o
        | no => rw [e] at o; exact o
      next hyp =>
        simp only [Bool.and_eq_true, decide_eq_true_eq, Bool.not_eq_true', List.isEmpty_eq_false_iff] at h
        obtain ⟨⟨⟨⟨⟨⟨h1, rfl⟩, h3⟩, h4⟩, h5⟩, h6⟩, h7⟩ := h
        have hv : ∃ v, biE f = some v := by cases f <;> first | exact ⟨_, rfl⟩ | (cases h1)
        obtain ⟨v, hv⟩ := hv
        obtain ⟨b1, b2, b3⟩ := bi_boot hv
        exact de_bi G.hK G.hu G.hg G.hc hv (G.gl h4) (G.bmem h3) b1 b2 b3 h5 h6 ((ih.Es X sx args es G h7).pa h5)
    next => cases h
  | mt f x es =>
    simp only [chkE] at h
    split at h
    next o name apos args cpos =>
      simp only [Bool.and_eq_true, decide_eq_true_eq, Bool.not_eq_true', List.isEmpty_eq_false_iff] at h
      obtain ⟨⟨⟨⟨⟨⟨⟨rfl, h2⟩, h3⟩, h4⟩, h5⟩, h6⟩, h7⟩, h8⟩ := h
      cases args with
      | nil => exact absurd rfl h4
      | cons a as => exact de_mt G.hK G.hu f (ih.E X sx o x G h7) ((ih.Es X sx _ es G h8).pa h3) h2 h3 h5 h6
    next => cases h
  | lc b own tg it c y =>
    simp only [chkE] at h
    split at h
    next elt t iter ifs' scope pos =>
      simp only [Bool.and_eq_true, decide_eq_true_eq, List.all_eq_true] at h
      obtain ⟨⟨⟨⟨⟨⟨⟨h1, h2⟩, h3⟩, h4⟩, h5⟩, h6⟩, h7⟩, h8⟩ := h
      have ok : BlkOk W.N sx.sc scope (own.filterMap fun i => W.N[i]?.map fun x => (x, i)) := blkOk_by h1
      have ok' : BlkOk X.N X.env.scope scope (own.filterMap fun i => W.N[i]?.map fun x => (x, i)) := by rw [G.hN, G.hsc]; exact ok
      have key := de_lc (L := L) (pos := pos) b G.hc (by rw [G.hN]; exact G.nd) (ih.I X sx t iter it G h5) ok'
        (fun s H C cl fp => ih.G _ _ t tg (G.blk ok s H C cl fp) h6) (fun s H C cl fp => ih.C _ _ ifs' c (G.blk ok s H C cl fp) h7) (fun s H C cl fp => ih.E _ _ elt y (G.blk ok s H C cl fp) h8) h3
        (fun i hi => by rw [h2]; simpa using h4 i hi)
      rw [h2] at key
      exact key
    next => cases h
  | fz x =>
    simp only [chkE] at h
    exact de_fz (ih.E X sx e x G h)
theorem snd_all : ∀ n, Snd L W k call n
  | 0 => snd0
  | n + 1 =>
    have ih := snd_all n
    ⟨fun X sx e x G h => sndE ih X sx e x G h, fun X sx es xs G h => sndEs ih X sx es xs G h, fun X sx op l x pos G h => sndB ih X sx op l x pos G h, fun X sx o x G h => sndO ih X sx o x G h,
      fun X sx e t G h => sndT ih X sx e t G h, fun X sx op l t pos G h => sndW ih X sx op l t pos G h, fun X sx l t G h => sndC ih X sx l t G h, fun X sx tg e it G h => sndI ih X sx tg e it G h,
      fun X sx e t G h => sndG ih X sx e t G h, fun X sx es ts G hs h => sndGs ih X sx es ts G hs h⟩
end
end Dx
/-! DxN: the look at statements -/
namespace Dx
open PySem PySem.Spec PyProof.Rows L2

def swapB (sc : Scope) (t v : Expr) : Option Bool := match v with
  | .ListComp _ _ s lp => match t with
    | .Name y py => some (sc.names.lookup y == some .local && py.line == lp.line && !(s.names.any fun (n, k) => n == y && (k == .local || k == .cell)))
    | _ => some false
  | .SetComp .. => none
  | .DictComp .. => none
  | _ => some false
theorem swapB_ok {t v : Expr} {b : Bool} {env : Env} {l : Nat} (hk : env.scope.kind = .function) (h : swapB env.scope t v = some b) : swapsWithSole [t] v l env = pure b := by
  have hb : env.blockKind = .function := by unfold Env.blockKind; rw [hk]; rfl
  cases v
  case ListComp elt gs s lp =>
    cases t
    case Name y py =>
      cases h
      unfold swapsWithSole swapsWith
      simp only [hb, Expr.pos]
      rfl
    all_goals (cases h; rfl)
  case SetComp => cases h
  case DictComp => cases h
  all_goals (cases h; rfl)
def swpO (sc : Scope) (t v : Expr) : Option (Option (List Str)) := match t, v with
  | .Tuple ts _ _, .Tuple vs _ _ => swP sc ts vs
  | .List .., .Tuple .. => none
  | _, _ => some none
theorem swP_ok {ts vs : List Expr} {k1 k2 p1 p2} {env : Env} {r : Option (List Str)} (hk : env.scope.kind = .function) (h : swP env.scope ts vs = some r) : swappedStores [.Tuple ts k1 p1] (.Tuple vs k2 p2) env = pure r := by
  have hb : env.blockKind = .function := by unfold Env.blockKind; rw [hk]; rfl
  unfold swP at h
  unfold swappedStores
  simp only [hb, bne_self_eq_false, Bool.or_false]
  dsimp only at h
  split at h
  next c => cases h; exact if_pos c
  next c =>
  refine (if_neg c).trans ?_
  split at h
  next c => cases h; exact if_pos c
  next c =>
  refine (if_neg c).trans ?_
  split at h
  next c => cases h; exact if_pos c
  next c =>
  refine (if_neg c).trans ?_
  split at h
  next c => cases h; exact if_pos c
  next c =>
  refine (if_neg c).trans ?_
  split at h
  next c => cases h
  next c =>
  cases h
  exact if_neg c
theorem swpO_ok {t v : Expr} {env : Env} {r : Option (List Str)} (hk : env.scope.kind = .function) (h : swpO env.scope t v = some r) : swappedStores [t] v env = pure r := by
  cases v
  case Tuple vs k2 p2 =>
    cases t
    case Tuple ts k1 p1 => exact swP_ok hk h
    case List => cases h
    all_goals (cases h; rfl)
  all_goals (cases t <;> (cases h; rfl))

mutual
def chkS (W : Wd) (n : Nat) : Nat → Sx → Stmt → Sm → Bool
  | 0, _, _, _ => false
  | f + 1, sx, st, x => match x with
    | .asg tg e => match st with
      | .Assign [t] v _ => match swapB sx.sc t v with
        | some true => match t, tg, e with
          | .Name y _, .name i, .lc .. => decide (W.N[i]? = some y) && (sx.sc.names.lookup y == some .local) && chkE W (n + 1) sx v e
          | _, _, _ => false
        | some false => match swpO sx.sc t v with
          | some none => nostar t && chkE W n sx v e && chkG W n sx t tg
          | some (some ns) => match t, tg, v, e with
            | .Tuple [.Name x _, .Name y _] _ _, .tup [.name i, .name j], .Tuple [a, b] _ _, .tup es =>
              decide (ns = [x, y]) && decide (W.N[i]? = some x) && decide (W.N[j]? = some y) && decide (i ≠ j) && (sx.sc.names.lookup x == some .local) && (sx.sc.names.lookup y == some .local) && [a, b].all nostar && chkEs W n sx [a, b] es
            | .Tuple [.Name x _, .Name y _, .Name z _] _ _, .tup [.name i, .name j, .name l], .Tuple [a, b, c] _ _, .tup es =>
              decide (ns = [x, y, z]) && decide (W.N[i]? = some x) && decide (W.N[j]? = some y) && decide (W.N[l]? = some z) && decide (i ≠ j) && decide (i ≠ l) && decide (j ≠ l) && (sx.sc.names.lookup x == some .local) && (sx.sc.names.lookup y == some .local) && (sx.sc.names.lookup z == some .local) && [a, b, c].all nostar && chkEs W n sx [a, b, c] es
            | _, _, _, _ => false
          | none => false
        | none => false
      | _ => false
    | .setix o i e => match st with
      | .Assign [.Subscript a c _] v _ => plainIx c && !isComp v && chkE W n sx a o && chkE W n sx c i && chkE W n sx v e
      | _ => false
    | .exp e => match st with
      | .Expr v _ => !isComp v && chkE W n sx v e
      | _ => false
    | .ret e => match st with
      | .Return (some v) _ => chkE W n sx v e
      | .Return none _ => match e with
        | .con .non => true
        | _ => false
      | _ => false
    | .iff c a b => match st with
      | .If t u v _ => chkT W n sx t c && chkSs W n f sx u a && chkSs W n f sx v b
      | _ => false
    | .fr tg it body => match st with
      | .For t iter u [] _ => notSet iter && chkI W n sx iter it && chkG W n sx t tg && chkSs W n f sx u body
      | _ => false
    | .whl c body => match st with
      | .While t u [] _ => chkT W n sx t c && chkSs W n f sx u body
      | _ => false
    | .pass => match st with
      | .Pass _ => true
      | .Expr (.Constant (.str _) _ _) _ => true
      | _ => false
    | .never => true
def chkSs (W : Wd) (n : Nat) : Nat → Sx → List Stmt → List Sm → Bool
  | 0, _, _, _ => false
  | _ + 1, _, [], [] => true
  | f + 1, sx, s :: ss, x :: xs => chkS W n f sx s x && chkSs W n f sx ss xs
  | _, _, _, _ => false
end
section
variable {L : Lnk} {X : Cx}
theorem bind_three {i j l : Nat} {ds : List D} {s s1 : SD} (h : bindTg (.tup [.name i, .name j, .name l]) (.tup ds) s = some s1) : ∃ d e f, ds = [d, e, f] ∧ s1 = ((s.set i (some d)).set j (some e)).set l (some f) := by
  unfold bindTg at h
  cases ds with
  | nil => unfold bindTgs at h; cases h
  | cons d ds =>
    unfold bindTgs bindTg at h
    obtain ⟨e, f, rfl, rfl⟩ := bind_two (by unfold bindTg; exact (show bindTgs [.name j, .name l] ds (s.set i (some d)) = some s1 from h))
    exact ⟨d, e, f, rfl, rfl⟩
theorem rvl3 {K : PySem.W.Frag} {H : Hp} {ρ : List Addr} {d e f : D} {vs : List V} (h : RvL K H ρ [d, e, f] vs) : ∃ u v w, vs = [u, v, w] ∧ Rv K H ρ d u ∧ Rv K H ρ e v ∧ Rv K H ρ f w := by
  have hl := h.len
  match vs, hl with
  | [u, v, w], _ =>
    refine ⟨u, v, w, rfl, ?_, ?_, ?_⟩
    · obtain ⟨x, h1, h2⟩ := h.get (i := 0) rfl
      cases h1; exact h2
    · obtain ⟨x, h1, h2⟩ := h.get (i := 1) rfl
      cases h1; exact h2
    · obtain ⟨x, h1, h2⟩ := h.get (i := 2) rfl
      cases h1; exact h2
theorem ds_par3 {i j l : Nat} {x y z : Str} {a b c : Expr} {g : SD → Hd → R (List D)} {px py pz pt pos : Pos} {kt k2 pt2} (hc : X.calm = true) (hN : X.N.Nodup) (hi : X.N[i]? = some x) (hj : X.N[j]? = some y) (hl : X.N[l]? = some z) (hij : i ≠ j) (hil : i ≠ l) (hjl : j ≠ l)
    (hx : X.env.scope.names.lookup x = some .local) (hy : X.env.scope.names.lookup y = some .local) (hz : X.env.scope.names.lookup z = some .local) (ha : PA X [a, b, c] (tA L g))
    (hw : swappedStores [.Tuple [.Name x px, .Name y py, .Name z pz] kt pt] (.Tuple [a, b, c] k2 pt2) X.env = pure (some [x, y, z])) :
    PS X (.Assign [.Tuple [.Name x px, .Name y py, .Name z pz] kt pt] (.Tuple [a, b, c] k2 pt2) pos) (tS L fun s m => ((g s m).bind fun ds m1 => ifs (decide (ds.length ≤ sizeLine)) (.ok (.tup ds) m1)).bind (asgD (.tup [.name i, .name j, .name l]) s)) := by
  refine PS.weak (ps_par3 (k2 := k2) (pt2 := pt2) hc hN hi hj hl hij hil hjl hx hy hz ha hw) fun D σ H ⟨ρ, m, s, S, E, o⟩ => ?_
  have o : OutG L H ρ (FlP L D) ((g s m).bind fun ds m1 => (ifs (decide (ds.length ≤ sizeLine)) (R.ok (Dx.D.tup ds) m1)).bind (asgD (.tup [.name i, .name j, .name l]) s)) := by
    dsimp only at o
    cases h : g s m with
    | ok ds m1 => rw [h] at o; exact o
    | exc => rw [h] at o; exact o
    | no => rw [h] at o; exact o
  refine tA_then (k := fun s ds m1 => (ifs (decide (ds.length ≤ sizeLine)) (R.ok (Dx.D.tup ds) m1)).bind (asgD (.tup [.name i, .name j, .name l]) s)) S E o fun vs H1 ρ1 ds m1 x1 S1 E1 rs o1 => ?_
  cases hd : decide (ds.length ≤ sizeLine) with
  | false => rw [hd] at o1; exact o1.elim
  | true =>
    rw [hd] at o1
    have o1 : OutG L H1 ρ1 (FlP L D) (asgD (.tup [.name i, .name j, .name l]) s (Dx.D.tup ds) m1) := o1
    unfold asgD at o1
    cases hb : bindTg (.tup [.name i, .name j, .name l]) (Dx.D.tup ds) s with
    | none => rw [hb] at o1; exact o1.elim
    | some s1 =>
      rw [hb] at o1
      obtain ⟨d, e, f, rfl, rfl⟩ := bind_three hb
      obtain ⟨u, v, w, rfl, r1, r2, r3⟩ := rvl3 rs
      exact ⟨u, v, w, rfl, o1.here S1 _ (((E1.set r1).set r2).set r3)⟩
theorem ds_retN {pos : Pos} : PS X (.Return none pos) (tS L fun s m => .ok (.ret .non) m) := PS.weak ps_retN fun D σ H ⟨ρ, m, s, S, E, o⟩ => o.here S .non (by simp [Rv])
end
section
variable {L : Lnk} {W : Wd} {k : Nat} {call : Nat → List D → Hd → R D}
theorem lk_eq {a b : Option NameKind} (h : (a == b) = true) : a = b := by simpa using h
structure SndS (L : Lnk) (W : Wd) (k : Nat) (call : Nat → List D → Hd → R D) (n f : Nat) : Prop where
  S : ∀ (X : Cx) (sx : Sx) (st : Stmt) (x : Sm), Good L W X k call sx → PassesOwn (model X.prog X.w) X.A X.env X.xe → chkS W n f sx st x = true → PS X st (tS L (evS call x))
  Ss : ∀ (X : Cx) (sx : Sx) (st : List Stmt) (x : List Sm), Good L W X k call sx → PassesOwn (model X.prog X.w) X.A X.env X.xe → chkSs W n f sx st x = true → PSs X st (tS L (evB call x))
theorem sndSs {n f : Nat} (ih : SndS L W k call n f) (X : Cx) (sx : Sx) (st : List Stmt) (x : List Sm) (G : Good L W X k call sx) (hp : PassesOwn (model X.prog X.w) X.A X.env X.xe) (h : chkSs W n (f + 1) sx st x = true) : PSs X st (tS L (evB call x)) := by
  cases st with
  | nil =>
    cases x with
    | nil => exact ds_nil
    | cons t ts => simp [chkSs] at h
  | cons e es =>
    cases x with
    | nil => simp [chkSs] at h
    | cons t ts =>
      simp only [chkSs, Bool.and_eq_true] at h
      exact ds_cons (ih.S X sx e t G hp h.1) (ih.Ss X sx es ts G hp h.2)
theorem sndAsg {n : Nat} {X : Cx} {sx : Sx} {t v : Expr} {pos : Pos} {tg : Tg} {e : Ex} (G : Good L W X k call sx) (f : Nat) (h : chkS W n (f + 1) sx (.Assign [t] v pos) (.asg tg e) = true) : PS X (.Assign [t] v pos) (tS L (evS call (.asg tg e))) := by
  have snd := snd_all (L := L) (W := W) (k := k) (call := call) n
  have hk : X.env.scope.kind = .function := by rw [G.hsc]; exact G.kd
  simp only [chkS] at h
  split at h
  next hsw =>
    rw [← G.hsc] at hsw
    have hsw' := swapB_ok (l := pos.line) hk hsw
    split at h
    next y py i b own tgD it c ex =>
      simp only [Bool.and_eq_true, decide_eq_true_eq] at h
      obtain ⟨⟨h1, h2⟩, h3⟩ := h
      simp only [chkE] at h3
      split at h3
      next elt t' iter ifs' scope lpos =>
        simp only [Bool.and_eq_true, decide_eq_true_eq, List.all_eq_true] at h3
        obtain ⟨⟨⟨⟨⟨⟨⟨g1, g2⟩, g3⟩, g4⟩, g5⟩, g6⟩, g7⟩, g8⟩ := h3
        have ok : BlkOk W.N sx.sc scope (own.filterMap fun i => W.N[i]?.map fun x => (x, i)) := blkOk_by g1
        have ok' : BlkOk X.N X.env.scope scope (own.filterMap fun i => W.N[i]?.map fun x => (x, i)) := by rw [G.hN, G.hsc]; exact ok
        have key := ds_setlc (L := L) (py := py) (spos := pos) (pos := lpos) b G.hc (by rw [G.hN]; exact G.nd) (by rw [G.hN]; exact h1) (by rw [G.hsc]; exact lk_eq h2) hsw' (snd.I X sx t' iter it G g5) ok'
          (fun s H C cl fp => snd.G _ _ t' tgD (G.blk ok s H C cl fp) g6) (fun s H C cl fp => snd.C _ _ ifs' c (G.blk ok s H C cl fp) g7) (fun s H C cl fp => snd.E _ _ elt ex (G.blk ok s H C cl fp) g8) (folded_ok g3)
          (fun j hj => by rw [g2]; simpa using g4 j hj)
        rw [g2] at key
        exact key
      next => cases h3
    next => cases h
  next hsw =>
    rw [← G.hsc] at hsw
    have hsw' := swapB_ok (l := pos.line) hk hsw
    split at h
    next hw =>
      rw [← G.hsc] at hw
      have hw' := swpO_ok hk hw
      simp only [Bool.and_eq_true] at h
      exact ds_asg (snd.E X sx v e G h.1.2) (snd.G X sx t tg G h.2) hsw' hw' h.1.1
    next ns hw =>
      rw [← G.hsc] at hw
      have hw' := swpO_ok hk hw
      split at h
      next x px y py kt pt i j a b k2 pt2 es =>
        simp only [Bool.and_eq_true, decide_eq_true_eq] at h
        obtain ⟨⟨⟨⟨⟨⟨⟨h1, h2⟩, h3⟩, h4⟩, h5⟩, h6⟩, h7⟩, h8⟩ := h
        rw [h1] at hw'
        exact ds_par G.hc (by rw [G.hN]; exact G.nd) (by rw [G.hN]; exact h2) (by rw [G.hN]; exact h3) h4 (by rw [G.hsc]; exact lk_eq h5) (by rw [G.hsc]; exact lk_eq h6) ((snd.Es X sx _ es G h8).pa h7) hw'
      next x px y py z pz kt pt i j l a b c k2 pt2 es =>
        simp only [Bool.and_eq_true, decide_eq_true_eq] at h
        obtain ⟨⟨⟨⟨⟨⟨⟨⟨⟨⟨⟨h1, h2⟩, h3⟩, h3'⟩, h4⟩, h4'⟩, h4''⟩, h5⟩, h6⟩, h6'⟩, h7⟩, h8⟩ := h
        rw [h1] at hw'
        exact ds_par3 G.hc (by rw [G.hN]; exact G.nd) (by rw [G.hN]; exact h2) (by rw [G.hN]; exact h3) (by rw [G.hN]; exact h3') h4 h4' h4'' (by rw [G.hsc]; exact lk_eq h5) (by rw [G.hsc]; exact lk_eq h6) (by rw [G.hsc]; exact lk_eq h6') ((snd.Es X sx _ es G h8).pa h7) hw'
      next => cases h
    next => cases h
  next => cases h
theorem sndS {n f : Nat} (ih : SndS L W k call n f) (X : Cx) (sx : Sx) (st : Stmt) (x : Sm) (G : Good L W X k call sx) (hp : PassesOwn (model X.prog X.w) X.A X.env X.xe) (h : chkS W n (f + 1) sx st x = true) : PS X st (tS L (evS call x)) := by
  have snd := snd_all (L := L) (W := W) (k := k) (call := call) n
  cases x with
  | asg tg e =>
    cases st
    case Assign ts v pos =>
      match ts with
      | [] => simp [chkS] at h
      | [t] => exact sndAsg G f h
      | _ :: _ :: _ => simp [chkS] at h
    all_goals simp [chkS] at h
  | setix o i e =>
    simp only [chkS] at h
    split at h
    next a c p v pos =>
      simp only [Bool.and_eq_true, Bool.not_eq_true'] at h
      obtain ⟨⟨⟨⟨h1, h2⟩, h3⟩, h4⟩, h5⟩ := h
      exact ds_setix G.hu h1 h2 (snd.E X sx a o G h3) (snd.E X sx c i G h4) (snd.E X sx v e G h5)
    next => cases h
  | exp e =>
    simp only [chkS] at h
    split at h
    next v pos =>
      simp only [Bool.and_eq_true, Bool.not_eq_true'] at h
      exact ds_exp h.1 (snd.E X sx v e G h.2)
    next => cases h
  | ret e =>
    simp only [chkS] at h
    split at h
    next v pos => exact ds_ret (snd.E X sx v e G h)
    next pos =>
      split at h
      next => exact ds_retN
      next => cases h
    next => cases h
  | iff c a b =>
    simp only [chkS] at h
    split at h
    next t u v pos =>
      simp only [Bool.and_eq_true] at h
      exact ds_if (snd.T X sx t c G h.1.1) (ih.Ss X sx u a G hp h.1.2) (ih.Ss X sx v b G hp h.2)
    next => cases h
  | fr tg it body =>
    simp only [chkS] at h
    split at h
    next t iter u pos =>
      simp only [Bool.and_eq_true] at h
      exact ds_for hp G.hc (snd.I X sx t iter it G h.1.1.2) (snd.G X sx t tg G h.1.2) (ih.Ss X sx u body G hp h.2) h.1.1.1
    next => cases h
  | whl c body =>
    simp only [chkS] at h
    split at h
    next t u pos =>
      simp only [Bool.and_eq_true] at h
      exact ds_while loopF hp (snd.T X sx t c G h.1) (ih.Ss X sx u body G hp h.2)
    next => cases h
  | pass =>
    simp only [chkS] at h
    split at h
    next => exact ds_pass
    next => exact ds_doc
    next => cases h
  | never => exact ds_never
theorem snds_all (n : Nat) : ∀ f, SndS L W k call n f
  | 0 => ⟨fun X sx st x G hp h => by simp [chkS] at h, fun X sx st x G hp h => by simp [chkSs] at h⟩
  | f + 1 =>
    have ih := snds_all n f
    ⟨fun X sx st x G hp h => sndS ih X sx st x G hp h, fun X sx st x G hp h => sndSs ih X sx st x G hp h⟩
end
end Dx
/-! DxO: a def by its body; the levels -/
namespace Dx
open PySem PySem.Spec PyProof.Rows L2

/-! ### what is forgotten at a return -/
theorem und_key (k : Nat) (x : Key) : D.und k (kD x) = true := by cases x <;> simp [kD, D.und]
theorem und_keys (k : Nat) : ∀ xs : List Key, D.undL k (xs.map kD) = true
  | [] => by simp [D.undL]
  | x :: xs => by simp [D.undL, und_key, und_keys k xs]
section
variable {K : PySem.W.Frag} {H : Hp} {ρ ρ' : List Addr}
mutual
theorem rv_und : ∀ {d : D} {v : V}, Rv K H ρ d v → D.und ρ.length d = true
  | .non, _, _ => by simp [D.und]
  | .bl _, _, _ => by simp [D.und]
  | .int _, _, _ => by simp [D.und]
  | .str _, _, _ => by simp [D.und]
  | .scr _, _, _ => by simp [D.und]
  | .tup ds, v, h => by
    unfold Rv at h
    obtain ⟨a, vs, e, q, r⟩ := h
    simp only [D.und]
    exact rvl_und r
  | .lst ds, v, h => by
    unfold Rv at h
    obtain ⟨a, o, vs, e, q, r⟩ := h
    simp only [D.und]
    exact rvl_und r
  | .dct t kvs, v, h => by
    unfold Rv at h
    obtain ⟨a, o, e, q⟩ := h
    simp only [D.und]
    rcases q with ⟨rfl, ps, q, r⟩ | ⟨rfl, ps, q, r⟩
    · exact rvk_und r
    · exact rvt_und r
  | .ref n, v, h => by
    unfold Rv at h
    obtain ⟨a, q, e⟩ := h
    simp only [D.und, decide_eq_true_eq]
    exact (List.getElem?_eq_some_iff.mp q).1
theorem rvl_und : ∀ {d : List D} {v : List V}, RvL K H ρ d v → D.undL ρ.length d = true
  | [], _, _ => by simp [D.undL]
  | d :: ds, vs, h => by
    unfold RvL at h
    obtain ⟨v, r, e, q, z⟩ := h
    simp only [D.undL, Bool.and_eq_true]
    exact ⟨rv_und q, rvl_und z⟩
theorem rvk_und : ∀ {d : List (D × D)} {v : List (Key × V)}, RvK K H ρ d v → D.undP ρ.length d = true
  | [], _, _ => by simp [D.undP]
  | (d, e) :: ds, vs, h => by
    unfold RvK at h
    obtain ⟨k, v, r, e', ek, q, z⟩ := h
    simp only [D.undP, Bool.and_eq_true]
    exact ⟨⟨by rw [ek]; exact und_key _ _, rv_und q⟩, rvk_und z⟩
theorem rvt_und : ∀ {d : List (D × D)} {v : List (List Key × V)}, RvT K H ρ d v → D.undP ρ.length d = true
  | [], _, _ => by simp [D.undP]
  | (d, e) :: ds, vs, h => by
    unfold RvT at h
    obtain ⟨k, v, r, e', ek, q, z⟩ := h
    simp only [D.undP, Bool.and_eq_true]
    exact ⟨⟨by rw [ek]; simp only [D.und]; exact und_keys _ _, rv_und q⟩, rvt_und z⟩
end
theorem get_cut (pre : ρ <+: ρ') {n : Nat} {a : Addr} (hn : n < ρ.length) (e : ρ'[n]? = some a) : ρ[n]? = some a := by
  obtain ⟨t, rfl⟩ := pre
  rwa [List.getElem?_append_left hn] at e
mutual
theorem cut_rv (pre : ρ <+: ρ') : ∀ {d : D} {v : V}, D.und ρ.length d = true → Rv K H ρ' d v → Rv K H ρ d v
  | .non, _, _, h => by simpa [Rv] using h
  | .bl _, _, _, h => by simpa [Rv] using h
  | .int _, _, _, h => by simpa [Rv] using h
  | .str _, _, _, h => by simpa [Rv] using h
  | .scr _, _, _, h => by simpa [Rv] using h
  | .tup ds, v, u, h => by
    unfold Rv at h ⊢
    simp only [D.und] at u
    obtain ⟨a, vs, e, q, r⟩ := h
    exact ⟨a, vs, e, q, cut_rvl pre u r⟩
  | .lst ds, v, u, h => by
    unfold Rv at h ⊢
    simp only [D.und] at u
    obtain ⟨a, o, vs, e, q, r⟩ := h
    exact ⟨a, o, vs, e, q, cut_rvl pre u r⟩
  | .dct t kvs, v, u, h => by
    unfold Rv at h ⊢
    simp only [D.und] at u
    obtain ⟨a, o, e, q⟩ := h
    refine ⟨a, o, e, ?_⟩
    rcases q with ⟨rfl, ps, q, r⟩ | ⟨rfl, ps, q, r⟩
    · exact .inl ⟨rfl, ps, q, cut_rvk pre u r⟩
    · exact .inr ⟨rfl, ps, q, cut_rvt pre u r⟩
  | .ref n, v, u, h => by
    unfold Rv at h ⊢
    simp only [D.und, decide_eq_true_eq] at u
    obtain ⟨a, q, e⟩ := h
    exact ⟨a, get_cut pre u q, e⟩
theorem cut_rvl (pre : ρ <+: ρ') : ∀ {d : List D} {v : List V}, D.undL ρ.length d = true → RvL K H ρ' d v → RvL K H ρ d v
  | [], _, _, h => by simpa [RvL] using h
  | d :: ds, vs, u, h => by
    unfold RvL at h ⊢
    simp only [D.undL, Bool.and_eq_true] at u
    obtain ⟨v, r, e, q, z⟩ := h
    exact ⟨v, r, e, cut_rv pre u.1 q, cut_rvl pre u.2 z⟩
theorem cut_rvk (pre : ρ <+: ρ') : ∀ {d : List (D × D)} {v : List (Key × V)}, D.undP ρ.length d = true → RvK K H ρ' d v → RvK K H ρ d v
  | [], _, _, h => by simpa [RvK] using h
  | (d, e) :: ds, vs, u, h => by
    unfold RvK at h ⊢
    simp only [D.undP, Bool.and_eq_true] at u
    obtain ⟨k, v, r, e', ek, q, z⟩ := h
    exact ⟨k, v, r, e', ek, cut_rv pre u.1.2 q, cut_rvk pre u.2 z⟩
theorem cut_rvt (pre : ρ <+: ρ') : ∀ {d : List (D × D)} {v : List (List Key × V)}, D.undP ρ.length d = true → RvT K H ρ' d v → RvT K H ρ d v
  | [], _, _, h => by simpa [RvT] using h
  | (d, e) :: ds, vs, u, h => by
    unfold RvT at h ⊢
    simp only [D.undP, Bool.and_eq_true] at u
    obtain ⟨k, v, r, e', ek, q, z⟩ := h
    exact ⟨k, v, r, e', ek, cut_rv pre u.1.2 q, cut_rvt pre u.2 z⟩
end
end
section
variable {L : Lnk} {H H' : Hp} {ρ ρ' : List Addr} {m m' : Hd}
theorem rvf_und : ∀ {fs : List (Nat × D)} {gs : List (Str × V)}, RvF L H ρ fs gs → fs.all (fun p => D.und ρ.length p.2) = true
  | [], _, _ => rfl
  | (f, d) :: r, gs, h => by
    unfold RvF at h
    obtain ⟨v, q, e, h1, h2⟩ := h
    simp only [List.all_cons, Bool.and_eq_true]
    exact ⟨rv_und h1, rvf_und h2⟩
theorem cut_rvf (pre : ρ <+: ρ') : ∀ {fs : List (Nat × D)} {gs : List (Str × V)}, fs.all (fun p => D.und ρ.length p.2) = true → RvF L H ρ' fs gs → RvF L H ρ fs gs
  | [], _, _, h => by simpa [RvF] using h
  | (f, d) :: r, gs, u, h => by
    unfold RvF at h ⊢
    simp only [List.all_cons, Bool.and_eq_true] at u
    obtain ⟨v, q, e, h1, h2⟩ := h
    exact ⟨v, q, e, cut_rv pre u.1 h1, cut_rvf pre u.2 h2⟩
theorem or_und {a : Addr} : ∀ {o : O}, OR L H ρ a o → O.und ρ.length o = true
  | .lst ds, ⟨vs, _, h⟩ => rvl_und h
  | .dct t kvs, h => by
    rcases h with ⟨_, ps, _, h⟩ | ⟨_, ps, _, h⟩
    · exact rvk_und h
    · exact rvt_und h
  | .ins c fs, ⟨_, _, _, h⟩ => rvf_und h
  | .dead, _ => rfl
theorem or_cut (pre : ρ <+: ρ') {a : Addr} : ∀ {o : O}, O.und ρ.length o = true → OR L H ρ' a o → OR L H ρ a o
  | .lst ds, u, ⟨vs, e, h⟩ => ⟨vs, e, cut_rvl pre u h⟩
  | .dct t kvs, u, h => by
    rcases h with ⟨e, ps, q, h⟩ | ⟨e, ps, q, h⟩
    · exact .inl ⟨e, ps, q, cut_rvk pre u h⟩
    · exact .inr ⟨e, ps, q, cut_rvt pre u h⟩
  | .ins c fs, u, ⟨dx, gs, e, h⟩ => ⟨dx, gs, e, cut_rvf pre u h⟩
  | .dead, _, h => h
theorem keep_get {k : Nat} : ∀ {m m' : Hd} {n : Nat} {o o' : O}, keepOk k m m' = true → m[n]? = some o → m'[n]? = some o' → o = o' ∨ O.und k o' = true
  | [], _, n, o, o', _, e, _ => by simp at e
  | a :: m, [], n, o, o', h, e, e' => by simp [keepOk] at h
  | a :: m, b :: m', 0, o, o', h, e, e' => by
    simp only [keepOk, Bool.and_eq_true, Bool.or_eq_true, decide_eq_true_eq] at h
    simp at e e'
    subst e e'
    exact h.1
  | a :: m, b :: m', n + 1, o, o', h, e, e' => by
    simp only [keepOk, Bool.and_eq_true] at h
    exact keep_get h.2 (by simpa using e) (by simpa using e')
theorem keep_len {k : Nat} : ∀ {m m' : Hd}, keepOk k m m' = true → m.length ≤ m'.length
  | [], _, _ => Nat.zero_le _
  | a :: m, [], h => by simp [keepOk] at h
  | a :: m, b :: m', h => by
    simp only [keepOk, Bool.and_eq_true] at h
    simpa using keep_len h.2
/-- to forget what is new -/
theorem Sim.cut (S0 : Sim L H ρ m) (x : Ext H ρ H' ρ') (S1 : Sim L H' ρ' m') (h : keepOk m.length m m' = true) : Sim L H' ρ (m'.take m.length) := by
  have hl := S0.len
  refine ⟨by rw [List.length_take, hl]; have := keep_len h; omega, S0.nd, fun n a o e1 e2 => ?_⟩
  have hn : n < m.length := by rw [← hl]; exact (List.getElem?_eq_some_iff.mp e1).1
  rw [List.getElem?_take_of_lt hn] at e2
  have o1 := S1.ob n a o (get_pre x.pre e1) e2
  refine or_cut x.pre ?_ o1
  have q := keep_get h (List.getElem?_eq_getElem hn) e2
  rw [hl]
  rcases q with q | q
  · have := or_und (S0.ob n a _ e1 (List.getElem?_eq_getElem hn))
    rw [hl] at this
    rw [← q]
    exact this
  · exact q
theorem Ext.cut (x : Ext H ρ H' ρ') : Ext H ρ H' ρ := ⟨List.prefix_refl _, fun a h => .inl h, x.tup, x.frz, x.rest⟩
/-- a body's outcome, from the outcome behind the return -/
theorem leave_ok {gc : Bool} {r : R D} {Q : VK} (S0 : Sim L H ρ m) (o : Out L H ρ Q (leave gc m r)) : Out L H ρ Q r := by
  cases r with
  | ok d m1 =>
    unfold leave at o
    dsimp only at o
    split at o
    next c =>
      simp only [Bool.and_eq_true] at c
      intro H1 ρ1 x1 S1 v rv
      refine o H1 ρ x1.cut (S0.cut x1 S1 c.2) v (cut_rv x1.pre ?_ rv)
      rw [S0.len]
      exact c.1.2
    next => exact o
  | exc => exact o
  | no => exact o
end

/-! ### a def by its body -/
section
variable {P : Program} {w : World} {K : PySem.W.Frag} {mg : Str → Option Value} {base : Heap}
theorem start_env {L : Lnk} {H : Hp} {ρ : List Addr} {N : List Str} {ds : List D} {vs : List V} (h : RvL L.K H ρ ds vs) (k : Nat) (hk : vs.length + k = N.length) : EnvR L H ρ (ds.map some ++ List.replicate k none) (L2.start N vs) := by
  have hl := h.len
  unfold L2.start
  refine ⟨by simp; omega, fun i d e => ?_⟩
  by_cases hi : i < ds.length
  · rw [List.getElem?_append_left (by simpa using hi), List.getElem?_map] at e
    obtain ⟨x, e1, e2⟩ := Option.map_eq_some_iff.mp e
    cases e2
    obtain ⟨v, g1, g2⟩ := h.get e1
    refine ⟨v, ?_, g2⟩
    rw [List.getElem?_append_left (by rw [List.length_map, ← hl]; exact hi), List.getElem?_map, g1]
    rfl
  · rw [List.getElem?_append_right (by simpa using hi), List.getElem?_replicate] at e
    split at e <;> cases e
/-- the rule for a def -/
theorem fng_of {L : Lnk} {W : Wd} {n f k : Nat} {call : Nat → List D → Hd → R D} {fa : Addr} {name qual : Str} {params : Arguments} {body : List Stmt} {scope : Scope} {dV kV doc pm cdv ct oc : Value} {an od : Option Addr}
    {osl : Array (Option Value)} {ps : List Str} {F : Fn} (hL : L.K = K) (lk : K.lookup fa = some ⟨oc, od, .func (PySem.W.fnOf name qual params body scope dV kV doc pm an cdv ct), osl⟩) (hcd : PySem.W.codeIn K cdv qual = true) (S : FnScope W.N ps scope)
    (hps : ps.length = F.pars) (hsl : W.N.length = F.slots) (hb : ∀ x ∈ W.blts, mg x = none) (hglb : ∀ p ∈ W.glb, ∃ v u, scalV p.2 = some v ∧ mg p.1 = some u ∧ RelV v u)
    (hsh : ∀ X : Cx, X.prog = P → X.w = w → X.K = K → X.mg = mg → X.base = base → ∀ sh ∈ W.sh, ShapeOk L X k call sh)
    (hbody : chkSs W n f ⟨scope, fun _ => true⟩ body F.body = true) :
    FnG P w K mg base CX0 (k + 1) fa (PySem.W.fnOf name qual params body scope dV kV doc pm an cdv ct) ps (spD L ps.length (runFn call F)) := by
  have len : ∀ vs H Q E, spD L ps.length (runFn call F) vs H Q E → vs.length = ps.length := fun vs H Q E ⟨ρ, m, ds, S, rd, l, o⟩ => by rw [← rd.len, l]
  refine ⟨len, fun A outer s H args us vs Q E hr hg e0 hb' r hsp => ?_⟩
  have hl := len _ _ _ _ hsp
  have KX : K.In s.heap := e0.mod.kin.keeps fun b o e => (e0.bs b o e).1
  have lim : s.heap.NoLimit := e0.mod.nolimit.keeps fun b o e => (e0.bs b o e).1
  have hkind : ∀ y ∈ ps.zip us, scope.names.lookup y.1 = some .local ∨ (scope.names.lookup y.1 = some .cell ∧ ((cellsFrom (s.heap.objs.size + 1) scope.names []).lookup y.1).isSome = true) := fun ⟨n, v⟩ hy => by
    rcases S.par n (List.of_mem_zip hy).1 with q | q
    · exact .inl q
    · exact .inr ⟨q, PySem.W.cellsFrom_some _ _ _ (.inl q)⟩
  refine codeAny_call_function hr.depth (KX _ _ lk) rfl S.co S.gen rfl (PySem.W.codeRec_of KX hcd) (hb' _ _ _ _ ?_)
  refine wpAny_newFunctionEnv_cells S.kind hkind fun env he s1 x => ?_
  subst he
  refine ⟨lim.keeps x.toInCall.keep, codeAny_func ?_⟩
  have hr' : Room k (A.deeper (envOfC qual scope s.heap.objs.size fa cdv)) := hr.deeper _
  let X := (cxOf CX0 P w K mg base W.N qual scope fa cdv A outer s H E).nox
  have G : Good L W X k call ⟨scope, fun _ => true⟩ :=
    ⟨hL, rfl, S.nd, rfl, fun _ _ => rfl, by have := hr'.un; show (A.deeper _).units + 100 < _; omega, hg, rfl, hr', S.kind, hb, hglb, hsh X rfl rfl rfl rfl rfl⟩
  have ht := ((snds_all (L := L) (W := W) (k := k) (call := call) n f).Ss X _ _ _ G PassesOwn.never hbody).nox
  have I : Inv (cxOf CX0 P w K mg base W.N qual scope fa cdv A outer s H E) [] (L2.start W.N vs) H s1 := inv_start S hr.hd e0 hl r x
  obtain ⟨ρ, m, ds, SS, rd, ld, o⟩ := hsp
  have hq : tS L (evB call F.body) { nx := fun _ H' => Q .non H', rt := Q } (L2.start W.N vs) H := by
    unfold runFn at o
    rw [if_pos (by rw [ld, hps])] at o
    have o := leave_ok SS o
    have hpl : ps.length ≤ W.N.length := by have := congrArg List.length S.pre; rw [List.length_take] at this; omega
    refine ⟨ρ, m, _, SS, start_env rd (F.slots - F.pars) (by rw [hl, ← hps, hsl]; omega), (OutG.bind o).imp fun fl m1 H1 ρ1 x1 S1 o1 => ?_⟩
    cases fl with
    | next s1 => exact fun σ E1 => o1.here S1 .non (by simp [Rv])
    | ret d => exact fun v rv => o1.here S1 v rv
  refine wpAny_mono (ht.run [] s1 (L2.start W.N vs) H _ I hq) (fun fl s' hs => ?_) fun e s' hs => hs
  have fin : ∀ {σ' : VS} {H' : Hp} {v : V} {u : Value}, Inv (cxOf CX0 P w K mg base W.N qual scope fa cdv A outer s H E) [] σ' H' s' → RelV v u → Q v H' → CE outer P w H s Q u s' :=
    fun {σ' H' v u} J rv q => ⟨v, H', J.os, J.bare, J.base, J.hok, rv, q⟩
  cases fl with
  | ret u =>
    obtain ⟨v, σ', H', J, rv, q⟩ := hs
    exact fin J rv q
  | next =>
    obtain ⟨σ', H', J, q⟩ := hs
    exact fin (v := V.non) (u := Value.none) J rfl q
  | brk =>
    obtain ⟨_, _, _, q⟩ := hs
    exact False.elim q
  | cont =>
    obtain ⟨_, _, _, q⟩ := hs
    exact False.elim q
end
end Dx
/-! DxP: all levels; the end of a law -/
namespace Dx
open PySem PySem.Spec PyProof.Rows L2

/-- a def as the text has it -/
structure DI where
  name : Str
  st : Stmt
  ps : List Str
  N : List Str
/-- a def as it stands behind the top -/
structure DefF (K : PySem.W.Frag) (mg : Str → Option Value) (d : DI) (fa : Addr) (fd : FuncData) : Prop where
  ex : ∃ (oc : Value) (od : Option Addr) (dV kV doc pm : Value) (an : Option Addr) (cdv ct : Value) (osl : Array (Option Value)),
    fd = PySem.W.fnOf d.name d.name (defArgs d.st) (defBody d.st) (defScope d.st) dV kV doc pm an cdv ct ∧ K.lookup fa = some ⟨oc, od, .func fd, osl⟩ ∧ PySem.W.codeIn K cdv d.name = true
  mg : mg d.name = some (.ref fa)
  kp : PySem.W.keepIn K (.ref fa) = true
/-- the look at a def -/
def chkD (n f : Nat) (blts : List Str) (glb : List (Str × D)) (sh : List Shape) (d : DI) (F : Fn) : Bool :=
  C8.scC d.N d.ps (defScope d.st) && decide (d.ps.length = F.pars) && decide (d.N.length = F.slots) && chkSs ⟨d.N, blts, glb, sh⟩ n f ⟨defScope d.st, fun _ => true⟩ (defBody d.st) F.body
/-- how a way to call is bound -/
structure ShB (K : PySem.W.Frag) (mg : Str → Option Value) (defs : List DI) (sh : Shape) : Prop where
  ex : ∃ (d : DI) (fa : Addr) (fd : FuncData), defs[sh.f]? = some d ∧ DefF K mg d fa fd ∧ sh.x = d.name ∧ d.ps.length = sh.g.length ∧
    ∀ (s : Shared) (us ws : List Value), K.In s.heap → us.length = sh.n → ws.length = sh.ks.length → ∃ zs, arrV sh.g (us ++ ws) zs ∧ BindsTo s fd ⟨us, sh.ks.zip ws⟩ (d.ps.zip zs)
section
variable {P : Program} {w : World} {K : PySem.W.Frag} {mg : Str → Option Value} {base : Heap} {L : Lnk}
theorem no_fn {n : Nat} {F : List D → Hd → R D} {ps : List Str} {fa : Addr} {fd : FuncData} {k : Nat} (h : ∀ ds m, F ds m = .no) : FnG P w K mg base CX0 k fa fd ps (spD L n F) := by
  refine ⟨fun vs H Q E ⟨ρ, m, ds, S, rd, l, o⟩ => ?_, fun A outer s H args us vs Q E hr hg e0 hb r ⟨ρ, m, ds, S, rd, l, o⟩ => ?_⟩
  · rw [h] at o; exact o.elim
  · rw [h] at o; exact o.elim
theorem levels {defs : List DI} {T : List Fn} {n f : Nat} {blts : List Str} {glb : List (Str × D)} {shs : List Shape} (hL : L.K = K) (hT : ∀ (i : Nat) (d : DI) (F : Fn), defs[i]? = some d → T[i]? = some F → chkD n f blts glb shs d F = true)
    (hb : ∀ x ∈ blts, mg x = none) (hg : ∀ p ∈ glb, ∃ v u, scalV p.2 = some v ∧ mg p.1 = some u ∧ RelV v u) (hs : ∀ sh ∈ shs, ShB K mg defs sh) :
    ∀ (k i : Nat) (d : DI) (fa : Addr) (fd : FuncData), defs[i]? = some d → DefF K mg d fa fd → FnG P w K mg base CX0 k fa fd d.ps (spD L d.ps.length (callN T k i)) := by
  intro k
  induction k with
  | zero => intro i d fa fd _ _; exact no_fn fun _ _ => rfl
  | succ k ih =>
    intro i d fa fd hi D
    cases hF : T[i]? with
    | none => exact no_fn fun ds m => by simp only [callN, hF]
    | some F =>
      have c := hT i d F hi hF
      simp only [chkD, Bool.and_eq_true, decide_eq_true_eq] at c
      obtain ⟨⟨⟨c1, c2⟩, c3⟩, c4⟩ := c
      obtain ⟨oc, od, dV, kV, doc, pm, an, cdv, ct, osl, rfl, lk, hcd⟩ := D.ex
      have e : callN T (k + 1) i = runFn (callN T k) F := by
        funext ds m
        simp only [callN, hF]
      rw [e]
      refine fng_of (W := ⟨d.N, blts, glb, shs⟩) hL lk hcd (C8.fnScope_by c1) c2 c3 hb hg (fun X hP hw hK hmg hbs sh hsh => ?_) c4
      subst hP hw hK hmg hbs
      obtain ⟨d', fa', fd', g1, g2, g3, g4, g5⟩ := (hs sh hsh).ex
      exact ⟨fa', fd', d'.ps, by rw [g3]; exact g2.mg, g2.kp, g4, ih sh.f d' fa' fd' g1 g2, g5⟩
end

/-! ### the law's end -/
/-- the law answers True for every script, by the small language -/
def Law (T : List Fn) (k i n : Nat) : Prop := ∀ ns : List Int, ns.length ≤ n → ∃ m, callN T k i [.scr ns] [] = .ok (.bl true) m
theorem law_run {P : Program} {w : World} {K : PySem.W.Frag} {mg mb : Str → Option Value} {T : List Fn} {k i n : Nat} {fa a : Addr} {fd : FuncData} {x : Str} {s₁ : Shared} {vs : List Value} {ns : List Int} (hlaw : Law T k i n) (hn : ns.length ≤ n)
    (KX : K.In s₁.heap) (hns : s₁.heap.Ns mainGlobals mg) (hb : s₁.heap.Ns builtinsNs mb) (hbb : ∀ x : Str, x ≠ "__name__" → mb x = bootBuiltins x) (hlim : s₁.heap.NoLimit) (hg : s₁.gens = #[])
    (ha : s₁.heap.get? a = some { cls := .type "list", data := .seq vs.toArray }) (hi : IntsAre vs ns) (hl : ns.length ≤ sizeLine) (hr : Room k callerA)
    (F : ∀ base : Heap, FnG P w K mg base CX0 k fa fd [x] (spD ⟨K, fun _ => 0, fun _ => Str.empty⟩ 1 (callN T k i))) (hbind : ∀ (s : Shared) (u : Value), BindsTo s fd ⟨[u], []⟩ [(x, u)]) :
    codeAny (model P w) callerA (.call (.ref fa) ⟨[.ref a], []⟩) (fun r s' => r = .ok (.ret (.bool true)) ∧ OldK s₁.heap s'.heap ∧ s'.os = s₁.os ∧ AllBare s'.gens) s₁ := by
  have rv := vals_ints hi
  have lenV := hi.length
  let ob : Obj := { cls := .type "list", data := .seq vs.toArray }
  -- the script alone is tracked, where it is no object of the text
  let H : Hp := fun b => if b = a ∧ K.lookup a = none then some (.frz ob (.lst (ns.map V.int))) else none
  have HS : ∀ b, H b ≠ none → b = a ∧ K.lookup a = none := fun b z => by
    by_cases c : b = a ∧ K.lookup a = none
    · exact c
    · exact absurd (if_neg c) z
  have HE : ∀ b u, H b = some u → b = a ∧ K.lookup a = none ∧ u = .frz ob (.lst (ns.map V.int)) := fun b u z => by
    obtain ⟨c1, c2⟩ := HS b (by rw [z]; exact nofun)
    refine ⟨c1, c2, ?_⟩
    have z' := (show H b = some (.frz ob (.lst (ns.map V.int))) from if_pos ⟨c1, c2⟩).symm.trans z
    exact (Option.some.inj z').symm
  have fr : FrL K H a (ns.map V.int) := by
    cases hk : K.lookup a with
    | none => exact .inl ⟨ob, if_pos ⟨rfl, hk⟩⟩
    | some o =>
      have e := KX a o hk
      rw [ha] at e
      cases e
      exact .inr ⟨_, vs.toArray, _, hk, rfl, rfl, rfl, by rw [List.size_toArray, lenV]; exact hl, by simpa using rv⟩
  have hok : HOk P w H s₁.heap := fun b u z => by
    obtain ⟨rfl, _, rfl⟩ := HE b u z
    exact ⟨ha, by rw [List.length_map]; exact hl, vs, _, rv, ha⟩
  have noD : ∀ {b : Addr} {o : Obj} {es : Array DictEntry} {ep : Nat}, s₁.heap.get? b = some o → o.data = .dict es ep → H b = none := fun {b o es ep} e d => by
    cases q : H b with
    | none => rfl
    | some u =>
      obtain ⟨rfl, _, _⟩ := HE b u q
      rw [ha] at e
      cases e
      exact absurd (show Data.seq vs.toArray _ = Data.dict es ep from d) nofun
  have nsK : ∀ {b : Addr} {m : Str → Option Value}, s₁.heap.Ns b m → (hidT s₁.heap H).Ns b m := fun {b m} ⟨o, es, ep, e, d, r⟩ => ⟨o, es, ep, hidT_get e (noD e d), d, r⟩
  have hKb : K.In (hidT s₁.heap H) := fun b o e => hidT_get (KX b o e) (by
    cases q : H b with
    | none => rfl
    | some u =>
      obtain ⟨rfl, c, _⟩ := HE b u q
      rw [c] at e
      cases e)
  have hM : Mod K mg (hidT s₁.heap H) := ⟨hKb, nsK hns, ⟨mb, nsK hb, hbb⟩, let ⟨mc, h1, h2⟩ := hlim; ⟨mc, nsK h1, h2⟩⟩
  have e0 : Env0 P w K mg (hidT s₁.heap H) callerA [] s₁ H := ⟨rfl, hM, fun b o e => of_hidT e, Nat.le_of_eq (hidT_size _ _), trivial, nofun, hok, .of_eq hg⟩
  obtain ⟨mE, hE⟩ := hlaw ns hn
  have hsp : spD ⟨K, fun _ => 0, fun _ => Str.empty⟩ 1 (callN T k i) [.ref a] H (fun v _ => v = .bl true) E0 := by
    refine ⟨[], [], [.scr ns], ⟨rfl, List.nodup_nil, fun n a o e _ => by simp at e⟩, rvl_cons (by unfold Rv; exact ⟨a, rfl, fr⟩) rvl_nil, rfl, ?_⟩
    rw [hE]
    exact fun H' ρ' _ _ v rv => by simpa [Rv] using rv
  refine codeAny_mono ((F _).run callerA [] s₁ H ⟨[.ref a], []⟩ [.ref a] [.ref a] _ _ hr rfl e0 (hbind s₁ (.ref a)) (.cons rfl .nil) hsp) fun r s' h => ?_
  match r, h with
  | .ok (.ret u), ⟨v, H', os, bare, un, hok', r', q⟩ =>
    have q' : v = .bl true := q
    subst q'
    obtain rfl : u = Value.bool true := r'
    refine ⟨rfl, OldK.of_keep fun b o e => ?_, os, bare⟩
    cases q : H b with
    | none => exact un.keep b o e q nofun nofun
    | some u =>
      obtain ⟨rfl, _, rfl⟩ := HE b u q
      obtain ⟨e2, _⟩ := hok' b _ (un.frzs b _ _ q)
      rw [ha] at e
      cases e
      exact e2
  | .ok .next, h => exact False.elim h
  | .ok .brk, h => exact False.elim h
  | .ok .cont, h => exact False.elim h
  | .error e, h => exact False.elim h
/-- what is to show of a law, once its defs stand -/
theorem law_end {l : PySem.W.OpenLaw} {n k i : Nat} {q : Program} {loose : List Str} {XP : (Str → Option Value) → Heap → Prop} {YP : World → Heap → Prop} {d : DefRec} {K : Params → PySem.W.Frag} {T : List Fn} {x : Str} (hlaw : Law T k i n)
    (hn : l.most = some n) (hn2 : n ≤ sizeLine) (hdf : d.params.defaults = []) (hr : Room k callerA) (hY : ∀ (w : World) (h : Heap), YP w h → (K w.params).In h)
    (F : ∀ (w : World) (mg : Str → Option Value) (fa : Addr) (h : Heap), (K w.params).In h → h.Ns mainGlobals mg → mg d.name = some (.ref fa) →
      ∃ fd : FuncData, (∀ (s : Shared) (u : Value), BindsTo s fd ⟨[u], []⟩ [(x, u)]) ∧ ∀ base : Heap, FnG l.prog w (K w.params) mg base CX0 k fa fd [x] (spD ⟨K w.params, fun _ => 0, fun _ => Str.empty⟩ 1 (callN T k i))) :
    PySem.W.WalkO q loose XP YP l.row.toRowW d [] (fun f vs => PySem.call f vs) := by
  refine Att.attach_call hn hdf fun w s₀ s₁ mg mb fa o pm cd doc a vs ns G Y ho hd hcd hmg hobj hints hlen hg => ?_
  obtain ⟨fd, hb, hF⟩ := F w mg fa _ (hY w _ Y) G.T.g hmg
  exact law_run hlaw hlen (hY w _ Y) G.T.g G.T.b G.T.builtins G.T.nolimit hg hobj hints (Nat.le_trans hlen hn2) hr hF hb
end Dx
/-! DxQ: plain reasoning about the small language -/
namespace Dx
open PySem
/-- the outcome is a value, of which Q holds -/
def Is {α : Type} (r : R α) (Q : α → Hd → Prop) : Prop := match r with
  | .ok a m => Q a m
  | _ => False
section
variable {α β : Type} {Q : α → Hd → Prop}
@[simp] theorem is_ok {a : α} {m : Hd} : Is (.ok a m) Q ↔ Q a m := Iff.rfl
@[simp] theorem is_no : Is (.no : R α) Q ↔ False := Iff.rfl
@[simp] theorem is_exc {c fs m} : Is (.exc c fs m : R α) Q ↔ False := Iff.rfl
theorem is_bind {r : R β} {f : β → Hd → R α} : Is (r.bind f) Q ↔ Is r fun b m => Is (f b m) Q := by cases r <;> exact Iff.rfl
@[simp] theorem is_ifs {b : Bool} {r : R α} : Is (ifs b r) Q ↔ b = true ∧ Is r Q := by cases b <;> simp
theorem is_optB {o : Option α} {m : Hd} : Is (optB o m) Q ↔ ∃ a, o = some a ∧ Q a m := by cases o <;> simp
@[simp] theorem is_ite {p : Prop} [Decidable p] {r r' : R α} : Is (if p then r else r') Q ↔ (p → Is r Q) ∧ (¬p → Is r' Q) := by by_cases h : p <;> simp [h]
@[simp] theorem ifs_bind {b : Bool} {r : R β} {f : β → Hd → R α} : (ifs b r).bind f = ifs b (r.bind f) := by cases b <;> rfl
@[simp] theorem ite_bind {p : Prop} [Decidable p] {r r' : R β} {f : β → Hd → R α} : (if p then r else r').bind f = if p then r.bind f else r'.bind f := by by_cases h : p <;> simp [h]
theorem Is.imp {r : R α} {Q' : α → Hd → Prop} (h : Is r Q) (i : ∀ a m, Q a m → Q' a m) : Is r Q' := by
  cases r with
  | ok a m => exact i a m h
  | exc => exact h
  | no => exact h
theorem Is.ok {r : R α} (h : Is r Q) : ∃ a m, r = .ok a m ∧ Q a m := by
  cases r with
  | ok a m => exact ⟨a, m, rfl, h⟩
  | exc => exact h.elim
  | no => exact h.elim
theorem is_of {r : R α} {a : α} {m : Hd} (h : r = .ok a m) (q : Q a m) : Is r Q := by rw [h]; exact q
end
@[simp] theorem is_seq_next {g : SD → Hd → R Fl} {s : SD} {m : Hd} : seqD g (.next s) m = g s m := rfl
@[simp] theorem is_seq_ret {g : SD → Hd → R Fl} {d : D} {m : Hd} : seqD g (.ret d) m = .ok (.ret d) m := rfl
/-- a walk, by an invariant: the items done, the slots, the objects -/
theorem fr_inv {g : Gu} {tg : Tg} {body : SD → Hd → R Fl} {Q : Fl → Hd → Prop} (I : List D → SD → Hd → Prop) {ds : List D} {s : SD} {m : Hd} (h0 : I [] s m) (hg : ∀ pre s m, I pre s m → guOk g m = true)
    (hs : ∀ pre d post s m, ds = pre ++ d :: post → I pre s m → ∃ s1, bindTg tg d s = some s1 ∧ Is (body s1 m) fun f m' => match f with
      | .next s' => I (pre ++ [d]) s' m'
      | .ret x => Q (.ret x) m')
    (hn : ∀ s m, I ds s m → Q (.next s) m) : Is (frGo g tg body ds s m) Q := by
  have gen : ∀ (post pre : List D) (s : SD) (m : Hd), ds = pre ++ post → I pre s m → Is (frGo g tg body post s m) Q := by
    intro post
    induction post with
    | nil =>
      intro pre s m e h
      rw [List.append_nil] at e
      subst e
      unfold frGo
      simp only [is_ifs, is_ok]
      exact ⟨hg _ _ _ h, hn _ _ h⟩
    | cons d post ih =>
      intro pre s m e h
      unfold frGo frTurn
      obtain ⟨s1, e1, b⟩ := hs pre d post s m e h
      simp only [is_ifs, is_bind, is_optB]
      refine ⟨hg _ _ _ h, s1, e1, b.imp fun f m' q => ?_⟩
      cases f with
      | next s' => exact ih (pre ++ [d]) s' m' (by rw [e]; simp) q
      | ret x => exact q
  exact gen ds [] s m rfl h0

theorem call_eq {T : List Fn} {k i : Nat} {f : Fn} {ds : List D} {m : Hd} (h : T[i]? = some f) : callN T (k + 1) i ds m = runFn (callN T k) f ds m := by simp only [callN, h]
/-! ### what simp knows -/
section
variable {call : Nat → List D → Hd → R D}
@[simp] theorem ev_0 {i} {s : SD} {m : Hd} : evE call (.var i) s m = varD s i m := by simp only [evE]
@[simp] theorem ev_1 {d} {s : SD} {m : Hd} : evE call (.con d) s m = R.ok d m := by simp only [evE]
@[simp] theorem ev_2 {b o x y} {s : SD} {m : Hd} : evE call (.bin b o x y) s m = (evE call x s m).bind fun d m1 => (evE call y s m1).bind fun e m2 => bopD b o d e m2 := by simp only [evE]
@[simp] theorem ev_3 {x} {s : SD} {m : Hd} : evE call (.neg x) s m = (evE call x s m).bind negD := by simp only [evE]
@[simp] theorem ev_4 {o x y} {s : SD} {m : Hd} : evE call (.cmp o x y) s m = (evE call x s m).bind fun d m1 => (evE call y s m1).bind fun e m2 => optB ((cmpD m2 o d e).map .bl) m2 := by simp only [evE]
@[simp] theorem ev_5 {o o' x y z} {s : SD} {m : Hd} : evE call (.chain o o' x y z) s m = (evE call x s m).bind fun d m1 => (evE call y s m1).bind fun e m2 => (optB (cmpD m2 o d e) m2).bind fun k m3 => if k then (evE call z s m3).bind fun f m4 => optB ((cmpD m4 o' e f).map .bl) m4 else .ok (.bl false) m3 := by simp only [evE]
@[simp] theorem ev_6 {x y} {s : SD} {m : Hd} : evE call (.and x y) s m = (evE call x s m).bind fun d m1 => andD d m1 (evE call y s) := by simp only [evE]
@[simp] theorem ev_7 {x y} {s : SD} {m : Hd} : evE call (.or x y) s m = (evE call x s m).bind fun d m1 => orD d m1 (evE call y s) := by simp only [evE]
@[simp] theorem ev_8 {x} {s : SD} {m : Hd} : evE call (.not x) s m = (evE call x s m).bind notD := by simp only [evE]
@[simp] theorem ev_9 {c x y} {s : SD} {m : Hd} : evE call (.cond c x y) s m = (evT call c s m).bind fun b m1 => if b then evE call x s m1 else evE call y s m1 := by simp only [evE]
@[simp] theorem ev_10 {es} {s : SD} {m : Hd} : evE call (.tup es) s m = (evEs call es s m).bind fun ds m1 => ifs (decide (ds.length ≤ sizeLine)) (.ok (.tup ds) m1) := by simp only [evE]
@[simp] theorem ev_11 {b es} {s : SD} {m : Hd} : evE call (.lst b es) s m = (evEs call es s m).bind fun ds m1 => ifs (decide (ds.length ≤ sizeLine)) (mkL b ds m1) := by simp only [evE]
@[simp] theorem ev_12 {t} {s : SD} {m : Hd} : evE call (.dnew t) s m = R.ok (.ref m.length) (m ++ [.dct t []]) := by simp only [evE]
@[simp] theorem ev_13 {x y} {s : SD} {m : Hd} : evE call (.ix x y) s m = (evE call x s m).bind fun d m1 => (evE call y s m1).bind fun e m2 => optB (getD m2 d e) m2 := by simp only [evE]
@[simp] theorem ev_14 {b x lo hi} {s : SD} {m : Hd} : evE call (.sl b x lo hi) s m = (evE call x s m).bind fun d m1 => ((evE call lo s m1).bind fun l m2 => optB (part (isAbs lo) l) m2).bind fun lo m2 => ((evE call hi s m2).bind fun l m3 => optB (part (isAbs hi) l) m3).bind fun hi m3 => slD b d lo hi m3 := by simp only [evE]
@[simp] theorem ev_15 {b x} {s : SD} {m : Hd} : evE call (.rev b x) s m = (evE call x s m).bind (revD b) := by simp only [evE]
@[simp] theorem ev_16 {f es g} {s : SD} {m : Hd} : evE call (.call f es g) s m = (evEs call es s m).bind fun ds m1 => (optB (arr g ds) m1).bind fun vs m2 => call f vs m2 := by simp only [evE]
@[simp] theorem ev_17 {f es} {s : SD} {m : Hd} : evE call (.bi f es) s m = (evEs call es s m).bind (biD f) := by simp only [evE]
@[simp] theorem ev_18 {f x es} {s : SD} {m : Hd} : evE call (.mt f x es) s m = (evE call x s m).bind fun d m1 => (ifs (mtTy m1 d f) (.ok () m1)).bind fun _ m1 => (evEs call es s m1).bind fun ds m2 => mtD f d ds m2 := by simp only [evE]
@[simp] theorem ev_19 {b own tg it c e} {s : SD} {m : Hd} : evE call (.lc b own tg it c e) s m = (evI call it s m).bind fun p m1 => ifs (decide (p.1.length ≤ sizeLine)) ((lcGo p.2 (lcStep tg (wipeD s own) (evT call c) (evE call e)) p.1 m1).bind (mkL b)) := by simp only [evE]
@[simp] theorem ev_20 {x} {s : SD} {m : Hd} : evE call (.fz x) s m = (evE call x s m).bind fzD := by simp only [evE]
@[simp] theorem ev_21 {s : SD} {m : Hd} : evEs call [] s m = R.ok [] m := by simp only [evEs]
@[simp] theorem ev_22 {e es} {s : SD} {m : Hd} : evEs call (e :: es) s m = (evE call e s m).bind fun d m1 => (evEs call es s m1).bind fun ds m2 => .ok (d :: ds) m2 := by simp only [evEs]
@[simp] theorem ev_23 {o x y} {s : SD} {m : Hd} : evT call (.cmp o x y) s m = (evE call x s m).bind fun d m1 => (evE call y s m1).bind fun e m2 => optB (cmpD m2 o d e) m2 := by simp only [evT]
@[simp] theorem ev_24 {o o' x y z} {s : SD} {m : Hd} : evT call (.chain o o' x y z) s m = (evE call x s m).bind fun d m1 => (evE call y s m1).bind fun e m2 => (optB (cmpD m2 o d e) m2).bind fun k m3 => if k then (evE call z s m3).bind fun f m4 => optB (cmpD m4 o' e f) m4 else .ok false m3 := by simp only [evT]
@[simp] theorem ev_25 {a b} {s : SD} {m : Hd} : evT call (.and a b) s m = (evT call a s m).bind fun k m1 => if k then evT call b s m1 else .ok false m1 := by simp only [evT]
@[simp] theorem ev_26 {a b} {s : SD} {m : Hd} : evT call (.or a b) s m = (evT call a s m).bind fun k m1 => if k then .ok true m1 else evT call b s m1 := by simp only [evT]
@[simp] theorem ev_27 {a} {s : SD} {m : Hd} : evT call (.not a) s m = (evT call a s m).bind fun k m1 => .ok (!k) m1 := by simp only [evT]
@[simp] theorem ev_28 {x} {s : SD} {m : Hd} : evT call (.val x) s m = (evE call x s m).bind fun d m1 => optB (truD m1 d) m1 := by simp only [evT]
@[simp] theorem ev_29 {s : SD} {m : Hd} : evT call (.yes) s m = R.ok true m := by simp only [evT]
@[simp] theorem ev_30 {x} {s : SD} {m : Hd} : evI call (.seq x) s m = (evE call x s m).bind fun d m1 => (optB (sq m1 d) m1).bind fun xs m2 => .ok (xs, guOf m2 d) m2 := by simp only [evI]
@[simp] theorem ev_31 {lo hi} {s : SD} {m : Hd} : evI call (.rng lo hi) s m = (evE call lo s m).bind fun d m1 => (evE call hi s m1).bind fun e m2 => rngD d e m2 := by simp only [evI]
@[simp] theorem ev_32 {x} {s : SD} {m : Hd} : evI call (.enum x) s m = (evE call x s m).bind fun d m1 => (optB (sq m1 d) m1).bind fun xs m2 => .ok (enumD xs, guOf m2 d) m2 := by simp only [evI]
@[simp] theorem ev_33 {x y} {s : SD} {m : Hd} : evI call (.zip x y) s m = (evE call x s m).bind fun d m1 => (evE call y s m1).bind fun e m2 => (optB (sq m2 d) m2).bind fun xs m3 => (optB (sq m3 e) m3).bind fun ys m4 => .ok (zipD xs ys, guOf m4 d ++ guOf m4 e) m4 := by simp only [evI]
@[simp] theorem ev_34 {tg e} {s : SD} {m : Hd} : evS call (.asg tg e) s m = (evE call e s m).bind (asgD tg s) := by simp only [evS]
@[simp] theorem ev_35 {o i e} {s : SD} {m : Hd} : evS call (.setix o i e) s m = (evE call e s m).bind fun v m1 => (evE call o s m1).bind fun x m2 => (evE call i s m2).bind fun y m3 => (setD x y v m3).bind fun _ m4 => .ok (.next s) m4 := by simp only [evS]
@[simp] theorem ev_36 {e} {s : SD} {m : Hd} : evS call (.exp e) s m = (evE call e s m).bind fun _ m1 => .ok (.next s) m1 := by simp only [evS]
@[simp] theorem ev_37 {e} {s : SD} {m : Hd} : evS call (.ret e) s m = (evE call e s m).bind fun d m1 => .ok (.ret d) m1 := by simp only [evS]
@[simp] theorem ev_38 {c a b} {s : SD} {m : Hd} : evS call (.iff c a b) s m = (evT call c s m).bind fun k m1 => if k then evB call a s m1 else evB call b s m1 := by simp only [evS]
@[simp] theorem ev_39 {tg it body} {s : SD} {m : Hd} : evS call (.fr tg it body) s m = (evI call it s m).bind fun p m1 => frGo p.2 tg (evB call body) p.1 s m1 := by simp only [evS]
@[simp] theorem ev_40 {c body} {s : SD} {m : Hd} : evS call (.whl c body) s m = whGo (evT call c) (evB call body) loopF s m := by simp only [evS]
@[simp] theorem ev_41 {s : SD} {m : Hd} : evS call (.pass) s m = R.ok (.next s) m := by simp only [evS]
@[simp] theorem ev_42 {s : SD} {m : Hd} : evS call (.never) s m = R.no := by simp only [evS]
@[simp] theorem ev_43 {s : SD} {m : Hd} : evB call [] s m = R.ok (.next s) m := by simp only [evB]
@[simp] theorem ev_44 {a r} {s : SD} {m : Hd} : evB call (a :: r) s m = (evS call a s m).bind (seqD (evB call r)) := by simp only [evB]
end
@[simp] theorem leave_no {m : Hd} {r : R D} : leave false m r = r := by cases r <;> rfl
section
variable {m : Hd} {d e : D} {s : SD} {i j : Int} {xs ys : List D} {a b : Bool} {u v : Str} {n : Nat}
@[simp] theorem var_z : varD (some d :: s) 0 m = .ok d m := rfl
@[simp] theorem var_s {x : Option D} {k : Nat} : varD (x :: s) (k + 1) m = varD s k m := rfl
@[simp] theorem bop_add : bopD b .add (.int i) (.int j) m = .ok (.int (i + j)) m := rfl
@[simp] theorem bop_sub : bopD b .sub (.int i) (.int j) m = .ok (.int (i - j)) m := rfl
@[simp] theorem bop_mul : bopD b .mul (.int i) (.int j) m = ifs (small i || small j) (.ok (.int (i * j)) m) := rfl
@[simp] theorem bop_fdiv : bopD b .fdiv (.int i) (.int j) m = ifs (decide (0 < j) && small j) (.ok (.int (i / j)) m) := rfl
@[simp] theorem bop_mod : bopD b .mod (.int i) (.int j) m = ifs (decide (0 < j)) (.ok (.int (i % j)) m) := rfl
@[simp] theorem bop_pow : bopD b .pow (.int i) (.int j) m = ifs (decide (0 ≤ j) && decide (j ≤ 1000000) && small i) (.ok (.int (i ^ j.toNat)) m) := rfl
@[simp] theorem bop_addS : bopD b .add (.str u) (.str v) m = ifs (decide (u.length + v.length ≤ sizeLine)) (.ok (.str (u ++ v)) m) := rfl
@[simp] theorem bop_addT : bopD b .add (.tup xs) (.tup ys) m = ifs (decide (xs.length + ys.length ≤ sizeLine)) (.ok (.tup (xs ++ ys)) m) := rfl
@[simp] theorem bop_addL : bopD b .add (.lst xs) (.lst ys) m = ifs (decide (xs.length + ys.length ≤ sizeLine)) (mkL b (xs ++ ys) m) := rfl
@[simp] theorem bop_mulL : bopD b .mul (.lst xs) (.int j) m = ifs (decide (-(2 ^ 63) ≤ j) && decide (j < 2 ^ 63) && decide (xs.length * j.toNat ≤ sizeLine)) (mkL b (List.replicate j.toNat xs).flatten m) := rfl
@[simp] theorem mk_no : mkL false xs m = .ok (.lst xs) m := rfl
@[simp] theorem mk_yes : mkL true xs m = .ok (.ref m.length) (m ++ [.lst xs]) := rfl
@[simp] theorem small_iff : (small i = true) ↔ (-(2 ^ 64) < i ∧ i < 2 ^ 64) := by unfold small; simp
@[simp] theorem cmp_lt : cmpD m .lt (.int i) (.int j) = some (decide (i < j)) := rfl
@[simp] theorem cmp_le : cmpD m .le (.int i) (.int j) = some (decide (i ≤ j)) := rfl
@[simp] theorem cmp_gt : cmpD m .gt (.int i) (.int j) = some (decide (j < i)) := rfl
@[simp] theorem cmp_ge : cmpD m .ge (.int i) (.int j) = some (decide (j ≤ i)) := rfl
@[simp] theorem cmp_eq : cmpD m .eq d e = eqD m d e := rfl
@[simp] theorem cmp_ne : cmpD m .ne d e = (eqD m d e).map (!·) := rfl
@[simp] theorem cmp_in : cmpD m .isin d e = inD m d e := rfl
@[simp] theorem cmp_notin : cmpD m .notin d e = (inD m d e).map (!·) := rfl
@[simp] theorem cmp_isN : cmpD m .is .non .non = some true := rfl
@[simp] theorem cmp_isNi : cmpD m .is (.int i) .non = some false := rfl
@[simp] theorem cmp_isNs : cmpD m .is (.str u) .non = some false := rfl
@[simp] theorem cmp_isNb : cmpD m .is (.bl a) .non = some false := rfl
@[simp] theorem cmp_isNt : cmpD m .is (.tup xs) .non = some false := rfl
@[simp] theorem cmp_isNl : cmpD m .is (.lst xs) .non = some false := rfl
@[simp] theorem cmp_isNr : cmpD m .is (.ref n) .non = some false := rfl
@[simp] theorem cmp_isB : cmpD m .is (.bl a) (.bl b) = some (a == b) := rfl
@[simp] theorem cmp_ntN : cmpD m .isnot .non .non = some false := rfl
@[simp] theorem cmp_ntNi : cmpD m .isnot (.int i) .non = some true := rfl
@[simp] theorem cmp_ntNs : cmpD m .isnot (.str u) .non = some true := rfl
@[simp] theorem cmp_ntNb : cmpD m .isnot (.bl a) .non = some true := rfl
@[simp] theorem cmp_ntNt : cmpD m .isnot (.tup xs) .non = some true := rfl
@[simp] theorem cmp_ntNl : cmpD m .isnot (.lst xs) .non = some true := rfl
@[simp] theorem cmp_ntNr : cmpD m .isnot (.ref n) .non = some true := rfl
@[simp] theorem cmp_ntB : cmpD m .isnot (.bl a) (.bl b) = some (!(a == b)) := rfl
@[simp] theorem tru_b : truD m (.bl b) = some b := rfl
@[simp] theorem tru_n : truD m .non = some false := rfl
@[simp] theorem tru_i : truD m (.int i) = some (i != 0) := rfl
@[simp] theorem tru_t : truD m (.tup xs) = some (!xs.isEmpty) := rfl
@[simp] theorem tru_l : truD m (.lst xs) = some (!xs.isEmpty) := rfl
@[simp] theorem sq_t : sq m (.tup xs) = some xs := rfl
@[simp] theorem sq_l : sq m (.lst xs) = some xs := rfl
@[simp] theorem sq_s {ns : List Int} : sq m (.scr ns) = some (ns.map .int) := rfl
theorem sq_r (h : m[n]? = some (.lst xs)) : sq m (.ref n) = some xs := by simp only [sq, h]
@[simp] theorem fz_t : fz m (.tup xs) = .tup xs := rfl
@[simp] theorem fz_l : fz m (.lst xs) = .lst xs := rfl
theorem fz_r (h : m[n]? = some (.lst xs)) : fz m (.ref n) = .lst xs := by simp only [fz, h]
def atD (xs : List D) (i : Int) : Option D := (ixNat xs.length i).bind (xs[·]?)
@[simp] theorem get_t : getD m (.tup xs) (.int i) = atD xs i := rfl
@[simp] theorem get_l : getD m (.lst xs) (.int i) = atD xs i := rfl
@[simp] theorem get_s {ns : List Int} : getD m (.scr ns) (.int i) = atD (ns.map .int) i := rfl
@[simp] theorem at_0 : atD (d :: xs) 0 = some d := by simp [atD, ixNat]
@[simp] theorem at_1 {d1 : D} : atD (d :: d1 :: xs) 1 = some d1 := by
  have : (1 : Int) < xs.length + 1 + 1 := by omega
  simp [atD, ixNat, this]
@[simp] theorem at_2 {d1 d2 : D} : atD (d :: d1 :: d2 :: xs) 2 = some d2 := by
  have : (2 : Int) < xs.length + 1 + 1 + 1 := by omega
  simp [atD, ixNat, this]
@[simp] theorem at_3 {d1 d2 d3 : D} : atD (d :: d1 :: d2 :: d3 :: xs) 3 = some d3 := by
  have : (3 : Int) < xs.length + 1 + 1 + 1 + 1 := by omega
  simp [atD, ixNat, this]
@[simp] theorem at_pick {p : Prop} [Decidable p] : atD [.int i, .int j] (if p then 1 else 0) = some (.int (if p then j else i)) := by by_cases h : p <;> simp [h]
theorem at_in (h0 : 0 ≤ i) (h : i < xs.length) : atD xs i = xs[i.toNat]? := by simp [atD, ixNat, h0, h]
/-! objects -/
def getO (o : O) (e : D) : Option D := match o with
  | .lst xs => match e with
    | .int i => atD xs i
    | _ => none
  | .dct t kvs => if keyOk t e then find kvs e else none
  | _ => none
@[simp] theorem getO_l : getO (.lst xs) (.int i) = atD xs i := rfl
@[simp] theorem getO_d {t : Bool} {kvs : List (D × D)} : getO (.dct t kvs) e = if keyOk t e then find kvs e else none := rfl
@[simp] theorem get_ref : getD m (.ref n) e = (m[n]?).bind fun o => getO o e := by
  unfold getD
  cases h : m[n]? with
  | none => simp only [sq, dq, h]; rfl
  | some o =>
    cases o with
    | lst xs => simp only [sq, h]; cases e <;> rfl
    | dct t kvs => simp only [sq, dq, h]; rfl
    | ins c fs => simp only [sq, dq, h]; rfl
    | dead => simp only [sq, dq, h]; rfl
def setAt (xs : List D) (i : Int) (v : D) : Option (List D) := (ixNat xs.length i).map fun k => xs.set k v
@[simp] theorem setAt_0 {v : D} : setAt (d :: xs) 0 v = some (v :: xs) := by simp [setAt, ixNat]
@[simp] theorem setAt_1 {v d1 : D} : setAt (d :: d1 :: xs) 1 v = some (d :: v :: xs) := by
  have : (1 : Int) < xs.length + 1 + 1 := by omega
  simp [setAt, ixNat, this]
@[simp] theorem setAt_2 {v d1 d2 : D} : setAt (d :: d1 :: d2 :: xs) 2 v = some (d :: d1 :: v :: xs) := by
  have : (2 : Int) < xs.length + 1 + 1 + 1 := by omega
  simp [setAt, ixNat, this]
theorem setAt_in {v : D} (h0 : 0 ≤ i) (h : i < xs.length) : setAt xs i v = some (xs.set i.toNat v) := by simp [setAt, ixNat, h0, h]
def setO (o : O) (e v : D) : Option O := match o with
  | .lst xs => match e with
    | .int i => (setAt xs i v).map .lst
    | _ => none
  | .dct t kvs => if keyOk t e && decide (kvs.length < sizeLine) then some (.dct t (put kvs e v)) else none
  | _ => none
@[simp] theorem setO_l {v : D} : setO (.lst xs) (.int i) v = (setAt xs i v).map .lst := rfl
@[simp] theorem setO_d {t : Bool} {kvs : List (D × D)} {v : D} : setO (.dct t kvs) e v = if keyOk t e && decide (kvs.length < sizeLine) then some (.dct t (put kvs e v)) else none := rfl
@[simp] theorem set_ref {v : D} : setD (.ref n) e v m = (optB m[n]? m).bind fun o m => (optB (setO o e v) m).bind fun o' m => .ok () (m.set n o') := by
  unfold setD
  cases h : m[n]? with
  | none => simp only [h]; rfl
  | some o =>
    cases o with
    | lst xs =>
      simp only [h, optB_some, R.bind_ok]
      cases e with
      | int i =>
        simp only [setO_l, setAt]
        cases ixNat xs.length i <;> rfl
      | _ => rfl
    | dct t kvs =>
      simp only [h, optB_some, R.bind_ok, setO_d]
      cases keyOk t e && decide (kvs.length < sizeLine) <;> rfl
    | ins c fs => simp only [h]; rfl
    | dead => simp only [h]; rfl
@[simp] theorem getm_set {o : O} : (m.set n o)[n]? = (m[n]?).map fun _ => o := by
  rw [List.getElem?_set]
  by_cases h : n < m.length
  · simp [h, List.getElem?_eq_getElem h]
  · simp [h, List.getElem?_eq_none (Nat.le_of_not_lt h)]
def lenO (o : O) : Option Nat := match o with
  | .lst xs => some xs.length
  | _ => none
@[simp] theorem lenO_l : lenO (.lst xs) = some xs.length := rfl
@[simp] theorem bi_len_ref : biD .len [.ref n] m = (optB (m[n]?.bind lenO) m).bind fun k m => .ok (.int k) m := by
  unfold biD
  have : lenD m (.ref n) = m[n]?.bind lenO := by
    unfold lenD
    simp only [sq]
    cases h : m[n]? with
    | none => rfl
    | some o => cases o <;> simp only [h] <;> rfl
  simp only [this]
  cases m[n]?.bind lenO <;> rfl
def itemsO (o : O) : Option (List D) := match o with
  | .lst xs => some xs
  | _ => none
@[simp] theorem itemsO_l : itemsO (.lst xs) = some xs := rfl
@[simp] theorem sq_ref : sq m (.ref n) = m[n]?.bind itemsO := by
  simp only [sq]
  cases h : m[n]? with
  | none => rfl
  | some o => cases o <;> rfl
@[simp] theorem mty_app : mtTy m (.ref n) .append = (m[n]?.bind itemsO).isSome := by
  unfold mtTy
  simp only [fz, dq]
  cases h : m[n]? with
  | none => simp only [h]; rfl
  | some o => cases o <;> simp only [h] <;> rfl
@[simp] theorem mt_app {v : D} : mtD .append (.ref n) [v] m = (optB (m[n]?.bind itemsO) m).bind fun ys m => ifs (decide (ys.length < sizeLine)) (.ok .non (m.set n (.lst (ys ++ [v])))) := by
  unfold mtD
  cases h : m[n]? with
  | none => simp only [h]; rfl
  | some o => cases o <;> simp only [h] <;> rfl
@[simp] theorem asg_name {k : Nat} : asgD (.name k) s d m = .ok (.next (s.set k (some d))) m := rfl
@[simp] theorem neg_i : negD (.int i) m = .ok (.int (-i)) m := rfl
@[simp] theorem not_b : notD (.bl b) m = .ok (.bl (!b)) m := rfl
@[simp] theorem and_t {r : Hd → R D} : andD (.bl true) m r = r m := rfl
@[simp] theorem and_f {r : Hd → R D} : andD (.bl false) m r = .ok (.bl false) m := rfl
@[simp] theorem or_f {r : Hd → R D} : orD (.bl false) m r = r m := rfl
@[simp] theorem or_t {r : Hd → R D} : orD (.bl true) m r = .ok (.bl true) m := rfl
@[simp] theorem bi_max2 : biD .max2 [.int i, .int j] m = .ok (.int (if j > i then j else i)) m := rfl
@[simp] theorem bi_min2 : biD .min2 [.int i, .int j] m = .ok (.int (if j < i then j else i)) m := rfl
@[simp] theorem bi_abs : biD .abs [.int i] m = .ok (.int (if i < 0 then -i else i)) m := rfl
@[simp] theorem bi_int : biD .int [.int i] m = .ok (.int i) m := rfl
@[simp] theorem bi_intb : biD .int [.bl b] m = .ok (.int (if b then 1 else 0)) m := rfl
@[simp] theorem bi_len_t : biD .len [.tup xs] m = .ok (.int xs.length) m := rfl
@[simp] theorem bi_len_l : biD .len [.lst xs] m = .ok (.int xs.length) m := rfl
@[simp] theorem bi_len_s {ns : List Int} : biD .len [.scr ns] m = .ok (.int ns.length) m := by
  show (match (some (ns.map D.int).length : Option Nat) with | some n => R.ok (D.int n) m | none => R.no) = _
  simp
@[simp] theorem bi_tup_l : biD .tuple [.lst xs] m = .ok (.tup xs) m := rfl
@[simp] theorem bi_tup_t : biD .tuple [.tup xs] m = .ok (.tup xs) m := rfl
theorem keep_app {k : Nat} : ∀ {m e : Hd}, keepOk k m (m ++ e) = true
  | [], _ => rfl
  | o :: m, e => by simp [keepOk, keep_app (m := m) (e := e)]
theorem leave_app {e : Hd} (h : D.und m.length d = true) : leave true m (.ok d (m ++ e)) = .ok d m := by simp [leave, h, keep_app]
@[simp] theorem leave_b {e : Hd} : leave true m (.ok (.bl b) (m ++ e)) = .ok (.bl b) m := leave_app rfl
@[simp] theorem set_last {o o' : O} : (m ++ [o]).set m.length o' = m ++ [o'] := by simp
@[simp] theorem arr_nil {ds : List D} : arr [] ds = some [] := rfl
@[simp] theorem arr_inl {k : Nat} {g : List (Nat ⊕ D)} {ds : List D} : arr (.inl k :: g) ds = (ds[k]?).bind fun d => (arr g ds).map (d :: ·) := by
  have e : arr (.inl k :: g) ds = (ds[k]?).bind fun d => (arr g ds).bind fun r => some (d :: r) := by
    unfold arr
    rw [List.mapM_cons]
    rfl
  rw [e]
  cases ds[k]? with
  | none => rfl
  | some d => cases arr g ds <;> rfl
@[simp] theorem arr_inr {g : List (Nat ⊕ D)} {ds : List D} : arr (.inr d :: g) ds = (arr g ds).map (d :: ·) := by
  have e : arr (.inr d :: g) ds = (arr g ds).bind fun r => some (d :: r) := by
    unfold arr
    rw [List.mapM_cons]
    rfl
  rw [e]
  cases arr g ds <;> rfl
@[simp] theorem leave_ifs {gc c : Bool} {r : R D} : leave gc m (ifs c r) = ifs c (leave gc m r) := by cases c <;> rfl
@[simp] theorem leave_ite {gc : Bool} {p : Prop} [Decidable p] {r r' : R D} : leave gc m (if p then r else r') = if p then leave gc m r else leave gc m r' := by by_cases h : p <;> simp [h]
@[simp] theorem line_eq : sizeLine = 16777216 := by decide
end
end Dx
/-! DxR: data that can be shown -/
namespace Dx
open PySem
mutual
/-- no reference, the numbers short -/
def D.tame : D → Bool
  | .tup xs => D.tameL xs
  | .lst xs => D.tameL xs
  | .int i => decide (i.natAbs < 10 ^ 50)
  | .str s => PyData.strOk s
  | .non | .bl _ => true
  | _ => false
def D.tameL : List D → Bool
  | [] => true
  | a :: r => D.tame a && D.tameL r
end
mutual
@[simp] def D.sz : D → Nat
  | .tup xs => D.szL xs
  | .lst xs => D.szL xs
  | .int _ => 170
  | .str s => s.length
  | _ => 0
@[simp] def D.szL : List D → Nat
  | [] => 0
  | a :: r => D.sz a + 1 + D.szL r
end
mutual
@[simp] def D.dep : D → Nat
  | .tup xs => D.depL xs + 1
  | .lst xs => D.depL xs + 1
  | _ => 0
@[simp] def D.depL : List D → Nat
  | [] => 0
  | a :: r => max (D.dep a) (D.depL r)
end
theorem log_lt {n : Nat} (h : n < 10 ^ 50) : n.log2 < 167 := by
  by_cases h0 : n = 0
  · subst h0; decide
  · exact (Nat.log2_lt h0).mpr (Nat.lt_trans h (by decide))
mutual
theorem tame_flat : ∀ {d : D}, D.tame d = true → D.flat d = true
  | .non, _ => rfl
  | .bl _, _ => rfl
  | .int _, _ => rfl
  | .str _, _ => rfl
  | .tup xs, h => by simp only [D.tame] at h; simp only [D.flat]; exact tame_flatL h
  | .lst xs, h => by simp only [D.tame] at h; simp only [D.flat]; exact tame_flatL h
theorem tame_flatL : ∀ {xs : List D}, D.tameL xs = true → D.flatL xs = true
  | [], _ => rfl
  | a :: r, h => by
    simp only [D.tameL, Bool.and_eq_true] at h
    simp only [D.flatL, Bool.and_eq_true]
    exact ⟨tame_flat h.1, tame_flatL h.2⟩
end
mutual
theorem tame_show : ∀ {d : D}, D.tame d = true → (D.py d).showable = true ∧ (D.py d).canLay0 = true ∧ (D.py d).leavesShort 60 = true ∧ (D.py d).weight ≤ D.sz d
  | .non, _ => ⟨rfl, rfl, rfl, by simp [D.py, PyData.weight]⟩
  | .bl _, _ => ⟨rfl, rfl, rfl, by simp [D.py, PyData.weight]⟩
  | .int i, h => by
    simp only [D.tame, decide_eq_true_eq] at h
    have l := log_lt h
    refine ⟨by simp only [D.py, PyData.showable, decide_eq_true_eq]; omega, by simp only [D.py, PyData.canLay0], ?_, ?_⟩
    · simp only [D.py, PyData.leavesShort, decide_eq_true_eq]
      have e := int_text_length_le10 (a := i) (k := 50) (by decide) h
      show (Str.ofString (toString i)).length ≤ 60
      rw [ofString_length]
      omega
    · simp only [D.py, PyData.weight, D.sz]
      split <;> omega
  | .str s, h => by
    simp only [D.tame] at h
    have c : (PyData.str s).canLay0 = true := by simpa only [PyData.canLay0] using h
    refine ⟨rfl, c, PyData.leavesShort_of_canLay0 60 _ c rfl, ?_⟩
    simp only [D.py, PyData.weight, D.sz]
    exact Nat.le_refl _
  | .tup xs, h => by
    simp only [D.tame] at h
    obtain ⟨h1, h2, h3, h4⟩ := tame_showL h
    exact ⟨by simpa only [D.py, PyData.showable] using h1, by simpa only [D.py, PyData.canLay0] using h2, by simpa only [D.py, PyData.leavesShort] using h3, by simpa only [D.py, PyData.weight, D.sz] using h4⟩
  | .lst xs, h => by
    simp only [D.tame] at h
    obtain ⟨h1, h2, h3, h4⟩ := tame_showL h
    exact ⟨by simpa only [D.py, PyData.showable] using h1, by simpa only [D.py, PyData.canLay0] using h2, by simpa only [D.py, PyData.leavesShort] using h3, by simpa only [D.py, PyData.weight, D.sz] using h4⟩
theorem tame_showL : ∀ {xs : List D}, D.tameL xs = true → PyData.showableAll (D.pyL xs) = true ∧ PyData.canLayAll0 (D.pyL xs) = true ∧ PyData.leavesShortAll 60 (D.pyL xs) = true ∧ PyData.weightAll (D.pyL xs) ≤ D.szL xs
  | [], _ => ⟨rfl, rfl, rfl, by simp [D.pyL, PyData.weightAll]⟩
  | a :: r, h => by
    simp only [D.tameL, Bool.and_eq_true] at h
    obtain ⟨h1, h2, h3, h4⟩ := tame_show h.1
    obtain ⟨g1, g2, g3, g4⟩ := tame_showL h.2
    refine ⟨by simp only [D.pyL, PyData.showableAll, h1, g1, Bool.and_self], by simp only [D.pyL, PyData.canLayAll0, h2, g2, Bool.and_self], by simp only [D.pyL, PyData.leavesShortAll, h3, g3, Bool.and_self], ?_⟩
    simp only [D.pyL, PyData.weightAll, D.szL]
    omega
end
mutual
theorem dep_py : ∀ d : D, (D.py d).depth ≤ D.dep d
  | .non => by simp [D.py, PyData.depth]
  | .bl _ => by simp [D.py, PyData.depth]
  | .int _ => by simp [D.py, PyData.depth]
  | .str _ => by simp [D.py, PyData.depth]
  | .scr _ => by simp [D.py, PyData.depth]
  | .ref _ => by simp [D.py, PyData.depth]
  | .dct _ _ => by simp [D.py, PyData.depth]
  | .tup xs => by
    have := dep_pyL xs
    simp only [D.py, PyData.depth, D.dep]
    omega
  | .lst xs => by
    have := dep_pyL xs
    simp only [D.py, PyData.depth, D.dep]
    omega
theorem dep_pyL : ∀ xs : List D, PyData.depthAll (D.pyL xs) ≤ D.depL xs
  | [] => by simp [D.pyL, PyData.depthAll]
  | a :: r => by
    have := dep_py a
    have := dep_pyL r
    simp only [D.pyL, PyData.depthAll, D.depL]
    omega
end
/-- the text of a list or tuple -/
def D.text (d : D) : Str := (D.py d).shown
theorem repr_ok0 {m : Hd} {d : D} (ht : D.tame (fz m d) = true) (hk : (match fz m d with | .tup _ => true | .lst _ => true | _ => false) = true) (hd : D.dep (fz m d) ≤ 64) (hs : D.sz (fz m d) ≤ 262144) :
    biD .repr [d] m = .ok (.str (D.text (fz m d))) m := by
  obtain ⟨h1, h2, h3, h4⟩ := tame_show ht
  have e : biD .repr [d] m = ifs (D.flat (fz m d) && (match fz m d with | .tup _ => true | .lst _ => true | _ => false) && (D.py (fz m d)).showable && decide ((D.py (fz m d)).depth ≤ 64) && decide ((D.py (fz m d)).shown.length ≤ sizeLine)) (.ok (.str (D.py (fz m d)).shown) m) := rfl
  have l := PyData.shown_le 60 (by decide) _ h3
  have l2 := dep_py (fz m d)
  have c1 : decide ((D.py (fz m d)).depth ≤ 64) = true := decide_eq_true (by omega)
  have c2 : decide ((D.py (fz m d)).shown.length ≤ sizeLine) = true := decide_eq_true (by
    have : sizeLine = 16777216 := by decide
    omega)
  rw [e, tame_flat ht, hk, h1, c1, c2]
  rfl
theorem repr_l {m : Hd} {xs : List D} (ht : D.tameL xs = true) (hd : D.depL xs ≤ 63) (hs : D.szL xs ≤ 262144) : biD .repr [.lst xs] m = .ok (.str (D.text (.lst xs))) m :=
  repr_ok0 (m := m) (d := .lst xs) (by simpa only [fz_l, D.tame] using ht) rfl (by simp only [fz_l, D.dep]; omega) (by simpa only [fz_l, D.sz] using hs)
theorem repr_t {m : Hd} {xs : List D} (ht : D.tameL xs = true) (hd : D.depL xs ≤ 63) (hs : D.szL xs ≤ 262144) : biD .repr [.tup xs] m = .ok (.str (D.text (.tup xs))) m :=
  repr_ok0 (m := m) (d := .tup xs) (by simpa only [fz_t, D.tame] using ht) rfl (by simp only [fz_t, D.dep]; omega) (by simpa only [fz_t, D.sz] using hs)
theorem repr_r {m : Hd} {n : Nat} {xs : List D} (h : m[n]? = some (.lst xs)) (ht : D.tameL xs = true) (hd : D.depL xs ≤ 63) (hs : D.szL xs ≤ 262144) : biD .repr [.ref n] m = .ok (.str (D.text (.lst xs))) m := by
  have e := fz_r h
  have := repr_ok0 (m := m) (d := .ref n) (by rw [e]; simpa only [D.tame] using ht) (by rw [e]) (by rw [e]; simp only [D.dep]; omega) (by rw [e]; simpa only [D.sz] using hs)
  rwa [e] at this
/-! ### == -/
section
variable {m : Hd} {i j : Int} {u v : Str}
@[simp] theorem eq_ss : eqD m (.str u) (.str v) = some (decide (u = v)) := rfl
@[simp] theorem eq_ii : eqD m (.int i) (.int j) = some (decide (i = j)) := by
  show eqF m (.int i) (.int j) = _
  have e : eqF m (.int i) (.int j) = some (PyData.eqv (.int i) (.int j)) := rfl
  rw [e]
  congr 1
end
theorem eqF_tame {m : Hd} {x y : D} (hx : D.tame (fz m x) = true) (hy : D.tame (fz m y) = true) (dx : D.dep (fz m x) ≤ 64) (dy : D.dep (fz m y) ≤ 64) : eqF m x y = some (PyData.eqv (D.py (fz m x)) (D.py (fz m y))) := by
  obtain ⟨_, h2, _, _⟩ := tame_show hx
  obtain ⟨_, g2, _, _⟩ := tame_show hy
  have a := dep_py (fz m x)
  have b := dep_py (fz m y)
  have s1 : SeqAt.shaped (D.py (fz m x)) = true := by unfold SeqAt.shaped; rw [h2, decide_eq_true (by omega)]; rfl
  have s2 : SeqAt.shaped (D.py (fz m y)) = true := by unfold SeqAt.shaped; rw [g2, decide_eq_true (by omega)]; rfl
  unfold eqF
  simp only [tame_flat hx, tame_flat hy, s1, s2, Bool.and_self, if_true]
def szOk (xs : List D) : Bool := decide (D.szL xs ≤ 262144)
@[simp] theorem szOk_iff {xs : List D} : szOk xs = true ↔ D.szL xs ≤ 262144 := by simp [szOk]
theorem repr_L {m : Hd} {xs : List D} (ht : D.tameL xs = true) (hd : D.depL xs ≤ 63) (hs : szOk xs = true) : biD .repr [.lst xs] m = .ok (.str (D.text (.lst xs))) m := repr_l ht hd (szOk_iff.mp hs)
theorem repr_T {m : Hd} {xs : List D} (ht : D.tameL xs = true) (hd : D.depL xs ≤ 63) (hs : szOk xs = true) : biD .repr [.tup xs] m = .ok (.str (D.text (.tup xs))) m := repr_t ht hd (szOk_iff.mp hs)
@[simp] theorem repr_ref {m : Hd} {n : Nat} : biD .repr [.ref n] m = (optB (m[n]?.bind itemsO) m).bind fun xs m => biD .repr [.lst xs] m := by
  cases h : m[n]? with
  | none =>
    have e : fz m (.ref n) = .ref n := by simp only [fz, h]
    simp only [biD, e, D.flat]
    rfl
  | some o =>
    cases o with
    | lst xs =>
      have e := fz_r h
      simp only [biD, e]
      rfl
    | _ =>
      have e : fz m (.ref n) = .ref n := by simp only [fz, h]
      simp only [biD, e, D.flat]
      rfl
def Short (i : Int) : Prop := i.natAbs < 10 ^ 50
@[simp] theorem tame_i {i : Int} : D.tame (.int i) = true ↔ Short i := by simp only [D.tame, decide_eq_true_eq, Short]
theorem short_of {i : Int} (h1 : -1000000000000000000000000000000 < i) (h2 : i < 1000000000000000000000000000000) : Short i := by
  unfold Short
  have : (1000000000000000000000000000000 : Nat) ≤ 10 ^ 50 := by decide
  omega
@[simp] theorem tame_n : D.tame .non = true := rfl
@[simp] theorem tame_b {b : Bool} : D.tame (.bl b) = true := rfl
@[simp] theorem tame_t {xs : List D} : D.tame (.tup xs) = D.tameL xs := by simp only [D.tame]
@[simp] theorem tame_l {xs : List D} : D.tame (.lst xs) = D.tameL xs := by simp only [D.tame]
@[simp] theorem tameL_n : D.tameL [] = true := rfl
@[simp] theorem tameL_c {x : D} {xs : List D} : D.tameL (x :: xs) = (D.tame x && D.tameL xs) := by simp only [D.tameL]
end Dx
namespace Qk14
open PySem PySem.Spec PyProof.Rows L2 Dx
def top (i : Nat) : Stmt := PySem.Challenge.pw_slackweb_k14_numbers_put_between.main.body.getD i (.Pass ⟨0, 0, 0, 0⟩)
/-- put -/
def f0 : Fn := ⟨3, 3, false, [.iff (.and (.cmp .isnot (.var 1) (.con .non)) (.cmp .lt (.var 0) (.var 1))) [.ret (.var 1)] [],
  .iff (.and (.cmp .isnot (.var 2) (.con .non)) (.cmp .gt (.var 0) (.var 2))) [.ret (.var 2)] [],
  .ret (.var 0)]⟩
def d0 : DI := ⟨"put", top 1, ["number", "least", "greatest"], ["number", "least", "greatest"]⟩
/-- _law_box -/
def f1 : Fn := ⟨5, 3, false, [.asg (.name 3) (.bin false .add (.bin false .add (.bin false .mul (.con (.int 6353)) (.var 1)) (.bin false .mul (.con (.int 104723)) (.var 2))) (.con (.int 19))),
  .iff (.cmp .lt (.var 1) (.bi .len [.var 0])) [.asg (.name 3) (.bi .max2 [.ix (.var 0) (.var 1), .bin false .sub (.con (.int 0)) (.ix (.var 0) (.var 1))])] [.iff (.cmp .gt (.bi .len [.var 0]) (.con (.int 0))) [.asg (.name 3) (.bin false .add (.var 3) (.bin false .mul (.bin false .mod (.ix (.var 0) (.bin false .mod (.var 1) (.bi .len [.var 0]))) (.con (.int 2147483629))) (.con (.int 69623))))] []],
  .asg (.name 4) (.bin false .add (.bin false .mod (.bin false .add (.bin false .mul (.bin false .mod (.var 3) (.con (.int 2147483629))) (.con (.int 48271))) (.bin false .mul (.con (.int 40692)) (.bin false .add (.var 1) (.bin false .mul (.con (.int 9)) (.var 2))))) (.con (.int 2147483629))) (.con (.int 1))),
  .ret (.lst true [.ix (.lst false [.con (.int 0), .var 3]) (.bi .int [.cmp .ge (.var 3) (.bin false .pow (.con (.int 10)) (.con (.int 18)))]), .var 4, .con (.int 0)])]⟩
def d1 : DI := ⟨"_law_box", top 3, ["_law_script", "_law_k", "_law_own"], ["_law_script", "_law_k", "_law_own", "_law_cell", "_law_seed"]⟩
/-- _law_take -/
def f2 : Fn := ⟨4, 2, false, [.iff (.cmp .gt (.ix (.var 0) (.con (.int 0))) (.con (.int 0))) [.asg (.name 3) (.bin false .mod (.ix (.var 0) (.con (.int 0))) (.var 1)), .setix (.var 0) (.con (.int 0)) (.bin false .fdiv (.ix (.var 0) (.con (.int 0))) (.var 1)), .ret (.var 3)] [],
  .setix (.var 0) (.con (.int 2)) (.bin false .add (.ix (.var 0) (.con (.int 2))) (.con (.int 1))),
  .asg (.name 2) (.bin false .mod (.bin false .mul (.bin false .add (.ix (.var 0) (.con (.int 1))) (.bin false .mul (.con (.int 104729)) (.ix (.var 0) (.con (.int 2))))) (.con (.int 69623))) (.con (.int 2147483647))),
  .setix (.var 0) (.con (.int 1)) (.bin false .add (.bin false .mod (.bin false .add (.bin false .mul (.var 2) (.con (.int 48271))) (.con (.int 30103))) (.con (.int 2147483629))) (.con (.int 1))),
  .ret (.bin false .mod (.bin false .fdiv (.bin false .add (.bin false .mul (.var 2) (.con (.int 2147483647))) (.ix (.var 0) (.con (.int 1)))) (.con (.int 8191))) (.var 1))]⟩
def d2 : DI := ⟨"_law_take", top 4, ["_law_box_here", "_law_many"], ["_law_box_here", "_law_many", "_law_one", "_law_digit"]⟩
/-- _law_right -/
def f3 : Fn := ⟨5, 3, true, [.asg (.name 3) (.var 0),
  .iff (.and (.cmp .isnot (.var 2) (.con .non)) (.cmp .gt (.var 0) (.var 2))) [.asg (.name 3) (.var 2)] [],
  .iff (.and (.cmp .isnot (.var 1) (.con .non)) (.cmp .lt (.var 0) (.var 1))) [.asg (.name 3) (.var 1)] [],
  .asg (.name 4) (.lst true [.call 0 [.var 0, .var 1, .var 2] [.inl 0, .inl 1, .inl 2], .call 0 [.var 2, .var 1, .var 0] [.inl 2, .inl 1, .inl 0]]),
  .iff (.cmp .is (.var 1) (.con .non)) [.exp (.mt .append (.var 4) [.call 0 [.var 0, .var 2] [.inl 0, .inr .non, .inl 1]])] [],
  .iff (.cmp .is (.var 2) (.con .non)) [.exp (.mt .append (.var 4) [.call 0 [.var 0, .var 1] [.inl 0, .inl 1, .inr .non]])] [],
  .iff (.and (.cmp .is (.var 1) (.con .non)) (.cmp .is (.var 2) (.con .non))) [.exp (.mt .append (.var 4) [.call 0 [.var 0] [.inl 0, .inr .non, .inr .non]])] [],
  .exp (.mt .append (.var 4) [.call 0 [.var 3, .var 1, .var 2] [.inl 0, .inl 1, .inl 2]]),
  .ret (.cmp .eq (.bi .repr [.var 4]) (.bi .repr [.bin false .mul (.lst false [.var 3]) (.bi .len [.var 4])]))]⟩
def d3 : DI := ⟨"_law_right", top 5, ["_law_one", "_law_low", "_law_high"], ["_law_one", "_law_low", "_law_high", "_law_due", "_law_found"]⟩
/-- law -/
def f4_0 : List Sm := [.iff (.not (.val (.call 3 [.var 7, .ix (.var 8) (.con (.int 0)), .ix (.var 8) (.con (.int 1))] [.inl 0, .inl 1, .inl 2]))) [.ret (.con (.bl false))] []]
def f4_1 : List Sm := [.fr (.name 8) (.seq (.tup [.tup [.var 4, .var 5], .tup [.con .non, .var 5], .tup [.var 4, .con .non], .tup [.con .non, .con .non]])) f4_0]
def f4_2 : List Sm := [.asg (.name 2) (.call 1 [.var 0, .var 1, .con (.int 14)] [.inl 0, .inl 1, .inl 2]), .asg (.name 3) (.ix (.lst false [.con (.int 4), .con (.int 30), .bin false .pow (.con (.int 10)) (.con (.int 11)), .bin false .pow (.con (.int 10)) (.con (.int 11))]) (.call 2 [.var 2, .con (.int 4)] [.inl 0, .inl 1])), .asg (.name 4) (.bin false .sub (.call 2 [.var 2, .bin false .add (.bin false .mul (.con (.int 2)) (.var 3)) (.con (.int 1))] [.inl 0, .inl 1]) (.var 3)), .asg (.name 5) (.bin false .add (.var 4) (.ix (.lst false [.con (.int 0), .con (.int 1), .call 2 [.var 2, .con (.int 9)] [.inl 0, .inl 1], .call 2 [.var 2, .bin false .pow (.con (.int 10)) (.con (.int 11))] [.inl 0, .inl 1]]) (.call 2 [.var 2, .con (.int 4)] [.inl 0, .inl 1]))), .asg (.name 6) (.lst false [.var 4, .var 5, .bin false .sub (.var 4) (.con (.int 1)), .bin false .add (.var 5) (.con (.int 1)), .bin false .fdiv (.bin false .add (.var 4) (.var 5)) (.con (.int 2)), .bin false .sub (.call 2 [.var 2, .bin false .add (.bin false .mul (.con (.int 2)) (.var 3)) (.con (.int 1))] [.inl 0, .inl 1]) (.var 3), .con (.int 0)]), .fr (.name 7) (.seq (.var 6)) f4_1]
def f4 : Fn := ⟨9, 1, false, [.fr (.name 1) (.rng (.con (.int 0)) (.bi .max2 [.con (.int 4), .bi .min2 [.con (.int 12), .bi .len [.var 0]]])) f4_2,
  .ret (.con (.bl true))]⟩
def d4 : DI := ⟨"law", top 6, ["_law_script"], ["_law_script", "_law_k", "_law_box_here", "_law_wide", "_law_lower", "_law_upper", "_law_some", "_law_one", "_law_bounds"]⟩
def T : List Fn := [f0, f1, f2, f3, f4]
def defs : List DI := [d0, d1, d2, d3, d4]
def blts : List Str := ["len", "max", "int", "repr", "range", "min"]
def glb : List (Str × D) := []
def s0 : Dx.Shape := ⟨"put", 1, ["least", "greatest"], 0, [.inl 0, .inl 1, .inl 2]⟩
def s1 : Dx.Shape := ⟨"put", 0, ["greatest", "least", "number"], 0, [.inl 2, .inl 1, .inl 0]⟩
def s2 : Dx.Shape := ⟨"put", 1, ["greatest"], 0, [.inl 0, .inr .non, .inl 1]⟩
def s3 : Dx.Shape := ⟨"put", 1, ["least"], 0, [.inl 0, .inl 1, .inr .non]⟩
def s4 : Dx.Shape := ⟨"put", 1, [], 0, [.inl 0, .inr .non, .inr .non]⟩
def s5 : Dx.Shape := ⟨"_law_box", 3, [], 1, [.inl 0, .inl 1, .inl 2]⟩
def s6 : Dx.Shape := ⟨"_law_take", 2, [], 2, [.inl 0, .inl 1]⟩
def s7 : Dx.Shape := ⟨"_law_right", 3, [], 3, [.inl 0, .inl 1, .inl 2]⟩
def shs : List Dx.Shape := [s0, s1, s2, s3, s4, s5, s6, s7]
theorem c0 : chkD 60 60 blts glb shs d0 f0 = true := by decide +kernel
theorem c1 : chkD 60 60 blts glb shs d1 f1 = true := by decide +kernel
theorem c2 : chkD 60 60 blts glb shs d2 f2 = true := by decide +kernel
theorem c3 : chkD 60 60 blts glb shs d3 f3 = true := by decide +kernel
theorem c4 : chkD 60 60 blts glb shs d4 f4 = true := by decide +kernel
theorem look (i : Nat) (d : DI) (F : Fn) (h1 : defs[i]? = some d) (h2 : T[i]? = some F) : chkD 60 60 blts glb shs d F = true := by
  match i, h1, h2 with
  | 0, h1, h2 => cases h1; cases h2; exact c0
  | 1, h1, h2 => cases h1; cases h2; exact c1
  | 2, h1, h2 => cases h1; cases h2; exact c2
  | 3, h1, h2 => cases h1; cases h2; exact c3
  | 4, h1, h2 => cases h1; cases h2; exact c4
  | _ + 5, h1, h2 => cases h1
section
variable {K : PySem.W.Frag} {mg : Str → Option Value}
theorem b0 {fa : Addr} {fd : FuncData} (D : DefF K mg d0 fa fd) {oc doc pm cdv ct : Value} {od an : Option Addr} {osl : Array (Option Value)} {D0 : Addr}
    (l : K.lookup fa = some ⟨oc, od, .func (PySem.W.fnOf d0.name d0.name (defArgs d0.st) (defBody d0.st) (defScope d0.st) .none (.ref D0) doc pm an cdv ct), osl⟩) : ShB K mg defs s0 := by
  obtain ⟨oc1, od1, dV1, kV1, doc1, pm1, an1, cdv1, ct1, osl1, e1, l1, c1⟩ := id D.ex
  rw [l] at l1
  cases l1
  refine ⟨d0, fa, _, rfl, D, rfl, rfl, fun s us ws X h1 h2 => ?_⟩
  match us, ws, h1, h2 with
  | [u0], [w0, w1], _, _ =>
    refine ⟨[u0, w0, w1], ⟨rfl, fun j z hz => ?_⟩, BindsTo.of_looks fun M => KwChain.looks X (D := D0) (l := []) (fun q hq => ?_) ?_⟩
    · match j, hz with
      | 0, hz => exact hz
      | 1, hz => exact hz
      | 2, hz => exact hz
      | _ + 3, hz => cases hz
    · cases hq
    · exact rfl
theorem b1 {fa : Addr} {fd : FuncData} (D : DefF K mg d0 fa fd) {oc doc pm cdv ct : Value} {od an : Option Addr} {osl : Array (Option Value)} {D0 : Addr}
    (l : K.lookup fa = some ⟨oc, od, .func (PySem.W.fnOf d0.name d0.name (defArgs d0.st) (defBody d0.st) (defScope d0.st) .none (.ref D0) doc pm an cdv ct), osl⟩) : ShB K mg defs s1 := by
  obtain ⟨oc1, od1, dV1, kV1, doc1, pm1, an1, cdv1, ct1, osl1, e1, l1, c1⟩ := id D.ex
  rw [l] at l1
  cases l1
  refine ⟨d0, fa, _, rfl, D, rfl, rfl, fun s us ws X h1 h2 => ?_⟩
  match us, ws, h1, h2 with
  | [], [w0, w1, w2], _, _ =>
    refine ⟨[w2, w1, w0], ⟨rfl, fun j z hz => ?_⟩, BindsTo.of_looks fun M => KwChain.looks X (D := D0) (l := []) (fun q hq => ?_) ?_⟩
    · match j, hz with
      | 0, hz => exact hz
      | 1, hz => exact hz
      | 2, hz => exact hz
      | _ + 3, hz => cases hz
    · cases hq
    · exact rfl
theorem b2 {fa : Addr} {fd : FuncData} {dv_least : Value} {v_least : V} (D : DefF K mg d0 fa fd) {oc doc pm cdv ct : Value} {od an : Option Addr} {osl : Array (Option Value)} {D0 : Addr}
    (l : K.lookup fa = some ⟨oc, od, .func (PySem.W.fnOf d0.name d0.name (defArgs d0.st) (defBody d0.st) (defScope d0.st) .none (.ref D0) doc pm an cdv ct), osl⟩) (n0_least : PySem.W.nsIn K D0 "least" = some (some dv_least)) (r0_least : RelV v_least dv_least) (hv_least : scalV .non = some v_least) : ShB K mg defs s2 := by
  obtain ⟨oc1, od1, dV1, kV1, doc1, pm1, an1, cdv1, ct1, osl1, e1, l1, c1⟩ := id D.ex
  rw [l] at l1
  cases l1
  refine ⟨d0, fa, _, rfl, D, rfl, rfl, fun s us ws X h1 h2 => ?_⟩
  match us, ws, h1, h2 with
  | [u0], [w0], _, _ =>
    refine ⟨[u0, dv_least, w0], ⟨rfl, fun j z hz => ?_⟩, BindsTo.of_looks fun M => KwChain.looks X (D := D0) (l := [("least", dv_least)]) (fun q hq => ?_) ?_⟩
    · match j, hz with
      | 0, hz => exact hz
      | 1, hz => cases hz; exact ⟨_, hv_least, r0_least⟩
      | 2, hz => exact hz
      | _ + 3, hz => cases hz
    · simp only [List.mem_cons, List.not_mem_nil, or_false] at hq
      rcases hq with rfl
      · exact n0_least
    · exact ⟨_, _, _, _, _, _, rfl, rfl, rfl⟩
theorem b3 {fa : Addr} {fd : FuncData} {dv_greatest : Value} {v_greatest : V} (D : DefF K mg d0 fa fd) {oc doc pm cdv ct : Value} {od an : Option Addr} {osl : Array (Option Value)} {D0 : Addr}
    (l : K.lookup fa = some ⟨oc, od, .func (PySem.W.fnOf d0.name d0.name (defArgs d0.st) (defBody d0.st) (defScope d0.st) .none (.ref D0) doc pm an cdv ct), osl⟩) (n0_greatest : PySem.W.nsIn K D0 "greatest" = some (some dv_greatest)) (r0_greatest : RelV v_greatest dv_greatest) (hv_greatest : scalV .non = some v_greatest) : ShB K mg defs s3 := by
  obtain ⟨oc1, od1, dV1, kV1, doc1, pm1, an1, cdv1, ct1, osl1, e1, l1, c1⟩ := id D.ex
  rw [l] at l1
  cases l1
  refine ⟨d0, fa, _, rfl, D, rfl, rfl, fun s us ws X h1 h2 => ?_⟩
  match us, ws, h1, h2 with
  | [u0], [w0], _, _ =>
    refine ⟨[u0, w0, dv_greatest], ⟨rfl, fun j z hz => ?_⟩, BindsTo.of_looks fun M => KwChain.looks X (D := D0) (l := [("greatest", dv_greatest)]) (fun q hq => ?_) ?_⟩
    · match j, hz with
      | 0, hz => exact hz
      | 1, hz => exact hz
      | 2, hz => cases hz; exact ⟨_, hv_greatest, r0_greatest⟩
      | _ + 3, hz => cases hz
    · simp only [List.mem_cons, List.not_mem_nil, or_false] at hq
      rcases hq with rfl
      · exact n0_greatest
    · exact ⟨_, _, _, _, _, _, rfl, rfl, rfl⟩
theorem b4 {fa : Addr} {fd : FuncData} {dv_least : Value} {v_least : V} {dv_greatest : Value} {v_greatest : V} (D : DefF K mg d0 fa fd) {oc doc pm cdv ct : Value} {od an : Option Addr} {osl : Array (Option Value)} {D0 : Addr}
    (l : K.lookup fa = some ⟨oc, od, .func (PySem.W.fnOf d0.name d0.name (defArgs d0.st) (defBody d0.st) (defScope d0.st) .none (.ref D0) doc pm an cdv ct), osl⟩) (n0_least : PySem.W.nsIn K D0 "least" = some (some dv_least)) (r0_least : RelV v_least dv_least) (n0_greatest : PySem.W.nsIn K D0 "greatest" = some (some dv_greatest)) (r0_greatest : RelV v_greatest dv_greatest) (hv_least : scalV .non = some v_least) (hv_greatest : scalV .non = some v_greatest) : ShB K mg defs s4 := by
  obtain ⟨oc1, od1, dV1, kV1, doc1, pm1, an1, cdv1, ct1, osl1, e1, l1, c1⟩ := id D.ex
  rw [l] at l1
  cases l1
  refine ⟨d0, fa, _, rfl, D, rfl, rfl, fun s us ws X h1 h2 => ?_⟩
  match us, ws, h1, h2 with
  | [u0], [], _, _ =>
    refine ⟨[u0, dv_least, dv_greatest], ⟨rfl, fun j z hz => ?_⟩, BindsTo.of_looks fun M => KwChain.looks X (D := D0) (l := [("least", dv_least), ("greatest", dv_greatest)]) (fun q hq => ?_) ?_⟩
    · match j, hz with
      | 0, hz => exact hz
      | 1, hz => cases hz; exact ⟨_, hv_least, r0_least⟩
      | 2, hz => cases hz; exact ⟨_, hv_greatest, r0_greatest⟩
      | _ + 3, hz => cases hz
    · simp only [List.mem_cons, List.not_mem_nil, or_false] at hq
      rcases hq with rfl | rfl
      · exact n0_least
      · exact n0_greatest
    · exact ⟨_, _, _, _, _, _, rfl, rfl, ⟨_, _, _, _, _, _, rfl, rfl, rfl⟩⟩
theorem b5 {fa : Addr} {fd : FuncData} (D : DefF K mg d1 fa fd) {oc kV doc pm cdv ct : Value} {od an : Option Addr} {osl : Array (Option Value)}
    (l : K.lookup fa = some ⟨oc, od, .func (PySem.W.fnOf d1.name d1.name (defArgs d1.st) (defBody d1.st) (defScope d1.st) .none kV doc pm an cdv ct), osl⟩) : ShB K mg defs s5 := by
  obtain ⟨oc1, od1, dV1, kV1, doc1, pm1, an1, cdv1, ct1, osl1, e1, l1, c1⟩ := id D.ex
  rw [l] at l1
  cases l1
  refine ⟨d1, fa, _, rfl, D, rfl, rfl, fun s us ws X h1 h2 => ?_⟩
  match us, ws, h1, h2 with
  | [u0, u1, u2], [], _, _ =>
    refine ⟨[u0, u1, u2], ⟨rfl, fun j z hz => ?_⟩, BindsTo.of_looks fun M => KwChain.looks X (D := 0) (l := []) (fun q hq => ?_) ?_⟩
    · match j, hz with
      | 0, hz => exact hz
      | 1, hz => exact hz
      | 2, hz => exact hz
      | _ + 3, hz => cases hz
    · cases hq
    · exact rfl
theorem b6 {fa : Addr} {fd : FuncData} (D : DefF K mg d2 fa fd) {oc kV doc pm cdv ct : Value} {od an : Option Addr} {osl : Array (Option Value)}
    (l : K.lookup fa = some ⟨oc, od, .func (PySem.W.fnOf d2.name d2.name (defArgs d2.st) (defBody d2.st) (defScope d2.st) .none kV doc pm an cdv ct), osl⟩) : ShB K mg defs s6 := by
  obtain ⟨oc1, od1, dV1, kV1, doc1, pm1, an1, cdv1, ct1, osl1, e1, l1, c1⟩ := id D.ex
  rw [l] at l1
  cases l1
  refine ⟨d2, fa, _, rfl, D, rfl, rfl, fun s us ws X h1 h2 => ?_⟩
  match us, ws, h1, h2 with
  | [u0, u1], [], _, _ =>
    refine ⟨[u0, u1], ⟨rfl, fun j z hz => ?_⟩, BindsTo.of_looks fun M => KwChain.looks X (D := 0) (l := []) (fun q hq => ?_) ?_⟩
    · match j, hz with
      | 0, hz => exact hz
      | 1, hz => exact hz
      | _ + 2, hz => cases hz
    · cases hq
    · exact rfl
theorem b7 {fa : Addr} {fd : FuncData} (D : DefF K mg d3 fa fd) {oc kV doc pm cdv ct : Value} {od an : Option Addr} {osl : Array (Option Value)}
    (l : K.lookup fa = some ⟨oc, od, .func (PySem.W.fnOf d3.name d3.name (defArgs d3.st) (defBody d3.st) (defScope d3.st) .none kV doc pm an cdv ct), osl⟩) : ShB K mg defs s7 := by
  obtain ⟨oc1, od1, dV1, kV1, doc1, pm1, an1, cdv1, ct1, osl1, e1, l1, c1⟩ := id D.ex
  rw [l] at l1
  cases l1
  refine ⟨d3, fa, _, rfl, D, rfl, rfl, fun s us ws X h1 h2 => ?_⟩
  match us, ws, h1, h2 with
  | [u0, u1, u2], [], _, _ =>
    refine ⟨[u0, u1, u2], ⟨rfl, fun j z hz => ?_⟩, BindsTo.of_looks fun M => KwChain.looks X (D := 0) (l := []) (fun q hq => ?_) ?_⟩
    · match j, hz with
      | 0, hz => exact hz
      | 1, hz => exact hz
      | 2, hz => exact hz
      | _ + 3, hz => cases hz
    · cases hq
    · exact rfl
end
theorem mk {P : Program} {w : World} {K : PySem.W.Frag} {h : Heap} {mg : Str → Option Value} {fa : Addr} (k : Nat) (X : K.In h) (G : h.Ns mainGlobals mg) (hfa : mg "law" = some (.ref fa))
    {a0 : Addr} {oc0 dc0 pm0 cd0 ct0 : Value} {od0 an0 : Option Addr} {sl0 : Array (Option Value)} {D0 : Addr}
    (n0 : PySem.W.nsIn K mainGlobals "put" = some (some (.ref a0))) (l0 : K.lookup a0 = some ⟨oc0, od0, .func (PySem.W.fnOf "put" "put" (defArgs (top 1)) (defBody (top 1)) (defScope (top 1)) .none (.ref D0) dc0 pm0 an0 cd0 ct0), sl0⟩) (c0 : PySem.W.codeIn K cd0 "put" = true) (k0 : PySem.W.keepIn K (.ref a0) = true)
    (n0_least : PySem.W.nsIn K D0 "least" = some (some .none))
    (n0_greatest : PySem.W.nsIn K D0 "greatest" = some (some .none))
    {a1 : Addr} {oc1 kV1 dc1 pm1 cd1 ct1 : Value} {od1 an1 : Option Addr} {sl1 : Array (Option Value)}
    (n1 : PySem.W.nsIn K mainGlobals "_law_box" = some (some (.ref a1))) (l1 : K.lookup a1 = some ⟨oc1, od1, .func (PySem.W.fnOf "_law_box" "_law_box" (defArgs (top 3)) (defBody (top 3)) (defScope (top 3)) .none kV1 dc1 pm1 an1 cd1 ct1), sl1⟩) (c1 : PySem.W.codeIn K cd1 "_law_box" = true) (k1 : PySem.W.keepIn K (.ref a1) = true)
    {a2 : Addr} {oc2 kV2 dc2 pm2 cd2 ct2 : Value} {od2 an2 : Option Addr} {sl2 : Array (Option Value)}
    (n2 : PySem.W.nsIn K mainGlobals "_law_take" = some (some (.ref a2))) (l2 : K.lookup a2 = some ⟨oc2, od2, .func (PySem.W.fnOf "_law_take" "_law_take" (defArgs (top 4)) (defBody (top 4)) (defScope (top 4)) .none kV2 dc2 pm2 an2 cd2 ct2), sl2⟩) (c2 : PySem.W.codeIn K cd2 "_law_take" = true) (k2 : PySem.W.keepIn K (.ref a2) = true)
    {a3 : Addr} {oc3 kV3 dc3 pm3 cd3 ct3 : Value} {od3 an3 : Option Addr} {sl3 : Array (Option Value)}
    (n3 : PySem.W.nsIn K mainGlobals "_law_right" = some (some (.ref a3))) (l3 : K.lookup a3 = some ⟨oc3, od3, .func (PySem.W.fnOf "_law_right" "_law_right" (defArgs (top 5)) (defBody (top 5)) (defScope (top 5)) .none kV3 dc3 pm3 an3 cd3 ct3), sl3⟩) (c3 : PySem.W.codeIn K cd3 "_law_right" = true) (k3 : PySem.W.keepIn K (.ref a3) = true)
    {a4 : Addr} {oc4 kV4 dc4 pm4 cd4 ct4 : Value} {od4 an4 : Option Addr} {sl4 : Array (Option Value)}
    (n4 : PySem.W.nsIn K mainGlobals "law" = some (some (.ref a4))) (l4 : K.lookup a4 = some ⟨oc4, od4, .func (PySem.W.fnOf "law" "law" (defArgs (top 6)) (defBody (top 6)) (defScope (top 6)) .none kV4 dc4 pm4 an4 cd4 ct4), sl4⟩) (c4 : PySem.W.codeIn K cd4 "law" = true) (k4 : PySem.W.keepIn K (.ref a4) = true)
    (z0 : PySem.W.nsIn K mainGlobals "len" = some none)
    (z1 : PySem.W.nsIn K mainGlobals "max" = some none)
    (z2 : PySem.W.nsIn K mainGlobals "int" = some none)
    (z3 : PySem.W.nsIn K mainGlobals "repr" = some none)
    (z4 : PySem.W.nsIn K mainGlobals "range" = some none)
    (z5 : PySem.W.nsIn K mainGlobals "min" = some none)
    : ∃ fd : FuncData, (∀ (s : Shared) (u : Value), BindsTo s fd ⟨[u], []⟩ [("_law_script", u)]) ∧ ∀ base : Heap, FnG P w K mg base CX0 k fa fd ["_law_script"] (spD ⟨K, fun _ => 0, fun _ => Str.empty⟩ 1 (callN T k 4)) := by
  have e := hfa.symm.trans (PySem.W.mg_of X G n4)
  cases e
  have D0F : DefF K mg d0 a0 _ := ⟨⟨oc0, od0, _, _, dc0, pm0, an0, cd0, ct0, sl0, rfl, l0, c0⟩, PySem.W.mg_of X G n0, k0⟩
  have D1F : DefF K mg d1 a1 _ := ⟨⟨oc1, od1, _, _, dc1, pm1, an1, cd1, ct1, sl1, rfl, l1, c1⟩, PySem.W.mg_of X G n1, k1⟩
  have D2F : DefF K mg d2 a2 _ := ⟨⟨oc2, od2, _, _, dc2, pm2, an2, cd2, ct2, sl2, rfl, l2, c2⟩, PySem.W.mg_of X G n2, k2⟩
  have D3F : DefF K mg d3 a3 _ := ⟨⟨oc3, od3, _, _, dc3, pm3, an3, cd3, ct3, sl3, rfl, l3, c3⟩, PySem.W.mg_of X G n3, k3⟩
  have D4F : DefF K mg d4 fa _ := ⟨⟨oc4, od4, _, _, dc4, pm4, an4, cd4, ct4, sl4, rfl, l4, c4⟩, PySem.W.mg_of X G n4, k4⟩
  have B0 : ShB K mg defs s0 := b0 D0F l0
  have B1 : ShB K mg defs s1 := b1 D0F l0
  have B2 : ShB K mg defs s2 := b2 (v_least := .non) D0F l0 n0_least rfl rfl
  have B3 : ShB K mg defs s3 := b3 (v_greatest := .non) D0F l0 n0_greatest rfl rfl
  have B4 : ShB K mg defs s4 := b4 (v_least := .non) (v_greatest := .non) D0F l0 n0_least rfl n0_greatest rfl rfl rfl
  have B5 : ShB K mg defs s5 := b5 D1F l1
  have B6 : ShB K mg defs s6 := b6 D2F l2
  have B7 : ShB K mg defs s7 := b7 D3F l3
  refine ⟨_, fun s u => .of_eq rfl, fun base => levels (L := ⟨K, fun _ => 0, fun _ => Str.empty⟩) (shs := shs) rfl look (fun x hx => ?_) (fun p hp => ?_) (fun sh hsh => ?_) k 4 d4 fa _ rfl D4F⟩
  · simp only [blts, List.mem_cons, List.not_mem_nil, or_false] at hx
    rcases hx with rfl | rfl | rfl | rfl | rfl | rfl
    · exact PySem.W.mg_none_of X G z0
    · exact PySem.W.mg_none_of X G z1
    · exact PySem.W.mg_none_of X G z2
    · exact PySem.W.mg_none_of X G z3
    · exact PySem.W.mg_none_of X G z4
    · exact PySem.W.mg_none_of X G z5
  · simp only [glb, List.mem_cons, List.not_mem_nil, or_false] at hp
  · simp only [shs, List.mem_cons, List.not_mem_nil, or_false] at hsh
    rcases hsh with rfl | rfl | rfl | rfl | rfl | rfl | rfl | rfl
    · exact B0
    · exact B1
    · exact B2
    · exact B3
    · exact B4
    · exact B5
    · exact B6
    · exact B7
end Qk14
namespace Qk14
open Dx
theorem take_is (k n : Nat) (m : Hd) (a b c many : Int) (h : m[n]? = some (.lst [.int a, .int b, .int c])) (hm : 0 < many) (hs : many < 2^64) :
    Is (callN T (k+1) 2 [.ref n, .int many] m) fun d m' => ∃ i a' b' c', d = .int i ∧ m' = m.set n (.lst [.int a', .int b', .int c']) ∧ 0 ≤ i ∧ i < many := by
  rw [call_eq (f := f2) rfl]
  simp [-getElem?_pos, runFn, f2, h]
  refine ⟨fun ha => ⟨hm, ⟨hm, by omega, by omega⟩, ⟨_, _, _, rfl⟩, Int.emod_nonneg _ (by omega), Int.emod_lt_of_pos _ hm⟩, fun ha => ⟨hm, ⟨_, _, _, rfl⟩, Int.emod_nonneg _ (by omega), Int.emod_lt_of_pos _ hm⟩⟩
theorem at_scr {ns : List Int} {j : Int} (h0 : 0 ≤ j) (h : j < ns.length) : ∃ v, atD (ns.map D.int) j = some (.int v) := by
  have hj : j.toNat < ns.length := by omega
  exact ⟨ns[j.toNat], by rw [at_in h0 (by simpa using h), List.getElem?_map, List.getElem?_eq_getElem hj]; rfl⟩
theorem line2 : 2 ≤ PySem.sizeLine := by decide
theorem line3 : 3 ≤ PySem.sizeLine := by decide
theorem box_is (k : Nat) (m : Hd) (ns : List Int) (j own : Int) (h0 : 0 ≤ j) (h1 : ns.length < 2^62) :
    Is (callN T (k+1) 1 [.scr ns, .int j, .int own] m) fun d m' => ∃ a b, d = .ref m.length ∧ m' = m ++ [.lst [.int a, .int b, .int 0]] := by
  rw [call_eq (f := f1) rfl]
  by_cases c1 : j < ns.length
  · obtain ⟨v, e⟩ := at_scr h0 c1
    simp [-getElem?_pos, runFn, f1, e, c1]
  · by_cases c2 : 0 < ns.length
    · obtain ⟨v, e⟩ := at_scr (ns := ns) (j := j % ns.length) (Int.emod_nonneg _ (by omega)) (Int.emod_lt_of_pos _ (by omega))
      simp [-getElem?_pos, runFn, f1, e, c1, c2]
    · simp [-getElem?_pos, runFn, f1, c1, c2]
def oi : Option Int → D
  | none => .non
  | some i => .int i
def putI (x : Int) (lo hi : Option Int) : Int := match lo, hi with
  | some l, some h => if x < l then l else if h < x then h else x
  | some l, none => if x < l then l else x
  | none, some h => if h < x then h else x
  | none, none => x
theorem put_is (k : Nat) (m : Hd) (x : Int) (lo hi : Option Int) : callN T (k+1) 0 [.int x, oi lo, oi hi] m = .ok (.int (putI x lo hi)) m := by
  have : Is (callN T (k+1) 0 [.int x, oi lo, oi hi] m) fun d m' => d = .int (putI x lo hi) ∧ m' = m := by
    rw [call_eq (f := f0) rfl]
    cases lo <;> cases hi <;> simp [runFn, f0, oi, putI]
    all_goals grind
  obtain ⟨a, m', e, rfl, rfl⟩ := this.ok
  exact e
theorem put_nn (k : Nat) (m : Hd) (x : Int) : callN T (k+1) 0 [.int x, .non, .non] m = .ok (.int (putI x none none)) m := put_is k m x none none
theorem put_in (k : Nat) (m : Hd) (x l : Int) : callN T (k+1) 0 [.int x, .int l, .non] m = .ok (.int (putI x (some l) none)) m := put_is k m x (some l) none
theorem put_ni (k : Nat) (m : Hd) (x h : Int) : callN T (k+1) 0 [.int x, .non, .int h] m = .ok (.int (putI x none (some h))) m := put_is k m x none (some h)
theorem put_ii (k : Nat) (m : Hd) (x l h : Int) : callN T (k+1) 0 [.int x, .int l, .int h] m = .ok (.int (putI x (some l) (some h))) m := put_is k m x (some l) (some h)
theorem right_is (k : Nat) (m : Hd) (x : Int) (lo hi : Option Int) (hx : Short x) (hl : ∀ l, lo = some l → Short l) (hh : ∀ l, hi = some l → Short l) (hlh : ∀ l h, lo = some l → hi = some h → l ≤ h) :
    Is (callN T (k+2) 3 [.int x, oi lo, oi hi] m) fun d m' => d = .bl true ∧ m' = m := by
  rw [call_eq (f := f3) rfl]
  cases lo with
  | none =>
    cases hi with
    | none => simp [runFn, f3, oi, put_nn, put_in, put_ni, put_ii, putI, repr_L, hx]
    | some h =>
      have hh := hh h rfl
      by_cases c : h < x <;> simp [runFn, f3, oi, put_nn, put_in, put_ni, put_ii, putI, repr_L, hx, hh, c]
  | some l =>
    have hl := hl l rfl
    cases hi with
    | none =>
      by_cases c : x < l <;> simp [runFn, f3, oi, put_nn, put_in, put_ni, put_ii, putI, repr_L, hx, hl, c]
    | some h =>
      have hh := hh h rfl
      have hlh := hlh l h rfl rfl
      have n1 : ¬ h < l := by omega
      by_cases c : x < l
      · have c' : ¬ h < x := by omega
        simp [runFn, f3, oi, put_nn, put_in, put_ni, put_ii, putI, repr_L, hx, hl, hh, c, c', n1]
      · by_cases c' : h < x <;> simp [runFn, f3, oi, put_nn, put_in, put_ni, put_ii, putI, repr_L, hx, hl, hh, c, c', n1]
theorem right_e (m : Hd) (x : Int) (lo hi : Option Int) (hx : Short x) (hl : ∀ l, lo = some l → Short l) (hh : ∀ l, hi = some l → Short l) (hlh : ∀ l h, lo = some l → hi = some h → l ≤ h) :
    callN T 2 3 [.int x, oi lo, oi hi] m = .ok (.bl true) m := by
  obtain ⟨a, m', e, rfl, rfl⟩ := (right_is 0 m x lo hi hx hl hh hlh).ok
  exact e
theorem take_l (m : Hd) (a b c many : Int) (hm : 0 < many) (hs : many < 2^64) :
    ∃ i a' b' c', callN T 2 2 [.ref m.length, .int many] (m ++ [.lst [.int a, .int b, .int c]]) = .ok (.int i) (m ++ [.lst [.int a', .int b', .int c']]) ∧ 0 ≤ i ∧ i < many := by
  obtain ⟨d, m', e, i, a', b', c', rfl, rfl, h1, h2⟩ := (take_is 1 m.length (m ++ [.lst [.int a, .int b, .int c]]) a b c many (by simp) hm hs).ok
  exact ⟨i, a', b', c', by rw [e]; simp, h1, h2⟩
theorem box_e (m : Hd) (ns : List Int) (j own : Int) (h0 : 0 ≤ j) (h1 : ns.length < 2^62) :
    ∃ a b, callN T 2 1 [.scr ns, .int j, .int own] m = .ok (.ref m.length) (m ++ [.lst [.int a, .int b, .int 0]]) := by
  obtain ⟨d, m', e, a, b, rfl, rfl⟩ := (box_is 1 m ns j own h0 h1).ok
  exact ⟨a, b, e⟩
theorem loop1 (x0 x1 x2 x3 x6 x8 : Option D) (lo up one : Int) (m : Hd) (h1 : Short lo) (h2 : Short up) (h3 : Short one) (h : lo ≤ up) :
    Is (evB (callN T 2) f4_1 [x0, x1, x2, x3, some (.int lo), some (.int up), x6, some (.int one), x8] m) fun f m' => m' = m ∧ ∃ y8, f = .next [x0, x1, x2, x3, some (.int lo), some (.int up), x6, some (.int one), y8] := by
  have e1 := right_e m one (some lo) (some up) h3 (by rintro l ⟨⟩; exact h1) (by rintro l ⟨⟩; exact h2) (by rintro l u ⟨⟩ ⟨⟩; exact h)
  have e2 := right_e m one none (some up) h3 (by rintro l ⟨⟩) (by rintro l ⟨⟩; exact h2) (by rintro l u ⟨⟩)
  have e3 := right_e m one (some lo) none h3 (by rintro l ⟨⟩; exact h1) (by rintro l ⟨⟩) (by rintro l u _ ⟨⟩)
  have e4 := right_e m one none none h3 (by rintro l ⟨⟩) (by rintro l ⟨⟩) (by rintro l u ⟨⟩)
  simp only [oi] at e1 e2 e3 e4
  simp [f4_1, f4_0, guOf, guOk, frGo, frTurn, bindTg, e1, e2, e3, e4]
theorem loop2 (x0 x1 x2 x3 x6 x7 x8 : Option D) (lo up : Int) (ones : List Int) (m : Hd) (h1 : Short lo) (h2 : Short up) (h3 : ∀ i ∈ ones, Short i) (h : lo ≤ up) :
    Is (frGo [] (.name 7) (evB (callN T 2) f4_1) (ones.map .int) [x0, x1, x2, x3, some (.int lo), some (.int up), x6, x7, x8] m) fun f _ => ∃ y7 y8, f = .next [x0, x1, x2, x3, some (.int lo), some (.int up), x6, y7, y8] := by
  refine fr_inv (fun _ s _ => ∃ y7 y8, s = [x0, x1, x2, x3, some (.int lo), some (.int up), x6, y7, y8]) ⟨_, _, rfl⟩ (fun _ _ _ _ => rfl) (fun pre d post s m hd ⟨y7, y8, hs⟩ => ?_) (fun s m ⟨y7, y8, hs⟩ => ⟨y7, y8, by rw [hs]⟩)
  subst hs
  have hmem : d ∈ ones.map D.int := by rw [hd]; simp
  obtain ⟨i, hi, rfl⟩ := List.mem_map.mp hmem
  refine ⟨_, rfl, (loop1 x0 x1 x2 x3 x6 y8 lo up i m h1 h2 (h3 i hi) h).imp fun f m' q => ?_⟩
  obtain ⟨_, z8, rfl⟩ := q
  exact ⟨_, _, rfl⟩
theorem body2 (ns : List Int) (hn : ns.length ≤ 63) (j : Int) (hj : 0 ≤ j) (x2 x3 x4 x5 x6 x7 x8 : Option D) (m : Hd) :
    Is (evB (callN T 2) f4_2 [some (.scr ns), some (.int j), x2, x3, x4, x5, x6, x7, x8] m) fun f _ => ∃ y1 y2 y3 y4 y5 y6 y7 y8, f = .next [some (.scr ns), y1, y2, y3, y4, y5, y6, y7, y8] := by
  obtain ⟨a, b, e0⟩ := box_e m ns j 14 hj (by omega)
  obtain ⟨i1, a1, b1, c1, e1, l1, u1⟩ := take_l m a b 0 4 (by omega) (by omega)
  obtain ⟨w, hw, w1, w2⟩ : ∃ w, atD [.int 4, .int 30, .int 100000000000, .int 100000000000] i1 = some (.int w) ∧ 0 < w ∧ w ≤ 100000000000 := by
    have : i1 = 0 ∨ i1 = 1 ∨ i1 = 2 ∨ i1 = 3 := by omega
    rcases this with rfl | rfl | rfl | rfl
    · exact ⟨_, at_0, by omega, by omega⟩
    · exact ⟨_, at_1, by omega, by omega⟩
    · exact ⟨_, at_2, by omega, by omega⟩
    · exact ⟨_, at_3, by omega, by omega⟩
  obtain ⟨i2, a2, b2, c2, e2, l2, u2⟩ := take_l m a1 b1 c1 (2 * w + 1) (by omega) (by omega)
  obtain ⟨i3, a3, b3, c3, e3, l3, u3⟩ := take_l m a2 b2 c2 9 (by omega) (by omega)
  obtain ⟨i4, a4, b4, c4, e4, l4, u4⟩ := take_l m a3 b3 c3 100000000000 (by omega) (by omega)
  obtain ⟨i5, a5, b5, c5, e5, l5, u5⟩ := take_l m a4 b4 c4 4 (by omega) (by omega)
  obtain ⟨g, hg, g1, g2⟩ : ∃ g, atD [.int 0, .int 1, .int i3, .int i4] i5 = some (.int g) ∧ 0 ≤ g ∧ g ≤ 100000000000 := by
    have : i5 = 0 ∨ i5 = 1 ∨ i5 = 2 ∨ i5 = 3 := by omega
    rcases this with rfl | rfl | rfl | rfl
    · exact ⟨_, at_0, by omega, by omega⟩
    · exact ⟨_, at_1, by omega, by omega⟩
    · exact ⟨_, at_2, by omega, by omega⟩
    · exact ⟨_, at_3, by omega, by omega⟩
  obtain ⟨i6, a6, b6, c6, e6, l6, u6⟩ := take_l m a5 b5 c5 (2 * w + 1) (by omega) (by omega)
  simp [f4_2, e0, e1, e2, e3, e4, e5, e6, hw, hg, guOf, guOk]
  have L := loop2 (some (.scr ns)) (some (.int j)) (some (.ref m.length)) (some (.int w)) (some (.lst [.int (i2 - w), .int (i2 - w + g), .int (i2 - w - 1), .int (i2 - w + g + 1), .int ((i2 - w + (i2 - w + g)) / 2), .int (i6 - w), .int 0])) x7 x8 (i2 - w) (i2 - w + g)
    [i2 - w, i2 - w + g, i2 - w - 1, i2 - w + g + 1, (i2 - w + (i2 - w + g)) / 2, i6 - w, 0] (m ++ [.lst [.int a6, .int b6, .int c6]])
    (short_of (by omega) (by omega)) (short_of (by omega) (by omega)) (by
      intro i hi
      simp only [List.mem_cons, List.not_mem_nil, or_false] at hi
      rcases hi with rfl | rfl | rfl | rfl | rfl | rfl | rfl <;> exact short_of (by omega) (by omega)) (by omega)
  obtain ⟨f, m', e, y7, y8, rfl⟩ := L.ok
  have e : frGo [] (Tg.name 7) (evB (callN T 2) f4_1) [.int (i2 - w), .int (i2 - w + g), .int (i2 - w - 1), .int (i2 - w + g + 1), .int ((i2 - w + (i2 - w + g)) / 2), .int (i6 - w), .int 0] _ _ = _ := e
  rw [e]
  simp
theorem law : Law T 3 4 63 := by
  intro ns hn
  have : Is (callN T 3 4 [.scr ns] []) fun d m => d = .bl true := by
    rw [call_eq (f := f4) rfl]
    simp [-getElem?_pos, runFn, f4, rngD, bigI]
    refine ⟨by split <;> split <;> omega, ?_⟩
    generalize hX : (if 4 < if (ns.length : Int) < 12 then (ns.length : Int) else 12 then if (ns.length : Int) < 12 then (ns.length : Int) else 12 else 4) = X
    have hfr : Is (frGo [] (Tg.name 1) (evB (callN T 2) f4_2) (rangeD 0 X) [some (D.scr ns), none, none, none, none, none, none, none, none] []) fun f m => ∃ s, f = .next s := by
      refine fr_inv (fun _ s m => ∃ y1 y2 y3 y4 y5 y6 y7 y8, s = [some (.scr ns), y1, y2, y3, y4, y5, y6, y7, y8]) ⟨_, _, _, _, _, _, _, _, rfl⟩ (fun _ _ _ _ => rfl) (fun pre d post s m hd ⟨y1, y2, y3, y4, y5, y6, y7, y8, hs⟩ => ?_) (fun s m _ => ⟨s, rfl⟩)
      subst hs
      have hmem : d ∈ rangeD 0 X := by rw [hd]; simp
      obtain ⟨j, hj, rfl⟩ := List.mem_map.mp hmem
      refine ⟨_, rfl, (body2 ns hn _ (by omega) y2 y3 y4 y5 y6 y7 y8 m).imp fun f m' h => ?_⟩
      obtain ⟨z1, z2, z3, z4, z5, z6, z7, z8, rfl⟩ := h
      exact ⟨_, _, _, _, _, _, _, _, rfl⟩
    obtain ⟨f, m', e, s', rfl⟩ := hfr.ok
    rw [e]
    simp
  obtain ⟨a, m', e, rfl⟩ := this.ok
  exact ⟨_, e⟩
end Qk14
open PySem PySem.W PyProof.Rows
set_option maxRecDepth 100000 in
set_option maxHeartbeats 0 in
theorem PySem.Challenge.cw_slackweb_k14_numbers_put_between_holds : PySem.Challenge.rw_slackweb_k14_numbers_put_between.Holds := by
  w_on; o_law; k_head; (case hw => w_witness2)
  k_fill
  refine Dx.law_end (l := PySem.Challenge.rw_slackweb_k14_numbers_put_between) (k := 3) (x := "_law_script") Qk14.law rfl (by decide) rfl ⟨rfl, by decide, by decide⟩ (fun w h Y => PySem.W.kIn_of Y) ?F
  case F =>
    intro w mg fa h KX G hmg
    refine' Qk14.mk 3 KX G hmg ?n0 ?l0 ?c0 ?k0 ?n0_least ?n0_greatest ?n1 ?l1 ?c1 ?k1 ?n2 ?l2 ?c2 ?k2 ?n3 ?l3 ?c3 ?k3 ?n4 ?l4 ?c4 ?k4 ?z0 ?z1 ?z2 ?z3 ?z4 ?z5
    (case n0 => k_is)
    (case l0 => k_is)
    (case c0 => k_is)
    (case k0 => k_is)
    (case n0_least => k_is)
    (case n0_greatest => k_is)
    (case n1 => k_is)
    (case l1 => k_is)
    (case c1 => k_is)
    (case k1 => k_is)
    (case n2 => k_is)
    (case l2 => k_is)
    (case c2 => k_is)
    (case k2 => k_is)
    (case n3 => k_is)
    (case l3 => k_is)
    (case c3 => k_is)
    (case k3 => k_is)
    (case n4 => k_is)
    (case l4 => k_is)
    (case c4 => k_is)
    (case k4 => k_is)
    (case z0 => k_is)
    (case z1 => k_is)
    (case z2 => k_is)
    (case z3 => k_is)
    (case z4 => k_is)
    (case z5 => k_is)
